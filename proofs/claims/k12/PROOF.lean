import PyProof.Rows.All
import Wide.All
import OpenK.AllK
import Wide.FinOn
import HandS.ForMost
import HandS.EndBits
import HandS.IsInst
import HandS.Wide
import HandS.SortInts
import HandS.Star
import HandS.Flow
import HandS.Zip
import HandS.TupAny
import HandS.Deep
import HandS.Style
import HandS.Conv
import KE.GoesMore
import KE.GoesEnum
import HandS.Walk
import KE.KTupSum
import HandS.TupSets
import HandS.TupMul
import HandS.Codes
import HandS.OwnEq
import HandS.DictTup
import KE.KDictList
import PyProof.Rows.SortShellAny
import HandS.GenYield
import HandS.GenList
import HandS.Defaults
import HandS.DictComp
import KE.KDictZip
import PyProof.EnumFor
import HandS.ExcValue
import PySem.Challenge.RW_strandloom_k12_whole_numbers
set_option Elab.async false
set_option linter.all false
set_option maxRecDepth 100000
set_option maxHeartbeats 4100000
/-! J: readings as functions on data. A value's data (D), what a name holds (Sl), the state (R), expressions, tests, statements as partial functions. -/
namespace J
open PySem L2
inductive D where
  | non | bl (b : Bool) | int (i : Int) | str (s : Str) | ty (n : String) | draw | tup (ds : List D) | lst (ds : List D) | obj (n : Str) (ks : List Str) (ds : List D)
  | dk (ks : List Key) (ds : List D) | dt (ks : List (List Key)) (ds : List D)
structure Wd where
  ns : List Int
  c : Int
/-- a dict of one's own: its keys, what they lead to -/
inductive OD where
  | k (ks : List Key) (ds : List D) | t (ks : List (List Key)) (ds : List D)
inductive Sl where
  | no | d (x : D) | own (xs : List D) | mu (k : Nat) (xs : List D) | oo (x : OD) | ll (ks : List Key) (xss : List (List D))
def Sl.ow : Sl → Bool
  | .own _ => true
  | .mu _ _ => true
  | .oo _ => true
  | .ll _ _ => true
  | _ => false
/-- the objects that a slot owns, by number: 0 what the name stands for, m + 1 the m-th list of a dict of lists -/
def Sl.has (s : Sl) (m : Nat) : Bool := match s with
  | .no => false
  | .d _ => false
  | .own _ => decide (m = 0)
  | .mu _ _ => decide (m = 0)
  | .oo _ => decide (m = 0)
  | .ll _ xss => decide (m ≤ xss.length)
structure Cfg where
  p : Addr
  M : List Addr
  F0 : Hp
  H0 : Hp
/-- a tuple: tracked, or one of the written part -/
def SqU (K : PySem.W.Frag) (F : Hp) (a : Addr) (vs : List V) : Prop := F a = some (.tup vs) ∨ SqT K (fun _ => none) a vs
/-- the class of that name -/
def clsA (K : PySem.W.Frag) (n : Str) : Addr := match PySem.W.nsIn K mainGlobals n with
  | some (some (.ref a)) => a
  | _ => 0
mutual
def Den (K : PySem.W.Frag) (p : Addr) (F : Hp) : D → V → Prop
  | .non, v => v = .non
  | .bl b, v => v = .bl b
  | .int i, v => v = .int i
  | .str s, v => v = .str s
  | .ty n, v => v = .ty n
  | .draw, v => v = .ref p
  | .tup ds, v => ∃ a vs, v = .ref a ∧ SqU K F a vs ∧ Dens K p F ds vs
  | .lst ds, v => ∃ a vs, v = .ref a ∧ F a = some (.lst vs) ∧ Dens K p F ds vs
  | .obj n ks ds, v => ∃ a dx vs, v = .ref a ∧ F a = some (.ins (clsA K n) dx (ks.zip vs)) ∧ Dens K p F ds vs
  | .dk ks ds, v => ∃ a o vs, v = .ref a ∧ ks.length = ds.length ∧ F a = some (.frz o (.dK (ks.zip vs))) ∧ Dens K p F ds vs
  | .dt ks ds, v => ∃ a o vs, v = .ref a ∧ ks.length = ds.length ∧ F a = some (.frz o (.dT (ks.zip vs))) ∧ Dens K p F ds vs
def Dens (K : PySem.W.Frag) (p : Addr) (F : Hp) : List D → List V → Prop
  | [], vs => vs = []
  | d :: ds, vs => ∃ v r, vs = v :: r ∧ Den K p F d v ∧ Dens K p F ds r
end
section
variable {K : PySem.W.Frag} {p : Addr} {F F' H H' : Hp}
theorem sqU_mono {a : Addr} {xs : List V} (e : Same F F') (h : SqU K F a xs) : SqU K F' a xs := by
  rcases h with h | h
  · exact .inl (e _ _ h)
  · exact .inr h
theorem SqU.t {a : Addr} {xs : List V} (h : SqU K F a xs) : SqT K F a xs := by
  rcases h with h | h | h
  · exact .inl (.inl h)
  · rcases h with h | ⟨o, h⟩ <;> cases h
  · exact .inr h
mutual
theorem Den.mono (e : Same F F') : ∀ (d : D) (v : V), Den K p F d v → Den K p F' d v
  | .non, v, h => by unfold Den at h ⊢; exact h
  | .bl b, v, h => by unfold Den at h ⊢; exact h
  | .int i, v, h => by unfold Den at h ⊢; exact h
  | .str s, v, h => by unfold Den at h ⊢; exact h
  | .ty n, v, h => by unfold Den at h ⊢; exact h
  | .draw, v, h => by unfold Den at h ⊢; exact h
  | .tup ds, v, h => by
    unfold Den at h ⊢
    obtain ⟨a, vs, q, s, r⟩ := h
    exact ⟨a, vs, q, sqU_mono e s, Dens.mono e ds vs r⟩
  | .lst ds, v, h => by
    unfold Den at h ⊢
    obtain ⟨a, vs, q, s, r⟩ := h
    exact ⟨a, vs, q, e _ _ s, Dens.mono e ds vs r⟩
  | .obj n ks ds, v, h => by
    unfold Den at h ⊢
    obtain ⟨a, dx, vs, q, s, r⟩ := h
    exact ⟨a, dx, vs, q, e _ _ s, Dens.mono e ds vs r⟩
  | .dk ks ds, v, h => by
    unfold Den at h ⊢
    obtain ⟨a, o, vs, q, l, s, r⟩ := h
    exact ⟨a, o, vs, q, l, e _ _ s, Dens.mono e ds vs r⟩
  | .dt ks ds, v, h => by
    unfold Den at h ⊢
    obtain ⟨a, o, vs, q, l, s, r⟩ := h
    exact ⟨a, o, vs, q, l, e _ _ s, Dens.mono e ds vs r⟩
theorem Dens.mono (e : Same F F') : ∀ (ds : List D) (vs : List V), Dens K p F ds vs → Dens K p F' ds vs
  | [], vs, h => by unfold Dens at h ⊢; exact h
  | d :: ds, vs, h => by
    unfold Dens at h ⊢
    obtain ⟨v, r, q, a, b⟩ := h
    exact ⟨v, r, q, Den.mono e d v a, Dens.mono e ds r b⟩
end
theorem dens_nil : Dens K p F [] [] := by unfold Dens; rfl
theorem dens_cons {d : D} {ds : List D} {v : V} {vs : List V} (h : Den K p F d v) (r : Dens K p F ds vs) : Dens K p F (d :: ds) (v :: vs) := by unfold Dens; exact ⟨v, vs, rfl, h, r⟩
theorem Dens.len : ∀ {ds : List D} {vs : List V}, Dens K p F ds vs → vs.length = ds.length
  | [], vs, h => by unfold Dens at h; rw [h]; rfl
  | d :: ds, vs, h => by
    unfold Dens at h
    obtain ⟨v, r, q, a, b⟩ := h
    rw [q, List.length_cons, List.length_cons, Dens.len b]
theorem Dens.get : ∀ {ds : List D} {vs : List V} {i : Nat} {d : D}, Dens K p F ds vs → ds[i]? = some d → ∃ v, vs[i]? = some v ∧ Den K p F d v
  | [], vs, i, d, h, e => by simp at e
  | d :: ds, vs, 0, d', h, e => by
    unfold Dens at h
    obtain ⟨v, r, q, a, b⟩ := h
    simp at e
    subst e
    exact ⟨v, by rw [q]; rfl, a⟩
  | d :: ds, vs, i + 1, d', h, e => by
    unfold Dens at h
    obtain ⟨v, r, q, a, b⟩ := h
    simp at e
    obtain ⟨u, h1, h2⟩ := Dens.get (i := i) b e
    exact ⟨u, by rw [q]; simpa using h1, h2⟩
theorem Dens.get' : ∀ {ds : List D} {vs : List V} {i : Nat} {v : V}, Dens K p F ds vs → vs[i]? = some v → ∃ d, ds[i]? = some d ∧ Den K p F d v
  | [], vs, i, v, h, e => by
    unfold Dens at h
    rw [h] at e
    simp at e
  | d :: ds, vs, 0, v', h, e => by
    unfold Dens at h
    obtain ⟨v, r, q, a, b⟩ := h
    rw [q] at e
    simp at e
    subst e
    exact ⟨d, rfl, a⟩
  | d :: ds, vs, i + 1, v', h, e => by
    unfold Dens at h
    obtain ⟨v, r, q, a, b⟩ := h
    rw [q] at e
    simp at e
    obtain ⟨u, h1, h2⟩ := Dens.get' (i := i) b e
    exact ⟨u, by simpa using h1, h2⟩
theorem Dens.append : ∀ {ds es : List D} {vs us : List V}, Dens K p F ds vs → Dens K p F es us → Dens K p F (ds ++ es) (vs ++ us)
  | [], es, vs, us, h, g => by unfold Dens at h; subst h; exact g
  | d :: ds, es, vs, us, h, g => by
    unfold Dens at h
    obtain ⟨v, r, q, a, b⟩ := h
    subst q
    exact dens_cons a (Dens.append b g)
theorem Dens.set : ∀ {ds : List D} {vs : List V} {d : D} {v : V} (i : Nat), Dens K p F ds vs → Den K p F d v → Dens K p F (ds.set i d) (vs.set i v)
  | [], vs, d, v, i, h, g => by unfold Dens at h; subst h; exact dens_nil
  | e :: ds, vs, d, v, 0, h, g => by
    unfold Dens at h
    obtain ⟨u, r, q, a, b⟩ := h
    subst q
    exact dens_cons g b
  | e :: ds, vs, d, v, i + 1, h, g => by
    unfold Dens at h
    obtain ⟨u, r, q, a, b⟩ := h
    subst q
    exact dens_cons a (Dens.set i b g)
theorem Dens.take : ∀ {ds : List D} {vs : List V} (n : Nat), Dens K p F ds vs → Dens K p F (ds.take n) (vs.take n)
  | [], vs, n, h => by unfold Dens at h; subst h; rw [List.take_nil, List.take_nil]; exact dens_nil
  | d :: ds, vs, 0, h => by rw [List.take_zero, List.take_zero]; exact dens_nil
  | d :: ds, vs, n + 1, h => by
    unfold Dens at h
    obtain ⟨v, r, q, a, b⟩ := h
    subst q
    exact dens_cons a (Dens.take n b)
theorem Dens.drop : ∀ {ds : List D} {vs : List V} (n : Nat), Dens K p F ds vs → Dens K p F (ds.drop n) (vs.drop n)
  | [], vs, n, h => by unfold Dens at h; subst h; rw [List.drop_nil, List.drop_nil]; exact dens_nil
  | d :: ds, vs, 0, h => h
  | d :: ds, vs, n + 1, h => by
    unfold Dens at h
    obtain ⟨v, r, q, a, b⟩ := h
    subst q
    exact Dens.drop n b
theorem Dens.rev : ∀ {ds : List D} {vs : List V}, Dens K p F ds vs → Dens K p F ds.reverse vs.reverse
  | [], vs, h => by unfold Dens at h; subst h; exact dens_nil
  | d :: ds, vs, h => by
    unfold Dens at h
    obtain ⟨v, r, q, a, b⟩ := h
    subst q
    rw [List.reverse_cons, List.reverse_cons]
    exact Dens.append (Dens.rev b) (dens_cons a dens_nil)
theorem Dens.ints : ∀ (ns : List Int), Dens K p F (ns.map D.int) (ns.map V.int)
  | [] => dens_nil
  | n :: ns => dens_cons (by unfold Den; rfl) (Dens.ints ns)
theorem Dens.ints' : ∀ {ns : List Int} {vs : List V}, Dens K p F (ns.map D.int) vs → vs = ns.map V.int
  | [], vs, h => by unfold Dens at h; exact h
  | n :: ns, vs, h => by
    obtain ⟨v, r, q, a, b⟩ := (show ∃ v r, vs = v :: r ∧ Den K p F (.int n) v ∧ Dens K p F (ns.map D.int) r by
      have h' := h
      rw [List.map_cons] at h'
      unfold Dens at h'
      exact h')
    unfold Den at a
    rw [q, a, Dens.ints' b]
    rfl
theorem Dens.bls : ∀ (ns : List Bool), Dens K p F (ns.map D.bl) (ns.map V.bl)
  | [] => dens_nil
  | n :: ns => dens_cons (by unfold Den; rfl) (Dens.bls ns)
theorem Dens.bls' : ∀ {ns : List Bool} {vs : List V}, Dens K p F (ns.map D.bl) vs → vs = ns.map V.bl
  | [], vs, h => by unfold Dens at h; exact h
  | n :: ns, vs, h => by
    obtain ⟨v, r, q, a, b⟩ := (show ∃ v r, vs = v :: r ∧ Den K p F (.bl n) v ∧ Dens K p F (ns.map D.bl) r by
      have h' := h
      rw [List.map_cons] at h'
      unfold Dens at h'
      exact h')
    unfold Den at a
    rw [q, a, Dens.bls' b]
    rfl
end
/-- the drawn list stands at p -/
def Dr (p : Addr) (F H : Hp) (w : Wd) : Prop := ∃ a, H p = some (.lst [.ref a, .int 0, .int w.c]) ∧ F a = some (.lst (w.ns.map V.int))
/-- a list of one's own: not known to others -/
def OwnL (K : PySem.W.Frag) (p : Addr) (F H : Hp) (a : Addr) (xs : List D) : Prop := ∃ vs, H a = some (.lst vs) ∧ F a = none ∧ a ≠ p ∧ Dens K p F xs vs
/-- a dict of one's own -/
def OwnO (K : PySem.W.Frag) (p : Addr) (F H : Hp) (a : Addr) : OD → Prop
  | .k ks ds => ks.length = ds.length ∧ ∃ vs, H a = some (.dK (ks.zip vs)) ∧ F a = none ∧ a ≠ p ∧ Dens K p F ds vs
  | .t ks ds => ks.length = ds.length ∧ ∃ vs, H a = some (.dT (ks.zip vs)) ∧ F a = none ∧ a ≠ p ∧ Dens K p F ds vs
theorem OwnO.at {K : PySem.W.Frag} {p : Addr} {F H : Hp} {a : Addr} {x : OD} (h : OwnO K p F H a x) : ∃ o, H a = some o ∧ F a = none ∧ a ≠ p := by
  cases x with
  | k ks ds =>
    obtain ⟨_, vs, h1, h2, h3, _⟩ := h
    exact ⟨_, h1, h2, h3⟩
  | t ks ds =>
    obtain ⟨_, vs, h1, h2, h3, _⟩ := h
    exact ⟨_, h1, h2, h3⟩
theorem OwnO.same {K : PySem.W.Frag} {p : Addr} {F H F' H' : Hp} {a : Addr} {x : OD} (h : OwnO K p F H a x) (hh : H' a = H a) (hf : F' a = none) (e : Same F F') : OwnO K p F' H' a x := by
  cases x with
  | k ks ds =>
    obtain ⟨l, vs, h1, h2, h3, h4⟩ := h
    exact ⟨l, vs, by rw [hh]; exact h1, hf, h3, h4.mono e⟩
  | t ks ds =>
    obtain ⟨l, vs, h1, h2, h3, h4⟩ := h
    exact ⟨l, vs, by rw [hh]; exact h1, hf, h3, h4.mono e⟩
def SlR (K : PySem.W.Frag) (Z : Cfg) (F H : Hp) (a : Nat → Addr) (σ : St) (i : Nat) : Sl → Prop
  | .no => True
  | .d x => ∃ u, σ[i]? = some (some u) ∧ Den K Z.p F x u
  | .own xs => σ[i]? = some (some (.ref (a 0))) ∧ OwnL K Z.p F H (a 0) xs ∧ Z.H0 (a 0) = none
  | .mu k xs => σ[i]? = some (some (.ref (a 0))) ∧ OwnL K Z.p F H (a 0) xs ∧ Z.M[k]? = some (a 0)
  | .oo x => σ[i]? = some (some (.ref (a 0))) ∧ OwnO K Z.p F H (a 0) x ∧ Z.H0 (a 0) = none
  | .ll ks xss => σ[i]? = some (some (.ref (a 0))) ∧ (ks.length = xss.length ∧ H (a 0) = some (.dK (ks.zip ((List.range xss.length).map fun m => V.ref (a (m + 1))))) ∧ F (a 0) = none ∧ a 0 ≠ Z.p ∧ Z.H0 (a 0) = none) ∧ ∀ m xs, xss[m]? = some xs → OwnL K Z.p F H (a (m + 1)) xs ∧ Z.H0 (a (m + 1)) = none
def isOwn (ds : List Sl) (p : Nat × Nat) : Prop := ∃ s, ds[p.1]? = some s ∧ s.has p.2 = true
structure R (K : PySem.W.Frag) (Z : Cfg) (F H : Hp) (σ : St) (ds : List Sl) (w : Wd) : Prop where
  ex : Same F H
  fp : F Z.p = none
  dr : Dr Z.p F H w
  pm : Z.p ∉ Z.M
  hm : ∀ b ∈ Z.M, (∃ o, H b = some o) ∧ F b = none
  m0 : ∀ b ∈ Z.M, ∃ o, Z.H0 b = some o
  keep : ∀ b o, b ≠ Z.p → b ∉ Z.M → Z.H0 b = some o → H b = some o
  nw : ∀ b o, F b = some o → Z.F0 b = some o ∨ Z.H0 b = none
  f0 : Same Z.F0 F
  len : σ.length = ds.length
  env : ∃ α : Nat × Nat → Addr, (∀ p q, isOwn ds p → isOwn ds q → α p = α q → p = q) ∧ ∀ i s, ds[i]? = some s → SlR K Z F H (fun m => α (i, m)) σ i s
structure Stp (p : Addr) (F H F' H' : Hp) : Prop where
  f : Same F F'
  h : ∀ b o, b ≠ p → H b = some o → H' b = some o
  e : Same F' H'
  n : ∀ b o, F' b = some o → F b = some o ∨ H b = none
  fp : F' p = none
section
variable {K : PySem.W.Frag} {Z : Cfg} {p a : Addr} {F H F' H' F2 H2 : Hp} {σ : St} {ds : List Sl} {w w' : Wd} {xs : List D} {d : D} {v : V}
theorem Stp.refl (h : Same F H) (hp : F p = none) : Stp p F H F H := ⟨Same.refl _, fun _ _ _ e => e, h, fun _ _ e => .inl e, hp⟩
theorem Stp.trans (x : Stp p F H F' H') (y : Stp p F' H' F2 H2) : Stp p F H F2 H2 := by
  refine ⟨x.f.trans y.f, fun b o n e => y.h b o n (x.h b o n e), y.e, fun b o e => ?_, y.fp⟩
  have hb : b ≠ p := by
    rintro rfl
    rw [y.fp] at e
    cases e
  rcases y.n b o e with q | q
  · exact x.n b o q
  · right
    cases k : H b with
    | none => rfl
    | some u =>
      rw [x.h b u hb k] at q
      cases q
theorem OwnL.step (x : OwnL K p F H a xs) (y : Stp p F H F' H') : OwnL K p F' H' a xs := by
  obtain ⟨vs, h1, h2, h3, h4⟩ := x
  refine ⟨vs, y.h a _ h3 h1, ?_, h3, h4.mono y.f⟩
  cases k : F' a with
  | none => rfl
  | some o =>
    rcases y.n a o k with q | q
    · rw [h2] at q
      cases q
    · rw [h1] at q
      cases q
theorem OwnO.step {x : OD} (h : OwnO K p F H a x) (y : Stp p F H F' H') : OwnO K p F' H' a x := by
  obtain ⟨o, h1, h2, h3⟩ := h.at
  refine h.same ((y.h a _ h3 h1).trans h1.symm) ?_ y.f
  cases k : F' a with
  | none => rfl
  | some o2 =>
    rcases y.n a o2 k with q | q
    · rw [h2] at q
      cases q
    · rw [h1] at q
      cases q
theorem none_step {b : Addr} {o : HO} (y : Stp p F H F' H') (h : H b = some o) (hf : F b = none) : F' b = none := by
  cases k : F' b with
  | none => rfl
  | some u =>
    rcases y.n b u k with q | q
    · rw [hf] at q
      cases q
    · rw [h] at q
      cases q
theorem SlR.ll_step {a : Nat → Addr} {i : Nat} {ks : List Key} {xss : List (List D)} (h : SlR K Z F H a σ i (.ll ks xss)) (y : Stp Z.p F H F' H') : SlR K Z F' H' a σ i (.ll ks xss) := by
  obtain ⟨h1, ⟨h2, h3, h4, h5, h6⟩, h7⟩ := h
  exact ⟨h1, ⟨h2, y.h _ _ h5 h3, none_step y h3 h4, h5, h6⟩, fun m xs hm => ⟨(h7 m xs hm).1.step y, (h7 m xs hm).2⟩⟩
/-- the same where nothing of it is touched -/
theorem SlR.ll_same {a a' : Nat → Addr} {i i' : Nat} {σ' : St} {ks : List Key} {xss : List (List D)} (h : SlR K Z F H a σ i (.ll ks xss)) (hσ : σ'[i']? = σ[i]?) (ha : ∀ m, a' m = a m) (hH : ∀ m, m ≤ xss.length → H' (a m) = H (a m)) (hF : ∀ m, m ≤ xss.length → F (a m) = none → F' (a m) = none) (e : Same F F') : SlR K Z F' H' a' σ' i' (.ll ks xss) := by
  obtain rfl : a' = a := funext ha
  obtain ⟨h1, ⟨h2, h3, h4, h5, h6⟩, h7⟩ := h
  refine ⟨hσ.trans h1, ⟨h2, (hH 0 (Nat.zero_le _)).trans h3, hF 0 (Nat.zero_le _) h4, h5, h6⟩, fun m xs hm => ?_⟩
  have hm' := (List.getElem?_eq_some_iff.mp hm).1
  obtain ⟨⟨vs, q1, q2, q3, q4⟩, q5⟩ := h7 m xs hm
  exact ⟨⟨vs, (hH (m + 1) (by omega)).trans q1, hF (m + 1) (by omega) q2, q3, q4.mono e⟩, q5⟩
theorem SlR.live {a : Nat → Addr} {i m : Nat} {s : Sl} (h : SlR K Z F H a σ i s) (hm : s.has m = true) : ∃ o, H (a m) = some o ∧ F (a m) = none ∧ a m ≠ Z.p := by
  cases s with
  | no => cases hm
  | d x => cases hm
  | own xs =>
    obtain rfl : m = 0 := of_decide_eq_true hm
    obtain ⟨_, ⟨vs, q1, q2, q3, _⟩, _⟩ := h
    exact ⟨_, q1, q2, q3⟩
  | mu k xs =>
    obtain rfl : m = 0 := of_decide_eq_true hm
    obtain ⟨_, ⟨vs, q1, q2, q3, _⟩, _⟩ := h
    exact ⟨_, q1, q2, q3⟩
  | oo x =>
    obtain rfl : m = 0 := of_decide_eq_true hm
    exact h.2.1.at
  | ll ks xss =>
    have hm' : m ≤ xss.length := of_decide_eq_true hm
    obtain ⟨h1, ⟨h2, h3, h4, h5, h6⟩, h7⟩ := h
    cases m with
    | zero => exact ⟨_, h3, h4, h5⟩
    | succ m =>
      have hl : m < xss.length := hm'
      obtain ⟨⟨vs, q1, q2, q3, _⟩, _⟩ := h7 m _ (List.getElem?_eq_getElem hl)
      exact ⟨_, q1, q2, q3⟩
theorem has0 {s : Sl} (h : s.ow = true) : s.has 0 = true := by
  cases s with
  | no => cases h
  | d x => cases h
  | own _ => exact decide_eq_true (rfl : (0 : Nat) = 0)
  | mu _ _ => exact decide_eq_true (rfl : (0 : Nat) = 0)
  | oo _ => exact decide_eq_true (rfl : (0 : Nat) = 0)
  | ll ks xss => exact decide_eq_true (Nat.zero_le xss.length)
theorem has_ow {s : Sl} {m : Nat} (h : s.has m = true) : s.ow = true := by
  cases s <;> first | cases h | rfl
theorem R.step (r : R K Z F H σ ds w) (y : Stp Z.p F H F' H') (dr : Dr Z.p F' H' w') : R K Z F' H' σ ds w' := by
  refine ⟨y.e, y.fp, dr, r.pm, fun b hb => ?_, r.m0, fun b o n m e => y.h b o n (r.keep b o n m e), fun b o e => ?_, r.f0.trans y.f, r.len, ?_⟩
  · obtain ⟨⟨o, ho⟩, hf⟩ := r.hm b hb
    have hbp : b ≠ Z.p := by
      rintro rfl
      exact r.pm hb
    refine ⟨⟨o, y.h b o hbp ho⟩, ?_⟩
    cases k : F' b with
    | none => rfl
    | some u =>
      rcases y.n b u k with q | q
      · rw [hf] at q
        cases q
      · rw [ho] at q
        cases q
  · rcases y.n b o e with q | q
    · exact r.nw b o q
    · right
      have hbp : b ≠ Z.p := by
        rintro rfl
        rw [y.fp] at e
        cases e
      cases k : Z.H0 b with
      | none => rfl
      | some u =>
        by_cases hm : b ∈ Z.M
        · obtain ⟨⟨o', ho'⟩, _⟩ := r.hm b hm
          rw [q] at ho'
          cases ho'
        · rw [r.keep b u hbp hm k] at q
          cases q
  · obtain ⟨α, inj, hs⟩ := r.env
    refine ⟨α, inj, fun i s e => ?_⟩
    have h := hs i s e
    cases s with
    | no => trivial
    | d x =>
      obtain ⟨u, h1, h2⟩ := h
      exact ⟨u, h1, Den.mono y.f x u h2⟩
    | own xs =>
      obtain ⟨h1, h2, h3⟩ := h
      exact ⟨h1, h2.step y, h3⟩
    | mu k xs =>
      obtain ⟨h1, h2, h3⟩ := h
      exact ⟨h1, h2.step y, h3⟩
    | oo x =>
      obtain ⟨h1, h2, h3⟩ := h
      exact ⟨h1, h2.step y, h3⟩
    | ll ks xss => exact SlR.ll_step h y
theorem R.stp (r : R K Z F H σ ds w) : Stp Z.p F H F H := Stp.refl r.ex r.fp
theorem R.np (r : R K Z F H σ ds w) {q : Addr} (h : H q = none) : q ≠ Z.p := by
  rintro rfl
  obtain ⟨a, h1, _⟩ := r.dr
  rw [h] at h1
  cases h1
/-- a new object, known to all -/
theorem R.new (r : R K Z F H σ ds w) {q : Addr} {o : HO} (h : H q = none) : Stp Z.p F H (upd F q o) (upd H q o) ∧ Dr Z.p (upd F q o) (upd H q o) w := by
  have hp := r.np h
  have hf : F q = none := r.ex.free h
  have s1 : Same F (upd F q o) := fun b u e => by rw [upd_ne (ne_of_none e hf)]; exact e
  refine ⟨⟨s1, fun b u _ e => by rw [upd_ne (ne_of_none e h)]; exact e, fun b u e => ?_, fun b u e => ?_, by rw [upd_ne (Ne.symm hp)]; exact r.fp⟩, ?_⟩
  · by_cases hb : b = q
    · subst hb
      rw [upd_same] at e ⊢
      exact e
    · rw [upd_ne hb] at e ⊢
      exact r.ex b u e
  · by_cases hb : b = q
    · subst hb
      exact .inr h
    · rw [upd_ne hb] at e
      exact .inl e
  · obtain ⟨a, h1, h2⟩ := r.dr
    exact ⟨a, by rw [upd_ne (Ne.symm hp)]; exact h1, s1 _ _ h2⟩
/-- a new object, one's own -/
theorem R.newO (r : R K Z F H σ ds w) {q : Addr} {o : HO} (h : H q = none) : Stp Z.p F H F (upd H q o) ∧ Dr Z.p F (upd H q o) w := by
  have hp := r.np h
  refine ⟨⟨Same.refl _, fun b u _ e => by rw [upd_ne (ne_of_none e h)]; exact e, fun b u e => ?_, fun b u e => .inl e, r.fp⟩, ?_⟩
  · rw [upd_ne (ne_of_none (r.ex b u e) h)]
    exact r.ex b u e
  · obtain ⟨a, h1, h2⟩ := r.dr
    exact ⟨a, by rw [upd_ne (Ne.symm hp)]; exact h1, h2⟩
/-- what is one's own is told to all -/
theorem Stp.tell (y : Stp p F H F' H') {q : Addr} {o : HO} (h : H' q = some o) (hq : H q = none) (hp : q ≠ p) : Stp p F H (upd F' q o) H' := by
  refine ⟨fun b u e => ?_, y.h, fun b u e => ?_, fun b u e => ?_, by rw [upd_ne (Ne.symm hp)]; exact y.fp⟩
  · by_cases hb : b = q
    · subst hb
      rw [upd_same]
      have := y.e _ _ (y.f _ _ e)
      rw [h] at this
      exact this
    · rw [upd_ne hb]
      exact y.f _ _ e
  · by_cases hb : b = q
    · subst hb
      rw [upd_same] at e
      rw [← e]
      exact h
    · rw [upd_ne hb] at e
      exact y.e b u e
  · by_cases hb : b = q
    · subst hb
      exact .inr hq
    · rw [upd_ne hb] at e
      exact y.n b u e
theorem Dr.tell {q : Addr} {o : HO} (x : Dr p F' H' w) (f : F' q = none) : Dr p (upd F' q o) H' w := by
  obtain ⟨a, h1, h2⟩ := x
  exact ⟨a, h1, by rw [upd_ne (ne_of_none h2 f)]; exact h2⟩
theorem same_tell {q : Addr} {o : HO} (f : F' q = none) : Same F' (upd F' q o) := fun b u e => by rw [upd_ne (ne_of_none e f)]; exact e
/-- a value that is read, not kept: also a list or a dict of one's own -/
def OD.toD : OD → D
  | .k ks ds => .dk ks ds
  | .t ks ds => .dt ks ds
def DenB (K : PySem.W.Frag) (p : Addr) (F H : Hp) (d : D) (v : V) : Prop := Den K p F d v ∨ (∃ a xs, d = .lst xs ∧ v = .ref a ∧ OwnL K p F H a xs) ∨ ∃ a x, d = OD.toD x ∧ v = .ref a ∧ OwnO K p F H a x
theorem DenB.step (x : DenB K p F H d v) (y : Stp p F H F' H') : DenB K p F' H' d v := by
  rcases x with x | ⟨a, xs, e1, e2, o⟩ | ⟨a, x, e1, e2, o⟩
  · exact .inl (x.mono y.f)
  · exact .inr (.inl ⟨a, xs, e1, e2, o.step y⟩)
  · exact .inr (.inr ⟨a, x, e1, e2, o.step y⟩)
theorem DenB.lst (x : DenB K p F H (.lst xs) v) (e : Same F H) : ∃ a vs, v = .ref a ∧ H a = some (.lst vs) ∧ Dens K p F xs vs := by
  rcases x with x | ⟨a, ys, e1, e2, o⟩ | ⟨a, y, e1, e2, o⟩
  · unfold Den at x
    obtain ⟨a, vs, h1, h2, h3⟩ := x
    exact ⟨a, vs, h1, e _ _ h2, h3⟩
  · cases e1
    obtain ⟨vs, h1, h2, h3, h4⟩ := o
    exact ⟨a, vs, e2, h1, h4⟩
  · cases y <;> cases e1
theorem DenB.tup (x : DenB K p F H (.tup xs) v) : ∃ a vs, v = .ref a ∧ SqU K F a vs ∧ Dens K p F xs vs := by
  rcases x with x | ⟨a, ys, e1, e2, o⟩ | ⟨a, y, e1, e2, o⟩
  · unfold Den at x
    exact x
  · cases e1
  · cases y <;> cases e1
theorem DenB.int {i : Int} (x : DenB K p F H (.int i) v) : v = .int i := by
  rcases x with x | ⟨a, ys, e1, e2, o⟩ | ⟨a, y, e1, e2, o⟩
  · unfold Den at x
    exact x
  · cases e1
  · cases y <;> cases e1
theorem DenB.str {i : Str} (x : DenB K p F H (.str i) v) : v = .str i := by
  rcases x with x | ⟨a, ys, e1, e2, o⟩ | ⟨a, y, e1, e2, o⟩
  · unfold Den at x
    exact x
  · cases e1
  · cases y <;> cases e1
theorem DenB.bl {i : Bool} (x : DenB K p F H (.bl i) v) : v = .bl i := by
  rcases x with x | ⟨a, ys, e1, e2, o⟩ | ⟨a, y, e1, e2, o⟩
  · unfold Den at x
    exact x
  · cases e1
  · cases y <;> cases e1
theorem DenB.non (x : DenB K p F H .non v) : v = .non := by
  rcases x with x | ⟨a, ys, e1, e2, o⟩ | ⟨a, y, e1, e2, o⟩
  · unfold Den at x
    exact x
  · cases e1
  · cases y <;> cases e1
theorem den_int {i : Int} : Den K p F (.int i) (.int i) := by unfold Den; rfl
theorem den_str {i : Str} : Den K p F (.str i) (.str i) := by unfold Den; rfl
theorem den_bl {i : Bool} : Den K p F (.bl i) (.bl i) := by unfold Den; rfl
theorem den_non : Den K p F .non .non := by unfold Den; rfl
theorem den_lst {vs : List V} (h : F a = some (.lst vs)) (r : Dens K p F xs vs) : Den K p F (.lst xs) (.ref a) := by unfold Den; exact ⟨a, vs, rfl, h, r⟩
theorem den_tup {vs : List V} (h : SqU K F a vs) (r : Dens K p F xs vs) : Den K p F (.tup xs) (.ref a) := by unfold Den; exact ⟨a, vs, rfl, h, r⟩
end
/-! ### what expressions are -/
abbrev Ev := List Sl → Wd → Option (D × Wd)
abbrev Ef := List Sl → Wd → Option (List D × Wd)
abbrev Et := List Sl → Wd → Option (Bool × Wd)
/-- what follows, if a value with the data d comes -/
def KD (K : PySem.W.Frag) (p : Addr) (F H : Hp) (w' : Wd) (d : D) (Q : VK) : Prop := ∀ v F' H', Stp p F H F' H' → Dr p F' H' w' → Den K p F' d v → Q v H'
def KB (K : PySem.W.Frag) (p : Addr) (F H : Hp) (w' : Wd) (d : D) (Q : VK) : Prop := ∀ v F' H', Stp p F H F' H' → Dr p F' H' w' → DenB K p F' H' d v → Q v H'
/-- .. a new list, one's own -/
def KF (K : PySem.W.Frag) (p : Addr) (F H : Hp) (w' : Wd) (xs : List D) (Q : VK) : Prop := ∀ q vs F' H', Stp p F H F' H' → Dr p F' H' w' → H' q = some (.lst vs) → H q = none → F' q = none → q ≠ p → Dens K p F' xs vs → Q (.ref q) H'
def KT (p : Addr) (F H : Hp) (w' : Wd) (b : Bool) (Q : Bool → Hp → Prop) : Prop := ∀ F' H', Stp p F H F' H' → Dr p F' H' w' → Q b H'
def KA (K : PySem.W.Frag) (p : Addr) (F H : Hp) (w' : Wd) (xs : List D) (Q : List V → Hp → Prop) : Prop := ∀ vs F' H', Stp p F H F' H' → Dr p F' H' w' → Dens K p F' xs vs → Q vs H'
def canE (K : PySem.W.Frag) (f : Ev) : TE := fun σ H Q => ∃ Z F ds w d w', R K Z F H σ ds w ∧ f ds w = some (d, w') ∧ KD K Z.p F H w' d Q
def canB (K : PySem.W.Frag) (f : Ev) : TE := fun σ H Q => ∃ Z F ds w d w', R K Z F H σ ds w ∧ f ds w = some (d, w') ∧ KB K Z.p F H w' d Q
def canF (K : PySem.W.Frag) (f : Ef) : TE := fun σ H Q => ∃ Z F ds w d w', R K Z F H σ ds w ∧ f ds w = some (d, w') ∧ KF K Z.p F H w' d Q
def canT (K : PySem.W.Frag) (f : Et) : TT := fun σ H Q => ∃ Z F ds w d w', R K Z F H σ ds w ∧ f ds w = some (d, w') ∧ KT Z.p F H w' d Q
def canA (K : PySem.W.Frag) (f : Ef) : TA := fun σ H Q => ∃ Z F ds w d w', R K Z F H σ ds w ∧ f ds w = some (d, w') ∧ KA K Z.p F H w' d Q
structure JE (X : Cx) (e : Expr) (f : Ev) : Prop where run : PE X e (canE X.K f)
structure JB (X : Cx) (e : Expr) (f : Ev) : Prop where run : PE X e (canB X.K f)
structure JF (X : Cx) (e : Expr) (f : Ef) : Prop where run : PE X e (canF X.K f)
structure JT (X : Cx) (e : Expr) (f : Et) : Prop where run : PT X e (canT X.K f)
structure JW (X : Cx) (e : Expr) (f : Et) : Prop where run : PW X e (canT X.K f)
structure JA (X : Cx) (es : List Expr) (f : Ef) : Prop where run : PA X es (canA X.K f)
theorem pe_weak {X : Cx} {e : Expr} {t t' : TE} (h : PE X e t) (s : ∀ σ H Q, t' σ H Q → t σ H Q) : PE X e t' := ⟨fun pins s' σ H Q I q => h.run pins s' σ H Q I (s σ H Q q)⟩
theorem pt_weak {X : Cx} {e : Expr} {t t' : TT} (h : PT X e t) (s : ∀ σ H Q, t' σ H Q → t σ H Q) : PT X e t' := ⟨fun pins s' σ H Q I q => h.run pins s' σ H Q I (s σ H Q q)⟩
theorem pw_weak {X : Cx} {e : Expr} {t t' : TT} (h : PW X e t) (s : ∀ σ H Q, t' σ H Q → t σ H Q) : PW X e t' := ⟨fun wh pins s' σ H Q I q => h.run wh pins s' σ H Q I (s σ H Q q)⟩
theorem pa_weak {X : Cx} {e : List Expr} {t t' : TA} (h : PA X e t) (s : ∀ σ H Q, t' σ H Q → t σ H Q) : PA X e t' := ⟨fun pos pins s' σ H Q I q => h.run pos pins s' σ H Q I (s σ H Q q)⟩
section
variable {K : PySem.W.Frag} {p : Addr} {F H F' H' : Hp} {w w' : Wd} {d : D} {xs : List D} {Q : VK}
theorem KD.go (k : KD K p F H w' d Q) (s : Stp p F H F' H') : KD K p F' H' w' d Q := fun v F2 H2 s2 => k v F2 H2 (s.trans s2)
theorem KB.go (k : KB K p F H w' d Q) (s : Stp p F H F' H') : KB K p F' H' w' d Q := fun v F2 H2 s2 => k v F2 H2 (s.trans s2)
theorem KT.go {b : Bool} {Q : Bool → Hp → Prop} (k : KT p F H w' b Q) (s : Stp p F H F' H') : KT p F' H' w' b Q := fun F2 H2 s2 => k F2 H2 (s.trans s2)
theorem KA.go {Q : List V → Hp → Prop} (k : KA K p F H w' xs Q) (s : Stp p F H F' H') : KA K p F' H' w' xs Q := fun v F2 H2 s2 => k v F2 H2 (s.trans s2)
theorem KF.go (k : KF K p F H w' xs Q) (s : Stp p F H F' H') (np : H p ≠ none) : KF K p F' H' w' xs Q := fun q vs F2 H2 s2 dr h1 h2 h3 h4 h5 => by
  refine k q vs F2 H2 (s.trans s2) dr h1 ?_ h3 h4 h5
  cases e : H q with
  | none => rfl
  | some o =>
    rw [s.h q o h4 e] at h2
    cases h2
theorem KB.toD (k : KB K p F H w' d Q) : KD K p F H w' d Q := fun v F2 H2 s dr h => k v F2 H2 s dr (.inl h)
/-- a new list that is told to all -/
theorem KD.toF (k : KD K p F H w' (.lst xs) Q) : KF K p F H w' xs Q := fun q vs F2 H2 s dr h1 h2 h3 h4 h5 =>
  k (.ref q) (upd F2 q (.lst vs)) H2 (s.tell h1 h2 h4) (dr.tell h3) (den_lst upd_same (h5.mono (same_tell h3)))
end
section
variable {X : Cx} {e : Expr} {f : Ev}
theorem JE.toB (h : JE X e f) : JB X e f := ⟨pe_weak h.run fun σ H Q ⟨Z, F, ds, w, d, w', r, hf, k⟩ => ⟨Z, F, ds, w, d, w', r, hf, k.toD⟩⟩
def eL (f : Ef) : Ev := fun ds w => (f ds w).bind fun r => some (.lst r.1, r.2)
theorem JF.toE {f : Ef} (h : JF X e f) : JE X e (eL f) := ⟨pe_weak h.run fun σ H Q ⟨Z, F, ds, w, d, w', r, hf, k⟩ => by
  unfold eL at hf
  cases q : f ds w with
  | none =>
    rw [q] at hf
    cases hf
  | some y =>
    rw [q] at hf
    cases hf
    exact ⟨Z, F, ds, w, _, _, r, q, k.toF⟩⟩
theorem JF.toB {f : Ef} (h : JF X e f) : JB X e (eL f) := h.toE.toB
end
end J
namespace J
open PySem L2
section
variable {X : Cx} {K : PySem.W.Frag}
theorem bind2 {α β : Type} {x : Option α} {f : α → Option β} {r : β} (h : x.bind f = some r) : ∃ a, x = some a ∧ f a = some r := by
  cases x with
  | none => cases h
  | some a => exact ⟨a, rfl, h⟩
/-! ### names, constants -/
def eVar (i : Nat) : Ev := fun ds w => match ds[i]? with | some (.d x) => some (x, w) | _ => none
def eBor (i : Nat) : Ev := fun ds w => match ds[i]? with | some (.d x) => some (x, w) | some (.own xs) => some (.lst xs, w) | some (.mu _ xs) => some (.lst xs, w) | some (.oo x) => some (x.toD, w) | _ => none
def eC (d : D) : Ev := fun _ w => some (d, w)
theorem je_var (i : Nat) {x : Str} {pos : Pos} (hN : X.N[i]? = some x := by rfl) (hv : Vis X.env.scope x := by first | exact Or.inl rfl | exact Or.inr (Or.inl rfl) | exact Or.inr (Or.inr rfl)) (hd : (x == ("__debug__" : Str)) = false := by decide)
    (hcd : (x == ("__classdict__" : Str)) = false := by decide) : JE X (.Name x pos) (eVar i) := ⟨pe_weak (pe_var hN hv hd hcd) fun σ H Q ⟨Z, F, ds, w, d, w', r, hf, k⟩ => by
  unfold eVar at hf
  split at hf
  · rename_i x' e
    cases hf
    obtain ⟨α, _, hs⟩ := r.env
    obtain ⟨u, h1, h2⟩ := hs i _ e
    exact ⟨u, h1, k u F H r.stp r.dr h2⟩
  · cases hf⟩
theorem jb_var (i : Nat) {x : Str} {pos : Pos} (hN : X.N[i]? = some x := by rfl) (hv : Vis X.env.scope x := by first | exact Or.inl rfl | exact Or.inr (Or.inl rfl) | exact Or.inr (Or.inr rfl)) (hd : (x == ("__debug__" : Str)) = false := by decide)
    (hcd : (x == ("__classdict__" : Str)) = false := by decide) : JB X (.Name x pos) (eBor i) := ⟨pe_weak (pe_var hN hv hd hcd) fun σ H Q ⟨Z, F, ds, w, d, w', r, hf, k⟩ => by
  obtain ⟨α, _, hs⟩ := r.env
  unfold eBor at hf
  split at hf
  · rename_i x' e
    cases hf
    obtain ⟨u, h1, h2⟩ := hs i _ e
    exact ⟨u, h1, k u F H r.stp r.dr (.inl h2)⟩
  · rename_i xs e
    cases hf
    obtain ⟨h1, h2, _⟩ := hs i _ e
    exact ⟨_, h1, k _ F H r.stp r.dr (.inr (.inl ⟨_, _, rfl, rfl, h2⟩))⟩
  · rename_i xs e
    cases hf
    obtain ⟨h1, h2, _⟩ := hs i _ e
    exact ⟨_, h1, k _ F H r.stp r.dr (.inr (.inl ⟨_, _, rfl, rfl, h2⟩))⟩
  · rename_i x' e
    cases hf
    obtain ⟨h1, h2, _⟩ := hs i _ e
    exact ⟨_, h1, k _ F H r.stp r.dr (.inr (.inr ⟨_, _, rfl, rfl, h2⟩))⟩
  · cases hf⟩
theorem je_C {e : Expr} {v : V} {d : D} (h : PE X e (tC v)) (hd : ∀ p F, Den X.K p F d v) : JE X e (eC d) := ⟨pe_weak h fun σ H Q ⟨Z, F, ds, w, d', w', r, hf, k⟩ => by
  cases hf
  exact k v F H r.stp r.dr (hd _ _)⟩
theorem je_int {i j pos} : JE X (.Constant (.int i) j pos) (eC (.int i)) := je_C pe_int fun _ _ => den_int
theorem je_str {i j pos} : JE X (.Constant (.str i) j pos) (eC (.str i)) := je_C pe_str fun _ _ => den_str
theorem je_bl {i j pos} : JE X (.Constant (.bool i) j pos) (eC (.bl i)) := je_C pe_bl fun _ _ => den_bl
theorem je_non {j pos} : JE X (.Constant .none j pos) (eC .non) := je_C pe_non fun _ _ => den_non
theorem je_ty {x : Str} {n : String} {pos : Pos} (hg : Gl X x) (hm : X.mg x = none) (hv : bootBuiltins x = some (.type n)) (hn : x ≠ "__name__" := by decide) (hd : (x == ("__debug__" : Str)) = false := by decide) : JE X (.Name x pos) (eC (.ty n)) :=
  je_C (pe_bltn (v := .ty n) hg hm hv rfl hn hd) fun _ _ => by unfold Den; rfl
theorem je_glob {x : Str} {v : V} {u : Value} {d : D} {pos : Pos} (hg : Gl X x) (hm : X.mg x = some u) (r : RelV v u) (h : ∀ p F, Den X.K p F d v) (hd : (x == ("__debug__" : Str)) = false := by decide) : JE X (.Name x pos) (eC d) := je_C (pe_glob hg hm r hd) h
/-! ### two operands -/
def eBin (g : D → D → Option D) (fa fb : Ev) : Ev := fun ds w => (fa ds w).bind fun a => (fb ds a.2).bind fun b => (g a.1 b.1).bind fun d => some (d, b.2)
def OpS (K : PySem.W.Frag) (r : R2) (g : D → D → Option D) : Prop := ∀ (Z : Cfg) (F H : Hp) (σ : L2.St) (ds : List Sl) (w : Wd) (a b d : D) (x y : V) (Q : VK), R K Z F H σ ds w → DenB K Z.p F H a x → DenB K Z.p F H b y → g a b = some d → KD K Z.p F H w d Q → r x y H Q
theorem can2 {Z : Cfg} {F H : Hp} {σ : L2.St} {ds : List Sl} {w w1 w2 : Wd} {fa fb : Ev} {a b : D} {P : V → V → Hp → Prop} (r : R K Z F H σ ds w) (ha : fa ds w = some (a, w1)) (hb : fb ds w1 = some (b, w2))
    (k : ∀ x y F' H', Stp Z.p F H F' H' → R K Z F' H' σ ds w2 → DenB K Z.p F' H' a x → DenB K Z.p F' H' b y → P x y H') : canB K fa σ H fun x H1 => canB K fb σ H1 fun y H2 => P x y H2 :=
  ⟨Z, F, ds, w, a, w1, r, ha, fun x F1 H1 s1 d1 hx => ⟨Z, F1, ds, w1, b, w2, r.step s1 d1, hb, fun y F2 H2 s2 d2 hy => k x y F2 H2 (s1.trans s2) (r.step (s1.trans s2) d2) (hx.step s2) hy⟩⟩
theorem tOp_of {r : R2} {g : D → D → Option D} {fa fb : Ev} (hs : OpS K r g) (σ : L2.St) (H : Hp) (Q : VK) : canE K (eBin g fa fb) σ H Q → tOp r (canB K fa) (canB K fb) σ H Q := fun ⟨Z, F, ds, w, d, w', rr, hf, k⟩ => by
  obtain ⟨a, ha, hf⟩ := bind2 hf
  obtain ⟨b, hb, hf⟩ := bind2 hf
  obtain ⟨c, hc, hf⟩ := bind2 hf
  cases hf
  exact can2 rr ha hb fun x y F' H' s r' hx hy => hs Z F' H' σ ds _ _ _ _ x y Q r' hx hy hc (k.go s)
variable {a b c : Expr} {fa fb fc : Ev} {pos : Pos} {g g' : D → D → Option D} {r r' : R2}
theorem je_op {op} (ho : OpR X (binaryOp op) r) (hs : OpS X.K r g) (ha : JB X a fa) (hb : JB X b fb) : JE X (.BinOp a op b pos) (eBin g fa fb) := ⟨pe_weak (pe_op ho ha.run hb.run) (tOp_of hs)⟩
theorem je_cmpO {op} (ho : OpR X (compareOp op) r) (hs : OpS X.K r g) (ha : JB X a fa) (hb : JB X b fb) (hm : behindInMarks op b = false) : JE X (.Compare a [op] [b] pos) (eBin g fa fb) := ⟨pe_weak (pe_cmpR ho ha.run hb.run hm) (tOp_of hs)⟩
/-- a value of truth, as a test -/
def eTest (f : Ev) : Et := fun ds w => (f ds w).bind fun d => match d.1 with | .bl b => some (b, d.2) | _ => none
theorem test_of {f : Ev} {e : Expr} {t : TE} (σ : L2.St) (H : Hp) (Q : Bool → Hp → Prop) (h : ∀ Q, canE K f σ H Q → t σ H Q) : canT K (eTest f) σ H Q → t σ H fun x H1 => ∃ k, x = .bl k ∧ Q k H1 := fun ⟨Z, F, ds, w, d, w', rr, hf, k⟩ => by
  obtain ⟨x, hx, hf⟩ := bind2 hf
  obtain ⟨x, w1⟩ := x
  cases x with
  | bl b =>
    cases hf
    refine h _ ⟨Z, F, ds, w, _, _, rr, hx, fun v F' H' s dr hv => ?_⟩
    unfold Den at hv
    exact ⟨_, hv, k F' H' s dr⟩
  | _ => cases hf
theorem jt_cmpO {op} (ho : OpR X (compareOp op) r) (hs : OpS X.K r g) (ha : JB X a fa) (hb : JB X b fb) (hm : behindInMarks op b = false) : JT X (.Compare a [op] [b] pos) (eTest (eBin g fa fb)) :=
  ⟨pt_weak (pt_cmpR ho ha.run hb.run hm) fun σ H Q q => test_of (e := a) σ H Q (fun Q => tOp_of hs σ H Q) q⟩
theorem jt_val {e : Expr} {f : Ev} (h : JE X e f) (he : ∀ whole, isTrue e X.env whole = (do let v ← whole; standAt e.pos; holding [v] (truthy v)) := by intro _; rfl) : JT X e (eTest f) :=
  ⟨pt_weak (pt_val h.run he) fun σ H Q q => test_of (e := e) σ H Q (fun Q q => q) q⟩
/-! chains -/
def eChain (g g' : D → D → Option D) (fa fb fc : Ev) : Ev := fun ds w => (fa ds w).bind fun a => (fb ds a.2).bind fun b => match g a.1 b.1 with
  | some (.bl true) => (fc ds b.2).bind fun c => (g' b.1 c.1).bind fun d => some (d, c.2)
  | some (.bl false) => some (.bl false, b.2)
  | _ => none
theorem chain_of (hs : OpS K r g) (hs' : OpS K r' g') (σ : L2.St) (H : Hp) (Q : VK) : canE K (eChain g g' fa fb fc) σ H Q → tChain r r' (canB K fa) (canB K fb) (canB K fc) σ H Q := fun ⟨Z, F, ds, w, d, w', rr, hf, k⟩ => by
  obtain ⟨a, ha, hf⟩ := bind2 hf
  obtain ⟨b, hb, hf⟩ := bind2 hf
  refine can2 rr ha hb fun x y F' H' s r' hx hy => ?_
  split at hf
  · rename_i hg
    refine hs Z F' H' σ ds _ _ _ _ x y _ r' hx hy hg fun z F2 H2 s2 d2 hz => ?_
    unfold Den at hz
    refine ⟨true, hz, ?_⟩
    rw [if_pos rfl]
    obtain ⟨c, hc, hf⟩ := bind2 hf
    obtain ⟨d', hd, hf⟩ := bind2 hf
    cases hf
    refine ⟨Z, F2, ds, _, _, _, r'.step s2 d2, hc, fun v F3 H3 s3 d3 hv => ?_⟩
    exact hs' Z F3 H3 σ ds _ _ _ _ y v Q (r'.step (s2.trans s3) d3) ((hy.step s2).step s3) hv hd (k.go ((s.trans s2).trans s3))
  · rename_i hg
    cases hf
    refine hs Z F' H' σ ds _ _ _ _ x y _ r' hx hy hg fun z F2 H2 s2 d2 hz => ?_
    unfold Den at hz
    refine ⟨false, hz, ?_⟩
    rw [if_neg Bool.false_ne_true]
    exact k _ F2 H2 (s.trans s2) d2 den_bl
  · cases hf
theorem je_chainO {op op'} (ho : OpR X (compareOp op) r) (hs : OpS X.K r g) (ho' : OpR X (compareOp op') r') (hs' : OpS X.K r' g') (ha : JB X a fa) (hb : JB X b fb) (hc : JB X c fc)
    (hm : lastMarks [op, op'] [b, c] = false := by with_unfolding_all rfl) : JE X (.Compare a [op, op'] [b, c] pos) (eChain g g' fa fb fc) := ⟨pe_weak (pe_chain ho ho' ha.run hb.run hc.run hm) (chain_of hs hs')⟩
theorem jt_chainO {op op'} (ho : OpR X (compareOp op) r) (hs : OpS X.K r g) (ho' : OpR X (compareOp op') r') (hs' : OpS X.K r' g') (ha : JB X a fa) (hb : JB X b fb) (hc : JB X c fc)
    (hm : lastMarks [op, op'] [b, c] = false := by with_unfolding_all rfl) : JT X (.Compare a [op, op'] [b, c] pos) (eTest (eChain g g' fa fb fc)) :=
  ⟨pt_weak (pt_chain ho ho' ha.run hb.run hc.run hm) fun σ H Q q => test_of (e := a) σ H Q (fun Q => chain_of hs hs' σ H Q) q⟩
/-! ### and, or, not, if -/
variable {rest : List Expr} {ta tb tc : Et}
def tAndJ (a b : Et) : Et := fun ds w => (a ds w).bind fun r => if r.1 = true then b ds r.2 else some (false, r.2)
def tOrJ (a b : Et) : Et := fun ds w => (a ds w).bind fun r => if r.1 = true then some (true, r.2) else b ds r.2
def tNotJ (a : Et) : Et := fun ds w => (a ds w).bind fun r => some (!r.1, r.2)
theorem and_of (σ : L2.St) (H : Hp) (Q : Bool → Hp → Prop) : canT K (tAndJ ta tb) σ H Q → tAnd (canT K ta) (canT K tb) σ H Q := fun ⟨Z, F, ds, w, d, w', rr, hf, k⟩ => by
  obtain ⟨a, ha, hf⟩ := bind2 hf
  refine ⟨Z, F, ds, w, _, _, rr, ha, fun F1 H1 s1 d1 => ?_⟩
  dsimp only
  split
  · rename_i h
    rw [if_pos h] at hf
    exact ⟨Z, F1, ds, _, _, _, rr.step s1 d1, hf, k.go s1⟩
  · rename_i h
    rw [if_neg h] at hf
    cases hf
    exact k F1 H1 s1 d1
theorem or_of (σ : L2.St) (H : Hp) (Q : Bool → Hp → Prop) : canT K (tOrJ ta tb) σ H Q → tOr (canT K ta) (canT K tb) σ H Q := fun ⟨Z, F, ds, w, d, w', rr, hf, k⟩ => by
  obtain ⟨a, ha, hf⟩ := bind2 hf
  refine ⟨Z, F, ds, w, _, _, rr, ha, fun F1 H1 s1 d1 => ?_⟩
  dsimp only
  split
  · rename_i h
    rw [if_pos h] at hf
    cases hf
    exact k F1 H1 s1 d1
  · rename_i h
    rw [if_neg h] at hf
    exact ⟨Z, F1, ds, _, _, _, rr.step s1 d1, hf, k.go s1⟩
theorem jw_and1 (ha : JT X a ta) : JW X (.BoolOp .And [a] pos) ta := ⟨pw_and1 ha.run⟩
theorem jw_or1 (ha : JT X a ta) : JW X (.BoolOp .Or [a] pos) ta := ⟨pw_or1 ha.run⟩
theorem jw_and (ha : JT X a ta) (hb : JW X (.BoolOp .And (b :: rest) pos) tb) : JW X (.BoolOp .And (a :: b :: rest) pos) (tAndJ ta tb) := ⟨pw_weak (pw_and ha.run hb.run) and_of⟩
theorem jw_or (ha : JT X a ta) (hb : JW X (.BoolOp .Or (b :: rest) pos) tb) : JW X (.BoolOp .Or (a :: b :: rest) pos) (tOrJ ta tb) := ⟨pw_weak (pw_or ha.run hb.run) or_of⟩
theorem JW.t {e : Expr} (h : JW X e ta) : JT X e ta := ⟨h.run.pt⟩
theorem jt_not (ha : JT X a ta) : JT X (.UnaryOp .Not a pos) (tNotJ ta) := ⟨pt_weak (pt_not ha.run) fun σ H Q ⟨Z, F, ds, w, d, w', rr, hf, k⟩ => by
  obtain ⟨a, ha, hf⟩ := bind2 hf
  cases hf
  exact ⟨Z, F, ds, w, _, _, rr, ha, fun F1 H1 s1 d1 => k F1 H1 s1 d1⟩⟩
/-! as values of truth -/
def eAnd (a b : Ev) : Ev := fun ds w => (a ds w).bind fun r => match r.1 with | .bl true => b ds r.2 | .bl false => some (.bl false, r.2) | _ => none
def eOr (a b : Ev) : Ev := fun ds w => (a ds w).bind fun r => match r.1 with | .bl true => some (.bl true, r.2) | .bl false => b ds r.2 | _ => none
def eNot (a : Ev) : Ev := fun ds w => (a ds w).bind fun r => match r.1 with | .bl b => some (.bl (!b), r.2) | _ => none
theorem je_one {op} {f : Ev} (h : JE X a f) : JE X (.BoolOp op [a] pos) f := ⟨pe_one h.run⟩
theorem je_and (ha : JE X a fa) (hb : JE X (.BoolOp .And (b :: rest) pos) fb) : JE X (.BoolOp .And (a :: b :: rest) pos) (eAnd fa fb) := ⟨pe_weak (pe_and ha.run hb.run) fun σ H Q ⟨Z, F, ds, w, d, w', rr, hf, k⟩ => by
  obtain ⟨⟨x, w1⟩, ha, hf⟩ := bind2 hf
  refine ⟨Z, F, ds, w, _, _, rr, ha, fun v F1 H1 s1 d1 hv => ?_⟩
  cases x with
  | bl c =>
    unfold Den at hv
    refine ⟨c, hv, ?_⟩
    cases c with
    | true =>
      rw [if_pos rfl]
      exact ⟨Z, F1, ds, _, _, _, rr.step s1 d1, hf, k.go s1⟩
    | false =>
      rw [if_neg Bool.false_ne_true]
      cases hf
      exact k _ F1 H1 s1 d1 den_bl
  | _ => cases hf⟩
theorem je_or (ha : JE X a fa) (hb : JE X (.BoolOp .Or (b :: rest) pos) fb) : JE X (.BoolOp .Or (a :: b :: rest) pos) (eOr fa fb) := ⟨pe_weak (pe_or ha.run hb.run) fun σ H Q ⟨Z, F, ds, w, d, w', rr, hf, k⟩ => by
  obtain ⟨⟨x, w1⟩, ha, hf⟩ := bind2 hf
  refine ⟨Z, F, ds, w, _, _, rr, ha, fun v F1 H1 s1 d1 hv => ?_⟩
  cases x with
  | bl c =>
    unfold Den at hv
    refine ⟨c, hv, ?_⟩
    cases c with
    | true =>
      rw [if_pos rfl]
      cases hf
      exact k _ F1 H1 s1 d1 den_bl
    | false =>
      rw [if_neg Bool.false_ne_true]
      exact ⟨Z, F1, ds, _, _, _, rr.step s1 d1, hf, k.go s1⟩
  | _ => cases hf⟩
theorem je_not (ha : JE X a fa) : JE X (.UnaryOp .Not a pos) (eNot fa) := ⟨pe_weak (pe_not ha.run) fun σ H Q ⟨Z, F, ds, w, d, w', rr, hf, k⟩ => by
  obtain ⟨⟨x, w1⟩, ha, hf⟩ := bind2 hf
  refine ⟨Z, F, ds, w, _, _, rr, ha, fun v F1 H1 s1 d1 hv => ?_⟩
  cases x with
  | bl c =>
    unfold Den at hv
    cases hf
    exact ⟨c, hv, k _ F1 H1 s1 d1 den_bl⟩
  | _ => cases hf⟩
def eIf (t : Et) (a b : Ev) : Ev := fun ds w => (t ds w).bind fun r => if r.1 = true then a ds r.2 else b ds r.2
theorem je_if (hc : JT X c tc) (ha : JE X a fa) (hb : JE X b fb) : JE X (.IfExp c a b pos) (eIf tc fa fb) := ⟨pe_weak (pe_ifExp hc.run ha.run hb.run) fun σ H Q ⟨Z, F, ds, w, d, w', rr, hf, k⟩ => by
  obtain ⟨x, hx, hf⟩ := bind2 hf
  refine ⟨Z, F, ds, w, _, _, rr, hx, fun F1 H1 s1 d1 => ?_⟩
  dsimp only
  split
  · rename_i h
    rw [if_pos h] at hf
    exact ⟨Z, F1, ds, _, _, _, rr.step s1 d1, hf, k.go s1⟩
  · rename_i h
    rw [if_neg h] at hf
    exact ⟨Z, F1, ds, _, _, _, rr.step s1 d1, hf, k.go s1⟩⟩
theorem jb_if (hc : JT X c tc) (ha : JB X a fa) (hb : JB X b fb) : JB X (.IfExp c a b pos) (eIf tc fa fb) := ⟨pe_weak (pe_ifExp hc.run ha.run hb.run) fun σ H Q ⟨Z, F, ds, w, d, w', rr, hf, k⟩ => by
  obtain ⟨x, hx, hf⟩ := bind2 hf
  refine ⟨Z, F, ds, w, _, _, rr, hx, fun F1 H1 s1 d1 => ?_⟩
  dsimp only
  split
  · rename_i h
    rw [if_pos h] at hf
    exact ⟨Z, F1, ds, _, _, _, rr.step s1 d1, hf, k.go s1⟩
  · rename_i h
    rw [if_neg h] at hf
    exact ⟨Z, F1, ds, _, _, _, rr.step s1 d1, hf, k.go s1⟩⟩
end
/-! ### lists of arguments -/
def DensB (K : PySem.W.Frag) (p : Addr) (F H : Hp) : List D → List V → Prop
  | [], vs => vs = []
  | d :: ds, vs => ∃ v r, vs = v :: r ∧ DenB K p F H d v ∧ DensB K p F H ds r
theorem DensB.step {K : PySem.W.Frag} {p : Addr} {F H F' H' : Hp} (y : Stp p F H F' H') : ∀ {ds : List D} {vs : List V}, DensB K p F H ds vs → DensB K p F' H' ds vs
  | [], _, h => h
  | _ :: _, _, ⟨v, r, e, a, b⟩ => ⟨v, r, e, a.step y, DensB.step y b⟩
def canR (K : PySem.W.Frag) (f : Ef) : TA := fun σ H Q => ∃ Z F ds w d w', R K Z F H σ ds w ∧ f ds w = some (d, w') ∧ ∀ vs F' H', Stp Z.p F H F' H' → Dr Z.p F' H' w' → DensB K Z.p F' H' d vs → Q vs H'
structure JR (X : Cx) (es : List Expr) (f : Ef) : Prop where run : PA X es (canR X.K f)
section
variable {X : Cx} {K : PySem.W.Frag} {e : Expr} {es : List Expr} {f : Ev} {fs : Ef} {pos : Pos}
def aNil : Ef := fun _ w => some ([], w)
def aCons (f : Ev) (g : Ef) : Ef := fun ds w => (f ds w).bind fun a => (g ds a.2).bind fun b => some (a.1 :: b.1, b.2)
/-- *e -/
def aStar (f : Ev) (g : Ef) : Ef := fun ds w => (f ds w).bind fun a => (g ds a.2).bind fun b => match a.1 with | .lst xs => some (xs ++ b.1, b.2) | .tup xs => some (xs ++ b.1, b.2) | _ => none
theorem ja_nil : JA X [] aNil := ⟨pa_weak pa_nil fun σ H Q ⟨Z, F, ds, w, d, w', rr, hf, k⟩ => by cases hf; exact k [] F H rr.stp rr.dr dens_nil⟩
theorem jr_nil : JR X [] aNil := ⟨pa_weak pa_nil fun σ H Q ⟨Z, F, ds, w, d, w', rr, hf, k⟩ => by cases hf; exact k [] F H rr.stp rr.dr rfl⟩
theorem ja_cons (h : JE X e f) (hr : JA X es fs) (hs : starEach (e :: es) X.env = (false, eval e X.env) :: starEach es X.env := by rfl) : JA X (e :: es) (aCons f fs) := ⟨pa_weak (pa_cons h.run hr.run hs) fun σ H Q ⟨Z, F, ds, w, d, w', rr, hf, k⟩ => by
  obtain ⟨a, ha, hf⟩ := bind2 hf
  obtain ⟨b, hb, hf⟩ := bind2 hf
  cases hf
  exact ⟨Z, F, ds, w, _, _, rr, ha, fun v F1 H1 s1 d1 hv => ⟨Z, F1, ds, _, _, _, rr.step s1 d1, hb, fun vs F2 H2 s2 d2 hvs => k _ F2 H2 (s1.trans s2) d2 (dens_cons (hv.mono s2.f) hvs)⟩⟩⟩
theorem jr_cons (h : JB X e f) (hr : JR X es fs) (hs : starEach (e :: es) X.env = (false, eval e X.env) :: starEach es X.env := by rfl) : JR X (e :: es) (aCons f fs) := ⟨pa_weak (pa_cons h.run hr.run hs) fun σ H Q ⟨Z, F, ds, w, d, w', rr, hf, k⟩ => by
  obtain ⟨a, ha, hf⟩ := bind2 hf
  obtain ⟨b, hb, hf⟩ := bind2 hf
  cases hf
  exact ⟨Z, F, ds, w, _, _, rr, ha, fun v F1 H1 s1 d1 hv => ⟨Z, F1, ds, _, _, _, rr.step s1 d1, hb, fun vs F2 H2 s2 d2 hvs => k _ F2 H2 (s1.trans s2) d2 ⟨_, _, rfl, hv.step s2, hvs⟩⟩⟩⟩
theorem ja_star {p : Pos} (h : JB X e f) (hr : JA X es fs) (hs : starEach (.Starred e p :: es) X.env = (true, eval e X.env) :: starEach es X.env := by rfl) : JA X (.Starred e p :: es) (aStar f fs) := ⟨pa_weak (StX.pa_star h.run hr.run hs) fun σ H Q ⟨Z, F, ds, w, d, w', rr, hf, k⟩ => by
  obtain ⟨⟨a, w1⟩, ha, hf⟩ := bind2 hf
  obtain ⟨b, hb, hf⟩ := bind2 hf
  refine ⟨Z, F, ds, w, _, _, rr, ha, fun v F1 H1 s1 d1 hv => ?_⟩
  cases a with
  | lst xs =>
    cases hf
    obtain ⟨q, vs, e1, e2, e3⟩ := hv.lst s1.e
    exact ⟨q, vs, e1, .inr (.of e2), Z, F1, ds, _, _, _, rr.step s1 d1, hb, fun us F2 H2 s2 d2 hvs => k _ F2 H2 (s1.trans s2) d2 ((e3.mono s2.f).append hvs)⟩
  | tup xs =>
    cases hf
    obtain ⟨q, vs, e1, e2, e3⟩ := hv.tup
    exact ⟨q, vs, e1, .inl (sqU_mono s1.e e2).t, Z, F1, ds, _, _, _, rr.step s1 d1, hb, fun us F2 H2 s2 d2 hvs => k _ F2 H2 (s1.trans s2) d2 ((e3.mono s2.f).append hvs)⟩
  | _ => cases hf⟩
/-- sizes that are met here -/
def line : Nat := 100000
theorem sz_of {n : Nat} (h : n ≤ line) : n ≤ sizeLine := Nat.le_trans h (by decide)
theorem sz_lt {n : Nat} (h : n < line) : n < sizeLine := Nat.lt_of_lt_of_le h (by decide)
def eTup (f : Ef) : Ev := fun ds w => (f ds w).bind fun a => if a.1.length ≤ line then some (.tup a.1, a.2) else none
def fLst (f : Ef) : Ef := fun ds w => (f ds w).bind fun a => if a.1.length ≤ line then some a else none
theorem je_tup {x1} (h : JA X es fs) : JE X (.Tuple es x1 pos) (eTup fs) := ⟨pe_weak (pe_tup h.run) fun σ H Q ⟨Z, F, ds, w, d, w', rr, hf, k⟩ => by
  obtain ⟨a, ha, hf⟩ := bind2 hf
  split at hf
  · rename_i hl
    cases hf
    refine ⟨Z, F, ds, w, _, _, rr, ha, fun vs F1 H1 s1 d1 hv => ⟨by rw [hv.len]; exact sz_of hl, fun q hq => ?_⟩⟩
    obtain ⟨s2, d2⟩ := (rr.step s1 d1).new (o := .tup vs) hq
    exact k _ _ _ (s1.trans s2) d2 (den_tup (.inl upd_same) (hv.mono s2.f))
  · cases hf⟩
/-- a new list as an answer -/
theorem KF.new {Z : Cfg} {F H : Hp} {σ : L2.St} {ds : List Sl} {w : Wd} {xs : List D} {vs : List V} {Q : VK} (k : KF K Z.p F H w xs Q) (r : R K Z F H σ ds w) (h : Dens K Z.p F xs vs) : ∀ q, H q = none → Q (.ref q) (upd H q (.lst vs)) := fun q hq => by
  obtain ⟨s2, d2⟩ := r.newO (o := .lst vs) hq
  exact k q vs F _ s2 d2 upd_same hq (r.ex.free hq) (r.np hq) h
theorem R.pn {Z : Cfg} {F H : Hp} {σ : L2.St} {ds : List Sl} {w : Wd} (r : R K Z F H σ ds w) : H Z.p ≠ none := by
  obtain ⟨a, h, _⟩ := r.dr
  rw [h]
  exact fun q => nomatch q
theorem jf_lst (h : JA X es fs) : JF X (.List es pos) (fLst fs) := ⟨pe_weak (pe_lst h.run) fun σ H Q ⟨Z, F, ds, w, d, w', rr, hf, k⟩ => by
  obtain ⟨a, ha, hf⟩ := bind2 hf
  split at hf
  · rename_i hl
    cases hf
    exact ⟨Z, F, ds, w, _, _, rr, ha, fun vs F1 H1 s1 d1 hv => ⟨by rw [hv.len]; exact sz_of hl, (k.go s1 rr.pn).new (rr.step s1 d1) hv⟩⟩
  · cases hf⟩
end
end J
namespace J
open PySem L2
theorem same_t {K : PySem.W.Frag} {F H : Hp} {a : Addr} {vs : List V} (h : SqU K F a vs) (e : Same F H) : SqT K H a vs := (sqU_mono e h).t
/-! ### data that may be compared -/
mutual
def py : D → PyData
  | .non => .none | .bl b => .bool b | .int i => .int i | .str s => .str s | .ty _ => .none | .draw => .none
  | .tup ds => .tuple (pys ds) | .lst ds => .list (pys ds) | .obj _ _ _ => .none | .dk _ _ => .none | .dt _ _ => .none
def pys : List D → List PyData
  | [] => []
  | d :: ds => py d :: pys ds
end
mutual
def pok : D → Bool
  | .ty _ => false | .draw => false | .obj _ _ _ => false | .dk _ _ => false | .dt _ _ => false | .tup ds => poks ds | .lst ds => poks ds | _ => true
def poks : List D → Bool
  | [] => true
  | d :: ds => pok d && poks ds
end
theorem pys_map : ∀ ds : List D, pys ds = ds.map py
  | [] => rfl
  | d :: ds => by unfold pys; rw [pys_map ds]; rfl
theorem poks_all : ∀ ds : List D, poks ds = ds.all pok
  | [] => rfl
  | d :: ds => by unfold poks; rw [poks_all ds]; rfl
section
variable {K : PySem.W.Frag} {p : Addr} {F H : Hp}
mutual
theorem dp_of (e : Same F H) : ∀ (d : D) (v : V), pok d = true → Den K p F d v → Dp K H v (py d)
  | .non, v, _, h => by unfold Den at h; subst h; exact .non
  | .bl b, v, _, h => by unfold Den at h; subst h; exact .bl b
  | .int i, v, _, h => by unfold Den at h; subst h; exact .int i
  | .str s, v, _, h => by unfold Den at h; subst h; exact .str s
  | .ty n, v, k, h => by cases k
  | .draw, v, k, h => by cases k
  | .obj _ _ _, v, k, h => by cases k
  | .dk _ _, v, k, h => by cases k
  | .dt _ _, v, k, h => by cases k
  | .tup ds, v, k, h => by
    unfold Den at h
    obtain ⟨a, vs, rfl, h1, h2⟩ := h
    unfold pok at k
    unfold py
    exact .tup (same_t h1 e) (dps_of e ds vs k h2)
  | .lst ds, v, k, h => by
    unfold Den at h
    obtain ⟨a, vs, rfl, h1, h2⟩ := h
    unfold pok at k
    unfold py
    exact .lst (.of (e _ _ h1)) (dps_of e ds vs k h2)
theorem dps_of (e : Same F H) : ∀ (ds : List D) (vs : List V), poks ds = true → Dens K p F ds vs → DpAll K H vs (pys ds)
  | [], vs, _, h => by unfold Dens at h; subst h; exact .nil
  | d :: ds, vs, k, h => by
    unfold Dens at h
    obtain ⟨v, r, rfl, h1, h2⟩ := h
    unfold poks at k
    have k' := Bool.and_eq_true_iff.mp k
    unfold pys
    exact .cons (dp_of e d v k'.1 h1) (dps_of e ds r k'.2 h2)
end
theorem dpB_of (e : Same F H) {d : D} {v : V} (k : pok d = true) (h : DenB K p F H d v) : Dp K H v (py d) := by
  rcases h with h | ⟨a, xs, rfl, rfl, vs, h1, h2, h3, h4⟩ | ⟨a, x, rfl, _⟩
  · exact dp_of e d v k h
  · unfold pok at k
    unfold py
    exact .lst (.of h1) (dps_of e xs vs k h4)
  · cases x <;> cases k
end
def lay (d : D) : Bool := pok d && SeqAt.shaped (py d)
def eqD (a b : D) : Option D := if lay a && lay b then some (.bl (PyData.eqv (py a) (py b))) else none
def neD (a b : D) : Option D := if lay a && lay b then some (.bl (!PyData.eqv (py a) (py b))) else none
section
variable {X : Cx} {K : PySem.W.Frag} {a b c : Expr} {fa fb fc : Ev} {pos : Pos} {k : Nat}
theorem s_eqD : OpS K (rEqD K) eqD := fun Z F H σ ds w a b d x y Q r hx hy hg k => by
  unfold eqD at hg
  split at hg
  · rename_i h
    cases hg
    have h' := Bool.and_eq_true_iff.mp h
    have ha := Bool.and_eq_true_iff.mp h'.1
    have hb := Bool.and_eq_true_iff.mp h'.2
    exact ⟨_, _, dpB_of r.ex ha.1 hx, dpB_of r.ex hb.1 hy, ha.2, hb.2, k _ F H r.stp r.dr den_bl⟩
  · cases hg
theorem s_neD : OpS K (rNeD K) neD := fun Z F H σ ds w a b d x y Q r hx hy hg k => by
  unfold neD at hg
  split at hg
  · rename_i h
    cases hg
    have h' := Bool.and_eq_true_iff.mp h
    have ha := Bool.and_eq_true_iff.mp h'.1
    have hb := Bool.and_eq_true_iff.mp h'.2
    exact ⟨_, _, dpB_of r.ex ha.1 hx, dpB_of r.ex hb.1 hy, ha.2, hb.2, k _ F H r.stp r.dr den_bl⟩
  · cases hg
def eEq := eBin eqD
def eNe := eBin neD
theorem je_eq (hr : Room k X.A) (ha : JB X a fa) (hb : JB X b fb) : JE X (.Compare a [.Eq] [b] pos) (eEq fa fb) := je_cmpO (op_eqD hr.units) s_eqD ha hb (nobehind _ (by decide) (by decide))
theorem je_ne (hr : Room k X.A) (ha : JB X a fa) (hb : JB X b fb) : JE X (.Compare a [.NotEq] [b] pos) (eNe fa fb) := je_cmpO (op_neD hr.units) s_neD ha hb (nobehind _ (by decide) (by decide))
theorem jt_eq (hr : Room k X.A) (ha : JB X a fa) (hb : JB X b fb) : JT X (.Compare a [.Eq] [b] pos) (eTest (eEq fa fb)) := jt_cmpO (op_eqD hr.units) s_eqD ha hb (nobehind _ (by decide) (by decide))
theorem jt_ne (hr : Room k X.A) (ha : JB X a fa) (hb : JB X b fb) : JT X (.Compare a [.NotEq] [b] pos) (eTest (eNe fa fb)) := jt_cmpO (op_neD hr.units) s_neD ha hb (nobehind _ (by decide) (by decide))
/-! order of ints -/
def g2B (p : Int → Int → Bool) : D → D → Option D | .int i, .int j => some (.bl (p i j)) | _, _ => none
theorem s_B (p : Int → Int → Bool) : OpS K (rI0 fun i j => .bl (p i j)) (g2B p) := fun Z F H σ ds w a b d x y Q r hx hy hg k => by
  cases a <;> cases b <;> first | cases hg | skip
  exact ⟨_, _, hx.int, hy.int, k _ F H r.stp r.dr den_bl⟩
def pLt (i j : Int) : Bool := decide (i < j)
def pLe (i j : Int) : Bool := decide (i ≤ j)
def pGt (i j : Int) : Bool := decide (j < i)
def pGe (i j : Int) : Bool := decide (j ≤ i)
def eLt := eBin (g2B pLt)
def eLe := eBin (g2B pLe)
def eGt := eBin (g2B pGt)
def eGe := eBin (g2B pGe)
theorem je_lt (ha : JB X a fa) (hb : JB X b fb) : JE X (.Compare a [.Lt] [b] pos) (eLt fa fb) := je_cmpO op_lt (s_B pLt) ha hb (nobehind _ (by decide) (by decide))
theorem je_le (ha : JB X a fa) (hb : JB X b fb) : JE X (.Compare a [.LtE] [b] pos) (eLe fa fb) := je_cmpO op_le (s_B pLe) ha hb (nobehind _ (by decide) (by decide))
theorem je_gt (ha : JB X a fa) (hb : JB X b fb) : JE X (.Compare a [.Gt] [b] pos) (eGt fa fb) := je_cmpO op_gt (s_B pGt) ha hb (nobehind _ (by decide) (by decide))
theorem je_ge (ha : JB X a fa) (hb : JB X b fb) : JE X (.Compare a [.GtE] [b] pos) (eGe fa fb) := je_cmpO op_ge (s_B pGe) ha hb (nobehind _ (by decide) (by decide))
theorem jt_lt (ha : JB X a fa) (hb : JB X b fb) : JT X (.Compare a [.Lt] [b] pos) (eTest (eLt fa fb)) := jt_cmpO op_lt (s_B pLt) ha hb (nobehind _ (by decide) (by decide))
theorem jt_le (ha : JB X a fa) (hb : JB X b fb) : JT X (.Compare a [.LtE] [b] pos) (eTest (eLe fa fb)) := jt_cmpO op_le (s_B pLe) ha hb (nobehind _ (by decide) (by decide))
theorem jt_gt (ha : JB X a fa) (hb : JB X b fb) : JT X (.Compare a [.Gt] [b] pos) (eTest (eGt fa fb)) := jt_cmpO op_gt (s_B pGt) ha hb (nobehind _ (by decide) (by decide))
theorem jt_ge (ha : JB X a fa) (hb : JB X b fb) : JT X (.Compare a [.GtE] [b] pos) (eTest (eGe fa fb)) := jt_cmpO op_ge (s_B pGe) ha hb (nobehind _ (by decide) (by decide))
/-! a chain of two: lt, le -/
theorem je_lele (ha : JB X a fa) (hb : JB X b fb) (hc : JB X c fc) (hm : lastMarks [.LtE, .LtE] [b, c] = false := by with_unfolding_all rfl) : JE X (.Compare a [.LtE, .LtE] [b, c] pos) (eChain (g2B pLe) (g2B pLe) fa fb fc) := je_chainO op_le (s_B pLe) op_le (s_B pLe) ha hb hc hm
theorem je_lelt (ha : JB X a fa) (hb : JB X b fb) (hc : JB X c fc) (hm : lastMarks [.LtE, .Lt] [b, c] = false := by with_unfolding_all rfl) : JE X (.Compare a [.LtE, .Lt] [b, c] pos) (eChain (g2B pLe) (g2B pLt) fa fb fc) := je_chainO op_le (s_B pLe) op_lt (s_B pLt) ha hb hc hm
theorem jt_lele (ha : JB X a fa) (hb : JB X b fb) (hc : JB X c fc) (hm : lastMarks [.LtE, .LtE] [b, c] = false := by with_unfolding_all rfl) : JT X (.Compare a [.LtE, .LtE] [b, c] pos) (eTest (eChain (g2B pLe) (g2B pLe) fa fb fc)) := jt_chainO op_le (s_B pLe) op_le (s_B pLe) ha hb hc hm
theorem jt_lelt (ha : JB X a fa) (hb : JB X b fb) (hc : JB X c fc) (hm : lastMarks [.LtE, .Lt] [b, c] = false := by with_unfolding_all rfl) : JT X (.Compare a [.LtE, .Lt] [b, c] pos) (eTest (eChain (g2B pLe) (g2B pLt) fa fb fc)) := jt_chainO op_le (s_B pLe) op_lt (s_B pLt) ha hb hc hm
/-! is None -/
def isN (a b : D) : Option D := match a, b with | .non, .non => some (.bl true) | .bl _, .non => some (.bl false) | .int _, .non => some (.bl false) | .str _, .non => some (.bl false) | .tup _, .non => some (.bl false) | .lst _, .non => some (.bl false) | .obj _ _ _, .non => some (.bl false) | .dk _ _, .non => some (.bl false) | .dt _ _, .non => some (.bl false) | _, _ => none
def notN (a b : D) : Option D := match a, b with | .non, .non => some (.bl false) | .bl _, .non => some (.bl true) | .int _, .non => some (.bl true) | .str _, .non => some (.bl true) | .tup _, .non => some (.bl true) | .lst _, .non => some (.bl true) | .obj _ _ _, .non => some (.bl true) | .dk _ _, .non => some (.bl true) | .dt _ _, .non => some (.bl true) | _, _ => none
theorem isN_of {p : Addr} {F H : Hp} {a : D} {x : V} {r : D} (h : DenB K p F H a x) (hg : isN a .non = some r) : r = .bl (decide (x = .non)) := by
  cases a with
  | non => cases hg; rw [h.non]; rfl
  | bl b => cases hg; rw [h.bl]; rfl
  | int b => cases hg; rw [h.int]; rfl
  | str b => cases hg; rw [h.str]; rfl
  | tup b => cases hg; obtain ⟨_, _, rfl, _⟩ := h.tup; rfl
  | lst b =>
    cases hg
    rcases h with h | ⟨_, _, _, rfl, _⟩ | ⟨_, _, _, rfl, _⟩
    · unfold Den at h
      obtain ⟨_, _, rfl, _⟩ := h
      rfl
    · rfl
    · rfl
  | dk ks ds =>
    cases hg
    rcases h with h | ⟨_, _, _, rfl, _⟩ | ⟨_, _, _, rfl, _⟩
    · unfold Den at h
      obtain ⟨_, _, _, rfl, _⟩ := h
      rfl
    · rfl
    · rfl
  | dt ks ds =>
    cases hg
    rcases h with h | ⟨_, _, _, rfl, _⟩ | ⟨_, _, _, rfl, _⟩
    · unfold Den at h
      obtain ⟨_, _, _, rfl, _⟩ := h
      rfl
    · rfl
    · rfl
  | obj n ks ds =>
    cases hg
    rcases h with h | ⟨_, _, e, _⟩ | ⟨_, _, _, rfl, _⟩
    · unfold Den at h
      obtain ⟨_, _, _, rfl, _⟩ := h
      rfl
    · cases e
    · rfl
  | ty n => cases hg
  | draw => cases hg
theorem s_isN : OpS K (fun x y H Q => y = .non ∧ Q (.bl (decide (x = .non))) H) isN := fun Z F H σ ds w a b d x y Q r hx hy hg k => by
  have hb : b = .non := by cases b <;> first | rfl | (cases a <;> cases hg)
  subst hb
  refine ⟨hy.non, k _ F H r.stp r.dr ?_⟩
  rw [isN_of hx hg]
  exact den_bl
theorem s_notN : OpS K (fun x y H Q => y = .non ∧ Q (.bl (!decide (x = .non))) H) notN := fun Z F H σ ds w a b d x y Q r hx hy hg k => by
  have hb : b = .non := by cases b <;> first | rfl | (cases a <;> cases hg)
  subst hb
  refine ⟨hy.non, k _ F H r.stp r.dr ?_⟩
  have e : ∃ r', isN a .non = some r' ∧ d = (match r' with | .bl c => .bl (!c) | z => z) := by
    cases a <;> first | (cases hg; exact ⟨_, rfl, rfl⟩) | cases hg
  obtain ⟨r', e1, e2⟩ := e
  have e3 := isN_of hx e1
  subst e3
  rw [e2]
  exact den_bl
def eIs := eBin isN
def eIsNot := eBin notN
theorem je_is (ha : JB X a fa) (hb : JB X b fb) : JE X (.Compare a [.Is] [b] pos) (eIs fa fb) := je_cmpO op_isN s_isN ha hb (nobehind _ (by decide) (by decide))
theorem je_isnot (ha : JB X a fa) (hb : JB X b fb) : JE X (.Compare a [.IsNot] [b] pos) (eIsNot fa fb) := je_cmpO op_notN s_notN ha hb (nobehind _ (by decide) (by decide))
theorem jt_is (ha : JB X a fa) (hb : JB X b fb) : JT X (.Compare a [.Is] [b] pos) (eTest (eIs fa fb)) := jt_cmpO op_isN s_isN ha hb (nobehind _ (by decide) (by decide))
theorem jt_isnot (ha : JB X a fa) (hb : JB X b fb) : JT X (.Compare a [.IsNot] [b] pos) (eTest (eIsNot fa fb)) := jt_cmpO op_notN s_notN ha hb (nobehind _ (by decide) (by decide))
/-! ### in -/
def flatD : D → Bool | .non => true | .bl _ => true | .int _ => true | .str _ => true | _ => false
def eqF : D → D → Bool
  | .non, .non => true
  | .bl a, .bl b => a == b
  | .bl a, .int b => (if a then 1 else 0) == b
  | .int a, .bl b => a == (if b then 1 else 0)
  | .int a, .int b => a == b
  | .str a, .str b => a == b
  | _, _ => false
theorem flat_of {p : Addr} {F : Hp} {d : D} {v : V} (h : Den K p F d v) (f : flatD d = true) : flatV v = true := by
  cases d <;> first | (unfold Den at h; subst h; rfl) | cases f
theorem eqF_of {p : Addr} {F : Hp} {d e : D} {v u : V} (h : Den K p F d v) (h' : Den K p F e u) (f : flatD d = true) (f' : flatD e = true) : eqV v u = eqF d e := by
  cases d with
  | tup _ => cases f
  | lst _ => cases f
  | ty _ => cases f
  | draw => cases f
  | obj _ _ _ => cases f
  | dk _ _ => cases f
  | dt _ _ => cases f
  | _ =>
    unfold Den at h
    subst h
    cases e <;> first | (unfold Den at h'; subst h'; rfl) | cases f'
theorem any_of {p : Addr} {F : Hp} {e : D} {u : V} (h' : Den K p F e u) (f' : flatD e = true) : ∀ {ds : List D} {vs : List V}, Dens K p F ds vs → ds.all flatD = true → vs.all flatV = true ∧ vs.any (fun y => eqV y u) = ds.any (fun y => eqF y e)
  | [], vs, h, _ => by unfold Dens at h; subst h; exact ⟨rfl, rfl⟩
  | d :: ds, vs, h, f => by
    unfold Dens at h
    obtain ⟨v, r, rfl, h1, h2⟩ := h
    rw [List.all_cons, Bool.and_eq_true] at f
    obtain ⟨i1, i2⟩ := any_of h' f' h2 f.2
    refine ⟨?_, ?_⟩
    · rw [List.all_cons, flat_of h1 f.1, i1]; rfl
    · rw [List.any_cons, List.any_cons, eqF_of h1 h' f.1 f', i2]
def rInDT (K : PySem.W.Frag) (neg : Bool) : R2 := fun x y H Q => ∃ d es, Dp K H x d ∧ Dp K H y (.tuple es) ∧ SeqAt.shaped d = true ∧ SeqAt.shaped (.tuple es) = true ∧ Q (.bl (if neg then !es.any (fun z => PyData.eqv z d) else es.any fun z => PyData.eqv z d)) H
theorem op_inDT {X : Cx} (hu : X.A.units + 65 < cLine) : OpR X (compareOp .In) (rInDT X.K false) := by
  intro pins s σ H x y v u Q I rx ry h
  obtain ⟨d, es, hd, he, sd, se, q⟩ := h
  obtain ⟨as, r1⟩ := L2.Dp.reads I d x v hd rx
  obtain ⟨bs, r2⟩ := L2.Dp.reads I (.tuple es) y u he ry
  exact SeqAt.in_tuple_reads r2 r1 (SeqAt.canLay_of_shaped se) (SeqAt.canLay_of_shaped sd) (PyProof.Rows.room_in_shaped sd hu) ⟨.bl _, H, I, rfl, q⟩
theorem op_notInDT {X : Cx} (hu : X.A.units + 65 < cLine) : OpR X (compareOp .NotIn) (rInDT X.K true) := by
  intro pins s σ H x y v u Q I rx ry h
  obtain ⟨d, es, hd, he, sd, se, q⟩ := h
  obtain ⟨as, r1⟩ := L2.Dp.reads I d x v hd rx
  obtain ⟨bs, r2⟩ := L2.Dp.reads I (.tuple es) y u he ry
  exact SeqAt.notIn_tuple_reads r2 r1 (SeqAt.canLay_of_shaped se) (SeqAt.canLay_of_shaped sd) (PyProof.Rows.room_in_shaped sd hu) ⟨.bl _, H, I, rfl, q⟩
def inD (neg : Bool) (a b : D) : Option D := match b with
  | .tup ys => if flatD a && ys.all flatD then some (.bl (if neg then !ys.any (fun y => eqF y a) else ys.any fun y => eqF y a)) else if lay a && lay (.tup ys) then some (.bl (if neg then !(pys ys).any (fun z => PyData.eqv z (py a)) else (pys ys).any fun z => PyData.eqv z (py a))) else none
  | .lst ys => if lay a && lay (.lst ys) then some (.bl (if neg then !(pys ys).any (fun z => PyData.eqv z (py a)) else (pys ys).any fun z => PyData.eqv z (py a))) else none
  | _ => none
theorem flatB {p : Addr} {F H : Hp} {a : D} {x : V} (h : DenB K p F H a x) (f : flatD a = true) : Den K p F a x := by
  rcases h with h | ⟨_, _, rfl, _⟩ | ⟨_, x, rfl, _⟩
  · exact h
  · cases f
  · cases x <;> cases f
theorem s_in : OpS K (fun x y H Q => rIn K false x y H Q ∨ (rInD K x y H Q ∨ rInDT K false x y H Q)) (inD false) := fun Z F H σ ds w a b d x y Q r hx hy hg k => by
  cases b with
  | tup ys =>
    unfold inD at hg
    dsimp only at hg
    split at hg
    · rename_i h
      have h' := Bool.and_eq_true_iff.mp h
      cases hg
      obtain ⟨q, vs, rfl, h1, h2⟩ := hy.tup
      obtain ⟨i1, i2⟩ := any_of (flatB hx h'.1) h'.1 h2 h'.2
      refine .inl ⟨q, vs, rfl, .inr (same_t h1 r.ex), flat_of (flatB hx h'.1) h'.1, i1, k _ F H r.stp r.dr ?_⟩
      show Den _ _ _ (.bl (if false = true then _ else _)) (V.bl (if false = true then _ else inV x vs))
      rw [if_neg Bool.false_ne_true, if_neg Bool.false_ne_true]
      unfold inV
      rw [i2]
      exact den_bl
    · split at hg
      · rename_i h
        have h' := Bool.and_eq_true_iff.mp h
        have ha := Bool.and_eq_true_iff.mp h'.1
        have hb := Bool.and_eq_true_iff.mp h'.2
        cases hg
        refine .inr (.inr ⟨_, pys ys, dpB_of r.ex ha.1 hx, ?_, ha.2, ?_, k _ F H r.stp r.dr den_bl⟩)
        · have := dpB_of r.ex hb.1 hy
          unfold py at this
          exact this
        · have := hb.2
          unfold py at this
          exact this
      · cases hg
  | lst ys =>
    unfold inD at hg
    dsimp only at hg
    split at hg
    · rename_i h
      have h' := Bool.and_eq_true_iff.mp h
      have ha := Bool.and_eq_true_iff.mp h'.1
      have hb := Bool.and_eq_true_iff.mp h'.2
      cases hg
      refine .inr (.inl ⟨_, pys ys, dpB_of r.ex ha.1 hx, ?_, ha.2, ?_, k _ F H r.stp r.dr den_bl⟩)
      · have := dpB_of r.ex hb.1 hy
        unfold py at this
        exact this
      · have := hb.2
        unfold py at this
        exact this
    · cases hg
  | _ => cases hg
theorem s_notin : OpS K (fun x y H Q => rIn K true x y H Q ∨ (rNotInD K x y H Q ∨ rInDT K true x y H Q)) (inD true) := fun Z F H σ ds w a b d x y Q r hx hy hg k => by
  cases b with
  | tup ys =>
    unfold inD at hg
    dsimp only at hg
    split at hg
    · rename_i h
      have h' := Bool.and_eq_true_iff.mp h
      cases hg
      obtain ⟨q, vs, rfl, h1, h2⟩ := hy.tup
      obtain ⟨i1, i2⟩ := any_of (flatB hx h'.1) h'.1 h2 h'.2
      refine .inl ⟨q, vs, rfl, .inr (same_t h1 r.ex), flat_of (flatB hx h'.1) h'.1, i1, k _ F H r.stp r.dr ?_⟩
      show Den _ _ _ (.bl (if true = true then _ else _)) (V.bl (if true = true then !inV x vs else _))
      rw [if_pos rfl, if_pos rfl]
      unfold inV
      rw [i2]
      exact den_bl
    · split at hg
      · rename_i h
        have h' := Bool.and_eq_true_iff.mp h
        have ha := Bool.and_eq_true_iff.mp h'.1
        have hb := Bool.and_eq_true_iff.mp h'.2
        cases hg
        refine .inr (.inr ⟨_, pys ys, dpB_of r.ex ha.1 hx, ?_, ha.2, ?_, k _ F H r.stp r.dr den_bl⟩)
        · have := dpB_of r.ex hb.1 hy
          unfold py at this
          exact this
        · have := hb.2
          unfold py at this
          exact this
      · cases hg
  | lst ys =>
    unfold inD at hg
    dsimp only at hg
    split at hg
    · rename_i h
      have h' := Bool.and_eq_true_iff.mp h
      have ha := Bool.and_eq_true_iff.mp h'.1
      have hb := Bool.and_eq_true_iff.mp h'.2
      cases hg
      refine .inr (.inl ⟨_, pys ys, dpB_of r.ex ha.1 hx, ?_, ha.2, ?_, k _ F H r.stp r.dr den_bl⟩)
      · have := dpB_of r.ex hb.1 hy
        unfold py at this
        exact this
      · have := hb.2
        unfold py at this
        exact this
    · cases hg
  | _ => cases hg
theorem hu65 (hr : Room k X.A) : X.A.units + 65 < cLine := by have := hr.un; omega
def eIn := eBin (inD false)
def eNotIn := eBin (inD true)
theorem je_in (hr : Room k X.A) (ha : JB X a fa) (hb : JB X b fb) (hm : behindInMarks .In b = false := by rfl) : JE X (.Compare a [.In] [b] pos) (eIn fa fb) := je_cmpO (op_in_seq.or ((op_inD (hu65 hr)).or (op_inDT (hu65 hr)))) s_in ha hb hm
theorem je_notin (hr : Room k X.A) (ha : JB X a fa) (hb : JB X b fb) (hm : behindInMarks .NotIn b = false := by rfl) : JE X (.Compare a [.NotIn] [b] pos) (eNotIn fa fb) := je_cmpO (op_notIn_seq.or ((op_notInD (hu65 hr)).or (op_notInDT (hu65 hr)))) s_notin ha hb hm
theorem jt_in (hr : Room k X.A) (ha : JB X a fa) (hb : JB X b fb) (hm : behindInMarks .In b = false := by rfl) : JT X (.Compare a [.In] [b] pos) (eTest (eIn fa fb)) := jt_cmpO (op_in_seq.or ((op_inD (hu65 hr)).or (op_inDT (hu65 hr)))) s_in ha hb hm
theorem jt_notin (hr : Room k X.A) (ha : JB X a fa) (hb : JB X b fb) (hm : behindInMarks .NotIn b = false := by rfl) : JT X (.Compare a [.NotIn] [b] pos) (eTest (eNotIn fa fb)) := jt_cmpO (op_notIn_seq.or ((op_notInD (hu65 hr)).or (op_notInDT (hu65 hr)))) s_notin ha hb hm
/-! ### arithmetic -/
def addD : D → D → Option D
  | .int i, .int j => some (.int (i + j))
  | .str s, .str t => if s.length + t.length ≤ line then some (.str (s ++ t)) else none
  | .lst xs, .lst ys => if xs.length + ys.length ≤ line then some (.lst (xs ++ ys)) else none
  | .tup xs, .tup ys => if xs.length + ys.length ≤ line then some (.tup (xs ++ ys)) else none
  | _, _ => none
def rAddJ (K : PySem.W.Frag) : R2 := fun x y H Q => rI0 (fun i j => .int (i + j)) x y H Q ∨ (fun x y H Q => (∃ i j, x = .str i ∧ y = .str j ∧ i.length + j.length ≤ sizeLine ∧ Q (.str (i ++ j)) H) ∨ (fun x y H Q => rCat x y H Q ∨ rCatA K x y H Q) x y H Q) x y H Q
theorem op_addJ : OpR X (binaryOp .Add) (rAddJ X.K) := OpR.or op_add (OpR.or op_add_str (OpR.or op_cat op_catA))
theorem s_add : OpS K (rAddJ K) addD := fun Z F H σ ds w a b d x y Q r hx hy hg k => by
  cases a <;> cases b <;> first | cases hg | skip
  · exact .inl ⟨_, _, hx.int, hy.int, k _ F H r.stp r.dr den_int⟩
  · unfold addD at hg
    dsimp only at hg
    split at hg
    · rename_i h
      cases hg
      exact .inr (.inl ⟨_, _, hx.str, hy.str, sz_of h, k _ F H r.stp r.dr den_str⟩)
    · cases hg
  · unfold addD at hg
    dsimp only at hg
    split at hg
    · rename_i h
      cases hg
      obtain ⟨q, vs, rfl, h1, h2⟩ := hx.tup
      obtain ⟨q', us, rfl, h3, h4⟩ := hy.tup
      refine .inr (.inr (.inr ⟨q, q', vs, us, rfl, rfl, same_t h1 r.ex, same_t h3 r.ex, by rw [h2.len, h4.len]; exact sz_of h, fun e => ?_, fun _ e => ?_, fun _ _ t ht => ?_⟩))
      · have h5 := h2.append h4
        rw [e] at h5
        exact k _ F H r.stp r.dr (den_tup h3 (by simpa using h5))
      · have h5 := h2.append h4
        rw [e, List.append_nil] at h5
        exact k _ F H r.stp r.dr (den_tup h1 h5)
      · obtain ⟨s2, d2⟩ := r.new (o := .tup (vs ++ us)) ht
        exact k _ _ _ s2 d2 (den_tup (.inl upd_same) ((h2.append h4).mono s2.f))
    · cases hg
  · unfold addD at hg
    dsimp only at hg
    split at hg
    · rename_i h
      cases hg
      obtain ⟨q, vs, rfl, h1, h2⟩ := hx.lst r.ex
      obtain ⟨q', us, rfl, h3, h4⟩ := hy.lst r.ex
      refine .inr (.inr (.inl ⟨q, q', vs, us, rfl, rfl, h1, h3, by rw [h2.len, h4.len]; exact sz_of h, fun t ht => ?_⟩))
      obtain ⟨s2, d2⟩ := r.new (o := .lst (vs ++ us)) ht
      exact k _ _ _ s2 d2 (den_lst upd_same ((h2.append h4).mono s2.f))
    · cases hg
def eAdd := eBin addD
theorem je_add (ha : JB X a fa) (hb : JB X b fb) : JE X (.BinOp a .Add b pos) (eAdd fa fb) := je_op op_addJ s_add ha hb
def g2I (C : Int → Int → Bool) (f : Int → Int → Int) : D → D → Option D | .int i, .int j => if C i j then some (.int (f i j)) else none | _, _ => none
theorem s_I {C : Int → Int → Prop} (C' : Int → Int → Bool) (f : Int → Int → Int) (h : ∀ i j, C' i j = true → C i j) : OpS K (rI C fun i j => .int (f i j)) (g2I C' f) := fun Z F H σ ds w a b d x y Q r hx hy hg k => by
  cases a <;> cases b <;> first | cases hg | skip
  unfold g2I at hg
  dsimp only at hg
  split at hg
  · rename_i hc
    cases hg
    exact ⟨_, _, hx.int, hy.int, h _ _ hc, k _ F H r.stp r.dr den_int⟩
  · cases hg
theorem s_I0 (f : Int → Int → Int) : OpS K (rI0 fun i j => .int (f i j)) (g2I (fun _ _ => true) f) := fun Z F H σ ds w a b d x y Q r hx hy hg k => by
  cases a <;> cases b <;> first | cases hg | skip
  exact ⟨_, _, hx.int, hy.int, k _ F H r.stp r.dr den_int⟩
def subD := g2I (fun _ _ => true) (fun i j => i - j)
def okMul (i j : Int) : Bool := decide (-(2 ^ 64) < i ∧ i < 2 ^ 64) || decide (-(2 ^ 64) < j ∧ j < 2 ^ 64)
def mulD0 := g2I okMul (fun i j => i * j)
def okDiv (_ j : Int) : Bool := decide (0 < j) && decide (j.natAbs.log2 < 9000)
def divD := g2I okDiv (fun i j => i / j)
def okMod (_ j : Int) : Bool := decide (0 < j)
def modD := g2I okMod (fun i j => i % j)
def okPow (i j : Int) : Bool := decide (0 ≤ j ∧ j ≤ 1000000 ∧ i.natAbs < 2 ^ 64)
def powD := g2I okPow (fun i j => i ^ j.toNat)
def eSub := eBin subD
def eDiv := eBin divD
def eMod := eBin modD
def ePow := eBin powD
theorem je_sub (ha : JB X a fa) (hb : JB X b fb) : JE X (.BinOp a .Sub b pos) (eSub fa fb) := je_op op_sub (s_I0 _) ha hb
theorem je_div (ha : JB X a fa) (hb : JB X b fb) : JE X (.BinOp a .FloorDiv b pos) (eDiv fa fb) := je_op op_fdivW (s_I okDiv _ fun i j h => by
  have h' := Bool.and_eq_true_iff.mp h
  exact ⟨of_decide_eq_true h'.1, of_decide_eq_true h'.2⟩) ha hb
theorem je_mod (ha : JB X a fa) (hb : JB X b fb) : JE X (.BinOp a .Mod b pos) (eMod fa fb) := je_op op_mod (s_I okMod _ fun i j h => of_decide_eq_true h) ha hb
theorem je_pow (ha : JB X a fa) (hb : JB X b fb) : JE X (.BinOp a .Pow b pos) (ePow fa fb) := je_op op_pow (s_I okPow _ fun i j h => by unfold okPow at h; exact (of_decide_eq_true h : 0 ≤ j ∧ j ≤ 1000000 ∧ i.natAbs < 2 ^ 64)) ha hb
/-- int * int, list * int -/
def mulD : D → D → Option D
  | .int i, .int j => if okMul i j then some (.int (i * j)) else none
  | .lst xs, .int j => if -(2 ^ 63) ≤ j ∧ j < 2 ^ 63 ∧ xs.length * j.toNat ≤ line then some (.lst (List.replicate j.toNat xs).flatten) else none
  | _, _ => none
theorem Dens.rep {p : Addr} {F : Hp} {ds : List D} {vs : List V} (h : Dens K p F ds vs) : ∀ n : Nat, Dens K p F (List.replicate n ds).flatten (List.replicate n vs).flatten
  | 0 => dens_nil
  | n + 1 => by
    rw [List.replicate_succ, List.replicate_succ, List.flatten_cons, List.flatten_cons]
    exact h.append (Dens.rep h n)
theorem s_mul : OpS K (fun x y H Q => rI CMul (fun i j => .int (i * j)) x y H Q ∨ rRep x y H Q) mulD := fun Z F H σ ds w a b d x y Q r hx hy hg k => by
  cases a <;> cases b <;> first | cases hg | skip
  · unfold mulD at hg
    dsimp only at hg
    split at hg
    · rename_i hc
      cases hg
      refine .inl ⟨_, _, hx.int, hy.int, ?_, k _ F H r.stp r.dr den_int⟩
      unfold okMul at hc
      rcases Bool.or_eq_true_iff.mp hc with h | h
      · exact .inl (of_decide_eq_true h)
      · exact .inr (of_decide_eq_true h)
    · cases hg
  · unfold mulD at hg
    dsimp only at hg
    split at hg
    · rename_i hc
      cases hg
      obtain ⟨q, vs, rfl, h1, h2⟩ := hx.lst r.ex
      refine .inr ⟨q, _, vs, rfl, hy.int, h1, hc.1, hc.2.1, by rw [h2.len]; exact sz_of hc.2.2, fun t ht => ?_⟩
      obtain ⟨s2, d2⟩ := r.new (o := .lst (List.replicate _ vs).flatten) ht
      exact k _ _ _ s2 d2 (den_lst upd_same ((h2.rep _).mono s2.f))
    · cases hg
def eMul := eBin mulD
theorem je_mul (ha : JB X a fa) (hb : JB X b fb) : JE X (.BinOp a .Mult b pos) (eMul fa fb) := je_op (OpR.or op_mul op_rep) s_mul ha hb
def eNeg (f : Ev) : Ev := fun ds w => (f ds w).bind fun a => match a.1 with | .int i => some (.int (-i), a.2) | _ => none
theorem je_neg (ha : JB X a fa) : JE X (.UnaryOp .USub a pos) (eNeg fa) := ⟨pe_weak (pe_un un_neg ha.run) fun σ H Q ⟨Z, F, ds, w, d, w', rr, hf, k⟩ => by
  obtain ⟨⟨x, w1⟩, hx, hf⟩ := bind2 hf
  refine ⟨Z, F, ds, w, _, _, rr, hx, fun v F1 H1 s1 d1 hv => ?_⟩
  cases x with
  | int i =>
    cases hf
    exact ⟨i, hv.int, k _ F1 H1 s1 d1 den_int⟩
  | _ => cases hf⟩
/-! ### items -/
def idxD : D → D → Option D
  | .lst xs, .int i => atI xs i
  | .tup xs, .int i => atI xs i
  | _, _ => none
theorem atI_of {p : Addr} {F : Hp} {xs : List D} {vs : List V} {i : Int} {d : D} (h : Dens K p F xs vs) (e : atI xs i = some d) : ∃ v, atI vs i = some v ∧ Den K p F d v := by
  unfold atI at e ⊢
  rw [h.len]
  obtain ⟨j, h1, h2⟩ := bind2 e
  obtain ⟨v, h3, h4⟩ := h.get h2
  exact ⟨v, by rw [h1]; exact h3, h4⟩
theorem s_idx : OpS K (rIx K) idxD := fun Z F H σ ds w a b d x y Q r hx hy hg k => by
  cases a <;> cases b <;> first | cases hg | skip
  · obtain ⟨q, vs, rfl, h1, h2⟩ := hx.tup
    obtain ⟨v, e, hv⟩ := atI_of h2 hg
    exact .inr (.inl ⟨q, vs, _, v, rfl, hy.int, same_t h1 r.ex, e, k v F H r.stp r.dr hv⟩)
  · obtain ⟨q, vs, rfl, h1, h2⟩ := hx.lst r.ex
    obtain ⟨v, e, hv⟩ := atI_of h2 hg
    exact .inl ⟨q, vs, _, v, rfl, hy.int, .of h1, e, k v F H r.stp r.dr hv⟩
def eIx := eBin idxD
theorem je_ix (ha : JB X a fa) (hb : JB X b fb) (hs : PlainIx b := by exact fun _ _ => rfl) : JE X (.Subscript a b pos) (eIx fa fb) := ⟨pe_weak (pe_ix ix_seq ha.run hb.run hs) (tOp_of s_idx)⟩
/-! ### slices -/
abbrev Eo := List Sl → Wd → Option (Option Int × Wd)
def canO (K : PySem.W.Frag) (f : Eo) : TO := fun σ H Q => ∃ Z F ds w d w', R K Z F H σ ds w ∧ f ds w = some (d, w') ∧ ∀ F' H', Stp Z.p F H F' H' → Dr Z.p F' H' w' → Q d H'
structure JO (X : Cx) (e : Option Expr) (f : Eo) : Prop where run : PO X e (canO X.K f)
theorem po_weak {e : Option Expr} {t t' : TO} (h : PO X e t) (s : ∀ σ H Q, t' σ H Q → t σ H Q) : PO X e t' := ⟨fun pins s' σ H Q I q => h.run pins s' σ H Q I (s σ H Q q)⟩
def oNo : Eo := fun _ w => some (none, w)
def oSo (f : Ev) : Eo := fun ds w => (f ds w).bind fun a => match a.1 with | .int i => some (some i, a.2) | _ => none
theorem jo_no : JO X none oNo := ⟨po_weak po_none fun σ H Q ⟨Z, F, ds, w, d, w', rr, hf, k⟩ => by cases hf; exact k F H rr.stp rr.dr⟩
theorem jo_so (h : JB X a fa) : JO X (some a) (oSo fa) := ⟨po_weak (po_some h.run) fun σ H Q ⟨Z, F, ds, w, d, w', rr, hf, k⟩ => by
  obtain ⟨⟨x, w1⟩, hx, hf⟩ := bind2 hf
  refine ⟨Z, F, ds, w, _, _, rr, hx, fun v F1 H1 s1 d1 hv => ?_⟩
  cases x with
  | int i =>
    cases hf
    exact ⟨i, hv.int, k F1 H1 s1 d1⟩
  | _ => cases hf⟩
def cutD (xs : List D) (lo hi : Option Int) : List D := (xs.drop (HT.sIx xs.length 0 lo)).take (HT.sIx xs.length xs.length hi - HT.sIx xs.length 0 lo)
theorem cut_of {p : Addr} {F : Hp} {xs : List D} {vs : List V} (h : Dens K p F xs vs) (lo hi : Option Int) : Dens K p F (cutD xs lo hi) (cutV vs lo hi) := by
  unfold cutD cutV
  rw [h.len]
  exact (h.drop _).take _
def fSl (f : Ev) (l h : Eo) : Ef := fun ds w => (f ds w).bind fun a => (l ds a.2).bind fun lo => (h ds lo.2).bind fun hi => match a.1 with | .lst xs => some (cutD xs lo.1 hi.1, hi.2) | _ => none
/-- the same of a tuple -/
def eSlT (f : Ev) (l h : Eo) : Ev := fun ds w => (f ds w).bind fun a => (l ds a.2).bind fun lo => (h ds lo.2).bind fun hi => match a.1 with | .tup xs => some (.tup (cutD xs lo.1 hi.1), hi.2) | _ => none
theorem cutD_whole {xs : List D} {lo hi : Option Int} (h : HT.sIx xs.length 0 lo = 0 ∧ HT.sIx xs.length xs.length hi = xs.length) : cutD xs lo hi = xs := by
  unfold cutD
  rw [h.1, h.2]
  simp
theorem jf_slice {lo hi : Option Expr} {l h : Eo} {p2 : Pos} (ha : JB X a fa) (hl : JO X lo l) (hh : JO X hi h) : JF X (.Subscript a (.Slice lo hi none p2) pos) (fSl fa l h) := ⟨pe_weak (pe_slice sl_list ha.run hl.run hh.run) fun σ H Q ⟨Z, F, ds, w, d, w', rr, hf, k⟩ => by
  obtain ⟨⟨x, w1⟩, hx, hf⟩ := bind2 hf
  obtain ⟨⟨lo, w2⟩, hlo, hf⟩ := bind2 hf
  obtain ⟨⟨hi, w3⟩, hhi, hf⟩ := bind2 hf
  refine ⟨Z, F, ds, w, _, _, rr, hx, fun v F1 H1 s1 d1 hv => ⟨Z, F1, ds, _, _, _, rr.step s1 d1, hlo, fun F2 H2 s2 d2 => ⟨Z, F2, ds, _, _, _, (rr.step s1 d1).step s2 d2, hhi, fun F3 H3 s3 d3 => ?_⟩⟩⟩
  cases x with
  | lst xs =>
    cases hf
    have s13 := s2.trans s3
    obtain ⟨q, vs, rfl, h1, h2⟩ := (hv.step s13).lst s3.e
    exact ⟨q, vs, rfl, .of h1, (k.go (s1.trans s13) rr.pn).new (rr.step (s1.trans s13) d3) (cut_of h2 lo hi)⟩
  | _ => cases hf⟩
theorem je_sliceT {lo hi : Option Expr} {l h : Eo} {p2 : Pos} (ha : JB X a fa) (hl : JO X lo l) (hh : JO X hi h) : JE X (.Subscript a (.Slice lo hi none p2) pos) (eSlT fa l h) := ⟨pe_weak (pe_slice sl_tupA ha.run hl.run hh.run) fun σ H Q ⟨Z, F, ds, w, d, w', rr, hf, k⟩ => by
  obtain ⟨⟨x, w1⟩, hx, hf⟩ := bind2 hf
  obtain ⟨⟨lo, w2⟩, hlo, hf⟩ := bind2 hf
  obtain ⟨⟨hi, w3⟩, hhi, hf⟩ := bind2 hf
  refine ⟨Z, F, ds, w, _, _, rr, hx, fun v F1 H1 s1 d1 hv => ⟨Z, F1, ds, _, _, _, rr.step s1 d1, hlo, fun F2 H2 s2 d2 => ⟨Z, F2, ds, _, _, _, (rr.step s1 d1).step s2 d2, hhi, fun F3 H3 s3 d3 => ?_⟩⟩⟩
  cases x with
  | tup xs =>
    cases hf
    have s13 := s2.trans s3
    have r3 := rr.step (s1.trans s13) d3
    obtain ⟨q, vs, rfl, h1, h2⟩ := (hv.step s13).tup
    refine ⟨q, vs, rfl, same_t h1 r3.ex, fun e => ?_, fun _ t ht => ?_⟩
    · rw [h2.len] at e
      rw [cutD_whole e] at k
      exact k _ F3 H3 (s1.trans s13) d3 (den_tup h1 h2)
    · obtain ⟨s4, d4⟩ := r3.new (o := .tup (cutV vs lo hi)) ht
      exact k _ _ _ ((s1.trans s13).trans s4) d4 (den_tup (.inl upd_same) ((cut_of h2 lo hi).mono s4.f))
  | _ => cases hf⟩
def fRev (f : Ev) : Ef := fun ds w => (f ds w).bind fun a => match a.1 with | .lst xs => some (xs.reverse, a.2) | _ => none
theorem jf_rev {n : Nat} {p1 p2 p3 : Pos} (ha : JB X a fa) : JF X (.Subscript a (.Slice none none (some (.UnaryOp .USub (.Constant (.int 1) n p1) p2)) p3) pos) (fRev fa) := ⟨pe_weak (pe_revL ha.run) fun σ H Q ⟨Z, F, ds, w, d, w', rr, hf, k⟩ => by
  obtain ⟨⟨x, w1⟩, hx, hf⟩ := bind2 hf
  refine ⟨Z, F, ds, w, _, _, rr, hx, fun v F1 H1 s1 d1 hv => ?_⟩
  cases x with
  | lst xs =>
    cases hf
    obtain ⟨q, vs, rfl, h1, h2⟩ := hv.lst s1.e
    exact ⟨q, vs, rfl, .of h1, (k.go s1 rr.pn).new (rr.step s1 d1) h2.rev⟩
  | _ => cases hf⟩
end
end J
namespace J
open PySem L2
/-! ### calls of built-ins: what they read is not kept -/
def CalS (K : PySem.W.Frag) (r : List V → Hp → VK → Prop) (g : List D → Option D) : Prop := ∀ (Z : Cfg) (F H : Hp) (σ : L2.St) (ds : List Sl) (w : Wd) (as : List D) (d : D) (vs : List V) (Q : VK), R K Z F H σ ds w → DensB K Z.p F H as vs → g as = some d → KD K Z.p F H w d Q → r vs H Q
def CalF (K : PySem.W.Frag) (r : List V → Hp → VK → Prop) (g : List D → Option (List D)) : Prop := ∀ (Z : Cfg) (F H : Hp) (σ : L2.St) (ds : List Sl) (w : Wd) (as xs : List D) (vs : List V) (Q : VK), R K Z F H σ ds w → DensB K Z.p F H as vs → g as = some xs → KF K Z.p F H w xs Q → r vs H Q
def eCal (g : List D → Option D) (f : Ef) : Ev := fun ds w => (f ds w).bind fun a => (g a.1).bind fun d => some (d, a.2)
def fCal (g : List D → Option (List D)) (f : Ef) : Ef := fun ds w => (f ds w).bind fun a => (g a.1).bind fun d => some (d, a.2)
section
variable {X : Cx} {K : PySem.W.Frag} {x : Str} {e : Expr} {es : List Expr} {fs : Ef} {p pos : Pos} {id T : String} {r : List V → Hp → VK → Prop} {g : List D → Option D} {gf : List D → Option (List D)}
theorem cb_of (hs : CalS K r g) (σ : L2.St) (H : Hp) (Q : VK) : canE K (eCal g fs) σ H Q → tCB r (canR K fs) σ H Q := fun ⟨Z, F, ds, w, d, w', rr, hf, k⟩ => by
  obtain ⟨a, ha, hf⟩ := bind2 hf
  obtain ⟨c, hc, hf⟩ := bind2 hf
  cases hf
  exact ⟨Z, F, ds, w, _, _, rr, ha, fun vs F1 H1 s1 d1 hv => hs Z F1 H1 σ ds _ _ _ vs Q (rr.step s1 d1) hv hc (k.go s1)⟩
theorem cbF_of (hs : CalF K r gf) (σ : L2.St) (H : Hp) (Q : VK) : canF K (fCal gf fs) σ H Q → tCB r (canR K fs) σ H Q := fun ⟨Z, F, ds, w, d, w', rr, hf, k⟩ => by
  obtain ⟨a, ha, hf⟩ := bind2 hf
  obtain ⟨c, hc, hf⟩ := bind2 hf
  cases hf
  exact ⟨Z, F, ds, w, _, _, rr, ha, fun vs F1 H1 s1 d1 hv => hs Z F1 H1 σ ds _ _ _ vs Q (rr.step s1 d1) hv hc (k.go s1 rr.pn)⟩
theorem je_bltO (hc : CallR X (.builtin id) r) (hs : CalS X.K r g) (hg : Gl X x) (hm : X.mg x = none) (hv : bootBuiltins x = some (.builtin id)) (ha : JR X (e :: es) fs) (hn : x ≠ "__name__" := by decide) (hdb : (x == ("__debug__" : Str)) = false := by decide)
    (he : starEach (e :: es) X.env = (false, eval e X.env) :: starEach es X.env := by rfl) (hpl : (backTo pos (starEach es X.env)).any (·.1) = false := by rfl) : JE X (.Call (.Name x p) (e :: es) [] pos) (eCal g fs) :=
  ⟨pe_weak (pe_callB hc hg hm hv ha.run hn hdb he hpl) (cb_of hs)⟩
theorem je_typO (hc : CallR X (.type T) r) (hs : CalS X.K r g) (hg : Gl X x) (hm : X.mg x = none) (hv : bootBuiltins x = some (.type T)) (ha : JR X (e :: es) fs) (hn : x ≠ "__name__" := by decide) (hdb : (x == ("__debug__" : Str)) = false := by decide)
    (he : starEach (e :: es) X.env = (false, eval e X.env) :: starEach es X.env := by rfl) (hpl : (backTo pos (starEach es X.env)).any (·.1) = false := by rfl) : JE X (.Call (.Name x p) (e :: es) [] pos) (eCal g fs) :=
  ⟨pe_weak (pe_callTy hc hg hm hv ha.run hn hdb he hpl) (cb_of hs)⟩
theorem jf_bltO (hc : CallR X (.builtin id) r) (hs : CalF X.K r gf) (hg : Gl X x) (hm : X.mg x = none) (hv : bootBuiltins x = some (.builtin id)) (ha : JR X (e :: es) fs) (hn : x ≠ "__name__" := by decide) (hdb : (x == ("__debug__" : Str)) = false := by decide)
    (he : starEach (e :: es) X.env = (false, eval e X.env) :: starEach es X.env := by rfl) (hpl : (backTo pos (starEach es X.env)).any (·.1) = false := by rfl) : JF X (.Call (.Name x p) (e :: es) [] pos) (fCal gf fs) :=
  ⟨pe_weak (pe_callB hc hg hm hv ha.run hn hdb he hpl) (cbF_of hs)⟩
theorem jf_typO (hc : CallR X (.type T) r) (hs : CalF X.K r gf) (hg : Gl X x) (hm : X.mg x = none) (hv : bootBuiltins x = some (.type T)) (ha : JR X (e :: es) fs) (hn : x ≠ "__name__" := by decide) (hdb : (x == ("__debug__" : Str)) = false := by decide)
    (he : starEach (e :: es) X.env = (false, eval e X.env) :: starEach es X.env := by rfl) (hpl : (backTo pos (starEach es X.env)).any (·.1) = false := by rfl) : JF X (.Call (.Name x p) (e :: es) [] pos) (fCal gf fs) :=
  ⟨pe_weak (pe_callTy hc hg hm hv ha.run hn hdb he hpl) (cbF_of hs)⟩
end
/-! ### the built-ins -/
theorem densB1 {K : PySem.W.Frag} {p : Addr} {F H : Hp} {d : D} {vs : List V} (h : DensB K p F H [d] vs) : ∃ v, vs = [v] ∧ DenB K p F H d v := by
  obtain ⟨v, r, rfl, h1, h2⟩ := h
  cases (show r = [] from h2)
  exact ⟨v, rfl, h1⟩
theorem densB2 {K : PySem.W.Frag} {p : Addr} {F H : Hp} {d e : D} {vs : List V} (h : DensB K p F H [d, e] vs) : ∃ v u, vs = [v, u] ∧ DenB K p F H d v ∧ DenB K p F H e u := by
  obtain ⟨v, r, rfl, h1, h2⟩ := h
  obtain ⟨u, rfl, h3⟩ := densB1 h2
  exact ⟨v, u, rfl, h1, h3⟩
def gLen : List D → Option D
  | [.lst xs] => some (.int (xs.length : Int))
  | [.tup xs] => some (.int (xs.length : Int))
  | [.str s] => if s.length ≤ line then some (.int (s.length : Int)) else none
  | _ => none
def rLenJ (K : PySem.W.Frag) : List V → Hp → VK → Prop := fun xs H Q => (∃ p ys, xs = [.ref p] ∧ (SqL K H p ys ∨ SqT K H p ys) ∧ Q (.int ys.length) H) ∨ (∃ z, xs = [.str z] ∧ z.length ≤ sizeLine ∧ Q (.int z.length) H)
section
variable {K : PySem.W.Frag}
theorem s_len : CalS K (rLenJ K) gLen := fun Z F H σ ds w as d vs Q r h hg k => by
  unfold gLen at hg
  split at hg
  · cases hg
    obtain ⟨v, rfl, hv⟩ := densB1 h
    obtain ⟨q, us, rfl, h1, h2⟩ := hv.lst r.ex
    exact .inl ⟨q, us, rfl, .inl (.of h1), by rw [h2.len]; exact k _ F H r.stp r.dr den_int⟩
  · cases hg
    obtain ⟨v, rfl, hv⟩ := densB1 h
    obtain ⟨q, us, rfl, h1, h2⟩ := hv.tup
    exact .inl ⟨q, us, rfl, .inr (same_t h1 r.ex), by rw [h2.len]; exact k _ F H r.stp r.dr den_int⟩
  · split at hg
    · rename_i hl
      cases hg
      obtain ⟨v, rfl, hv⟩ := densB1 h
      cases hv.str
      exact .inr ⟨_, rfl, sz_of hl, k _ F H r.stp r.dr den_int⟩
    · cases hg
  · cases hg
def gInt2 (f : Int → Int → Int) : List D → Option D
  | [.int i, .int j] => some (.int (f i j))
  | _ => none
theorem s_int2 (f : Int → Int → Int) : CalS K (fun xs H Q => ∃ i j, xs = [.int i, .int j] ∧ Q (.int (f i j)) H) (gInt2 f) := fun Z F H σ ds w as d vs Q r h hg k => by
  unfold gInt2 at hg
  split at hg
  · cases hg
    obtain ⟨v, u, rfl, h1, h2⟩ := densB2 h
    cases h1.int
    cases h2.int
    exact ⟨_, _, rfl, k _ F H r.stp r.dr den_int⟩
  · cases hg
def gInt : List D → Option D
  | [.int i] => some (.int i)
  | [.bl b] => some (.int (if b then 1 else 0))
  | _ => none
theorem s_int : CalS K (fun xs H Q => (∃ i, xs = [.int i] ∧ Q (.int i) H) ∨ ∃ k, xs = [.bl k] ∧ Q (.int (if k then 1 else 0)) H) gInt := fun Z F H σ ds w as d vs Q r h hg k => by
  unfold gInt at hg
  split at hg
  · cases hg
    obtain ⟨v, rfl, h1⟩ := densB1 h
    cases h1.int
    exact .inl ⟨_, rfl, k _ F H r.stp r.dr den_int⟩
  · cases hg
    obtain ⟨v, rfl, h1⟩ := densB1 h
    cases h1.bl
    exact .inr ⟨_, rfl, k _ F H r.stp r.dr den_int⟩
  · cases hg
/-! lists of ints, of truths -/
def intsOf : List D → Option (List Int)
  | [] => some []
  | .int i :: r => (intsOf r).bind fun l => some (i :: l)
  | _ :: _ => none
def blsOf : List D → Option (List Bool)
  | [] => some []
  | .bl i :: r => (blsOf r).bind fun l => some (i :: l)
  | _ :: _ => none
theorem intsOf_eq : ∀ {ds : List D} {ns : List Int}, intsOf ds = some ns → ds = ns.map D.int
  | [], ns, h => by cases h; rfl
  | .int i :: r, ns, h => by
    obtain ⟨l, h1, h2⟩ := bind2 (show (intsOf r).bind _ = _ from h)
    cases h2
    rw [List.map_cons, intsOf_eq h1]
  | .non :: r, ns, h => by cases h
  | .bl _ :: r, ns, h => by cases h
  | .str _ :: r, ns, h => by cases h
  | .ty _ :: r, ns, h => by cases h
  | .draw :: r, ns, h => by cases h
  | .tup _ :: r, ns, h => by cases h
  | .lst _ :: r, ns, h => by cases h
theorem intsOf_map : ∀ ns : List Int, intsOf (ns.map D.int) = some ns
  | [] => rfl
  | n :: ns => by
    show (intsOf (ns.map D.int)).bind _ = _
    rw [intsOf_map ns]
    rfl
theorem blsOf_eq : ∀ {ds : List D} {ns : List Bool}, blsOf ds = some ns → ds = ns.map D.bl
  | [], ns, h => by cases h; rfl
  | .bl i :: r, ns, h => by
    obtain ⟨l, h1, h2⟩ := bind2 (show (blsOf r).bind _ = _ from h)
    cases h2
    rw [List.map_cons, blsOf_eq h1]
  | .non :: r, ns, h => by cases h
  | .int _ :: r, ns, h => by cases h
  | .str _ :: r, ns, h => by cases h
  | .ty _ :: r, ns, h => by cases h
  | .draw :: r, ns, h => by cases h
  | .tup _ :: r, ns, h => by cases h
  | .lst _ :: r, ns, h => by cases h
theorem blsOf_map : ∀ ns : List Bool, blsOf (ns.map D.bl) = some ns
  | [] => rfl
  | n :: ns => by
    show (blsOf (ns.map D.bl)).bind _ = _
    rw [blsOf_map ns]
    rfl
theorem lstInts {p : Addr} {F H : Hp} {xs : List D} {ns : List Int} {v : V} (h : DenB K p F H (.lst xs) v) (e : Same F H) (hi : intsOf xs = some ns) : ∃ a, v = .ref a ∧ SqL K H a (ns.map V.int) := by
  obtain ⟨q, us, rfl, h1, h2⟩ := h.lst e
  rw [intsOf_eq hi] at h2
  rw [h2.ints'] at h1
  exact ⟨q, rfl, .of h1⟩
theorem lstBls {p : Addr} {F H : Hp} {xs : List D} {ns : List Bool} {v : V} (h : DenB K p F H (.lst xs) v) (e : Same F H) (hi : blsOf xs = some ns) : ∃ a, v = .ref a ∧ SqL K H a (ns.map V.bl) := by
  obtain ⟨q, us, rfl, h1, h2⟩ := h.lst e
  rw [blsOf_eq hi] at h2
  rw [h2.bls'] at h1
  exact ⟨q, rfl, .of h1⟩
def gSum : List D → Option D
  | [.lst xs] => (intsOf xs).bind fun ns => some (.int ns.sum)
  | _ => none
theorem s_sum : CalS K (rSum K) gSum := fun Z F H σ ds w as d vs Q r h hg k => by
  unfold gSum at hg
  split at hg
  · obtain ⟨ns, h1, h2⟩ := bind2 hg
    cases h2
    obtain ⟨v, rfl, hv⟩ := densB1 h
    obtain ⟨a, rfl, h3⟩ := lstInts hv r.ex h1
    exact ⟨a, ns, rfl, h3, k _ F H r.stp r.dr den_int⟩
  · cases hg
def gAll : List D → Option D
  | [.lst xs] => (blsOf xs).bind fun ns => some (.bl (ns.all id))
  | _ => none
def gAny : List D → Option D
  | [.lst xs] => (blsOf xs).bind fun ns => some (.bl (ns.any id))
  | _ => none
theorem s_all : CalS K (rAll K) gAll := fun Z F H σ ds w as d vs Q r h hg k => by
  unfold gAll at hg
  split at hg
  · obtain ⟨ns, h1, h2⟩ := bind2 hg
    cases h2
    obtain ⟨v, rfl, hv⟩ := densB1 h
    obtain ⟨a, rfl, h3⟩ := lstBls hv r.ex h1
    exact ⟨a, ns, rfl, h3, k _ F H r.stp r.dr den_bl⟩
  · cases hg
theorem s_any : CalS K (rAny K) gAny := fun Z F H σ ds w as d vs Q r h hg k => by
  unfold gAny at hg
  split at hg
  · obtain ⟨ns, h1, h2⟩ := bind2 hg
    cases h2
    obtain ⟨v, rfl, hv⟩ := densB1 h
    obtain ⟨a, rfl, h3⟩ := lstBls hv r.ex h1
    exact ⟨a, ns, rfl, h3, k _ F H r.stp r.dr den_bl⟩
  · cases hg
/-- the greatest, the least of some ints -/
def maxI : List Int → Int
  | [] => 0
  | n :: ns => ns.foldl max n
def minI : List Int → Int
  | [] => 0
  | n :: ns => ns.foldl min n
theorem maxI_spec : ∀ (ns : List Int) (n : Int), (ns.foldl max n ∈ n :: ns) ∧ ∀ y ∈ n :: ns, y ≤ ns.foldl max n
  | [], n => ⟨by simp, by simp⟩
  | m :: ns, n => by
    obtain ⟨h1, h2⟩ := maxI_spec ns (max n m)
    rw [List.foldl_cons]
    refine ⟨?_, fun y hy => ?_⟩
    · rcases List.mem_cons.mp h1 with e | e
      · rw [e]
        rcases Int.le_total n m with h | h
        · rw [Int.max_eq_right h]; simp
        · rw [Int.max_eq_left h]; simp
      · exact List.mem_cons_of_mem _ (List.mem_cons_of_mem _ e)
    · have h3 := h2 (max n m) (by simp)
      rcases List.mem_cons.mp hy with e | e
      · subst e; omega
      · rcases List.mem_cons.mp e with e | e
        · subst e; omega
        · exact h2 y (List.mem_cons_of_mem _ e)
theorem minI_spec : ∀ (ns : List Int) (n : Int), (ns.foldl min n ∈ n :: ns) ∧ ∀ y ∈ n :: ns, ns.foldl min n ≤ y
  | [], n => ⟨by simp, by simp⟩
  | m :: ns, n => by
    obtain ⟨h1, h2⟩ := minI_spec ns (min n m)
    rw [List.foldl_cons]
    refine ⟨?_, fun y hy => ?_⟩
    · rcases List.mem_cons.mp h1 with e | e
      · rw [e]
        rcases Int.le_total n m with h | h
        · rw [Int.min_eq_left h]; simp
        · rw [Int.min_eq_right h]; simp
      · exact List.mem_cons_of_mem _ (List.mem_cons_of_mem _ e)
    · have h3 := h2 (min n m) (by simp)
      rcases List.mem_cons.mp hy with e | e
      · subst e; omega
      · rcases List.mem_cons.mp e with e | e
        · subst e; omega
        · exact h2 y (List.mem_cons_of_mem _ e)
theorem maxI_eq {ns : List Int} {m : Int} (h : m ∈ ns) (hm : ∀ y ∈ ns, y ≤ m) : m = maxI ns := by
  cases ns with
  | nil => cases h
  | cons n ns =>
    obtain ⟨h1, h2⟩ := maxI_spec ns n
    exact Int.le_antisymm (h2 m h) (hm _ h1)
theorem minI_eq {ns : List Int} {m : Int} (h : m ∈ ns) (hm : ∀ y ∈ ns, m ≤ y) : m = minI ns := by
  cases ns with
  | nil => cases h
  | cons n ns =>
    obtain ⟨h1, h2⟩ := minI_spec ns n
    exact Int.le_antisymm (hm _ h1) (h2 m h)
def gMaxL : List D → Option D
  | [.lst xs] => (intsOf xs).bind fun ns => if 0 < ns.length then some (.int (maxI ns)) else none
  | _ => none
def gMinL : List D → Option D
  | [.lst xs] => (intsOf xs).bind fun ns => if 0 < ns.length then some (.int (minI ns)) else none
  | _ => none
theorem s_maxL : CalS K (rMax K) gMaxL := fun Z F H σ ds w as d vs Q r h hg k => by
  unfold gMaxL at hg
  split at hg
  · obtain ⟨ns, h1, h2⟩ := bind2 hg
    split at h2
    · rename_i hp
      cases h2
      obtain ⟨v, rfl, hv⟩ := densB1 h
      obtain ⟨a, rfl, h3⟩ := lstInts hv r.ex h1
      exact ⟨a, ns, rfl, h3, hp, fun m hm hy => by rw [maxI_eq hm hy]; exact k _ F H r.stp r.dr den_int⟩
    · cases h2
  · cases hg
theorem s_minL : CalS K (rMin K) gMinL := fun Z F H σ ds w as d vs Q r h hg k => by
  unfold gMinL at hg
  split at hg
  · obtain ⟨ns, h1, h2⟩ := bind2 hg
    split at h2
    · rename_i hp
      cases h2
      obtain ⟨v, rfl, hv⟩ := densB1 h
      obtain ⟨a, rfl, h3⟩ := lstInts hv r.ex h1
      exact ⟨a, ns, rfl, h3, hp, fun m hm hy => by rw [minI_eq hm hy]; exact k _ F H r.stp r.dr den_int⟩
    · cases h2
  · cases hg
def f2max (i j : Int) : Int := if j > i then j else i
def f2min (i j : Int) : Int := if j < i then j else i
def gMax : List D → Option D
  | [.int i, .int j] => some (.int (f2max i j))
  | as => gMaxL as
def gMin : List D → Option D
  | [.int i, .int j] => some (.int (f2min i j))
  | as => gMinL as
theorem s_max : CalS K (fun xs H Q => (∃ i j, xs = [.int i, .int j] ∧ Q (.int (f2max i j)) H) ∨ rMax K xs H Q) gMax := fun Z F H σ ds w as d vs Q r h hg k => by
  unfold gMax at hg
  split at hg
  · cases hg
    exact .inl (s_int2 f2max Z F H σ ds w _ _ vs Q r h rfl k)
  · exact .inr (s_maxL Z F H σ ds w _ _ vs Q r h hg k)
theorem s_min : CalS K (fun xs H Q => (∃ i j, xs = [.int i, .int j] ∧ Q (.int (f2min i j)) H) ∨ rMin K xs H Q) gMin := fun Z F H σ ds w as d vs Q r h hg k => by
  unfold gMin at hg
  split at hg
  · cases hg
    exact .inl (s_int2 f2min Z F H σ ds w _ _ vs Q r h rfl k)
  · exact .inr (s_minL Z F H σ ds w _ _ vs Q r h hg k)
/-- list(x), tuple(x) -/
def gfList : List D → Option (List D)
  | [.lst xs] => some xs
  | [.tup xs] => some xs
  | _ => none
theorem s_list : CalF K (fun xs H Q => ∃ p ys, xs = [.ref p] ∧ (SqL K H p ys ∨ SqT K H p ys) ∧ ∀ l, H l = none → Q (.ref l) (upd H l (.lst ys))) gfList := fun Z F H σ ds w as xs vs Q r h hg k => by
  unfold gfList at hg
  split at hg
  · cases hg
    obtain ⟨v, rfl, hv⟩ := densB1 h
    obtain ⟨q, us, rfl, h1, h2⟩ := hv.lst r.ex
    exact ⟨q, us, rfl, .inl (.of h1), k.new r h2⟩
  · cases hg
    obtain ⟨v, rfl, hv⟩ := densB1 h
    obtain ⟨q, us, rfl, h1, h2⟩ := hv.tup
    exact ⟨q, us, rfl, .inr (same_t h1 r.ex), k.new r h2⟩
  · cases hg
def gTuple : List D → Option D
  | [.lst xs] => some (.tup xs)
  | [.tup xs] => some (.tup xs)
  | _ => none
theorem s_tuple : CalS K (fun xs H Q => ∃ p ys, xs = [.ref p] ∧ ((SqL K H p ys ∧ ∀ l, H l = none → Q (.ref l) (upd H l (.tup ys))) ∨ (SqT K H p ys ∧ Q (.ref p) H))) gTuple := fun Z F H σ ds w as d vs Q r h hg k => by
  unfold gTuple at hg
  split at hg
  · cases hg
    obtain ⟨v, rfl, hv⟩ := densB1 h
    obtain ⟨q, us, rfl, h1, h2⟩ := hv.lst r.ex
    refine ⟨q, us, rfl, .inl ⟨.of h1, fun t ht => ?_⟩⟩
    obtain ⟨s4, d4⟩ := r.new (o := .tup us) ht
    exact k _ _ _ s4 d4 (den_tup (.inl upd_same) (h2.mono s4.f))
  · cases hg
    obtain ⟨v, rfl, hv⟩ := densB1 h
    obtain ⟨q, us, rfl, h1, h2⟩ := hv.tup
    exact ⟨q, us, rfl, .inr ⟨same_t h1 r.ex, k _ F H r.stp r.dr (den_tup h1 h2)⟩⟩
  · cases hg
/-- sorted(x) of ints -/
def sortI (ns : List Int) : List Int := ns.mergeSort (fun a b => decide (a ≤ b))
theorem sortI_perm (ns : List Int) : (sortI ns).Perm ns := List.mergeSort_perm ns _
theorem sortI_pair (ns : List Int) : (sortI ns).Pairwise (· ≤ ·) := by
  have h := List.pairwise_mergeSort (le := fun a b : Int => decide (a ≤ b)) (fun a b c h1 h2 => by simp at h1 h2 ⊢; omega) (fun a b => by simp; omega) ns
  exact h.imp fun h => of_decide_eq_true h
def gfSorted : List D → Option (List D)
  | [.lst xs] => (intsOf xs).bind fun ns => some ((sortI ns).map D.int)
  | _ => none
theorem s_sorted : CalF K (rSortedI K) gfSorted := fun Z F H σ ds w as xs vs Q r h hg k => by
  unfold gfSorted at hg
  split at hg
  · obtain ⟨ns, h1, h2⟩ := bind2 hg
    cases h2
    obtain ⟨v, rfl, hv⟩ := densB1 h
    obtain ⟨a, rfl, h3⟩ := lstInts hv r.ex h1
    refine ⟨a, ns, rfl, h3, fun ns' p hp hs hn => ?_⟩
    have e : ns' = sortI ns := PySem.W.ksm_same (hp.trans (sortI_perm ns).symm) hs (sortI_pair ns)
    rw [e]
    exact k.new r (Dens.ints _) p hn
  · cases hg
/-! isinstance -/
def tyName : D → Option String
  | .non => some "NoneType" | .bl _ => some "bool" | .int _ => some "int" | .str _ => some "str" | .tup _ => some "tuple" | .lst _ => some "list" | .dk _ _ => some "dict" | _ => none
def isiD (d : D) (n : String) : Option Bool := (tyName d).bind fun t => kitB t n
theorem tyx_of {p : Addr} {F H : Hp} {d : D} {v : V} {t : String} (h : DenB K p F H d v) (e : Same F H) (ht : tyName d = some t) : TyX K H v (.type t) := by
  cases d with
  | non => cases ht; rw [h.non]; exact .base .non
  | bl b => cases ht; rw [h.bl]; exact .base (.bl b)
  | int b => cases ht; rw [h.int]; exact .base (.int b)
  | str b => cases ht; rw [h.str]; exact .base (.str b)
  | tup b =>
    cases ht
    obtain ⟨q, us, rfl, h1, h2⟩ := h.tup
    rcases h1 with h1 | h1 | ⟨o, its, n, h1, h3, _⟩
    · exact .base (.tup (e _ _ h1))
    · rcases h1 with h1 | ⟨o, h1⟩ <;> cases h1
    · exact .kTuple h1 h3
  | lst b =>
    cases ht
    obtain ⟨q, us, rfl, h1, h2⟩ := h.lst e
    exact .base (.lst h1)
  | ty _ => cases ht
  | draw => cases ht
  | obj _ _ _ => cases ht
  | dt _ _ => cases ht
  | dk ks ds =>
    cases ht
    rcases h with h | ⟨_, _, q, _⟩ | ⟨a, x, q, rfl, o⟩
    · unfold Den at h
      obtain ⟨a, o, vs, rfl, _, h1, _⟩ := h
      exact .fDict (e _ _ h1)
    · cases q
    · cases x with
      | t _ _ => cases q
      | k ks' ds' =>
        obtain ⟨_, vs, h1, _⟩ := o
        exact .base (.dK h1)
def gIsi : List D → Option D
  | [d, .ty n] => (isiD d n).bind fun b => some (.bl b)
  | _ => none
theorem s_isi : CalS K (rIsi K) gIsi := fun Z F H σ ds w as d vs Q r h hg k => by
  unfold gIsi at hg
  split at hg
  · rename_i d0 n0
    obtain ⟨b, h1, h2⟩ := bind2 hg
    cases h2
    obtain ⟨t, h3, h4⟩ := bind2 h1
    obtain ⟨v, u, rfl, hv, hu⟩ := densB2 h
    have hu' : u = .ty n0 := by
      rcases hu with hu | ⟨_, _, q, _⟩ | ⟨_, x, q, _⟩
      · unfold Den at hu
        exact hu
      · cases q
      · cases x <;> cases q
    subst hu'
    exact ⟨v, _, _, _, b, rfl, .ty n0, tyx_of hv r.ex h3, kit_ty h4, k _ F H r.stp r.dr den_bl⟩
  · cases hg
end
section
variable {X : Cx} {K : PySem.W.Frag} {e : Expr} {es : List Expr} {fs : Ef} {p pos : Pos} {f : Ev}
def eLen := eCal gLen
theorem je_len (hm : X.mg "len" = none) (hg : Gl X "len") (ha : JR X [e] fs) (he : starEach [e] X.env = (false, eval e X.env) :: starEach [] X.env := by rfl) : JE X (.Call (.Name "len" p) [e] [] pos) (eLen fs) := je_bltO (CallR.or call_len_seq call_len_str) s_len hg hm boot_len ha (by decide) (by decide) he rfl
def eMin := eCal gMin
def eMax := eCal gMax
theorem je_min (hc : X.calm = true) (hm : X.mg "min" = none) (hg : Gl X "min") (ha : JR X (e :: es) fs) (he : starEach (e :: es) X.env = (false, eval e X.env) :: starEach es X.env := by rfl) (hpl : (backTo pos (starEach es X.env)).any (·.1) = false := by rfl) : JE X (.Call (.Name "min" p) (e :: es) [] pos) (eMin fs) := je_bltO (CallR.or (call_min2 hc) (cr_min hc)) s_min hg hm (by decide +kernel) ha (by decide) (by decide) he hpl
theorem je_max (hc : X.calm = true) (hm : X.mg "max" = none) (hg : Gl X "max") (ha : JR X (e :: es) fs) (he : starEach (e :: es) X.env = (false, eval e X.env) :: starEach es X.env := by rfl) (hpl : (backTo pos (starEach es X.env)).any (·.1) = false := by rfl) : JE X (.Call (.Name "max" p) (e :: es) [] pos) (eMax fs) := je_bltO (CallR.or (call_max2 hc) (cr_max hc)) s_max hg hm (by decide +kernel) ha (by decide) (by decide) he hpl
def eInt := eCal gInt
theorem je_intc (hm : X.mg "int" = none) (hg : Gl X "int") (ha : JR X [e] fs) (he : starEach [e] X.env = (false, eval e X.env) :: starEach [] X.env := by rfl) : JE X (.Call (.Name "int" p) [e] [] pos) (eInt fs) := je_typO call_int1 s_int hg hm (by decide +kernel) ha (by decide) (by decide) he rfl
def eSum := eCal gSum
theorem je_sum (hc : X.calm = true) (hm : X.mg "sum" = none) (hg : Gl X "sum") (ha : JR X [e] fs) (he : starEach [e] X.env = (false, eval e X.env) :: starEach [] X.env := by rfl) : JE X (.Call (.Name "sum" p) [e] [] pos) (eSum fs) := je_bltO (cr_sum hc) s_sum hg hm (by decide +kernel) ha (by decide) (by decide) he rfl
def eAll := eCal gAll
theorem je_all (hc : X.calm = true) (hm : X.mg "all" = none) (hg : Gl X "all") (ha : JR X [e] fs) (he : starEach [e] X.env = (false, eval e X.env) :: starEach [] X.env := by rfl) : JE X (.Call (.Name "all" p) [e] [] pos) (eAll fs) := je_bltO (cr_all hc) s_all hg hm (by decide +kernel) ha (by decide) (by decide) he rfl
def eAny := eCal gAny
theorem je_any (hc : X.calm = true) (hm : X.mg "any" = none) (hg : Gl X "any") (ha : JR X [e] fs) (he : starEach [e] X.env = (false, eval e X.env) :: starEach [] X.env := by rfl) : JE X (.Call (.Name "any" p) [e] [] pos) (eAny fs) := je_bltO (cr_any hc) s_any hg hm (by decide +kernel) ha (by decide) (by decide) he rfl
def fList := fCal gfList
theorem jf_list (hm : X.mg "list" = none) (hg : Gl X "list") (ha : JR X [e] fs) (he : starEach [e] X.env = (false, eval e X.env) :: starEach [] X.env := by rfl) : JF X (.Call (.Name "list" p) [e] [] pos) (fList fs) := jf_typO call_list_of s_list hg hm PyProof.Rows.boot_list ha (by decide) (by decide) he rfl
def eTuple := eCal gTuple
theorem je_tuple (hm : X.mg "tuple" = none) (hg : Gl X "tuple") (ha : JR X [e] fs) (he : starEach [e] X.env = (false, eval e X.env) :: starEach [] X.env := by rfl) : JE X (.Call (.Name "tuple" p) [e] [] pos) (eTuple fs) := je_typO call_tuple_of s_tuple hg hm PyProof.Rows.boot_tuple ha (by decide) (by decide) he rfl
def fSorted := fCal gfSorted
theorem jf_sorted (hm : X.mg "sorted" = none) (hg : Gl X "sorted") (ha : JR X [e] fs) (he : starEach [e] X.env = (false, eval e X.env) :: starEach [] X.env := by rfl) : JF X (.Call (.Name "sorted" p) [e] [] pos) (fSorted fs) := jf_bltO cr_sortedI s_sorted hg hm (by decide +kernel) ha (by decide) (by decide) he rfl
def eIsi := eCal gIsi
theorem je_isi {c : Expr} (hm : X.mg "isinstance" = none) (hg : Gl X "isinstance") (ha : JR X [e, c] fs) (he : starEach [e, c] X.env = (false, eval e X.env) :: starEach [c] X.env := by rfl) (hpl : (backTo pos (starEach [c] X.env)).any (·.1) = false := by rfl) : JE X (.Call (.Name "isinstance" p) [e, c] [] pos) (eIsi fs) := je_bltO call_isi s_isi hg hm (by decide +kernel) ha (by decide) (by decide) he hpl
/-- isinstance(x, (T, U)) -/
def eIsi2 (f : Ev) (n m : String) : Ev := fun ds w => (f ds w).bind fun a => (isiD a.1 n).bind fun b => (isiD a.1 m).bind fun c => some (.bl (b || c), a.2)
theorem je_isi2 {c1 c2 : Expr} {n m : String} {kt : Nat} {pt : Pos} (hm : X.mg "isinstance" = none) (hg : Gl X "isinstance") (ha : JB X e f) (h1 : PE X c1 (tC (.ty n))) (h2 : PE X c2 (tC (.ty m)))
    (he : starEach [e, .Tuple [c1, c2] kt pt] X.env = (false, eval e X.env) :: starEach [.Tuple [c1, c2] kt pt] X.env := by rfl) (he2 : starEach [.Tuple [c1, c2] kt pt] X.env = (false, eval (.Tuple [c1, c2] kt pt) X.env) :: starEach [] X.env := by rfl)
    (hc1 : starEach [c1, c2] X.env = (false, eval c1 X.env) :: starEach [c2] X.env := by rfl) (hc2 : starEach [c2] X.env = (false, eval c2 X.env) :: starEach [] X.env := by rfl)
    (hpl : (backTo pos (starEach [.Tuple [c1, c2] kt pt] X.env)).any (·.1) = false := by rfl) : JE X (.Call (.Name "isinstance" p) [e, .Tuple [c1, c2] kt pt] [] pos) (eIsi2 f n m) :=
  ⟨pe_weak (pe_callB call_isiT hg hm (by decide +kernel) (pa_cons ha.run (pa_cons (pe_tup (pa_cons h1 (pa_cons h2 pa_nil hc2) hc1)) pa_nil he2) he) (by decide) (by decide) he hpl) fun σ H Q ⟨Z, F, ds, w, d, w', rr, hf, k⟩ => by
    obtain ⟨⟨a, w1⟩, ha, hf⟩ := bind2 hf
    obtain ⟨b, hb, hf⟩ := bind2 hf
    obtain ⟨c, hc, hf⟩ := bind2 hf
    cases hf
    refine ⟨Z, F, ds, w, _, _, rr, ha, fun v F1 H1 s1 d1 hv => ⟨by show 2 ≤ sizeLine; decide, fun t ht => ?_⟩⟩
    obtain ⟨t1, hb1, hb2⟩ := bind2 hb
    obtain ⟨t2, hc1, hc2⟩ := bind2 hc
    obtain ⟨s2, d2⟩ := (rr.step s1 d1).new (o := .tup [.ty n, .ty m]) ht
    rw [hb1] at hc1
    cases hc1
    refine ⟨v, t, [.ty n, .ty m], _, [.type n, .type m], b || c, rfl, upd_same, .cons (.ty n) (.cons (.ty m) .nil), tyx_of (hv.step s2) s2.e hb1, ?_, k _ _ _ (s1.trans s2) d2 den_bl⟩
    exact kitAny_cons (kit_ty hb2) (fun hbf => by rw [hbf]; exact kitAny_cons (kit_ty hc2) (fun hcf => by rw [hcf]; rfl) (fun hct => by rw [hct]; rfl)) (fun hbt => by rw [hbt]; rfl)⟩
/-! ### list(range(a, b, c)) -/
def rgD (a c : Int) (n : Nat) : List D := (List.range n).map fun i => D.int (a + (i : Nat) * c)
def rgVc (a c : Int) (n : Nat) : List V := (List.range n).map fun i => V.int (a + (i : Nat) * c)
theorem dens_rg {p : Addr} {F : Hp} (a c : Int) (n : Nat) : Dens K p F (rgD a c n) (rgVc a c n) := by
  have h := Dens.ints (K := K) (p := p) (F := F) ((List.range n).map fun i => a + (i : Nat) * c)
  rw [List.map_map, List.map_map] at h
  exact h
theorem vals_rgc {a c : Int} {n : Nat} {acc : Array Value} (h : ItemsOf (fun i v => ∃ t, v = .int (a + i * c) t) acc n) : Vals (rgVc a c n) acc.toList := by
  have e : acc.toList.length = n := by rw [Array.length_toList]; exact h.1
  unfold rgVc
  rw [← e]
  refine vals_of_get acc.toList _ fun j u hj => ?_
  obtain ⟨t, rfl⟩ := h.2 j u (by rw [← hj, Array.getElem?_toList])
  exact ⟨t, rfl⟩
/-- how many there are: of a range with a step above 0 -/
def rgN (a b c : Int) : Nat := (Builtin.Range.rangeSize a b c).toNat
theorem rgN_one (a b : Int) : rgN a b 1 = (b - a).toNat := by
  unfold rgN
  rw [rangeSize_one]
  split <;> omega
def small2 (a b c : Int) : Bool := decide (0 < c ∧ c < 1073741824) && Builtin.Range.small a b c && decide (rgN a b c ≤ line)
theorem rangeSize_nn {a b c : Int} (h : 0 < c) : Builtin.Range.rangeSize a b c = (rgN a b c : Nat) := by
  unfold rgN
  have : 0 ≤ Builtin.Range.rangeSize a b c := by
    unfold Builtin.Range.rangeSize
    rw [if_pos h]
    split
    · have := Int.ediv_nonneg (show 0 ≤ b - a - 1 by omega) (show 0 ≤ c by omega)
      omega
    · omega
  omega
theorem small2_one {a b : Int} (ha : -(2 ^ 62) ≤ a) (ha' : a < 2 ^ 62) (hb : -(2 ^ 62) ≤ b) (hb' : b < 2 ^ 62) (hl : (b - a).toNat ≤ line) : small2 a b 1 = true := by
  unfold small2
  rw [rgN_one, PySem.small_one ha ha' hb hb', decide_eq_true hl]
  rfl
def fRg (fa fb fc : Ev) : Ef := fun ds w => (fa ds w).bind fun a => (fb ds a.2).bind fun b => (fc ds b.2).bind fun c => match a.1, b.1, c.1 with
  | .int i, .int j, .int k => if small2 i j k then some (rgD i k (rgN i j k), c.2) else none
  | _, _, _ => none
/-- a range object's numbers -/
structure PRc (X : Cx) (e : Expr) (f : Ef) : Prop where
  run : ∀ (pins : List (Addr × Obj)) (s : Shared) (σ : L2.St) (H : Hp) (Q : Int → Int → Int → Hp → Prop), Inv X pins σ H s →
    (∃ Z F ds w xs w', R X.K Z F H σ ds w ∧ f ds w = some (xs, w') ∧ ∀ i j k F' H', Stp Z.p F H F' H' → Dr Z.p F' H' w' → small2 i j k = true → xs = rgD i k (rgN i j k) → Q i j k H') →
    wpAny (model X.prog X.w) X.A (eval e X.env) (fun x s' => ∃ r a b c t u v H', x = .ref r ∧ IsRange s'.heap r a b c t u v ∧ Inv X pins σ H' s' ∧ Q a b c H') X.xe s
section
variable {X : Cx} {a b c e : Expr} {fa fb fc : Ev} {f : Ef} {p pos : Pos}
theorem prc_3 (hg : Gl X "range") (hm : X.mg "range" = none) (ha : JB X a fa) (hb : JB X b fb) (hc : JB X c fc)
    (na : starEach [a, b, c] X.env = (false, eval a X.env) :: starEach [b, c] X.env := by rfl) (nb : starEach [b, c] X.env = (false, eval b X.env) :: starEach [c] X.env := by rfl) (nc : starEach [c] X.env = (false, eval c X.env) :: starEach [] X.env := by rfl)
    (hpl : (backTo pos (starEach [b, c] X.env)).any (·.1) = false := by rfl) : PRc X (.Call (.Name "range" p) [a, b, c] [] pos) (fRg fa fb fc) := ⟨by
  rintro pins s σ H Q I ⟨Z, F, ds, w, xs, w', rr, hf, k⟩
  obtain ⟨⟨x, w1⟩, hx, hf⟩ := bind2 hf
  obtain ⟨⟨y, w2⟩, hy, hf⟩ := bind2 hf
  obtain ⟨⟨z, w3⟩, hz, hf⟩ := bind2 hf
  refine PyProof.Rows.Call_ (ld_blt I hg hm PyProof.Rows.boot_range (PyProof.Rows.callWith_type1 (thn ((pa_cons ha.run (pa_cons hb.run (pa_cons hc.run pa_nil nc) nb) na).run pos pins s σ H (fun vs H1 => ∃ i j l, vs = [.int i, .int j, .int l] ∧ small2 i j l = true ∧ Q i j l H1) I ?_) fun us s1 ⟨vs, H1, I1, r1, q1⟩ => ?_) na hpl))
  · refine ⟨Z, F, ds, w, _, _, rr, hx, fun v F1 H1 s1 d1 hv => ⟨Z, F1, ds, _, _, _, rr.step s1 d1, hy, fun u F2 H2 s2 d2 hu => ⟨Z, F2, ds, _, _, _, (rr.step s1 d1).step s2 d2, hz, fun t F3 H3 s3 d3 ht => ?_⟩⟩⟩
    cases x <;> first | cases hf | skip
    cases y <;> first | cases hf | skip
    cases z <;> first | cases hf | skip
    dsimp only at hf
    split at hf
    · rename_i hs
      cases hf
      exact ⟨_, _, _, by rw [hv.int, hu.int, ht.int], hs, k _ _ _ F3 H3 ((s1.trans s2).trans s3) d3 hs rfl⟩
    · cases hf
  · obtain ⟨i, j, l, rfl, hs, q⟩ := q1
    have h0 := Bool.and_eq_true_iff.mp (Bool.and_eq_true_iff.mp hs).1
    have h1 : 0 < l ∧ l < 1073741824 := of_decide_eq_true h0.1
    cases r1 with
    | cons r rr =>
      cases rr with
      | cons r' rr =>
        cases rr with
        | cons r'' rr =>
          cases rr
          obtain ⟨t, rfl⟩ := r
          obtain ⟨t', rfl⟩ := r'
          obtain ⟨t'', rfl⟩ := r''
          exact PySem.call_range_3 (by omega) ⟨_, i, j, l, _, _, _, H1, rfl, IsRange.new _ _ _ _ _ _ _, I1.kept (t' := s1.toks) fun b u e => Heap.get?_push_of_some _ e, q⟩ (.inl (PyProof.noPylong_small (by omega)))⟩
theorem prc_2 (hg : Gl X "range") (hm : X.mg "range" = none) (ha : JB X a fa) (hb : JB X b fb)
    (na : starEach [a, b] X.env = (false, eval a X.env) :: starEach [b] X.env := by rfl) (nb : starEach [b] X.env = (false, eval b X.env) :: starEach [] X.env := by rfl)
    (hpl : (backTo pos (starEach [b] X.env)).any (·.1) = false := by rfl) : PRc X (.Call (.Name "range" p) [a, b] [] pos) (fRg fa fb (eC (.int 1))) := ⟨by
  rintro pins s σ H Q I ⟨Z, F, ds, w, xs, w', rr, hf, k⟩
  obtain ⟨⟨x, w1⟩, hx, hf⟩ := bind2 hf
  obtain ⟨⟨y, w2⟩, hy, hf⟩ := bind2 hf
  obtain ⟨⟨z, w3⟩, hz, hf⟩ := bind2 hf
  cases hz
  refine thn (prg_2 hg hm ha.run hb.run na nb hpl pins s σ H (fun i j H1 => Q i j 1 H1) I ?_) fun x s' ⟨r, a, b, t, u, v, H', h1, h2, h3, h4⟩ => ⟨r, a, b, 1, t, u, v, H', h1, h2, h3, h4⟩
  refine ⟨Z, F, ds, w, _, _, rr, hx, fun v F1 H1 s1 d1 hv => ⟨Z, F1, ds, _, _, _, rr.step s1 d1, hy, fun u F2 H2 s2 d2 hu => ?_⟩⟩
  cases x <;> first | cases hf | skip
  cases y <;> first | cases hf | skip
  dsimp only at hf
  split at hf
  · rename_i hs
    cases hf
    exact ⟨_, _, hv.int, hu.int, k _ _ _ F2 H2 (s1.trans s2) d2 hs rfl⟩
  · cases hf⟩
theorem prc_1 (hg : Gl X "range") (hm : X.mg "range" = none) (hb : JB X b fb)
    (nb : starEach [b] X.env = (false, eval b X.env) :: starEach [] X.env := by rfl) : PRc X (.Call (.Name "range" p) [b] [] pos) (fRg (eC (.int 0)) fb (eC (.int 1))) := ⟨by
  rintro pins s σ H Q I ⟨Z, F, ds, w, xs, w', rr, hf, k⟩
  obtain ⟨⟨x, w1⟩, hx, hf⟩ := bind2 hf
  obtain ⟨⟨y, w2⟩, hy, hf⟩ := bind2 hf
  obtain ⟨⟨z, w3⟩, hz, hf⟩ := bind2 hf
  cases hx
  cases hz
  refine thn (prg_1 hg hm hb.run nb pins s σ H (fun i j H1 => Q i j 1 H1) I ?_) fun x s' ⟨r, a, b, t, u, v, H', h1, h2, h3, h4⟩ => ⟨r, a, b, 1, t, u, v, H', h1, h2, h3, h4⟩
  refine ⟨Z, F, ds, _, _, _, rr, hy, fun u F2 H2 s2 d2 hu => ?_⟩
  cases y <;> first | cases hf | skip
  dsimp only at hf
  split at hf
  · rename_i hs
    cases hf
    exact ⟨_, hu.int, k _ _ _ F2 H2 s2 d2 hs rfl⟩
  · cases hf⟩
theorem jf_listrg (hc : X.calm = true) (hg : Gl X "list") (hm : X.mg "list" = none) (he : PRc X e f) (na : starEach [e] X.env = (false, eval e X.env) :: starEach [] X.env := by rfl) : JF X (.Call (.Name "list" p) [e] [] pos) f := ⟨⟨fun pins s σ H Q I ⟨Z, F, ds, w, xs, w', rr, hf, k⟩ => by
  refine PyProof.Rows.Call_ (ld_blt I hg hm PyProof.Rows.boot_list (PyProof.Rows.callWith_type1 (PyProof.Rows.args_cons (thn (he.run pins s σ H (fun i j l H1 => small2 i j l = true ∧ ∀ q, H1 q = none → Q (.ref q) (upd H1 q (.lst (rgVc i l (rgN i j l))))) I ⟨Z, F, ds, w, xs, w', rr, hf, fun i j l F1 H1 s1 d1 hs hx => ⟨hs, ?_⟩⟩) fun x s1 ⟨r, a, b, c, t, u, v, H1, ex, hr, I1, ok, q⟩ => PyProof.Rows.args_nil ?_) na) na))
  · subst hx
    exact (k.go s1 rr.pn).new (rr.step s1 d1) (dens_rg _ _ _)
  · subst ex
    have h0 := Bool.and_eq_true_iff.mp ok
    have h1 := Bool.and_eq_true_iff.mp h0.1
    have h2 : 0 < c ∧ c < 1073741824 := of_decide_eq_true h1.1
    have h3 : rgN a b c ≤ line := of_decide_eq_true h0.2
    refine PySem.call_list_range (n := rgN a b c) (I1.ok.hd hc) hr h1.2 (rangeSize_nn h2.1) (Nat.le_trans h3 (by decide)) fun h' tk acc c' hk e' hi => ?_
    refine ⟨.ref s1.heap.objs.size, upd H1 s1.heap.objs.size (.lst (rgVc a c (rgN a b c))), I1.laid hk (Nat.le_refl _) (show ObjOk X.prog X.w _ _ _ (.lst (rgVc a c (rgN a b c))) from ⟨?_, acc.toList, c', vals_rgc hi, ?_⟩), rfl, q _ (I1.hok.fresh (Nat.le_refl _))⟩
    · unfold rgVc; rw [List.length_map, List.length_range]; exact sz_of h3
    · rw [Array.toArray_toList]; exact e'⟩⟩
end
end
end J
namespace JT
open PySem PyProof.Rows L2
/-! enumerate of a tuple -/
theorem enumT_new (q : Addr) (zs : Array Value) (n : Nat) (dd : Option Addr) (sv : Array (Option Value)) :
    Meets (Builtin.«enumerate.__new__» ⟨[.type "enumerate", .ref q], []⟩) (fun _ Z s => s.heap.get? q = some { cls := .type "tuple", dict := dd, data := .seq zs n, slots := sv } ∧
      Z (.ok (.ret (.ref (s.heap.push { cls := .type "tuple_iterator", data := .fields #[.ref q, .int 0 0] }).objs.size)))
        { s with heap := (s.heap.push { cls := .type "tuple_iterator", data := .fields #[.ref q, .int 0 0] }).push { cls := .type "enumerate", data := .fields #[.none, .bool false, .ref s.heap.objs.size, rawInt 0, .none, .none] } }) :=
  .of_wp fun prog w A Z s hz => by
    obtain ⟨hp0, g0, d0, t0, os0⟩ := s
    obtain ⟨hq, hz⟩ := hz
    have hsub0 := sub_enumerate
    have hT0 : Heap.IsTuple (Shared.heap ⟨hp0, g0, d0, t0, os0⟩) q zs := ⟨_, hq, rfl, n, rfl⟩
    wp_walk using AutoSeq1.wpAny_loadPart' hq
    refine wpAny_stack_any fun st => wpAny_pure ?_
    split
    · rename_i c0 _ _ _ _ _
      cases (c0 == Value.type "enumerate")
      · wp_walk using AutoSeq1.wpAny_loadPart' hq, wpAny_pyIter_tuple hT0
        exact ⟨_, rfl, hz⟩
      · wp_walk using AutoSeq1.wpAny_loadPart' hq, wpAny_pyIter_tuple hT0
        exact ⟨_, rfl, hz⟩
    · wp_walk using AutoSeq1.wpAny_loadPart' hq, wpAny_pyIter_tuple hT0
      exact ⟨_, rfl, hz⟩
section
variable {prog : Program} {w : World} {A : Around} {E : Value → Shared → Prop} {s : Shared}
theorem call_enumT {q : Addr} {zs : Array Value} {Q : Value → Shared → Prop} (hL : s.heap.IsTuple q zs)
    (h : ∀ h', IsEnum h' (s.heap.objs.size + 1) s.heap.objs.size 0 .none → h'.IsTupleIter s.heap.objs.size q 0 → h'.objs.size = s.heap.objs.size + 2 →
      (∀ b o, s.heap.get? b = some o → h'.get? b = some o) → Q (.ref (s.heap.objs.size + 1)) { s with heap := h' }) : wpAny (model prog w) A (call (.type "enumerate") [.ref q]) Q E s := by
  obtain ⟨⟨c0, dd, dt, sv⟩, hq, hc0, n, hd0⟩ := hL
  replace hc0 : c0 = .type "tuple" := hc0
  replace hd0 : dt = .seq zs n := hd0
  subst hc0 hd0
  refine callType_new F.called_enumerate (by decide) (F.typeCall_enumerate_1 _) (F.newCall_enumerate_1 _) (fun o0 => F.args_object_init_2 o0 _) F.entry_enumerate_new (enumT_new q zs n dd sv) ⟨hq, ?_⟩
  have hz0 : (s.heap.push { cls := .type "tuple_iterator", data := .fields #[.ref q, .int 0 0] }).objs.size = s.heap.objs.size + 1 := Heap.size_push ..
  show _ ∧ _
  rw [hz0]
  have he0 : IsEnum ((s.heap.push { cls := .type "tuple_iterator", data := .fields #[.ref q, .int 0 0] }).push { cls := .type "enumerate", data := .fields #[.none, .bool false, .ref s.heap.objs.size, rawInt 0, .none, .none] }) (s.heap.objs.size + 1) s.heap.objs.size 0 .none := by
    have z := Heap.get?_push_size (s.heap.push { cls := .type "tuple_iterator", data := .fields #[.ref q, .int 0 0] }) (o := { cls := .type "enumerate", data := .fields #[.none, .bool false, .ref s.heap.objs.size, rawInt 0, .none, .none] }) rfl
    rw [hz0] at z
    exact z
  exact ⟨⟨_, he0, rfl⟩, h _ he0 ⟨_, Heap.get?_push_of_some _ (Heap.get?_push_size _ rfl), rfl, rfl⟩ (by rw [Heap.size_push, hz0]) fun b o x => Heap.get?_push_of_some _ (Heap.get?_push_of_some _ x)⟩
theorem pyNext_enum_endT {e it t : Addr} {i : Nat} {zs : Array Value} {old : Value} {Q : Option Value → Shared → Prop} (hh : A.handled = none) (he : IsEnum s.heap e it i old) (hit : s.heap.IsTupleIter it t i) (hl : s.heap.IsTuple t zs) (hx : zs[i]? = none)
    (hQ : ∀ h', Heap.ExtBut it s.heap h' → Q none { s with heap := h' }) : wpAny (model prog w) A (pyNext (.ref e)) Q E s := by
  have hTy : s.TypeIs (.ref e) "enumerate" := ⟨_, he, rfl⟩
  unfold pyNext
  refine wpAny_bind (wpAny_attempt (wpAny_callSpecial?_slot (name := Str.ofString "__next__") hTy F.slot_enumerate_next (wpAny_call_entry F.slot_enumerate_next hTy F.entry_enumerate_next ?_ (F.args_enumerate_next_1 _))))
  show wpAny _ _ (field (.ref e) 2 >>= _) _ _ _
  refine wpAny_bind (wpAny_field he rfl (x := .ref it) rfl (wpAny_bind (wpAny_nextOf_tuple_end hh hit hl hx fun h' x he' hx' => ?_)))
  obtain ⟨o, ho, hc⟩ := hx'
  exact wpAny_bind (wpAny_isInstance (T := "StopIteration") (b := true) ⟨o, ho, hc⟩ isSubtype_stop (wpAny_pure (hQ _ he')))
end
def IteT (K : PySem.W.Frag) (a : Addr) : It :=
  ⟨fun i H => ∃ (vs : List V) (v : V), SqT K H a vs ∧ vs[i]? = some v, fun i H v H' => ∃ T x, v = .ref T ∧ H T = none ∧ H' = upd H T (.tup [.int (i : Nat), x]) ∧ ∀ vs, SqT K H a vs → vs[i]? = some x, fun i H => ∃ vs : List V, SqT K H a vs ∧ vs.length ≤ i⟩
theorem turn_enumT {P : Program} {w : World} {K : PySem.W.Frag} {elts : List Expr} {kk : Nat} {tpos : Pos} (a e it : Addr) :
    Turn P w K (.Tuple elts kk tpos) (IteT K a) [e, it] e (fun i h => (∃ old, IsEnum h e it ((i : Nat) : Int) old) ∧ h.IsTupleIter it a i ∧ e ≠ it ∧ a ≠ it ∧ e ≠ a) where
  mem := by simp
  obj := fun i h st b hb => by
    obtain ⟨⟨o0, he⟩, ⟨o, ho, hc, hd⟩, _⟩ := st
    have eb : b = e ∨ b = it := by simpa using hb
    rcases eb with z | z
    · rw [z]
      exact ⟨_, he, fun v q => nomatch q⟩
    · rw [z]
      exact ⟨o, ho, fun v q => by rw [hd] at q; cases q⟩
  keep := fun i h h' st k => let ⟨⟨o0, he⟩, hi, hn⟩ := st; ⟨⟨o0, k e (by simp) _ he⟩, hi.at fun o q => k it (by simp) o q, hn⟩
  item := by
    intro X hP hw hK hc i pins s σ H E I hf st hg
    subst hP hw hK
    obtain ⟨⟨o0, he⟩, hit, hne, hna, hea⟩ := st
    obtain ⟨vs, x, hq, hx⟩ := hg
    obtain ⟨its, rv, p, hz⟩ := I.tuple hq
    obtain ⟨u, hu, ru⟩ := rv.get hx
    have hel : e < s.heap.objs.size := Heap.lt_size he
    have hil : it < s.heap.objs.size := by obtain ⟨_, q, _⟩ := hit; exact Heap.lt_size q
    have hilt : i < its.toArray.size := by
      rw [List.size_toArray]
      exact (List.getElem?_eq_some_iff.mp hu).1
    refine wpAny_pyNext_enum_itemD (Draws.tuple (A := X.A.in1) (show X.A.in1.handled = none from I.ok.hd hc) it a hna its.toArray) he ⟨hit, p⟩ hilt hne (by simp [hne, hea]) fun y h' tk hy ho hst hT hsz hk => ?_
    have ey : y = u := by
      have hy' : its.toArray[i]? = some y := hy
      rw [List.getElem?_toArray, hu] at hy'
      exact (Option.some.inj hy').symm
    subst ey
    refine ⟨_, rfl, wpAny_letOwnedTupleGo_enum (s := { s with heap := h', toks := tk + 1 }) ho fun h'' he' sb => ?_⟩
    have hT2 := (sb.2 _ (Nat.ne_of_gt hel)).trans hT
    have new : ObjOk X.prog X.w (upd H s.heap.objs.size (.tup [.int (i : Nat), x])) h'' s.heap.objs.size (.tup [.int (i : Nat), x]) :=
      ⟨by show 2 ≤ sizeLine; decide, [.int i tk, y], .cons ⟨_, rfl⟩ (.cons ru .nil), ⟨_, hT2, rfl, _, rfl⟩⟩
    have I1 : Inv X pins σ (upd H s.heap.objs.size (.tup [.int (i : Nat), x])) { s with heap := h'', toks := tk + 1 } :=
      I.turnedNew (ch := [e, it]) (fun b ob hb q => (sb.2 b (fun z => hb (by simp [z]))).trans (hk b ob (fun z => hb (by simp [z])) (fun z => hb (by simp [z])) q)) hf (Nat.le_refl _) new
    refine ⟨.ref s.heap.objs.size, _, I1, rfl, ⟨_, x, rfl, I.hok.fresh (Nat.le_refl _), rfl, fun ys hy => by rw [I.tuple_inj hy hq]; exact hx⟩, ⟨⟨y, ?_⟩, hst.1.at fun o q => (sb.2 it (Ne.symm hne)).trans q, hne, hna, hea⟩, fun b hb => ?_⟩
    · have e1 : ((i + 1 : Nat) : Int) = (i : Int) + 1 := by omega
      rw [e1]
      exact he'
    · have hb' : b < s.heap.objs.size := by
        have eb : b = e ∨ b = it := by simpa using hb
        rcases eb with z | z
        · rw [z]
          exact hel
        · rw [z]
          exact hil
      rw [upd_ne (Nat.ne_of_lt hb')]
      exact (hf b hb).1
  done := by
    intro X hP hw hK hc i pins s σ H E I hf st hg
    subst hP hw hK
    obtain ⟨⟨o0, he⟩, hit, hne, hna, hea⟩ := st
    obtain ⟨vs, hq, hx⟩ := hg
    obtain ⟨its, rv, p, hz⟩ := I.tuple hq
    obtain ⟨f0, f1, f2, f3, f4, f5⟩ := hf it (by simp)
    have hl := rv.length
    refine pyNext_enum_endT (I.ok.hd hc) he hit p (by rw [Array.getElem?_eq_none]; rw [List.size_toArray]; omega) fun h' eb => ⟨rfl, I.turned (t' := s.toks) (fun b o hb q => eb b o hb q) f0 f1 f3 f4 f5⟩
  self := fun A i s Q E st h => let ⟨⟨_, he⟩, _⟩ := st; wpAny_pyIter_enum he h
end JT
namespace J
open PySem PyProof.Rows L2
/-! ### what a loop walks -/
/-- J gives the data xs, one a turn, while what stands at A stays -/
def Src (K : PySem.W.Frag) (p : Addr) (T : It) (F' H' : Hp) (A : List (Addr × HO)) (xs : List D) : Prop :=
  (∀ q ∈ A, H' q.1 = some q.2 ∧ q.1 ≠ p) ∧
  ∀ F2 H2, (∀ q ∈ A, H2 q.1 = some q.2) → Same F' F2 → Same F2 H2 → F2 p = none → (∃ o, H2 p = some o) → ∀ i,
    (xs.length ≤ i → T.stop i H2) ∧ (∀ d, xs[i]? = some d → T.go i H2 ∧ ∀ x H3, T.yld i H2 x H3 → Same H2 H3 ∧ ∃ F3, Stp p F2 H2 F3 H3 ∧ Den K p F3 d x)
def canI (K : PySem.W.Frag) (b : Bool) (f : Ef) : TI := fun σ H Rk => ∃ Z F ds w xs w', R K Z F H σ ds w ∧ f ds w = some (xs, w') ∧ ∀ T F' H' A, Stp Z.p F H F' H' → Dr Z.p F' H' w' → (b = false → A = []) → Src K Z.p T F' H' A xs → Rk T H'
structure JI (X : Cx) (tg iter : Expr) (b : Bool) (f : Ef) : Prop where run : PI X tg iter (canI X.K b f)
theorem pi_weak {X : Cx} {tg e : Expr} {t t' : TI} (h : PI X tg e t) (s : ∀ σ H Q, t' σ H Q → t σ H Q) : PI X tg e t' := ⟨fun pins s' σ H Q I q => h.run pins s' σ H Q I (s σ H Q q)⟩
section
variable {K : PySem.W.Frag} {p : Addr} {F H : Hp} {xs : List D} {vs : List V} {a : Addr}
theorem src_list (h : H a = some (.lst vs)) (n : a ≠ p) (d : Dens K p F xs vs) : Src K p (Itl K a) F H [(a, .lst vs)] xs := by
  refine ⟨fun q hq => ?_, fun F2 H2 hA e1 e2 hp _ i => ⟨fun hi => ⟨vs, .of (hA _ (List.Mem.head _)), by rw [d.len]; exact hi⟩, fun x hx => ?_⟩⟩
  · cases List.mem_singleton.mp hq
    exact ⟨h, n⟩
  · obtain ⟨v, h1, h2⟩ := d.get hx
    have hv : SqL K H2 a vs := .of (hA _ (List.Mem.head _))
    refine ⟨⟨vs, v, hv, h1⟩, fun y H3 ⟨e3, hy⟩ => ?_⟩
    subst e3
    have := hy vs hv
    rw [h1] at this
    cases this
    exact ⟨Same.refl _, F2, Stp.refl e2 hp, Den.mono e1 _ _ h2⟩
theorem src_listF (h : F a = some (.lst vs)) (d : Dens K p F xs vs) : Src K p (Itl K a) F H [] xs := by
  refine ⟨fun q hq => (nomatch hq), fun F2 H2 hA e1 e2 hp _ i => ⟨fun hi => ⟨vs, .of (e2 _ _ (e1 _ _ h)), by rw [d.len]; exact hi⟩, fun x hx => ?_⟩⟩
  obtain ⟨v, h1, h2⟩ := d.get hx
  have hv : SqL K H2 a vs := .of (e2 _ _ (e1 _ _ h))
  refine ⟨⟨vs, v, hv, h1⟩, fun y H3 ⟨e3, hy⟩ => ?_⟩
  subst e3
  have := hy vs hv
  rw [h1] at this
  cases this
  exact ⟨Same.refl _, F2, Stp.refl e2 hp, Den.mono e1 _ _ h2⟩
theorem src_tup (h : SqU K F a vs) (d : Dens K p F xs vs) : Src K p (Itt K a) F H [] xs := by
  refine ⟨fun q hq => (nomatch hq), fun F2 H2 hA e1 e2 hp _ i => ⟨fun hi => ⟨vs, same_t h (e1.trans e2), by rw [d.len]; exact hi⟩, fun x hx => ?_⟩⟩
  obtain ⟨v, h1, h2⟩ := d.get hx
  have hv : SqT K H2 a vs := same_t h (e1.trans e2)
  refine ⟨⟨vs, v, hv, h1⟩, fun y H3 ⟨e3, hy⟩ => ?_⟩
  subst e3
  have := hy vs hv
  rw [h1] at this
  cases this
  exact ⟨Same.refl _, F2, Stp.refl e2 hp, Den.mono e1 _ _ h2⟩
/-- the step to a new pair -/
theorem stp_new {F2 H2 : Hp} {q : Addr} {o : HO} (e : Same F2 H2) (hp : F2 p = none) (hp2 : ∃ o, H2 p = some o) (hq : H2 q = none) : Stp p F2 H2 (upd F2 q o) (upd H2 q o) := by
  have hf : F2 q = none := e.free hq
  have hne : q ≠ p := by
    rintro rfl
    obtain ⟨o, h⟩ := hp2
    rw [hq] at h
    cases h
  refine ⟨same_tell hf, fun b u _ z => by rw [upd_ne (ne_of_none z hq)]; exact z, fun b u z => ?_, fun b u z => ?_, by rw [upd_ne (Ne.symm hne)]; exact hp⟩
  · by_cases hb : b = q
    · subst hb
      rw [upd_same] at z ⊢
      exact z
    · rw [upd_ne hb] at z ⊢
      exact e _ _ z
  · by_cases hb : b = q
    · subst hb
      exact .inr hq
    · rw [upd_ne hb] at z
      exact .inl z
theorem same_new {H2 : Hp} {q : Addr} {o : HO} (hq : H2 q = none) : Same H2 (upd H2 q o) := fun b u z => by rw [upd_ne (ne_of_none z hq)]; exact z
theorem den_pair {F2 : Hp} {q : Addr} {a b : D} {x y : V} (hf : F2 q = none) (h1 : Den K p F2 a x) (h2 : Den K p F2 b y) : Den K p (upd F2 q (.tup [x, y])) (.tup [a, b]) (.ref q) :=
  den_tup (.inl upd_same) (dens_cons (h1.mono (same_tell hf)) (dens_cons (h2.mono (same_tell hf)) dens_nil))
/-- the places beside the things -/
def enumD : Nat → List D → List D
  | _, [] => []
  | n, d :: ds => .tup [.int (n : Int), d] :: enumD (n + 1) ds
theorem enumD_len : ∀ (n : Nat) (ds : List D), (enumD n ds).length = ds.length
  | _, [] => rfl
  | n, d :: ds => by
    show (enumD (n + 1) ds).length + 1 = _
    rw [enumD_len (n + 1) ds]
    rfl
theorem enumD_get : ∀ (n : Nat) (ds : List D) (i : Nat) (d : D), (enumD n ds)[i]? = some d → ∃ e, ds[i]? = some e ∧ d = .tup [.int ((n + i : Nat) : Int), e]
  | _, [], i, d, h => by cases i <;> cases h
  | n, e :: ds, 0, d, h => by
    cases h
    exact ⟨e, rfl, rfl⟩
  | n, e :: ds, i + 1, d, h => by
    obtain ⟨u, h1, h2⟩ := enumD_get (n + 1) ds i d h
    refine ⟨u, h1, ?_⟩
    rw [h2]
    have : n + 1 + i = n + (i + 1) := by omega
    rw [this]
theorem src_enum (h : H a = some (.lst vs)) (n : a ≠ p) (d : Dens K p F xs vs) : Src K p (Ite K a) F H [(a, .lst vs)] (enumD 0 xs) := by
  refine ⟨fun q hq => ?_, fun F2 H2 hA e1 e2 hp hp2 i => ⟨fun hi => ⟨vs, .of (hA _ (List.Mem.head _)), by rw [d.len]; rw [enumD_len] at hi; exact hi⟩, fun x hx => ?_⟩⟩
  · cases List.mem_singleton.mp hq
    exact ⟨h, n⟩
  · obtain ⟨e, g1, g2⟩ := enumD_get 0 xs i x hx
    subst g2
    obtain ⟨v, h1, h2⟩ := d.get g1
    have hv : SqL K H2 a vs := .of (hA _ (List.Mem.head _))
    refine ⟨⟨vs, v, hv, h1⟩, fun y H3 ⟨T, z, e3, e4, e5, hy⟩ => ?_⟩
    subst e3 e5
    have := hy vs hv
    rw [h1] at this
    cases this
    refine ⟨same_new e4, _, stp_new e2 hp hp2 e4, ?_⟩
    rw [Nat.zero_add]
    exact den_pair (e2.free e4) den_int (Den.mono e1 _ _ h2)
theorem src_enumF (h : F a = some (.lst vs)) (d : Dens K p F xs vs) : Src K p (Ite K a) F H [] (enumD 0 xs) := by
  refine ⟨fun q hq => (nomatch hq), fun F2 H2 hA e1 e2 hp hp2 i => ⟨fun hi => ⟨vs, .of (e2 _ _ (e1 _ _ h)), by rw [d.len]; rw [enumD_len] at hi; exact hi⟩, fun x hx => ?_⟩⟩
  obtain ⟨e, g1, g2⟩ := enumD_get 0 xs i x hx
  subst g2
  obtain ⟨v, h1, h2⟩ := d.get g1
  have hv : SqL K H2 a vs := .of (e2 _ _ (e1 _ _ h))
  refine ⟨⟨vs, v, hv, h1⟩, fun y H3 ⟨T, z, e3, e4, e5, hy⟩ => ?_⟩
  subst e3 e5
  have := hy vs hv
  rw [h1] at this
  cases this
  refine ⟨same_new e4, _, stp_new e2 hp hp2 e4, ?_⟩
  rw [Nat.zero_add]
  exact den_pair (e2.free e4) den_int (Den.mono e1 _ _ h2)
theorem src_enumT (h : SqU K F a vs) (d : Dens K p F xs vs) : Src K p (JT.IteT K a) F H [] (enumD 0 xs) := by
  refine ⟨fun q hq => (nomatch hq), fun F2 H2 hA e1 e2 hp hp2 i => ⟨fun hi => ⟨vs, same_t h (e1.trans e2), by rw [d.len]; rw [enumD_len] at hi; exact hi⟩, fun x hx => ?_⟩⟩
  obtain ⟨e, g1, g2⟩ := enumD_get 0 xs i x hx
  subst g2
  obtain ⟨v, h1, h2⟩ := d.get g1
  have hv : SqT K H2 a vs := same_t h (e1.trans e2)
  refine ⟨⟨vs, v, hv, h1⟩, fun y H3 ⟨T, z, e3, e4, e5, hy⟩ => ?_⟩
  subst e3 e5
  have := hy vs hv
  rw [h1] at this
  cases this
  refine ⟨same_new e4, _, stp_new e2 hp hp2 e4, ?_⟩
  rw [Nat.zero_add]
  exact den_pair (e2.free e4) den_int (Den.mono e1 _ _ h2)
theorem src_range {lo : Int} {n : Nat} : Src K p (Itr lo n) F H [] (rgD lo 1 n) := by
  refine ⟨fun q hq => (nomatch hq), fun F2 H2 hA e1 e2 hp hp2 i => ⟨fun hi => ?_, fun x hx => ?_⟩⟩
  · unfold rgD at hi
    rw [List.length_map, List.length_range] at hi
    exact hi
  · unfold rgD at hx
    rw [List.getElem?_map] at hx
    obtain ⟨j, h1, h2⟩ := Option.map_eq_some_iff.mp hx
    obtain ⟨hj, h3⟩ := List.getElem?_eq_some_iff.mp h1
    rw [List.length_range] at hj
    rw [List.getElem_range] at h3
    subst h3 h2
    refine ⟨hj, fun y H3 ⟨e3, e4⟩ => ?_⟩
    subst e3 e4
    refine ⟨Same.refl _, F2, Stp.refl e2 hp, ?_⟩
    rw [Int.mul_one]
    exact den_int
theorem src_rangeC {lo c : Int} {n : Nat} : Src K p (Itc lo c n) F H [] (rgD lo c n) := by
  refine ⟨fun q hq => (nomatch hq), fun F2 H2 hA e1 e2 hp hp2 i => ⟨fun hi => ?_, fun x hx => ?_⟩⟩
  · unfold rgD at hi
    rw [List.length_map, List.length_range] at hi
    exact hi
  · unfold rgD at hx
    rw [List.getElem?_map] at hx
    obtain ⟨j, h1, h2⟩ := Option.map_eq_some_iff.mp hx
    obtain ⟨hj, h3⟩ := List.getElem?_eq_some_iff.mp h1
    rw [List.length_range] at hj
    rw [List.getElem_range] at h3
    subst h3 h2
    refine ⟨hj, fun y H3 ⟨e3, e4⟩ => ?_⟩
    subst e3 e4
    exact ⟨Same.refl _, F2, Stp.refl e2 hp, den_int⟩
/-- pairs of two lists -/
def zipD : List D → List D → List D
  | x :: xs, y :: ys => .tup [x, y] :: zipD xs ys
  | _, _ => []
theorem zipD_get : ∀ (xs ys : List D) (i : Nat) (d : D), (zipD xs ys)[i]? = some d → ∃ a b, xs[i]? = some a ∧ ys[i]? = some b ∧ d = .tup [a, b]
  | [], ys, i, d, h => by cases i <;> cases h
  | x :: xs, [], i, d, h => by cases i <;> cases h
  | x :: xs, y :: ys, 0, d, h => by
    cases h
    exact ⟨x, y, rfl, rfl, rfl⟩
  | x :: xs, y :: ys, i + 1, d, h => zipD_get xs ys i d h
theorem zipD_stop : ∀ (xs ys : List D) (i : Nat), (zipD xs ys).length ≤ i → xs.length ≤ i ∨ ys.length ≤ i
  | [], ys, i, h => .inl (Nat.zero_le _)
  | x :: xs, [], i, h => .inr (Nat.zero_le _)
  | x :: xs, y :: ys, 0, h => by cases h
  | x :: xs, y :: ys, i + 1, h => by
    rcases zipD_stop xs ys i (Nat.le_of_succ_le_succ h) with z | z
    · exact .inl (Nat.succ_le_succ z)
    · exact .inr (Nat.succ_le_succ z)
variable {ys : List D} {us : List V} {b : Addr}
theorem src_zip (h : H a = some (.lst vs)) (n : a ≠ p) (d : Dens K p F xs vs) (h' : H b = some (.lst us)) (n' : b ≠ p) (d' : Dens K p F ys us) : Src K p (Itz K a b) F H [(a, .lst vs), (b, .lst us)] (zipD xs ys) := by
  refine ⟨fun q hq => ?_, fun F2 H2 hA e1 e2 hp hp2 i => ⟨fun hi => ⟨vs, us, .of (hA _ (List.Mem.head _)), .of (hA _ (List.Mem.tail _ (List.Mem.head _))), by rw [d.len, d'.len]; exact zipD_stop _ _ _ hi⟩, fun x hx => ?_⟩⟩
  · rcases List.mem_cons.mp hq with q1 | q1
    · subst q1
      exact ⟨h, n⟩
    · cases List.mem_singleton.mp q1
      exact ⟨h', n'⟩
  · obtain ⟨e, e', g1, g2, g3⟩ := zipD_get xs ys i x hx
    subst g3
    obtain ⟨v, h1, h2⟩ := d.get g1
    obtain ⟨u, h3, h4⟩ := d'.get g2
    have hv : SqL K H2 a vs := .of (hA _ (List.Mem.head _))
    have hu : SqL K H2 b us := .of (hA _ (List.Mem.tail _ (List.Mem.head _)))
    refine ⟨⟨vs, us, v, u, hv, hu, h1, h3⟩, fun y H3 ⟨T, z, z', e3, e4, e5, hy, hy'⟩ => ?_⟩
    subst e3 e5
    have q1 := hy vs hv
    rw [h1] at q1
    cases q1
    have q2 := hy' us hu
    rw [h3] at q2
    cases q2
    exact ⟨same_new e4, _, stp_new e2 hp hp2 e4, den_pair (e2.free e4) (Den.mono e1 _ _ h2) (Den.mono e1 _ _ h4)⟩
theorem src_zipF (h : F a = some (.lst vs)) (d : Dens K p F xs vs) (h' : F b = some (.lst us)) (d' : Dens K p F ys us) : Src K p (Itz K a b) F H [] (zipD xs ys) := by
  refine ⟨fun q hq => (nomatch hq), fun F2 H2 hA e1 e2 hp hp2 i => ⟨fun hi => ⟨vs, us, .of (e2 _ _ (e1 _ _ h)), .of (e2 _ _ (e1 _ _ h')), by rw [d.len, d'.len]; exact zipD_stop _ _ _ hi⟩, fun x hx => ?_⟩⟩
  obtain ⟨e, e', g1, g2, g3⟩ := zipD_get xs ys i x hx
  subst g3
  obtain ⟨v, h1, h2⟩ := d.get g1
  obtain ⟨u, h3, h4⟩ := d'.get g2
  have hv : SqL K H2 a vs := .of (e2 _ _ (e1 _ _ h))
  have hu : SqL K H2 b us := .of (e2 _ _ (e1 _ _ h'))
  refine ⟨⟨vs, us, v, u, hv, hu, h1, h3⟩, fun y H3 ⟨T, z, z', e3, e4, e5, hy, hy'⟩ => ?_⟩
  subst e3 e5
  have q1 := hy vs hv
  rw [h1] at q1
  cases q1
  have q2 := hy' us hu
  rw [h3] at q2
  cases q2
  exact ⟨same_new e4, _, stp_new e2 hp hp2 e4, den_pair (e2.free e4) (Den.mono e1 _ _ h2) (Den.mono e1 _ _ h4)⟩
theorem src_zipT (h : SqU K F a vs) (d : Dens K p F xs vs) (h' : SqU K F b us) (d' : Dens K p F ys us) : Src K p (RZ.ItzT K a b) F H [] (zipD xs ys) := by
  refine ⟨fun q hq => (nomatch hq), fun F2 H2 hA e1 e2 hp hp2 i => ⟨fun hi => ⟨vs, us, same_t h (e1.trans e2), same_t h' (e1.trans e2), by rw [d.len, d'.len]; exact zipD_stop _ _ _ hi⟩, fun x hx => ?_⟩⟩
  obtain ⟨e, e', g1, g2, g3⟩ := zipD_get xs ys i x hx
  subst g3
  obtain ⟨v, h1, h2⟩ := d.get g1
  obtain ⟨u, h3, h4⟩ := d'.get g2
  have hv : SqT K H2 a vs := same_t h (e1.trans e2)
  have hu : SqT K H2 b us := same_t h' (e1.trans e2)
  refine ⟨⟨vs, us, v, u, hv, hu, h1, h3⟩, fun y H3 ⟨T, z, z', e3, e4, e5, hy, hy'⟩ => ?_⟩
  subst e3 e5
  have q1 := hy vs hv
  rw [h1] at q1
  cases q1
  have q2 := hy' us hu
  rw [h3] at q2
  cases q2
  exact ⟨same_new e4, _, stp_new e2 hp hp2 e4, den_pair (e2.free e4) (Den.mono e1 _ _ h2) (Den.mono e1 _ _ h4)⟩
end
section
variable {X : Cx} {tg : Expr}
/-- a list or a tuple that is walked -/
def iSeq (K : PySem.W.Frag) (tl : TE) : TI := fun σ H Rk => tl σ H fun x H1 => (∃ a vs, x = .ref a ∧ SqL K H1 a vs ∧ Rk (Itl K a) H1) ∨ ∃ a vs, x = .ref a ∧ SqT K H1 a vs ∧ Rk (Itt K a) H1
theorem pi_seq {l : Expr} {tl : TE} (hl : PE X l tl) : PI X tg l (iSeq X.K tl) := ⟨fun pins s σ H Rk I h => by
  refine thn (hl.run pins s σ H _ I h) fun v s1 ⟨x, H1, I1, r1, q1⟩ => ?_
  rcases q1 with ⟨a, vs, ex, hq, q⟩ | ⟨a, vs, ex, hq, q⟩
  · subst ex
    cases r1
    obtain ⟨its, rv, pl, hz⟩ := I1.list hq
    have J1 := I1.kept (t' := s1.toks) (h' := s1.heap.push { cls := .type "list_iterator", data := .fields #[.ref a, .int 0 0] }) fun b o e => Heap.get?_push_of_some _ e
    exact wpAny_pyIter_list pl.isList ⟨s1.heap.objs.size, [s1.heap.objs.size], _, _, H1, rfl, J1, turn_list a _, ⟨_, Heap.get?_push_size _ rfl, rfl, rfl⟩, fun b hb => by
      cases List.mem_singleton.mp hb
      exact I1.fpOk (Nat.le_refl _) (I1.hok.fresh (Nat.le_refl _)), q⟩
  · subst ex
    cases r1
    obtain ⟨its, rv, pl, hz⟩ := I1.tuple hq
    have J1 := I1.kept (t' := s1.toks) (h' := s1.heap.push { cls := .type "tuple_iterator", data := .fields #[.ref a, .int 0 0] }) fun b o e => Heap.get?_push_of_some _ e
    exact wpAny_pyIter_tuple pl ⟨s1.heap.objs.size, [s1.heap.objs.size], _, _, H1, rfl, J1, turn_tuple a _, ⟨_, Heap.get?_push_size _ rfl, rfl, rfl⟩, fun b hb => by
      cases List.mem_singleton.mp hb
      exact I1.fpOk (Nat.le_refl _) (I1.hok.fresh (Nat.le_refl _)), q⟩⟩
def iEnumS (K : PySem.W.Frag) (ta : TA) : TI := fun σ H Rk => ta σ H fun us H1 => (∃ a vs, us = [.ref a] ∧ SqL K H1 a vs ∧ Rk (Ite K a) H1) ∨ ∃ a vs, us = [.ref a] ∧ SqT K H1 a vs ∧ Rk (JT.IteT K a) H1
theorem pi_enumS {e : Expr} {ta : TA} {p pos tpos : Pos} {elts : List Expr} {kk : Nat} (hg : Gl X "enumerate") (hm : X.mg "enumerate" = none) (ha : PA X [e] ta) (hs : starEach [e] X.env = [(false, eval e X.env)] := by rfl) :
    PI X (.Tuple elts kk tpos) (.Call (.Name "enumerate" p) [e] [] pos) (iEnumS X.K ta) := ⟨fun pins s σ H Rk I h => by
  refine Call_ (ld_blt I hg hm boot_enumerate (callWith_type1 (thn (ha.run pos pins s σ H _ I h) fun us s1 ⟨zs, H1, I1, r1, q1⟩ => ?_) hs rfl))
  have sized : ∀ {b : Addr}, b ∈ [s1.heap.objs.size + 1, s1.heap.objs.size] → FpOk X pins H1 b := fun {b} hb => by
    have hle : s1.heap.objs.size ≤ b := by
      rcases List.mem_cons.mp hb with z | z
      · rw [z]
        exact Nat.le_succ _
      · rw [List.mem_singleton.mp z]
        exact Nat.le_refl _
    exact I1.fpOk hle (I1.hok.fresh hle)
  rcases q1 with ⟨a, vs, ex, hq, q⟩ | ⟨a, vs, ex, hq, q⟩
  · subst ex
    obtain ⟨u, rfl, ru⟩ := vals1 r1
    cases ru
    obtain ⟨its, rv, pl, hz⟩ := I1.list hq
    exact call_enumerate_list pl.isList fun h' he hit hsz hk => wpAny_pyIter_enum he ⟨s1.heap.objs.size + 1, [s1.heap.objs.size + 1, s1.heap.objs.size], _, _, H1, rfl, I1.kept (t' := s1.toks) hk, turn_enum a _ _, ⟨⟨.none, he⟩, hit, Nat.succ_ne_self _⟩, fun b hb => sized hb, q⟩
  · subst ex
    obtain ⟨u, rfl, ru⟩ := vals1 r1
    cases ru
    obtain ⟨its, rv, pl, hz⟩ := I1.tuple hq
    have la : a < s1.heap.objs.size := pl.lt
    exact JT.call_enumT pl fun h' he hit hsz hk => wpAny_pyIter_enum he ⟨s1.heap.objs.size + 1, [s1.heap.objs.size + 1, s1.heap.objs.size], _, _, H1, rfl, I1.kept (t' := s1.toks) hk, JT.turn_enumT a _ _, ⟨⟨.none, he⟩, hit, Nat.succ_ne_self _, Nat.ne_of_lt la, Nat.ne_of_gt (Nat.lt_succ_of_lt la)⟩, fun b hb => sized hb, q⟩⟩
/-! ### sources -/
def iItems (f : Ev) : Ef := fun ds w => (f ds w).bind fun a => match a.1 with | .lst xs => some (xs, a.2) | .tup xs => some (xs, a.2) | _ => none
variable {e e2 : Expr} {f g : Ev} {fs : Ef} {p pos tpos : Pos} {elts : List Expr} {kk : Nat}
theorem ji_seq (h : JE X e f) : JI X tg e false (iItems f) := ⟨pi_weak (pi_seq h.run) fun σ H Rk ⟨Z, F, ds, w, xs, w', rr, hf, k⟩ => by
  obtain ⟨⟨a, w1⟩, ha, hf⟩ := bind2 hf
  refine ⟨Z, F, ds, w, _, _, rr, ha, fun v F1 H1 s1 d1 hv => ?_⟩
  cases a with
  | lst ys =>
    cases hf
    unfold Den at hv
    obtain ⟨q, vs, rfl, h1, h2⟩ := hv
    exact .inl ⟨q, vs, rfl, .of (s1.e _ _ h1), k _ F1 H1 [] s1 d1 (fun _ => rfl) (src_listF h1 h2)⟩
  | tup ys =>
    cases hf
    unfold Den at hv
    obtain ⟨q, vs, rfl, h1, h2⟩ := hv
    exact .inr ⟨q, vs, rfl, same_t h1 s1.e, k _ F1 H1 [] s1 d1 (fun _ => rfl) (src_tup h1 h2)⟩
  | _ => cases hf⟩
theorem ownp {K : PySem.W.Frag} {p : Addr} {F H : Hp} {xs : List D} {v : V} (h : DenB K p F H (.lst xs) v) (e : Same F H) (hp : F p = none) : ∃ a vs, v = .ref a ∧ H a = some (.lst vs) ∧ a ≠ p ∧ Dens K p F xs vs := by
  rcases h with h | ⟨a, ys, e1, e2, vs, h1, h2, h3, h4⟩ | ⟨_, x, e1, _⟩
  · unfold Den at h
    obtain ⟨a, vs, rfl, h1, h2⟩ := h
    exact ⟨a, vs, rfl, e _ _ h1, ne_of_none h1 hp, h2⟩
  · cases e1
    exact ⟨a, vs, e2, h1, h3, h4⟩
  · cases x <;> cases e1
theorem jib_seq (h : JB X e f) : JI X tg e true (iItems f) := ⟨pi_weak (pi_seq h.run) fun σ H Rk ⟨Z, F, ds, w, xs, w', rr, hf, k⟩ => by
  obtain ⟨⟨a, w1⟩, ha, hf⟩ := bind2 hf
  refine ⟨Z, F, ds, w, _, _, rr, ha, fun v F1 H1 s1 d1 hv => ?_⟩
  cases a with
  | lst ys =>
    cases hf
    obtain ⟨q, vs, rfl, h1, h2, h3⟩ := ownp hv s1.e s1.fp
    exact .inl ⟨q, vs, rfl, .of h1, k _ F1 H1 _ s1 d1 (fun z => nomatch z) (src_list h1 h2 h3)⟩
  | tup ys =>
    cases hf
    obtain ⟨q, vs, rfl, h1, h2⟩ := hv.tup
    exact .inr ⟨q, vs, rfl, same_t h1 s1.e, k _ F1 H1 [] s1 d1 (fun _ => rfl) (src_tup h1 h2)⟩
  | _ => cases hf⟩
def iEnumJ (f : Ef) : Ef := fun ds w => (f ds w).bind fun a => match a.1 with | [.lst xs] => some (enumD 0 xs, a.2) | [.tup xs] => some (enumD 0 xs, a.2) | _ => none
theorem ji_enum (hg : Gl X "enumerate") (hm : X.mg "enumerate" = none) (ha : JA X [e] fs) (hs : starEach [e] X.env = [(false, eval e X.env)] := by rfl) : JI X (.Tuple elts kk tpos) (.Call (.Name "enumerate" p) [e] [] pos) false (iEnumJ fs) := ⟨pi_weak (pi_enumS hg hm ha.run hs) fun σ H Rk ⟨Z, F, ds, w, xs, w', rr, hf, k⟩ => by
  obtain ⟨⟨a, w1⟩, ha, hf⟩ := bind2 hf
  refine ⟨Z, F, ds, w, _, _, rr, ha, fun us F1 H1 s1 d1 hv => ?_⟩
  dsimp only at hf
  split at hf
  · cases hf
    unfold Dens at hv
    obtain ⟨v, r, rfl, hv, hr⟩ := hv
    unfold Dens at hr
    subst hr
    unfold Den at hv
    obtain ⟨q, vs, rfl, h1, h2⟩ := hv
    exact .inl ⟨q, vs, rfl, .of (s1.e _ _ h1), k _ F1 H1 [] s1 d1 (fun _ => rfl) (src_enumF h1 h2)⟩
  · cases hf
    unfold Dens at hv
    obtain ⟨v, r, rfl, hv, hr⟩ := hv
    unfold Dens at hr
    subst hr
    unfold Den at hv
    obtain ⟨q, vs, rfl, h1, h2⟩ := hv
    exact .inr ⟨q, vs, rfl, same_t h1 s1.e, k _ F1 H1 [] s1 d1 (fun _ => rfl) (src_enumT h1 h2)⟩
  · cases hf⟩
theorem jib_enum (hg : Gl X "enumerate") (hm : X.mg "enumerate" = none) (ha : JR X [e] fs) (hs : starEach [e] X.env = [(false, eval e X.env)] := by rfl) : JI X (.Tuple elts kk tpos) (.Call (.Name "enumerate" p) [e] [] pos) true (iEnumJ fs) := ⟨pi_weak (pi_enumS hg hm ha.run hs) fun σ H Rk ⟨Z, F, ds, w, xs, w', rr, hf, k⟩ => by
  obtain ⟨⟨a, w1⟩, ha, hf⟩ := bind2 hf
  refine ⟨Z, F, ds, w, _, _, rr, ha, fun us F1 H1 s1 d1 hv => ?_⟩
  dsimp only at hf
  split at hf
  · cases hf
    obtain ⟨v, rfl, hw⟩ := densB1 hv
    obtain ⟨q, vs, rfl, h1, h2, h3⟩ := ownp hw s1.e s1.fp
    exact .inl ⟨q, vs, rfl, .of h1, k _ F1 H1 _ s1 d1 (fun z => nomatch z) (src_enum h1 h2 h3)⟩
  · cases hf
    obtain ⟨v, rfl, hw⟩ := densB1 hv
    obtain ⟨q, vs, rfl, h1, h2⟩ := hw.tup
    exact .inr ⟨q, vs, rfl, same_t h1 s1.e, k _ F1 H1 [] s1 d1 (fun _ => rfl) (src_enumT h1 h2)⟩
  · cases hf⟩
def iZipJ (f : Ef) : Ef := fun ds w => (f ds w).bind fun a => match a.1 with | [.lst xs, .lst ys] => some (zipD xs ys, a.2) | [.tup xs, .tup ys] => some (zipD xs ys, a.2) | _ => none
theorem dens2 {K : PySem.W.Frag} {q : Addr} {F : Hp} {a b : D} {us : List V} (h : Dens K q F [a, b] us) : ∃ v u, us = [v, u] ∧ Den K q F a v ∧ Den K q F b u := by
  unfold Dens at h
  obtain ⟨v, r, rfl, hv, hr⟩ := h
  unfold Dens at hr
  obtain ⟨u, r, rfl, hu, hr⟩ := hr
  unfold Dens at hr
  subst hr
  exact ⟨v, u, rfl, hv, hu⟩
theorem ji_zip (hg : Gl X "zip") (hm : X.mg "zip" = none) (ha : JA X [e, e2] fs) (hs : starEach [e, e2] X.env = (false, eval e X.env) :: starEach [e2] X.env := by rfl) (hpl : (backTo pos (starEach [e2] X.env)).any (·.1) = false := by rfl) : JI X (.Tuple elts kk tpos) (.Call (.Name "zip" p) [e, e2] [] pos) false (iZipJ fs) := ⟨pi_weak (RZ.pi_zipA hg hm ha.run hs hpl) fun σ H Rk ⟨Z, F, ds, w, xs, w', rr, hf, k⟩ => by
  obtain ⟨⟨a, w1⟩, ha, hf⟩ := bind2 hf
  refine ⟨Z, F, ds, w, _, _, rr, ha, fun us F1 H1 s1 d1 hv => ?_⟩
  dsimp only at hf
  split at hf
  · cases hf
    obtain ⟨v, u, rfl, hw, hu⟩ := dens2 hv
    unfold Den at hw hu
    obtain ⟨q, vs, rfl, h1, h2⟩ := hw
    obtain ⟨q', vs', rfl, h1', h2'⟩ := hu
    exact ⟨q, q', vs, vs', rfl, .inl ⟨.of (s1.e _ _ h1), .of (s1.e _ _ h1'), k _ F1 H1 [] s1 d1 (fun _ => rfl) (src_zipF h1 h2 h1' h2')⟩⟩
  · cases hf
    obtain ⟨v, u, rfl, hw, hu⟩ := dens2 hv
    unfold Den at hw hu
    obtain ⟨q, vs, rfl, h1, h2⟩ := hw
    obtain ⟨q', vs', rfl, h1', h2'⟩ := hu
    exact ⟨q, q', vs, vs', rfl, .inr ⟨same_t h1 s1.e, same_t h1' s1.e, k _ F1 H1 [] s1 d1 (fun _ => rfl) (src_zipT h1 h2 h1' h2')⟩⟩
  · cases hf⟩
theorem jib_zip (hg : Gl X "zip") (hm : X.mg "zip" = none) (ha : JR X [e, e2] fs) (hs : starEach [e, e2] X.env = (false, eval e X.env) :: starEach [e2] X.env := by rfl) (hpl : (backTo pos (starEach [e2] X.env)).any (·.1) = false := by rfl) : JI X (.Tuple elts kk tpos) (.Call (.Name "zip" p) [e, e2] [] pos) true (iZipJ fs) := ⟨pi_weak (RZ.pi_zipA hg hm ha.run hs hpl) fun σ H Rk ⟨Z, F, ds, w, xs, w', rr, hf, k⟩ => by
  obtain ⟨⟨a, w1⟩, ha, hf⟩ := bind2 hf
  refine ⟨Z, F, ds, w, _, _, rr, ha, fun us F1 H1 s1 d1 hv => ?_⟩
  dsimp only at hf
  split at hf
  · cases hf
    obtain ⟨v, u, rfl, hw, hu⟩ := densB2 hv
    obtain ⟨q, vs, rfl, h1, h2, h3⟩ := ownp hw s1.e s1.fp
    obtain ⟨q', vs', rfl, h1', h2', h3'⟩ := ownp hu s1.e s1.fp
    exact ⟨q, q', vs, vs', rfl, .inl ⟨.of h1, .of h1', k _ F1 H1 _ s1 d1 (fun z => nomatch z) (src_zip h1 h2 h3 h1' h2' h3')⟩⟩
  · cases hf
    obtain ⟨v, u, rfl, hw, hu⟩ := densB2 hv
    obtain ⟨q, vs, rfl, h1, h2⟩ := hw.tup
    obtain ⟨q', vs', rfl, h1', h2'⟩ := hu.tup
    exact ⟨q, q', vs, vs', rfl, .inr ⟨same_t h1 s1.e, same_t h1' s1.e, k _ F1 H1 [] s1 d1 (fun _ => rfl) (src_zipT h1 h2 h1' h2')⟩⟩
  · cases hf⟩
/-- range(n), range(a, b) in a for -/
def iRg (fa fb : Ev) : Ef := fun ds w => (fa ds w).bind fun a => (fb ds a.2).bind fun b => match a.1, b.1 with
  | .int i, .int j => if -(2 ^ 62) ≤ i ∧ i < 2 ^ 62 ∧ -(2 ^ 62) ≤ j ∧ j < 2 ^ 62 then some (rgD i 1 (j - i).toNat, b.2) else none
  | _, _ => none
theorem ji_rg1 (hg : Gl X "range") (hm : X.mg "range" = none) (h : JB X e f) (na : starEach [e] X.env = (false, eval e X.env) :: starEach [] X.env := by rfl) (hs : starEach [e] X.env = [(false, eval e X.env)] := by rfl) : JI X tg (.Call (.Name "range" p) [e] [] pos) false (iRg (eC (.int 0)) f) := ⟨pi_weak (pi_range1 hg hm (pa_cons h.run pa_nil na) hs) fun σ H Rk ⟨Z, F, ds, w, xs, w', rr, hf, k⟩ => by
  obtain ⟨⟨a, w1⟩, ha, hf⟩ := bind2 hf
  obtain ⟨⟨b, w2⟩, hb, hf⟩ := bind2 hf
  cases ha
  refine ⟨Z, F, ds, w, _, _, rr, hb, fun v F1 H1 s1 d1 hv => ?_⟩
  cases b <;> first | cases hf | skip
  dsimp only at hf
  split at hf
  · rename_i hc
    cases hf
    refine ⟨_, by rw [hv.int], hc.2.2.1, hc.2.2.2, ?_⟩
    rw [Int.sub_zero] at k
    exact k _ F1 H1 [] s1 d1 (fun _ => rfl) src_range
  · cases hf⟩
theorem ji_rg2 (hg : Gl X "range") (hm : X.mg "range" = none) (h : JB X e f) (h2 : JB X e2 g) (na : starEach [e, e2] X.env = (false, eval e X.env) :: starEach [e2] X.env := by rfl) (nb : starEach [e2] X.env = (false, eval e2 X.env) :: starEach [] X.env := by rfl)
    (hs : starEach [e, e2] X.env = [(false, eval e X.env), (false, eval e2 X.env)] := by rfl) (hs2 : starEach [e2] X.env = [(false, eval e2 X.env)] := by rfl) : JI X tg (.Call (.Name "range" p) [e, e2] [] pos) false (iRg f g) := ⟨pi_weak (pi_range2 hg hm (pa_cons h.run (pa_cons h2.run pa_nil nb) na) hs hs2) fun σ H Rk ⟨Z, F, ds, w, xs, w', rr, hf, k⟩ => by
  obtain ⟨⟨a, w1⟩, ha, hf⟩ := bind2 hf
  obtain ⟨⟨b, w2⟩, hb, hf⟩ := bind2 hf
  refine ⟨Z, F, ds, w, _, _, rr, ha, fun v F1 H1 s1 d1 hv => ⟨Z, F1, ds, _, _, _, rr.step s1 d1, hb, fun u F2 H2 s2 d2 hu => ?_⟩⟩
  cases a <;> first | cases hf | skip
  cases b <;> first | cases hf | skip
  dsimp only at hf
  split at hf
  · rename_i hc
    cases hf
    exact ⟨_, _, by rw [hv.int, hu.int], ⟨hc.1, hc.2.1, hc.2.2.1, hc.2.2.2⟩, k _ F2 H2 [] (s1.trans s2) d2 (fun _ => rfl) src_range⟩
  · cases hf⟩
end
end J
namespace J
open PySem PyProof.Rows L2
section
variable {K : PySem.W.Frag} {Z : Cfg} {F H : Hp} {σ : L2.St} {ds : List Sl} {w : Wd}
theorem isOwn_set {ds : List Sl} {i : Nat} {j : Nat × Nat} {s : Sl} (hs : s.ow = false) (h : isOwn (ds.set i s) j) : isOwn ds j := by
  obtain ⟨t, h1, h2⟩ := h
  rw [List.getElem?_set] at h1
  split at h1
  · split at h1
    · cases h1
      rw [has_ow h2] at hs
      cases hs
    · cases h1
  · exact ⟨t, h1, h2⟩
theorem isOwn_eq {ds : List Sl} {i : Nat} {m : Nat × Nat} {t s : Sl} (hs : ds[i]? = some s) (hh : ∀ n, t.has n = s.has n) (h : isOwn (ds.set i t) m) : isOwn ds m := by
  obtain ⟨u, h1, h2⟩ := h
  rw [List.getElem?_set] at h1
  split at h1
  · rename_i hi
    split at h1
    · cases h1
      exact ⟨s, by rw [← hi]; exact hs, by rw [← hh]; exact h2⟩
    · cases h1
  · exact ⟨u, h1, h2⟩
/-- a name gets a value -/
theorem R.set (r : R K Z F H σ ds w) {i : Nat} {d : D} {v : V} (h : Den K Z.p F d v) : R K Z F H (σ.set i (some v)) (ds.set i (.d d)) w := by
  refine ⟨r.ex, r.fp, r.dr, r.pm, r.hm, r.m0, r.keep, r.nw, r.f0, by rw [List.length_set, List.length_set]; exact r.len, ?_⟩
  obtain ⟨α, inj, hs⟩ := r.env
  refine ⟨α, fun a b ha hb => inj a b (isOwn_set rfl ha) (isOwn_set rfl hb), fun j s e => ?_⟩
  rw [List.getElem?_set] at e
  by_cases hj : i = j
  · subst hj
    rw [if_pos rfl] at e
    split at e
    · rename_i hl
      cases e
      exact ⟨v, by rw [List.getElem?_set_self (by rw [r.len]; exact hl)], h⟩
    · cases e
  · rw [if_neg hj] at e
    have q := hs j s e
    have e2 : (σ.set i (some v))[j]? = σ[j]? := List.getElem?_set_ne hj
    cases s with
    | no => trivial
    | d x =>
      obtain ⟨u, h1, h2⟩ := q
      exact ⟨u, by rw [e2]; exact h1, h2⟩
    | own xs =>
      obtain ⟨h1, h2, h3⟩ := q
      exact ⟨by rw [e2]; exact h1, h2, h3⟩
    | mu k xs =>
      obtain ⟨h1, h2, h3⟩ := q
      exact ⟨by rw [e2]; exact h1, h2, h3⟩
    | oo x =>
      obtain ⟨h1, h2, h3⟩ := q
      exact ⟨by rw [e2]; exact h1, h2, h3⟩
    | ll ks xss => exact SlR.ll_same q e2 (fun _ => rfl) (fun _ _ => rfl) (fun _ _ z => z) (Same.refl _)
/-- what stands where an own name points -/
theorem R.own_at (r : R K Z F H σ ds w) {j : Nat} {s : Sl} {a : Addr} (h : ds[j]? = some s) (ho : s.ow = true) (ha : σ[j]? = some (some (.ref a))) : ∃ o, H a = some o ∧ F a = none ∧ a ≠ Z.p := by
  obtain ⟨α, _, hs⟩ := r.env
  have z := hs j s h
  cases s with
  | no => cases ho
  | d x => cases ho
  | own xs =>
    obtain ⟨h1, ⟨vs, h2, h3, h4, _⟩, _⟩ := z
    rw [ha] at h1
    cases h1
    exact ⟨_, h2, h3, h4⟩
  | mu k xs =>
    obtain ⟨h1, ⟨vs, h2, h3, h4, _⟩, _⟩ := z
    rw [ha] at h1
    cases h1
    exact ⟨_, h2, h3, h4⟩
  | oo x =>
    obtain ⟨h1, h2, _⟩ := z
    rw [ha] at h1
    cases h1
    exact h2.at
  | ll ks xss =>
    obtain ⟨h1, ⟨h2, h3, h4, h5, h6⟩, _⟩ := z
    rw [ha] at h1
    cases h1
    exact ⟨_, h3, h4, h5⟩
/-- the objects that the slots own -/
def EnvOk (K : PySem.W.Frag) (Z : Cfg) (F H : Hp) (σ : L2.St) (ds : List Sl) (α : Nat × Nat → Addr) : Prop := (∀ p q, isOwn ds p → isOwn ds q → α p = α q → p = q) ∧ ∀ i s, ds[i]? = some s → SlR K Z F H (fun m => α (i, m)) σ i s
theorem EnvOk.live {α : Nat × Nat → Addr} (h : EnvOk K Z F H σ ds α) {p : Nat × Nat} (hp : isOwn ds p) : ∃ o, H (α p) = some o ∧ F (α p) = none ∧ α p ≠ Z.p := by
  obtain ⟨s, h1, h2⟩ := hp
  exact (h.2 _ s h1).live h2
theorem EnvOk.step {F' H' : Hp} {α : Nat × Nat → Addr} (h : EnvOk K Z F H σ ds α) (y : Stp Z.p F H F' H') : EnvOk K Z F' H' σ ds α := by
  refine ⟨h.1, fun i s e => ?_⟩
  have h := h.2 i s e
  cases s with
  | no => trivial
  | d x =>
    obtain ⟨u, h1, h2⟩ := h
    exact ⟨u, h1, Den.mono y.f x u h2⟩
  | own xs =>
    obtain ⟨h1, h2, h3⟩ := h
    exact ⟨h1, h2.step y, h3⟩
  | mu k xs =>
    obtain ⟨h1, h2, h3⟩ := h
    exact ⟨h1, h2.step y, h3⟩
  | oo x =>
    obtain ⟨h1, h2, h3⟩ := h
    exact ⟨h1, h2.step y, h3⟩
  | ll ks xss => exact SlR.ll_step h y
/-- a name gets a new object of its own -/
theorem EnvOk.put {α : Nat × Nat → Addr} (h : EnvOk K Z F H σ ds α) (hl : σ.length = ds.length) {i : Nat} {s0 : Sl} {q : Addr} (hs : ∀ m, s0.has m = decide (m = 0)) (hq : ∀ p, isOwn ds p → α p ≠ q) (h0 : i < ds.length → SlR K Z F H (fun _ => q) (σ.set i (some (.ref q))) i s0) :
    EnvOk K Z F H (σ.set i (some (.ref q))) (ds.set i s0) (fun p => if i = p.1 then q else α p) := by
  have ne : ∀ p : Nat × Nat, i ≠ p.1 → isOwn (ds.set i s0) p → isOwn ds p := fun p hj ⟨t, h1, h2⟩ => by
    rw [List.getElem?_set_ne hj] at h1
    exact ⟨t, h1, h2⟩
  have at0 : ∀ p : Nat × Nat, i = p.1 → isOwn (ds.set i s0) p → p = (i, 0) := fun p hj ⟨t, h1, h2⟩ => by
    rw [← hj, List.getElem?_set] at h1
    rw [if_pos rfl] at h1
    split at h1
    · cases h1
      rw [hs] at h2
      obtain ⟨p1, p2⟩ := p
      have h3 : p2 = 0 := of_decide_eq_true h2
      have h4 : i = p1 := hj
      rw [h3, h4]
    · cases h1
  refine ⟨fun a b ha hb e => ?_, fun j s e => ?_⟩
  · dsimp only at e
    by_cases h1 : i = a.1
    · by_cases h2 : i = b.1
      · rw [at0 a h1 ha, at0 b h2 hb]
      · rw [if_pos h1, if_neg h2] at e
        exact absurd e.symm (hq b (ne b h2 hb))
    · by_cases h2 : i = b.1
      · rw [if_neg h1, if_pos h2] at e
        exact absurd e (hq a (ne a h1 ha))
      · rw [if_neg h1, if_neg h2] at e
        exact h.1 a b (ne a h1 ha) (ne b h2 hb) e
  · dsimp only
    rw [List.getElem?_set] at e
    by_cases hj : i = j
    · subst hj
      rw [if_pos rfl] at e
      simp only [if_pos]
      split at e
      · rename_i hi
        cases e
        exact h0 hi
      · cases e
    · rw [if_neg hj] at e
      simp only [if_neg hj]
      have z := h.2 j s e
      have e2 : (σ.set i (some (V.ref q)))[j]? = σ[j]? := List.getElem?_set_ne hj
      cases s with
      | no => trivial
      | d x =>
        obtain ⟨u, h1, h2⟩ := z
        exact ⟨u, by rw [e2]; exact h1, h2⟩
      | own xs =>
        obtain ⟨h1, h2, h3⟩ := z
        exact ⟨by rw [e2]; exact h1, h2, h3⟩
      | mu k xs =>
        obtain ⟨h1, h2, h3⟩ := z
        exact ⟨by rw [e2]; exact h1, h2, h3⟩
      | oo x =>
        obtain ⟨h1, h2, h3⟩ := z
        exact ⟨by rw [e2]; exact h1, h2, h3⟩
      | ll ks xss => exact SlR.ll_same z e2 (fun _ => rfl) (fun _ _ => rfl) (fun _ _ z => z) (Same.refl _)
/-- a name gets a list of its own -/
theorem R.setO (r : R K Z F H σ ds w) {i : Nat} {xs : List D} {q : Addr} {vs : List V} {α : Nat × Nat → Addr} (he : EnvOk K Z F H σ ds α) (hq : ∀ p, isOwn ds p → α p ≠ q) (h : H q = some (.lst vs)) (hf : F q = none) (hp : q ≠ Z.p) (h0 : Z.H0 q = none) (hd : Dens K Z.p F xs vs) :
    R K Z F H (σ.set i (some (.ref q))) (ds.set i (.own xs)) w :=
  ⟨r.ex, r.fp, r.dr, r.pm, r.hm, r.m0, r.keep, r.nw, r.f0, by rw [List.length_set, List.length_set]; exact r.len, _, he.put r.len (fun _ => rfl) hq fun hi => ⟨by rw [List.getElem?_set_self (by rw [r.len]; exact hi)], ⟨vs, h, hf, hp, hd⟩, h0⟩⟩
/-- a list of one's own turns -/
theorem R.turn (r : R K Z F H σ ds w) {i : Nat} {s s' : Sl} {a : Addr} {xs ys : List D} {vs : List V} (hs : ds[i]? = some s) (ha : σ[i]? = some (some (.ref a))) (e : (s = .own xs ∧ s' = .own ys) ∨ ∃ k, s = .mu k xs ∧ s' = .mu k ys) (hd : Dens K Z.p F ys vs) :
    R K Z F (upd H a (.lst vs)) σ (ds.set i s') w := by
  obtain ⟨α, inj, hα⟩ := id r.env
  have hi := hα i s hs
  have hai : α (i, 0) = a ∧ ∃ us, H a = some (.lst us) ∧ F a = none ∧ a ≠ Z.p ∧ (Z.H0 a = none ∨ a ∈ Z.M) := by
    rcases e with ⟨rfl, rfl⟩ | ⟨k, rfl, rfl⟩
    · obtain ⟨h1, ⟨us, h2, h3, h4, _⟩, h5⟩ := hi
      rw [ha] at h1
      cases h1
      exact ⟨rfl, us, h2, h3, h4, .inl h5⟩
    · obtain ⟨h1, ⟨us, h2, h3, h4, _⟩, h5⟩ := hi
      rw [ha] at h1
      cases h1
      exact ⟨rfl, us, h2, h3, h4, .inr (List.mem_of_getElem? h5)⟩
  obtain ⟨hai, us, h1, h2, h3, h4⟩ := hai
  have ow : s.ow = true ∧ s'.ow = true := by rcases e with ⟨rfl, rfl⟩ | ⟨k, rfl, rfl⟩ <;> exact ⟨rfl, rfl⟩
  refine ⟨fun b o z => ?_, r.fp, ?_, r.pm, fun b hb => ⟨?_, (r.hm b hb).2⟩, r.m0, fun b o hb hm z => ?_, r.nw, r.f0, by rw [List.length_set]; exact r.len, α, fun p q hp hq => ?_, fun j t ht => ?_⟩
  · rw [upd_ne (ne_of_none z h2)]
    exact r.ex b o z
  · obtain ⟨c, q1, q2⟩ := r.dr
    exact ⟨c, by rw [upd_ne (Ne.symm h3)]; exact q1, q2⟩
  · by_cases hba : b = a
    · subst hba
      exact ⟨_, upd_same⟩
    · obtain ⟨o, ho⟩ := (r.hm b hb).1
      exact ⟨o, by rw [upd_ne hba]; exact ho⟩
  · have hba : b ≠ a := by
      rintro rfl
      rcases h4 with q | q
      · rw [q] at z
        cases z
      · exact hm q
    rw [upd_ne hba]
    exact r.keep b o hb hm z
  · have hh : ∀ n, s'.has n = s.has n := by rcases e with ⟨rfl, rfl⟩ | ⟨k, rfl, rfl⟩ <;> exact fun _ => rfl
    exact inj p q (isOwn_eq hs hh hp) (isOwn_eq hs hh hq)
  · rw [List.getElem?_set] at ht
    by_cases hj : i = j
    · subst hj
      rw [if_pos rfl] at ht
      split at ht
      · cases ht
        rcases e with ⟨rfl, rfl⟩ | ⟨k, rfl, rfl⟩
        · obtain ⟨q1, _, q5⟩ := hi
          exact ⟨q1, ⟨vs, by dsimp only; rw [hai]; exact upd_same, by dsimp only; rw [hai]; exact h2, by dsimp only; rw [hai]; exact h3, hd⟩, q5⟩
        · obtain ⟨q1, _, q5⟩ := hi
          exact ⟨q1, ⟨vs, by dsimp only; rw [hai]; exact upd_same, by dsimp only; rw [hai]; exact h2, by dsimp only; rw [hai]; exact h3, hd⟩, q5⟩
      · cases ht
    · rw [if_neg hj] at ht
      have z := hα j t ht
      have nb : ∀ m, t.has m = true → α (j, m) ≠ a := fun m ho q => hj (congrArg Prod.fst (inj (i, 0) (j, m) ⟨s, hs, has0 ow.1⟩ ⟨t, ht, ho⟩ (by rw [hai, q])))
      have na : t.ow = true → α (j, 0) ≠ a := fun ho => nb 0 (has0 ho)
      cases t with
      | no => trivial
      | d x => exact z
      | own zs =>
        obtain ⟨q1, ⟨us', q2, q3⟩, q5⟩ := z
        exact ⟨q1, ⟨us', by rw [upd_ne (na rfl)]; exact q2, q3⟩, q5⟩
      | mu k zs =>
        obtain ⟨q1, ⟨us', q2, q3⟩, q5⟩ := z
        exact ⟨q1, ⟨us', by rw [upd_ne (na rfl)]; exact q2, q3⟩, q5⟩
      | oo x =>
        obtain ⟨q1, q2, q5⟩ := z
        obtain ⟨_, _, q3, _⟩ := q2.at
        exact ⟨q1, q2.same (upd_ne (na rfl)) q3 (Same.refl _), q5⟩
      | ll ks xss => exact SlR.ll_same z rfl (fun _ => rfl) (fun m hm => upd_ne (nb m (decide_eq_true hm))) (fun _ _ z => z) (Same.refl _)
/-- a list of one's own is told to all -/
theorem R.freeze (r : R K Z F H σ ds w) {i : Nat} {xs : List D} (hs : ds[i]? = some (.own xs)) : ∃ F', Same F F' ∧ R K Z F' H σ (ds.set i (.d (.lst xs))) w := by
  obtain ⟨α, inj, hα⟩ := id r.env
  obtain ⟨h1, ⟨vs, h2, h3, h4, h5⟩, h6⟩ := hα i _ hs
  have sf : Same F (upd F (α (i, 0)) (.lst vs)) := same_tell h3
  have nm : α (i, 0) ∉ Z.M := fun z => by
    obtain ⟨o, ho⟩ := r.m0 _ z
    rw [h6] at ho
    cases ho
  refine ⟨_, sf, fun b o z => ?_, by rw [upd_ne (Ne.symm h4)]; exact r.fp, ?_, r.pm, fun b hb => ⟨(r.hm b hb).1, by rw [upd_ne (fun q : b = α (i, 0) => nm (q ▸ hb))]; exact (r.hm b hb).2⟩, r.m0, r.keep, fun b o z => ?_, r.f0.trans sf, by rw [List.length_set]; exact r.len, α, fun p q hp hq => inj p q (isOwn_set rfl hp) (isOwn_set rfl hq), fun j t ht => ?_⟩
  · by_cases hb : b = α (i, 0)
    · subst hb
      rw [upd_same] at z
      rw [← z]
      exact h2
    · rw [upd_ne hb] at z
      exact r.ex b o z
  · obtain ⟨c, q1, q2⟩ := r.dr
    exact ⟨c, q1, sf _ _ q2⟩
  · by_cases hb : b = α (i, 0)
    · subst hb
      exact .inr h6
    · rw [upd_ne hb] at z
      exact r.nw b o z
  · rw [List.getElem?_set] at ht
    by_cases hj : i = j
    · subst hj
      rw [if_pos rfl] at ht
      split at ht
      · cases ht
        exact ⟨_, h1, den_lst upd_same (h5.mono sf)⟩
      · cases ht
    · rw [if_neg hj] at ht
      have z := hα j t ht
      have nb : ∀ m, t.has m = true → α (j, m) ≠ α (i, 0) := fun m ho q => hj (congrArg Prod.fst (inj (i, 0) (j, m) ⟨_, hs, decide_eq_true (rfl : (0 : Nat) = 0)⟩ ⟨t, ht, ho⟩ q.symm))
      have na : t.ow = true → α (j, 0) ≠ α (i, 0) := fun ho => nb 0 (has0 ho)
      cases t with
      | no => trivial
      | d x =>
        obtain ⟨u, q1, q2⟩ := z
        exact ⟨u, q1, Den.mono sf x u q2⟩
      | own zs =>
        obtain ⟨q1, ⟨us', q2, q3, q4, q6⟩, q5⟩ := z
        exact ⟨q1, ⟨us', q2, by rw [upd_ne (na rfl)]; exact q3, q4, q6.mono sf⟩, q5⟩
      | mu k zs =>
        obtain ⟨q1, ⟨us', q2, q3, q4, q6⟩, q5⟩ := z
        exact ⟨q1, ⟨us', q2, by rw [upd_ne (na rfl)]; exact q3, q4, q6.mono sf⟩, q5⟩
      | oo x =>
        obtain ⟨q1, q2, q5⟩ := z
        obtain ⟨_, _, q3, _⟩ := q2.at
        exact ⟨q1, q2.same rfl (by rw [upd_ne (na rfl)]; exact q3) sf, q5⟩
      | ll ks xss => exact SlR.ll_same z rfl (fun _ => rfl) (fun _ _ => rfl) (fun m hm zz => (upd_ne (nb m (decide_eq_true hm))).trans zz) sf
end
/-! ### targets -/
abbrev Eg := List Sl → D → Option (List Sl)
def canG (K : PySem.W.Frag) (tg : Eg) (js : List Nat) : TG := fun v σ H Q => ∃ Z F ds w d ds', R K Z F H σ ds w ∧ Den K Z.p F d v ∧ tg ds d = some ds' ∧ ∀ σ', R K Z F H σ' ds' w → (∀ i, i ∉ js → σ'[i]? = σ[i]?) → σ'.length = σ.length → Q σ' H
abbrev Egs := List Sl → List D → Option (List Sl)
def canGs (K : PySem.W.Frag) (tg : Egs) (js : List Nat) : TGs := fun v σ H Q => ∃ Z F ds w d ds', R K Z F H σ ds w ∧ Dens K Z.p F d v ∧ tg ds d = some ds' ∧ ∀ σ', R K Z F H σ' ds' w → (∀ i, i ∉ js → σ'[i]? = σ[i]?) → σ'.length = σ.length → Q σ' H
structure JG (X : Cx) (tg : Expr) (f : Eg) (js : List Nat) : Prop where run : PG X tg (canG X.K f js)
structure JGs (X : Cx) (tg : List Expr) (f : Egs) (js : List Nat) : Prop where run : PGs X tg (canGs X.K f js)
theorem pg_weak {X : Cx} {tg : Expr} {t t' : TG} (h : PG X tg t) (s : ∀ v σ H Q, t' v σ H Q → t v σ H Q) : PG X tg t' := ⟨fun pins s' σ H v u Q I r q => h.run pins s' σ H v u Q I r (s v σ H Q q)⟩
theorem pgs_weak {X : Cx} {tg : List Expr} {t t' : TGs} (h : PGs X tg t) (s : ∀ v σ H Q, t' v σ H Q → t v σ H Q) : PGs X tg t' := ⟨fun pins s' σ H v u Q I r q => h.run pins s' σ H v u Q I r (s v σ H Q q)⟩
def gN (i : Nat) : Eg := fun ds d => some (ds.set i (.d d))
def gsNil : Egs := fun ds xs => match xs with | [] => some ds | _ => none
def gsCons (g : Eg) (h : Egs) : Egs := fun ds xs => match xs with | x :: r => (g ds x).bind fun ds1 => h ds1 r | _ => none
def gT (n : Nat) (h : Egs) : Eg := fun ds d => match d with | .tup xs => if xs.length = n then h ds xs else none | _ => none
section
variable {X : Cx} {pos : Pos} {e : Expr} {es : List Expr} {g : Eg} {h : Egs} {js js' : List Nat}
theorem jg_name (i : Nat) {x : Str} (hN : X.N.Nodup) (hi : X.N[i]? = some x := by rfl) (hx : Loc X.env.scope x := by first | exact Or.inl rfl | exact Or.inr rfl) (hf : X.fn x = true ∨ X.env.scope.names.lookup x = some .local := by first | exact .inl rfl | exact .inr rfl | assumption) : JG X (.Name x pos) (gN i) [i] :=
  ⟨pg_weak (pg_name hN hi hx hf) fun v σ H Q ⟨Z, F, ds, w, d, ds', rr, hd, hg, k⟩ => by
    cases hg
    exact k _ (rr.set hd) (fun j hj => List.getElem?_set_ne (fun z => hj (by rw [← z]; exact List.mem_singleton.mpr rfl))) (by rw [List.length_set])⟩
theorem jgs_nil : JGs X [] gsNil [] := ⟨pgs_weak pgs_nil fun v σ H Q ⟨Z, F, ds, w, d, ds', rr, hd, hg, k⟩ => by
  unfold gsNil at hg
  split at hg
  · cases hg
    unfold Dens at hd
    exact ⟨hd, k σ rr (fun _ _ => rfl) rfl⟩
  · cases hg⟩
theorem jgs_cons (h1 : JG X e g js) (h2 : JGs X es h js') (hs : (assignEach (e :: es) X.env).map (·.2) = assign e X.env :: (assignEach es X.env).map (·.2) := by rfl) : JGs X (e :: es) (gsCons g h) (js ++ js') := ⟨pgs_weak (pgs_cons h1.run h2.run hs) fun v σ H Q ⟨Z, F, ds, w, d, ds', rr, hd, hg, k⟩ => by
  unfold gsCons at hg
  split at hg
  · obtain ⟨ds1, g1, g2⟩ := bind2 hg
    unfold Dens at hd
    obtain ⟨u, r, rfl, d1, d2⟩ := hd
    exact ⟨u, r, rfl, Z, F, ds, w, _, _, rr, d1, g1, fun σ1 r1 s1 l1 => ⟨Z, F, ds1, w, _, _, r1, d2, g2, fun σ2 r2 s2 l2 => k σ2 r2 (fun i hi => (s2 i fun z => hi (List.mem_append_right _ z)).trans (s1 i fun z => hi (List.mem_append_left _ z))) (l2.trans l1)⟩⟩
  · cases hg⟩
theorem jg_tup {kk n : Nat} (hc : X.calm = true) (h1 : JGs X es h js) (hn : (assignEach es X.env).length = n := by rfl) (hst : (assignEach es X.env).findIdx? (·.1) = none := by rfl) : JG X (.Tuple es kk pos) (gT n h) js := ⟨pg_weak (pg_tup hc h1.run hn hst) fun v σ H Q ⟨Z, F, ds, w, d, ds', rr, hd, hg, k⟩ => by
  unfold gT at hg
  split at hg
  · split at hg
    · rename_i hl
      unfold Den at hd
      obtain ⟨a, vs, rfl, h1, h2⟩ := hd
      exact ⟨a, vs, rfl, same_t h1 rr.ex, by rw [h2.len]; exact hl, Z, F, ds, w, _, _, rr, h2, hg, k⟩
    · cases hg
  · cases hg⟩
end
end J
namespace J
open PySem PyProof.Rows L2
/-! ### comprehensions -/
def wipeS (ds : List Sl) : List Nat → List Sl
  | [] => ds
  | v :: vs => (wipeS ds vs).set v .no
section
variable {K : PySem.W.Frag} {Z : Cfg} {F H : Hp} {σ : L2.St} {ds : List Sl} {w : Wd}
theorem R.no (r : R K Z F H σ ds w) (i : Nat) : R K Z F H (σ.set i none) (ds.set i .no) w := by
  refine ⟨r.ex, r.fp, r.dr, r.pm, r.hm, r.m0, r.keep, r.nw, r.f0, by rw [List.length_set, List.length_set]; exact r.len, ?_⟩
  obtain ⟨α, inj, hs⟩ := r.env
  refine ⟨α, fun a b ha hb => inj a b (isOwn_set rfl ha) (isOwn_set rfl hb), fun j s e => ?_⟩
  rw [List.getElem?_set] at e
  by_cases hj : i = j
  · subst hj
    rw [if_pos rfl] at e
    split at e
    · cases e
      trivial
    · cases e
  · rw [if_neg hj] at e
    have q := hs j s e
    have e2 : (σ.set i none)[j]? = σ[j]? := List.getElem?_set_ne hj
    cases s with
    | no => trivial
    | d x =>
      obtain ⟨u, h1, h2⟩ := q
      exact ⟨u, by rw [e2]; exact h1, h2⟩
    | own xs =>
      obtain ⟨h1, h2, h3⟩ := q
      exact ⟨by rw [e2]; exact h1, h2, h3⟩
    | mu k xs =>
      obtain ⟨h1, h2, h3⟩ := q
      exact ⟨by rw [e2]; exact h1, h2, h3⟩
    | oo x =>
      obtain ⟨h1, h2, h3⟩ := q
      exact ⟨by rw [e2]; exact h1, h2, h3⟩
    | ll ks xss => exact SlR.ll_same q e2 (fun _ => rfl) (fun _ _ => rfl) (fun _ _ z => z) (Same.refl _)
theorem R.wipe (r : R K Z F H σ ds w) : ∀ vs : List Nat, R K Z F H (wipe σ vs) (wipeS ds vs) w
  | [] => r
  | v :: vs => (R.wipe r vs).no v
theorem wipe_same {σ1 σ2 : L2.St} (hl : σ1.length = σ2.length) : ∀ {vs : List Nat}, (∀ i, i ∉ vs → σ1[i]? = σ2[i]?) → wipe σ1 vs = wipe σ2 vs := fun {vs} h => by
  refine List.ext_getElem? fun i => ?_
  by_cases hi : i ∈ vs
  · have gone : ∀ (σ : L2.St) (vs : List Nat), i ∈ vs → (L2.wipe σ vs)[i]? = if i < σ.length then some none else none := fun σ vs => by
      induction vs with
      | nil => intro h; cases h
      | cons v vs ih =>
        intro h
        show ((L2.wipe σ vs).set v none)[i]? = _
        rw [List.getElem?_set, wipe_length]
        by_cases hv : v = i
        · subst hv
          rw [if_pos rfl]
        · rw [if_neg hv]
          rcases List.mem_cons.mp h with z | z
          · exact absurd z.symm hv
          · exact ih z
    rw [gone σ1 vs hi, gone σ2 vs hi, hl]
  · have stays : ∀ (σ : L2.St) (vs : List Nat), i ∉ vs → (L2.wipe σ vs)[i]? = σ[i]? := fun σ vs => by
      induction vs with
      | nil => intro _; rfl
      | cons v vs ih =>
        intro h
        show ((L2.wipe σ vs).set v none)[i]? = _
        rw [List.getElem?_set_ne (fun z => h (by rw [z]; exact List.mem_cons_self))]
        exact ih fun z => h (List.mem_cons_of_mem _ z)
    rw [stays σ1 vs hi, stays σ2 vs hi, h i hi]
theorem wipe_wipe (σ : L2.St) (vs : List Nat) : wipe (wipe σ vs) vs = wipe σ vs := wipe_same (wipe_length σ vs) fun i hi => by
  have stays : ∀ (vs : List Nat), i ∉ vs → (L2.wipe σ vs)[i]? = σ[i]? := fun vs => by
    induction vs with
    | nil => intro _; rfl
    | cons v vs ih =>
      intro h
      show ((L2.wipe σ vs).set v none)[i]? = _
      rw [List.getElem?_set_ne (fun z => h (by rw [z]; exact List.mem_cons_self))]
      exact ih fun z => h (List.mem_cons_of_mem _ z)
  exact stays vs hi
end
def lcGo (tg : Eg) (c : Et) (e : Ev) (ds : List Sl) : List D → Wd → Option (List D × Wd)
  | [], w => some ([], w)
  | x :: xs, w => (tg ds x).bind fun ds1 => (c ds1 w).bind fun b => if b.1 = true then (e ds1 b.2).bind fun y => (lcGo tg c e ds xs y.2).bind fun r => some (y.1 :: r.1, r.2) else lcGo tg c e ds xs b.2
def fLc (src : Ef) (tg : Eg) (c : Et) (e : Ev) (vs : List Nat) : Ef := fun ds w => (src ds w).bind fun s => (lcGo tg c e (wipeS ds vs) s.1 s.2).bind fun r => if r.1.length ≤ line then some r else none
def tYesJ : Et := fun _ w => some (true, w)
structure JTs (X : Cx) (ifs : List Expr) (f : Et) : Prop where run : PTs X ifs (canT X.K f)
section
variable {X : Cx} {K : PySem.W.Frag} {c : Expr} {t : Et}
theorem jts_nil : JTs X [] tYesJ := ⟨⟨fun pins s σ H Q I ⟨Z, F, ds, w, d, w', rr, hf, k⟩ => by
  cases hf
  exact pts_nil.run pins s σ H Q I (k F H rr.stp rr.dr)⟩⟩
theorem jts_one (h : JT X c t) : JTs X [c] t := ⟨pts_one h.run⟩
theorem lc_of {b : Bool} {src : Ef} {tg : Eg} {c : Et} {e : Ev} {vs js : List Nat} (hj : ∀ i ∈ js, i ∈ vs) (σ : L2.St) (H : Hp) (Q : VK) : canF K (fLc src tg c e vs) σ H Q → tLc (canI K b src) (canG K tg js) (canT K c) (canE K e) vs σ H Q := fun ⟨Z, F, ds, w, ys, w', rr, hf, k⟩ => by
  obtain ⟨⟨xs, w1⟩, hs, hf⟩ := bind2 hf
  obtain ⟨⟨zs, w2⟩, hg, hf⟩ := bind2 hf
  split at hf
  · rename_i hl
    cases hf
    refine ⟨Z, F, ds, w, _, _, rr, hs, fun T F1 H1 A s1 d1 _ hS D hD => ?_⟩
    obtain ⟨hA, hT⟩ := hS
    have r1 := rr.step s1 d1
    have hDp : D ≠ Z.p := r1.np hD
    have hDF : F1 D = none := r1.ex.free hD
    refine ⟨fun i m H2 => m = xs.length - i ∧ i ≤ xs.length ∧ ∃ F2 acc us rest w3, Stp Z.p F1 H1 F2 H2 ∧ Dr Z.p F2 H2 w3 ∧ H2 D = some (.lst us) ∧ F2 D = none ∧ Dens K Z.p F2 acc us ∧ lcGo tg c e (wipeS ds vs) (xs.drop i) w3 = some (rest, w') ∧ acc ++ rest = ys, ⟨xs.length, rfl, Nat.zero_le _, F1, [], [], ys, w1, ?_⟩, fun i m H2 hw => ?_⟩
    · obtain ⟨s2, d2⟩ := r1.newO (o := .lst []) hD
      exact ⟨s2, d2, upd_same, hDF, dens_nil, hg, rfl⟩
    · obtain ⟨rfl, hi, F2, acc, us, rest, w3, s2, d2, hDl, hDn, hacc, hgo, hcat⟩ := hw
      have hA2 : ∀ q ∈ A, H2 q.1 = some q.2 := fun q hq => s2.h _ _ (hA q hq).2 (hA q hq).1
      obtain ⟨hstop, hgo'⟩ := hT F2 H2 hA2 s2.f s2.e s2.fp (let ⟨a, h, _⟩ := d2; ⟨_, h⟩) i
      by_cases hlt : i < xs.length
      · right
        have hx : xs[i]? = some xs[i] := List.getElem?_eq_getElem hlt
        obtain ⟨g1, g2⟩ := hgo' _ hx
        refine ⟨g1, fun H' => ∃ m', m' < xs.length - i ∧ (m' = xs.length - (i + 1) ∧ i + 1 ≤ xs.length ∧ ∃ F2 acc us rest w3, Stp Z.p F1 H1 F2 H' ∧ Dr Z.p F2 H' w3 ∧ H' D = some (.lst us) ∧ F2 D = none ∧ Dens K Z.p F2 acc us ∧ lcGo tg c e (wipeS ds vs) (xs.drop (i + 1)) w3 = some (rest, w') ∧ acc ++ rest = ys), fun H' z => z, fun x H3 hy => ?_⟩
        obtain ⟨sm, F3, s3, hden⟩ := g2 x H3 hy
        have d3 : Dr Z.p F3 H3 w3 := by
          obtain ⟨a, q1, q2⟩ := d2
          exact ⟨a, sm _ _ q1, s3.f _ _ q2⟩
        have s13 := s2.trans s3
        have r3 := r1.step s13 d3
        have hD3 : H3 D = some (.lst us) := sm _ _ hDl
        have hD3n : F3 D = none := by
          cases q : F3 D with
          | none => rfl
          | some o =>
            rcases s3.n D o q with z | z
            · rw [hDn] at z
              cases z
            · rw [hDl] at z
              cases z
        rw [List.drop_eq_getElem_cons hlt] at hgo
        obtain ⟨ds1, htg, hgo⟩ := bind2 (show (tg (wipeS ds vs) xs[i]).bind _ = _ from hgo)
        obtain ⟨⟨b, w4⟩, hc, hgo⟩ := bind2 hgo
        refine ⟨Z, F3, wipeS ds vs, w3, _, _, r3.wipe vs, hden, htg, fun σ2 r4 hsame hlen => ⟨?_, ?_⟩⟩
        · have e1 : L2.wipe σ2 vs = L2.wipe (L2.wipe σ vs) vs := wipe_same hlen fun i hi => hsame i fun z => hi (hj i z)
          rw [e1, wipe_wipe]
        · refine ⟨Z, F3, ds1, w3, _, _, r4, hc, fun F4 H4 s4 d4 => ?_⟩
          have lift : ∀ {F5 H5 : Hp} {w5 : Wd}, Stp Z.p F3 H3 F5 H5 → H5 D = some (.lst us) ∧ F5 D = none := fun {F5 H5 w5} s5 => by
            refine ⟨s5.h D _ hDp hD3, ?_⟩
            cases q : F5 D with
            | none => rfl
            | some o =>
              rcases s5.n D o q with z | z
              · rw [hD3n] at z
                cases z
              · rw [hD3] at z
                cases z
          dsimp only
          split
          · rename_i hb
            dsimp only at hgo
            rw [if_pos hb] at hgo
            obtain ⟨⟨y, w5⟩, he, hgo⟩ := bind2 hgo
            obtain ⟨⟨rest', w6⟩, hr, hgo⟩ := bind2 hgo
            cases hgo
            refine ⟨Z, F4, ds1, _, _, _, r4.step s4 d4, he, fun v F5 H5 s5 d5 hv => ?_⟩
            have s35 := s4.trans s5
            obtain ⟨hD5, hD5n⟩ := lift (w5 := w5) s35
            have hlen2 : us.length < sizeLine := by
              rw [hacc.len]
              refine sz_lt ?_
              have := congrArg List.length hcat
              rw [List.length_append, List.length_cons] at this
              have hl' : ys.length ≤ line := hl
              dsimp only at this
              omega
            refine ⟨us, hD5, hlen2, xs.length - (i + 1), by omega, rfl, by omega, F5, acc ++ [y], us ++ [v], rest', w5, ?_, ?_, upd_same, hD5n, (hacc.mono (s3.f.trans s35.f)).append (dens_cons hv dens_nil), hr, by rw [List.append_assoc]; exact hcat⟩
            · have s15 := s13.trans s35
              refine ⟨s15.f, fun b o hb hz => ?_, fun b o hz => ?_, s15.n, s15.fp⟩
              · have hbD : b ≠ D := ne_of_none hz hD
                rw [upd_ne hbD]
                exact s15.h b o hb hz
              · rw [upd_ne (ne_of_none hz hD5n)]
                exact s15.e b o hz
            · obtain ⟨a, q1, q2⟩ := d5
              exact ⟨a, by rw [upd_ne (Ne.symm hDp)]; exact q1, q2⟩
          · rename_i hb
            dsimp only at hgo
            rw [if_neg hb] at hgo
            obtain ⟨hD4, hD4n⟩ := lift (w5 := w4) s4
            exact ⟨xs.length - (i + 1), by omega, rfl, by omega, F4, acc, us, rest, w4, s13.trans s4, d4, hD4, hD4n, hacc.mono (s3.f.trans s4.f), hgo, hcat⟩
      · left
        refine ⟨hstop (by omega), ?_⟩
        have hnil : xs.drop i = [] := List.drop_eq_nil_of_le (by omega)
        rw [hnil] at hgo
        cases hgo
        rw [List.append_nil] at hcat
        subst hcat
        refine k D us F2 H2 (s1.trans s2) d2 hDl ?_ hDn hDp hacc
        cases q : H D with
        | none => rfl
        | some o =>
          have := s1.h D o hDp q
          rw [hD] at this
          cases this
  · cases hf
theorem jf_lc {elt tg iter : Expr} {ifs : List Expr} {scope : Scope} {own : List (Str × Nat)} {pos : Pos} {b : Bool} {src : Ef} {g : Eg} {c : Et} {e : Ev} {js : List Nat} (hc : X.calm = true) (hN : X.N.Nodup) (hi : JI X tg iter b src) (ok : BlkOk X.N X.env.scope scope own)
    (hg : ∀ (s : Shared) (H : Hp) (C : Addr) (cl : List (Str × Addr)) (fp : List Addr), JG (X.blk s H scope (compEnvC scope cl C X.env) fp) tg g js) (ht : ∀ (s : Shared) (H : Hp) (C : Addr) (cl : List (Str × Addr)) (fp : List Addr), JTs (X.blk s H scope (compEnvC scope cl C X.env) fp) ifs c)
    (he : ∀ (s : Shared) (H : Hp) (C : Addr) (cl : List (Str × Addr)) (fp : List Addr), JE (X.blk s H scope (compEnvC scope cl C X.env) fp) elt e) (hj : ∀ i ∈ js, i ∈ own.map (·.2) := by decide) (hs : ∀ x, foldedSetIterable iter X.env x = pure x := by intro _; rfl) :
    JF X (.ListComp elt [⟨tg, iter, ifs, 0⟩] scope pos) (fLc src g c e (own.map (·.2))) :=
  ⟨pe_weak (pe_lc hc hN hi.run ok (fun s H C cl fp => (hg s H C cl fp).run) (fun s H C cl fp => (ht s H C cl fp).run) (fun s H C cl fp => (he s H C cl fp).run) hs) (lc_of hj)⟩
end
/-! ### statements -/
inductive Out where
  | nx (ds : List Sl) (w : Wd) | rt (d : D) (w : Wd) | bk (ds : List Sl) (w : Wd) | ct (ds : List Sl) (w : Wd)
abbrev Es := List Sl → Wd → Option Out
def OutK (K : PySem.W.Frag) (Z : Cfg) (F : Hp) (o : Out) (D : Ends) : Prop := match o with
  | .nx ds w => ∀ σ' F' H', Same F F' → R K Z F' H' σ' ds w → D.nx σ' H'
  | .bk ds w => ∀ σ' F' H', Same F F' → R K Z F' H' σ' ds w → D.bk σ' H'
  | .ct ds w => ∀ σ' F' H', Same F F' → R K Z F' H' σ' ds w → D.ct σ' H'
  | .rt d w => ∀ v σ' ds' F' H', Same F F' → R K Z F' H' σ' ds' w → Den K Z.p F' d v → D.rt v H'
theorem OutK.go {K : PySem.W.Frag} {Z : Cfg} {F F' : Hp} {o : Out} {D : Ends} (k : OutK K Z F o D) (e : Same F F') : OutK K Z F' o D := by
  cases o with
  | nx ds w => exact fun σ' F2 H' s => k σ' F2 H' (e.trans s)
  | bk ds w => exact fun σ' F2 H' s => k σ' F2 H' (e.trans s)
  | ct ds w => exact fun σ' F2 H' s => k σ' F2 H' (e.trans s)
  | rt d w => exact fun v σ' ds' F2 H' s => k v σ' ds' F2 H' (e.trans s)
def canS (K : PySem.W.Frag) (f : Es) : TS := fun D σ H => ∃ Z F ds w o, R K Z F H σ ds w ∧ f ds w = some o ∧ OutK K Z F o D
structure JS (X : Cx) (st : Stmt) (f : Es) : Prop where run : PS X st (canS X.K f)
structure JSs (X : Cx) (st : List Stmt) (f : Es) : Prop where run : PSs X st (canS X.K f)
theorem ps_weak {X : Cx} {st : Stmt} {t t' : TS} (h : PS X st t) (s : ∀ D σ H, t' D σ H → t D σ H) : PS X st t' := ⟨fun pins s' σ H D I q => h.run pins s' σ H D I (s D σ H q)⟩
theorem pss_weak {X : Cx} {st : List Stmt} {t t' : TS} (h : PSs X st t) (s : ∀ D σ H, t' D σ H → t D σ H) : PSs X st t' := ⟨fun pins s' σ H D I q => h.run pins s' σ H D I (s D σ H q)⟩
def sNil : Es := fun ds w => some (.nx ds w)
def sSeq (f g : Es) : Es := fun ds w => (f ds w).bind fun o => match o with | .nx ds1 w1 => g ds1 w1 | z => some z
def sNone : Es := fun _ _ => none
section
variable {X : Cx} {st : Stmt} {rest : List Stmt} {f g : Es} {e : Expr} {fe : Ev} {pos : Pos}
theorem jss_nil : JSs X [] sNil := ⟨pss_weak pss_nil fun D σ H ⟨Z, F, ds, w, o, rr, hf, k⟩ => by
  cases hf
  exact k σ F H (Same.refl _) rr⟩
theorem jss_cons (h : JS X st f) (h2 : JSs X rest g) : JSs X (st :: rest) (sSeq f g) := ⟨pss_weak (pss_cons h.run h2.run) fun D σ H ⟨Z, F, ds, w, o, rr, hf, k⟩ => by
  obtain ⟨o1, h1, hf⟩ := bind2 hf
  refine ⟨Z, F, ds, w, o1, rr, h1, ?_⟩
  cases o1 with
  | nx ds1 w1 => exact fun σ' F' H' s r' => ⟨Z, F', ds1, w1, o, r', hf, k.go s⟩
  | rt d w1 =>
    cases hf
    exact k
  | bk ds1 w1 =>
    cases hf
    exact k
  | ct ds1 w1 =>
    cases hf
    exact k⟩
/-- what is never come to -/
theorem js_never : JS X st sNone := ⟨⟨fun pins s' σ H D I ⟨Z, F, ds, w, o, rr, hf, k⟩ => by cases hf⟩⟩
theorem jss_never {sts : List Stmt} : JSs X sts sNone := ⟨⟨fun pins s' σ H D I ⟨Z, F, ds, w, o, rr, hf, k⟩ => by cases hf⟩⟩
/-- a list of one's own is told to all from here on -/
def sFrz (i : Nat) (g : Es) : Es := fun ds w => match ds[i]? with | some (.own xs) => g (ds.set i (.d (.lst xs))) w | _ => g ds w
theorem jss_frz (i : Nat) (h : JSs X rest g) : JSs X rest (sFrz i g) := ⟨pss_weak h.run fun D σ H ⟨Z, F, ds, w, o, rr, hf, k⟩ => by
  unfold sFrz at hf
  split at hf
  · rename_i xs hx
    obtain ⟨F', s1, r1⟩ := rr.freeze hx
    exact ⟨Z, F', _, w, o, r1, hf, k.go s1⟩
  · exact ⟨Z, F, _, w, o, rr, hf, k⟩⟩
def sSet (i : Nat) (f : Ev) : Es := fun ds w => (f ds w).bind fun d => some (.nx (ds.set i (.d d.1)) d.2)
theorem js_set (i : Nat) {x : Str} {pos' : Pos} (hN : X.N.Nodup) (he : JE X e fe) (hi : X.N[i]? = some x := by rfl) (hx : Loc X.env.scope x := by first | exact Or.inl rfl | exact Or.inr rfl) (hs : swapsWith e (some (.Name x pos')) pos.line X.env = pure false := by rfl) (hf : X.fn x = true ∨ X.env.scope.names.lookup x = some .local := by first | exact .inl rfl | exact .inr rfl | assumption) :
    JS X (.Assign [.Name x pos'] e pos) (sSet i fe) := ⟨ps_weak (ps_set hN hi hx he.run hs hf) fun D σ H ⟨Z, F, ds, w, o, rr, hf, k⟩ => by
  obtain ⟨d, hd, hf⟩ := bind2 hf
  cases hf
  exact ⟨Z, F, ds, w, _, _, rr, hd, fun v F1 H1 s1 d1 hv => k _ F1 H1 s1.f ((rr.step s1 d1).set hv)⟩⟩
/-- .. to a list of its own -/
def sSetO (i : Nat) (f : Ef) : Es := fun ds w => (f ds w).bind fun d => some (.nx (ds.set i (.own d.1)) d.2)
theorem R.fresh {K : PySem.W.Frag} {Z : Cfg} {F H F1 H1 : Hp} {σ : L2.St} {ds : List Sl} {w w1 : Wd} {xs : List D} {q : Addr} {vs : List V} (i : Nat) (rr : R K Z F H σ ds w) (s1 : Stp Z.p F H F1 H1) (d1 : Dr Z.p F1 H1 w1) (h1 : H1 q = some (.lst vs)) (h2 : H q = none) (h3 : F1 q = none) (h4 : q ≠ Z.p) (h5 : Dens K Z.p F1 xs vs) : R K Z F1 H1 (σ.set i (some (.ref q))) (ds.set i (.own xs)) w1 := by
  have nm : q ∉ Z.M := fun z => by
    obtain ⟨⟨o, ho⟩, _⟩ := rr.hm _ z
    rw [h2] at ho
    cases ho
  obtain ⟨α, hα⟩ := rr.env
  have he : EnvOk K Z F H σ ds α := hα
  refine (rr.step s1 d1).setO (he.step s1) (fun p hp => ?_) h1 h3 h4 ?_ h5
  · obtain ⟨o, g2, _⟩ := he.live hp
    exact ne_of_none g2 h2
  · cases z : Z.H0 q with
    | none => rfl
    | some o =>
      have := rr.keep q o h4 nm z
      rw [h2] at this
      cases this
theorem js_setO (i : Nat) {fl : Ef} {x : Str} {pos' : Pos} (hN : X.N.Nodup) (he : JF X e fl) (hi : X.N[i]? = some x := by rfl) (hx : Loc X.env.scope x := by first | exact Or.inl rfl | exact Or.inr rfl) (hs : swapsWith e (some (.Name x pos')) pos.line X.env = pure false := by rfl) (hf : X.fn x = true ∨ X.env.scope.names.lookup x = some .local := by first | exact .inl rfl | exact .inr rfl | assumption) :
    JS X (.Assign [.Name x pos'] e pos) (sSetO i fl) := ⟨ps_weak (ps_set hN hi hx he.run hs hf) fun D σ H ⟨Z, F, ds, w, o, rr, hf, k⟩ => by
  obtain ⟨d, hd, hf⟩ := bind2 hf
  cases hf
  exact ⟨Z, F, ds, w, _, _, rr, hd, fun q vs F1 H1 s1 d1 h1 h2 h3 h4 h5 => k _ F1 H1 s1.f (R.fresh i rr s1 d1 h1 h2 h3 h4 h5)⟩⟩
section
variable {elt tg iter : Expr} {ifs : List Expr} {scope : Scope} {own : List (Str × Nat)} {pos' : Pos} {b : Bool} {src : Ef} {gg : Eg} {c : Et} {ee : Ev} {js : List Nat} {y : Str} {py : Pos}
/-- name = [.. for ..] -/
theorem js_setLc (i : Nat) (hc : X.calm = true) (hN : X.N.Nodup) (hsw : swapsWith (.ListComp elt [⟨tg, iter, ifs, 0⟩] scope pos') (some (.Name y py)) pos.line X.env = pure true) (hi : JI X tg iter b src) (ok : BlkOk X.N X.env.scope scope own)
    (hg : ∀ (s : Shared) (H : Hp) (C : Addr) (cl : List (Str × Addr)) (fp : List Addr), JG (X.blk s H scope (compEnvC scope cl C X.env) fp) tg gg js) (ht : ∀ (s : Shared) (H : Hp) (C : Addr) (cl : List (Str × Addr)) (fp : List Addr), JTs (X.blk s H scope (compEnvC scope cl C X.env) fp) ifs c)
    (he : ∀ (s : Shared) (H : Hp) (C : Addr) (cl : List (Str × Addr)) (fp : List Addr), JE (X.blk s H scope (compEnvC scope cl C X.env) fp) elt ee) (hy : X.N[i]? = some y := by rfl) (hyl : X.env.scope.names.lookup y = some .local := by rfl) (hj : ∀ i ∈ js, i ∈ own.map (·.2) := by decide) (hs : ∀ x, foldedSetIterable iter X.env x = pure x := by intro _; rfl) :
    JS X (.Assign [.Name y py] (.ListComp elt [⟨tg, iter, ifs, 0⟩] scope pos') pos) (sSetO i (fLc src gg c ee (own.map (·.2)))) :=
  ⟨ps_weak (ps_setLc hc hN hy hyl hsw hi.run ok (fun s H C cl fp => (hg s H C cl fp).run) (fun s H C cl fp => (ht s H C cl fp).run) (fun s H C cl fp => (he s H C cl fp).run) hs) fun D σ H ⟨Z, F, ds, w, o, rr, hf, k⟩ => by
    obtain ⟨d, hd, hf⟩ := bind2 hf
    cases hf
    exact lc_of hj σ H _ ⟨Z, F, ds, w, _, _, rr, hd, fun q vs F1 H1 s1 d1 h1 h2 h3 h4 h5 => k _ F1 H1 s1.f (R.fresh i rr s1 d1 h1 h2 h3 h4 h5)⟩⟩
end
def sRet (f : Ev) : Es := fun ds w => (f ds w).bind fun d => some (.rt d.1 d.2)
theorem js_ret (he : JE X e fe) : JS X (.Return (some e) pos) (sRet fe) := ⟨ps_weak (ps_ret he.run) fun D σ H ⟨Z, F, ds, w, o, rr, hf, k⟩ => by
  obtain ⟨d, hd, hf⟩ := bind2 hf
  cases hf
  exact ⟨Z, F, ds, w, _, _, rr, hd, fun v F1 H1 s1 d1 hv => k v _ _ F1 H1 s1.f (rr.step s1 d1) hv⟩⟩
theorem js_retN : JS X (.Return none pos) (sRet (eC .non)) := ⟨ps_weak ps_retN fun D σ H ⟨Z, F, ds, w, o, rr, hf, k⟩ => by
  cases hf
  exact k _ _ _ F H (Same.refl _) rr den_non⟩
def sDrop (f : Ev) : Es := fun ds w => (f ds w).bind fun d => some (.nx ds d.2)
theorem js_expr (he : JE X e fe) (hs : swapsWith e none pos.line X.env = pure false := by rfl) : JS X (.Expr e pos) (sDrop fe) := ⟨ps_weak (ps_expr he.run hs) fun D σ H ⟨Z, F, ds, w, o, rr, hf, k⟩ => by
  obtain ⟨d, hd, hf⟩ := bind2 hf
  cases hf
  exact ⟨Z, F, ds, w, _, _, rr, hd, fun v F1 H1 s1 d1 hv => k _ F1 H1 s1.f (rr.step s1 d1)⟩⟩
def sPass : Es := sNil
theorem js_pass : JS X (.Pass pos) sPass := ⟨ps_weak ps_pass fun D σ H ⟨Z, F, ds, w, o, rr, hf, k⟩ => by
  cases hf
  exact k σ F H (Same.refl _) rr⟩
def sBk : Es := fun ds w => some (.bk ds w)
def sCt : Es := fun ds w => some (.ct ds w)
theorem js_break : JS X (.Break pos) sBk := ⟨ps_weak ps_break fun D σ H ⟨Z, F, ds, w, o, rr, hf, k⟩ => by
  cases hf
  exact k σ F H (Same.refl _) rr⟩
theorem js_continue : JS X (.Continue pos) sCt := ⟨ps_weak ps_continue fun D σ H ⟨Z, F, ds, w, o, rr, hf, k⟩ => by
  cases hf
  exact k σ F H (Same.refl _) rr⟩
def sIf (t : Et) (a b : Es) : Es := fun ds w => (t ds w).bind fun r => if r.1 = true then a ds r.2 else b ds r.2
theorem js_if {c : Expr} {a b : List Stmt} {t : Et} {fa fb : Es} (hc : JT X c t) (ha : JSs X a fa) (hb : JSs X b fb) : JS X (.If c a b pos) (sIf t fa fb) := ⟨ps_weak (ps_if hc.run ha.run hb.run) fun D σ H ⟨Z, F, ds, w, o, rr, hf, k⟩ => by
  obtain ⟨r, hr, hf⟩ := bind2 hf
  refine ⟨Z, F, ds, w, _, _, rr, hr, fun F1 H1 s1 d1 => ?_⟩
  dsimp only
  split
  · rename_i h
    rw [if_pos h] at hf
    exact ⟨Z, F1, ds, _, o, rr.step s1 d1, hf, k.go s1.f⟩
  · rename_i h
    rw [if_neg h] at hf
    exact ⟨Z, F1, ds, _, o, rr.step s1 d1, hf, k.go s1.f⟩⟩
/-! loops -/
def forGo (tg : Eg) (body : Es) : List D → Es
  | [], ds, w => some (.nx ds w)
  | x :: xs, ds, w => (tg ds x).bind fun ds1 => (body ds1 w).bind fun o => match o with
    | .nx ds2 w2 => forGo tg body xs ds2 w2
    | .ct ds2 w2 => forGo tg body xs ds2 w2
    | .bk ds2 w2 => some (.nx ds2 w2)
    | .rt d w2 => some (.rt d w2)
def sFor (src : Ef) (tg : Eg) (body : Es) : Es := fun ds w => (src ds w).bind fun s => forGo tg body s.1 ds s.2
theorem js_for {tg iter : Expr} {body : List Stmt} {src : Ef} {gg : Eg} {fb : Es} {js : List Nat} (hp : PassesOwn (model X.prog X.w) X.A X.env X.xe) (hc : X.calm = true) (hi : JI X tg iter false src) (hg : JG X tg gg js) (hb : JSs X body fb) (hs : ∀ x, foldedSetIterable iter X.env x = pure x := by intro _; rfl) :
    JS X (.For tg iter body [] pos) (sFor src gg fb) := ⟨ps_weak (ps_for hp hc hi.run hg.run hb.run hs) fun D σ H ⟨Z, F, ds, w, o, rr, hf, k⟩ => by
  obtain ⟨⟨xs, w1⟩, hx, hf⟩ := bind2 hf
  refine ⟨Z, F, ds, w, _, _, rr, hx, fun T F1 H1 A s1 d1 hA hS => ?_⟩
  cases hA rfl
  obtain ⟨_, hT⟩ := hS
  refine ⟨fun i m σ2 H2 => m = xs.length - i ∧ i ≤ xs.length ∧ ∃ F2 ds2 w2, Same F1 F2 ∧ R X.K Z F2 H2 σ2 ds2 w2 ∧ forGo gg fb (xs.drop i) ds2 w2 = some o, ⟨xs.length, rfl, Nat.zero_le _, F1, ds, w1, Same.refl _, rr.step s1 d1, hf⟩, fun i m σ2 H2 hw => ?_⟩
  obtain ⟨rfl, hi, F2, ds2, w2, e2, r2, hgo⟩ := hw
  obtain ⟨hstop, hgo'⟩ := hT F2 H2 (fun _ z => nomatch z) e2 r2.ex r2.fp (let ⟨a, h, _⟩ := r2.dr; ⟨_, h⟩) i
  by_cases hlt : i < xs.length
  · right
    have hxi : xs[i]? = some xs[i] := List.getElem?_eq_getElem hlt
    obtain ⟨g1, g2⟩ := hgo' _ hxi
    refine ⟨g1, fun σ' H' => ∃ m', m' < xs.length - i ∧ (m' = xs.length - (i + 1) ∧ i + 1 ≤ xs.length ∧ ∃ F2 ds2 w2, Same F1 F2 ∧ R X.K Z F2 H' σ' ds2 w2 ∧ forGo gg fb (xs.drop (i + 1)) ds2 w2 = some o), fun _ _ z => z, fun x H3 hy => ?_⟩
    obtain ⟨sm, F3, s3, hden⟩ := g2 x H3 hy
    have d3 : Dr Z.p F3 H3 w2 := by
      obtain ⟨a, q1, q2⟩ := r2.dr
      exact ⟨a, sm _ _ q1, s3.f _ _ q2⟩
    rw [List.drop_eq_getElem_cons hlt] at hgo
    obtain ⟨ds1, htg, hgo⟩ := bind2 (show (gg ds2 xs[i]).bind _ = _ from hgo)
    obtain ⟨o1, hbd, hgo⟩ := bind2 hgo
    refine ⟨Z, F3, ds2, w2, _, _, r2.step s3 d3, hden, htg, fun σ4 r4 _ _ => ⟨Z, F3, ds1, w2, o1, r4, hbd, ?_⟩⟩
    cases o1 with
    | nx ds5 w5 => exact fun σ' F' H' e5 r5 => ⟨_, by omega, rfl, by omega, F', ds5, w5, (e2.trans s3.f).trans e5, r5, hgo⟩
    | ct ds5 w5 => exact fun σ' F' H' e5 r5 => ⟨_, by omega, rfl, by omega, F', ds5, w5, (e2.trans s3.f).trans e5, r5, hgo⟩
    | bk ds5 w5 =>
      cases hgo
      exact fun σ' F' H' e5 r5 => k σ' F' H' (((s1.f.trans e2).trans s3.f).trans e5) r5
    | rt d5 w5 =>
      cases hgo
      exact fun v σ' ds' F' H' e5 r5 hv => k v σ' ds' F' H' (((s1.f.trans e2).trans s3.f).trans e5) r5 hv
  · left
    refine ⟨hstop (by omega), ?_⟩
    rw [List.drop_eq_nil_of_le (by omega)] at hgo
    cases hgo
    exact k σ2 F2 H2 (s1.f.trans e2) r2⟩
def whileN (t : Et) (body : Es) : Nat → Es
  | 0, _, _ => none
  | n + 1, ds, w => (t ds w).bind fun b => if b.1 = true then (body ds b.2).bind fun o => match o with
    | .nx ds2 w2 => whileN t body n ds2 w2
    | .ct ds2 w2 => whileN t body n ds2 w2
    | .bk ds2 w2 => some (.nx ds2 w2)
    | .rt d w2 => some (.rt d w2) else some (.nx ds b.2)
theorem whileN_mono {t : Et} {body : Es} : ∀ {n m : Nat} {ds : List Sl} {w : Wd} {o : Out}, n ≤ m → whileN t body n ds w = some o → whileN t body m ds w = some o
  | 0, _, _, _, _, _, h => by cases h
  | n + 1, 0, _, _, _, hm, _ => absurd hm (Nat.not_succ_le_zero _)
  | n + 1, m + 1, ds, w, o, hm, h => by
    obtain ⟨b, h1, h2⟩ := bind2 (show (t ds w).bind _ = _ from h)
    show (t ds w).bind _ = _
    rw [h1]
    show (if b.1 = true then _ else _) = _
    split at h2
    · rename_i hb
      rw [if_pos hb]
      obtain ⟨o1, h3, h4⟩ := bind2 h2
      rw [h3]
      cases o1 with
      | nx ds2 w2 => exact whileN_mono (Nat.le_of_succ_le_succ hm) h4
      | ct ds2 w2 => exact whileN_mono (Nat.le_of_succ_le_succ hm) h4
      | bk ds2 w2 => exact h4
      | rt d w2 => exact h4
    · rename_i hb
      rw [if_neg hb]
      exact h2
open Classical in
noncomputable def sWhile (t : Et) (body : Es) : Es := fun ds w => if h : ∃ n o, whileN t body n ds w = some o then some (choose (choose_spec h)) else none
theorem sWhile_of {t : Et} {body : Es} {n : Nat} {ds : List Sl} {w : Wd} {o : Out} (h : whileN t body n ds w = some o) : sWhile t body ds w = some o := by
  have hx : ∃ n o, whileN t body n ds w = some o := ⟨n, o, h⟩
  unfold sWhile
  rw [dif_pos hx]
  have h2 := Classical.choose_spec (Classical.choose_spec hx)
  have a := whileN_mono (Nat.le_max_left n (Classical.choose hx)) h
  have b := whileN_mono (Nat.le_max_right n (Classical.choose hx)) h2
  rw [a] at b
  exact b.symm
theorem of_sWhile {t : Et} {body : Es} {ds : List Sl} {w : Wd} {o : Out} (h : sWhile t body ds w = some o) : ∃ n, whileN t body n ds w = some o := by
  unfold sWhile at h
  split at h
  · rename_i hx
    have h2 := Classical.choose_spec (Classical.choose_spec hx)
    rw [Option.some.inj h] at h2
    exact ⟨_, h2⟩
  · cases h
theorem js_while {c : Expr} {body : List Stmt} {t : Et} {fb : Es} (hp : PassesOwn (model X.prog X.w) X.A X.env X.xe) (hc : JT X c t) (hb : JSs X body fb) : JS X (.While c body [] pos) (sWhile t fb) := ⟨ps_weak (ps_while hp hc.run hb.run) fun D σ H ⟨Z, F, ds, w, o, rr, hf, k⟩ => by
  obtain ⟨n, hn⟩ := of_sWhile hf
  refine ⟨fun m σ2 H2 => ∃ F2 ds2 w2, Same F F2 ∧ R X.K Z F2 H2 σ2 ds2 w2 ∧ whileN t fb m ds2 w2 = some o, ⟨n, F, ds, w, Same.refl _, rr, hn⟩, fun m σ2 H2 hw => ?_⟩
  obtain ⟨F2, ds2, w2, e2, r2, hgo⟩ := hw
  cases m with
  | zero => cases hgo
  | succ m =>
    obtain ⟨b, h1, h2⟩ := bind2 (show (t ds2 w2).bind _ = _ from hgo)
    refine ⟨Z, F2, ds2, w2, _, _, r2, h1, fun F3 H3 s3 d3 => ?_⟩
    have r3 := r2.step s3 d3
    dsimp only
    split
    · rename_i hb
      rw [if_pos hb] at h2
      obtain ⟨o1, h3, h4⟩ := bind2 h2
      refine ⟨fun σ' H' => ∃ m', m' < m + 1 ∧ ∃ F2 ds2 w2, Same F F2 ∧ R X.K Z F2 H' σ' ds2 w2 ∧ whileN t fb m' ds2 w2 = some o, fun _ _ z => z, Z, F3, ds2, _, o1, r3, h3, ?_⟩
      cases o1 with
      | nx ds5 w5 => exact fun σ' F' H' e5 r5 => ⟨m, Nat.lt_succ_self _, F', ds5, w5, (e2.trans s3.f).trans e5, r5, h4⟩
      | ct ds5 w5 => exact fun σ' F' H' e5 r5 => ⟨m, Nat.lt_succ_self _, F', ds5, w5, (e2.trans s3.f).trans e5, r5, h4⟩
      | bk ds5 w5 =>
        cases h4
        exact fun σ' F' H' e5 r5 => k σ' F' H' ((e2.trans s3.f).trans e5) r5
      | rt d5 w5 =>
        cases h4
        exact fun v σ' ds' F' H' e5 r5 hv => k v σ' ds' F' H' ((e2.trans s3.f).trans e5) r5 hv
    · rename_i hb
      rw [if_neg hb] at h2
      cases h2
      exact k σ2 F3 H3 (e2.trans s3.f) r3⟩
end
end J
namespace J
open PySem PyProof.Rows L2
section
variable {X : Cx} {K : PySem.W.Frag} {Z : Cfg} {F H : Hp} {σ : L2.St} {ds : List Sl} {w : Wd}
theorem R.own1 (r : R K Z F H σ ds w) {i : Nat} {xs : List D} (h : ds[i]? = some (.own xs) ∨ ∃ k, ds[i]? = some (.mu k xs)) : ∃ a vs, σ[i]? = some (some (.ref a)) ∧ H a = some (.lst vs) ∧ F a = none ∧ a ≠ Z.p ∧ Dens K Z.p F xs vs := by
  obtain ⟨α, inj, hα⟩ := r.env
  rcases h with h | ⟨k, h⟩
  · obtain ⟨h1, ⟨vs, h2, h3, h4, h5⟩, _⟩ := hα i _ h
    exact ⟨_, vs, h1, h2, h3, h4, h5⟩
  · obtain ⟨h1, ⟨vs, h2, h3, h4, h5⟩, _⟩ := hα i _ h
    exact ⟨_, vs, h1, h2, h3, h4, h5⟩
/-- what a list of one's own becomes -/
def ownTo (ds : List Sl) (i : Nat) (f : List D → Option (List D)) : Option (List Sl) := match ds[i]? with
  | some (.own xs) => (f xs).bind fun ys => some (ds.set i (.own ys))
  | some (.mu k xs) => (f xs).bind fun ys => some (ds.set i (.mu k ys))
  | _ => none
theorem ownTo_spec {ds ds' : List Sl} {i : Nat} {f : List D → Option (List D)} (h : ownTo ds i f = some ds') : ∃ xs ys s s', ds[i]? = some s ∧ f xs = some ys ∧ ds' = ds.set i s' ∧ ((s = .own xs ∧ s' = .own ys) ∨ ∃ k, s = .mu k xs ∧ s' = .mu k ys) := by
  unfold ownTo at h
  split at h
  · rename_i xs hx
    obtain ⟨ys, h1, h2⟩ := bind2 h
    cases h2
    exact ⟨xs, ys, _, _, hx, h1, rfl, .inl ⟨rfl, rfl⟩⟩
  · rename_i k xs hx
    obtain ⟨ys, h1, h2⟩ := bind2 h
    cases h2
    exact ⟨xs, ys, _, _, hx, h1, rfl, .inr ⟨k, rfl, rfl⟩⟩
  · cases h
theorem own_or {ds : List Sl} {i : Nat} {xs ys : List D} {s s' : Sl} (h : ds[i]? = some s) (e : (s = .own xs ∧ s' = .own ys) ∨ ∃ k, s = .mu k xs ∧ s' = .mu k ys) : ds[i]? = some (.own xs) ∨ ∃ k, ds[i]? = some (.mu k xs) := by
  rcases e with ⟨rfl, _⟩ | ⟨k, rfl, _⟩
  · exact .inl h
  · exact .inr ⟨k, h⟩
/-! ### x.append(e) -/
variable {e : Expr} {fe : Ev} {pos : Pos}
def sApp (i : Nat) (f : Ev) : Es := fun ds w => (f ds w).bind fun d => (ownTo ds i fun xs => if xs.length < line then some (xs ++ [d.1]) else none).bind fun ds' => some (.nx ds' d.2)
theorem js_app (i : Nat) {x : Str} {p1 apos cpos : Pos} (he : JE X e fe) (hN : X.N[i]? = some x := by rfl) (hv : Vis X.env.scope x := by first | exact Or.inl rfl | exact Or.inr (Or.inl rfl) | exact Or.inr (Or.inr rfl)) (hd : (x == ("__debug__" : Str)) = false := by decide) (hcd : (x == ("__classdict__" : Str)) = false := by decide)
    (hbase : attributeBase (.Name x p1) "append" X.env (eval (.Name x p1) X.env) = eval (.Name x p1) X.env := by rfl)
    (hfew : ((backTo cpos (starEach (e :: []) X.env)).all (fun x => !x.1) && (backToKw cpos (keywordEach [] X.env)).all (fun x => x.1.isSome) && decide ((e :: []).length + ([] : List Keyword).length + (if ([] : List Keyword).isEmpty then 0 else 1) < 30)) = true := by rfl)
    (hline : (apos.endLine == cpos.line) = true := by rfl) (hs : starEach (e :: []) X.env = (false, eval e X.env) :: starEach [] X.env := by rfl) (hplain : (backTo cpos (starEach [] X.env)).any (·.1) = false := by rfl)
    (hsw : swapsWith (.Call (.Attribute (.Name x p1) "append" apos) [e] [] cpos) none pos.line X.env = pure false := by rfl) : JS X (.Expr (.Call (.Attribute (.Name x p1) "append" apos) [e] [] cpos) pos) (sApp i fe) :=
  ⟨ps_weak (ps_expr (pe_bm PySem.F.plainAttrs_list PySem.F.slot_list_append PySem.F.type_list_append mt_append (pe_var hN hv hd hcd) (pa_cons he.run pa_nil hs) hbase hfew hline hs hplain) hsw) fun D σ H ⟨Z, F, ds, w, o, rr, hf, k⟩ => by
    obtain ⟨d, hd, hf⟩ := bind2 hf
    obtain ⟨ds', ho, hf⟩ := bind2 hf
    cases hf
    obtain ⟨xs, ys, s, s', hi, hys, rfl, hss⟩ := ownTo_spec ho
    split at hys
    · rename_i hl
      cases hys
      obtain ⟨a, vs, h1, h2, h3, h4, h5⟩ := rr.own1 (own_or hi hss)
      refine ⟨.ref a, h1, .inl ⟨rfl, vs, .of h2⟩, Z, F, ds, w, _, _, rr, hd, fun v F1 H1 s1 d1 hv => ?_⟩
      have g2 := s1.h a _ h4 h2
      refine ⟨a, vs, v, rfl, rfl, g2, by rw [h5.len]; exact sz_lt hl, ?_⟩
      exact k σ F1 _ s1.f ((rr.step s1 d1).turn hi h1 hss ((h5.mono s1.f).append (dens_cons hv dens_nil)))
    · cases hys⟩
/-! ### targets that change lists of one's own -/
abbrev EgO := List Sl → Wd → D → Option (List Sl × Wd)
abbrev EgsO := List Sl → Wd → List D → Option (List Sl × Wd)
def canGO (K : PySem.W.Frag) (tg : EgO) : TG := fun v σ H Q => ∃ Z F ds w d ds' w', R K Z F H σ ds w ∧ Den K Z.p F d v ∧ tg ds w d = some (ds', w') ∧ ∀ σ' F' H', Same F F' → R K Z F' H' σ' ds' w' → Q σ' H'
def canGsO (K : PySem.W.Frag) (tg : EgsO) : TGs := fun v σ H Q => ∃ Z F ds w d ds' w', R K Z F H σ ds w ∧ Dens K Z.p F d v ∧ tg ds w d = some (ds', w') ∧ ∀ σ' F' H', Same F F' → R K Z F' H' σ' ds' w' → Q σ' H'
structure JGO (X : Cx) (tg : Expr) (f : EgO) : Prop where run : PG X tg (canGO X.K f)
structure JGsO (X : Cx) (tg : List Expr) (f : EgsO) : Prop where run : PGs X tg (canGsO X.K f)
def goN (g : Eg) : EgO := fun ds w d => (g ds d).bind fun ds' => some (ds', w)
def goSub (i : Nat) (f : Ev) : EgO := fun ds w d => (f ds w).bind fun z => match z.1 with
  | .int k => (ownTo ds i fun xs => (ixN xs.length k).bind fun j => some (xs.set j d)).bind fun ds' => some (ds', z.2)
  | _ => none
def gosNil : EgsO := fun ds w xs => match xs with | [] => some (ds, w) | _ => none
def gosCons (g : EgO) (h : EgsO) : EgsO := fun ds w xs => match xs with | x :: r => (g ds w x).bind fun p => h p.1 p.2 r | _ => none
def goT (n : Nat) (h : EgsO) : EgO := fun ds w d => match d with | .tup xs => if xs.length = n then h ds w xs else none | _ => none
variable {tg : Expr} {es : List Expr} {g : EgO} {h : EgsO}
theorem jgo_of {g : Eg} {js : List Nat} (h : JG X tg g js) : JGO X tg (goN g) := ⟨pg_weak h.run fun v σ H Q ⟨Z, F, ds, w, d, ds', w', rr, hd, hg, k⟩ => by
  obtain ⟨ds1, h1, h2⟩ := bind2 hg
  cases h2
  exact ⟨Z, F, ds, w, _, _, rr, hd, h1, fun σ' r _ _ => k σ' F H (Same.refl _) r⟩⟩
theorem jgo_sub (i : Nat) {x : Str} {p1 : Pos} {ix : Expr} {fi : Ev} (hi : JB X ix fi) (hN : X.N[i]? = some x := by rfl) (hv : Vis X.env.scope x := by first | exact Or.inl rfl | exact Or.inr (Or.inl rfl) | exact Or.inr (Or.inr rfl)) (hd : (x == ("__debug__" : Str)) = false := by decide) (hcd : (x == ("__classdict__" : Str)) = false := by decide)
    (ha : ∀ v, assign (.Subscript (.Name x p1) ix pos) X.env v = (do
      let ov ← holding [v] (eval (.Name x p1) X.env)
      let iv ← holding [v, ov] (eval ix X.env)
      standAt pos
      holding [v, ov, iv] (setItem ov iv v)
      release [v, ov, iv] []) := by intro _; rfl) : JGO X (.Subscript (.Name x p1) ix pos) (goSub i fi) := ⟨pg_weak (pg_sub (pe_var hN hv hd hcd) hi.run set_list ha) fun v σ H Q ⟨Z, F, ds, w, d, ds', w', rr, hden, hg, k⟩ => by
  obtain ⟨⟨z, w1⟩, hz, hg⟩ := bind2 hg
  cases z <;> first | cases hg | skip
  rename_i kk
  obtain ⟨ds1, ho, hg⟩ := bind2 hg
  cases hg
  obtain ⟨xs, ys, s, s', hs, hys, rfl, hss⟩ := ownTo_spec ho
  obtain ⟨j, hj, hys⟩ := bind2 hys
  cases hys
  obtain ⟨a, vs, h1, h2, h3, h4, h5⟩ := rr.own1 (own_or hs hss)
  refine ⟨.ref a, h1, Z, F, ds, w, _, _, rr, hz, fun u F1 H1 s1 d1 hu => ?_⟩
  refine ⟨a, vs, kk, j, rfl, hu.int, s1.h a _ h4 h2, by rw [h5.len]; exact hj, ?_⟩
  exact k σ F1 _ s1.f ((rr.step s1 d1).turn hs h1 hss ((h5.mono s1.f).set j (hden.mono s1.f)))⟩
theorem jgso_nil : JGsO X [] gosNil := ⟨pgs_weak pgs_nil fun v σ H Q ⟨Z, F, ds, w, d, ds', w', rr, hd, hg, k⟩ => by
  unfold gosNil at hg
  split at hg
  · cases hg
    unfold Dens at hd
    exact ⟨hd, k σ F H (Same.refl _) rr⟩
  · cases hg⟩
theorem jgso_cons (h1 : JGO X e g) (h2 : JGsO X es h) (hs : (assignEach (e :: es) X.env).map (·.2) = assign e X.env :: (assignEach es X.env).map (·.2) := by rfl) : JGsO X (e :: es) (gosCons g h) := ⟨pgs_weak (pgs_cons h1.run h2.run hs) fun v σ H Q ⟨Z, F, ds, w, d, ds', w', rr, hd, hg, k⟩ => by
  unfold gosCons at hg
  split at hg
  · obtain ⟨⟨ds1, w1⟩, g1, g2⟩ := bind2 hg
    unfold Dens at hd
    obtain ⟨u, r, rfl, d1, d2⟩ := hd
    exact ⟨u, r, rfl, Z, F, ds, w, _, _, _, rr, d1, g1, fun σ1 F1 H1 s1 r1 => ⟨Z, F1, ds1, w1, _, _, _, r1, d2.mono s1, g2, fun σ2 F2 H2 s2 r2 => k σ2 F2 H2 (s1.trans s2) r2⟩⟩
  · cases hg⟩
theorem jgo_tup {kk n : Nat} (hc : X.calm = true) (h1 : JGsO X es h) (hn : (assignEach es X.env).length = n := by rfl) (hst : (assignEach es X.env).findIdx? (·.1) = none := by rfl) : JGO X (.Tuple es kk pos) (goT n h) := ⟨pg_weak (pg_tup hc h1.run hn hst) fun v σ H Q ⟨Z, F, ds, w, d, ds', w', rr, hd, hg, k⟩ => by
  unfold goT at hg
  split at hg
  · split at hg
    · rename_i hl
      unfold Den at hd
      obtain ⟨a, vs, rfl, h1, h2⟩ := hd
      exact ⟨a, vs, rfl, same_t h1 rr.ex, by rw [h2.len]; exact hl, Z, F, ds, w, _, _, _, rr, h2, hg, k⟩
    · cases hg
  · cases hg⟩
def sAsg (f : Ev) (g : EgO) : Es := fun ds w => (f ds w).bind fun d => (g ds d.2 d.1).bind fun r => some (.nx r.1 r.2)
theorem js_asg (he : JE X e fe) (hg : JGO X tg g) (hs : swapsWithSole [tg] e pos.line X.env = pure false := by rfl) (hw : swappedStores [tg] e X.env = pure none := by rfl) (h1 : (assignEach [tg] X.env).map (·.2) = [assign tg X.env] := by rfl) : JS X (.Assign [tg] e pos) (sAsg fe g) := ⟨ps_weak (ps_asg he.run hg.run hs hw h1) fun D σ H ⟨Z, F, ds, w, o, rr, hf, k⟩ => by
  obtain ⟨d, hd, hf⟩ := bind2 hf
  obtain ⟨r, hr, hf⟩ := bind2 hf
  cases hf
  exact ⟨Z, F, ds, w, _, _, rr, hd, fun v F1 H1 s1 d1 hv => ⟨Z, F1, ds, _, _, _, _, rr.step s1 d1, hv, hr, fun σ2 F2 H2 s2 r2 => k σ2 F2 H2 (s1.f.trans s2) r2⟩⟩⟩
/-! ### several values to names at once: values, new lists -/
abbrev Ep := List Sl → Wd → Option (List Sl × Wd)
/-- the state with more slots behind -/
theorem R.front {τ : L2.St} {ts : List Sl} (r : R K Z F H (σ ++ τ) (ds ++ ts) w) (hl : σ.length = ds.length) : R K Z F H σ ds w := by
  refine ⟨r.ex, r.fp, r.dr, r.pm, r.hm, r.m0, r.keep, r.nw, r.f0, hl, ?_⟩
  obtain ⟨α, inj, hα⟩ := r.env
  have up : ∀ {i : Nat} {s : Sl}, ds[i]? = some s → (ds ++ ts)[i]? = some s := fun {i s} h => by
    rw [List.getElem?_append_left (List.getElem?_eq_some_iff.mp h).1]
    exact h
  refine ⟨α, fun i j ⟨s, h1, h2⟩ ⟨t, h3, h4⟩ => inj i j ⟨s, up h1, h2⟩ ⟨t, up h3, h4⟩, fun i s h => ?_⟩
  have hi := (List.getElem?_eq_some_iff.mp h).1
  have z := hα i s (up h)
  have e : (σ ++ τ)[i]? = σ[i]? := List.getElem?_append_left (by rw [hl]; exact hi)
  cases s with
  | no => trivial
  | d x => exact ⟨z.choose, by rw [← e]; exact z.choose_spec.1, z.choose_spec.2⟩
  | own xs => exact ⟨by rw [← e]; exact z.1, z.2⟩
  | mu k xs => exact ⟨by rw [← e]; exact z.1, z.2⟩
  | oo x => exact ⟨by rw [← e]; exact z.1, z.2⟩
  | ll ks xss => exact SlR.ll_same z e.symm (fun _ => rfl) (fun _ _ => rfl) (fun _ _ z => z) (Same.refl _)
theorem R.none1 (r : R K Z F H σ ds w) : R K Z F H (σ ++ [none]) (ds ++ [.no]) w := by
  refine ⟨r.ex, r.fp, r.dr, r.pm, r.hm, r.m0, r.keep, r.nw, r.f0, by rw [List.length_append, List.length_append, r.len]; rfl, ?_⟩
  obtain ⟨α, inj, hα⟩ := r.env
  have back : ∀ {i : Nat} {s : Sl}, (ds ++ [.no])[i]? = some s → s ≠ .no → ds[i]? = some s := fun {i s} h hn => by
    by_cases hi : i < ds.length
    · rw [List.getElem?_append_left hi] at h
      exact h
    · rw [List.getElem?_append_right (by omega)] at h
      cases hk : i - ds.length with
      | zero =>
        rw [hk] at h
        cases h
        exact absurd rfl hn
      | succ n =>
        rw [hk] at h
        cases h
  refine ⟨α, fun i j ⟨s, h1, h2⟩ ⟨t, h3, h4⟩ => inj i j ⟨s, back h1 (by rintro rfl; cases h2), h2⟩ ⟨t, back h3 (by rintro rfl; cases h4), h4⟩, fun i s h => ?_⟩
  by_cases hs : s = .no
  · subst hs
    trivial
  · have h0 := back h hs
    have hi := (List.getElem?_eq_some_iff.mp h0).1
    have z := hα i s h0
    have e : (σ ++ [none])[i]? = σ[i]? := List.getElem?_append_left (by rw [r.len]; exact hi)
    cases s with
    | no => trivial
    | d x => exact ⟨z.choose, by rw [e]; exact z.choose_spec.1, z.choose_spec.2⟩
    | own xs => exact ⟨by rw [e]; exact z.1, z.2⟩
    | mu k xs => exact ⟨by rw [e]; exact z.1, z.2⟩
    | oo x => exact ⟨by rw [e]; exact z.1, z.2⟩
    | ll ks xss => exact SlR.ll_same z e (fun _ => rfl) (fun _ _ => rfl) (fun _ _ z => z) (Same.refl _)
theorem set_last {α : Type} (l : List α) (a b : α) : (l ++ [a]).set l.length b = l ++ [b] := by
  rw [List.set_append_right _ _ (Nat.le_refl _), Nat.sub_self]
  rfl
end
end J
namespace J
open PySem PyProof.Rows L2
section
variable {X : Cx} {K : PySem.W.Frag} {Z : Cfg} {F H : Hp} {σ σ' : L2.St} {ds ds' : List Sl} {w : Wd}
theorem R.remap (r : R K Z F H σ ds w) (φ : Nat → Nat) (hl : σ'.length = ds'.length) (h : ∀ i s, ds'[i]? = some s → s = .no ∨ (ds[φ i]? = some s ∧ σ'[i]? = σ[φ i]?)) (inj : ∀ i j, i < ds'.length → j < ds'.length → φ i = φ j → i = j) : R K Z F H σ' ds' w := by
  refine ⟨r.ex, r.fp, r.dr, r.pm, r.hm, r.m0, r.keep, r.nw, r.f0, hl, ?_⟩
  obtain ⟨α, injα, hα⟩ := r.env
  have ow : ∀ i, isOwn ds' i → isOwn ds (φ i.1, i.2) ∧ i.1 < ds'.length := fun i ⟨s, h1, h2⟩ => by
    refine ⟨?_, (List.getElem?_eq_some_iff.mp h1).1⟩
    rcases h i.1 s h1 with rfl | ⟨h3, _⟩
    · cases h2
    · exact ⟨s, h3, h2⟩
  refine ⟨fun i => α (φ i.1, i.2), fun i j hi hj e => ?_, fun i s hs => ?_⟩
  · have q := injα _ _ (ow i hi).1 (ow j hj).1 e
    exact Prod.ext (inj i.1 j.1 (ow i hi).2 (ow j hj).2 (Prod.mk.inj q).1) (Prod.mk.inj q).2
  rcases h i s hs with rfl | ⟨h3, h4⟩
  · trivial
  · have z := hα (φ i) s h3
    cases s with
    | no => trivial
    | d x => exact ⟨z.choose, by rw [h4]; exact z.choose_spec.1, z.choose_spec.2⟩
    | own xs => exact ⟨by rw [h4]; exact z.1, z.2⟩
    | mu k xs => exact ⟨by rw [h4]; exact z.1, z.2⟩
    | oo x => exact ⟨by rw [h4]; exact z.1, z.2⟩
    | ll ks xss => exact SlR.ll_same z h4 (fun _ => rfl) (fun _ _ => rfl) (fun _ _ z => z) (Same.refl _)
/-! ### values at once -/
def canP (K : PySem.W.Frag) (f : Ep) : TA := fun σ H Q => ∃ Z F ds τ ts0 w ts w', σ.length = ds.length ∧ R K Z F H (σ ++ τ) (ds ++ ts0) w ∧ f ds w = some (ts, w') ∧ ∀ vs F' H', Same F F' → vs.length = ts.length → R K Z F' H' (σ ++ (τ ++ vs.map some)) (ds ++ (ts0 ++ ts)) w' → Q vs H'
structure JP (X : Cx) (es : List Expr) (f : Ep) : Prop where run : PA X es (canP X.K f)
def pNil : Ep := fun _ w => some ([], w)
def pD (f : Ev) (g : Ep) : Ep := fun ds w => (f ds w).bind fun d => (g ds d.2).bind fun r => some (.d d.1 :: r.1, r.2)
def pO (f : Ef) (g : Ep) : Ep := fun ds w => (f ds w).bind fun d => (g ds d.2).bind fun r => some (.own d.1 :: r.1, r.2)
variable {e : Expr} {es : List Expr} {f : Ev} {fl : Ef} {g : Ep} {pos : Pos}
theorem jp_nil : JP X [] pNil := ⟨pa_weak pa_nil fun σ H Q ⟨Z, F, ds, τ, ts0, w, ts, w', hl, rr, hf, k⟩ => by
  cases hf
  exact k [] F H (Same.refl _) rfl (by rw [List.map_nil, List.append_nil, List.append_nil]; exact rr)⟩
theorem R.push (r : R K Z F H σ ds w) {d : D} {v : V} (hd : Den K Z.p F d v) : R K Z F H (σ ++ [some v]) (ds ++ [.d d]) w := by
  have z := (r.none1).set (i := σ.length) hd
  rw [set_last, r.len, set_last] at z
  exact z
theorem jp_d (h : JE X e f) (hr : JP X es g) (hs : starEach (e :: es) X.env = (false, eval e X.env) :: starEach es X.env := by rfl) : JP X (e :: es) (pD f g) := ⟨pa_weak (pa_cons h.run hr.run hs) fun σ H Q ⟨Z, F, ds, τ, ts0, w, ts, w', hl, rr, hf, k⟩ => by
  obtain ⟨d, hd, hf⟩ := bind2 hf
  obtain ⟨r, hr, hf⟩ := bind2 hf
  cases hf
  refine ⟨Z, F, ds, w, _, _, rr.front hl, hd, fun v F1 H1 s1 d1 hv => ⟨Z, F1, ds, τ ++ [some v], ts0 ++ [.d d.1], _, _, _, hl, ?_, hr, fun vs F2 H2 s2 hlen r2 => k (v :: vs) F2 H2 (s1.f.trans s2) (by rw [List.length_cons, List.length_cons, hlen]) ?_⟩⟩
  · have z := (rr.step s1 d1).push hv
    rw [List.append_assoc, List.append_assoc] at z
    exact z
  · rw [List.append_assoc τ, List.append_assoc ts0] at r2
    exact r2⟩
theorem jp_o (h : JF X e fl) (hr : JP X es g) (hs : starEach (e :: es) X.env = (false, eval e X.env) :: starEach es X.env := by rfl) : JP X (e :: es) (pO fl g) := ⟨pa_weak (pa_cons h.run hr.run hs) fun σ H Q ⟨Z, F, ds, τ, ts0, w, ts, w', hl, rr, hf, k⟩ => by
  obtain ⟨d, hd, hf⟩ := bind2 hf
  obtain ⟨r, hr, hf⟩ := bind2 hf
  cases hf
  refine ⟨Z, F, ds, w, _, _, rr.front hl, hd, fun q us F1 H1 s1 d1 h1 h2 h3 h4 h5 => ⟨Z, F1, ds, τ ++ [some (.ref q)], ts0 ++ [.own d.1], _, _, _, hl, ?_, hr, fun vs F2 H2 s2 hlen r2 => k (.ref q :: vs) F2 H2 (s1.f.trans s2) (by rw [List.length_cons, List.length_cons, hlen]) ?_⟩⟩
  · have z := R.fresh (σ ++ τ).length (rr.none1) s1 d1 h1 h2 h3 h4 h5
    rw [set_last, rr.len, set_last, List.append_assoc, List.append_assoc] at z
    exact z
  · rw [List.append_assoc τ, List.append_assoc ts0] at r2
    exact r2⟩
def sPar2 (i j : Nat) (f : Ep) : Es := fun ds w => (f ds w).bind fun r => match r.1 with | [a, b] => some (.nx ((ds.set i a).set j b) r.2) | _ => none
theorem R.par2 {a b : Sl} {v u : V} {i j : Nat} (hij : i ≠ j) (hl : σ.length = ds.length) (r : R K Z F H (σ ++ [some v, some u]) (ds ++ [a, b]) w) : R K Z F H ((σ.set i (some v)).set j (some u)) ((ds.set i a).set j b) w := by
  refine r.remap (fun k => if k = j then ds.length + 1 else if k = i then ds.length else k) (by simp [hl]) (fun k s hk => .inr ?_) (fun k l hk hl' e => ?_)
  · have hkl : k < ds.length := by
      have := (List.getElem?_eq_some_iff.mp hk).1
      simpa using this
    try dsimp only
    by_cases h1 : k = j
    · subst h1
      rw [if_pos rfl]
      rw [List.getElem?_set_self (by simpa using hkl)] at hk
      cases hk
      rw [List.getElem?_set_self (by simp [hl]; exact hkl)]
      refine ⟨?_, ?_⟩
      · rw [List.getElem?_append_right (by omega)]
        have : ds.length + 1 - ds.length = 1 := by omega
        rw [this]
        rfl
      · rw [List.getElem?_append_right (by omega)]
        have : ds.length + 1 - σ.length = 1 := by omega
        rw [this]
        rfl
    · rw [if_neg h1]
      rw [List.getElem?_set_ne (Ne.symm h1)] at hk
      rw [List.getElem?_set_ne (Ne.symm h1)]
      by_cases h2 : k = i
      · subst h2
        rw [if_pos rfl]
        rw [List.getElem?_set_self hkl] at hk
        cases hk
        rw [List.getElem?_set_self (by rw [hl]; exact hkl)]
        refine ⟨?_, ?_⟩
        · rw [List.getElem?_append_right (by omega), Nat.sub_self]
          rfl
        · rw [List.getElem?_append_right (by omega)]
          have : ds.length - σ.length = 0 := by omega
          rw [this]
          rfl
      · rw [if_neg h2]
        rw [List.getElem?_set_ne (Ne.symm h2)] at hk
        rw [List.getElem?_set_ne (Ne.symm h2)]
        exact ⟨by rw [List.getElem?_append_left hkl]; exact hk, by rw [List.getElem?_append_left (by rw [hl]; exact hkl)]⟩
  · try dsimp only at e
    have hk' : k < ds.length := by simpa using hk
    have hl'' : l < ds.length := by simpa using hl'
    split at e <;> split at e <;> first | omega | (split at e <;> first | omega | (split at e <;> omega))
theorem js_par2 (i j : Nat) {x y : Str} {a b : Expr} {px py pt : Pos} {kt k2 : Nat} {pt2 : Pos} (hc : X.calm = true) (hN : X.N.Nodup) (ha : JP X [a, b] g) (hi : X.N[i]? = some x := by rfl) (hj : X.N[j]? = some y := by rfl) (hij : i ≠ j := by decide)
    (hx : X.env.scope.names.lookup x = some .local := by rfl) (hy : X.env.scope.names.lookup y = some .local := by rfl)
    (hw : swappedStores [.Tuple [.Name x px, .Name y py] kt pt] (.Tuple [a, b] k2 pt2) X.env = pure (some [x, y]) := by rfl)
    (hs : swapsWithSole [.Tuple [.Name x px, .Name y py] kt pt] (.Tuple [a, b] k2 pt2) pos.line X.env = pure false := by rfl) :
    JS X (.Assign [.Tuple [.Name x px, .Name y py] kt pt] (.Tuple [a, b] k2 pt2) pos) (sPar2 i j g) := ⟨ps_weak (ps_par hc hN hi hj hij hx hy ha.run hw hs) fun D σ H ⟨Z, F, ds, w, o, rr, hf, k⟩ => by
  obtain ⟨⟨ts, w1⟩, h1, hf⟩ := bind2 hf
  dsimp only at hf
  split at hf
  · cases hf
    refine ⟨Z, F, ds, [], [], w, _, _, rr.len, by rw [List.append_nil, List.append_nil]; exact rr, h1, fun vs F1 H1 s1 hlen r1 => ?_⟩
    match vs, hlen with
    | [v, u], _ => exact ⟨v, u, rfl, k _ F1 H1 s1 (R.par2 hij rr.len r1)⟩
  · cases hf⟩
def sPar3 (i j l : Nat) (f : Ep) : Es := fun ds w => (f ds w).bind fun r => match r.1 with | [a, b, c] => some (.nx (((ds.set i a).set j b).set l c) r.2) | _ => none
theorem R.par3 {a b c : Sl} {v u t : V} {i j m : Nat} (hij : i ≠ j) (him : i ≠ m) (hjm : j ≠ m) (hl : σ.length = ds.length) (r : R K Z F H (σ ++ [some v, some u, some t]) (ds ++ [a, b, c]) w) : R K Z F H (((σ.set i (some v)).set j (some u)).set m (some t)) (((ds.set i a).set j b).set m c) w := by
  refine r.remap (fun k => if k = m then ds.length + 2 else if k = j then ds.length + 1 else if k = i then ds.length else k) (by simp [hl]) (fun k s hk => .inr ?_) (fun k l hk hl' e => ?_)
  · have hkl : k < ds.length := by
      have := (List.getElem?_eq_some_iff.mp hk).1
      simpa using this
    try dsimp only
    by_cases h0 : k = m
    · subst h0
      rw [if_pos rfl]
      rw [List.getElem?_set_self (by simpa using hkl)] at hk
      cases hk
      rw [List.getElem?_set_self (by simp [hl]; exact hkl)]
      refine ⟨?_, ?_⟩
      · rw [List.getElem?_append_right (by omega)]
        have : ds.length + 2 - ds.length = 2 := by omega
        rw [this]
        rfl
      · rw [List.getElem?_append_right (by omega)]
        have : ds.length + 2 - σ.length = 2 := by omega
        rw [this]
        rfl
    rw [if_neg h0]
    rw [List.getElem?_set_ne (Ne.symm h0)] at hk
    rw [List.getElem?_set_ne (Ne.symm h0)]
    by_cases h1 : k = j
    · subst h1
      rw [if_pos rfl]
      rw [List.getElem?_set_self (by simpa using hkl)] at hk
      cases hk
      rw [List.getElem?_set_self (by simp [hl]; exact hkl)]
      refine ⟨?_, ?_⟩
      · rw [List.getElem?_append_right (by omega)]
        have : ds.length + 1 - ds.length = 1 := by omega
        rw [this]
        rfl
      · rw [List.getElem?_append_right (by omega)]
        have : ds.length + 1 - σ.length = 1 := by omega
        rw [this]
        rfl
    · rw [if_neg h1]
      rw [List.getElem?_set_ne (Ne.symm h1)] at hk
      rw [List.getElem?_set_ne (Ne.symm h1)]
      by_cases h2 : k = i
      · subst h2
        rw [if_pos rfl]
        rw [List.getElem?_set_self hkl] at hk
        cases hk
        rw [List.getElem?_set_self (by rw [hl]; exact hkl)]
        refine ⟨?_, ?_⟩
        · rw [List.getElem?_append_right (by omega), Nat.sub_self]
          rfl
        · rw [List.getElem?_append_right (by omega)]
          have : ds.length - σ.length = 0 := by omega
          rw [this]
          rfl
      · rw [if_neg h2]
        rw [List.getElem?_set_ne (Ne.symm h2)] at hk
        rw [List.getElem?_set_ne (Ne.symm h2)]
        exact ⟨by rw [List.getElem?_append_left hkl]; exact hk, by rw [List.getElem?_append_left (by rw [hl]; exact hkl)]⟩
  · try dsimp only at e
    have hk' : k < ds.length := by simpa using hk
    have hl'' : l < ds.length := by simpa using hl'
    repeat' split at e
    all_goals omega
theorem js_par3 (i j l : Nat) {x y z : Str} {a b c : Expr} {px py pz pt : Pos} {kt k2 : Nat} {pt2 : Pos} (hc : X.calm = true) (hN : X.N.Nodup) (ha : JP X [a, b, c] g) (hi : X.N[i]? = some x := by rfl) (hj : X.N[j]? = some y := by rfl) (hl : X.N[l]? = some z := by rfl) (hij : i ≠ j := by decide) (hil : i ≠ l := by decide) (hjl : j ≠ l := by decide)
    (hx : X.env.scope.names.lookup x = some .local := by rfl) (hy : X.env.scope.names.lookup y = some .local := by rfl) (hz : X.env.scope.names.lookup z = some .local := by rfl)
    (hw : swappedStores [.Tuple [.Name x px, .Name y py, .Name z pz] kt pt] (.Tuple [a, b, c] k2 pt2) X.env = pure (some [x, y, z]) := by rfl)
    (hs : swapsWithSole [.Tuple [.Name x px, .Name y py, .Name z pz] kt pt] (.Tuple [a, b, c] k2 pt2) pos.line X.env = pure false := by rfl) :
    JS X (.Assign [.Tuple [.Name x px, .Name y py, .Name z pz] kt pt] (.Tuple [a, b, c] k2 pt2) pos) (sPar3 i j l g) := ⟨ps_weak (ps_par3 hc hN hi hj hl hij hil hjl hx hy hz ha.run hw hs) fun D σ H ⟨Z, F, ds, w, o, rr, hf, k⟩ => by
  obtain ⟨⟨ts, w1⟩, h1, hf⟩ := bind2 hf
  dsimp only at hf
  split at hf
  · cases hf
    refine ⟨Z, F, ds, [], [], w, _, _, rr.len, by rw [List.append_nil, List.append_nil]; exact rr, h1, fun vs F1 H1 s1 hlen r1 => ?_⟩
    match vs, hlen with
    | [v, u, t], _ => exact ⟨v, u, t, rfl, k _ F1 H1 s1 (R.par3 hij hil hjl rr.len r1)⟩
  · cases hf⟩
/-! ### name op= e -/
def addI : D → D → Option D
  | .int i, .int j => some (.int (i + j))
  | .str s, .str t => if s.length + t.length ≤ line then some (.str (s ++ t)) else none
  | _, _ => none
theorem s_addI : OpS K (fun x y H Q => rI0 (fun i j => .int (i + j)) x y H Q ∨ ∃ i j, x = .str i ∧ y = .str j ∧ i.length + j.length ≤ sizeLine ∧ Q (.str (i ++ j)) H) addI := fun Z F H σ ds w a b d x y Q r hx hy hg k => by
  cases a <;> cases b <;> first | cases hg | skip
  · exact .inl ⟨_, _, hx.int, hy.int, k _ F H r.stp r.dr den_int⟩
  · unfold addI at hg
    dsimp only at hg
    split at hg
    · rename_i h
      cases hg
      exact .inr ⟨_, _, hx.str, hy.str, sz_of h, k _ F H r.stp r.dr den_str⟩
    · cases hg
def sAug (i : Nat) (g : D → D → Option D) (f : Ev) : Es := fun ds w => match ds[i]? with
  | some (.d x) => (f ds w).bind fun d => (g x d.1).bind fun z => some (.nx (ds.set i (.d z)) d.2)
  | _ => none
theorem js_augO (i : Nat) {x : Str} {op : Operator} {r : R2} {gg : D → D → Option D} {pos' : Pos} (ho : OpR X (inplaceOp op) r) (hs : OpS X.K r gg) (hN : X.N.Nodup) (he : JB X e f) (hi : X.N[i]? = some x) (hx : Loc X.env.scope x) (hf : X.fn x = true ∨ X.env.scope.names.lookup x = some .local) :
    JS X (.AugAssign (.Name x pos') op e pos) (sAug i gg f) := ⟨ps_weak (ps_aug hN hi hx he.run ho hf) fun D σ H ⟨Z, F, ds, w, o, rr, hf, k⟩ => by
  unfold sAug at hf
  split at hf
  · rename_i x0 hx0
    obtain ⟨d, hd, hf⟩ := bind2 hf
    obtain ⟨z, hz, hf⟩ := bind2 hf
    cases hf
    obtain ⟨α, _, hα⟩ := rr.env
    obtain ⟨u, h1, h2⟩ := hα i _ hx0
    refine ⟨u, h1, Z, F, ds, w, _, _, rr, hd, fun v F1 H1 s1 d1 hv => ?_⟩
    have r1 := rr.step s1 d1
    exact hs Z F1 H1 σ ds _ _ _ _ u v _ r1 (.inl (Den.mono s1.f _ _ h2)) hv hz fun t F2 H2 s2 d2 ht => k _ F2 H2 (s1.f.trans s2.f) ((r1.step s2 d2).set ht)
  · cases hf⟩
theorem js_augAdd (i : Nat) {x : Str} {pos' : Pos} (hN : X.N.Nodup) (he : JB X e f) (hi : X.N[i]? = some x := by rfl) (hx : Loc X.env.scope x := by first | exact Or.inl rfl | exact Or.inr rfl) (hf : X.fn x = true ∨ X.env.scope.names.lookup x = some .local := by first | exact .inl rfl | exact .inr rfl | assumption) : JS X (.AugAssign (.Name x pos') .Add e pos) (sAug i addI f) := js_augO i (OpR.or iop_add iop_add_str) s_addI hN he hi hx hf
theorem js_augSub (i : Nat) {x : Str} {pos' : Pos} (hN : X.N.Nodup) (he : JB X e f) (hi : X.N[i]? = some x := by rfl) (hx : Loc X.env.scope x := by first | exact Or.inl rfl | exact Or.inr rfl) (hf : X.fn x = true ∨ X.env.scope.names.lookup x = some .local := by first | exact .inl rfl | exact .inr rfl | assumption) : JS X (.AugAssign (.Name x pos') .Sub e pos) (sAug i subD f) := js_augO i iop_sub (s_I0 _) hN he hi hx hf
theorem js_augMul (i : Nat) {x : Str} {pos' : Pos} (hN : X.N.Nodup) (he : JB X e f) (hi : X.N[i]? = some x := by rfl) (hx : Loc X.env.scope x := by first | exact Or.inl rfl | exact Or.inr rfl) (hf : X.fn x = true ∨ X.env.scope.names.lookup x = some .local := by first | exact .inl rfl | exact .inr rfl | assumption) : JS X (.AugAssign (.Name x pos') .Mult e pos) (sAug i mulD0 f) := js_augO i iop_mul (s_I okMul _ fun a b h => by
  unfold okMul at h
  rcases Bool.or_eq_true_iff.mp h with h | h
  · exact .inl (of_decide_eq_true h)
  · exact .inr (of_decide_eq_true h)) hN he hi hx hf
def okDivS (_ j : Int) : Bool := decide (0 < j ∧ j < 1073741824)
def divDS := g2I okDivS (fun i j => i / j)
theorem js_augDiv (i : Nat) {x : Str} {pos' : Pos} (hN : X.N.Nodup) (he : JB X e f) (hi : X.N[i]? = some x := by rfl) (hx : Loc X.env.scope x := by first | exact Or.inl rfl | exact Or.inr rfl) (hf : X.fn x = true ∨ X.env.scope.names.lookup x = some .local := by first | exact .inl rfl | exact .inr rfl | assumption) : JS X (.AugAssign (.Name x pos') .FloorDiv e pos) (sAug i divDS f) := js_augO i iop_fdiv (s_I okDivS _ fun a b h => by unfold okDivS at h; exact (of_decide_eq_true h : 0 < b ∧ b < 1073741824)) hN he hi hx hf
/-! ### the drawn list -/
def eDrIx (f g : Ev) : Ev := fun ds w => (f ds w).bind fun a => (g ds a.2).bind fun b => match a.1, b.1 with
  | .draw, .int 0 => some (.lst (b.2.ns.map D.int), b.2)
  | .draw, .int 1 => some (.int 0, b.2)
  | .draw, .int 2 => some (.int b.2.c, b.2)
  | _, _ => none
variable {a b : Expr} {fa fb : Ev}
theorem je_drix (ha : JE X a fa) (hb : JE X b fb) (hs : PlainIx b := by exact fun _ _ => rfl) : JE X (.Subscript a b pos) (eDrIx fa fb) := ⟨pe_weak (pe_ix ix_list ha.run hb.run hs) fun σ H Q ⟨Z, F, ds, w, d, w', rr, hf, k⟩ => by
  obtain ⟨⟨x, w1⟩, hx, hf⟩ := bind2 hf
  obtain ⟨⟨y, w2⟩, hy, hf⟩ := bind2 hf
  refine ⟨Z, F, ds, w, _, _, rr, hx, fun v F1 H1 s1 d1 hv => ⟨Z, F1, ds, _, _, _, rr.step s1 d1, hy, fun u F2 H2 s2 d2 hu => ?_⟩⟩
  have s12 := s1.trans s2
  obtain ⟨q, h1, h2⟩ := id d2
  dsimp only at hf
  split at hf
  · cases hf
    unfold Den at hv hu
    exact ⟨_, _, 0, _, hv, hu, .of h1, rfl, k _ F2 H2 s12 d2 (den_lst h2 (Dens.ints _))⟩
  · cases hf
    unfold Den at hv hu
    exact ⟨_, _, 1, _, hv, hu, .of h1, rfl, k _ F2 H2 s12 d2 den_int⟩
  · cases hf
    unfold Den at hv hu
    exact ⟨_, _, 2, _, hv, hu, .of h1, rfl, k _ F2 H2 s12 d2 den_int⟩
  · cases hf⟩
theorem R.count (r : R K Z F H σ ds w) (c : Int) {q : Addr} (h : H Z.p = some (.lst [.ref q, .int 0, .int w.c])) (hq : F q = some (.lst (w.ns.map V.int))) : R K Z F (upd H Z.p (.lst [.ref q, .int 0, .int c])) σ ds ⟨w.ns, c⟩ := by
  refine ⟨fun b o z => ?_, r.fp, ⟨q, upd_same, hq⟩, r.pm, fun b hb => ⟨?_, (r.hm b hb).2⟩, r.m0, fun b o hb hm z => ?_, r.nw, r.f0, r.len, ?_⟩
  · rw [upd_ne (ne_of_none z r.fp)]
    exact r.ex b o z
  · obtain ⟨o, ho⟩ := (r.hm b hb).1
    exact ⟨o, by rw [upd_ne (fun z : b = Z.p => r.pm (z ▸ hb))]; exact ho⟩
  · rw [upd_ne hb]
    exact r.keep b o hb hm z
  · obtain ⟨α, inj, hα⟩ := r.env
    refine ⟨α, inj, fun i s hs => ?_⟩
    have z := hα i s hs
    cases s with
    | no => trivial
    | d x => exact z
    | own xs =>
      obtain ⟨h1, ⟨us, h2, h3, h4, h5⟩, h6⟩ := z
      exact ⟨h1, ⟨us, by rw [upd_ne h4]; exact h2, h3, h4, h5⟩, h6⟩
    | mu k xs =>
      obtain ⟨h1, ⟨us, h2, h3, h4, h5⟩, h6⟩ := z
      exact ⟨h1, ⟨us, by rw [upd_ne h4]; exact h2, h3, h4, h5⟩, h6⟩
    | oo x =>
      obtain ⟨h1, h2, h6⟩ := z
      obtain ⟨_, _, h3, h4⟩ := h2.at
      exact ⟨h1, h2.same (upd_ne h4) h3 (Same.refl _), h6⟩
    | ll ks xss => exact SlR.ll_same z rfl (fun _ => rfl) (fun m hm => upd_ne (z.live (decide_eq_true hm)).choose_spec.2.2) (fun _ _ z => z) (Same.refl _)
/-- draw[2] = e -/
def goDr (fa fb : Ev) : EgO := fun ds w d => (fa ds w).bind fun a => (fb ds a.2).bind fun b => match a.1, b.1, d with
  | .draw, .int 2, .int c => some (ds, ⟨b.2.ns, c⟩)
  | _, _, _ => none
theorem jgo_dr (h1 : JE X a fa) (h2 : JE X b fb)
    (ha : ∀ v, assign (.Subscript a b pos) X.env v = (do
      let ov ← holding [v] (eval a X.env)
      let iv ← holding [v, ov] (eval b X.env)
      standAt pos
      holding [v, ov, iv] (setItem ov iv v)
      release [v, ov, iv] []) := by intro _; rfl) : JGO X (.Subscript a b pos) (goDr fa fb) := ⟨pg_weak (pg_sub h1.run h2.run set_list ha) fun v σ H Q ⟨Z, F, ds, w, d, ds', w', rr, hden, hg, k⟩ => by
  obtain ⟨⟨x, w1⟩, hx, hg⟩ := bind2 hg
  obtain ⟨⟨y, w2⟩, hy, hg⟩ := bind2 hg
  refine ⟨Z, F, ds, w, _, _, rr, hx, fun o F1 H1 s1 d1 ho => ⟨Z, F1, ds, _, _, _, rr.step s1 d1, hy, fun i F2 H2 s2 d2 hi => ?_⟩⟩
  dsimp only at hg
  split at hg
  · cases hg
    unfold Den at ho hi hden
    subst hden
    obtain ⟨q, q1, q2⟩ := id d2
    exact ⟨_, _, 2, 2, ho, hi, q1, rfl, k σ F2 _ (s1.f.trans s2.f) ((rr.step (s1.trans s2) d2).count _ q1 q2)⟩
  · cases hg⟩
end
end J
namespace J
open PySem PyProof.Rows L2
/-! ### defs -/
abbrev Fn := List D → Wd → Option (D × Wd)
def spJ (K : PySem.W.Frag) (n : Nat) (G : Fn) : Sp := fun vs H Q _ => vs.length = n ∧ ∃ Z F ds w d w', R K Z F H [] [] w ∧ Dens K Z.p F ds vs ∧ G ds w = some (d, w') ∧ KD K Z.p F H w' d Q
structure CalJ (P : Program) (w : World) (K : PySem.W.Frag) (mg : Str → Option Value) (base : Heap) (k : Nat) (x : Str) (n : Nat) (G : Fn) : Prop where
  ex : ∃ (f : Addr) (fd : FuncData) (ps : List Str), FnOk P w K mg base CX0 k f fd ps (spJ K n G) ∧ mg x = some (.ref f) ∧ PySem.W.keepIn K (.ref f) = true ∧ Binds K fd ps []
section
variable {K : PySem.W.Frag} {Z : Cfg} {F H : Hp} {σ : L2.St} {ds : List Sl} {w : Wd}
theorem R.nil (r : R K Z F H σ ds w) : R K Z F H [] [] w := ⟨r.ex, r.fp, r.dr, r.pm, r.hm, r.m0, r.keep, r.nw, r.f0, rfl, fun _ => 0, fun i j ⟨s, h, _⟩ => (by cases h), fun i s h => (by cases h)⟩
def eCall (n : Nat) (G : Fn) (fs : Ef) : Ev := fun ds w => (fs ds w).bind fun a => if a.1.length = n then G a.1 a.2 else none
variable {X : Cx} {x : Str} {e : Expr} {es : List Expr} {fs : Ef} {p pos : Pos} {k j n : Nat} {G : Fn}
theorem je_call (c : CalJ X.prog X.w X.K X.mg X.base k x n G) (hr : Room j X.A) (hk : k ≤ j) (hg : Gl X x) (ha : JA X (e :: es) fs) (hdb : (x == ("__debug__" : Str)) = false := by decide) (he : starEach (e :: es) X.env = (false, eval e X.env) :: starEach es X.env := by rfl) (hpl : (backTo pos (starEach es X.env)).any (·.1) = false := by rfl) :
    JE X (.Call (.Name x p) (e :: es) [] pos) (eCall n G fs) := ⟨by
  obtain ⟨f, fd, ps, F, hm, kp, b⟩ := c.ex
  refine pe_weak (pe_call F (hr.mono hk) hg hm kp b .nil pass0 ha.run hdb he hpl) fun σ H Q ⟨Z, F, ds, w, d, w', rr, hf, k⟩ => ?_
  obtain ⟨a, ha, hf⟩ := bind2 hf
  split at hf
  · rename_i hl
    refine ⟨Z, F, ds, w, _, _, rr, ha, fun vs F1 H1 s1 d1 hv => ?_⟩
    show spJ X.K n G (vs ++ []) H1 Q E0
    rw [List.append_nil]
    exact ⟨by rw [hv.len]; exact hl, Z, F1, _, _, d, w', (rr.step s1 d1).nil, hv, hf, k.go s1⟩
  · cases hf⟩
theorem je_call0 (c : CalJ X.prog X.w X.K X.mg X.base k x 0 G) (hr : Room j X.A) (hk : k ≤ j) (hg : Gl X x) (hdb : (x == ("__debug__" : Str)) = false := by decide) : JE X (.Call (.Name x p) [] [] pos) (eCall 0 G aNil) := ⟨by
  obtain ⟨f, fd, ps, F, hm, kp, b⟩ := c.ex
  refine pe_weak (pe_call0 F (hr.mono hk) hg hm kp b .nil pass0 hdb) fun σ H Q ⟨Z, F, ds, w, d, w', rr, hf, k⟩ => ?_
  obtain ⟨a, ha, hf⟩ := bind2 hf
  cases ha
  have hf2 : G [] w = some (d, w') := hf
  exact ⟨rfl, Z, F, _, _, d, w', rr.nil, dens_nil, hf2, k⟩⟩
/-- the slots at the entry -/
def startS (m : Nat) (ds : List D) : List Sl := ds.map Sl.d ++ List.replicate (m - ds.length) .no
def fin (o : Option Out) : Option (D × Wd) := match o with
  | some (.rt d w) => some (d, w)
  | some (.nx _ w) => some (.non, w)
  | _ => none
def callS (m : Nat) (g : Es) : Fn := fun ds w => fin (g (startS m ds) w)
theorem start_env {N : List Str} {ds : List D} {vs : List V} (h : Dens K Z.p F ds vs) (i : Nat) (s : Sl) (hs : (startS N.length ds)[i]? = some s) : s = .no ∨ ∃ d u, s = .d d ∧ (L2.start N vs)[i]? = some (some u) ∧ Den K Z.p F d u := by
  unfold startS at hs
  by_cases hi : i < ds.length
  · rw [List.getElem?_append_left (by rw [List.length_map]; exact hi), List.getElem?_map] at hs
    obtain ⟨d, h1, h2⟩ := Option.map_eq_some_iff.mp hs
    obtain ⟨u, h3, h4⟩ := h.get h1
    refine .inr ⟨d, u, h2.symm, ?_, h4⟩
    unfold L2.start
    rw [List.getElem?_append_left (by rw [List.length_map, h.len]; exact hi), List.getElem?_map, h3]
    rfl
  · rw [List.getElem?_append_right (by rw [List.length_map]; omega)] at hs
    rw [List.getElem?_replicate] at hs
    split at hs
    · cases hs
      exact .inl rfl
    · cases hs
theorem start_len {N : List Str} {ds : List D} {vs : List V} (h : vs.length = ds.length) : (L2.start N vs).length = (startS N.length ds).length := by
  unfold L2.start startS
  rw [List.length_append, List.length_append, List.length_map, List.length_map, List.length_replicate, List.length_replicate, h]
/-- the entry of a def that keeps nothing -/
theorem R.entry {N : List Str} {es : List D} {vs : List V} (r : R K Z F H σ ds w) (h : Dens K Z.p F es vs) : R K ⟨Z.p, [], F, H⟩ F H (L2.start N vs) (startS N.length es) w := by
  have no : ∀ i, ¬ isOwn (startS N.length es) i := fun i ⟨s, h1, h2⟩ => by
    rcases start_env h i.1 s h1 with rfl | ⟨d, u, rfl, _⟩ <;> cases h2
  refine ⟨r.ex, r.fp, r.dr, List.not_mem_nil, fun b hb => (nomatch hb), fun b hb => (nomatch hb), fun b o _ _ z => z, fun b o z => .inl z, Same.refl _, start_len h.len, fun _ => 0, fun i j hi => absurd hi (no i), fun i s hs => ?_⟩
  rcases start_env h i s hs with rfl | ⟨d, u, rfl, h1, h2⟩
  · trivial
  · exact ⟨u, h1, h2⟩
theorem R.out {F' H' : Hp} {σ' : L2.St} {ds' : List Sl} {w' : Wd} {q : Addr} (r : R K ⟨q, [], F, H⟩ F' H' σ' ds' w') (e : Same F F') : Stp q F H F' H' :=
  ⟨e, fun b o hb z => r.keep b o hb List.not_mem_nil z, r.ex, r.nw, r.fp⟩
variable {P : Program} {wd : World} {mg : Str → Option Value} {base : Heap} {qual : Str} {st : Stmt} {f : Addr} {fd : FuncData} {N ps : List Str} {g : Es}
theorem fn_J (F : Fun K x qual st f fd) (S : FnScope N ps (defScope st))
    (hbody : ∀ (cdv : Value) (A : Around) (outer : List Env) (s : Shared) (H : Hp) (E : XK), Room k (A.deeper (envOfC qual (defScope st) s.heap.objs.size f cdv)) → JSs (cxOf CX0 P wd K mg base N qual (defScope st) f cdv A outer s H E).nox (defBody st) g) :
    FnOk P wd K mg base CX0 (k + 1) f fd ps (spJ K ps.length (callS N.length g)) := by
  refine F.ok S (fun vs H Q E h => h.1) (fun cdv A outer s H vs Q E hr h => ⟨_, (hbody cdv A outer s H E hr).run, ?_⟩)
  obtain ⟨_, Z, F, ds, w, d, w', rr, hv, hG, k⟩ := h
  unfold callS at hG
  refine ⟨⟨Z.p, [], F, H⟩, F, startS N.length ds, w, ?_⟩
  cases ho : g (startS N.length ds) w with
  | none =>
    rw [ho] at hG
    cases hG
  | some o =>
    rw [ho] at hG
    refine ⟨o, rr.entry hv, rfl, ?_⟩
    cases o with
    | nx ds2 w2 =>
      cases hG
      exact fun σ' F' H' e r' => k .non F' H' (r'.out e) r'.dr den_non
    | rt d2 w2 =>
      cases hG
      exact fun v σ' ds' F' H' e r' hv => k v F' H' (r'.out e) r'.dr hv
    | bk ds2 w2 => cases hG
    | ct ds2 w2 => cases hG
theorem cal_J (F : Fun K x x st f fd) (hm : mg x = some (.ref f)) (b : Binds K fd ps []) (S : FnScope N ps (defScope st))
    (hbody : ∀ (cdv : Value) (A : Around) (outer : List Env) (s : Shared) (H : Hp) (E : XK), Room k (A.deeper (envOfC x (defScope st) s.heap.objs.size f cdv)) → JSs (cxOf CX0 P wd K mg base N x (defScope st) f cdv A outer s H E).nox (defBody st) g) :
    CalJ P wd K mg base (k + 1) x ps.length (callS N.length g) := ⟨f, fd, ps, fn_J F S hbody, hm, F.kp, b⟩
/-! ### defs that change the list that is given first -/
abbrev Fm := List D → List D → Wd → Option (List D × Wd)
def spM (K : PySem.W.Frag) (n : Nat) (G : Fm) : Sp := fun vs H Q _ => vs.length = n ∧ ∃ Z F a us xs rest ds w ys w', vs = .ref a :: rest ∧ R K Z F H [] [] w ∧ H a = some (.lst us) ∧ F a = none ∧ a ≠ Z.p ∧ Dens K Z.p F xs us ∧ Dens K Z.p F ds rest ∧ G xs ds w = some (ys, w') ∧
  ∀ F' H' us', Same F F' → (∀ b o, b ≠ Z.p → b ≠ a → H b = some o → H' b = some o) → Same F' H' → (∀ b o, F' b = some o → F b = some o ∨ H b = none) → F' Z.p = none → Dr Z.p F' H' w' → H' a = some (.lst us') → F' a = none → Dens K Z.p F' ys us' → Q .non H'
structure CalM (P : Program) (w : World) (K : PySem.W.Frag) (mg : Str → Option Value) (base : Heap) (k : Nat) (x : Str) (n : Nat) (G : Fm) : Prop where
  ex : ∃ (f : Addr) (fd : FuncData) (ps : List Str), FnOk P w K mg base CX0 k f fd ps (spM K n G) ∧ mg x = some (.ref f) ∧ PySem.W.keepIn K (.ref f) = true ∧ Binds K fd ps []
def callM (m : Nat) (g : Es) : Fm := fun xs ds w => match g (.mu 0 xs :: startS (m - 1) ds) w with
  | some (.nx ds' w') => match (ds'[0]? : Option Sl) with | some (Sl.mu 0 ys) => some (ys, w') | _ => none
  | _ => none
theorem fn_M {y : Str} {N' : List Str} (F : Fun K x qual st f fd) (S : FnScope (y :: N') ps (defScope st))
    (hbody : ∀ (cdv : Value) (A : Around) (outer : List Env) (s : Shared) (H : Hp) (E : XK), Room k (A.deeper (envOfC qual (defScope st) s.heap.objs.size f cdv)) → JSs (cxOf CX0 P wd K mg base (y :: N') qual (defScope st) f cdv A outer s H E).nox (defBody st) g) :
    FnOk P wd K mg base CX0 (k + 1) f fd ps (spM K ps.length (callM (y :: N').length g)) := by
  refine F.ok S (fun vs H Q E h => h.1) (fun cdv A outer s H vs Q E hr h => ⟨_, (hbody cdv A outer s H E hr).run, ?_⟩)
  obtain ⟨_, Z, F, a, us, xs, rest, ds, w, ys, w', rfl, rr, ha, hfa, hap, hxs, hv, hG, k⟩ := h
  unfold callM at hG
  have es : L2.start (y :: N') (.ref a :: rest) = some (.ref a) :: L2.start N' rest := by
    unfold L2.start
    rw [List.length_cons, List.length_cons, Nat.add_sub_add_right]
    rfl
  have r0 : R K ⟨Z.p, [a], F, H⟩ F H (L2.start (y :: N') (.ref a :: rest)) (.mu 0 xs :: startS ((y :: N').length - 1) ds) w := by
    rw [es]
    have e1 : (y :: N').length - 1 = N'.length := rfl
    rw [e1]
    refine ⟨rr.ex, rr.fp, rr.dr, fun z => hap (List.mem_singleton.mp z).symm, fun b hb => ?_, fun b hb => ?_, fun b o _ _ z => z, fun b o z => .inl z, Same.refl _, ?_, fun _ => a, fun i j hi hj _ => ?_, fun i s hs => ?_⟩
    · rw [List.mem_singleton.mp hb]
      exact ⟨⟨_, ha⟩, hfa⟩
    · rw [List.mem_singleton.mp hb]
      exact ⟨_, ha⟩
    · rw [List.length_cons, List.length_cons, start_len hv.len]
    · have z : ∀ i, isOwn (Sl.mu 0 xs :: startS N'.length ds) i → i = (0, 0) := fun ⟨i, m⟩ ⟨s, h1, h2⟩ => by
        cases i with
        | zero =>
          cases h1
          have h3 : m = 0 := of_decide_eq_true h2
          rw [h3]
        | succ i =>
          rcases start_env hv i s (by simpa using h1) with rfl | ⟨d, u, rfl, _⟩ <;> cases h2
      rw [z i hi, z j hj]
    · cases i with
      | zero =>
        cases hs
        exact ⟨rfl, ⟨us, ha, hfa, hap, hxs⟩, rfl⟩
      | succ i =>
        rcases start_env hv i s (by simpa using hs) with rfl | ⟨d, u, rfl, h1, h2⟩
        · trivial
        · exact ⟨u, by simpa using h1, h2⟩
  split at hG
  · rename_i ds2 w2 ho
    split at hG
    · rename_i ys2 h0
      cases hG
      refine ⟨⟨Z.p, [a], F, H⟩, F, _, w, _, r0, ho, fun σ' F' H' e r' => ?_⟩
      obtain ⟨α, _, hα⟩ := r'.env
      obtain ⟨_, ⟨us', q1, q2, q3, q4⟩, q5⟩ := hα 0 _ h0
      have e5 : α (0, 0) = a := (Option.some.inj q5).symm
      dsimp only at q1 q2
      rw [e5] at q1 q2
      exact k F' H' us' e (fun b o hb hba z => r'.keep b o hb (fun z => hba (List.mem_singleton.mp z)) z) r'.ex r'.nw r'.fp r'.dr q1 q2 q4
    · cases hG
  · cases hG
theorem cal_M {y : Str} {N' : List Str} (F : Fun K x x st f fd) (hm : mg x = some (.ref f)) (b : Binds K fd ps []) (S : FnScope (y :: N') ps (defScope st))
    (hbody : ∀ (cdv : Value) (A : Around) (outer : List Env) (s : Shared) (H : Hp) (E : XK), Room k (A.deeper (envOfC x (defScope st) s.heap.objs.size f cdv)) → JSs (cxOf CX0 P wd K mg base (y :: N') x (defScope st) f cdv A outer s H E).nox (defBody st) g) :
    CalM P wd K mg base (k + 1) x ps.length (callM (y :: N').length g) := ⟨f, fd, ps, fn_M F S hbody, hm, F.kp, b⟩
/-- f(x, e, ..) as a statement, x a list of one's own -/
def sCallM (i n : Nat) (G : Fm) (fs : Ef) : Es := fun ds w => (fs ds w).bind fun a => match ds[i]? with
  | some (.own xs) => if a.1.length + 1 = n then (G xs a.1 a.2).bind fun r => some (.nx (ds.set i (.own r.1)) r.2) else none
  | some (.mu k xs) => if a.1.length + 1 = n then (G xs a.1 a.2).bind fun r => some (.nx (ds.set i (.mu k r.1)) r.2) else none
  | _ => none
theorem js_callM (i : Nat) {G : Fm} {z : Str} {pz cpos : Pos} (c : CalM X.prog X.w X.K X.mg X.base k x n G) (hr : Room j X.A) (hk : k ≤ j) (hg : Gl X x) (ha : JA X es fs) (hN : X.N[i]? = some z := by rfl) (hv : Vis X.env.scope z := by first | exact Or.inl rfl | exact Or.inr (Or.inl rfl) | exact Or.inr (Or.inr rfl)) (hd : (z == ("__debug__" : Str)) = false := by decide) (hcd : (z == ("__classdict__" : Str)) = false := by decide)
    (hdb : (x == ("__debug__" : Str)) = false := by decide) (he : starEach (.Name z pz :: es) X.env = (false, eval (.Name z pz) X.env) :: starEach es X.env := by rfl) (hpl : (backTo cpos (starEach es X.env)).any (·.1) = false := by rfl)
    (hs : swapsWith (.Call (.Name x p) (.Name z pz :: es) [] cpos) none pos.line X.env = pure false := by rfl) : JS X (.Expr (.Call (.Name x p) (.Name z pz :: es) [] cpos) pos) (sCallM i n G fs) := ⟨by
  obtain ⟨f, fd, ps, Fk, hm, kp, b⟩ := c.ex
  refine ps_weak (ps_expr (pe_call Fk (hr.mono hk) hg hm kp b .nil pass0 (pa_cons (pe_var hN hv hd hcd) ha.run he) hdb he hpl) hs) fun D σ H ⟨Z, F, ds, w, o, rr, hf, k⟩ => ?_
  obtain ⟨a, ha, hf⟩ := bind2 hf
  have key : ∃ xs s s' r, ds[i]? = some s ∧ a.1.length + 1 = n ∧ G xs a.1 a.2 = some r ∧ o = .nx (ds.set i s') r.2 ∧ ((s = .own xs ∧ s' = .own r.1) ∨ ∃ m, s = .mu m xs ∧ s' = .mu m r.1) := by
    split at hf
    · rename_i xs hx
      split at hf
      · rename_i hl
        obtain ⟨r, h1, h2⟩ := bind2 hf
        cases h2
        exact ⟨xs, _, _, r, hx, hl, h1, rfl, .inl ⟨rfl, rfl⟩⟩
      · cases hf
    · rename_i m xs hx
      split at hf
      · rename_i hl
        obtain ⟨r, h1, h2⟩ := bind2 hf
        cases h2
        exact ⟨xs, _, _, r, hx, hl, h1, rfl, .inr ⟨m, rfl, rfl⟩⟩
      · cases hf
    · cases hf
  obtain ⟨xs, s, s', r, hi, hl, hG, rfl, hss⟩ := key
  obtain ⟨q, us, h1, h2, h3, h4, h5⟩ := rr.own1 (own_or hi hss)
  refine ⟨.ref q, h1, Z, F, ds, w, _, _, rr, ha, fun vs F1 H1 s1 d1 hv => ?_⟩
  have r1 := rr.step s1 d1
  have g2 := s1.h q _ h4 h2
  have g3 : F1 q = none := by
    obtain ⟨q', us', e1, e2, e3, e4, e5⟩ := r1.own1 (own_or hi hss)
    rw [h1] at e1
    cases e1
    exact e3
  show spM X.K n G ((V.ref q :: vs) ++ []) H1 (fun x H1 => D.nx σ H1) E0
  rw [List.append_nil]
  refine ⟨by rw [List.length_cons, hv.len]; exact hl, Z, F1, q, us, xs, vs, a.1, a.2, r.1, r.2, rfl, r1.nil, g2, g3, h4, h5.mono s1.f, hv, hG, fun F2 H2 us' e1 e2 e3 e4 e5 e6 e7 e8 e9 => ?_⟩
  have hH : upd (upd H2 q (.lst us)) q (.lst us') = H2 := by
    funext b
    by_cases hb : b = q
    · subst hb
      rw [upd_same, e7]
    · rw [upd_ne hb, upd_ne hb]
  have st : Stp Z.p F1 H1 F2 (upd H2 q (.lst us)) := ⟨e1, fun b o hb z => by
    by_cases hq : b = q
    · subst hq
      rw [g2] at z
      rw [upd_same]
      exact z
    · rw [upd_ne hq]
      exact e2 b o hb hq z, fun b o z => by
    rw [upd_ne (ne_of_none z e8)]
    exact e3 b o z, e4, e5⟩
  have dr : Dr Z.p F2 (upd H2 q (.lst us)) r.2 := by
    obtain ⟨t, t1, t2⟩ := e6
    exact ⟨t, by rw [upd_ne (Ne.symm h4)]; exact t1, t2⟩
  have r3 := (r1.step st dr).turn hi h1 hss e9
  rw [hH] at r3
  exact k σ F2 H2 (s1.f.trans e1) r3⟩
/-! ### match of texts -/
def MC (X : Cx) (cs : List MatchCase) (f : D → Es) : Prop := ∀ (first : Bool) (pins : List (Addr × Obj)) (s : Shared) (σ : L2.St) (H : Hp) (D : Ends) (v : V) (u : Value), Inv X pins σ H s → RelV v u →
  (∃ Z F ds w d o, R X.K Z F H σ ds w ∧ DenB X.K Z.p F H d v ∧ f d ds w = some o ∧ OutK X.K Z F o D) → wpAny (model X.prog X.w) X.A (matchCases cs X.env u first) (SP X pins D) X.xe s
/-- a pattern of written texts -/
def JPat (X : Cx) (p : Pattern) (xs : List Str) : Prop := ∀ (pins : List (Addr × Obj)) (s : Shared) (σ : L2.St) (H : Hp) (z : Str) (t : Tok) (Q : Option (List (Str × Value)) → Shared → Prop), Inv X pins σ H s →
  (∀ s', Inv X pins σ H s' → Q (if z ∈ xs then some [] else none) s') → wpAny (model X.prog X.w) X.A (matchPattern p X.env (.str z t)) Q X.xe s
theorem jp_one {c : Str} {kd : Nat} {p1 p2 : Pos} : JPat X (.MatchValue (.Constant (.str c) kd p1) p2) [c] := fun pins s σ H z t Q I h => by
  refine wpAny_matchPattern_Value (thn ((pe_str (X := X)).run pins s σ H (fun y H' => y = .str c ∧ H' = H) I ⟨rfl, rfl⟩) fun u s1 ⟨y, H1, I1, r1, e1, e2⟩ => ?_)
  subst e1 e2
  refine thn (op_eq (X := X) pins s1 σ H1 (.str z) (.str c) (.str z t) u (fun y H' => y = .bl (decide (V.str z = V.str c)) ∧ H' = H1) I1 ⟨t, rfl⟩ r1 ⟨rfl, rfl, rfl⟩) fun b s2 ⟨y, H2, I2, r2, e1, e2⟩ => ?_
  subst e1 e2
  cases r2
  refine wpAny_truthy_bool ?_
  have hd : decide (V.str z = V.str c) = decide (z ∈ [c]) := by
    by_cases hz : z = c
    · subst hz
      rw [decide_eq_true rfl, decide_eq_true (List.mem_singleton.mpr rfl)]
    · rw [decide_eq_false (fun q => hz (V.str.inj q)), decide_eq_false (fun q => hz (List.mem_singleton.mp q))]
  have := h s2 I2
  rw [hd]
  by_cases hz : z ∈ [c]
  · rw [if_pos hz] at this
    rw [decide_eq_true hz]
    exact this
  · rw [if_neg hz] at this
    rw [decide_eq_false hz]
    exact this
def JFst (X : Cx) (ps : List Pattern) (xs : List Str) : Prop := ∀ (pins : List (Addr × Obj)) (s : Shared) (σ : L2.St) (H : Hp) (z : Str) (t : Tok) (Q : Option (List (Str × Value)) → Shared → Prop), Inv X pins σ H s →
  (∀ s', Inv X pins σ H s' → Q (if z ∈ xs then some [] else none) s') → wpAny (model X.prog X.w) X.A (matchFirst ps X.env (.str z t)) Q X.xe s
theorem jfst_nil : JFst X [] [] := fun pins s σ H z t Q I h => wpAny_matchFirst_nil (h s I)
theorem jfst_cons {p : Pattern} {ps : List Pattern} {xs ys : List Str} (h1 : JPat X p xs) (h2 : JFst X ps ys) : JFst X (p :: ps) (xs ++ ys) := fun pins s σ H z t Q I h => by
  refine wpAny_matchFirst_cons (h1 pins s σ H z t _ I fun s' I' => ?_)
  by_cases hz : z ∈ xs
  · rw [if_pos hz]
    have := h s' I'
    rw [if_pos (List.mem_append_left _ hz)] at this
    exact this
  · rw [if_neg hz]
    refine h2 pins s' σ H z t Q I' fun s2 I2 => ?_
    have := h s2 I2
    by_cases hy : z ∈ ys
    · rw [if_pos (List.mem_append_right _ hy)] at this
      rw [if_pos hy]
      exact this
    · rw [if_neg (fun q => (List.mem_append.mp q).elim hz hy)] at this
      rw [if_neg hy]
      exact this
theorem jp_or {p : Pattern} {ps : List Pattern} {xs : List Str} {p1 : Pos} (h : JFst X (p :: ps) xs) (hn : namesOfAll ((p :: ps).take 1) = [] := by rfl) : JPat X (.MatchOr (p :: ps) p1) xs := fun pins s σ H z t Q I k => by
  refine wpAny_matchPattern_Or (h pins s σ H z t _ I fun s' I' => ?_)
  have := k s' I'
  by_cases hz : z ∈ xs
  · rw [if_pos hz] at this ⊢
    rw [hn]
    exact this
  · rw [if_neg hz] at this ⊢
    exact this
def mcNil : D → Es := fun _ => sNil
def mcCons (xs : List Str) (fb : Es) (rest : D → Es) : D → Es := fun d ds w => match d with | .str z => if z ∈ xs then fb ds w else rest d ds w | _ => none
def mcAll (fb : Es) : D → Es := fun _ => fb
theorem mc_nil : MC X [] mcNil := fun first pins s σ H D v u I r ⟨Z, F, ds, w, d, o, rr, hd, hf, k⟩ => by
  cases hf
  exact wpAny_matchCases_nil ⟨σ, H, I, k σ F H (Same.refl _) rr⟩
theorem mc_cons {pt : Pattern} {body : List Stmt} {rest : List MatchCase} {xs : List Str} {fb : Es} {fr : D → Es} (h1 : JPat X pt xs) (h2 : JSs X body fb) (h3 : MC X rest fr) : MC X (⟨pt, none, body⟩ :: rest) (mcCons xs fb fr) := fun first pins s σ H D v u I r ⟨Z, F, ds, w, d, o, rr, hd, hf, k⟩ => by
  unfold mcCons at hf
  split at hf
  · rename_i z
    have hv := hd.str
    subst hv
    obtain ⟨t, rfl⟩ := r
    refine wpAny_matchCases_cons (h1 pins s σ H z t _ I fun s' I' => ?_)
    split at hf
    · rename_i hz
      rw [if_pos hz]
      refine wpAny_assignInOrder_none (h2.run.run pins s' σ H D I' ⟨Z, F, ds, w, o, rr, hf, k⟩)
    · rename_i hz
      rw [if_neg hz]
      exact h3 false pins s' σ H D (.str z) (.str z t) I' ⟨t, rfl⟩ ⟨Z, F, ds, w, _, o, rr, hd, hf, k⟩
  · cases hf
/-- case _ -/
theorem mc_all {body : List Stmt} {fb : Es} {p1 : Pos} (h2 : JSs X body fb) : MC X [⟨.MatchAs none none p1, none, body⟩] (mcAll fb) := fun first pins s σ H D v u I r ⟨Z, F, ds, w, d, o, rr, hd, hf, k⟩ => by
  refine wpAny_matchCases_cons (wpAny_matchPattern_Capture ?_)
  exact wpAny_assignInOrder_none (h2.run.run pins s σ H D I ⟨Z, F, ds, w, o, rr, hf, k⟩)
def sMatch (f : Ev) (g : D → Es) : Es := fun ds w => (f ds w).bind fun d => g d.1 ds d.2
theorem js_match {fe : Ev} {cs : List MatchCase} {fc : D → Es} (h1 : JE X e fe) (h2 : MC X cs fc) : JS X (.Match e cs pos) (sMatch fe fc) := ⟨⟨fun pins s σ H D I ⟨Z, F, ds, w, o, rr, hf, k⟩ => by
  obtain ⟨d, hd, hf⟩ := bind2 hf
  refine wpAny_Match (thn (h1.run.run pins s σ H (fun v H1 => ∃ F1, Stp Z.p F H F1 H1 ∧ Dr Z.p F1 H1 d.2 ∧ Den X.K Z.p F1 d.1 v) I ⟨Z, F, ds, w, _, _, rr, hd, fun v F1 H1 s1 d1 hv => ⟨F1, s1, d1, hv⟩⟩) fun u s1 ⟨v, H1, I1, r1, F1, q1, q2, q3⟩ => ?_)
  exact h2 true pins s1 σ H1 D v u I1 r1 ⟨Z, F1, ds, d.2, d.1, o, rr.step q1 q2, .inl q3, hf, k.go q1.f⟩⟩⟩
/-! ### a law -/
def spLaw (K : PySem.W.Frag) : Sp := fun vs H Q _ => ∃ (a : Addr) (ns : List Int), vs = [.ref a] ∧ SqL K H a (ns.map V.int) ∧ ns.length ≤ 63 ∧ ∀ H', Q (.bl true) H'
theorem law_J {N' : List Str} {rest : List Stmt} {y z : Str} {py px p1 p2 p3 p4 p5 p6 p7 : Pos} {j1 j2 j3 : Nat} (F : Fun K x qual st f fd) (hN : N = z :: y :: N') (S : FnScope N [z] (defScope st)) (hbd : defBody st = .Assign [.Name y py] (.List [.Subscript (.Name z px) (.Slice none (some (.Constant (.int 63) j1 p1)) none p2) p3, .Constant (.int 0) j2 p4, .Constant (.int 0) j3 p5] p6) p7 :: rest)
    (vz : Vis (defScope st) z) (ly : Loc (defScope st) y) (dz : (z == ("__debug__" : Str)) = false) (cz : (z == ("__classdict__" : Str)) = false)
    (hsw : ∀ (cdv : Value) (A : Around) (outer : List Env) (s : Shared) (H : Hp) (E : XK), swapsWith (.List [.Subscript (.Name z px) (.Slice none (some (.Constant (.int 63) j1 p1)) none p2) p3, .Constant (.int 0) j2 p4, .Constant (.int 0) j3 p5] p6) (some (.Name y py)) p7.line (cxOf CX0 P wd K mg base N qual (defScope st) f cdv A outer s H E).nox.env = pure false)
    (hbody : ∀ (cdv : Value) (A : Around) (outer : List Env) (s : Shared) (H : Hp) (E : XK), Room k (A.deeper (envOfC qual (defScope st) s.heap.objs.size f cdv)) → JSs (cxOf CX0 P wd K mg base N qual (defScope st) f cdv A outer s H E).nox rest g)
    (hg : ∀ ns : List Int, ns.length ≤ 63 → ∃ w', g (.no :: .d .draw :: List.replicate N'.length .no) ⟨ns, 0⟩ = some (.rt (.bl true) w')) : FnOk P wd K mg base CX0 (k + 1) f fd [z] (spLaw K) := by
  refine F.ok S (fun vs H Q E h => ?_) (fun cdv A outer s H vs Q E hr h => ?_)
  · obtain ⟨a, ns, rfl, _⟩ := h
    rfl
  obtain ⟨a, ns, rfl, hS, hlen, k⟩ := h
  rw [hbd]
  refine ⟨_, pss_cons (ps_set (i := 1) S.nd (by subst hN; rfl) ly (pe_lst (pa_cons (pe_slice sl_list (pe_var (i := 0) (by subst hN; rfl) vz dz cz) po_none (po_some pe_int)) (pa_cons pe_int (pa_cons pe_int pa_nil)))) (hsw cdv A outer s H E)) (hbody cdv A outer s H E hr).run, ?_⟩
  have hst : L2.start N [V.ref a] = some (.ref a) :: none :: List.replicate N'.length none := by
    subst hN
    rfl
  rw [hst]
  refine ⟨.ref a, rfl, 63, rfl, a, _, rfl, hS, fun q hq => ⟨by show 3 ≤ sizeLine; decide, fun p hp => ?_⟩⟩
  obtain ⟨w', hgo⟩ := hg ns hlen
  have hqp : p ≠ q := by
    rintro rfl
    rw [upd_same] at hp
    cases hp
  have ecut : cutV (ns.map V.int) none (some 63) = ns.map V.int := by
    unfold cutV
    have e1 : HT.sIx (ns.map V.int).length 0 none = 0 := rfl
    have e2 : HT.sIx (ns.map V.int).length (ns.map V.int).length (some 63) = (ns.map V.int).length := by
      have h3 := HT.sIx_nat (ns.map V.int).length (ns.map V.int).length 63
      rw [List.length_map] at h3 ⊢
      have e3 : ((63 : Nat) : Int) = 63 := rfl
      rw [e3] at h3
      rw [h3]
      omega
    rw [e1, e2]
    show ((ns.map V.int).drop 0).take ((ns.map V.int).length - 0) = ns.map V.int
    rw [List.drop_zero, Nat.sub_zero, List.take_length]
  rw [ecut] at hp ⊢
  refine ⟨⟨p, [], upd (fun _ => none) q (.lst (ns.map V.int)), fun _ => none⟩, upd (fun _ => none) q (.lst (ns.map V.int)), .no :: .d .draw :: List.replicate N'.length .no, ⟨ns, 0⟩, _, ?_, hgo, fun v σ' ds' F' H' _ _ hv => by
    unfold Den at hv
    subst hv
    exact k H'⟩
  refine ⟨fun b o z => ?_, by rw [upd_ne hqp], ⟨q, upd_same, upd_same⟩, List.not_mem_nil, fun b hb => (nomatch hb), fun b hb => (nomatch hb), fun b o _ _ z => (nomatch z), fun b o z => .inl z, Same.refl _, ?_, fun _ => 0, fun ⟨i, m⟩ j ⟨s, h1, h2⟩ => ?_, fun i s hs => ?_⟩
  · by_cases hb : b = q
    · subst hb
      rw [upd_same] at z
      rw [upd_ne (Ne.symm hqp), upd_same]
      exact z
    · rw [upd_ne hb] at z
      cases z
  · show (List.set (some (V.ref a) :: none :: List.replicate N'.length none) 1 (some (V.ref p))).length = _
    simp
  · exfalso
    match i, h1 with
    | 0, h1 =>
      cases h1
      cases h2
    | 1, h1 =>
      cases h1
      cases h2
    | i + 2, h1 =>
      have h1' : (List.replicate N'.length Sl.no)[i]? = some s := h1
      rw [List.getElem?_replicate] at h1'
      split at h1'
      · cases h1'
        cases h2
      · cases h1'
  · match i, hs with
    | 0, hs =>
      cases hs
      trivial
    | 1, hs =>
      cases hs
      exact ⟨.ref p, rfl, by unfold Den; rfl⟩
    | i + 2, hs =>
      have h1' : (List.replicate N'.length Sl.no)[i]? = some s := hs
      rw [List.getElem?_replicate] at h1'
      split at h1'
      · cases h1'
        trivial
      · cases h1'
end
end J
namespace J
open PySem PyProof.Rows L2
/-! ### what comes of it: lemmas about the meanings -/
theorem eqv_int (a b : Int) : PyData.eqv (.int a) (.int b) = decide (a = b) := by
  simp [PyData.eqv]
  rfl
theorem eqv_str (a b : Str) : PyData.eqv (.str a) (.str b) = decide (a = b) := by
  simp [PyData.eqv]
  rfl
theorem lay_int (i : Int) : lay (.int i) = true := rfl
theorem lay_bl (i : Bool) : lay (.bl i) = true := rfl
theorem lay_non : lay .non = true := rfl
theorem eqD_int (a b : Int) : eqD (.int a) (.int b) = some (.bl (decide (a = b))) := by
  unfold eqD
  rw [lay_int, lay_int]
  show some (D.bl (PyData.eqv (.int a) (.int b))) = _
  rw [eqv_int]
theorem neD_int (a b : Int) : neD (.int a) (.int b) = some (.bl (!decide (a = b))) := by
  unfold neD
  rw [lay_int, lay_int]
  show some (D.bl (!PyData.eqv (.int a) (.int b))) = _
  rw [eqv_int]
theorem eqD_bl (a b : Bool) : eqD (.bl a) (.bl b) = some (.bl (a == b)) := rfl
theorem neD_bl (a b : Bool) : neD (.bl a) (.bl b) = some (.bl (!(a == b))) := rfl
theorem canLay_ints : ∀ ns : List Int, PyData.canLayAll0 (pys (ns.map D.int)) = true ∧ PyData.depthAll (pys (ns.map D.int)) ≤ 1
  | [] => ⟨rfl, Nat.zero_le _⟩
  | n :: ns => by
    obtain ⟨h1, h2⟩ := canLay_ints ns
    refine ⟨?_, ?_⟩
    · show (PyData.canLay0 (.int n) && PyData.canLayAll0 (pys (ns.map D.int))) = true
      rw [h1]
      rfl
    · show max (PyData.depth (.int n)) (PyData.depthAll (pys (ns.map D.int))) ≤ 1
      have : PyData.depth (.int n) ≤ 1 := by
        simp [PyData.depth]
      omega
theorem poks_ints (ns : List Int) : poks (ns.map D.int) = true := by
  rw [poks_all, List.all_eq_true]
  intro d hd
  obtain ⟨n, _, rfl⟩ := List.mem_map.mp hd
  rfl
theorem lay_ints (ns : List Int) : lay (.lst (ns.map D.int)) = true := by
  obtain ⟨h1, h2⟩ := canLay_ints ns
  unfold lay pok
  rw [poks_ints]
  unfold SeqAt.shaped
  show (true && (PyData.canLay0 (.list (pys (ns.map D.int))) && decide (PyData.depth (.list (pys (ns.map D.int))) ≤ 64))) = true
  have e : PyData.canLay0 (.list (pys (ns.map D.int))) = true := by
    unfold PyData.canLay0
    exact h1
  rw [e]
  have : PyData.depth (.list (pys (ns.map D.int))) ≤ 64 := by
    unfold PyData.depth
    omega
  rw [decide_eq_true this]
  rfl
theorem eqvAll_ints : ∀ ns ms : List Int, PyData.eqvAll (pys (ns.map D.int)) (pys (ms.map D.int)) = decide (ns = ms)
  | [], [] => rfl
  | [], m :: ms => rfl
  | n :: ns, [] => rfl
  | n :: ns, m :: ms => by
    show (PyData.eqv (.int n) (.int m) && PyData.eqvAll (pys (ns.map D.int)) (pys (ms.map D.int))) = _
    rw [eqv_int, eqvAll_ints ns ms, Bool.eq_iff_iff]
    simp
theorem eqv_ints (ns ms : List Int) : PyData.eqv (.list (pys (ns.map D.int))) (.list (pys (ms.map D.int))) = decide (ns = ms) := by
  unfold PyData.eqv
  exact eqvAll_ints ns ms
theorem eqD_ints (ns ms : List Int) : eqD (.lst (ns.map D.int)) (.lst (ms.map D.int)) = some (.bl (decide (ns = ms))) := by
  unfold eqD
  rw [lay_ints, lay_ints]
  show some (D.bl (PyData.eqv (.list (pys (ns.map D.int))) (.list (pys (ms.map D.int))))) = _
  rw [eqv_ints]
theorem neD_ints (ns ms : List Int) : neD (.lst (ns.map D.int)) (.lst (ms.map D.int)) = some (.bl (!decide (ns = ms))) := by
  unfold neD
  rw [lay_ints, lay_ints]
  show some (D.bl (!PyData.eqv (.list (pys (ns.map D.int))) (.list (pys (ms.map D.int))))) = _
  rw [eqv_ints]
/-- a for by what holds of the slots behind each turn -/
theorem forGo_inv {α : Type} (enc : α → D) {tg : Eg} {body : Es} (I : List α → List Sl → Wd → Prop) : ∀ (pre xs : List α) (ds : List Sl) (w : Wd), I pre ds w →
    (∀ (p : List α) (a : α) (q : List α) (ds : List Sl) (w : Wd), pre ++ xs = p ++ a :: q → I p ds w → ∃ ds1 ds2 w2, tg ds (enc a) = some ds1 ∧ (body ds1 w = some (.nx ds2 w2) ∨ body ds1 w = some (.ct ds2 w2)) ∧ I (p ++ [a]) ds2 w2) → ∃ ds' w', forGo tg body (xs.map enc) ds w = some (.nx ds' w') ∧ I (pre ++ xs) ds' w'
  | pre, [], ds, w, h, _ => ⟨ds, w, rfl, by rw [List.append_nil]; exact h⟩
  | pre, a :: xs, ds, w, h, hs => by
    obtain ⟨ds1, ds2, w2, h1, h2, h3⟩ := hs pre a xs ds w rfl h
    obtain ⟨ds', w', h4, h5⟩ := forGo_inv enc I (pre ++ [a]) xs ds2 w2 h3 (fun p b q ds w e hi => hs p b q ds w (by rw [← e, List.append_assoc]; rfl) hi)
    refine ⟨ds', w', ?_, by rw [List.append_assoc] at h5; exact h5⟩
    show (tg ds (enc a)).bind _ = _
    rw [h1]
    show (body ds1 w).bind _ = _
    rcases h2 with h2 | h2
    · rw [h2]
      exact h4
    · rw [h2]
      exact h4
/-- .. whose turns all do f to the slots -/
theorem forGo_fold {α β : Type} (enc : α → D) {tg : Eg} {body : Es} {w : Wd} (env : β → List Sl → Prop) (f : β → α → β) : ∀ (xs : List α) (b : β) (ds : List Sl), env b ds →
    (∀ (b : β) (a : α) (ds : List Sl), a ∈ xs → env b ds → ∃ ds1 ds2, tg ds (enc a) = some ds1 ∧ body ds1 w = some (.nx ds2 w) ∧ env (f b a) ds2) → ∃ ds', forGo tg body (xs.map enc) ds w = some (.nx ds' w) ∧ env (xs.foldl f b) ds'
  | [], b, ds, h, _ => ⟨ds, rfl, h⟩
  | a :: xs, b, ds, h, hs => by
    obtain ⟨ds1, ds2, h1, h2, h3⟩ := hs b a ds List.mem_cons_self h
    obtain ⟨ds', h4, h5⟩ := forGo_fold enc env f xs (f b a) ds2 h3 (fun b' a' ds' hm => hs b' a' ds' (List.mem_cons_of_mem _ hm))
    refine ⟨ds', ?_, h5⟩
    show (tg ds (enc a)).bind _ = _
    rw [h1]
    show (body ds1 w).bind _ = _
    rw [h2]
    exact h4
theorem lcGo_yes {tg : Eg} {e : Ev} {ds ds1 : List Sl} {x : D} {xs : List D} {w : Wd} {y : D × Wd} (h1 : tg ds x = some ds1) (h2 : e ds1 w = some y) : lcGo tg tYesJ e ds (x :: xs) w = (lcGo tg tYesJ e ds xs y.2).bind fun r => some (y.1 :: r.1, r.2) := by
  conv => lhs; unfold lcGo
  rw [h1]
  simp only [Option.bind_some, tYesJ, if_true, h2]
theorem lcGo_test {tg : Eg} {c : Et} {e : Ev} {ds ds1 : List Sl} {x : D} {xs : List D} {w : Wd} {b : Bool × Wd} (h1 : tg ds x = some ds1) (h2 : c ds1 w = some b) : lcGo tg c e ds (x :: xs) w = if b.1 = true then (e ds1 b.2).bind fun y => (lcGo tg c e ds xs y.2).bind fun r => some (y.1 :: r.1, r.2) else lcGo tg c e ds xs b.2 := by
  conv => lhs; unfold lcGo
  rw [h1]
  simp only [Option.bind_some, h2]
/-- a comprehension that takes all -/
theorem lcGo_map {α : Type} (enc : α → D) {tg : Eg} {e : Ev} {ds : List Sl} {w : Wd} (f : α → D) : ∀ xs : List α, (∀ a ∈ xs, ∃ ds1, tg ds (enc a) = some ds1 ∧ e ds1 w = some (f a, w)) → lcGo tg tYesJ e ds (xs.map enc) w = some (xs.map f, w)
  | [], _ => rfl
  | a :: xs, h => by
    obtain ⟨ds1, h1, h2⟩ := h a List.mem_cons_self
    rw [List.map_cons, lcGo_yes h1 h2, lcGo_map enc f xs fun b hb => h b (List.mem_cons_of_mem _ hb)]
    rfl
/-- .. that takes some -/
theorem lcGo_filter {α : Type} (enc : α → D) {tg : Eg} {c : Et} {e : Ev} {ds : List Sl} {w : Wd} (p : α → Bool) (f : α → D) : ∀ xs : List α, (∀ a ∈ xs, ∃ ds1, tg ds (enc a) = some ds1 ∧ c ds1 w = some (p a, w) ∧ (p a = true → e ds1 w = some (f a, w))) → lcGo tg c e ds (xs.map enc) w = some ((xs.filter p).map f, w)
  | [], _ => rfl
  | a :: xs, h => by
    obtain ⟨ds1, h1, h2, h3⟩ := h a List.mem_cons_self
    have ih := lcGo_filter enc p f xs fun b hb => h b (List.mem_cons_of_mem _ hb)
    rw [List.map_cons, lcGo_test h1 h2]
    dsimp only
    by_cases hp : p a = true
    · rw [if_pos hp, h3 hp, List.filter_cons_of_pos hp]
      simp only [Option.bind_some, ih]
      rfl
    · rw [if_neg hp, List.filter_cons_of_neg hp]
      exact ih
/-- .. whose items are drawn: each by what holds of the state ahead of it -/
theorem lcGo_draw {α β : Type} (enc : α → D) (out : β → D) {tg : Eg} {e : Ev} {ds : List Sl} (ok : α → β → Prop) (I : Wd → Prop) : ∀ (xs : List α) (w : Wd), I w → (∀ a ∈ xs, ∀ w, I w → ∃ ds1 b w', tg ds (enc a) = some ds1 ∧ e ds1 w = some (out b, w') ∧ ok a b ∧ I w') →
    ∃ (bs : List β) (w' : Wd), lcGo tg tYesJ e ds (xs.map enc) w = some (bs.map out, w') ∧ bs.length = xs.length ∧ (∀ b ∈ bs, ∃ a ∈ xs, ok a b) ∧ I w'
  | [], w, hw, _ => ⟨[], w, rfl, rfl, fun _ h => (nomatch h), hw⟩
  | a :: xs, w, hw, h => by
    obtain ⟨ds1, b, w1, h1, h2, h3, h4⟩ := h a List.mem_cons_self w hw
    obtain ⟨bs, w', ih, hl, hm, hI⟩ := lcGo_draw enc out ok I xs w1 h4 fun c hc => h c (List.mem_cons_of_mem _ hc)
    refine ⟨b :: bs, w', ?_, by rw [List.length_cons, List.length_cons, hl], fun c hc => ?_, hI⟩
    · rw [List.map_cons, lcGo_yes h1 h2]
      simp only [ih, Option.bind_some]
      rfl
    · rcases List.mem_cons.mp hc with q | q
      · subst q
        exact ⟨a, List.mem_cons_self, h3⟩
      · obtain ⟨a', q1, q2⟩ := hm c q
        exact ⟨a', List.mem_cons_of_mem _ q1, q2⟩
theorem rgD_map (a c : Int) (n : Nat) : rgD a c n = ((List.range n).map fun i : Nat => a + (i : Int) * c).map D.int := by
  unfold rgD
  rw [List.map_map]
  rfl
theorem fLc_ok {src : Ef} {tg : Eg} {c : Et} {e : Ev} {vs : List Nat} {ds : List Sl} {w w1 w2 : Wd} {xs ys : List D} (h1 : src ds w = some (xs, w1)) (h2 : lcGo tg c e (wipeS ds vs) xs w1 = some (ys, w2)) (h3 : ys.length ≤ line) : fLc src tg c e vs ds w = some (ys, w2) := by
  show (src ds w).bind _ = _
  rw [h1]
  show (lcGo tg c e (wipeS ds vs) xs w1).bind _ = _
  rw [h2]
  show (if ys.length ≤ line then _ else _) = _
  rw [if_pos h3]
/-! sorted lists stay as they are -/
theorem sortI_of {ns ms : List Int} (h : ms.Perm ns) (hs : ms.Pairwise (· ≤ ·)) : sortI ns = ms := PySem.W.ksm_same ((sortI_perm ns).trans h.symm) (sortI_pair ns) hs
theorem sortI_id {ns : List Int} (hs : ns.Pairwise (· ≤ ·)) : sortI ns = ns := sortI_of (List.Perm.refl _) hs
theorem atI_map {α β : Type} (f : α → β) (xs : List α) (i : Int) : atI (xs.map f) i = (atI xs i).map f := by
  unfold atI
  rw [List.length_map]
  cases ixN xs.length i with
  | none => rfl
  | some j => exact List.getElem?_map
theorem ixN_nat {n i : Nat} (h : i < n) : ixN n (i : Int) = some i := by
  unfold ixN
  rw [if_pos (by omega), if_pos (by omega)]
  rfl
end J
namespace J
open PySem PyProof.Rows L2
/-! ### the meanings, applied -/
def pv (w : Wd) : Option Sl → Option (D × Wd)
  | some (.d x) => some (x, w)
  | _ => none
@[simp] theorem pv.on (w : Wd) (x : D) : pv w (some (.d x)) = some (x, w) := rfl
@[simp] theorem eVar.ap (i : Nat) (ds : List Sl) (w : Wd) : eVar i ds w = pv w ds[i]? := by
  unfold eVar pv
  rcases ds[i]? with _ | s
  · rfl
  · cases s <;> rfl
def pw (w : Wd) : Option Sl → Option (D × Wd)
  | some (.d x) => some (x, w)
  | some (.own xs) => some (.lst xs, w)
  | some (.mu _ xs) => some (.lst xs, w)
  | some (.oo x) => some (x.toD, w)
  | _ => none
@[simp] theorem pw.on1 (w : Wd) (x : D) : pw w (some (.d x)) = some (x, w) := rfl
@[simp] theorem pw.on2 (w : Wd) (x : List D) : pw w (some (.own x)) = some (.lst x, w) := rfl
@[simp] theorem pw.on3 (w : Wd) (k : Nat) (x : List D) : pw w (some (.mu k x)) = some (.lst x, w) := rfl
@[simp] theorem pw.on4 (w : Wd) (x : OD) : pw w (some (.oo x)) = some (x.toD, w) := rfl
@[simp] theorem eBor.ap (i : Nat) (ds : List Sl) (w : Wd) : eBor i ds w = pw w ds[i]? := by
  unfold eBor pw
  rcases ds[i]? with _ | s
  · rfl
  · cases s <;> rfl
@[simp] theorem eC.ap (d : D) (ds : List Sl) (w : Wd) : eC d ds w = some (d, w) := rfl
def vD (w : Wd) : Option D → Option (D × Wd)
  | some d => some (d, w)
  | none => none
@[simp] theorem vD.on (w : Wd) (d : D) : vD w (some d) = some (d, w) := rfl
def vLs (w : Wd) : Option (List D) → Option (List D × Wd)
  | some d => some (d, w)
  | none => none
@[simp] theorem vLs.on (w : Wd) (d : List D) : vLs w (some d) = some (d, w) := rfl
def kL  : Option (List D × Wd) → Option (D × Wd)
  | some (xs, w1) => some (.lst xs, w1)
  | none => none
@[simp] theorem kL.on   (xs : List D) (w1 : Wd) : kL  (some (xs, w1)) = some (.lst xs, w1) := rfl
@[simp] theorem eL.ap (f : Ef) (ds : List Sl) (w : Wd) : eL f ds w = kL (f ds w) := by
  unfold eL
  rcases f ds w with _ | ⟨x, y⟩ <;> rfl
def bin2 (g : D → D → Option D) (a : D) : Option (D × Wd) → Option (D × Wd)
  | some (b, w2) => vD w2 (g a b)
  | none => none
@[simp] theorem bin2.on (g : D → D → Option D) (a : D)  (b : D) (w2 : Wd) : bin2 g a (some (b, w2)) = vD w2 (g a b) := rfl
def bin1 (g : D → D → Option D) (fb : Ev) (ds : List Sl) : Option (D × Wd) → Option (D × Wd)
  | some (a, w1) => bin2 g a (fb ds w1)
  | none => none
@[simp] theorem bin1.on (g : D → D → Option D) (fb : Ev) (ds : List Sl)  (a : D) (w1 : Wd) : bin1 g fb ds (some (a, w1)) = bin2 g a (fb ds w1) := rfl
theorem eBin.ap (g : D → D → Option D) (fa fb : Ev) (ds : List Sl) (w : Wd) : eBin g fa fb ds w = bin1 g fb ds (fa ds w) := by
  unfold eBin
  rcases fa ds w with _ | ⟨a, w1⟩
  · rfl
  · show (fb ds w1).bind _ = bin2 g a (fb ds w1)
    rcases fb ds w1 with _ | ⟨b, w2⟩
    · rfl
    · show (g a b).bind _ = vD w2 (g a b)
      rcases g a b with _ | d <;> rfl
@[simp] theorem eEq.ap (fa fb : Ev) (ds : List Sl) (w : Wd) : eEq fa fb ds w = bin1 eqD fb ds (fa ds w) := eBin.ap eqD fa fb ds w
@[simp] theorem eNe.ap (fa fb : Ev) (ds : List Sl) (w : Wd) : eNe fa fb ds w = bin1 neD fb ds (fa ds w) := eBin.ap neD fa fb ds w
@[simp] theorem eLt.ap (fa fb : Ev) (ds : List Sl) (w : Wd) : eLt fa fb ds w = bin1 (g2B pLt) fb ds (fa ds w) := eBin.ap (g2B pLt) fa fb ds w
@[simp] theorem eLe.ap (fa fb : Ev) (ds : List Sl) (w : Wd) : eLe fa fb ds w = bin1 (g2B pLe) fb ds (fa ds w) := eBin.ap (g2B pLe) fa fb ds w
@[simp] theorem eGt.ap (fa fb : Ev) (ds : List Sl) (w : Wd) : eGt fa fb ds w = bin1 (g2B pGt) fb ds (fa ds w) := eBin.ap (g2B pGt) fa fb ds w
@[simp] theorem eGe.ap (fa fb : Ev) (ds : List Sl) (w : Wd) : eGe fa fb ds w = bin1 (g2B pGe) fb ds (fa ds w) := eBin.ap (g2B pGe) fa fb ds w
@[simp] theorem eIs.ap (fa fb : Ev) (ds : List Sl) (w : Wd) : eIs fa fb ds w = bin1 isN fb ds (fa ds w) := eBin.ap isN fa fb ds w
@[simp] theorem eIsNot.ap (fa fb : Ev) (ds : List Sl) (w : Wd) : eIsNot fa fb ds w = bin1 notN fb ds (fa ds w) := eBin.ap notN fa fb ds w
@[simp] theorem eIn.ap (fa fb : Ev) (ds : List Sl) (w : Wd) : eIn fa fb ds w = bin1 (inD false) fb ds (fa ds w) := eBin.ap (inD false) fa fb ds w
@[simp] theorem eNotIn.ap (fa fb : Ev) (ds : List Sl) (w : Wd) : eNotIn fa fb ds w = bin1 (inD true) fb ds (fa ds w) := eBin.ap (inD true) fa fb ds w
@[simp] theorem eAdd.ap (fa fb : Ev) (ds : List Sl) (w : Wd) : eAdd fa fb ds w = bin1 addD fb ds (fa ds w) := eBin.ap addD fa fb ds w
@[simp] theorem eSub.ap (fa fb : Ev) (ds : List Sl) (w : Wd) : eSub fa fb ds w = bin1 subD fb ds (fa ds w) := eBin.ap subD fa fb ds w
@[simp] theorem eDiv.ap (fa fb : Ev) (ds : List Sl) (w : Wd) : eDiv fa fb ds w = bin1 divD fb ds (fa ds w) := eBin.ap divD fa fb ds w
@[simp] theorem eMod.ap (fa fb : Ev) (ds : List Sl) (w : Wd) : eMod fa fb ds w = bin1 modD fb ds (fa ds w) := eBin.ap modD fa fb ds w
@[simp] theorem ePow.ap (fa fb : Ev) (ds : List Sl) (w : Wd) : ePow fa fb ds w = bin1 powD fb ds (fa ds w) := eBin.ap powD fa fb ds w
@[simp] theorem eMul.ap (fa fb : Ev) (ds : List Sl) (w : Wd) : eMul fa fb ds w = bin1 mulD fb ds (fa ds w) := eBin.ap mulD fa fb ds w
@[simp] theorem eIx.ap (fa fb : Ev) (ds : List Sl) (w : Wd) : eIx fa fb ds w = bin1 idxD fb ds (fa ds w) := eBin.ap idxD fa fb ds w
def kT : Option (D × Wd) → Option (Bool × Wd)
  | some (.bl p, w1) => some (p, w1)
  | _ => none
@[simp] theorem kT.on (p : Bool) (w1 : Wd) : kT (some (.bl p, w1)) = some (p, w1) := rfl
@[simp] theorem eTest.ap (f : Ev) (ds : List Sl) (w : Wd) : eTest f ds w = kT (f ds w) := by
  unfold eTest
  rcases f ds w with _ | ⟨x, y⟩
  · rfl
  · cases x <;> rfl
def ch4 (g' : D → D → Option D) (b : D) : Option (D × Wd) → Option (D × Wd)
  | some (c, w3) => vD w3 (g' b c)
  | none => none
@[simp] theorem ch4.on (g' : D → D → Option D) (b : D)  (c : D) (w3 : Wd) : ch4 g' b (some (c, w3)) = vD w3 (g' b c) := rfl
def ch3 (g' : D → D → Option D) (b : D) (fc : Ev) (ds : List Sl) (w : Wd) : Option D → Option (D × Wd)
  | some (.bl p) => if p = true then ch4 g' b (fc ds w) else some (.bl false, w)
  | _ => none
@[simp] theorem ch3.on (g' : D → D → Option D) (b : D) (fc : Ev) (ds : List Sl) (w : Wd) (p : Bool) : ch3 g' b fc ds w (some (.bl p)) = if p = true then ch4 g' b (fc ds w) else some (.bl false, w) := rfl
def ch2 (g g' : D → D → Option D) (a : D) (fc : Ev) (ds : List Sl) : Option (D × Wd) → Option (D × Wd)
  | some (b, w2) => ch3 g' b fc ds w2 (g a b)
  | none => none
@[simp] theorem ch2.on (g g' : D → D → Option D) (a : D) (fc : Ev) (ds : List Sl)  (b : D) (w2 : Wd) : ch2 g g' a fc ds (some (b, w2)) = ch3 g' b fc ds w2 (g a b) := rfl
def ch1 (g g' : D → D → Option D) (fb fc : Ev) (ds : List Sl) : Option (D × Wd) → Option (D × Wd)
  | some (a, w1) => ch2 g g' a fc ds (fb ds w1)
  | none => none
@[simp] theorem ch1.on (g g' : D → D → Option D) (fb fc : Ev) (ds : List Sl)  (a : D) (w1 : Wd) : ch1 g g' fb fc ds (some (a, w1)) = ch2 g g' a fc ds (fb ds w1) := rfl
@[simp] theorem eChain.ap (g g' : D → D → Option D) (fa fb fc : Ev) (ds : List Sl) (w : Wd) : eChain g g' fa fb fc ds w = ch1 g g' fb fc ds (fa ds w) := by
  unfold eChain
  rcases fa ds w with _ | ⟨a, w1⟩
  · rfl
  · show (fb ds w1).bind _ = ch2 g g' a fc ds (fb ds w1)
    rcases fb ds w1 with _ | ⟨b, w2⟩
    · rfl
    · show (match g a b with | some (.bl true) => _ | some (.bl false) => _ | _ => none) = ch3 g' b fc ds w2 (g a b)
      rcases g a b with _ | d
      · rfl
      · cases d <;> try rfl
        rename_i p
        cases p
        · rfl
        · show (fc ds w2).bind _ = ch4 g' b (fc ds w2)
          rcases fc ds w2 with _ | ⟨c, w3⟩
          · rfl
          · show (g' b c).bind _ = vD w3 (g' b c)
            rcases g' b c with _ | d <;> rfl
def ta1 (b : Et) (ds : List Sl) : Option (Bool × Wd) → Option (Bool × Wd)
  | some (p, w1) => if p = true then b ds w1 else some (false, w1)
  | none => none
@[simp] theorem ta1.on (b : Et) (ds : List Sl)  (p : Bool) (w1 : Wd) : ta1 b ds (some (p, w1)) = if p = true then b ds w1 else some (false, w1) := rfl
@[simp] theorem tAndJ.ap (a b : Et) (ds : List Sl) (w : Wd) : tAndJ a b ds w = ta1 b ds (a ds w) := by
  unfold tAndJ
  rcases a ds w with _ | ⟨x, y⟩ <;> rfl
def to1 (b : Et) (ds : List Sl) : Option (Bool × Wd) → Option (Bool × Wd)
  | some (p, w1) => if p = true then some (true, w1) else b ds w1
  | none => none
@[simp] theorem to1.on (b : Et) (ds : List Sl)  (p : Bool) (w1 : Wd) : to1 b ds (some (p, w1)) = if p = true then some (true, w1) else b ds w1 := rfl
@[simp] theorem tOrJ.ap (a b : Et) (ds : List Sl) (w : Wd) : tOrJ a b ds w = to1 b ds (a ds w) := by
  unfold tOrJ
  rcases a ds w with _ | ⟨x, y⟩ <;> rfl
def tn1  : Option (Bool × Wd) → Option (Bool × Wd)
  | some (p, w1) => some (!p, w1)
  | none => none
@[simp] theorem tn1.on   (p : Bool) (w1 : Wd) : tn1  (some (p, w1)) = some (!p, w1) := rfl
@[simp] theorem tNotJ.ap (a : Et) (ds : List Sl) (w : Wd) : tNotJ a ds w = tn1 (a ds w) := by
  unfold tNotJ
  rcases a ds w with _ | ⟨x, y⟩ <;> rfl
def ea1 (b : Ev) (ds : List Sl) : Option (D × Wd) → Option (D × Wd)
  | some (.bl p, w1) => if p = true then b ds w1 else some (.bl false, w1)
  | _ => none
@[simp] theorem ea1.on (b : Ev) (ds : List Sl) (p : Bool) (w1 : Wd) : ea1 b ds (some (.bl p, w1)) = if p = true then b ds w1 else some (.bl false, w1) := rfl
@[simp] theorem eAnd.ap (a b : Ev) (ds : List Sl) (w : Wd) : eAnd a b ds w = ea1 b ds (a ds w) := by
  unfold eAnd
  rcases a ds w with _ | ⟨x, y⟩
  · rfl
  · cases x <;> try rfl
    rename_i p
    cases p <;> rfl
def eo1 (b : Ev) (ds : List Sl) : Option (D × Wd) → Option (D × Wd)
  | some (.bl p, w1) => if p = true then some (.bl true, w1) else b ds w1
  | _ => none
@[simp] theorem eo1.on (b : Ev) (ds : List Sl) (p : Bool) (w1 : Wd) : eo1 b ds (some (.bl p, w1)) = if p = true then some (.bl true, w1) else b ds w1 := rfl
@[simp] theorem eOr.ap (a b : Ev) (ds : List Sl) (w : Wd) : eOr a b ds w = eo1 b ds (a ds w) := by
  unfold eOr
  rcases a ds w with _ | ⟨x, y⟩
  · rfl
  · cases x <;> try rfl
    rename_i p
    cases p <;> rfl
def en1 : Option (D × Wd) → Option (D × Wd)
  | some (.bl p, w1) => some (.bl (!p), w1)
  | _ => none
@[simp] theorem en1.on (p : Bool) (w1 : Wd) : en1 (some (.bl p, w1)) = some (.bl (!p), w1) := rfl
@[simp] theorem eNot.ap (a : Ev) (ds : List Sl) (w : Wd) : eNot a ds w = en1 (a ds w) := by
  unfold eNot
  rcases a ds w with _ | ⟨x, y⟩
  · rfl
  · cases x <;> rfl
def eg1 : Option (D × Wd) → Option (D × Wd)
  | some (.int i, w1) => some (.int (-i), w1)
  | _ => none
@[simp] theorem eg1.on (i : Int) (w1 : Wd) : eg1 (some (.int i, w1)) = some (.int (-i), w1) := rfl
@[simp] theorem eNeg.ap (a : Ev) (ds : List Sl) (w : Wd) : eNeg a ds w = eg1 (a ds w) := by
  unfold eNeg
  rcases a ds w with _ | ⟨x, y⟩
  · rfl
  · cases x <;> rfl
def os1 : Option (D × Wd) → Option (Option Int × Wd)
  | some (.int i, w1) => some (some i, w1)
  | _ => none
@[simp] theorem os1.on (i : Int) (w1 : Wd) : os1 (some (.int i, w1)) = some (some i, w1) := rfl
@[simp] theorem oSo.ap (a : Ev) (ds : List Sl) (w : Wd) : oSo a ds w = os1 (a ds w) := by
  unfold oSo
  rcases a ds w with _ | ⟨x, y⟩
  · rfl
  · cases x <;> rfl
@[simp] theorem oNo.ap (ds : List Sl) (w : Wd) : oNo ds w = some (none, w) := rfl
def if1 {α : Type} (a b : List Sl → Wd → Option α) (ds : List Sl) : Option (Bool × Wd) → Option α
  | some (p, w1) => if p = true then a ds w1 else b ds w1
  | none => none
@[simp] theorem if1.on {α : Type} (a b : List Sl → Wd → Option α) (ds : List Sl) (p : Bool) (w1 : Wd) : if1 a b ds (some (p, w1)) = if p = true then a ds w1 else b ds w1 := rfl
@[simp] theorem eIf.ap (t : Et) (a b : Ev) (ds : List Sl) (w : Wd) : eIf t a b ds w = if1 a b ds (t ds w) := by
  unfold eIf
  rcases t ds w with _ | ⟨x, y⟩ <;> rfl
@[simp] theorem sIf.ap (t : Et) (a b : Es) (ds : List Sl) (w : Wd) : sIf t a b ds w = if1 a b ds (t ds w) := by
  unfold sIf
  rcases t ds w with _ | ⟨x, y⟩ <;> rfl
@[simp] theorem aNil.ap (ds : List Sl) (w : Wd) : aNil ds w = some ([], w) := rfl
def ac2 (a : D) : Option (List D × Wd) → Option (List D × Wd)
  | some (xs, w2) => some (a :: xs, w2)
  | none => none
@[simp] theorem ac2.on (a : D)  (xs : List D) (w2 : Wd) : ac2 a (some (xs, w2)) = some (a :: xs, w2) := rfl
def ac1 (g : Ef) (ds : List Sl) : Option (D × Wd) → Option (List D × Wd)
  | some (a, w1) => ac2 a (g ds w1)
  | none => none
@[simp] theorem ac1.on (g : Ef) (ds : List Sl)  (a : D) (w1 : Wd) : ac1 g ds (some (a, w1)) = ac2 a (g ds w1) := rfl
@[simp] theorem aCons.ap (f : Ev) (g : Ef) (ds : List Sl) (w : Wd) : aCons f g ds w = ac1 g ds (f ds w) := by
  unfold aCons
  rcases f ds w with _ | ⟨a, w1⟩
  · rfl
  · show (g ds w1).bind _ = ac2 a (g ds w1)
    rcases g ds w1 with _ | ⟨b, w2⟩ <;> rfl
def st2 : D → Option (List D × Wd) → Option (List D × Wd)
  | .lst xs, some (ys, w2) => some (xs ++ ys, w2)
  | .tup xs, some (ys, w2) => some (xs ++ ys, w2)
  | _, _ => none
@[simp] theorem st2.on1 (xs ys : List D) (w2 : Wd) : st2 (.lst xs) (some (ys, w2)) = some (xs ++ ys, w2) := rfl
@[simp] theorem st2.on2 (xs ys : List D) (w2 : Wd) : st2 (.tup xs) (some (ys, w2)) = some (xs ++ ys, w2) := rfl
def st1 (g : Ef) (ds : List Sl) : Option (D × Wd) → Option (List D × Wd)
  | some (a, w1) => st2 a (g ds w1)
  | none => none
@[simp] theorem st1.on (g : Ef) (ds : List Sl)  (a : D) (w1 : Wd) : st1 g ds (some (a, w1)) = st2 a (g ds w1) := rfl
@[simp] theorem aStar.ap (f : Ev) (g : Ef) (ds : List Sl) (w : Wd) : aStar f g ds w = st1 g ds (f ds w) := by
  unfold aStar
  rcases f ds w with _ | ⟨a, w1⟩
  · rfl
  · show (g ds w1).bind _ = st2 a (g ds w1)
    rcases g ds w1 with _ | ⟨b, w2⟩ <;> cases a <;> rfl
def tp1  : Option (List D × Wd) → Option (D × Wd)
  | some (xs, w1) => if xs.length ≤ line then some (.tup xs, w1) else none
  | none => none
@[simp] theorem tp1.on   (xs : List D) (w1 : Wd) : tp1  (some (xs, w1)) = if xs.length ≤ line then some (.tup xs, w1) else none := rfl
@[simp] theorem eTup.ap (f : Ef) (ds : List Sl) (w : Wd) : eTup f ds w = tp1 (f ds w) := by
  unfold eTup
  rcases f ds w with _ | ⟨a, w1⟩ <;> rfl
def ls1  : Option (List D × Wd) → Option (List D × Wd)
  | some (xs, w1) => if xs.length ≤ line then some (xs, w1) else none
  | none => none
@[simp] theorem ls1.on   (xs : List D) (w1 : Wd) : ls1  (some (xs, w1)) = if xs.length ≤ line then some (xs, w1) else none := rfl
@[simp] theorem fLst.ap (f : Ef) (ds : List Sl) (w : Wd) : fLst f ds w = ls1 (f ds w) := by
  unfold fLst
  rcases f ds w with _ | ⟨a, w1⟩ <;> rfl
def sl3 : D → Option Int → Option (Option Int × Wd) → Option (List D × Wd)
  | .lst xs, lo, some (hi, w) => some (cutD xs lo hi, w)
  | _, _, _ => none
@[simp] theorem sl3.on (xs : List D) (lo hi : Option Int) (w : Wd) : sl3 (.lst xs) lo (some (hi, w)) = some (cutD xs lo hi, w) := rfl
def sl2 (a : D) (h : Eo) (ds : List Sl) : Option (Option Int × Wd) → Option (List D × Wd)
  | some (lo, w) => sl3 a lo (h ds w)
  | none => none
@[simp] theorem sl2.on (a : D) (h : Eo) (ds : List Sl) (lo : Option Int) (w : Wd) : sl2 a h ds (some (lo, w)) = sl3 a lo (h ds w) := rfl
def sl1 (l h : Eo) (ds : List Sl) : Option (D × Wd) → Option (List D × Wd)
  | some (a, w1) => sl2 a h ds (l ds w1)
  | none => none
@[simp] theorem sl1.on (l h : Eo) (ds : List Sl)  (a : D) (w1 : Wd) : sl1 l h ds (some (a, w1)) = sl2 a h ds (l ds w1) := rfl
@[simp] theorem fSl.ap (f : Ev) (l h : Eo) (ds : List Sl) (w : Wd) : fSl f l h ds w = sl1 l h ds (f ds w) := by
  unfold fSl
  rcases f ds w with _ | ⟨a, w1⟩
  · rfl
  · show (l ds w1).bind _ = sl2 a h ds (l ds w1)
    rcases l ds w1 with _ | ⟨b, w2⟩
    · rfl
    · show (h ds w2).bind _ = sl3 a b (h ds w2)
      rcases h ds w2 with _ | ⟨c, w3⟩ <;> cases a <;> rfl
def su3 : D → Option Int → Option (Option Int × Wd) → Option (D × Wd)
  | .tup xs, lo, some (hi, w) => some (.tup (cutD xs lo hi), w)
  | _, _, _ => none
@[simp] theorem su3.on (xs : List D) (lo hi : Option Int) (w : Wd) : su3 (.tup xs) lo (some (hi, w)) = some (.tup (cutD xs lo hi), w) := rfl
def su2 (a : D) (h : Eo) (ds : List Sl) : Option (Option Int × Wd) → Option (D × Wd)
  | some (lo, w) => su3 a lo (h ds w)
  | none => none
@[simp] theorem su2.on (a : D) (h : Eo) (ds : List Sl) (lo : Option Int) (w : Wd) : su2 a h ds (some (lo, w)) = su3 a lo (h ds w) := rfl
def su1 (l h : Eo) (ds : List Sl) : Option (D × Wd) → Option (D × Wd)
  | some (a, w1) => su2 a h ds (l ds w1)
  | none => none
@[simp] theorem su1.on (l h : Eo) (ds : List Sl)  (a : D) (w1 : Wd) : su1 l h ds (some (a, w1)) = su2 a h ds (l ds w1) := rfl
@[simp] theorem eSlT.ap (f : Ev) (l h : Eo) (ds : List Sl) (w : Wd) : eSlT f l h ds w = su1 l h ds (f ds w) := by
  unfold eSlT
  rcases f ds w with _ | ⟨a, w1⟩
  · rfl
  · show (l ds w1).bind _ = su2 a h ds (l ds w1)
    rcases l ds w1 with _ | ⟨b, w2⟩
    · rfl
    · show (h ds w2).bind _ = su3 a b (h ds w2)
      rcases h ds w2 with _ | ⟨c, w3⟩ <;> cases a <;> rfl
def rv1 : Option (D × Wd) → Option (List D × Wd)
  | some (.lst xs, w1) => some (xs.reverse, w1)
  | _ => none
@[simp] theorem rv1.on0 (xs : List D) (w1 : Wd) : rv1 (some (.lst xs, w1)) = some (xs.reverse, w1) := rfl
@[simp] theorem fRev.ap (f : Ev) (ds : List Sl) (w : Wd) : fRev f ds w = rv1 (f ds w) := by
  unfold fRev
  rcases f ds w with _ | ⟨x, y⟩
  · rfl
  · cases x <;> rfl
def it1 : Option (D × Wd) → Option (List D × Wd)
  | some (.lst xs, w1) => some (xs, w1)
  | some (.tup xs, w1) => some (xs, w1)
  | _ => none
@[simp] theorem it1.on0 (xs : List D) (w1 : Wd) : it1 (some (.lst xs, w1)) = some (xs, w1) := rfl
@[simp] theorem it1.on1 (xs : List D) (w1 : Wd) : it1 (some (.tup xs, w1)) = some (xs, w1) := rfl
@[simp] theorem iItems.ap (f : Ev) (ds : List Sl) (w : Wd) : iItems f ds w = it1 (f ds w) := by
  unfold iItems
  rcases f ds w with _ | ⟨x, y⟩
  · rfl
  · cases x <;> rfl
def ie1 : Option (List D × Wd) → Option (List D × Wd)
  | some ([.lst xs], w1) => some (enumD 0 xs, w1)
  | some ([.tup xs], w1) => some (enumD 0 xs, w1)
  | _ => none
@[simp] theorem ie1.on0 (xs : List D) (w1 : Wd) : ie1 (some ([.lst xs], w1)) = some (enumD 0 xs, w1) := rfl
@[simp] theorem ie1.on1 (xs : List D) (w1 : Wd) : ie1 (some ([.tup xs], w1)) = some (enumD 0 xs, w1) := rfl
@[simp] theorem iEnumJ.ap (f : Ef) (ds : List Sl) (w : Wd) : iEnumJ f ds w = ie1 (f ds w) := by
  unfold iEnumJ
  rcases f ds w with _ | ⟨x, y⟩
  · rfl
  · unfold ie1
    dsimp only [Option.bind_some]
    split <;> first | rfl | (rename_i h1 h2; split <;> first | rfl | (exfalso; simp_all))
def iz1 : Option (List D × Wd) → Option (List D × Wd)
  | some ([.lst xs, .lst ys], w1) => some (zipD xs ys, w1)
  | some ([.tup xs, .tup ys], w1) => some (zipD xs ys, w1)
  | _ => none
@[simp] theorem iz1.on0 (xs ys : List D) (w1 : Wd) : iz1 (some ([.lst xs, .lst ys], w1)) = some (zipD xs ys, w1) := rfl
@[simp] theorem iz1.on1 (xs ys : List D) (w1 : Wd) : iz1 (some ([.tup xs, .tup ys], w1)) = some (zipD xs ys, w1) := rfl
@[simp] theorem iZipJ.ap (f : Ef) (ds : List Sl) (w : Wd) : iZipJ f ds w = iz1 (f ds w) := by
  unfold iZipJ
  rcases f ds w with _ | ⟨x, y⟩
  · rfl
  · unfold iz1
    dsimp only [Option.bind_some]
    split <;> first | rfl | (rename_i h1 h2; split <;> first | rfl | (exfalso; simp_all))
def ca1 (g : List D → Option D) : Option (List D × Wd) → Option (D × Wd)
  | some (xs, w1) => vD w1 (g xs)
  | none => none
@[simp] theorem ca1.on (g : List D → Option D)  (xs : List D) (w1 : Wd) : ca1 g (some (xs, w1)) = vD w1 (g xs) := rfl
@[simp] theorem eCal.ap (g : List D → Option D) (f : Ef) (ds : List Sl) (w : Wd) : eCal g f ds w = ca1 g (f ds w) := by
  unfold eCal
  rcases f ds w with _ | ⟨a, w1⟩
  · rfl
  · show (g a).bind _ = vD w1 (g a)
    rcases g a with _ | b <;> rfl
def cl1 (g : List D → Option (List D)) : Option (List D × Wd) → Option (List D × Wd)
  | some (xs, w1) => vLs w1 (g xs)
  | none => none
@[simp] theorem cl1.on (g : List D → Option (List D))  (xs : List D) (w1 : Wd) : cl1 g (some (xs, w1)) = vLs w1 (g xs) := rfl
@[simp] theorem fCal.ap (g : List D → Option (List D)) (f : Ef) (ds : List Sl) (w : Wd) : fCal g f ds w = cl1 g (f ds w) := by
  unfold fCal
  rcases f ds w with _ | ⟨a, w1⟩
  · rfl
  · show (g a).bind _ = vLs w1 (g a)
    rcases g a with _ | b <;> rfl
@[simp] theorem eLen.ap (f : Ef) (ds : List Sl) (w : Wd) : eLen f ds w = ca1 gLen (f ds w) := eCal.ap gLen f ds w
@[simp] theorem eMin.ap (f : Ef) (ds : List Sl) (w : Wd) : eMin f ds w = ca1 gMin (f ds w) := eCal.ap gMin f ds w
@[simp] theorem eMax.ap (f : Ef) (ds : List Sl) (w : Wd) : eMax f ds w = ca1 gMax (f ds w) := eCal.ap gMax f ds w
@[simp] theorem eInt.ap (f : Ef) (ds : List Sl) (w : Wd) : eInt f ds w = ca1 gInt (f ds w) := eCal.ap gInt f ds w
@[simp] theorem eSum.ap (f : Ef) (ds : List Sl) (w : Wd) : eSum f ds w = ca1 gSum (f ds w) := eCal.ap gSum f ds w
@[simp] theorem eAll.ap (f : Ef) (ds : List Sl) (w : Wd) : eAll f ds w = ca1 gAll (f ds w) := eCal.ap gAll f ds w
@[simp] theorem eAny.ap (f : Ef) (ds : List Sl) (w : Wd) : eAny f ds w = ca1 gAny (f ds w) := eCal.ap gAny f ds w
@[simp] theorem eTuple.ap (f : Ef) (ds : List Sl) (w : Wd) : eTuple f ds w = ca1 gTuple (f ds w) := eCal.ap gTuple f ds w
@[simp] theorem eIsi.ap (f : Ef) (ds : List Sl) (w : Wd) : eIsi f ds w = ca1 gIsi (f ds w) := eCal.ap gIsi f ds w
@[simp] theorem fList.ap (f : Ef) (ds : List Sl) (w : Wd) : fList f ds w = cl1 gfList (f ds w) := fCal.ap gfList f ds w
@[simp] theorem fSorted.ap (f : Ef) (ds : List Sl) (w : Wd) : fSorted f ds w = cl1 gfSorted (f ds w) := fCal.ap gfSorted f ds w
def rgF (a b c : D) (w : Wd) : Option (List D × Wd) := match a, b, c with
  | .int i, .int j, .int k => if small2 i j k then some (rgD i k (rgN i j k), w) else none
  | _, _, _ => none
@[simp] theorem rgF.on (i j k : Int) (w : Wd) : rgF (.int i) (.int j) (.int k) w = if small2 i j k then some (rgD i k (rgN i j k), w) else none := rfl
def rg3 (a b : D) : Option (D × Wd) → Option (List D × Wd)
  | some (c, w3) => rgF a b c w3
  | none => none
@[simp] theorem rg3.on (a b : D)  (c : D) (w3 : Wd) : rg3 a b (some (c, w3)) = rgF a b c w3 := rfl
def rg2 (a : D) (fc : Ev) (ds : List Sl) : Option (D × Wd) → Option (List D × Wd)
  | some (b, w2) => rg3 a b (fc ds w2)
  | none => none
@[simp] theorem rg2.on (a : D) (fc : Ev) (ds : List Sl)  (b : D) (w2 : Wd) : rg2 a fc ds (some (b, w2)) = rg3 a b (fc ds w2) := rfl
def rg1 (fb fc : Ev) (ds : List Sl) : Option (D × Wd) → Option (List D × Wd)
  | some (a, w1) => rg2 a fc ds (fb ds w1)
  | none => none
@[simp] theorem rg1.on (fb fc : Ev) (ds : List Sl)  (a : D) (w1 : Wd) : rg1 fb fc ds (some (a, w1)) = rg2 a fc ds (fb ds w1) := rfl
@[simp] theorem fRg.ap (fa fb fc : Ev) (ds : List Sl) (w : Wd) : fRg fa fb fc ds w = rg1 fb fc ds (fa ds w) := by
  unfold fRg
  rcases fa ds w with _ | ⟨a, w1⟩
  · rfl
  · show (fb ds w1).bind _ = rg2 a fc ds (fb ds w1)
    rcases fb ds w1 with _ | ⟨b, w2⟩
    · rfl
    · show (fc ds w2).bind _ = rg3 a b (fc ds w2)
      rcases fc ds w2 with _ | ⟨c, w3⟩ <;> rfl
def irF (a b : D) (w : Wd) : Option (List D × Wd) := match a, b with
  | .int i, .int j => if -(2 ^ 62) ≤ i ∧ i < 2 ^ 62 ∧ -(2 ^ 62) ≤ j ∧ j < 2 ^ 62 then some (rgD i 1 (j - i).toNat, w) else none
  | _, _ => none
theorem irF.on (i j : Int) (w : Wd) (h : -(2 ^ 62) ≤ i ∧ i < 2 ^ 62 ∧ -(2 ^ 62) ≤ j ∧ j < 2 ^ 62) : irF (.int i) (.int j) w = some (rgD i 1 (j - i).toNat, w) := if_pos h
def ir2 (a : D) : Option (D × Wd) → Option (List D × Wd)
  | some (b, w2) => irF a b w2
  | none => none
@[simp] theorem ir2.on (a : D)  (b : D) (w2 : Wd) : ir2 a (some (b, w2)) = irF a b w2 := rfl
def ir1 (fb : Ev) (ds : List Sl) : Option (D × Wd) → Option (List D × Wd)
  | some (a, w1) => ir2 a (fb ds w1)
  | none => none
@[simp] theorem ir1.on (fb : Ev) (ds : List Sl)  (a : D) (w1 : Wd) : ir1 fb ds (some (a, w1)) = ir2 a (fb ds w1) := rfl
@[simp] theorem iRg.ap (fa fb : Ev) (ds : List Sl) (w : Wd) : iRg fa fb ds w = ir1 fb ds (fa ds w) := by
  unfold iRg
  rcases fa ds w with _ | ⟨a, w1⟩
  · rfl
  · show (fb ds w1).bind _ = ir2 a (fb ds w1)
    rcases fb ds w1 with _ | ⟨b, w2⟩ <;> rfl
def isi3 (w : Wd) : Option Bool → Option Bool → Option (D × Wd)
  | some p, some q => some (.bl (p || q), w)
  | _, _ => none
@[simp] theorem isi3.on (w : Wd) (p q : Bool) : isi3 w (some p) (some q) = some (.bl (p || q), w) := rfl
def isi1 (n m : String) : Option (D × Wd) → Option (D × Wd)
  | some (a, w1) => isi3 w1 (isiD a n) (isiD a m)
  | none => none
@[simp] theorem isi1.on (n m : String)  (a : D) (w1 : Wd) : isi1 n m (some (a, w1)) = isi3 w1 (isiD a n) (isiD a m) := rfl
@[simp] theorem eIsi2.ap (f : Ev) (n m : String) (ds : List Sl) (w : Wd) : eIsi2 f n m ds w = isi1 n m (f ds w) := by
  unfold eIsi2
  rcases f ds w with _ | ⟨a, w1⟩
  · rfl
  · show (isiD a n).bind _ = isi3 w1 (isiD a n) (isiD a m)
    rcases isiD a n with _ | b <;> rcases isiD a m with _ | c <;> rfl
@[simp] theorem gN.ap (i : Nat) (ds : List Sl) (d : D) : gN i ds d = some (ds.set i (.d d)) := rfl
@[simp] theorem gsNil.ap (ds : List Sl) : gsNil ds [] = some ds := rfl
def gs1 (h : Egs) (r : List D) : Option (List Sl) → Option (List Sl)
  | some ds1 => h ds1 r
  | none => none
@[simp] theorem gs1.on (h : Egs) (r : List D) (ds1 : List Sl) : gs1 h r (some ds1) = h ds1 r := rfl
@[simp] theorem gsCons.ap (g : Eg) (h : Egs) (ds : List Sl) (x : D) (r : List D) : gsCons g h ds (x :: r) = gs1 h r (g ds x) := by
  show (g ds x).bind _ = _
  rcases g ds x with _ | y <;> rfl
@[simp] theorem gT.ap (n : Nat) (h : Egs) (ds : List Sl) (xs : List D) : gT n h ds (.tup xs) = if xs.length = n then h ds xs else none := rfl
def lc2 : Option (List D × Wd) → Option (List D × Wd)
  | some (xs, w1) => if xs.length ≤ line then some (xs, w1) else none
  | none => none
@[simp] theorem lc2.on (xs : List D) (w1 : Wd) : lc2 (some (xs, w1)) = if xs.length ≤ line then some (xs, w1) else none := rfl
def lc1 (tg : Eg) (c : Et) (e : Ev) (ds : List Sl) : Option (List D × Wd) → Option (List D × Wd)
  | some (xs, w1) => lc2 (lcGo tg c e ds xs w1)
  | none => none
@[simp] theorem lc1.on (tg : Eg) (c : Et) (e : Ev) (ds : List Sl) (xs : List D) (w1 : Wd) : lc1 tg c e ds (some (xs, w1)) = lc2 (lcGo tg c e ds xs w1) := rfl
@[simp] theorem fLc.ap (src : Ef) (tg : Eg) (c : Et) (e : Ev) (vs : List Nat) (ds : List Sl) (w : Wd) : fLc src tg c e vs ds w = lc1 tg c e (wipeS ds vs) (src ds w) := by
  unfold fLc
  rcases src ds w with _ | ⟨xs, w1⟩
  · rfl
  · show (lcGo tg c e (wipeS ds vs) xs w1).bind _ = lc2 (lcGo tg c e (wipeS ds vs) xs w1)
    rcases lcGo tg c e (wipeS ds vs) xs w1 with _ | ⟨b, w2⟩ <;> rfl
@[simp] theorem wipeS_nil (ds : List Sl) : wipeS ds [] = ds := rfl
@[simp] theorem wipeS_cons (ds : List Sl) (v : Nat) (vs : List Nat) : wipeS ds (v :: vs) = (wipeS ds vs).set v .no := rfl
@[simp] theorem tYesJ.ap (ds : List Sl) (w : Wd) : tYesJ ds w = some (true, w) := rfl
@[simp] theorem sNil.ap (ds : List Sl) (w : Wd) : sNil ds w = some (.nx ds w) := rfl
@[simp] theorem sPass.ap (ds : List Sl) (w : Wd) : sPass ds w = some (.nx ds w) := rfl
@[simp] theorem sBk.ap (ds : List Sl) (w : Wd) : sBk ds w = some (.bk ds w) := rfl
@[simp] theorem sCt.ap (ds : List Sl) (w : Wd) : sCt ds w = some (.ct ds w) := rfl
def sq1 (g : Es) : Option Out → Option Out
  | some (.nx ds w) => g ds w
  | some (.rt d w) => some (.rt d w)
  | some (.bk ds w) => some (.bk ds w)
  | some (.ct ds w) => some (.ct ds w)
  | none => none
@[simp] theorem sq1.on1 (g : Es) (ds : List Sl) (w : Wd) : sq1 g (some (.nx ds w)) = g ds w := rfl
@[simp] theorem sq1.on2 (g : Es) (d : D) (w : Wd) : sq1 g (some (.rt d w)) = some (.rt d w) := rfl
@[simp] theorem sq1.on3 (g : Es) (ds : List Sl) (w : Wd) : sq1 g (some (.bk ds w)) = some (.bk ds w) := rfl
@[simp] theorem sq1.on4 (g : Es) (ds : List Sl) (w : Wd) : sq1 g (some (.ct ds w)) = some (.ct ds w) := rfl
@[simp] theorem sSeq.ap (f g : Es) (ds : List Sl) (w : Wd) : sSeq f g ds w = sq1 g (f ds w) := by
  unfold sSeq
  rcases f ds w with _ | o
  · rfl
  · cases o <;> rfl
def fz1 (i : Nat) (g : Es) (ds : List Sl) (w : Wd) : Option Sl → Option Out
  | some (.own xs) => g (ds.set i (.d (.lst xs))) w
  | _ => g ds w
@[simp] theorem fz1.on1 (i : Nat) (g : Es) (ds : List Sl) (w : Wd) (xs : List D) : fz1 i g ds w (some (.own xs)) = g (ds.set i (.d (.lst xs))) w := rfl
@[simp] theorem fz1.on2 (i : Nat) (g : Es) (ds : List Sl) (w : Wd) (x : D) : fz1 i g ds w (some (.d x)) = g ds w := rfl
@[simp] theorem fz1.on3 (i : Nat) (g : Es) (ds : List Sl) (w : Wd) : fz1 i g ds w (some .no) = g ds w := rfl
@[simp] theorem sFrz.ap (i : Nat) (g : Es) (ds : List Sl) (w : Wd) : sFrz i g ds w = fz1 i g ds w ds[i]? := by
  unfold sFrz fz1
  rcases ds[i]? with _ | s
  · rfl
  · cases s <;> rfl
def set1 (i : Nat) (ds : List Sl) : Option (D × Wd) → Option Out
  | some (d, w1) => some (.nx (ds.set i (.d d)) w1)
  | none => none
@[simp] theorem set1.on (i : Nat) (ds : List Sl) (d : D) (w1 : Wd) : set1 i ds (some (d, w1)) = some (.nx (ds.set i (.d d)) w1) := rfl
@[simp] theorem sSet.ap (i : Nat) (f : Ev) (ds : List Sl) (w : Wd) : sSet i f ds w = set1 i ds (f ds w) := by
  unfold sSet
  rcases f ds w with _ | ⟨d, w1⟩ <;> rfl
def set2 (i : Nat) (ds : List Sl) : Option (List D × Wd) → Option Out
  | some (d, w1) => some (.nx (ds.set i (.own d)) w1)
  | none => none
@[simp] theorem set2.on (i : Nat) (ds : List Sl) (d : List D) (w1 : Wd) : set2 i ds (some (d, w1)) = some (.nx (ds.set i (.own d)) w1) := rfl
@[simp] theorem sSetO.ap (i : Nat) (f : Ef) (ds : List Sl) (w : Wd) : sSetO i f ds w = set2 i ds (f ds w) := by
  unfold sSetO
  rcases f ds w with _ | ⟨d, w1⟩ <;> rfl
def rt1 : Option (D × Wd) → Option Out
  | some (d, w1) => some (.rt d w1)
  | none => none
@[simp] theorem rt1.on (d : D) (w1 : Wd) : rt1 (some (d, w1)) = some (.rt d w1) := rfl
@[simp] theorem sRet.ap (f : Ev) (ds : List Sl) (w : Wd) : sRet f ds w = rt1 (f ds w) := by
  unfold sRet
  rcases f ds w with _ | ⟨d, w1⟩ <;> rfl
def dr1 (ds : List Sl) : Option (D × Wd) → Option Out
  | some (_, w1) => some (.nx ds w1)
  | none => none
@[simp] theorem dr1.on (ds : List Sl) (d : D) (w1 : Wd) : dr1 ds (some (d, w1)) = some (.nx ds w1) := rfl
@[simp] theorem sDrop.ap (f : Ev) (ds : List Sl) (w : Wd) : sDrop f ds w = dr1 ds (f ds w) := by
  unfold sDrop
  rcases f ds w with _ | ⟨d, w1⟩ <;> rfl
def fo1 (tg : Eg) (body : Es) (ds : List Sl) : Option (List D × Wd) → Option Out
  | some (xs, w1) => forGo tg body xs ds w1
  | none => none
@[simp] theorem fo1.on (tg : Eg) (body : Es) (ds : List Sl) (xs : List D) (w1 : Wd) : fo1 tg body ds (some (xs, w1)) = forGo tg body xs ds w1 := rfl
@[simp] theorem sFor.ap (src : Ef) (tg : Eg) (body : Es) (ds : List Sl) (w : Wd) : sFor src tg body ds w = fo1 tg body ds (src ds w) := by
  unfold sFor
  rcases src ds w with _ | ⟨d, w1⟩ <;> rfl
def owT (ds : List Sl) (i : Nat) (f : List D → Option (List D)) : Option Sl → Option (List Sl)
  | some (.own xs) => (f xs).bind fun ys => some (ds.set i (.own ys))
  | some (.mu k xs) => (f xs).bind fun ys => some (ds.set i (.mu k ys))
  | _ => none
def nx1 (w : Wd) : Option (List Sl) → Option Out
  | some ds => some (.nx ds w)
  | none => none
@[simp] theorem nx1.on (w : Wd) (ds : List Sl) : nx1 w (some ds) = some (.nx ds w) := rfl
def stO (ds : List Sl) (i : Nat) : Option (List D) → Option (List Sl)
  | some xs => some (ds.set i (.own xs))
  | none => none
@[simp] theorem stO.on (ds : List Sl) (i : Nat) (xs : List D) : stO ds i (some xs) = some (ds.set i (.own xs)) := rfl
def stM (ds : List Sl) (i k : Nat) : Option (List D) → Option (List Sl)
  | some xs => some (ds.set i (.mu k xs))
  | none => none
@[simp] theorem stM.on (ds : List Sl) (i k : Nat) (xs : List D) : stM ds i k (some xs) = some (ds.set i (.mu k xs)) := rfl
def apO (ds : List Sl) (i : Nat) (d : D) : Option Sl → Option (List Sl)
  | some (.own xs) => stO ds i (if xs.length < line then some (xs ++ [d]) else none)
  | some (.mu k xs) => stM ds i k (if xs.length < line then some (xs ++ [d]) else none)
  | _ => none
@[simp] theorem apO.on1 (ds : List Sl) (i : Nat) (d : D) (xs : List D) : apO ds i d (some (.own xs)) = stO ds i (if xs.length < line then some (xs ++ [d]) else none) := rfl
@[simp] theorem apO.on2 (ds : List Sl) (i : Nat) (d : D) (k : Nat) (xs : List D) : apO ds i d (some (.mu k xs)) = stM ds i k (if xs.length < line then some (xs ++ [d]) else none) := rfl
def ap1 (i : Nat) (ds : List Sl) : Option (D × Wd) → Option Out
  | some (d, w1) => nx1 w1 (apO ds i d ds[i]?)
  | none => none
@[simp] theorem ap1.on (i : Nat) (ds : List Sl) (d : D) (w1 : Wd) : ap1 i ds (some (d, w1)) = nx1 w1 (apO ds i d ds[i]?) := rfl
theorem ownTo_eq (ds : List Sl) (i : Nat) (d : D) : (ownTo ds i fun xs => if xs.length < line then some (xs ++ [d]) else none) = apO ds i d ds[i]? := by
  unfold ownTo apO
  rcases ds[i]? with _ | s
  · rfl
  · cases s <;> try rfl
    · rename_i xs
      dsimp only
      by_cases h : xs.length < line
      · rw [if_pos h]; rfl
      · rw [if_neg h]; rfl
    · rename_i k xs
      dsimp only
      by_cases h : xs.length < line
      · rw [if_pos h]; rfl
      · rw [if_neg h]; rfl
@[simp] theorem sApp.ap (i : Nat) (f : Ev) (ds : List Sl) (w : Wd) : sApp i f ds w = ap1 i ds (f ds w) := by
  unfold sApp
  rcases f ds w with _ | ⟨d, w1⟩
  · rfl
  · show (ownTo ds i fun xs => if xs.length < line then some (xs ++ [d]) else none).bind _ = nx1 w1 (apO ds i d ds[i]?)
    rw [ownTo_eq]
    rcases apO ds i d ds[i]? with _ | y <;> rfl
def gn1 (w : Wd) : Option (List Sl) → Option (List Sl × Wd)
  | some ds => some (ds, w)
  | none => none
@[simp] theorem gn1.on (w : Wd) (ds : List Sl) : gn1 w (some ds) = some (ds, w) := rfl
@[simp] theorem goN.ap (g : Eg) (ds : List Sl) (w : Wd) (d : D) : goN g ds w d = gn1 w (g ds d) := by
  unfold goN
  rcases g ds d with _ | y <;> rfl
def putI (xs : List D) (d : D) : Option Nat → Option (List D)
  | some j => some (xs.set j d)
  | none => none
@[simp] theorem putI.on (xs : List D) (d : D) (j : Nat) : putI xs d (some j) = some (xs.set j d) := rfl
def suO (ds : List Sl) (i : Nat) (k : Int) (d : D) : Option Sl → Option (List Sl)
  | some (.own xs) => stO ds i (putI xs d (ixN xs.length k))
  | some (.mu m xs) => stM ds i m (putI xs d (ixN xs.length k))
  | _ => none
@[simp] theorem suO.on1 (ds : List Sl) (i : Nat) (k : Int) (d : D) (xs : List D) : suO ds i k d (some (.own xs)) = stO ds i (putI xs d (ixN xs.length k)) := rfl
@[simp] theorem suO.on2 (ds : List Sl) (i : Nat) (k : Int) (d : D) (m : Nat) (xs : List D) : suO ds i k d (some (.mu m xs)) = stM ds i m (putI xs d (ixN xs.length k)) := rfl
def sb1 (i : Nat) (ds : List Sl) (d : D) : Option (D × Wd) → Option (List Sl × Wd)
  | some (.int k, w1) => gn1 w1 (suO ds i k d ds[i]?)
  | _ => none
@[simp] theorem sb1.on (i : Nat) (ds : List Sl) (d : D) (k : Int) (w1 : Wd) : sb1 i ds d (some (.int k, w1)) = gn1 w1 (suO ds i k d ds[i]?) := rfl
theorem ownTo_eq2 (ds : List Sl) (i : Nat) (k : Int) (d : D) : (ownTo ds i fun xs => (ixN xs.length k).bind fun j => some (xs.set j d)) = suO ds i k d ds[i]? := by
  unfold ownTo suO
  rcases ds[i]? with _ | s
  · rfl
  · cases s <;> try rfl
    · rename_i xs
      dsimp only
      rcases ixN xs.length k with _ | j <;> rfl
    · rename_i m xs
      dsimp only
      rcases ixN xs.length k with _ | j <;> rfl
@[simp] theorem goSub.ap (i : Nat) (f : Ev) (ds : List Sl) (w : Wd) (d : D) : goSub i f ds w d = sb1 i ds d (f ds w) := by
  unfold goSub
  rcases f ds w with _ | ⟨x, w1⟩
  · rfl
  · cases x <;> try rfl
    rename_i k
    show (ownTo ds i fun xs => (ixN xs.length k).bind fun j => some (xs.set j d)).bind _ = gn1 w1 (suO ds i k d ds[i]?)
    rw [ownTo_eq2]
    rcases suO ds i k d ds[i]? with _ | y <;> rfl
@[simp] theorem gosNil.ap (ds : List Sl) (w : Wd) : gosNil ds w [] = some (ds, w) := rfl
def go1 (h : EgsO) (r : List D) : Option (List Sl × Wd) → Option (List Sl × Wd)
  | some (ds1, w1) => h ds1 w1 r
  | none => none
@[simp] theorem go1.on (h : EgsO) (r : List D) (ds1 : List Sl) (w1 : Wd) : go1 h r (some (ds1, w1)) = h ds1 w1 r := rfl
@[simp] theorem gosCons.ap (g : EgO) (h : EgsO) (ds : List Sl) (w : Wd) (x : D) (r : List D) : gosCons g h ds w (x :: r) = go1 h r (g ds w x) := by
  show (g ds w x).bind _ = _
  rcases g ds w x with _ | ⟨y, z⟩ <;> rfl
@[simp] theorem goT.ap (n : Nat) (h : EgsO) (ds : List Sl) (w : Wd) (xs : List D) : goT n h ds w (.tup xs) = if xs.length = n then h ds w xs else none := rfl
def ag2 : Option (List Sl × Wd) → Option Out
  | some (ds, w) => some (.nx ds w)
  | none => none
@[simp] theorem ag2.on (ds : List Sl) (w : Wd) : ag2 (some (ds, w)) = some (.nx ds w) := rfl
def ag1 (g : EgO) (ds : List Sl) : Option (D × Wd) → Option Out
  | some (d, w1) => ag2 (g ds w1 d)
  | none => none
@[simp] theorem ag1.on (g : EgO) (ds : List Sl) (d : D) (w1 : Wd) : ag1 g ds (some (d, w1)) = ag2 (g ds w1 d) := rfl
@[simp] theorem sAsg.ap (f : Ev) (g : EgO) (ds : List Sl) (w : Wd) : sAsg f g ds w = ag1 g ds (f ds w) := by
  unfold sAsg
  rcases f ds w with _ | ⟨d, w1⟩
  · rfl
  · show (g ds w1 d).bind _ = ag2 (g ds w1 d)
    rcases g ds w1 d with _ | ⟨y, z⟩ <;> rfl
@[simp] theorem pNil.ap (ds : List Sl) (w : Wd) : pNil ds w = some ([], w) := rfl
def pc2 (u : Sl) : Option (List Sl × Wd) → Option (List Sl × Wd)
  | some (ts, w) => some (u :: ts, w)
  | none => none
@[simp] theorem pc2.on (u : Sl) (ts : List Sl) (w : Wd) : pc2 u (some (ts, w)) = some (u :: ts, w) := rfl
def pd1 (g : Ep) (ds : List Sl) : Option (D × Wd) → Option (List Sl × Wd)
  | some (d, w1) => pc2 (.d d) (g ds w1)
  | none => none
@[simp] theorem pd1.on (g : Ep) (ds : List Sl) (d : D) (w1 : Wd) : pd1 g ds (some (d, w1)) = pc2 (.d d) (g ds w1) := rfl
@[simp] theorem pD.ap (f : Ev) (g : Ep) (ds : List Sl) (w : Wd) : pD f g ds w = pd1 g ds (f ds w) := by
  unfold pD
  rcases f ds w with _ | ⟨d, w1⟩
  · rfl
  · show (g ds w1).bind _ = pc2 (.d d) (g ds w1)
    rcases g ds w1 with _ | ⟨y, z⟩ <;> rfl
def po1 (g : Ep) (ds : List Sl) : Option (List D × Wd) → Option (List Sl × Wd)
  | some (d, w1) => pc2 (.own d) (g ds w1)
  | none => none
@[simp] theorem po1.on (g : Ep) (ds : List Sl) (d : List D) (w1 : Wd) : po1 g ds (some (d, w1)) = pc2 (.own d) (g ds w1) := rfl
@[simp] theorem pO.ap (f : Ef) (g : Ep) (ds : List Sl) (w : Wd) : pO f g ds w = po1 g ds (f ds w) := by
  unfold pO
  rcases f ds w with _ | ⟨d, w1⟩
  · rfl
  · show (g ds w1).bind _ = pc2 (.own d) (g ds w1)
    rcases g ds w1 with _ | ⟨y, z⟩ <;> rfl
def pr2 (i j : Nat) (ds : List Sl) : Option (List Sl × Wd) → Option Out
  | some ([a, b], w) => some (.nx ((ds.set i a).set j b) w)
  | _ => none
@[simp] theorem pr2.on (i j : Nat) (ds : List Sl) (a b : Sl) (w : Wd) : pr2 i j ds (some ([a, b], w)) = some (.nx ((ds.set i a).set j b) w) := rfl
@[simp] theorem sPar2.ap (i j : Nat) (f : Ep) (ds : List Sl) (w : Wd) : sPar2 i j f ds w = pr2 i j ds (f ds w) := by
  unfold sPar2
  rcases f ds w with _ | ⟨ts, w1⟩
  · rfl
  · rcases ts with _ | ⟨a, _ | ⟨b, _ | ⟨c, r⟩⟩⟩ <;> rfl
def pr3 (i j l : Nat) (ds : List Sl) : Option (List Sl × Wd) → Option Out
  | some ([a, b, c], w) => some (.nx (((ds.set i a).set j b).set l c) w)
  | _ => none
@[simp] theorem pr3.on (i j l : Nat) (ds : List Sl) (a b c : Sl) (w : Wd) : pr3 i j l ds (some ([a, b, c], w)) = some (.nx (((ds.set i a).set j b).set l c) w) := rfl
@[simp] theorem sPar3.ap (i j l : Nat) (f : Ep) (ds : List Sl) (w : Wd) : sPar3 i j l f ds w = pr3 i j l ds (f ds w) := by
  unfold sPar3
  rcases f ds w with _ | ⟨ts, w1⟩
  · rfl
  · rcases ts with _ | ⟨a, _ | ⟨b, _ | ⟨c, _ | ⟨d, r⟩⟩⟩⟩ <;> rfl
def au3 (i : Nat) (ds : List Sl) (w : Wd) : Option D → Option Out
  | some z => some (.nx (ds.set i (.d z)) w)
  | none => none
@[simp] theorem au3.on (i : Nat) (ds : List Sl) (w : Wd) (z : D) : au3 i ds w (some z) = some (.nx (ds.set i (.d z)) w) := rfl
def au2 (i : Nat) (g : D → D → Option D) (ds : List Sl) (x : D) : Option (D × Wd) → Option Out
  | some (d, w1) => au3 i ds w1 (g x d)
  | none => none
@[simp] theorem au2.on (i : Nat) (g : D → D → Option D) (ds : List Sl) (x d : D) (w1 : Wd) : au2 i g ds x (some (d, w1)) = au3 i ds w1 (g x d) := rfl
def au1 (i : Nat) (g : D → D → Option D) (f : Ev) (ds : List Sl) (w : Wd) : Option Sl → Option Out
  | some (.d x) => au2 i g ds x (f ds w)
  | _ => none
@[simp] theorem au1.on (i : Nat) (g : D → D → Option D) (f : Ev) (ds : List Sl) (w : Wd) (x : D) : au1 i g f ds w (some (.d x)) = au2 i g ds x (f ds w) := rfl
@[simp] theorem sAug.ap (i : Nat) (g : D → D → Option D) (f : Ev) (ds : List Sl) (w : Wd) : sAug i g f ds w = au1 i g f ds w ds[i]? := by
  unfold sAug au1
  rcases ds[i]? with _ | s
  · rfl
  · cases s <;> try rfl
    rename_i x
    dsimp only
    rcases f ds w with _ | ⟨d, w1⟩
    · rfl
    · show (g x d).bind _ = au3 i ds w1 (g x d)
      rcases g x d with _ | z <;> rfl
def di3 (w : Wd) : D → D → Option (D × Wd)
  | .draw, .int 0 => some (.lst (w.ns.map D.int), w)
  | .draw, .int 1 => some (.int 0, w)
  | .draw, .int 2 => some (.int w.c, w)
  | _, _ => none
@[simp] theorem di3.on0 (w : Wd) : di3 w .draw (.int 0) = some (.lst (w.ns.map D.int), w) := rfl
@[simp] theorem di3.on1 (w : Wd) : di3 w .draw (.int 1) = some (.int 0, w) := rfl
@[simp] theorem di3.on2 (w : Wd) : di3 w .draw (.int 2) = some (.int w.c, w) := rfl
def di2 (a : D) : Option (D × Wd) → Option (D × Wd)
  | some (b, w2) => di3 w2 a b
  | none => none
@[simp] theorem di2.on (a b : D) (w2 : Wd) : di2 a (some (b, w2)) = di3 w2 a b := rfl
def di1 (g : Ev) (ds : List Sl) : Option (D × Wd) → Option (D × Wd)
  | some (a, w1) => di2 a (g ds w1)
  | none => none
@[simp] theorem di1.on (g : Ev) (ds : List Sl) (a : D) (w1 : Wd) : di1 g ds (some (a, w1)) = di2 a (g ds w1) := rfl
@[simp] theorem eDrIx.ap (f g : Ev) (ds : List Sl) (w : Wd) : eDrIx f g ds w = di1 g ds (f ds w) := by
  unfold eDrIx
  rcases f ds w with _ | ⟨a, w1⟩
  · rfl
  · show (g ds w1).bind _ = di2 a (g ds w1)
    rcases g ds w1 with _ | ⟨b, w2⟩
    · rfl
    · rfl
def gd3 (ds : List Sl) (w : Wd) : D → D → D → Option (List Sl × Wd)
  | .draw, .int 2, .int c => some (ds, ⟨w.ns, c⟩)
  | _, _, _ => none
@[simp] theorem gd3.on (ds : List Sl) (w : Wd) (c : Int) : gd3 ds w .draw (.int 2) (.int c) = some (ds, ⟨w.ns, c⟩) := rfl
def gd2 (ds : List Sl) (d a : D) : Option (D × Wd) → Option (List Sl × Wd)
  | some (b, w2) => gd3 ds w2 a b d
  | none => none
@[simp] theorem gd2.on (ds : List Sl) (d a b : D) (w2 : Wd) : gd2 ds d a (some (b, w2)) = gd3 ds w2 a b d := rfl
def gd1 (g : Ev) (ds : List Sl) (d : D) : Option (D × Wd) → Option (List Sl × Wd)
  | some (a, w1) => gd2 ds d a (g ds w1)
  | none => none
@[simp] theorem gd1.on (g : Ev) (ds : List Sl) (d a : D) (w1 : Wd) : gd1 g ds d (some (a, w1)) = gd2 ds d a (g ds w1) := rfl
@[simp] theorem goDr.ap (f g : Ev) (ds : List Sl) (w : Wd) (d : D) : goDr f g ds w d = gd1 g ds d (f ds w) := by
  unfold goDr
  rcases f ds w with _ | ⟨a, w1⟩
  · rfl
  · show (g ds w1).bind _ = gd2 ds d a (g ds w1)
    rcases g ds w1 with _ | ⟨b, w2⟩
    · rfl
    · rfl
def ec1 (n : Nat) (G : Fn) : Option (List D × Wd) → Option (D × Wd)
  | some (xs, w1) => if xs.length = n then G xs w1 else none
  | none => none
@[simp] theorem ec1.on (n : Nat) (G : Fn) (xs : List D) (w1 : Wd) : ec1 n G (some (xs, w1)) = if xs.length = n then G xs w1 else none := rfl
@[simp] theorem eCall.ap (n : Nat) (G : Fn) (fs : Ef) (ds : List Sl) (w : Wd) : eCall n G fs ds w = ec1 n G (fs ds w) := by
  unfold eCall
  rcases fs ds w with _ | ⟨a, w1⟩ <;> rfl
def mt1 (g : D → Es) (ds : List Sl) : Option (D × Wd) → Option Out
  | some (d, w1) => g d ds w1
  | none => none
@[simp] theorem mt1.on (g : D → Es) (ds : List Sl) (d : D) (w1 : Wd) : mt1 g ds (some (d, w1)) = g d ds w1 := rfl
@[simp] theorem sMatch.ap (f : Ev) (g : D → Es) (ds : List Sl) (w : Wd) : sMatch f g ds w = mt1 g ds (f ds w) := by
  unfold sMatch
  rcases f ds w with _ | ⟨a, w1⟩ <;> rfl
@[simp] theorem mcCons.ap (xs : List Str) (fb : Es) (rest : D → Es) (z : Str) (ds : List Sl) (w : Wd) : mcCons xs fb rest (.str z) ds w = if z ∈ xs then fb ds w else rest (.str z) ds w := rfl
@[simp] theorem mcNil.ap (d : D) (ds : List Sl) (w : Wd) : mcNil d ds w = some (.nx ds w) := rfl
@[simp] theorem mcAll.ap (fb : Es) (d : D) (ds : List Sl) (w : Wd) : mcAll fb d ds w = fb ds w := rfl
def cmO (ds : List Sl) (i : Nat) : Option (List D × Wd) → Option Out
  | some (xs, w) => some (.nx (ds.set i (.own xs)) w)
  | none => none
@[simp] theorem cmO.on (ds : List Sl) (i : Nat) (xs : List D) (w : Wd) : cmO ds i (some (xs, w)) = some (.nx (ds.set i (.own xs)) w) := rfl
def cmM (ds : List Sl) (i k : Nat) : Option (List D × Wd) → Option Out
  | some (xs, w) => some (.nx (ds.set i (.mu k xs)) w)
  | none => none
@[simp] theorem cmM.on (ds : List Sl) (i k : Nat) (xs : List D) (w : Wd) : cmM ds i k (some (xs, w)) = some (.nx (ds.set i (.mu k xs)) w) := rfl
def cm2 (i n : Nat) (G : Fm) (ds : List Sl) (as : List D) (w : Wd) : Option Sl → Option Out
  | some (.own xs) => if as.length + 1 = n then cmO ds i (G xs as w) else none
  | some (.mu k xs) => if as.length + 1 = n then cmM ds i k (G xs as w) else none
  | _ => none
@[simp] theorem cm2.on1 (i n : Nat) (G : Fm) (ds : List Sl) (as : List D) (w : Wd) (xs : List D) : cm2 i n G ds as w (some (.own xs)) = if as.length + 1 = n then cmO ds i (G xs as w) else none := rfl
@[simp] theorem cm2.on2 (i n : Nat) (G : Fm) (ds : List Sl) (as : List D) (w : Wd) (k : Nat) (xs : List D) : cm2 i n G ds as w (some (.mu k xs)) = if as.length + 1 = n then cmM ds i k (G xs as w) else none := rfl
def cm1 (i n : Nat) (G : Fm) (ds : List Sl) : Option (List D × Wd) → Option Out
  | some (as, w1) => cm2 i n G ds as w1 ds[i]?
  | none => none
@[simp] theorem cm1.on (i n : Nat) (G : Fm) (ds : List Sl) (as : List D) (w1 : Wd) : cm1 i n G ds (some (as, w1)) = cm2 i n G ds as w1 ds[i]? := rfl
@[simp] theorem sCallM.ap (i n : Nat) (G : Fm) (fs : Ef) (ds : List Sl) (w : Wd) : sCallM i n G fs ds w = cm1 i n G ds (fs ds w) := by
  unfold sCallM
  rcases fs ds w with _ | ⟨as, w1⟩
  · rfl
  · show (match ds[i]? with | some (.own xs) => _ | some (.mu k xs) => _ | _ => none) = cm2 i n G ds as w1 ds[i]?
    unfold cm2
    rcases ds[i]? with _ | s
    · rfl
    · cases s <;> try rfl
      · rename_i xs
        dsimp only
        by_cases h : as.length + 1 = n
        · rw [if_pos h, if_pos h]
          rcases G xs as w1 with _ | ⟨y, z⟩ <;> rfl
        · rw [if_neg h, if_neg h]
      · rename_i k xs
        dsimp only
        by_cases h : as.length + 1 = n
        · rw [if_pos h, if_pos h]
          rcases G xs as w1 with _ | ⟨y, z⟩ <;> rfl
        · rw [if_neg h, if_neg h]
@[simp] theorem fin_rt (d : D) (w : Wd) : fin (some (.rt d w)) = some (d, w) := rfl
@[simp] theorem fin_nx (ds : List Sl) (w : Wd) : fin (some (.nx ds w)) = some (.non, w) := rfl
@[simp] theorem v_idxL (xs : List D) (i : Int) : idxD (.lst xs) (.int i) = atI xs i := rfl
@[simp] theorem v_idxT (xs : List D) (i : Int) : idxD (.tup xs) (.int i) = atI xs i := rfl
theorem atI_of_nat {α : Type} (xs : List α) {i : Nat} (h : i < xs.length) : atI xs (i : Int) = xs[i]? := by
  unfold atI
  rw [ixN_nat h]
  rfl
@[simp] theorem atI_0 {α : Type} (a : α) (l : List α) : atI (a :: l) 0 = some a := by
  rw [show (0 : Int) = ((0 : Nat) : Int) from rfl, atI_of_nat _ (by simp)]
  rfl
@[simp] theorem atI_1 {α : Type} (a b : α) (l : List α) : atI (a :: b :: l) 1 = some b := by
  rw [show (1 : Int) = ((1 : Nat) : Int) from rfl, atI_of_nat _ (by simp)]
  rfl
@[simp] theorem atI_2 {α : Type} (a b c : α) (l : List α) : atI (a :: b :: c :: l) 2 = some c := by
  rw [show (2 : Int) = ((2 : Nat) : Int) from rfl, atI_of_nat _ (by simp)]
  rfl
@[simp] theorem atI_3 {α : Type} (a b c d : α) (l : List α) : atI (a :: b :: c :: d :: l) 3 = some d := by
  rw [show (3 : Int) = ((3 : Nat) : Int) from rfl, atI_of_nat _ (by simp)]
  rfl
@[simp] theorem atI_4 {α : Type} (a b c d e : α) (l : List α) : atI (a :: b :: c :: d :: e :: l) 4 = some e := by
  rw [show (4 : Int) = ((4 : Nat) : Int) from rfl, atI_of_nat _ (by simp)]
  rfl
@[simp] theorem v_eq_int (a b : Int) : eqD (.int a) (.int b) = some (.bl (decide (a = b))) := eqD_int a b
@[simp] theorem v_ne_int (a b : Int) : neD (.int a) (.int b) = some (.bl (!decide (a = b))) := neD_int a b
@[simp] theorem v_eq_bl (a b : Bool) : eqD (.bl a) (.bl b) = some (.bl (a == b)) := eqD_bl a b
@[simp] theorem v_ne_bl (a b : Bool) : neD (.bl a) (.bl b) = some (.bl (!(a == b))) := neD_bl a b
@[simp] theorem v_eq_str (a b : Str) (ha : lay (.str a) = true) (hb : lay (.str b) = true) : eqD (.str a) (.str b) = some (.bl (decide (a = b))) := by
  unfold eqD
  rw [ha, hb]
  show some (D.bl (PyData.eqv (.str a) (.str b))) = _
  rw [eqv_str]
@[simp] theorem v_ne_str (a b : Str) (ha : lay (.str a) = true) (hb : lay (.str b) = true) : neD (.str a) (.str b) = some (.bl (!decide (a = b))) := by
  unfold neD
  rw [ha, hb]
  show some (D.bl (!PyData.eqv (.str a) (.str b))) = _
  rw [eqv_str]
@[simp] theorem v_eq_ints (ns ms : List Int) : eqD (.lst (ns.map D.int)) (.lst (ms.map D.int)) = some (.bl (decide (ns = ms))) := eqD_ints ns ms
@[simp] theorem v_ne_ints (ns ms : List Int) : neD (.lst (ns.map D.int)) (.lst (ms.map D.int)) = some (.bl (!decide (ns = ms))) := neD_ints ns ms
@[simp] theorem v_ne_ints0 (ns : List Int) : neD (.lst (ns.map D.int)) (.lst []) = some (.bl (!decide (ns = []))) := neD_ints ns []
@[simp] theorem v_eq_ints0 (ns : List Int) : eqD (.lst (ns.map D.int)) (.lst []) = some (.bl (decide (ns = []))) := eqD_ints ns []
@[simp] theorem v_lt (i j : Int) : g2B pLt (.int i) (.int j) = some (.bl (decide (i < j))) := rfl
@[simp] theorem v_le (i j : Int) : g2B pLe (.int i) (.int j) = some (.bl (decide (i ≤ j))) := rfl
@[simp] theorem v_gt (i j : Int) : g2B pGt (.int i) (.int j) = some (.bl (decide (j < i))) := rfl
@[simp] theorem v_ge (i j : Int) : g2B pGe (.int i) (.int j) = some (.bl (decide (j ≤ i))) := rfl
@[simp] theorem v_add (i j : Int) : addD (.int i) (.int j) = some (.int (i + j)) := rfl
@[simp] theorem v_sub (i j : Int) : subD (.int i) (.int j) = some (.int (i - j)) := rfl
theorem v_mul {i j : Int} (h : okMul i j = true) : mulD (.int i) (.int j) = some (.int (i * j)) := by
  show (if okMul i j then _ else _) = _
  rw [if_pos h]
theorem okMul_r {i j : Int} (h1 : -(2 ^ 64) < j) (h2 : j < 2 ^ 64) : okMul i j = true := by
  unfold okMul
  rw [decide_eq_true (And.intro h1 h2), Bool.or_true]
theorem okMul_l {i j : Int} (h1 : -(2 ^ 64) < i) (h2 : i < 2 ^ 64) : okMul i j = true := by
  unfold okMul
  rw [decide_eq_true (And.intro h1 h2), Bool.true_or]
theorem v_mod {i j : Int} (h : 0 < j) : modD (.int i) (.int j) = some (.int (i % j)) := by
  show (if okMod i j then _ else _) = _
  rw [if_pos (show okMod i j = true from decide_eq_true h)]
theorem v_div {i j : Int} (h : okDiv i j = true) : divD (.int i) (.int j) = some (.int (i / j)) := by
  show (if okDiv i j then _ else _) = _
  rw [if_pos h]
@[simp] theorem v_addL (xs ys : List D) : addD (.lst xs) (.lst ys) = if xs.length + ys.length ≤ line then some (.lst (xs ++ ys)) else none := rfl
@[simp] theorem v_lenL (xs : List D) : gLen [.lst xs] = some (.int (xs.length : Int)) := rfl
@[simp] theorem v_lenT (xs : List D) : gLen [.tup xs] = some (.int (xs.length : Int)) := rfl
@[simp] theorem v_int (i : Int) : gInt [.int i] = some (.int i) := rfl
@[simp] theorem v_min2 (i j : Int) : gMin [.int i, .int j] = some (.int (f2min i j)) := rfl
@[simp] theorem v_max2 (i j : Int) : gMax [.int i, .int j] = some (.int (f2max i j)) := rfl
@[simp] theorem v_listL (xs : List D) : gfList [.lst xs] = some xs := rfl
@[simp] theorem v_listT (xs : List D) : gfList [.tup xs] = some xs := rfl
@[simp] theorem v_tupL (xs : List D) : gTuple [.lst xs] = some (.tup xs) := rfl
@[simp] theorem v_tupT (xs : List D) : gTuple [.tup xs] = some (.tup xs) := rfl
@[simp] theorem v_sum (ns : List Int) : gSum [.lst (ns.map D.int)] = some (.int ns.sum) := by
  show (intsOf (ns.map D.int)).bind _ = _
  rw [intsOf_map]
  rfl
@[simp] theorem v_all (ns : List Bool) : gAll [.lst (ns.map D.bl)] = some (.bl (ns.all id)) := by
  show (blsOf (ns.map D.bl)).bind _ = _
  rw [blsOf_map]
  rfl
@[simp] theorem v_any (ns : List Bool) : gAny [.lst (ns.map D.bl)] = some (.bl (ns.any id)) := by
  show (blsOf (ns.map D.bl)).bind _ = _
  rw [blsOf_map]
  rfl
@[simp] theorem v_sorted (ns : List Int) : gfSorted [.lst (ns.map D.int)] = some ((sortI ns).map D.int) := by
  show (intsOf (ns.map D.int)).bind _ = _
  rw [intsOf_map]
  rfl
@[simp] theorem v_isi_tup_tuple (xs : List D) : gIsi [.tup xs, .ty "tuple"] = some (.bl true) := rfl
@[simp] theorem v_isD_tup_tuple (xs : List D) : isiD (.tup xs) "tuple" = some true := rfl
@[simp] theorem v_isi_tup_list (xs : List D) : gIsi [.tup xs, .ty "list"] = some (.bl false) := rfl
@[simp] theorem v_isD_tup_list (xs : List D) : isiD (.tup xs) "list" = some false := rfl
@[simp] theorem v_isi_tup_int (xs : List D) : gIsi [.tup xs, .ty "int"] = some (.bl false) := rfl
@[simp] theorem v_isD_tup_int (xs : List D) : isiD (.tup xs) "int" = some false := rfl
@[simp] theorem v_isi_tup_str (xs : List D) : gIsi [.tup xs, .ty "str"] = some (.bl false) := rfl
@[simp] theorem v_isD_tup_str (xs : List D) : isiD (.tup xs) "str" = some false := rfl
@[simp] theorem v_isi_tup_bool (xs : List D) : gIsi [.tup xs, .ty "bool"] = some (.bl false) := rfl
@[simp] theorem v_isD_tup_bool (xs : List D) : isiD (.tup xs) "bool" = some false := rfl
@[simp] theorem v_isi_lst_tuple (xs : List D) : gIsi [.lst xs, .ty "tuple"] = some (.bl false) := rfl
@[simp] theorem v_isD_lst_tuple (xs : List D) : isiD (.lst xs) "tuple" = some false := rfl
@[simp] theorem v_isi_lst_list (xs : List D) : gIsi [.lst xs, .ty "list"] = some (.bl true) := rfl
@[simp] theorem v_isD_lst_list (xs : List D) : isiD (.lst xs) "list" = some true := rfl
@[simp] theorem v_isi_lst_int (xs : List D) : gIsi [.lst xs, .ty "int"] = some (.bl false) := rfl
@[simp] theorem v_isD_lst_int (xs : List D) : isiD (.lst xs) "int" = some false := rfl
@[simp] theorem v_isi_lst_str (xs : List D) : gIsi [.lst xs, .ty "str"] = some (.bl false) := rfl
@[simp] theorem v_isD_lst_str (xs : List D) : isiD (.lst xs) "str" = some false := rfl
@[simp] theorem v_isi_lst_bool (xs : List D) : gIsi [.lst xs, .ty "bool"] = some (.bl false) := rfl
@[simp] theorem v_isD_lst_bool (xs : List D) : isiD (.lst xs) "bool" = some false := rfl
@[simp] theorem v_isi_int_tuple (i : Int) : gIsi [.int i, .ty "tuple"] = some (.bl false) := rfl
@[simp] theorem v_isD_int_tuple (i : Int) : isiD (.int i) "tuple" = some false := rfl
@[simp] theorem v_isi_int_list (i : Int) : gIsi [.int i, .ty "list"] = some (.bl false) := rfl
@[simp] theorem v_isD_int_list (i : Int) : isiD (.int i) "list" = some false := rfl
@[simp] theorem v_isi_int_int (i : Int) : gIsi [.int i, .ty "int"] = some (.bl true) := rfl
@[simp] theorem v_isD_int_int (i : Int) : isiD (.int i) "int" = some true := rfl
@[simp] theorem v_isi_int_str (i : Int) : gIsi [.int i, .ty "str"] = some (.bl false) := rfl
@[simp] theorem v_isD_int_str (i : Int) : isiD (.int i) "str" = some false := rfl
@[simp] theorem v_isi_int_bool (i : Int) : gIsi [.int i, .ty "bool"] = some (.bl false) := rfl
@[simp] theorem v_isD_int_bool (i : Int) : isiD (.int i) "bool" = some false := rfl
@[simp] theorem v_isi_str_tuple (z : Str) : gIsi [.str z, .ty "tuple"] = some (.bl false) := rfl
@[simp] theorem v_isD_str_tuple (z : Str) : isiD (.str z) "tuple" = some false := rfl
@[simp] theorem v_isi_str_list (z : Str) : gIsi [.str z, .ty "list"] = some (.bl false) := rfl
@[simp] theorem v_isD_str_list (z : Str) : isiD (.str z) "list" = some false := rfl
@[simp] theorem v_isi_str_int (z : Str) : gIsi [.str z, .ty "int"] = some (.bl false) := rfl
@[simp] theorem v_isD_str_int (z : Str) : isiD (.str z) "int" = some false := rfl
@[simp] theorem v_isi_str_str (z : Str) : gIsi [.str z, .ty "str"] = some (.bl true) := rfl
@[simp] theorem v_isD_str_str (z : Str) : isiD (.str z) "str" = some true := rfl
@[simp] theorem v_isi_str_bool (z : Str) : gIsi [.str z, .ty "bool"] = some (.bl false) := rfl
@[simp] theorem v_isD_str_bool (z : Str) : isiD (.str z) "bool" = some false := rfl
@[simp] theorem v_isi_bl_tuple (p : Bool) : gIsi [.bl p, .ty "tuple"] = some (.bl false) := rfl
@[simp] theorem v_isD_bl_tuple (p : Bool) : isiD (.bl p) "tuple" = some false := rfl
@[simp] theorem v_isi_bl_list (p : Bool) : gIsi [.bl p, .ty "list"] = some (.bl false) := rfl
@[simp] theorem v_isD_bl_list (p : Bool) : isiD (.bl p) "list" = some false := rfl
@[simp] theorem v_isi_bl_int (p : Bool) : gIsi [.bl p, .ty "int"] = some (.bl true) := rfl
@[simp] theorem v_isD_bl_int (p : Bool) : isiD (.bl p) "int" = some true := rfl
@[simp] theorem v_isi_bl_str (p : Bool) : gIsi [.bl p, .ty "str"] = some (.bl false) := rfl
@[simp] theorem v_isD_bl_str (p : Bool) : isiD (.bl p) "str" = some false := rfl
@[simp] theorem v_isi_bl_bool (p : Bool) : gIsi [.bl p, .ty "bool"] = some (.bl true) := rfl
@[simp] theorem v_isD_bl_bool (p : Bool) : isiD (.bl p) "bool" = some true := rfl
@[simp] theorem v_isi_non_tuple  : gIsi [.non, .ty "tuple"] = some (.bl false) := rfl
@[simp] theorem v_isD_non_tuple  : isiD (.non) "tuple" = some false := rfl
@[simp] theorem v_isi_non_list  : gIsi [.non, .ty "list"] = some (.bl false) := rfl
@[simp] theorem v_isD_non_list  : isiD (.non) "list" = some false := rfl
@[simp] theorem v_isi_non_int  : gIsi [.non, .ty "int"] = some (.bl false) := rfl
@[simp] theorem v_isD_non_int  : isiD (.non) "int" = some false := rfl
@[simp] theorem v_isi_non_str  : gIsi [.non, .ty "str"] = some (.bl false) := rfl
@[simp] theorem v_isD_non_str  : isiD (.non) "str" = some false := rfl
@[simp] theorem v_isi_non_bool  : gIsi [.non, .ty "bool"] = some (.bl false) := rfl
@[simp] theorem v_isD_non_bool  : isiD (.non) "bool" = some false := rfl
theorem line_eq : line = 100000 := rfl
/-! conditions of symbolic truths -/
@[simp] theorem z_and (c : Prop) [Decidable c] (q : Bool) (w : Wd) : (if c then some (q, w) else some (false, w)) = some (decide c && q, w) := by
  by_cases h : c <;> simp [h]
@[simp] theorem z_or (c : Prop) [Decidable c] (q : Bool) (w : Wd) : (if c then some (true, w) else some (q, w)) = some (decide c || q, w) := by
  by_cases h : c <;> simp [h]
@[simp] theorem z_andD (c : Prop) [Decidable c] (q : Bool) (w : Wd) : (if c then some (D.bl q, w) else some (.bl false, w)) = some (.bl (decide c && q), w) := by
  by_cases h : c <;> simp [h]
@[simp] theorem z_orD (c : Prop) [Decidable c] (q : Bool) (w : Wd) : (if c then some (D.bl true, w) else some (.bl q, w)) = some (.bl (decide c || q), w) := by
  by_cases h : c <;> simp [h]
end J
namespace J
open PySem PyProof.Rows L2
/-! ### drawing: what every law draws by -/
noncomputable def g_cellat : Es :=
 (sSeq (sIf (eTest (eLt (eBor 1) (eLen (aCons (eBor 0) aNil)))) (sSeq (sRet (eIx (eBor 0) (eBor 1)))
 sNil) sNil)
 (sSeq (sRet (eC (.int 0)))
 sNil))
noncomputable def G_cellat : Fn := callS 2 g_cellat
noncomputable def g_drawn : Es :=
 (sSeq (sSet 3 (eTup (aCons (eC (.int 1000003)) (aCons (eC (.int 1000033)) (aCons (eC (.int 1000037)) (aCons (eC (.int 1000039)) (aCons (eC (.int 1000081)) (aCons (eC (.int 1000099)) (aCons (eC (.int 1000117)) (aCons (eC (.int 1000121)) (aCons (eC (.int 1000133)) (aCons (eC (.int 1000151)) (aCons (eC (.int 1000159)) (aCons (eC (.int 1000171)) (aCons (eC (.int 1000183)) (aCons (eC (.int 1000187)) (aCons (eC (.int 1000193)) (aCons (eC (.int 1000199)) aNil))))))))))))))))))
 (sSeq (sRet (eMod (eMod (eInt (aCons (eAdd (eMul (eBor 0) (eC (.int 48271))) (eMul (eBor 1) (eC (.int 69621)))) aNil)) (eIx (eBor 3) (eMod (eInt (aCons (eBor 1) aNil)) (eC (.int 16))))) (eBor 2)))
 sNil))
noncomputable def G_drawn : Fn := callS 4 g_drawn
noncomputable def g_numb : Es :=
 (sSeq (sSet 3 (eC (.int 1)))
 (sSeq (sFor (iRg (eC (.int 0)) (eMod (eInt (aCons (eBor 1) aNil)) (eC (.int 24)))) (gN 4) (sSeq (sSet 3 (eMul (eBor 3) (eC (.int 1009))))
 sNil))
 (sSeq (sSet 5 (eDiv (eSub (eBor 0) (ePow (eC (.int 10)) (eC (.int 18)))) (eBor 3)))
 (sSeq (sIf (eTest (eGt (eBor 5) (eC (.int 0)))) (sSeq (sRet (eMod (eMod (eInt (aCons (eBor 5) aNil)) (eC (.int 1009))) (eBor 2)))
 sNil) sNil)
 (sSeq (sSet 6 (eMod (eInt (aCons (eBor 0) aNil)) (eC (.int 1000003))))
 (sSeq (sRet (eMod (eCall 3 G_drawn (aCons (eMul (eAdd (eBor 6) (eMul (eC (.int 977)) (eBor 1))) (eAdd (eAdd (eBor 6) (eMul (eC (.int 31)) (eBor 1))) (eC (.int 5)))) (aCons (eAdd (eMod (eInt (aCons (eBor 1) aNil)) (eC (.int 9))) (eC (.int 1))) (aCons (eC (.int 999983)) aNil)))) (eBor 2)))
 sNil))))))
noncomputable def G_numb : Fn := callS 7 g_numb
noncomputable def g_next : Es :=
 (sSeq (sAsg (eAdd (eDrIx (eVar 0) (eC (.int 2))) (eC (.int 1))) (goDr (eVar 0) (eC (.int 2))))
 (sSeq (sSet 2 (eDiv (eDrIx (eVar 0) (eC (.int 2))) (eC (.int 12))))
 (sSeq (sSet 3 (eAdd (eCall 2 G_cellat (aCons (eDrIx (eVar 0) (eC (.int 0))) (aCons (eAdd (eDrIx (eVar 0) (eC (.int 1))) (eBor 2)) aNil))) (eMul (eC (.int 31)) (eBor 2))))
 (sSeq (sRet (eCall 3 G_numb (aCons (eVar 3) (aCons (eAdd (eMod (eInt (aCons (eDrIx (eVar 0) (eC (.int 2))) aNil)) (eC (.int 12))) (eC (.int 1))) (aCons (eVar 1) aNil)))))
 sNil))))
noncomputable def G_next : Fn := callS 4 g_next
theorem ap_cellat (a b : D) (w : Wd) : G_cellat [a, b] w = fin (g_cellat [.d a, .d b] w) := rfl
theorem ap_drawn (a b c : D) (w : Wd) : G_drawn [a, b, c] w = fin (g_drawn [.d a, .d b, .d c, .no] w) := rfl
theorem ap_numb (a b c : D) (w : Wd) : G_numb [a, b, c] w = fin (g_numb [.d a, .d b, .d c, .no, .no, .no, .no] w) := rfl
theorem ap_next (a b : D) (w : Wd) : G_next [a, b] w = fin (g_next [.d a, .d b, .no, .no] w) := rfl
theorem cellat_on (ns : List Int) (k : Int) (hk : 0 ≤ k) (w : Wd) : ∃ v, G_cellat [.lst (ns.map D.int), .int k] w = some (.int v, w) := by
  rw [ap_cellat]
  unfold g_cellat
  by_cases h : k < (ns.length : Int)
  · obtain ⟨n, rfl⟩ := Int.eq_ofNat_of_zero_le hk
    have h' : n < ns.length := by omega
    refine ⟨ns[n], ?_⟩
    simp [h', atI_of_nat]
  · refine ⟨0, ?_⟩
    simp [h]
theorem atI_lit {α : Type} (xs : List α) (k : Int) (h0 : 0 ≤ k) (h1 : k < (xs.length : Int)) : ∃ x, x ∈ xs ∧ atI xs k = some x := by
  obtain ⟨n, rfl⟩ := Int.eq_ofNat_of_zero_le h0
  have h' : n < xs.length := by omega
  exact ⟨xs[n], List.getElem_mem h', by rw [atI_of_nat _ h', List.getElem?_eq_getElem h']⟩
theorem drawn_on (a k b : Int) (hb : 0 < b) (w : Wd) : ∃ v, 0 ≤ v ∧ v < b ∧ G_drawn [.int a, .int k, .int b] w = some (.int v, w) := by
  have hm : (0 : Int) ≤ k % 16 ∧ k % 16 < 16 := ⟨Int.emod_nonneg _ (by decide), Int.emod_lt_of_pos _ (by decide)⟩
  obtain ⟨x, hx, ex⟩ := atI_lit ([.int 1000003, .int 1000033, .int 1000037, .int 1000039, .int 1000081, .int 1000099, .int 1000117, .int 1000121, .int 1000133, .int 1000151, .int 1000159, .int 1000171, .int 1000183, .int 1000187, .int 1000193, .int 1000199] : List D) (k % 16) hm.1 hm.2
  have hp : ∃ p : Int, x = .int p ∧ 0 < p := by
    simp only [List.mem_cons, List.not_mem_nil, or_false] at hx
    rcases hx with rfl | rfl | rfl | rfl | rfl | rfl | rfl | rfl | rfl | rfl | rfl | rfl | rfl | rfl | rfl | rfl <;> exact ⟨_, rfl, by decide⟩
  obtain ⟨p, rfl, hp⟩ := hp
  refine ⟨(a * 48271 + k * 69621) % p % b, Int.emod_nonneg _ (by omega), Int.emod_lt_of_pos _ hb, ?_⟩
  rw [ap_drawn]
  unfold g_drawn
  simp [line_eq, v_mul (okMul_r (i := a) (j := 48271) (by decide) (by decide)), v_mul (okMul_r (i := k) (j := 69621) (by decide) (by decide)), v_mod (i := k) (j := 16) (by decide), ex, v_mod (i := a * 48271 + k * 69621) hp, v_mod (j := b) hb]
theorem forGo_nx {tg : Eg} {body : Es} {x : D} {xs : List D} {ds ds1 ds2 : List Sl} {w w2 : Wd} (h1 : tg ds x = some ds1) (h2 : body ds1 w = some (.nx ds2 w2)) : forGo tg body (x :: xs) ds w = forGo tg body xs ds2 w2 := by
  show (tg ds x).bind _ = _
  rw [h1]
  show (body ds1 w).bind _ = _
  rw [h2]
  rfl
theorem numb_loop (a k b q : Int) (h1 : -(2 ^ 64) < q) (h2 : q < 2 ^ 64) (w : Wd) : ∀ (l : List Nat) (p : Int) (z : Sl), ∃ z', forGo (gN 4) (sSeq (sSet 3 (eMul (eBor 3) (eC (.int q)))) sNil) (l.map fun i : Nat => D.int (i : Int)) [.d (.int a), .d (.int k), .d (.int b), .d (.int p), z, .no, .no] w = some (.nx [.d (.int a), .d (.int k), .d (.int b), .d (.int (p * q ^ l.length)), z', .no, .no] w)
  | [], p, z => ⟨z, by rw [List.length_nil, Int.pow_zero, Int.mul_one]; rfl⟩
  | j :: l, p, z => by
    obtain ⟨z', h'⟩ := numb_loop a k b q h1 h2 w l (p * q) (.d (.int (j : Int)))
    refine ⟨z', ?_⟩
    have e : (sSeq (sSet 3 (eMul (eBor 3) (eC (.int q)))) sNil) [.d (.int a), .d (.int k), .d (.int b), .d (.int p), .d (.int (j : Int)), .no, .no] w = some (.nx [.d (.int a), .d (.int k), .d (.int b), .d (.int (p * q)), .d (.int (j : Int)), .no, .no] w) := by
      simp [v_mul (okMul_r (i := p) h1 h2)]
    rw [List.map_cons, forGo_nx (ds1 := [.d (.int a), .d (.int k), .d (.int b), .d (.int p), .d (.int (j : Int)), .no, .no]) rfl e, h', List.length_cons, Int.pow_succ, Int.mul_assoc, Int.mul_comm q]
theorem rgD_range (n : Nat) : rgD 0 1 n = (List.range' 0 n).map fun i : Nat => D.int (i : Int) := by
  unfold rgD
  rw [List.range_eq_range']
  apply List.map_congr_left
  intro i _
  simp
theorem okDiv_pow (i : Int) : ∀ j : Nat, j ≤ 24 → okDiv i (1009 ^ j) = true := by
  intro j hj
  have h : ∀ j : Nat, j < 25 → (decide ((0 : Int) < 1009 ^ j) && decide (((1009 : Int) ^ j).natAbs.log2 < 9000)) = true := by decide +kernel
  exact h j (by omega)
theorem numb_on (a k b : Int) (hk : 1 ≤ k) (hk2 : k ≤ 12) (hb : 0 < b) (w : Wd) : ∃ v, 0 ≤ v ∧ v < b ∧ G_numb [.int a, .int k, .int b] w = some (.int v, w) := by
  rw [ap_numb]
  unfold g_numb
  have em : k % 24 = k := Int.emod_eq_of_lt (by omega) (by omega)
  obtain ⟨z, hl⟩ := numb_loop a k b 1009 (by decide) (by decide) w (List.range' 0 k.toNat) 1 .no
  rw [List.length_range', Int.one_mul] at hl
  have hr := irF.on 0 k w ⟨by decide, by decide, by omega, by omega⟩
  rw [Int.sub_zero, rgD_range] at hr
  have hpow : powD (.int 10) (.int 18) = some (.int 1000000000000000000) := by
    show (if okPow 10 18 then some (D.int (10 ^ 18)) else none) = _
    rw [if_pos (by decide)]
    rfl
  have hdv := v_div (i := a - 1000000000000000000) (okDiv_pow (a - 1000000000000000000) k.toNat (by omega))
  by_cases hp : 0 < (a - 1000000000000000000) / 1009 ^ k.toNat
  · refine ⟨((a - 1000000000000000000) / 1009 ^ k.toNat) % 1009 % b, Int.emod_nonneg _ (by omega), Int.emod_lt_of_pos _ hb, ?_⟩
    simp [v_mod (i := k) (j := 24) (by decide), em, hr, hl, hpow, hdv, hp, v_mod (i := (a - 1000000000000000000) / 1009 ^ k.toNat) (j := 1009) (by decide), v_mod (i := ((a - 1000000000000000000) / 1009 ^ k.toNat) % 1009) hb]
  · have hs1 : 0 ≤ a % 1000003 := Int.emod_nonneg _ (by decide)
    have hs2 : a % 1000003 < 1000003 := Int.emod_lt_of_pos _ (by decide)
    obtain ⟨v, h1, h2, h3⟩ := drawn_on ((a % 1000003 + 977 * k) * (a % 1000003 + 31 * k + 5)) (k % 9 + 1) 999983 (by decide) w
    refine ⟨v % b, Int.emod_nonneg _ (by omega), Int.emod_lt_of_pos _ hb, ?_⟩
    simp [v_mod (i := k) (j := 24) (by decide), em, hr, hl, hpow, hdv, hp, v_mod (i := a) (j := 1000003) (by decide), v_mod (i := k) (j := 9) (by decide), v_mul (okMul_l (i := 977) (j := k) (by decide) (by decide)), v_mul (okMul_l (i := 31) (j := k) (by decide) (by decide)),
      v_mul (okMul_l (i := a % 1000003 + 977 * k) (j := a % 1000003 + 31 * k + 5) (by omega) (by omega)), h3, v_mod (i := v) hb]
/-- one drawing: a number below the bound; the counter goes on by one -/
theorem next_on (b : Int) (hb : 0 < b) (w : Wd) (hc : 0 ≤ w.c) : ∃ v, 0 ≤ v ∧ v < b ∧ G_next [.draw, .int b] w = some (.int v, ⟨w.ns, w.c + 1⟩) := by
  have hq : 0 ≤ (w.c + 1) / 12 := Int.ediv_nonneg (by omega) (by decide)
  obtain ⟨x, hx⟩ := cellat_on w.ns ((w.c + 1) / 12) hq ⟨w.ns, w.c + 1⟩
  have m1 : 0 ≤ (w.c + 1) % 12 := Int.emod_nonneg _ (by decide)
  have m2 : (w.c + 1) % 12 < 12 := Int.emod_lt_of_pos _ (by decide)
  obtain ⟨v, h1, h2, h3⟩ := numb_on (x + 31 * ((w.c + 1) / 12)) ((w.c + 1) % 12 + 1) b (by omega) (by omega) hb ⟨w.ns, w.c + 1⟩
  refine ⟨v, h1, h2, ?_⟩
  rw [ap_next]
  unfold g_next
  simp [v_div (i := w.c + 1) (j := 12) (by unfold okDiv; decide), hx, v_mul (okMul_l (i := 31) (j := (w.c + 1) / 12) (by decide) (by decide)), v_mod (i := w.c + 1) (j := 12) (by decide), h3]
end J
namespace J
open PySem PyProof.Rows L2
/-! ### comprehensions of two clauses: the list that is being made is hidden from the state -/
def hid (B : Addr) (H : Hp) : Hp := fun b => if b = B then none else H b
section
variable {K : PySem.W.Frag} {Z : Cfg} {p B : Addr} {F F' H H' : Hp} {σ : L2.St} {ds : List Sl} {w w' : Wd} {o : HO}
theorem hid_at : hid B H B = none := if_pos rfl
theorem hid_ne {b : Addr} (h : b ≠ B) : hid B H b = H b := if_neg h
theorem hid_none (h : H B = none) : hid B H = H := by
  funext b
  by_cases e : b = B
  · subst e
    rw [hid_at, h]
  · exact hid_ne e
theorem hid_upd : hid B (upd H B o) = hid B H := by
  funext b
  by_cases e : b = B
  · subst e
    rw [hid_at, hid_at]
  · rw [hid_ne e, hid_ne e, upd_ne e]
theorem upd_hid (h : H B = some o) : upd (hid B H) B o = H := by
  funext b
  by_cases e : b = B
  · subst e
    rw [upd_same, h]
  · rw [upd_ne e, hid_ne e]
theorem hid_stp (hF : F' B = none) (s : Stp p F H F' H') : Stp p F (hid B H) F' (hid B H') := by
  refine ⟨s.f, fun b o n e => ?_, fun b o e => ?_, fun b o e => ?_, s.fp⟩
  · by_cases q : b = B
    · rw [q, hid_at] at e
      cases e
    · rw [hid_ne q] at e ⊢
      exact s.h b o n e
  · by_cases q : b = B
    · rw [q, hF] at e
      cases e
    · rw [hid_ne q]
      exact s.e b o e
  · by_cases q : b = B
    · exact .inr (by rw [q, hid_at])
    · rw [hid_ne q]
      exact s.n b o e
theorem R.shown (r : R K Z F (hid B H) σ ds w) (h : H B = some o) : R K Z F H σ ds w := by
  obtain ⟨s, d⟩ := r.newO (o := o) (hid_at (B := B) (H := H))
  rw [upd_hid h] at s d
  exact r.step s d
/-- B stays out of what is known -/
theorem Stp.out (s : Stp p F H F' H') (hp : B ≠ p) (h : H B = some o) (hF : F B = none) : H' B = some o ∧ F' B = none := by
  refine ⟨s.h B o hp h, ?_⟩
  cases q : F' B with
  | none => rfl
  | some u =>
    rcases s.n B u q with z | z
    · rw [hF] at z
      cases z
    · rw [h] at z
      cases z
theorem Dr.hid (hp : B ≠ p) (d : Dr p F H w) : Dr p F (hid B H) w := by
  obtain ⟨a, h1, h2⟩ := d
  exact ⟨a, by rw [hid_ne (Ne.symm hp)]; exact h1, h2⟩
/-- the state behind a step, B hidden -/
theorem R.hidden (r : R K Z F (hid B H) σ ds w) (hp : B ≠ Z.p) (h : H B = some o) (hF : F B = none) (s : Stp Z.p F H F' H') (d : Dr Z.p F' H' w') : R K Z F' (hid B H') σ ds w' :=
  r.step (hid_stp (s.out hp h hF).2 s) (d.hid hp)
/-- .. shown again behind a change of B -/
theorem R.rehid (r : R K Z F (hid B H) σ ds w) (o : HO) : R K Z F (hid B (upd H B o)) σ ds w := by rw [hid_upd]; exact r
theorem Dr.shown (d : Dr p F (J.hid B H) w) (h : H B = some o) (hp : B ≠ p) : Dr p F H w := by
  obtain ⟨a, h1, h2⟩ := d
  exact ⟨a, by rw [hid_ne (Ne.symm hp)] at h1; exact h1, h2⟩
theorem stp_shown (hD : H B = none) (hF : F' B = none) (s : Stp p F H F' (hid B H')) : Stp p F H F' H' := by
  refine ⟨s.f, fun b o n e => ?_, fun b o e => ?_, s.n, s.fp⟩
  · have q : b ≠ B := ne_of_none e hD
    have := s.h b o n e
    rw [hid_ne q] at this
    exact this
  · have q : b ≠ B := ne_of_none e hF
    have := s.e b o e
    rw [hid_ne q] at this
    exact this
/-- a dict of lists, told by a heap that hides an address -/
theorem SlR.hide {σ2 σ1 : L2.St} {a a0 : Nat → Addr} {i : Nat} {ks : List Key} {xss : List (List D)} (h : SlR K Z F H a σ2 i (.ll ks xss)) (h0 : SlR K Z F (J.hid B H) a0 σ1 i (.ll ks xss)) (e : σ2[i]? = σ1[i]?) (hp : B ≠ Z.p) : SlR K Z F (J.hid B H) a σ2 i (.ll ks xss) := by
  obtain ⟨h1, ⟨h2, h3, h4, h5, h6⟩, h7⟩ := h
  obtain ⟨g1, ⟨g2, g3, g4, g5, g6⟩, g7⟩ := h0
  have e0 : a 0 = a0 0 := by
    rw [e, g1] at h1
    exact (V.ref.inj (Option.some.inj (Option.some.inj h1))).symm
  have nB : ∀ {b : Addr} {o : HO}, J.hid B H b = some o → b ≠ B := fun {b o} z q => by
    subst q
    unfold J.hid at z
    simp at z
  have hB := nB g3
  have ez : ks.zip ((List.range xss.length).map fun m => V.ref (a (m + 1))) = ks.zip ((List.range xss.length).map fun m => V.ref (a0 (m + 1))) := by
    rw [← e0] at g3
    rw [hid_ne (by rw [e0]; exact hB)] at g3
    rw [h3] at g3
    exact HO.dK.inj (Option.some.inj g3)
  have em : ∀ m, m < xss.length → a (m + 1) = a0 (m + 1) := fun m hm => by
    have l1 : (ks.zip ((List.range xss.length).map fun m => V.ref (a (m + 1))))[m]? = some (ks[m]'(by omega), V.ref (a (m + 1))) := by
      rw [List.getElem?_zip_eq_some]
      exact ⟨List.getElem?_eq_getElem _, by simp [hm]⟩
    have l2 : (ks.zip ((List.range xss.length).map fun m => V.ref (a0 (m + 1))))[m]? = some (ks[m]'(by omega), V.ref (a0 (m + 1))) := by
      rw [List.getElem?_zip_eq_some]
      exact ⟨List.getElem?_eq_getElem _, by simp [hm]⟩
    rw [ez, l2] at l1
    exact (V.ref.inj (congrArg Prod.snd (Option.some.inj l1))).symm
  refine ⟨h1, ⟨h2, by rw [hid_ne (by rw [e0]; exact hB)]; exact h3, h4, h5, h6⟩, fun m xs hm => ?_⟩
  have hl := (List.getElem?_eq_some_iff.mp hm).1
  obtain ⟨⟨vs, q1, q2, q3, q4⟩, q5⟩ := g7 m xs hm
  rw [← em m hl] at q1 q2 q3 q5
  exact ⟨⟨vs, q1, q2, q3, q4⟩, q5⟩
theorem R.hide {σ2 σ1 : L2.St} {ds1 ds0 : List Sl} {w0 : Wd} (r : R K Z F H σ2 ds1 w) (r0 : R K Z F (J.hid B H) σ1 ds0 w0) (hp : B ≠ Z.p) (hk : ∀ (i : Nat) (s : Sl), ds1[i]? = some s → s.ow = true → ds0[i]? = some s ∧ σ2[i]? = σ1[i]?) : R K Z F (J.hid B H) σ2 ds1 w := by
  obtain ⟨α, ha, he⟩ := r.env
  obtain ⟨α0, ha0, he0⟩ := r0.env
  refine ⟨r0.ex, r.fp, r.dr.hid hp, r.pm, r0.hm, r.m0, r0.keep, r.nw, r.f0, r.len, α, ha, fun i s hi => ?_⟩
  have h1 := he i s hi
  cases s with
  | no => trivial
  | d x => exact h1
  | own xs =>
    obtain ⟨q1, q2⟩ := hk i _ hi rfl
    have h2 := he0 i _ q1
    obtain ⟨e1, _, e3⟩ := h1
    obtain ⟨f1, f2, f3⟩ := h2
    have e : α (i, 0) = α0 (i, 0) := by
      rw [q2, f1] at e1
      exact (V.ref.inj (Option.some.inj (Option.some.inj e1))).symm
    exact ⟨e1, by dsimp only; rw [e]; exact f2, e3⟩
  | mu k xs =>
    obtain ⟨q1, q2⟩ := hk i _ hi rfl
    have h2 := he0 i _ q1
    obtain ⟨e1, _, e3⟩ := h1
    obtain ⟨f1, f2, f3⟩ := h2
    have e : α (i, 0) = α0 (i, 0) := by
      rw [q2, f1] at e1
      exact (V.ref.inj (Option.some.inj (Option.some.inj e1))).symm
    exact ⟨e1, by dsimp only; rw [e]; exact f2, e3⟩
  | oo x =>
    obtain ⟨q1, q2⟩ := hk i _ hi rfl
    have h2 := he0 i _ q1
    obtain ⟨e1, _, e3⟩ := h1
    obtain ⟨f1, f2, f3⟩ := h2
    have e : α (i, 0) = α0 (i, 0) := by
      rw [q2, f1] at e1
      exact (V.ref.inj (Option.some.inj (Option.some.inj e1))).symm
    exact ⟨e1, by dsimp only; rw [e]; exact f2, e3⟩
  | ll ks xss =>
    obtain ⟨q1, q2⟩ := hk i _ hi rfl
    have h2 := he0 i _ q1
    exact h1.hide h2 q2 hp
/-- targets leave lists of one's own alone -/
def GOk (tg : Eg) (js : List Nat) : Prop := ∀ ds x ds1, tg ds x = some ds1 → ∀ (i : Nat) (s : Sl), ds1[i]? = some s → s.ow = true → i ∉ js ∧ ds[i]? = some s
def GsOk (tg : Egs) (js : List Nat) : Prop := ∀ ds x ds1, tg ds x = some ds1 → ∀ (i : Nat) (s : Sl), ds1[i]? = some s → s.ow = true → i ∉ js ∧ ds[i]? = some s
theorem gok_name (i : Nat) : GOk (gN i) [i] := fun ds x ds1 h j s hj ho => by
  cases h
  by_cases e : i = j
  · subst e
    rw [List.getElem?_set] at hj
    split at hj
    · split at hj
      · cases hj
        cases ho
      · cases hj
    · rename_i z
      exact absurd rfl z
  · rw [List.getElem?_set_ne e] at hj
    exact ⟨by simpa using Ne.symm e, hj⟩
theorem gsok_nil : GsOk gsNil [] := fun ds x ds1 h j s hj ho => by
  unfold gsNil at h
  split at h
  · cases h
    exact ⟨by simp, hj⟩
  · cases h
theorem gsok_cons {g : Eg} {h : Egs} {js js' : List Nat} (a : GOk g js) (b : GsOk h js') : GsOk (gsCons g h) (js ++ js') := fun ds x ds1 e j s hj ho => by
  unfold gsCons at e
  split at e
  · obtain ⟨ds2, e1, e2⟩ := bind2 e
    obtain ⟨n1, q1⟩ := b _ _ _ e2 j s hj ho
    obtain ⟨n2, q2⟩ := a _ _ _ e1 j s q1 ho
    exact ⟨fun z => (List.mem_append.mp z).elim n2 n1, q2⟩
  · cases e
theorem gok_tup {n : Nat} {h : Egs} {js : List Nat} (b : GsOk h js) : GOk (gT n h) js := fun ds x ds1 e j s hj ho => by
  unfold gT at e
  split at e
  · split at e
    · exact b _ _ _ e j s hj ho
    · cases e
  · cases e
/-- the inner walk -/
theorem lc_inner {T : It} {xs ys acc : List D} {us : List V} {tg : Eg} {c : Et} {e : Ev} {vs js : List Nat} (hj : ∀ i ∈ js, i ∈ vs) {Nx : Hp → Prop} (rr : R K Z F (J.hid B H) σ ds w) (hp : B ≠ Z.p) (hD : H B = some (.lst us)) (hF : F B = none) (hacc : Dens K Z.p F acc us) (hS : Src K Z.p T F H [] xs)
    (hgo : lcGo tg c e (wipeS ds vs) xs w = some (ys, w')) (hl : acc.length + ys.length ≤ line)
    (hN : ∀ F' H' us', Stp Z.p F (J.hid B H) F' (J.hid B H') → R K Z F' (J.hid B H') (L2.wipe σ vs) (wipeS ds vs) w' → H' B = some (.lst us') → F' B = none → Dens K Z.p F' (acc ++ ys) us' → Nx H') :
    ∃ W1 : Nat → Nat → Hp → Prop, (∃ m, W1 0 m H) ∧ ∀ j k H2, W1 j k H2 → (T.stop j H2 ∧ Nx H2) ∨ (T.go j H2 ∧ ∃ Nx1 : Hp → Prop, (∀ H', Nx1 H' → ∃ k', k' < k ∧ W1 (j + 1) k' H') ∧ ∀ x H', T.yld j H2 x H' →
      canG K tg js x (L2.wipe σ vs) H' fun σ3 H5 => L2.wipe σ3 vs = L2.wipe σ vs ∧ canT K c σ3 H5 fun b H6 => if b = true then canE K e σ3 H6 fun y H7 => ∃ acc, H7 B = some (.lst acc) ∧ acc.length < sizeLine ∧ Nx1 (upd H7 B (.lst (acc ++ [y]))) else Nx1 H6) := by
  obtain ⟨_, hT⟩ := hS
  let W : Nat → Nat → Hp → Prop := fun i m H2 => m = xs.length - i ∧ i ≤ xs.length ∧ ∃ F2 acc2 us2 rest w3, Stp Z.p F (J.hid B H) F2 (J.hid B H2) ∧ R K Z F2 (J.hid B H2) σ ds w3 ∧ H2 B = some (.lst us2) ∧ F2 B = none ∧ Dens K Z.p F2 acc2 us2 ∧ lcGo tg c e (wipeS ds vs) (xs.drop i) w3 = some (rest, w') ∧ acc2 ++ rest = acc ++ ys
  refine ⟨W, ⟨xs.length, rfl, Nat.zero_le _, F, acc, us, ys, w, rr.stp, rr, hD, hF, hacc, hgo, rfl⟩, fun i m H2 hw => ?_⟩
  obtain ⟨rfl, hi, F2, acc2, us2, rest, w3, s2, r2, hD2, hF2, hacc2, hgo2, hcat⟩ := hw
  have hR2 := r2.shown hD2
  obtain ⟨hstop, hgo'⟩ := hT F2 H2 (fun q hq => nomatch hq) s2.f hR2.ex hR2.fp (let ⟨a, h, _⟩ := hR2.dr; ⟨_, h⟩) i
  by_cases hlt : i < xs.length
  · right
    have hx : xs[i]? = some xs[i] := List.getElem?_eq_getElem hlt
    obtain ⟨g1, g2⟩ := hgo' _ hx
    refine ⟨g1, fun H' => W (i + 1) (xs.length - (i + 1)) H', fun H' z => ⟨_, by omega, z⟩, fun x H3 hy => ?_⟩
    obtain ⟨sm, F3, s3, hden⟩ := g2 x H3 hy
    have d3 : Dr Z.p F3 H3 w3 := by
      obtain ⟨a, q1, q2⟩ := hR2.dr
      exact ⟨a, sm _ _ q1, s3.f _ _ q2⟩
    obtain ⟨hD3, hF3⟩ := s3.out hp hD2 hF2
    have r3 := r2.hidden hp hD2 hF2 s3 d3
    have hs3 := hid_stp hF3 s3
    rw [List.drop_eq_getElem_cons hlt] at hgo2
    obtain ⟨ds1, htg, hgo2⟩ := bind2 (show (tg (wipeS ds vs) xs[i]).bind _ = _ from hgo2)
    obtain ⟨⟨b, w4⟩, hc, hgo2⟩ := bind2 hgo2
    refine ⟨Z, F3, wipeS ds vs, w3, _, _, (r3.shown hD3).wipe vs, hden, htg, fun σ2 r4 hsame hlen => ⟨?_, ?_⟩⟩
    · have e1 : L2.wipe σ2 vs = L2.wipe (L2.wipe σ vs) vs := wipe_same hlen fun i hi => hsame i fun z => hi (hj i z)
      rw [e1, wipe_wipe]
    · refine ⟨Z, F3, ds1, w3, _, _, r4, hc, fun F4 H4 s4 d4 => ?_⟩
      obtain ⟨hD4, hF4⟩ := s4.out hp hD3 hF3
      have hs4 := hid_stp hF4 s4
      dsimp only
      split
      · rename_i hb
        dsimp only at hgo2
        rw [if_pos hb] at hgo2
        obtain ⟨⟨y, w5⟩, he, hgo2⟩ := bind2 hgo2
        obtain ⟨⟨rest', w6⟩, hr, hgo2⟩ := bind2 hgo2
        cases hgo2
        refine ⟨Z, F4, ds1, _, _, _, r4.step s4 d4, he, fun v F5 H5 s5 d5 hv => ?_⟩
        obtain ⟨hD5, hF5⟩ := s5.out hp hD4 hF4
        have hs5 := hid_stp hF5 s5
        have hlen2 : us2.length < sizeLine := by
          rw [hacc2.len]
          refine sz_lt ?_
          have := congrArg List.length hcat
          rw [List.length_append, List.length_cons, List.length_append] at this
          have hl' : acc.length + ys.length ≤ 100000 := hl
          show acc2.length < 100000
          dsimp only at this
          omega
        have st : Stp Z.p F (J.hid B H) F5 (J.hid B H5) := ((s2.trans hs3).trans hs4).trans hs5
        refine ⟨us2, hD5, hlen2, rfl, by omega, F5, acc2 ++ [y], us2 ++ [v], rest', w5, ?_, ?_, upd_same, hF5, (hacc2.mono (s3.f.trans (s4.f.trans s5.f))).append (dens_cons hv dens_nil), hr, by rw [List.append_assoc]; exact hcat⟩
        · rw [hid_upd]
          exact st
        · rw [hid_upd]
          exact r3.step (hs4.trans hs5) (d5.hid hp)
      · rename_i hb
        dsimp only at hgo2
        rw [if_neg hb] at hgo2
        exact ⟨rfl, by omega, F4, acc2, us2, rest, w4, (s2.trans hs3).trans hs4, r3.step hs4 (d4.hid hp), hD4, hF4, hacc2.mono (s3.f.trans s4.f), hgo2, hcat⟩
  · left
    refine ⟨hstop (by omega), ?_⟩
    have hnil : xs.drop i = [] := List.drop_eq_nil_of_le (by omega)
    rw [hnil] at hgo2
    cases hgo2
    rw [List.append_nil] at hcat
    subst hcat
    exact hN F2 H2 us2 s2 (r2.wipe vs) hD2 hF2 hacc2
def lcGo2 (tg : Eg) (c : Et) (src1 : Ef) (tg1 : Eg) (c1 : Et) (e : Ev) (vs1 : List Nat) (ds : List Sl) : List D → Wd → Option (List D × Wd)
  | [], w => some ([], w)
  | x :: xs, w => (tg ds x).bind fun ds1 => (c ds1 w).bind fun b => if b.1 = true then (src1 ds1 b.2).bind fun s => (lcGo tg1 c1 e (wipeS ds1 vs1) s.1 s.2).bind fun r1 => (lcGo2 tg c src1 tg1 c1 e vs1 ds xs r1.2).bind fun r => some (r1.1 ++ r.1, r.2) else lcGo2 tg c src1 tg1 c1 e vs1 ds xs b.2
def fLc2 (src : Ef) (tg : Eg) (c : Et) (src1 : Ef) (tg1 : Eg) (c1 : Et) (e : Ev) (vs vs1 : List Nat) : Ef := fun ds w => (src ds w).bind fun s => (lcGo2 tg c src1 tg1 c1 e vs1 (wipeS ds vs) s.1 s.2).bind fun r => if r.1.length ≤ line then some r else none
theorem wipe_sub {σ2 σ : L2.St} {vs1 vs : List Nat} (hv : ∀ i ∈ vs1, i ∈ vs) (hl : σ2.length = σ.length) (h : ∀ i, i ∉ vs → σ2[i]? = σ[i]?) : L2.wipe σ2 vs = L2.wipe σ vs := wipe_same hl h
theorem lc2_of {b : Bool} {src src1 : Ef} {tg tg1 : Eg} {c c1 : Et} {e : Ev} {vs vs1 js js1 : List Nat} (hj : ∀ i ∈ js, i ∈ vs) (hj1 : ∀ i ∈ js1, i ∈ vs1) (hv : ∀ i ∈ vs1, i ∈ vs) (hgo : GOk tg js) (σ : L2.St) (H : Hp) (Q : VK) : canF K (fLc2 src tg c src1 tg1 c1 e vs vs1) σ H Q →
    tLc2 (canI K b src) (canG K tg js) (canT K c) (canI K false src1) (canG K tg1 js1) (canT K c1) (canE K e) vs vs1 σ H Q := fun ⟨Z, F, ds, w, ys, w', rr, hf, k⟩ => by
  obtain ⟨⟨xs, w1⟩, hs, hf⟩ := bind2 hf
  obtain ⟨⟨zs, w2⟩, hg, hf⟩ := bind2 hf
  split at hf
  · rename_i hl
    cases hf
    refine ⟨Z, F, ds, w, _, _, rr, hs, fun T F1 H1 A s1 d1 _ hS D hD => ?_⟩
    obtain ⟨hA, hT⟩ := hS
    have r1 := rr.step s1 d1
    have hp : D ≠ Z.p := r1.np hD
    have hDF : F1 D = none := r1.ex.free hD
    let W : Nat → Nat → Hp → Prop := fun i m H2 => m = xs.length - i ∧ i ≤ xs.length ∧ ∃ F2 acc2 us2 rest w3, Stp Z.p F1 H1 F2 (J.hid D H2) ∧ R K Z F2 (J.hid D H2) σ ds w3 ∧ H2 D = some (.lst us2) ∧ F2 D = none ∧ Dens K Z.p F2 acc2 us2 ∧ lcGo2 tg c src1 tg1 c1 e vs1 (wipeS ds vs) (xs.drop i) w3 = some (rest, w') ∧ acc2 ++ rest = ys
    have hid1 : J.hid D (upd H1 D (.lst [])) = H1 := by rw [hid_upd, hid_none hD]
    refine ⟨W, ⟨xs.length, rfl, Nat.zero_le _, F1, [], [], ys, w1, by rw [hid1]; exact r1.stp, by rw [hid1]; exact r1, upd_same, hDF, dens_nil, hg, rfl⟩, fun i m H2 hw => ?_⟩
    obtain ⟨rfl, hi, F2, acc2, us2, rest, w3, s2, r2, hD2, hF2, hacc2, hgo2, hcat⟩ := hw
    have hR2 := r2.shown hD2
    have hA2 : ∀ q ∈ A, H2 q.1 = some q.2 := fun q hq => by
      have h1 := s2.h _ _ (hA q hq).2 (hA q hq).1
      by_cases z : q.1 = D
      · rw [z, hid_at] at h1
        cases h1
      · rw [hid_ne z] at h1
        exact h1
    obtain ⟨hstop, hgo'⟩ := hT F2 H2 hA2 s2.f hR2.ex hR2.fp (let ⟨a, h, _⟩ := hR2.dr; ⟨_, h⟩) i
    by_cases hlt : i < xs.length
    · right
      have hx : xs[i]? = some xs[i] := List.getElem?_eq_getElem hlt
      obtain ⟨g1, g2⟩ := hgo' _ hx
      refine ⟨g1, fun H' => W (i + 1) (xs.length - (i + 1)) H', fun H' z => ⟨_, by omega, z⟩, fun x H3 hy => ?_⟩
      obtain ⟨sm, F3, s3, hden⟩ := g2 x H3 hy
      have d3 : Dr Z.p F3 H3 w3 := by
        obtain ⟨a, q1, q2⟩ := hR2.dr
        exact ⟨a, sm _ _ q1, s3.f _ _ q2⟩
      obtain ⟨hD3, hF3⟩ := s3.out hp hD2 hF2
      have r3 := r2.hidden hp hD2 hF2 s3 d3
      have hs3 := hid_stp hF3 s3
      rw [List.drop_eq_getElem_cons hlt] at hgo2
      obtain ⟨ds1, htg, hgo2⟩ := bind2 (show (tg (wipeS ds vs) xs[i]).bind _ = _ from hgo2)
      obtain ⟨⟨b', w4⟩, hc, hgo2⟩ := bind2 hgo2
      refine ⟨Z, F3, wipeS ds vs, w3, _, _, (r3.shown hD3).wipe vs, hden, htg, fun σ2 r4 hsame hlen => ⟨?_, ?_⟩⟩
      · have e1 : L2.wipe σ2 vs = L2.wipe (L2.wipe σ vs) vs := wipe_same hlen fun i hi => hsame i fun z => hi (hj i z)
        rw [e1, wipe_wipe]
      · refine ⟨Z, F3, ds1, w3, _, _, r4, hc, fun F4 H4 s4 d4 => ?_⟩
        obtain ⟨hD4, hF4⟩ := s4.out hp hD3 hF3
        have hs4 := hid_stp hF4 s4
        dsimp only
        split
        · rename_i hb
          dsimp only at hgo2
          rw [if_pos hb] at hgo2
          obtain ⟨⟨zs1, w5⟩, hs1, hgo2⟩ := bind2 hgo2
          obtain ⟨⟨ys1, w6⟩, hg1, hgo2⟩ := bind2 hgo2
          obtain ⟨⟨rest', w7⟩, hr, hgo2⟩ := bind2 hgo2
          cases hgo2
          refine ⟨Z, F4, ds1, _, _, _, r4.step s4 d4, hs1, fun T1 F5 H5 A1 s5 d5 hA1 hS1 => ?_⟩
          obtain ⟨hD5, hF5⟩ := s5.out hp hD4 hF4
          have hs5 := hid_stp hF5 s5
          have hS1' : Src K Z.p T1 F5 H5 [] zs1 := by rw [← hA1 rfl]; exact hS1
          have hlen2 : acc2.length + ys1.length ≤ line := by
            have := congrArg List.length hcat
            rw [List.length_append, List.length_append] at this
            have hl' : ys.length ≤ 100000 := hl
            show _ ≤ 100000
            dsimp only at this
            omega
          have r3w := r3.wipe vs
          have r4h : R K Z F3 (J.hid D H3) σ2 ds1 w3 := r4.hide r3w hp fun i s hi ho => by
            obtain ⟨q1, q2⟩ := hgo _ _ _ htg i s hi ho
            exact ⟨q2, hsame i q1⟩
          have r5h : R K Z F5 (J.hid D H5) σ2 ds1 w5 := r4h.step (hs4.trans hs5) (d5.hid hp)
          refine lc_inner hj1 r5h hp hD5 hF5 (hacc2.mono (s3.f.trans (s4.f.trans s5.f))) hS1' hg1 hlen2 fun F6 H6 us6 s6 r6 hD6 hF6 hacc6 => ?_
          have st : Stp Z.p F1 H1 F6 (J.hid D H6) := (((s2.trans hs3).trans hs4).trans hs5).trans s6
          exact ⟨rfl, by omega, F6, acc2 ++ ys1, us6, rest', w6, st, r3.step ((hs4.trans hs5).trans s6) r6.dr, hD6, hF6, hacc6, hr, by rw [List.append_assoc]; exact hcat⟩
        · rename_i hb
          dsimp only at hgo2
          rw [if_neg hb] at hgo2
          exact ⟨rfl, by omega, F4, acc2, us2, rest, w4, (s2.trans hs3).trans hs4, r3.step hs4 (d4.hid hp), hD4, hF4, hacc2.mono (s3.f.trans s4.f), hgo2, hcat⟩
    · left
      refine ⟨hstop (by omega), ?_⟩
      have hnil : xs.drop i = [] := List.drop_eq_nil_of_le (by omega)
      rw [hnil] at hgo2
      cases hgo2
      rw [List.append_nil] at hcat
      subst hcat
      have st := stp_shown hD hF2 s2
      refine k D us2 F2 H2 (s1.trans st) hR2.dr hD2 ?_ hF2 hp hacc2
      cases q : H D with
      | none => rfl
      | some o =>
        have := s1.h D o hp q
        rw [hD] at this
        cases this
  · cases hf
end
abbrev Blk (X : Cx) (scope : Scope) (P : Cx → Prop) : Prop := ∀ (s : Shared) (H : Hp) (C : Addr) (cl : List (Str × Addr)) (fp : List Addr), P (X.blk s H scope (compEnvC scope cl C X.env) fp)
section
variable {X : Cx} {elt tg iter tg1 iter1 : Expr} {ifs ifs1 : List Expr} {scope : Scope} {own : List (Str × Nat)} {vs1 : List Nat} {b : Bool} {src src1 : Ef} {g g1 : Eg} {c c1 : Et} {e : Ev} {js js1 : List Nat}
theorem jf_lc2 {pos : Pos} (hc : X.calm = true) (hN : X.N.Nodup) (hi : JI X tg iter b src) (ok : BlkOk X.N X.env.scope scope own) (hg : Blk X scope fun Y => JG Y tg g js) (ht : Blk X scope fun Y => JTs Y ifs c)
    (hi1 : Blk X scope fun Y => JI Y tg1 iter1 false src1) (hg1 : Blk X scope fun Y => JG Y tg1 g1 js1) (ht1 : Blk X scope fun Y => JTs Y ifs1 c1) (he : Blk X scope fun Y => JE Y elt e) (hk : GOk g js)
    (hv : ∀ i ∈ vs1, i ∈ own.map (·.2) := by decide) (hj : ∀ i ∈ js, i ∈ own.map (·.2) := by decide) (hj1 : ∀ i ∈ js1, i ∈ vs1 := by decide) (hs : ∀ x, foldedSetIterable iter X.env x = pure x := by intro _; rfl) (hs1 : ∀ env x, foldedSetIterable iter1 env x = pure x := by intro _ _; rfl) :
    JF X (.ListComp elt [⟨tg, iter, ifs, 0⟩, ⟨tg1, iter1, ifs1, 0⟩] scope pos) (fLc2 src g c src1 g1 c1 e (own.map (·.2)) vs1) :=
  ⟨pe_weak (pe_lc2 hc hN hi.run ok hv (fun s H C cl fp => (hg s H C cl fp).run) (fun s H C cl fp => (ht s H C cl fp).run) (fun s H C cl fp => (hi1 s H C cl fp).run) (fun s H C cl fp => (hg1 s H C cl fp).run) (fun s H C cl fp => (ht1 s H C cl fp).run) (fun s H C cl fp => (he s H C cl fp).run) hs hs1) (lc2_of hj hj1 hv hk)⟩
theorem js_setLc2 {y : Str} {py pos pos' : Pos} (i : Nat) (hc : X.calm = true) (hN : X.N.Nodup) (hsw : swapsWith (.ListComp elt [⟨tg, iter, ifs, 0⟩, ⟨tg1, iter1, ifs1, 0⟩] scope pos') (some (.Name y py)) pos.line X.env = pure true) (hi : JI X tg iter b src) (ok : BlkOk X.N X.env.scope scope own) (hg : Blk X scope fun Y => JG Y tg g js) (ht : Blk X scope fun Y => JTs Y ifs c)
    (hi1 : Blk X scope fun Y => JI Y tg1 iter1 false src1) (hg1 : Blk X scope fun Y => JG Y tg1 g1 js1) (ht1 : Blk X scope fun Y => JTs Y ifs1 c1) (he : Blk X scope fun Y => JE Y elt e) (hk : GOk g js) (hy : X.N[i]? = some y := by rfl) (hyl : X.env.scope.names.lookup y = some .local := by rfl)
    (hv : ∀ i ∈ vs1, i ∈ own.map (·.2) := by decide) (hj : ∀ i ∈ js, i ∈ own.map (·.2) := by decide) (hj1 : ∀ i ∈ js1, i ∈ vs1 := by decide) (hs : ∀ x, foldedSetIterable iter X.env x = pure x := by intro _; rfl) (hs1 : ∀ env x, foldedSetIterable iter1 env x = pure x := by intro _ _; rfl) :
    JS X (.Assign [.Name y py] (.ListComp elt [⟨tg, iter, ifs, 0⟩, ⟨tg1, iter1, ifs1, 0⟩] scope pos') pos) (sSetO i (fLc2 src g c src1 g1 c1 e (own.map (·.2)) vs1)) :=
  ⟨ps_weak (ps_setLc2 hc hN hy hyl hsw hi.run ok hv (fun s H C cl fp => (hg s H C cl fp).run) (fun s H C cl fp => (ht s H C cl fp).run) (fun s H C cl fp => (hi1 s H C cl fp).run) (fun s H C cl fp => (hg1 s H C cl fp).run) (fun s H C cl fp => (ht1 s H C cl fp).run) (fun s H C cl fp => (he s H C cl fp).run) hs hs1) fun D σ H ⟨Z, F, ds, w, o, rr, hf, k⟩ => by
    obtain ⟨d, hd, hf⟩ := bind2 hf
    cases hf
    exact lc2_of hj hj1 hv hk σ H _ ⟨Z, F, ds, w, _, _, rr, hd, fun q vs F1 H1 s1 d1 h1 h2 h3 h4 h5 => k _ F1 H1 s1.f (R.fresh i rr s1 d1 h1 h2 h3 h4 h5)⟩⟩
end
/-! the meanings of these, applied -/
@[simp] theorem lcGo2_nil (tg : Eg) (c : Et) (src1 : Ef) (tg1 : Eg) (c1 : Et) (e : Ev) (vs1 : List Nat) (ds : List Sl) (w : Wd) : lcGo2 tg c src1 tg1 c1 e vs1 ds [] w = some ([], w) := rfl
theorem lcGo2_yes {tg : Eg} {src1 : Ef} {tg1 : Eg} {c1 : Et} {e : Ev} {vs1 : List Nat} {ds ds1 : List Sl} {x : D} {xs zs : List D} {w w1 : Wd} {ys : List D × Wd} (h1 : tg ds x = some ds1) (h2 : src1 ds1 w = some (zs, w1)) (h3 : lcGo tg1 c1 e (wipeS ds1 vs1) zs w1 = some ys) :
    lcGo2 tg tYesJ src1 tg1 c1 e vs1 ds (x :: xs) w = (lcGo2 tg tYesJ src1 tg1 c1 e vs1 ds xs ys.2).bind fun r => some (ys.1 ++ r.1, r.2) := by
  conv => lhs; unfold lcGo2
  rw [h1]
  simp only [Option.bind_some, tYesJ, if_true, h2, h3]
/-- two clauses without tests whose parts draw nothing -/
theorem lcGo2_map {α β : Type} (enc : α → D) (out : β → D) {tg : Eg} {src1 : Ef} {tg1 : Eg} {c1 : Et} {e : Ev} {vs1 : List Nat} {ds : List Sl} {w : Wd} (f : α → List β) : ∀ xs : List α, (∀ a ∈ xs, ∃ ds1 zs, tg ds (enc a) = some ds1 ∧ src1 ds1 w = some (zs, w) ∧ lcGo tg1 c1 e (wipeS ds1 vs1) zs w = some ((f a).map out, w)) →
    lcGo2 tg tYesJ src1 tg1 c1 e vs1 ds (xs.map enc) w = some ((xs.flatMap f).map out, w)
  | [], _ => rfl
  | a :: xs, h => by
    obtain ⟨ds1, zs, h1, h2, h3⟩ := h a List.mem_cons_self
    rw [List.map_cons, lcGo2_yes h1 h2 h3, lcGo2_map enc out f xs fun b hb => h b (List.mem_cons_of_mem _ hb)]
    simp
def l2c1 (tg : Eg) (c : Et) (src1 : Ef) (tg1 : Eg) (c1 : Et) (e : Ev) (vs1 : List Nat) (ds : List Sl) : Option (List D × Wd) → Option (List D × Wd)
  | some (xs, w1) => lc2 (lcGo2 tg c src1 tg1 c1 e vs1 ds xs w1)
  | none => none
@[simp] theorem l2c1.on (tg : Eg) (c : Et) (src1 : Ef) (tg1 : Eg) (c1 : Et) (e : Ev) (vs1 : List Nat) (ds : List Sl) (xs : List D) (w1 : Wd) : l2c1 tg c src1 tg1 c1 e vs1 ds (some (xs, w1)) = lc2 (lcGo2 tg c src1 tg1 c1 e vs1 ds xs w1) := rfl
@[simp] theorem fLc2.ap (src : Ef) (tg : Eg) (c : Et) (src1 : Ef) (tg1 : Eg) (c1 : Et) (e : Ev) (vs vs1 : List Nat) (ds : List Sl) (w : Wd) : fLc2 src tg c src1 tg1 c1 e vs vs1 ds w = l2c1 tg c src1 tg1 c1 e vs1 (wipeS ds vs) (src ds w) := by
  unfold fLc2
  rcases src ds w with _ | ⟨xs, w1⟩
  · rfl
  · show (lcGo2 tg c src1 tg1 c1 e vs1 (wipeS ds vs) xs w1).bind _ = lc2 (lcGo2 tg c src1 tg1 c1 e vs1 (wipeS ds vs) xs w1)
    rcases lcGo2 tg c src1 tg1 c1 e vs1 (wipeS ds vs) xs w1 with _ | ⟨b, w2⟩ <;> rfl
end J
namespace J
open PySem PyProof.Rows L2
/-! ### sorted, sum of a tuple -/
section
variable {prog : Program} {w : World} {A : Around} {E : Value → Shared → Prop} {s : Shared}
theorem coll_tup {t : Addr} {its : List Value} {Q : List Value → Shared → Prop} (ht : s.heap.IsTuple t its.toArray) (hn : its.length ≤ sizeLine)
    (q : Q its { s with heap := (s.heap.push (seqObj "list" #[] 0)).update s.heap.objs.size (Obj.mapSeq fun z => z ++ its.toArray) }) : wpAny (model prog w) A (collect (.ref t)) Q E s := by
  obtain ⟨ob, e1, e2, c, e3⟩ := id ht
  unfold collect
  refine wpAny_bind (wpAny_runValue (codeAny_builtin entry_proto_collect' ?_))
  show wpAny (model prog w) _ (newList [] >>= fun v => again (.builtin "list.__iadd__" ⟨[v, .ref t], []⟩)) _ _ s
  refine wpAny_bind (wpAny_newList (wpAny_pure ⟨Code.quiet_builtin _ (by decide +kernel), codeAny_builtin entry_list_iadd' ?_⟩))
  show wpAny (model prog w) _ (Builtin.List.listExtendWith (.ref s.heap.objs.size) (.ref t) (.ref s.heap.objs.size)) _ _ _
  unfold Builtin.List.listExtendWith
  have e1' : (s.heap.push (seqObj "list" #[] 0)).get? t = some ob := Heap.get?_push_of_some _ e1
  refine wpAny_bind (wpAny_typeOf (T := "tuple") ⟨ob, e1', e2⟩ ?_)
  have k : (Value.type "tuple" == Value.type "tuple") = true := by rfl
  rw [if_pos (by rw [k, Bool.or_true])]
  refine wpAny_bind (listItems_at e1' e3 ?_)
  refine wpAny_bind (listItems_at (Heap.get?_push_size _ rfl) rfl ?_)
  rw [if_neg (by simp)]
  refine wpAny_bind (listUpdate_at (Heap.get?_push_size _ rfl) rfl ?_ (Nat.zero_le _) (by
    show (#[] ++ its.toArray).size ≤ sizeLine + 1
    simp only [Array.size_append, List.size_toArray, List.length_nil]
    omega))
  refine wpAny_pure ?_
  show wpAny (model prog w) A (load s.heap.objs.size >>= fun o => match o.data with
    | .seq z _ => pure z.toList
    | _ => unsupported "internal:collect") Q E _
  refine wpAny_bind (wpAny_load (get?_update_seq (Heap.get?_push_size _ rfl) _) ?_)
  show wpAny (model prog w) A (pure (#[] ++ its.toArray : Array Value).toList) Q E _
  rw [show (#[] ++ its.toArray : Array Value).toList = its by simp]
  exact wpAny_pure q
/-- sorted(t): as of a list -/
theorem sorted_tup {t : Addr} {its : List Value} {ltv : Value → Value → Bool} {Q : Value → Shared → Prop} (O : SrtO.Swo ltv) (ht : s.heap.IsTuple t its.toArray) (hn : its.length ≤ sizeLine)
    (hS : 2 ≤ its.length → ∀ (g : Heap) (a : Addr), g.get? a = some (seqObj "list" its.toArray 0) → (∀ b o, s.heap.get? b = some o → b ≠ a ∧ g.get? b = some o) → SrtO.SortableO prog w A.in1.in1 { s with heap := g } a its ltv)
    (q : ∀ out : List Value, SrtO.Srtd ltv out → SrtO.Stb ltv out its → Q (.ref (s.heap.objs.size + 1)) { s with heap := sortedAll s.heap its out.toArray }) : wpAny (model prog w) A (call (.builtin "sorted") [.ref t]) Q E s := by
  refine Calls.call_function_entry kind_sorted plain_sorted entry_sorted (args_sorted1 _) ?_
  unfold Builtin.«sorted»
  refine wpAny_bind (m := checkCount "sorted" 1 1 _) (wpAny_pure (wpAny_bind (coll_tup ht hn (wpAny_bind (wpAny_newList ?_ hn)))))
  let g := (s.heap.push (seqObj "list" #[] 0)).update s.heap.objs.size (Obj.mapSeq fun z => z ++ its.toArray)
  have gs : g.objs.size = s.heap.objs.size + 1 := (Heap.size_update ..).trans (size_push' ..)
  have gl : (g.push (seqObj "list" its.toArray 0)).get? (s.heap.objs.size + 1) = some (seqObj "list" its.toArray 0) := by
    rw [← gs]
    exact Heap.get?_push_size _ rfl
  have gk : ∀ b o, s.heap.get? b = some o → b ≠ s.heap.objs.size + 1 ∧ (g.push (seqObj "list" its.toArray 0)).get? b = some o := fun b o e => by
    have lt := Heap.lt_size e
    exact ⟨Nat.ne_of_lt (Nat.lt_succ_of_lt lt), Heap.get?_push_of_some _ ((Heap.get?_update_ne _ _ _ _ (Nat.ne_of_lt lt)).trans (Heap.get?_push_of_some _ e))⟩
  show wpAny (model prog w) _ _ _ _ { s with heap := g.push (seqObj "list" its.toArray 0) }
  rw [show ((s.heap.push (seqObj "list" #[] 0)).update s.heap.objs.size (Obj.mapSeq fun z => z ++ its.toArray)).objs.size = s.heap.objs.size + 1 from gs]
  refine wpAny_bind (wpAny_holding (wpAny_call_entry slot_list_sort ⟨_, gl, rfl⟩ entry_list_sort (SrtO.list_sort_ord O gl hn (fun h2 => hS h2 _ _ gl gk) fun out a b => ⟨_, rfl, ?_⟩) (args_list_sort _)))
  exact wpAny_pure ⟨_, rfl, q out a b⟩
end
section
variable {X : Cx}
def rSortedIT (K : PySem.W.Frag) : List V → Hp → VK → Prop := fun vs H Q => ∃ (a : Addr) (ns : List Int), vs = [V.ref a] ∧ SqT K H a (ns.map V.int) ∧ ∀ (ns' : List Int) (p : Addr), ns'.Perm ns → ns'.Pairwise (· ≤ ·) → H p = none → Q (.ref p) (upd H p (.lst (ns'.map V.int)))
theorem cr_sortedIT : CallR X (.builtin "sorted") (rSortedIT X.K) := by
  intro pins s σ H vs us Q I r h
  obtain ⟨a, ns, rfl, hs, q⟩ := h
  obtain ⟨its, rv, hl, hz⟩ := I.tuple hs
  rw [Vals.ref1 r]
  have hi := rv.ints
  refine sorted_tup SrtO.swo_int hl (by rw [← rv.length]; exact hz) (fun h2 _ _ _ _ => SrtO.ints_sortable hi h2) fun out h1 h2 => ?_
  obtain ⟨k1, k2, k3⟩ := SrtO.ints_out hi h1 h2
  obtain ⟨ep, he'⟩ := PyProof.Rows.sortedAll_at s.heap its out.toArray
  have hlen : ((out.map SrtO.iv).map V.int).length ≤ sizeLine := by
    rw [List.length_map, k2.length_eq]
    rwa [List.length_map] at hz
  exact ⟨.ref _, upd H (s.heap.objs.size + 1) (.lst ((out.map SrtO.iv).map V.int)), I.laid (t' := s.toks) (fun _ _ => PyProof.Rows.sortedAll_old) (Nat.le_succ _) ⟨hlen, out, ep, vals_of_ints k1, he'⟩, rfl, q _ _ k2 k3 (I.hok.fresh (Nat.le_succ _))⟩
def rSumT (K : PySem.W.Frag) : List V → Hp → VK → Prop := fun vs H Q => ∃ (a : Addr) (ns : List Int), vs = [V.ref a] ∧ SqT K H a (ns.map V.int) ∧ Q (.int ns.sum) H
theorem cr_sumT (hc : X.calm = true) : CallR X (.builtin "sum") (rSumT X.K) := by
  intro pins s σ H vs us Q I r h
  obtain ⟨a, ns, rfl, hs, q⟩ := h
  obtain ⟨its, rv, hl, _⟩ := I.tuple hs
  rw [Vals.ref1 r]
  have hi := rv.ints
  obtain ⟨xs, e⟩ := hi.allInts.items
  have hn : numsOf (intItems xs).toList = ns := by rw [← e]; exact hi.numsOf
  rw [nums_intItems] at hn
  rw [e] at hl
  refine PySem.W.ktm_sumG (I.ok.hd hc) hl fun h' tk t' hk => ⟨.int _, H, I.kept hk, ⟨t', ?_⟩, q⟩
  rw [preSum_eq, List.take_of_length_le (by simp), hn]
end
/-! ### lists of tuples of ints, in order -/
def llt : List Int → List Int → Bool
  | [], [] => false
  | [], _ :: _ => true
  | _ :: _, [] => false
  | a :: r, b :: q => decide (a < b) || (decide (a = b) && llt r q)
def insL (x : List Int) : List (List Int) → List (List Int)
  | [] => [x]
  | y :: l => if llt y x then y :: insL x l else x :: y :: l
def isort (l : List (List Int)) : List (List Int) := l.foldr insL []
theorem insL_perm (x : List Int) : ∀ l : List (List Int), (insL x l).Perm (x :: l)
  | [] => List.Perm.refl _
  | y :: l => by
    unfold insL
    split
    · exact ((insL_perm x l).cons y).trans (List.Perm.swap x y l)
    · exact List.Perm.refl _
theorem isort_perm : ∀ l : List (List Int), (isort l).Perm l
  | [] => List.Perm.refl _
  | x :: l => (insL_perm x (isort l)).trans ((isort_perm l).cons x)
def Bd1 (ns : List Int) : Prop := TS.Bd 1000 ns
theorem llt_code : ∀ (a b : List Int), a.length = b.length → Bd1 a → Bd1 b → llt a b = decide (TS.code 1000 a < TS.code 1000 b)
  | [], [], _, _, _ => rfl
  | [], _ :: _, h, _, _ => by cases h
  | _ :: _, [], h, _, _ => by cases h
  | x :: r, y :: q, h, ha, hb => by
    have hl : r.length = q.length := by simpa using h
    unfold llt
    rcases Int.lt_trichotomy x y with z | z | z
    · rw [decide_eq_true z, Bool.true_or, decide_eq_true (TS.code_lt hl ha.tail hb.tail z)]
    · subst z
      rw [decide_eq_false (Int.lt_irrefl x), Bool.false_or, decide_eq_true rfl, Bool.true_and, llt_code r q hl ha.tail hb.tail]
      exact decide_eq_decide.mpr (TS.code_same hl).symm
    · have k := TS.code_lt hl.symm hb.tail ha.tail z
      rw [decide_eq_false (by omega), decide_eq_false (by omega), Bool.false_or, Bool.false_and, decide_eq_false (by omega)]
theorem code_inj : ∀ (a b : List Int), a.length = b.length → Bd1 a → Bd1 b → TS.code 1000 a = TS.code 1000 b → a = b
  | [], [], _, _, _, _ => rfl
  | [], _ :: _, h, _, _, _ => by cases h
  | _ :: _, [], h, _, _, _ => by cases h
  | x :: r, y :: q, h, ha, hb, e => by
    have hl : r.length = q.length := by simpa using h
    rcases Int.lt_trichotomy x y with z | z | z
    · have k := TS.code_lt hl ha.tail hb.tail z
      omega
    · subst z
      have k1 := TS.code_same (B := 1000) (d := x) hl
      have k2 := TS.code_same (B := 1000) (d := x) hl.symm
      rw [code_inj r q hl ha.tail hb.tail (by
        have a1 : ¬TS.code 1000 r < TS.code 1000 q := fun z => by
          have := k1.mpr z
          omega
        have a2 : ¬TS.code 1000 q < TS.code 1000 r := fun z => by
          have := k2.mpr z
          omega
        omega)]
    · have k := TS.code_lt hl.symm hb.tail ha.tail z
      omega
/-- bounded, of one length -/
def Alike (d : Nat) (l : List (List Int)) : Prop := ∀ ns ∈ l, ns.length = d ∧ Bd1 ns
theorem insL_pair {d : Nat} {x : List Int} (hx : x.length = d ∧ Bd1 x) : ∀ {l : List (List Int)}, Alike d l → l.Pairwise (fun a b => TS.code 1000 a ≤ TS.code 1000 b) → (insL x l).Pairwise (fun a b => TS.code 1000 a ≤ TS.code 1000 b)
  | [], _, _ => List.pairwise_singleton _ _
  | y :: l, hl, hp => by
    have hy := hl y List.mem_cons_self
    have hl' : Alike d l := fun z hz => hl z (List.mem_cons_of_mem _ hz)
    have q := llt_code y x (hy.1.trans hx.1.symm) hy.2 hx.2
    obtain ⟨p1, p2⟩ := List.pairwise_cons.mp hp
    unfold insL
    split
    · rename_i h
      rw [q] at h
      have h' := of_decide_eq_true h
      refine List.pairwise_cons.mpr ⟨fun z hz => ?_, insL_pair hx hl' p2⟩
      rcases List.mem_cons.mp ((insL_perm x l).mem_iff.mp hz) with e | e
      · subst e
        omega
      · exact p1 z e
    · rename_i h
      rw [q] at h
      have h' : ¬TS.code 1000 y < TS.code 1000 x := fun z => h (decide_eq_true z)
      refine List.pairwise_cons.mpr ⟨fun z hz => ?_, hp⟩
      rcases List.mem_cons.mp hz with e | e
      · subst e
        omega
      · have := p1 z e
        omega
theorem isort_pair {d : Nat} : ∀ {l : List (List Int)}, Alike d l → (isort l).Pairwise (fun a b => TS.code 1000 a ≤ TS.code 1000 b)
  | [], _ => List.Pairwise.nil
  | x :: l, h => by
    have hl : Alike d l := fun z hz => h z (List.mem_cons_of_mem _ hz)
    exact insL_pair (h x List.mem_cons_self) (fun z hz => hl z ((isort_perm l).mem_iff.mp hz)) (isort_pair hl)
theorem map_inj_on {α β : Type} (f : α → β) : ∀ (l m : List α), (∀ a ∈ l, ∀ b ∈ m, f a = f b → a = b) → l.map f = m.map f → l = m
  | [], [], _, _ => rfl
  | [], _ :: _, _, e => by cases e
  | _ :: _, [], _, e => by cases e
  | a :: l, b :: m, h, e => by
    rw [List.map_cons, List.map_cons] at e
    injection e with e1 e2
    rw [h a List.mem_cons_self b List.mem_cons_self e1, map_inj_on f l m (fun x hx y hy => h x (List.mem_cons_of_mem _ hx) y (List.mem_cons_of_mem _ hy)) e2]
theorem isort_uniq {d : Nat} {l m : List (List Int)} (hl : Alike d l) (hp : m.Perm l) (hs : m.Pairwise (fun a b => TS.code 1000 a ≤ TS.code 1000 b)) : m = isort l := by
  have e := PySem.W.ksm_same ((hp.trans (isort_perm l).symm).map (TS.code 1000)) (List.pairwise_map.mpr hs) (List.pairwise_map.mpr (isort_pair hl))
  refine map_inj_on _ _ _ (fun a ha b hb h => ?_) e
  have h1 := hl a (hp.mem_iff.mp ha)
  have h2 := hl b ((isort_perm l).mem_iff.mp hb)
  exact code_inj a b (h1.1.trans h2.1.symm) h1.2 h2.2 h
theorem perm_map_back {α β : Type} (f : α → β) {ys xs : List β} (p : ys.Perm xs) : ∀ zs : List α, xs = zs.map f → ∃ zs' : List α, zs'.Perm zs ∧ ys = zs'.map f := by
  induction p with
  | nil =>
    intro zs e
    have : zs = [] := List.map_eq_nil_iff.mp e.symm
    subst this
    exact ⟨[], List.Perm.refl _, rfl⟩
  | cons x _ ih =>
    intro zs e
    cases zs with
    | nil => cases e
    | cons z zs =>
      rw [List.map_cons] at e
      injection e with e1 e2
      obtain ⟨zs', h1, h2⟩ := ih zs e2
      exact ⟨z :: zs', h1.cons z, by rw [e1, h2]; rfl⟩
  | swap x y l =>
    intro zs e
    match zs, e with
    | [], e => cases e
    | [_], e => cases e
    | a :: b :: zs, e =>
      rw [List.map_cons, List.map_cons] at e
      injection e with e1 e2
      injection e2 with e2 e3
      exact ⟨b :: a :: zs, List.Perm.swap _ _ _, by rw [e1, e2, e3]; rfl⟩
  | trans _ _ ih1 ih2 =>
    intro zs e
    obtain ⟨zs', h1, h2⟩ := ih2 zs e
    obtain ⟨zs2, h3, h4⟩ := ih1 zs' h2
    exact ⟨zs2, h3.trans h1, h4⟩
def tupD (ns : List Int) : D := .tup (ns.map D.int)
def tupsOf : List D → Option (List (List Int))
  | [] => some []
  | .tup ds :: r => (intsOf ds).bind fun ns => (tupsOf r).bind fun l => some (ns :: l)
  | _ :: _ => none
theorem tupsOf_map : ∀ l : List (List Int), tupsOf (l.map tupD) = some l
  | [] => rfl
  | ns :: l => by
    show (intsOf (ns.map D.int)).bind _ = _
    rw [intsOf_map]
    show (tupsOf (l.map tupD)).bind _ = _
    rw [tupsOf_map l]
    rfl
theorem tupsOf_eq : ∀ (xs : List D) (l : List (List Int)), tupsOf xs = some l → xs = l.map tupD
  | [], l, h => by cases h; rfl
  | .tup ds :: r, l, h => by
    obtain ⟨ns, h1, h⟩ := bind2 (show (intsOf ds).bind _ = _ from h)
    obtain ⟨l', h2, h⟩ := bind2 h
    cases h
    rw [tupsOf_eq r l' h2, intsOf_eq h1]
    rfl
  | .non :: _, l, h => by cases h
  | .bl _ :: _, l, h => by cases h
  | .int _ :: _, l, h => by cases h
  | .str _ :: _, l, h => by cases h
  | .ty _ :: _, l, h => by cases h
  | .draw :: _, l, h => by cases h
  | .lst _ :: _, l, h => by cases h
  | .obj _ _ _ :: _, l, h => by cases h
  | .dk _ _ :: _, l, h => by cases h
  | .dt _ _ :: _, l, h => by cases h
def okTs (l : List (List Int)) : Bool := decide (l.length < 64) && l.all fun ns => decide (ns.length = (l.headD [0]).length) && (decide (0 < ns.length) && ns.all fun m => decide (0 ≤ m) && decide (m < 1000))
theorem okTs_on {l : List (List Int)} (h : okTs l = true) : l.length < 64 ∧ ∃ d, 1 ≤ d ∧ Alike d l := by
  unfold okTs at h
  simp only [Bool.and_eq_true, decide_eq_true_eq, List.all_eq_true] at h
  refine ⟨h.1, ?_⟩
  cases l with
  | nil => exact ⟨1, Nat.le_refl 1, fun _ z => nomatch z⟩
  | cons a l => exact ⟨a.length, (h.2 a List.mem_cons_self).2.1, fun ns hn => ⟨(h.2 ns hn).1, fun m hm => (h.2 ns hn).2.2 m hm⟩⟩
theorem dens_tups {K : PySem.W.Frag} {p : Addr} {F : Hp} : ∀ {l : List (List Int)} {us : List V}, Dens K p F (l.map tupD) us → ∃ ks : List (Addr × List Int), us = ks.map (fun q => V.ref q.1) ∧ ks.map (fun q => q.2) = l ∧ ∀ q ∈ ks, SqU K F q.1 (q.2.map V.int)
  | [], us, h => by
    unfold List.map Dens at h
    exact ⟨[], h, rfl, fun _ z => nomatch z⟩
  | ns :: l, us, h => by
    rw [List.map_cons] at h
    unfold Dens at h
    obtain ⟨v, r, rfl, h1, h2⟩ := h
    unfold tupD Den at h1
    obtain ⟨a, vs, rfl, h3, h4⟩ := h1
    rw [h4.ints'] at h3
    obtain ⟨ks, e1, e2, e3⟩ := dens_tups h2
    refine ⟨(a, ns) :: ks, by rw [e1]; rfl, by rw [List.map_cons, e2], fun q hq => ?_⟩
    rcases List.mem_cons.mp hq with e | e
    · subst e
      exact h3
    · exact e3 q e
theorem tups_dens {K : PySem.W.Frag} {p : Addr} {F : Hp} : ∀ (ks : List (Addr × List Int)), (∀ q ∈ ks, SqU K F q.1 (q.2.map V.int)) → Dens K p F ((ks.map fun q => q.2).map tupD) (ks.map fun q => V.ref q.1)
  | [], _ => dens_nil
  | q :: ks, h => by
    refine dens_cons ?_ (tups_dens ks fun z hz => h z (List.mem_cons_of_mem _ hz))
    unfold tupD Den
    exact ⟨q.1, _, rfl, h q List.mem_cons_self, Dens.ints _⟩
def gfSort : List D → Option (List D)
  | [.lst xs] => match intsOf xs with
    | some ns => some ((sortI ns).map D.int)
    | none => (tupsOf xs).bind fun l => if okTs l then some ((isort l).map tupD) else none
  | [.tup xs] => (intsOf xs).bind fun ns => some ((sortI ns).map D.int)
  | _ => none
def rSortU' (K : PySem.W.Frag) : List V → Hp → VK → Prop := fun vs H Q => ∃ d, 1 ≤ d ∧ rSortU K d 1000 vs H Q
theorem cr_sortU {X : Cx} : CallR X (.builtin "sorted") (rSortU' X.K) := fun pins s σ H vs us Q I r h => let ⟨_, hd, h⟩ := h; cr_sortT hd pins s σ H vs us Q I r h
theorem s_sort2 {K : PySem.W.Frag} : CalF K (fun vs H Q => rSortedI K vs H Q ∨ (rSortedIT K vs H Q ∨ rSortU' K vs H Q)) gfSort := fun Z F H σ ds w as xs vs Q r h hg k => by
  unfold gfSort at hg
  split at hg
  · obtain ⟨v, rfl, hv⟩ := densB1 h
    split at hg
    · rename_i ns h1
      cases hg
      obtain ⟨a, rfl, h3⟩ := lstInts hv r.ex h1
      refine .inl ⟨a, ns, rfl, h3, fun ns' p hp hs hn => ?_⟩
      have e : ns' = sortI ns := PySem.W.ksm_same (hp.trans (sortI_perm ns).symm) hs (sortI_pair ns)
      rw [e]
      exact k.new r (Dens.ints _) p hn
    · obtain ⟨l, h1, hg⟩ := bind2 hg
      split at hg
      · rename_i hok
        cases hg
        obtain ⟨h64, d, hd, hal⟩ := okTs_on hok
        obtain ⟨q, us, rfl, h2, h3⟩ := hv.lst r.ex
        rw [tupsOf_eq _ _ h1] at h3
        obtain ⟨ks, rfl, rfl, hks⟩ := dens_tups h3
        have inj : ∀ z ∈ ks, TupI K H (V.ref z.1) z.2 := fun z hz => ⟨z.1, rfl, same_t (hks z hz) r.ex⟩
        refine .inr (.inr ⟨d, hd, q, _, rfl, .of h2, by rw [List.length_map] at h64 ⊢; exact h64, fun x hx => ?_, fun ys p hp hs hn => ?_⟩)
        · obtain ⟨z, hz, rfl⟩ := List.mem_map.mp hx
          have := hal z.2 (List.mem_map_of_mem hz)
          exact ⟨z.2, inj z hz, this.1, this.2⟩
        · obtain ⟨zs, hz, rfl⟩ := perm_map_back (fun q : Addr × List Int => V.ref q.1) hp ks rfl
          have hzk : ∀ z ∈ zs, z ∈ ks := fun z m => hz.mem_iff.mp m
          have hpw : (zs.map fun q => q.2).Pairwise (fun a b => TS.code 1000 a ≤ TS.code 1000 b) := by
            refine List.pairwise_map.mpr ((List.pairwise_map.mp hs).imp_of_mem fun {a b} ha hb hab => ?_)
            exact hab a.2 b.2 (inj a (hzk a ha)) (inj b (hzk b hb))
          have e := isort_uniq hal (hz.map fun q => q.2) hpw
          rw [← e] at k
          exact k.new r (tups_dens zs fun z m => hks z (hzk z m)) p hn
      · cases hg
  · obtain ⟨ns, h1, hg⟩ := bind2 hg
    cases hg
    obtain ⟨v, rfl, hv⟩ := densB1 h
    obtain ⟨a, us, rfl, h2, h3⟩ := hv.tup
    rw [intsOf_eq h1] at h3
    rw [h3.ints'] at h2
    refine .inr (.inl ⟨a, ns, rfl, same_t h2 r.ex, fun ns' p hp hs hn => ?_⟩)
    have e : ns' = sortI ns := PySem.W.ksm_same (hp.trans (sortI_perm ns).symm) hs (sortI_pair ns)
    rw [e]
    exact k.new r (Dens.ints _) p hn
  · cases hg
def gSumB : List D → Option D
  | [.lst xs] => (intsOf xs).bind fun ns => some (.int ns.sum)
  | [.tup xs] => (intsOf xs).bind fun ns => some (.int ns.sum)
  | _ => none
theorem s_sumB {K : PySem.W.Frag} : CalS K (fun vs H Q => rSum K vs H Q ∨ rSumT K vs H Q) gSumB := fun Z F H σ ds w as d vs Q r h hg k => by
  unfold gSumB at hg
  split at hg
  · obtain ⟨ns, h1, h2⟩ := bind2 hg
    cases h2
    obtain ⟨v, rfl, hv⟩ := densB1 h
    obtain ⟨a, rfl, h3⟩ := lstInts hv r.ex h1
    exact .inl ⟨a, ns, rfl, h3, k _ F H r.stp r.dr den_int⟩
  · obtain ⟨ns, h1, h2⟩ := bind2 hg
    cases h2
    obtain ⟨v, rfl, hv⟩ := densB1 h
    obtain ⟨a, us, rfl, h2, h3⟩ := hv.tup
    rw [intsOf_eq h1] at h3
    rw [h3.ints'] at h2
    exact .inr ⟨a, ns, rfl, same_t h2 r.ex, k _ F H r.stp r.dr den_int⟩
  · cases hg
section
variable {X : Cx} {e : Expr} {fs : Ef} {f : Ev} {p p2 pos pos2 : Pos} {k : Nat}
def fSort := fCal gfSort
theorem jf_sort (hm : X.mg "sorted" = none) (hg : Gl X "sorted") (ha : JR X [e] fs) (he : starEach [e] X.env = (false, eval e X.env) :: starEach [] X.env := by rfl) : JF X (.Call (.Name "sorted" p) [e] [] pos) (fSort fs) := jf_bltO (CallR.or cr_sortedI (CallR.or cr_sortedIT cr_sortU)) s_sort2 hg hm (by decide +kernel) ha (by decide) (by decide) he rfl
def eSumB := eCal gSumB
theorem je_sumB (hc : X.calm = true) (hm : X.mg "sum" = none) (hg : Gl X "sum") (ha : JR X [e] fs) (he : starEach [e] X.env = (false, eval e X.env) :: starEach [] X.env := by rfl) : JE X (.Call (.Name "sum" p) [e] [] pos) (eSumB fs) := je_bltO (CallR.or (cr_sum hc) (cr_sumT hc)) s_sumB hg hm (by decide +kernel) ha (by decide) (by decide) he rfl
end
end J
namespace J
open PySem PyProof.Rows L2
section
variable {X : Cx} {K : PySem.W.Frag} {e o : Expr} {fe fo : Ev} {pos p p2 pos2 : Pos}
/-! ### xs.extend(e), e a list -/
def extD (d : D) (xs : List D) : Option (List D) := match d with
  | .lst zs => if xs.length + zs.length ≤ line then some (xs ++ zs) else none
  | _ => none
def sExt (i : Nat) (f : Ev) : Es := fun ds w => (f ds w).bind fun d => (ownTo ds i (extD d.1)).bind fun ds' => some (.nx ds' d.2)
theorem js_ext (i : Nat) {x : Str} {p1 apos cpos : Pos} (he : JE X e fe) (hN : X.N[i]? = some x := by rfl) (hv : Vis X.env.scope x := by first | exact Or.inl rfl | exact Or.inr (Or.inl rfl) | exact Or.inr (Or.inr rfl)) (hd : (x == ("__debug__" : Str)) = false := by decide) (hcd : (x == ("__classdict__" : Str)) = false := by decide)
    (hbase : attributeBase (.Name x p1) "extend" X.env (eval (.Name x p1) X.env) = eval (.Name x p1) X.env := by rfl)
    (hfew : ((backTo cpos (starEach (e :: []) X.env)).all (fun x => !x.1) && (backToKw cpos (keywordEach [] X.env)).all (fun x => x.1.isSome) && decide ((e :: []).length + ([] : List Keyword).length + (if ([] : List Keyword).isEmpty then 0 else 1) < 30)) = true := by rfl)
    (hline : (apos.endLine == cpos.line) = true := by rfl) (hs : starEach (e :: []) X.env = (false, eval e X.env) :: starEach [] X.env := by rfl) (hplain : (backTo cpos (starEach [] X.env)).any (·.1) = false := by rfl)
    (hsw : swapsWith (.Call (.Attribute (.Name x p1) "extend" apos) [e] [] cpos) none pos.line X.env = pure false := by rfl) : JS X (.Expr (.Call (.Attribute (.Name x p1) "extend" apos) [e] [] cpos) pos) (sExt i fe) :=
  ⟨ps_weak (ps_expr (pe_bm PySem.F.plainAttrs_list PySem.F.slot_list_extend PySem.F.type_list_extend mt_extend (pe_var hN hv hd hcd) (pa_cons he.run pa_nil hs) hbase hfew hline hs hplain) hsw) fun D σ H ⟨Z, F, ds, w, o, rr, hf, k⟩ => by
    obtain ⟨d, hd, hf⟩ := bind2 hf
    obtain ⟨ds', ho, hf⟩ := bind2 hf
    cases hf
    obtain ⟨xs, ys, s, s', hi, hys, rfl, hss⟩ := ownTo_spec ho
    unfold extD at hys
    split at hys
    · rename_i zs hz
      split at hys
      · rename_i hl
        cases hys
        obtain ⟨a, vs, h1, h2, h3, h4, h5⟩ := rr.own1 (own_or hi hss)
        refine ⟨.ref a, h1, .inl ⟨rfl, vs, .of h2⟩, Z, F, ds, w, _, _, rr, hd, fun v F1 H1 s1 d1 hv => ?_⟩
        have g2 := s1.h a _ h4 h2
        rw [hz] at hv
        unfold Den at hv
        obtain ⟨b, us, rfl, h6, h7⟩ := hv
        refine ⟨a, b, vs, us, rfl, rfl, g2, s1.e _ _ h6, ?_, ?_⟩
        · rw [h5.len, h7.len]
          exact Nat.le_trans hl (by decide)
        · exact k σ F1 _ s1.f ((rr.step s1 d1).turn hi h1 hss ((h5.mono s1.f).append h7))
      · cases hys
    · cases hys⟩
/-! ### xs.count(k), ints -/
def cntD : D → List D → Option D
  | .lst xs, [.int k] => (intsOf xs).bind fun ns => some (.int ((ns.count k : Nat) : Int))
  | _, _ => none
def eCount (f : Ev) (fs : Ef) : Ev := fun ds w => (f ds w).bind fun a => (fs ds a.2).bind fun b => (cntD a.1 b.1).bind fun d => some (d, b.2)
theorem je_count {fs : Ef} {apos cpos : Pos} (ho : JB X o fo) (ha : JR X [e] fs)
    (hbase : attributeBase o "count" X.env (eval o X.env) = eval o X.env := by rfl)
    (hfew : ((backTo cpos (starEach (e :: []) X.env)).all (fun x => !x.1) && (backToKw cpos (keywordEach [] X.env)).all (fun x => x.1.isSome) && decide ((e :: []).length + ([] : List Keyword).length + (if ([] : List Keyword).isEmpty then 0 else 1) < 30)) = true := by rfl)
    (hline : (apos.endLine == cpos.line) = true := by rfl) (hs : starEach (e :: []) X.env = (false, eval e X.env) :: starEach [] X.env := by rfl) (hplain : (backTo cpos (starEach [] X.env)).any (·.1) = false := by rfl) :
    JE X (.Call (.Attribute o "count" apos) [e] [] cpos) (eCount fo fs) :=
  ⟨pe_weak (pe_bm PySem.F.plainAttrs_list PySem.F.slot_list_count PySem.F.type_list_count mt_lcount ho.run ha.run hbase hfew hline hs hplain) fun σ H Q ⟨Z, F, ds, w, d, w', rr, hf, k⟩ => by
    obtain ⟨a, h1, hf⟩ := bind2 hf
    obtain ⟨b, h2, hf⟩ := bind2 hf
    obtain ⟨c, h3, hf⟩ := bind2 hf
    cases hf
    unfold cntD at h3
    split at h3
    · rename_i xs j ea eb
      obtain ⟨ns, h4, h3⟩ := bind2 h3
      cases h3
      refine ⟨Z, F, ds, w, _, _, rr, h1, fun v F1 H1 s1 d1 hv => ?_⟩
      rw [ea] at hv
      have r1 := rr.step s1 d1
      obtain ⟨q, us, rfl, h5, h6⟩ := hv.lst r1.ex
      rw [intsOf_eq h4] at h6
      rw [h6.ints'] at h5
      refine ⟨.inl ⟨rfl, _, .of h5⟩, Z, F1, ds, _, _, _, r1, h2, fun vs F2 H2 s2 d2 hvs => ?_⟩
      rw [eb] at hvs
      obtain ⟨u, rfl, hu⟩ := densB1 hvs
      cases hu.int
      have hq : q ≠ Z.p := by
        rintro rfl
        obtain ⟨z, hz, _⟩ := r1.dr
        rw [hz] at h5
        cases ns with
        | nil => cases h5
        | cons n ns => cases h5
      exact ⟨q, ns, j, rfl, rfl, .of (s2.h q _ hq h5), k _ F2 H2 (s1.trans s2) d2 den_int⟩
    · cases h3⟩
/-! ### sorted(set(e)), e a list of tuples of ints -/
def ddL : List (List Int) → List (List Int)
  | [] => []
  | x :: l => if l.contains x then ddL l else x :: ddL l
theorem ddL_mem (a : List Int) : ∀ l : List (List Int), a ∈ ddL l ↔ a ∈ l
  | [] => Iff.rfl
  | x :: l => by
    unfold ddL
    split
    · rename_i h
      have h' : x ∈ l := by simpa using h
      rw [ddL_mem a l, List.mem_cons]
      constructor
      · exact .inr
      · rintro (e | e)
        · rw [e]
          exact h'
        · exact e
    · rw [List.mem_cons, List.mem_cons, ddL_mem a l]
theorem ddL_nodup : ∀ l : List (List Int), (ddL l).Nodup
  | [] => List.nodup_nil
  | x :: l => by
    unfold ddL
    split
    · exact ddL_nodup l
    · rename_i h
      refine List.nodup_cons.mpr ⟨fun z => h ?_, ddL_nodup l⟩
      have := (ddL_mem x l).mp z
      simpa using this
theorem perm_of_nodup {α : Type} : ∀ {l m : List α}, l.Nodup → m.Nodup → (∀ a, a ∈ l ↔ a ∈ m) → l.Perm m := fun {l m} h1 h2 h => (List.perm_ext_iff_of_nodup h1 h2).mpr h
def sortSetD : D → Option (List D)
  | .lst xs => (tupsOf xs).bind fun l => if okTs l then some ((isort (ddL l)).map tupD) else none
  | _ => none
def fSortSet (f : Ev) : Ef := fun ds w => (f ds w).bind fun a => (sortSetD a.1).bind fun l => some (l, a.2)
theorem jf_sortset {k : Nat} (hc : X.calm = true) (hr : Room k X.A) (hm : X.mg "sorted" = none) (hm2 : X.mg "set" = none) (hg : Gl X "sorted") (hg2 : Gl X "set") (ha : JB X e fe)
    (he : starEach [.Call (.Name "set" p2) [e] [] pos2] X.env = (false, eval (.Call (.Name "set" p2) [e] [] pos2) X.env) :: starEach [] X.env := by rfl) (he2 : starEach [e] X.env = (false, eval e X.env) :: starEach [] X.env := by rfl) :
    JF X (.Call (.Name "sorted" p) [.Call (.Name "set" p2) [e] [] pos2] [] pos) (fSortSet fe) :=
  ⟨pe_weak (pe_callB (cr_sortedT hc) hg hm (by decide +kernel) (pa_cons (pe_callTy (cr_setOfT hc (by have := hr.un; omega)) hg2 hm2 (by decide +kernel) (pa_cons ha.run pa_nil he2) (by decide) (by decide) he2 rfl) pa_nil he) (by decide) (by decide) he rfl) fun σ H Q ⟨Z, F, ds, w, d, w', rr, hf, kk⟩ => by
    obtain ⟨a, h1, hf⟩ := bind2 hf
    obtain ⟨l0, h2, hf⟩ := bind2 hf
    cases hf
    unfold sortSetD at h2
    split at h2
    · rename_i xs ea
      obtain ⟨l, h3, h2⟩ := bind2 h2
      split at h2
      · rename_i hok
        cases h2
        obtain ⟨h64, d, hd, hal⟩ := okTs_on hok
        refine ⟨Z, F, ds, w, _, _, rr, h1, fun v F1 H1 s1 d1 hv => ?_⟩
        rw [ea] at hv
        have r1 := rr.step s1 d1
        obtain ⟨q, us, rfl, h5, h6⟩ := hv.lst r1.ex
        rw [tupsOf_eq _ _ h3] at h6
        obtain ⟨ks, rfl, rfl, hks⟩ := dens_tups h6
        rw [List.length_map] at h64
        refine ⟨q, ks, rfl, .of h5, fun z hz => same_t (hks z hz) r1.ex, h64, fun b L hb hsub hcov => ?_⟩
        obtain ⟨s2, d2⟩ := r1.newO (o := SetTO X.prog X.w b L) hb
        have r2 := r1.step s2 d2
        refine ⟨b, L, d, 1000, rfl, upd_same, fun z hz => same_t (hks z (hsub z hz)) r2.ex, hd, fun z hz => ?_, fun L' c hp hn h64' hpw hc => ?_⟩
        · exact hal z.2 (List.mem_map_of_mem (hsub z hz))
        · have hL : ∀ z ∈ L', z ∈ ks := fun z hz => hsub z (hp.mem_iff.mp hz)
          have e1 : L'.map (fun q => q.2) = isort (ddL (ks.map fun q => q.2)) := by
            refine isort_uniq (d := d) (fun ns hns => hal ns ((ddL_mem _ _).mp hns)) (perm_of_nodup hn (ddL_nodup _) fun ns => ?_) (List.pairwise_map.mpr hpw)
            rw [ddL_mem]
            constructor
            · intro h
              obtain ⟨z, hz, rfl⟩ := List.mem_map.mp h
              exact List.mem_map_of_mem (hL z hz)
            · intro h
              obtain ⟨z, hz, rfl⟩ := List.mem_map.mp h
              exact (hp.map fun q => q.2).mem_iff.mpr (hcov z hz)
          rw [← e1] at kk
          obtain ⟨s3, d3⟩ := r2.newO (o := .lst (L'.map fun q => V.ref q.1)) hc
          have hc0 : H c = none := by
            cases z : H c with
            | none => rfl
            | some o =>
              have k1 := s1.h c o (by rintro rfl; exact r2.pn hc) z
              have k2 := s2.h c o (by rintro rfl; exact r2.pn hc) k1
              rw [hc] at k2
              cases k2
          exact kk c _ F1 _ ((s1.trans s2).trans s3) d3 upd_same hc0 (r2.ex.free hc) (r2.np hc) (tups_dens L' fun z hz => hks z (hL z hz))
      · cases h2
    · cases h2⟩
end
end J
namespace J
open PySem PyProof.Rows L2
open AutoSeq1 (wpAny_loadPart')
theorem tmul1 (l : Addr) (items : Array Value) (n : Nat) (dd : Option Addr) (sl : Array (Option Value)) (u : Tok) :
    Meets (Builtin.«tuple.__mul__» ⟨[.ref l, .int 1 u], []⟩) (fun _ R s => s.heap.get? l = some { cls := .type "tuple", dict := dd, data := .seq items n, slots := sl } ∧ R (.ok (.ret (Value.ref l))) s) :=
  .of_wp fun prog w A R s h => by
    obtain ⟨hp, g, d, tk, os⟩ := s
    obtain ⟨hl, h⟩ := h
    have f1 := AutoSeq1.idx_int
    wp_walk using wpAny_loadPart' hl
    repeat (first
      | (refine wpAny_ite_false (by decide) ?_; wp_walk using wpAny_loadPart' hl)
      | (refine wpAny_ite_true (by simp) ?_; wp_walk using wpAny_loadPart' hl))
    exact ⟨_, rfl, h⟩
theorem tmul0 (l : Addr) (items : Array Value) (n : Nat) (dd : Option Addr) (sl : Array (Option Value)) (x : Int) (u : Tok) (c0 : (decide (x < -(2 ^ 63)) || decide (x ≥ 2 ^ 63)) = false) (c1 : (items.isEmpty || x == 1) = false) (c2 : (decide (x ≤ 0) || items.isEmpty) = true) :
    Meets (Builtin.«tuple.__mul__» ⟨[.ref l, .int x u], []⟩) (fun _ R s => s.heap.get? l = some { cls := .type "tuple", dict := dd, data := .seq items n, slots := sl } ∧
      R (.ok (.ret (Value.ref s.heap.objs.size))) { s with heap := s.heap.push { cls := Value.type "tuple", data := Data.seq #[] }, toks := s.toks }) :=
  .of_wp fun prog w A R s h => by
    obtain ⟨hp, g, d, tk, os⟩ := s
    obtain ⟨hl, h⟩ := h
    have f1 := AutoSeq1.idx_int
    wp_walk using wpAny_loadPart' hl
    repeat (first
      | (refine wpAny_ite_false (decide_eq_false (by rw [c0]; exact Bool.false_ne_true)) ?_; wp_walk using wpAny_loadPart' hl)
      | (refine wpAny_ite_false (decide_eq_false (by rw [c1]; exact Bool.false_ne_true)) ?_; wp_walk using wpAny_loadPart' hl)
      | (refine wpAny_ite_true (decide_eq_true c2) ?_; wp_walk using wpAny_loadPart' hl))
    exact ⟨_, rfl, h⟩
def rRepT2 (K : PySem.W.Frag) : R2 := fun x y H Q => ∃ l k xs, x = .ref l ∧ y = .int k ∧ SqT K H l xs ∧ xs ≠ [] ∧ -1000 ≤ k ∧ ((k = 1 ∧ Q (.ref l) H) ∨ (k ≤ 0 ∧ ∀ p, H p = none → Q (.ref p) (upd H p (.tup []))))
theorem op_repT2 {X : Cx} : OpR X (binaryOp .Mult) (rRepT2 X.K) := by
  intro pins s σ H x y v u Q I rx ry h
  obtain ⟨l, k, xs, rfl, rfl, hT, hne, hlo, hk⟩ := h
  cases rx
  obtain ⟨t, rfl⟩ := ry
  obtain ⟨its, r, ⟨⟨cls, dd, data, sl⟩, ho, hc, n, hd⟩, hs⟩ := I.tuple hT
  simp only at hc hd
  subst hc hd
  have hn : its ≠ [] := fun e => hne (List.eq_nil_of_length_eq_zero (by rw [r.length, e]; rfl))
  have hi : its.toArray.isEmpty = false := by
    cases its with
    | nil => exact absurd rfl hn
    | cons a b => rfl
  rcases hk with ⟨rfl, q⟩ | ⟨hk, q⟩
  · exact wpAny_binaryOp_repeat_ref (T := "tuple") (U := "int") (by decide) ⟨_, ho, rfl⟩ (fun s' => typeIs_int s' 1 t) noFill_tuple_mul F.fills_int_mul F.slot_int_rmul repeat_tuple F.slot_int_index.lookup
      (call_meets F.slot_int_rmul (typeIs_int s 1 t) F.entry_int_rmul (F.args_int_rmul_2 _ _) (int_rmul_tuple 1 t l its.toArray n dd sl)
        ⟨ho, rfl, ⟨_, ho, rfl⟩, call_meets F.slot_tuple_mul ⟨_, ho, rfl⟩ F.entry_tuple_mul (F.args_tuple_mul_2 _ _) (tmul1 l its.toArray n dd sl t) ⟨ho, ⟨.ref l, H, I, rfl, q⟩⟩⟩)
  · have c0 : (decide (k < -(2 ^ 63)) || decide (k ≥ 2 ^ 63)) = false := by
      rw [decide_eq_false (by omega), decide_eq_false (by omega)]
      rfl
    have c1 : (its.toArray.isEmpty || k == 1) = false := by
      rw [hi, Bool.false_or]
      exact beq_eq_false_iff_ne.mpr (by omega)
    have c2 : (decide (k ≤ 0) || its.toArray.isEmpty) = true := by rw [decide_eq_true hk, Bool.true_or]
    refine wpAny_binaryOp_repeat_ref (T := "tuple") (U := "int") (by decide) ⟨_, ho, rfl⟩ (fun s' => typeIs_int s' k t) noFill_tuple_mul F.fills_int_mul F.slot_int_rmul repeat_tuple F.slot_int_index.lookup
      (call_meets F.slot_int_rmul (typeIs_int s k t) F.entry_int_rmul (F.args_int_rmul_2 _ _) (int_rmul_tuple k t l its.toArray n dd sl)
        ⟨ho, rfl, ⟨_, ho, rfl⟩, call_meets F.slot_tuple_mul ⟨_, ho, rfl⟩ F.entry_tuple_mul (F.args_tuple_mul_2 _ _) (tmul0 l its.toArray n dd sl k t c0 c1 c2) ⟨ho, ?_⟩⟩)
    refine ⟨.ref s.heap.objs.size, _, I.laid (t' := s.toks) (o := .tup []) (fun b ob e => Heap.get?_push_of_some _ e) (Nat.le_refl _) ?_, rfl, q _ (I.hok.fresh (Nat.le_refl _))⟩
    exact ⟨Nat.zero_le _, [], .nil, IsTup.new _ _⟩
def mulT (a b : D) : Option D := match a, b with
  | .tup xs, .int j => if 0 < xs.length ∧ xs.length ≤ 1000 ∧ -1000 ≤ j ∧ j ≤ 1000 then some (.tup (List.replicate j.toNat xs).flatten) else none
  | a, b => mulD a b
theorem s_mulT {K : PySem.W.Frag} : OpS K (fun x y H Q => (rI CMul (fun i j => .int (i * j)) x y H Q ∨ rRep x y H Q) ∨ (rRepT K x y H Q ∨ rRepT2 K x y H Q)) mulT := fun Z F H σ ds w a b d x y Q r hx hy hg k => by
  unfold mulT at hg
  split at hg
  · rename_i xs j
    split at hg
    · rename_i hc
      obtain ⟨c1, c2, c3, c4⟩ := hc
      cases hg
      obtain ⟨q, vs, rfl, h1, h2⟩ := hx.tup
      have hl := h2.len
      have hne : vs ≠ [] := fun e => by
        rw [e] at hl
        have : xs.length = 0 := hl.symm
        omega
      right
      by_cases h2k : 2 ≤ j
      · refine .inl ⟨q, j, vs, rfl, hy.int, same_t h1 r.ex, hne, h2k, c4, by omega, fun t ht => ?_⟩
        obtain ⟨s2, d2⟩ := r.new (o := .tup (List.replicate j.toNat vs).flatten) ht
        exact k _ _ _ s2 d2 (den_tup (.inl upd_same) ((h2.rep _).mono s2.f))
      · refine .inr ⟨q, j, vs, rfl, hy.int, same_t h1 r.ex, hne, c3, ?_⟩
        by_cases h1k : j = 1
        · subst h1k
          refine .inl ⟨rfl, k _ F H r.stp r.dr ?_⟩
          have e : (List.replicate (1 : Int).toNat xs).flatten = xs := by simp
          rw [e]
          exact den_tup h1 h2
        · refine .inr ⟨by omega, fun t ht => ?_⟩
          obtain ⟨s2, d2⟩ := r.new (o := .tup []) ht
          refine k _ _ _ s2 d2 ?_
          have e : (List.replicate j.toNat xs).flatten = [] := by
            rw [show j.toNat = 0 by omega]
            rfl
          rw [e]
          exact den_tup (.inl upd_same) dens_nil
    · cases hg
  · exact .inl (s_mul Z F H σ ds w _ _ d x y Q r hx hy hg k)
def eMulT := eBin mulT
theorem je_mulT {X : Cx} {a b : Expr} {fa fb : Ev} {pos : Pos} (ha : JB X a fa) (hb : JB X b fb) : JE X (.BinOp a .Mult b pos) (eMulT fa fb) := je_op (OpR.or (OpR.or op_mul op_rep) (OpR.or op_repT op_repT2)) s_mulT ha hb
end J
namespace J
open PySem PyProof.Rows L2
/-! ### instances: attributes, methods -/
theorem zip_look {α : Type} (f : Str) : ∀ (ks : List Str) (xs : List α), f ∉ ks → (ks.zip xs).lookup f = none
  | [], _, _ => by simp
  | _ :: _, [], _ => by simp
  | k :: ks, x :: xs, h => by
    have h1 : ¬f = k := fun e => h (by rw [e]; exact List.mem_cons_self)
    have e : (f == k) = false := beq_eq_false_iff_ne.mpr h1
    rw [List.zip_cons_cons, List.lookup_cons, e]
    exact zip_look f ks xs fun z => h (List.mem_cons_of_mem _ z)
theorem zip_get {K : PySem.W.Frag} {p : Addr} {F : Hp} (f : Str) : ∀ (ks : List Str) (ds : List D) (vs : List V) (d : D), Dens K p F ds vs → (ks.zip ds).lookup f = some d → ∃ v, (ks.zip vs).lookup f = some v ∧ Den K p F d v
  | [], _, _, _, _, h => by simp at h
  | _ :: _, [], _, _, _, h => by simp at h
  | k :: ks, x :: ds, vs, d, hd, h => by
    unfold Dens at hd
    obtain ⟨v, r, rfl, h1, h2⟩ := hd
    rw [List.zip_cons_cons, List.lookup_cons] at h ⊢
    by_cases e : (f == k) = true
    · rw [e] at h ⊢
      cases h
      exact ⟨v, rfl, h1⟩
    · have e' : (f == k) = false := by simpa using e
      rw [e'] at h ⊢
      exact zip_get f ks ds r d h2 h
def attrD (n f : Str) : D → Option D
  | .obj m ks ds => if m = n then (ks.zip ds).lookup f else none
  | _ => none
def eAttr (n f : Str) (fo : Ev) : Ev := fun ds w => (fo ds w).bind fun o => (attrD n f o.1).bind fun d => some (d, o.2)
def clsOk (n m : Str) : D → Bool
  | .obj n' ks _ => decide (n' = n) && decide (m ∉ ks)
  | _ => false
def eMeth (n m : Str) (k : Nat) (G : Fn) (fo : Ev) (fs : Ef) : Ev := fun ds w => (fo ds w).bind fun o => (fs ds o.2).bind fun a => if clsOk n m o.1 = true ∧ a.1.length + 1 = k then G (o.1 :: a.1) a.2 else none
structure CalO (P : Program) (w : World) (K : PySem.W.Frag) (mg : Str → Option Value) (base : Heap) (k : Nat) (n m : Str) (a : Nat) (G : Fn) : Prop where
  ex : ∃ (f : Addr) (fd : FuncData) (ps : List Str), Cls K (clsA K n) ∧ Meth K (clsA K n) m f ∧ FnOk P w K mg base CX0 k f fd ps (spJ K a G) ∧ Binds K fd ps []
section
variable {X : Cx} {K : PySem.W.Frag} {o e : Expr} {es : List Expr} {fo : Ev} {fs : Ef} {pos apos : Pos} {n m : Str} {k j a : Nat} {G : Fn}
theorem je_attr (c : Cls X.K (clsA X.K n)) (na : NoAttr X.K (clsA X.K n) m) (ho : JB X o fo) (hb : attributeBase o m X.env (eval o X.env) = eval o X.env := by rfl) : JE X (.Attribute o m pos) (eAttr n m fo) :=
  ⟨pe_weak (pe_fld ho.run hb) fun σ H Q ⟨Z, F, ds, w, d, w', rr, hf, kk⟩ => by
    obtain ⟨x, h1, hf⟩ := bind2 hf
    obtain ⟨y, h2, hf⟩ := bind2 hf
    cases hf
    unfold attrD at h2
    split at h2
    · rename_i m' ks es ex
      split at h2
      · rename_i hm
        subst hm
        refine ⟨Z, F, ds, w, _, _, rr, h1, fun v F1 H1 s1 d1 hv => ?_⟩
        rw [ex] at hv
        rcases hv with hv | ⟨_, _, q, _⟩ | ⟨_, x, q, _⟩
        · unfold Den at hv
          obtain ⟨q, dx, vs, rfl, h3, h4⟩ := hv
          obtain ⟨u, h5, h6⟩ := zip_get _ ks es vs _ h4 h2
          exact ⟨q, _, dx, _, u, rfl, s1.e _ _ h3, c, na, h5, kk u F1 H1 s1 d1 h6⟩
        · cases q
        · cases x <;> cases q
      · cases h2
    · cases h2⟩
theorem je_meth (c : CalO X.prog X.w X.K X.mg X.base k n m a G) (hr : Room j X.A) (hk : k ≤ j) (ho : JE X o fo) (ha : JA X (e :: es) fs) (hst : starEach (e :: es) X.env = (false, eval e X.env) :: starEach es X.env := by rfl) (hpl : (backTo pos (starEach es X.env)).any (·.1) = false := by rfl)
    {pl : Sem Bool} (ht : eval (.Call (.Attribute o m apos) (e :: es) [] pos) X.env = (do
      let ov ← eval o X.env
      standAt apos.atName
      let (f, first) ← holding [ov] (getMethod ov m pl)
      callWith pos f first (backTo pos (starEach (e :: es) X.env)) (backToKw pos (keywordEach [] X.env))) := by rfl) :
    JE X (.Call (.Attribute o m apos) (e :: es) [] pos) (eMeth n m a G fo fs) := ⟨by
  obtain ⟨f, fd, ps, cl, me, F, b⟩ := c.ex
  refine pe_weak (pe_meth ho.run cl me F (hr.mono hk) b .nil pass0 ha.run hst hpl ht) fun σ H Q ⟨Z, F, ds, w, d, w', rr, hf, kk⟩ => ?_
  obtain ⟨x, h1, hf1⟩ := bind2 hf
  obtain ⟨y, h2, hf2⟩ := bind2 hf1
  split at hf2
  · rename_i hc
    refine ⟨Z, F, ds, w, _, _, rr, h1, fun v F1 H1 s1 d1 hv => ?_⟩
    have hv0 := hv
    obtain ⟨hc1, hc2⟩ := hc
    unfold clsOk at hc1
    split at hc1
    · rename_i n' ks es' ex
      rw [Bool.and_eq_true, decide_eq_true_eq, decide_eq_true_eq] at hc1
      obtain ⟨rfl, hm⟩ := hc1
      rw [ex] at hv
      unfold Den at hv
      obtain ⟨q, dx, vs, rfl, h3, h4⟩ := hv
      refine ⟨q, dx, _, rfl, s1.e _ _ h3, zip_look m ks vs hm, Z, F1, ds, _, _, _, rr.step s1 d1, h2, fun us F2 H2 s2 d2 hus => ?_⟩
      show spJ X.K a G (V.ref q :: (us ++ [])) H2 Q E0
      rw [List.append_nil]
      exact ⟨by rw [List.length_cons, hus.len]; exact hc2, Z, F2, _, _, d, w', ((rr.step s1 d1).step s2 d2).nil, dens_cons (hv0.mono s2.f) hus, hf2, kk.go (s1.trans s2)⟩
    · cases hc1
  · cases hf2⟩
end
end J
namespace J
open PySem PyProof.Rows L2
/-! ### instances made: an __init__ that stores attributes -/
def putD (f : Str) (d : D) : List (Str × D) → List (Str × D)
  | [] => [(f, d)]
  | (g, x) :: r => if g = f then (g, d) :: r else (g, x) :: putD f d r
abbrev Flds := List (Str × D)
def kys (fs : Flds) : List Str := fs.map fun q => q.1
def vls (fs : Flds) : List D := fs.map fun q => q.2
theorem put_zip {K : PySem.W.Frag} {p : Addr} {F : Hp} (f : Str) (d : D) (v : V) (hv : Den K p F d v) : ∀ (fs : Flds) (vs : List V), Dens K p F (vls fs) vs → ∃ us, putF f v ((kys fs).zip vs) = (kys (putD f d fs)).zip us ∧ Dens K p F (vls (putD f d fs)) us
  | [], vs, h => by
    have e : vs = [] := by
      unfold vls List.map Dens at h
      exact h
    subst e
    exact ⟨[v], rfl, dens_cons hv dens_nil⟩
  | (g, x) :: r, vs, h => by
    unfold vls List.map Dens at h
    obtain ⟨u, us, rfl, h1, h2⟩ := h
    unfold putD
    by_cases e : g = f
    · rw [if_pos e]
      refine ⟨v :: us, ?_, dens_cons hv h2⟩
      show putF f v ((g, u) :: (kys r).zip us) = _
      unfold putF
      rw [if_pos e]
      rfl
    · rw [if_neg e]
      obtain ⟨ws, h3, h4⟩ := put_zip f d v hv r us h2
      refine ⟨u :: ws, ?_, dens_cons h1 h4⟩
      show putF f v ((g, u) :: (kys r).zip us) = _
      unfold putF
      rw [if_neg e, h3]
      rfl
abbrev En := List Sl → Flds → Wd → Option (Flds × Wd)
def canN (K : PySem.W.Frag) (n : Str) (f : En) : TS := fun D σ H => ∃ x dx Z F ds fs vs w fs' w', σ[0]? = some (some (V.ref x)) ∧ R K Z F (hid x H) σ ds w ∧ x ≠ Z.p ∧ H x = some (.ins (clsA K n) dx ((kys fs).zip vs)) ∧ F x = none ∧ Dens K Z.p F (vls fs) vs ∧ fs.length < 100 ∧ f ds fs w = some (fs', w') ∧
  ∀ F' H' vs', Stp Z.p F (hid x H) F' (hid x H') → R K Z F' (hid x H') σ ds w' → H' x = some (.ins (clsA K n) dx ((kys fs').zip vs')) → F' x = none → Dens K Z.p F' (vls fs') vs' → D.nx σ H'
structure JNs (X : Cx) (n : Str) (st : List Stmt) (f : En) : Prop where run : PSs X st (canN X.K n f)
def nNil : En := fun _ fs w => some (fs, w)
def nAttr (f : Str) (fe : Ev) (g : En) : En := fun ds fs w => (fe ds w).bind fun d => if fs.length + 1 < 100 then g ds (putD f d.1 fs) d.2 else none
theorem putD_len (f : Str) (d : D) : ∀ fs : Flds, (putD f d fs).length ≤ fs.length + 1
  | [] => Nat.le_refl _
  | (g, x) :: r => by
    unfold putD
    split
    · simp
    · have := putD_len f d r
      rw [List.length_cons, List.length_cons]
      omega
section
variable {X : Cx} {K : PySem.W.Frag} {n : Str} {rest : List Stmt} {g : En} {value : Expr} {fe : Ev}
theorem jns_nil : JNs X n [] nNil := ⟨pss_weak pss_nil fun D σ H ⟨x, dx, Z, F, ds, fs, vs, w, fs', w', h0, rr, hp, hx, hF, hv, hl, hf, k⟩ => by
  cases hf
  exact k F H vs rr.stp rr hx hF hv⟩
theorem jns_attr {self f : Str} {sp p1 p2 : Pos} (c : Cls X.K (clsA X.K n)) (na : NoAttr X.K (clsA X.K n) f) (hv : JE X value fe) (hr : JNs X n rest g) (hN : X.N[0]? = some self := by rfl) (hvis : Vis X.env.scope self := by first | exact Or.inl rfl | exact Or.inr (Or.inl rfl) | exact Or.inr (Or.inr rfl))
    (hd : (self == ("__debug__" : Str)) = false := by decide) (hcd : (self == ("__classdict__" : Str)) = false := by decide) (hs : swapsWith value (some (.Attribute (.Name self sp) f p1)) p2.line X.env = pure false := by rfl) :
    JNs X n (.Assign [.Attribute (.Name self sp) f p1] value p2 :: rest) (nAttr f fe g) :=
  ⟨pss_weak (pss_cons (ps_fld (pe_var (i := 0) hN hvis hd hcd) hv.run hs) hr.run) fun D σ H ⟨x, dx, Z, F, ds, fs, vs, w, fs', w', h0, rr, hp, hx, hF, hvs, hl, hf, k⟩ => by
    obtain ⟨d, h1, hf2⟩ := bind2 hf
    split at hf2
    · rename_i hlen
      refine ⟨Z, F, ds, w, _, _, rr.shown hx, h1, fun v F1 H1 s1 d1 hden => ?_⟩
      obtain ⟨hx1, hF1⟩ := s1.out hp hx hF
      have r1 := rr.hidden hp hx hF s1 d1
      obtain ⟨us, e1, e2⟩ := put_zip f d.1 v hden fs vs (hvs.mono s1.f)
      have hz : ((kys fs).zip vs).length < 1000 := by
        rw [List.length_zip]
        unfold kys
        rw [List.length_map]
        omega
      refine ⟨V.ref x, h0, x, _, dx, _, rfl, hx1, c, na, hz, ?_⟩
      refine ⟨x, dx, Z, F1, ds, putD f d.1 fs, us, d.2, fs', w', h0, ?_, hp, ?_, hF1, e2, ?_, hf2, fun F2 H2 vs2 s2 r2 g1 g2 g3 => ?_⟩
      · rw [hid_upd]
        exact r1
      · rw [upd_same, e1]
      · have := putD_len f d.1 fs
        omega
      · rw [hid_upd] at s2
        exact k F2 H2 vs2 ((hid_stp hF1 s1).trans s2) r2 g1 g2 g3
    · cases hf2⟩
end
def spI (K : PySem.W.Frag) (n : Str) (a : Nat) (G : List D → Wd → Option (Flds × Wd)) : Sp := fun vs H Q _ => vs.length = a ∧ ∃ x dx Z F ds us w fs' w', vs = .ref x :: us ∧ R K Z F (hid x H) [] [] w ∧ x ≠ Z.p ∧ H x = some (.ins (clsA K n) dx []) ∧ F x = none ∧ Dens K Z.p F ds us ∧ G ds w = some (fs', w') ∧
  ∀ F' H' vs', Stp Z.p F (hid x H) F' (hid x H') → Dr Z.p F' (hid x H') w' → H' x = some (.ins (clsA K n) dx ((kys fs').zip vs')) → F' x = none → Dens K Z.p F' (vls fs') vs' → Q .non H'
def callI (m : Nat) (g : En) : List D → Wd → Option (Flds × Wd) := fun ds w => g (.no :: startS (m - 1) ds) [] w
section
variable {K : PySem.W.Frag} {Z : Cfg} {F H : Hp} {σ : L2.St} {ds : List Sl} {w : Wd}
theorem R.consNo (r : R K Z F H σ ds w) (u : Option V) : R K Z F H (u :: σ) (.no :: ds) w := by
  obtain ⟨α, h1, h2⟩ := r.env
  have sh : ∀ p, isOwn (Sl.no :: ds) p → ∃ j, p = (j + 1, p.2) ∧ isOwn ds (j, p.2) := fun ⟨i, m⟩ ⟨s, h, ho⟩ => by
    cases i with
    | zero =>
      cases h
      cases ho
    | succ i => exact ⟨i, rfl, s, by simpa using h, ho⟩
  refine ⟨r.ex, r.fp, r.dr, r.pm, r.hm, r.m0, r.keep, r.nw, r.f0, by rw [List.length_cons, List.length_cons, r.len], fun p => α (p.1 - 1, p.2), fun i j hi hj e => ?_, fun i s hs => ?_⟩
  · obtain ⟨i', ei, hi'⟩ := sh i hi
    obtain ⟨j', ej, hj'⟩ := sh j hj
    rw [ei, ej] at e
    have q := Prod.mk.inj (h1 _ _ hi' hj' (by simpa using e))
    rw [ei, ej, q.1, q.2]
  · cases i with
    | zero =>
      cases hs
      trivial
    | succ i =>
      have := h2 i s (by simpa using hs)
      cases s with
      | ll ks xss => exact SlR.ll_same this rfl (fun _ => rfl) (fun _ _ => rfl) (fun _ _ z => z) (Same.refl _)
      | _ => simpa [SlR] using this
variable {P : Program} {wd : World} {mg : Str → Option Value} {base : Heap} {x qual : Str} {st : Stmt} {f : Addr} {fd : FuncData} {ps : List Str} {k : Nat} {n : Str} {g : En}
theorem fn_I {y : Str} {N' : List Str} (F : Fun K x qual st f fd) (S : FnScope (y :: N') ps (defScope st))
    (hbody : ∀ (cdv : Value) (A : Around) (outer : List Env) (s : Shared) (H : Hp) (E : XK), Room k (A.deeper (envOfC qual (defScope st) s.heap.objs.size f cdv)) → JNs (cxOf CX0 P wd K mg base (y :: N') qual (defScope st) f cdv A outer s H E).nox n (defBody st) g) :
    FnOk P wd K mg base CX0 (k + 1) f fd ps (spI K n ps.length (callI (y :: N').length g)) := by
  refine F.ok S (fun vs H Q E h => h.1) (fun cdv A outer s H vs Q E hr h => ⟨_, (hbody cdv A outer s H E hr).run, ?_⟩)
  obtain ⟨_, a, dx, Z, F, ds, us, w, fs', w', rfl, rr, hp, hx, hF, hv, hG, kk⟩ := h
  have es : L2.start (y :: N') (.ref a :: us) = some (.ref a) :: L2.start N' us := by
    unfold L2.start
    rw [List.length_cons, List.length_cons, Nat.add_sub_add_right]
    rfl
  rw [es]
  refine ⟨a, dx, ⟨Z.p, [], F, hid a H⟩, F, .no :: startS N'.length ds, [], [], w, fs', w', rfl, (rr.entry hv).consNo _, hp, hx, hF, dens_nil, by decide, hG, fun F' H' vs' s' r' h1 h2 h3 => ?_⟩
  exact kk F' H' vs' s' r'.dr h1 h2 h3
end
/-- C(e, ..) -/
structure CalI (P : Program) (w : World) (K : PySem.W.Frag) (mg : Str → Option Value) (base : Heap) (k : Nat) (n : Str) (a : Nat) (G : List D → Wd → Option (Flds × Wd)) : Prop where
  ex : ∃ (f : Addr) (fd : FuncData) (ps : List Str), Mk K (clsA K n) f ∧ FnOk P w K mg base CX0 k f fd ps (spI K n a G) ∧ mg n = some (.ref (clsA K n)) ∧ Binds K fd ps []
def eMake (n : Str) (a : Nat) (G : List D → Wd → Option (Flds × Wd)) (fs : Ef) : Ev := fun ds w => (fs ds w).bind fun z => if z.1.length + 1 = a then (G z.1 z.2).bind fun r => some (.obj n (kys r.1) (vls r.1), r.2) else none
end J
namespace J
open PySem PyProof.Rows L2
theorem Stp.known {p q : Addr} {F H F' H' : Hp} {o : HO} (s : Stp p F H F' H') (hq : H q = none) (hF : F' q = none) (hH : H' q = some o) (hp : q ≠ p) : Stp p F H (upd F' q o) H' := by
  refine ⟨s.f.trans (same_tell hF), s.h, fun b u e => ?_, fun b u e => ?_, by rw [upd_ne (Ne.symm hp)]; exact s.fp⟩
  · by_cases z : b = q
    · subst z
      rw [upd_same] at e
      rw [← e]
      exact hH
    · rw [upd_ne z] at e
      exact s.e b u e
  · by_cases z : b = q
    · subst z
      exact .inr hq
    · rw [upd_ne z] at e
      exact s.n b u e
section
variable {X : Cx} {K : PySem.W.Frag} {o e : Expr} {es : List Expr} {fo : Ev} {fs : Ef} {p pos apos : Pos} {n m x : Str} {k j a : Nat} {G : List D → Wd → Option (Flds × Wd)}
theorem je_make (c : CalI X.prog X.w X.K X.mg X.base k n a G) (hr : Room j X.A) (hk : k + 1 ≤ j) (hg : Gl X n) (ha : JA X (e :: es) fs) (hdb : (n == ("__debug__" : Str)) = false := by decide) (he : starEach (e :: es) X.env = (false, eval e X.env) :: starEach es X.env := by rfl) (hpl : (backTo pos (starEach es X.env)).any (·.1) = false := by rfl) :
    JE X (.Call (.Name n p) (e :: es) [] pos) (eMake n a G fs) := ⟨by
  obtain ⟨f, fd, ps, M, F, hm, b⟩ := c.ex
  refine pe_weak (pe_make M F (hr.mono hk) hg hm b .nil pass0 ha.run hdb he hpl) fun σ H Q ⟨Z, F, ds, w, d, w', rr, hf, kk⟩ => ?_
  obtain ⟨z, h1, hf1⟩ := bind2 hf
  split at hf1
  · rename_i hl
    obtain ⟨r, h2, hf2⟩ := bind2 hf1
    cases hf2
    refine ⟨Z, F, ds, w, _, _, rr, h1, fun vs F1 H1 s1 d1 hvs x dx hx hdx hne => ?_⟩
    have r1 := rr.step s1 d1
    obtain ⟨s2, d2⟩ := r1.newO (o := .own x) hdx
    have r2 := r1.step s2 d2
    have hx2 : upd H1 dx (.own x) x = none := by
      rw [upd_ne (Ne.symm hne)]
      exact hx
    have eh : hid x (upd (upd H1 dx (.own x)) x (.ins (clsA X.K n) dx [])) = upd H1 dx (.own x) := by rw [hid_upd, hid_none hx2]
    have hp : x ≠ Z.p := r1.np hx
    show spI X.K n a G (V.ref x :: (vs ++ [])) _ _ E0
    rw [List.append_nil]
    refine ⟨by rw [List.length_cons, hvs.len]; exact hl, x, dx, Z, F1, z.1, vs, z.2, r.1, r.2, rfl, by rw [eh]; exact r2.nil, hp, upd_same, r1.ex.free hx, hvs, h2, fun F' H' vs' s' d' g1 g2 g3 => ⟨rfl, ?_⟩⟩
    rw [eh] at s'
    have hx0 : H x = none := by
      cases q : H x with
      | none => rfl
      | some u =>
        have := s1.h x u hp q
        rw [hx] at this
        cases this
    have S : Stp Z.p F H F' H' := stp_shown hx0 g2 ((s1.trans s2).trans s')
    refine kk (.ref x) (upd F' x _) H' (S.known hx0 g2 g1 hp) ?_ ?_
    · obtain ⟨q, q1, q2⟩ := d'.shown g1 hp
      exact ⟨q, q1, same_tell g2 _ _ q2⟩
    · unfold Den
      exact ⟨x, dx, vs', rfl, upd_same, g3.mono (same_tell g2)⟩
  · cases hf1⟩
/-! isinstance of an own class -/
def isC (n : Str) : D → Option D
  | .obj m _ _ => if m = n then some (.bl true) else none
  | _ => none
def eIsC (n : Str) (fo : Ev) : Ev := fun ds w => (fo ds w).bind fun d => (isC n d.1).bind fun b => some (b, d.2)
theorem je_isC {px : Pos} (c : C8.InsC X.K (clsA X.K n)) (hm : X.mg "isinstance" = none) (hn : X.mg n = some (.ref (clsA X.K n))) (hg : Gl X "isinstance") (hgn : Gl X n) (ho : JE X o fo) (hdb : (n == ("__debug__" : Str)) = false := by decide)
    (he : starEach [o, .Name n px] X.env = (false, eval o X.env) :: starEach [.Name n px] X.env := by rfl) (he2 : starEach [.Name n px] X.env = (false, eval (.Name n px) X.env) :: starEach [] X.env := by rfl) (hpl : (backTo pos (starEach [.Name n px] X.env)).any (·.1) = false := by rfl) :
    JE X (.Call (.Name "isinstance" p) [o, .Name n px] [] pos) (eIsC n fo) :=
  ⟨pe_weak (pe_callB (C8.call_isC c) hg hm (by decide +kernel) (pa_cons ho.run (pa_cons (pe_glob (v := .ref (clsA X.K n)) hgn hn rfl hdb) pa_nil he2) he) (by decide) (by decide) he hpl) fun σ H Q ⟨Z, F, ds, w, d, w', rr, hf, kk⟩ => by
    obtain ⟨z, h1, hf1⟩ := bind2 hf
    obtain ⟨y, h2, hf2⟩ := bind2 hf1
    cases hf2
    unfold isC at h2
    split at h2
    · rename_i m' ks es' ez
      split at h2
      · rename_i hm'
        subst hm'
        cases h2
        refine ⟨Z, F, ds, w, _, _, rr, h1, fun v F1 H1 s1 d1 hv => ?_⟩
        rw [ez] at hv
        unfold Den at hv
        obtain ⟨q, dx, vs, rfl, h3, h4⟩ := hv
        exact ⟨q, dx, _, rfl, s1.e _ _ h3, kk _ F1 H1 s1 d1 den_bl⟩
      · cases h2
    · cases h2⟩
end
end J
namespace J
open PySem PyProof.Rows L2
/-! ### == by an own __eq__, len by an own __len__ -/
section
variable {X : Cx} {k : Nat} {f C : Addr} {fd : FuncData} {ps : List Str} {sp : Sp}
def rOwnEq (C : Addr) (sp : Sp) : R2 := fun x y H Q => ∃ a b dx dy fs gs, x = .ref a ∧ y = .ref b ∧ H a = some (.ins C dx fs) ∧ H b = some (.ins C dy gs) ∧ sp [.ref a, .ref b] H (fun v H' => (∃ c, v = .bl c) ∧ Q v H') E0
theorem op_ownEq (F : FnOk X.prog X.w X.K X.mg X.base CX0 k f fd ps sp) (hr : Room k X.A) (hs : PySem.W.findIn X.K (.ref C) "__eq__" = some (some (.ref f))) (hf : PySem.W.isFn X.K (.ref f) = true) (hb : Binds X.K fd ps []) : OpR X (compareOp .Eq) (rOwnEq C sp) := by
  intro pins s σ H x y v u Q I rx ry h
  obtain ⟨a, b, dx, dy, fs, gs, rfl, rfl, ha, hb', hsp⟩ := h
  cases rx
  cases ry
  obtain ⟨mA, J, _⟩ := ins_get I.hok ha
  obtain ⟨mB, J', _⟩ := ins_get I.hok hb'
  obtain ⟨od, J, _⟩ := J.look
  obtain ⟨od', J', _⟩ := J'.look
  obtain ⟨m, hF⟩ := I.fr
  show wpAny (model X.prog X.w) X.A (richCompare .Eq (.ref a) (.ref b)) _ _ s
  refine PySem.W.cmp_K (op := .Eq) (tb := .ref C) hr.units0 hF I.ok.mod.kin J J'.type (by simp [PySem.W.notFirst]) hs hf ?_
  have hl := F.len _ _ _ _ hsp
  refine wpAny_call (codeAny_mono (F.run X.A X.stack s H ⟨[.ref a, .ref b], []⟩ [.ref a, .ref b] [.ref a, .ref b] _ E0 hr I.env0 (by
    have q := hb s [.ref a, .ref b] I.kIn (by simpa using hl)
    simpa using q) (.cons rfl (.cons rfl .nil)) hsp) fun r s' hq => ?_)
  cases r with
  | error e => exact pass0 pins σ H s e s' I hq
  | ok fl =>
    cases fl with
    | ret w =>
      obtain ⟨z, H', I', rz, ⟨c, rfl⟩, q⟩ := I.after hq
      cases rz
      exact ⟨.bl c, H', I', rfl, q⟩
    | next => exact False.elim hq
    | brk => exact False.elim hq
    | cont => exact False.elim hq
def rOwnLen (C : Addr) (sp : Sp) : List V → Hp → VK → Prop := fun vs H Q => ∃ a dx fs, vs = [.ref a] ∧ H a = some (.ins C dx fs) ∧ sp [.ref a] H (fun v H' => (∃ i : Int, v = .int i ∧ 0 ≤ i ∧ i < 2 ^ 63) ∧ Q v H') E0
theorem cr_ownLen (F : FnOk X.prog X.w X.K X.mg X.base CX0 k f fd ps sp) (hr : Room (k + 1) X.A) (hs : PySem.W.findIn X.K (.ref C) "__len__" = some (some (.ref f))) (hf : PySem.W.isFn X.K (.ref f) = true) (hb : Binds X.K fd ps []) : CallR X (.builtin "len") (rOwnLen C sp) := by
  intro pins s σ H vs us Q I r h
  obtain ⟨a, dx, fs, rfl, ha, hsp⟩ := h
  rw [Vals.ref1 r]
  obtain ⟨mA, J, _⟩ := ins_get I.hok ha
  obtain ⟨od, J, _⟩ := J.look
  obtain ⟨m, hF⟩ := I.fr
  refine PySem.W.len_K hF I.ok.mod.kin J hs hf ?_
  have hl := F.len _ _ _ _ hsp
  have e0 : Env0 X.prog X.w X.K X.mg X.base X.A.in1 X.stack s H := by
    have e := I.env0
    exact ⟨e.frames, e.mod, e.bs, e.bsz, e.funs, e.frf, e.hok, e.bare⟩
  refine wpAny_call (codeAny_mono (F.run X.A.in1 X.stack s H ⟨[.ref a], []⟩ [.ref a] [.ref a] _ E0 hr.in1 e0 (by
    have q := hb s [.ref a] I.kIn (by simpa using hl)
    simpa using q) (.cons rfl .nil) hsp) fun r s' hq => ?_)
  cases r with
  | error e => exact pass0 pins σ H s e s' I hq
  | ok fl =>
    cases fl with
    | ret w =>
      obtain ⟨z, H', I', rz, ⟨i, rfl, h0, h1⟩, q⟩ := I.after hq
      obtain ⟨t, rfl⟩ := rz
      exact ⟨⟨h0, h1⟩, ⟨.int i, H', I'.kept (fun _ _ z => z), ⟨_, rfl⟩, q⟩⟩
    | next => exact False.elim hq
    | brk => exact False.elim hq
    | cont => exact False.elim hq
end
def isObj (n : Str) : D → Bool
  | .obj m _ _ => decide (m = n)
  | _ => false
def blR (r : Option (D × Wd)) : Option (D × Wd) := match r with
  | some (.bl c, w) => some (.bl c, w)
  | _ => none
def lenR (r : Option (D × Wd)) : Option (D × Wd) := match r with
  | some (.int i, w) => if 0 ≤ i ∧ i < 2 ^ 63 then some (.int i, w) else none
  | _ => none
def eOwnEq (n : Str) (G : Fn) (fa fb : Ev) : Ev := fun ds w => (fa ds w).bind fun a => (fb ds a.2).bind fun b => if isObj n a.1 = true ∧ isObj n b.1 = true then blR (G [a.1, b.1] b.2) else none
def eOwnLen (n : Str) (G : Fn) (fo : Ev) : Ev := fun ds w => (fo ds w).bind fun a => if isObj n a.1 = true then lenR (G [a.1] a.2) else none
theorem denB_obj {K : PySem.W.Frag} {p : Addr} {F H : Hp} {n : Str} {d : D} {v : V} (h : DenB K p F H d v) (e : Same F H) (ho : isObj n d = true) : Den K p F d v ∧ ∃ a dx fs, v = .ref a ∧ H a = some (.ins (clsA K n) dx fs) := by
  cases d with
  | obj m ks es =>
    have hm : m = n := of_decide_eq_true ho
    subst hm
    rcases h with h | ⟨_, _, q, _⟩ | ⟨_, x, q, _⟩
    · refine ⟨h, ?_⟩
      unfold Den at h
      obtain ⟨a, dx, vs, rfl, h1, _⟩ := h
      exact ⟨a, dx, _, rfl, e _ _ h1⟩
    · cases q
    · cases x <;> cases q
  | _ => cases ho
section
variable {X : Cx} {o a b : Expr} {fo fa fb : Ev} {pos p : Pos} {n : Str} {k j : Nat} {G : Fn}
theorem ownEq_of {K : PySem.W.Frag} (σ : L2.St) (H : Hp) (Q : VK) : canE K (eOwnEq n G fa fb) σ H Q → tOp (rOwnEq (clsA K n) (spJ K 2 G)) (canB K fa) (canB K fb) σ H Q := fun ⟨Z, F, ds, w, d, w', rr, hf, kk⟩ => by
  obtain ⟨x, h1, hf1⟩ := bind2 hf
  obtain ⟨y, h2, hf2⟩ := bind2 hf1
  split at hf2
  · rename_i hc
    refine can2 rr h1 h2 fun u v F1 H1 s1 r1 hu hv => ?_
    obtain ⟨du, q, dx, fs, rfl, hq⟩ := denB_obj hu r1.ex hc.1
    obtain ⟨dv, q', dx', fs', rfl, hq'⟩ := denB_obj hv r1.ex hc.2
    unfold blR at hf2
    split at hf2
    · rename_i c w2 hG
      cases hf2
      refine ⟨q, q', dx, dx', fs, fs', rfl, rfl, hq, hq', rfl, Z, F1, _, _, _, _, r1.nil, dens_cons du (dens_cons dv dens_nil), hG, fun z F2 H2 s2 d2 hz => ?_⟩
      refine ⟨⟨c, ?_⟩, kk z F2 H2 (s1.trans s2) d2 hz⟩
      unfold Den at hz
      exact hz
    · cases hf2
  · cases hf2
theorem je_eqO (c : CalO X.prog X.w X.K X.mg X.base k n "__eq__" 2 G) (hr : Room j X.A) (hk : k ≤ j) (ha : JB X a fa) (hb : JB X b fb) : JE X (.Compare a [.Eq] [b] pos) (eOwnEq n G fa fb) := ⟨by
  obtain ⟨f, fd, ps, cl, me, F, bb⟩ := c.ex
  exact pe_weak (pe_cmpR (op_ownEq F (hr.mono hk) me.at_ me.fn bb) ha.run hb.run (nobehind _ (by decide) (by decide))) (ownEq_of (n := n) (G := G))⟩
theorem jt_eqO (c : CalO X.prog X.w X.K X.mg X.base k n "__eq__" 2 G) (hr : Room j X.A) (hk : k ≤ j) (ha : JB X a fa) (hb : JB X b fb) : JT X (.Compare a [.Eq] [b] pos) (eTest (eOwnEq n G fa fb)) := ⟨by
  obtain ⟨f, fd, ps, cl, me, F, bb⟩ := c.ex
  exact pt_weak (pt_cmpR (op_ownEq F (hr.mono hk) me.at_ me.fn bb) ha.run hb.run (nobehind _ (by decide) (by decide))) fun σ H Q q => test_of (e := a) σ H Q (fun Q => ownEq_of σ H Q) q⟩
theorem je_lenO (c : CalO X.prog X.w X.K X.mg X.base k n "__len__" 1 G) (hr : Room j X.A) (hk : k + 1 ≤ j) (hm : X.mg "len" = none) (hg : Gl X "len") (ho : JE X o fo) (he : starEach [o] X.env = (false, eval o X.env) :: starEach [] X.env := by rfl) : JE X (.Call (.Name "len" p) [o] [] pos) (eOwnLen n G fo) := ⟨by
  obtain ⟨f, fd, ps, cl, me, F, bb⟩ := c.ex
  refine pe_weak (pe_callB (cr_ownLen F (hr.mono hk) me.at_ me.fn bb) hg hm boot_len (pa_cons ho.run pa_nil he) (by decide) (by decide) he rfl) fun σ H Q ⟨Z, F, ds, w, d, w', rr, hf, kk⟩ => ?_
  obtain ⟨x, h1, hf1⟩ := bind2 hf
  split at hf1
  · rename_i hc
    refine ⟨Z, F, ds, w, _, _, rr, h1, fun v F1 H1 s1 d1 hv => ?_⟩
    have r1 := rr.step s1 d1
    obtain ⟨du, q, dx, fs, rfl, hq⟩ := denB_obj (.inl hv) r1.ex hc
    unfold lenR at hf1
    split at hf1
    · rename_i i w2 hG
      split at hf1
      · rename_i hi
        cases hf1
        refine ⟨q, dx, fs, rfl, hq, rfl, Z, F1, _, _, _, _, r1.nil, dens_cons du dens_nil, hG, fun z F2 H2 s2 d2 hz => ?_⟩
        refine ⟨⟨i, ?_, hi.1, hi.2⟩, kk z F2 H2 (s1.trans s2) d2 hz⟩
        unfold Den at hz
        exact hz
      · cases hf1
    · cases hf1
  · cases hf1⟩
end
end J
namespace J
open PySem PyProof.Rows L2
/-! ### the meanings of J16 to J22, applied -/
@[simp] theorem eMulT.ap (fa fb : Ev) (ds : List Sl) (w : Wd) : eMulT fa fb ds w = bin1 mulT fb ds (fa ds w) := eBin.ap mulT fa fb ds w
@[simp] theorem eSumB.ap (f : Ef) (ds : List Sl) (w : Wd) : eSumB f ds w = ca1 gSumB (f ds w) := eCal.ap gSumB f ds w
@[simp] theorem fSort.ap (f : Ef) (ds : List Sl) (w : Wd) : fSort f ds w = cl1 gfSort (f ds w) := fCal.ap gfSort f ds w
@[simp] theorem v_sumL (ns : List Int) : gSumB [.lst (ns.map D.int)] = some (.int ns.sum) := by
  show (intsOf (ns.map D.int)).bind _ = _
  rw [intsOf_map]
  rfl
@[simp] theorem v_sumT (ns : List Int) : gSumB [.tup (ns.map D.int)] = some (.int ns.sum) := by
  show (intsOf (ns.map D.int)).bind _ = _
  rw [intsOf_map]
  rfl
@[simp] theorem v_sortT (ns : List Int) : gfSort [.tup (ns.map D.int)] = some ((sortI ns).map D.int) := by
  show (intsOf (ns.map D.int)).bind _ = _
  rw [intsOf_map]
  rfl
@[simp] theorem v_sortL (ns : List Int) : gfSort [.lst (ns.map D.int)] = some ((sortI ns).map D.int) := by
  show (match intsOf (ns.map D.int) with | some ns => _ | none => _) = _
  rw [intsOf_map]
def ct2 (a : D) : Option (List D × Wd) → Option (D × Wd)
  | some (xs, w) => vD w (cntD a xs)
  | none => none
@[simp] theorem ct2.on (a : D) (xs : List D) (w : Wd) : ct2 a (some (xs, w)) = vD w (cntD a xs) := rfl
def ct1 (fs : Ef) (ds : List Sl) : Option (D × Wd) → Option (D × Wd)
  | some (a, w) => ct2 a (fs ds w)
  | none => none
@[simp] theorem ct1.on (fs : Ef) (ds : List Sl) (a : D) (w : Wd) : ct1 fs ds (some (a, w)) = ct2 a (fs ds w) := rfl
@[simp] theorem eCount.ap (f : Ev) (fs : Ef) (ds : List Sl) (w : Wd) : eCount f fs ds w = ct1 fs ds (f ds w) := by
  unfold eCount
  rcases f ds w with _ | ⟨a, w1⟩
  · rfl
  · show (fs ds w1).bind _ = ct2 a (fs ds w1)
    rcases fs ds w1 with _ | ⟨b, w2⟩
    · rfl
    · show (cntD a b).bind _ = vD w2 (cntD a b)
      rcases cntD a b with _ | c <;> rfl
@[simp] theorem v_cnt (ns : List Int) (k : Int) : cntD (.lst (ns.map D.int)) [.int k] = some (.int ((ns.count k : Nat) : Int)) := by
  show (intsOf (ns.map D.int)).bind _ = _
  rw [intsOf_map]
  rfl
def ss1 : Option (D × Wd) → Option (List D × Wd)
  | some (a, w) => vLs w (sortSetD a)
  | none => none
@[simp] theorem ss1.on (a : D) (w : Wd) : ss1 (some (a, w)) = vLs w (sortSetD a) := rfl
@[simp] theorem fSortSet.ap (f : Ev) (ds : List Sl) (w : Wd) : fSortSet f ds w = ss1 (f ds w) := by
  unfold fSortSet
  rcases f ds w with _ | ⟨a, w1⟩
  · rfl
  · show (sortSetD a).bind _ = vLs w1 (sortSetD a)
    rcases sortSetD a with _ | b <;> rfl
def exO (ds : List Sl) (i : Nat) (d : D) : Option Sl → Option (List Sl)
  | some (.own xs) => stO ds i (extD d xs)
  | some (.mu k xs) => stM ds i k (extD d xs)
  | _ => none
@[simp] theorem exO.on1 (ds : List Sl) (i : Nat) (d : D) (xs : List D) : exO ds i d (some (.own xs)) = stO ds i (extD d xs) := rfl
@[simp] theorem exO.on2 (ds : List Sl) (i : Nat) (d : D) (k : Nat) (xs : List D) : exO ds i d (some (.mu k xs)) = stM ds i k (extD d xs) := rfl
@[simp] theorem v_ext (xs zs : List D) : extD (.lst zs) xs = if xs.length + zs.length ≤ line then some (xs ++ zs) else none := rfl
def ex1 (i : Nat) (ds : List Sl) : Option (D × Wd) → Option Out
  | some (d, w1) => nx1 w1 (exO ds i d ds[i]?)
  | none => none
@[simp] theorem ex1.on (i : Nat) (ds : List Sl) (d : D) (w1 : Wd) : ex1 i ds (some (d, w1)) = nx1 w1 (exO ds i d ds[i]?) := rfl
theorem ownTo_eq3 (ds : List Sl) (i : Nat) (d : D) : ownTo ds i (extD d) = exO ds i d ds[i]? := by
  unfold ownTo exO
  rcases ds[i]? with _ | s
  · rfl
  · cases s <;> try rfl
    · rename_i xs
      dsimp only
      rcases extD d xs with _ | y <;> rfl
    · rename_i k xs
      dsimp only
      rcases extD d xs with _ | y <;> rfl
@[simp] theorem sExt.ap (i : Nat) (f : Ev) (ds : List Sl) (w : Wd) : sExt i f ds w = ex1 i ds (f ds w) := by
  unfold sExt
  rcases f ds w with _ | ⟨d, w1⟩
  · rfl
  · show (ownTo ds i (extD d)).bind _ = nx1 w1 (exO ds i d ds[i]?)
    rw [ownTo_eq3]
    rcases exO ds i d ds[i]? with _ | y <;> rfl
def at1 (n f : Str) : Option (D × Wd) → Option (D × Wd)
  | some (a, w) => vD w (attrD n f a)
  | none => none
@[simp] theorem at1.on (n f : Str) (a : D) (w : Wd) : at1 n f (some (a, w)) = vD w (attrD n f a) := rfl
@[simp] theorem eAttr.ap (n f : Str) (fo : Ev) (ds : List Sl) (w : Wd) : eAttr n f fo ds w = at1 n f (fo ds w) := by
  unfold eAttr
  rcases fo ds w with _ | ⟨a, w1⟩
  · rfl
  · show (attrD n f a).bind _ = vD w1 (attrD n f a)
    rcases attrD n f a with _ | b <;> rfl
def me2 (n m : Str) (k : Nat) (G : Fn) (o : D) : Option (List D × Wd) → Option (D × Wd)
  | some (xs, w) => if clsOk n m o = true ∧ xs.length + 1 = k then G (o :: xs) w else none
  | none => none
@[simp] theorem me2.on (n m : Str) (k : Nat) (G : Fn) (o : D) (xs : List D) (w : Wd) : me2 n m k G o (some (xs, w)) = if clsOk n m o = true ∧ xs.length + 1 = k then G (o :: xs) w else none := rfl
def me1 (n m : Str) (k : Nat) (G : Fn) (fs : Ef) (ds : List Sl) : Option (D × Wd) → Option (D × Wd)
  | some (o, w) => me2 n m k G o (fs ds w)
  | none => none
@[simp] theorem me1.on (n m : Str) (k : Nat) (G : Fn) (fs : Ef) (ds : List Sl) (o : D) (w : Wd) : me1 n m k G fs ds (some (o, w)) = me2 n m k G o (fs ds w) := rfl
@[simp] theorem eMeth.ap (n m : Str) (k : Nat) (G : Fn) (fo : Ev) (fs : Ef) (ds : List Sl) (w : Wd) : eMeth n m k G fo fs ds w = me1 n m k G fs ds (fo ds w) := by
  unfold eMeth
  rcases fo ds w with _ | ⟨o, w1⟩
  · rfl
  · show (fs ds w1).bind _ = me2 n m k G o (fs ds w1)
    rcases fs ds w1 with _ | ⟨a, w2⟩ <;> rfl
def mk2 (n : Str) : Option (Flds × Wd) → Option (D × Wd)
  | some (fs, w) => some (.obj n (kys fs) (vls fs), w)
  | none => none
@[simp] theorem mk2.on (n : Str) (fs : Flds) (w : Wd) : mk2 n (some (fs, w)) = some (.obj n (kys fs) (vls fs), w) := rfl
def mk1 (n : Str) (a : Nat) (G : List D → Wd → Option (Flds × Wd)) : Option (List D × Wd) → Option (D × Wd)
  | some (xs, w) => if xs.length + 1 = a then mk2 n (G xs w) else none
  | none => none
@[simp] theorem mk1.on (n : Str) (a : Nat) (G : List D → Wd → Option (Flds × Wd)) (xs : List D) (w : Wd) : mk1 n a G (some (xs, w)) = if xs.length + 1 = a then mk2 n (G xs w) else none := rfl
@[simp] theorem eMake.ap (n : Str) (a : Nat) (G : List D → Wd → Option (Flds × Wd)) (fs : Ef) (ds : List Sl) (w : Wd) : eMake n a G fs ds w = mk1 n a G (fs ds w) := by
  unfold eMake
  rcases fs ds w with _ | ⟨xs, w1⟩
  · rfl
  · show (if xs.length + 1 = a then _ else none) = if xs.length + 1 = a then mk2 n (G xs w1) else none
    by_cases h : xs.length + 1 = a
    · rw [if_pos h, if_pos h]
      rcases G xs w1 with _ | ⟨b, w2⟩ <;> rfl
    · rw [if_neg h, if_neg h]
def ic1 (n : Str) : Option (D × Wd) → Option (D × Wd)
  | some (a, w) => vD w (isC n a)
  | none => none
@[simp] theorem ic1.on (n : Str) (a : D) (w : Wd) : ic1 n (some (a, w)) = vD w (isC n a) := rfl
@[simp] theorem eIsC.ap (n : Str) (fo : Ev) (ds : List Sl) (w : Wd) : eIsC n fo ds w = ic1 n (fo ds w) := by
  unfold eIsC
  rcases fo ds w with _ | ⟨a, w1⟩
  · rfl
  · show (isC n a).bind _ = vD w1 (isC n a)
    rcases isC n a with _ | b <;> rfl
def oe2 (n : Str) (G : Fn) (a : D) : Option (D × Wd) → Option (D × Wd)
  | some (b, w) => if isObj n a = true ∧ isObj n b = true then blR (G [a, b] w) else none
  | none => none
@[simp] theorem oe2.on (n : Str) (G : Fn) (a b : D) (w : Wd) : oe2 n G a (some (b, w)) = if isObj n a = true ∧ isObj n b = true then blR (G [a, b] w) else none := rfl
def oe1 (n : Str) (G : Fn) (fb : Ev) (ds : List Sl) : Option (D × Wd) → Option (D × Wd)
  | some (a, w) => oe2 n G a (fb ds w)
  | none => none
@[simp] theorem oe1.on (n : Str) (G : Fn) (fb : Ev) (ds : List Sl) (a : D) (w : Wd) : oe1 n G fb ds (some (a, w)) = oe2 n G a (fb ds w) := rfl
@[simp] theorem eOwnEq.ap (n : Str) (G : Fn) (fa fb : Ev) (ds : List Sl) (w : Wd) : eOwnEq n G fa fb ds w = oe1 n G fb ds (fa ds w) := by
  unfold eOwnEq
  rcases fa ds w with _ | ⟨a, w1⟩
  · rfl
  · show (fb ds w1).bind _ = oe2 n G a (fb ds w1)
    rcases fb ds w1 with _ | ⟨b, w2⟩ <;> rfl
def ol1 (n : Str) (G : Fn) : Option (D × Wd) → Option (D × Wd)
  | some (a, w) => if isObj n a = true then lenR (G [a] w) else none
  | none => none
@[simp] theorem ol1.on (n : Str) (G : Fn) (a : D) (w : Wd) : ol1 n G (some (a, w)) = if isObj n a = true then lenR (G [a] w) else none := rfl
@[simp] theorem eOwnLen.ap (n : Str) (G : Fn) (fo : Ev) (ds : List Sl) (w : Wd) : eOwnLen n G fo ds w = ol1 n G (fo ds w) := by
  unfold eOwnLen
  rcases fo ds w with _ | ⟨a, w1⟩ <;> rfl
@[simp] theorem blR.on (c : Bool) (w : Wd) : blR (some (.bl c, w)) = some (.bl c, w) := rfl
@[simp] theorem lenR.on (i : Int) (w : Wd) : lenR (some (.int i, w)) = if 0 ≤ i ∧ i < 2 ^ 63 then some (.int i, w) else none := rfl
@[simp] theorem nNil.ap (ds : List Sl) (fs : Flds) (w : Wd) : nNil ds fs w = some (fs, w) := rfl
def na1 (f : Str) (g : En) (ds : List Sl) (fs : Flds) : Option (D × Wd) → Option (Flds × Wd)
  | some (d, w) => if fs.length + 1 < 100 then g ds (putD f d fs) w else none
  | none => none
@[simp] theorem na1.on (f : Str) (g : En) (ds : List Sl) (fs : Flds) (d : D) (w : Wd) : na1 f g ds fs (some (d, w)) = if fs.length + 1 < 100 then g ds (putD f d fs) w else none := rfl
@[simp] theorem nAttr.ap (f : Str) (fe : Ev) (g : En) (ds : List Sl) (fs : Flds) (w : Wd) : nAttr f fe g ds fs w = na1 f g ds fs (fe ds w) := by
  unfold nAttr
  rcases fe ds w with _ | ⟨d, w1⟩ <;> rfl
end J
namespace J
open PySem PyProof.Rows L2
/-! laid data of bounded depth, and equality of data told by an encoding -/
def La (k : Nat) (d : D) : Prop := pok d = true ∧ PyData.canLay0 (py d) = true ∧ PyData.depth (py d) ≤ k
theorem La.lay {k : Nat} {d : D} (h : La k d) (hk : k ≤ 64) : J.lay d = true := by
  unfold J.lay SeqAt.shaped
  rw [h.1, h.2.1, decide_eq_true (Nat.le_trans h.2.2 hk)]
  rfl
theorem La.of {d : D} (h : J.lay d = true) (k : Nat) (hd : PyData.depth (py d) ≤ k) : La k d := by
  unfold J.lay SeqAt.shaped at h
  have h1 := Bool.and_eq_true_iff.mp h
  exact ⟨h1.1, (Bool.and_eq_true_iff.mp h1.2).1, hd⟩
theorem la_int (i : Int) : La 1 (.int i) := ⟨rfl, rfl, by simp [py, PyData.depth]⟩
theorem la_all {k : Nat} : ∀ {ds : List D}, (∀ d ∈ ds, La k d) → poks ds = true ∧ PyData.canLayAll0 (pys ds) = true ∧ PyData.depthAll (pys ds) ≤ k
  | [], _ => ⟨rfl, rfl, Nat.zero_le _⟩
  | d :: ds, h => by
    obtain ⟨a1, a2, a3⟩ := h d List.mem_cons_self
    obtain ⟨b1, b2, b3⟩ := la_all fun e he => h e (List.mem_cons_of_mem _ he)
    refine ⟨?_, ?_, ?_⟩
    · show (pok d && poks ds) = true
      rw [a1, b1]; rfl
    · show (PyData.canLay0 (py d) && PyData.canLayAll0 (pys ds)) = true
      rw [a2, b2]; rfl
    · show max (PyData.depth (py d)) (PyData.depthAll (pys ds)) ≤ k
      omega
theorem la_lst {k : Nat} {ds : List D} (h : ∀ d ∈ ds, La k d) : La (k + 1) (.lst ds) := by
  obtain ⟨a1, a2, a3⟩ := la_all h
  refine ⟨a1, ?_, ?_⟩
  · show PyData.canLay0 (.list (pys ds)) = true
    unfold PyData.canLay0
    exact a2
  · show PyData.depth (.list (pys ds)) ≤ k + 1
    unfold PyData.depth
    omega
theorem la_tup {k : Nat} {ds : List D} (h : ∀ d ∈ ds, La k d) : La (k + 1) (.tup ds) := by
  obtain ⟨a1, a2, a3⟩ := la_all h
  refine ⟨a1, ?_, ?_⟩
  · show PyData.canLay0 (.tuple (pys ds)) = true
    unfold PyData.canLay0
    exact a2
  · show PyData.depth (.tuple (pys ds)) ≤ k + 1
    unfold PyData.depth
    omega
theorem la_lstM {α : Type} {k : Nat} {f : α → D} {l : List α} (h : ∀ a ∈ l, La k (f a)) : La (k + 1) (.lst (l.map f)) := la_lst fun d hd => by
  obtain ⟨a, ha, rfl⟩ := List.mem_map.mp hd
  exact h a ha
theorem la_tupM {α : Type} {k : Nat} {f : α → D} {l : List α} (h : ∀ a ∈ l, La k (f a)) : La (k + 1) (.tup (l.map f)) := la_tup fun d hd => by
  obtain ⟨a, ha, rfl⟩ := List.mem_map.mp hd
  exact h a ha
def Inj {α : Type} [DecidableEq α] (f : α → D) : Prop := ∀ a b, PyData.eqv (py (f a)) (py (f b)) = decide (a = b)
theorem inj_int : Inj D.int := eqv_int
theorem inj_str : Inj D.str := eqv_str
theorem inj_all {α : Type} [DecidableEq α] {f : α → D} (h : Inj f) : ∀ xs ys : List α, PyData.eqvAll (pys (xs.map f)) (pys (ys.map f)) = decide (xs = ys)
  | [], [] => rfl
  | [], y :: ys => rfl
  | x :: xs, [] => rfl
  | x :: xs, y :: ys => by
    show (PyData.eqv (py (f x)) (py (f y)) && PyData.eqvAll (pys (xs.map f)) (pys (ys.map f))) = _
    rw [h x y, inj_all h xs ys, Bool.eq_iff_iff]
    simp
theorem inj_lst {α : Type} [DecidableEq α] {f : α → D} (h : Inj f) : Inj fun l : List α => D.lst (l.map f) := fun a b => by
  show PyData.eqv (.list (pys (a.map f))) (.list (pys (b.map f))) = _
  unfold PyData.eqv
  exact inj_all h a b
theorem inj_tup {α : Type} [DecidableEq α] {f : α → D} (h : Inj f) : Inj fun l : List α => D.tup (l.map f) := fun a b => by
  show PyData.eqv (.tuple (pys (a.map f))) (.tuple (pys (b.map f))) = _
  unfold PyData.eqv
  exact inj_all h a b
theorem eq_on {α : Type} [DecidableEq α] {f : α → D} (h : Inj f) {a b : α} (ha : lay (f a) = true) (hb : lay (f b) = true) : eqD (f a) (f b) = some (.bl (decide (a = b))) := by
  unfold eqD
  rw [ha, hb, h a b]
  rfl
theorem ne_on {α : Type} [DecidableEq α] {f : α → D} (h : Inj f) {a b : α} (ha : lay (f a) = true) (hb : lay (f b) = true) : neD (f a) (f b) = some (.bl (!decide (a = b))) := by
  unfold neD
  rw [ha, hb, h a b]
  rfl
theorem any_py {α : Type} [DecidableEq α] {f : α → D} (h : Inj f) (a : α) (l : List α) : (pys (l.map f)).any (fun z => PyData.eqv z (py (f a))) = decide (a ∈ l) := by
  rw [pys_map, List.map_map, List.any_map, Bool.eq_iff_iff, List.any_eq_true, decide_eq_true_eq]
  constructor
  · intro ⟨x, hx, e⟩
    have e' : decide (x = a) = true := (h x a).symm.trans e
    rw [← of_decide_eq_true e']
    exact hx
  · intro ha
    exact ⟨a, ha, (h a a).trans (decide_eq_true rfl)⟩
theorem in_lst {α : Type} [DecidableEq α] {f : α → D} (h : Inj f) {a : α} {l : List α} (ha : lay (f a) = true) (hl : lay (.lst (l.map f)) = true) : inD false (f a) (.lst (l.map f)) = some (.bl (decide (a ∈ l))) := by
  unfold inD
  dsimp only
  rw [ha, hl, any_py h a l]
  rfl
theorem notin_lst {α : Type} [DecidableEq α] {f : α → D} (h : Inj f) {a : α} {l : List α} (ha : lay (f a) = true) (hl : lay (.lst (l.map f)) = true) : inD true (f a) (.lst (l.map f)) = some (.bl (!decide (a ∈ l))) := by
  unfold inD
  dsimp only
  rw [ha, hl, any_py h a l]
  rfl
theorem in_tup {α : Type} [DecidableEq α] {f : α → D} (h : Inj f) {a : α} {l : List α} (hf : flatD (f a) = false) (ha : lay (f a) = true) (hl : lay (.tup (l.map f)) = true) : inD false (f a) (.tup (l.map f)) = some (.bl (decide (a ∈ l))) := by
  unfold inD
  dsimp only
  rw [hf, ha, hl, any_py h a l]
  rfl
/-! a for whose turns go on, or return False at the first that is bad -/
theorem forGo_chk {α β : Type} (enc : α → D) {tg : Eg} {body : Es} {w : Wd} (env : β → List Sl → Prop) (f : β → α → β) (bad : α → Bool) : ∀ (xs : List α) (b : β) (ds : List Sl), env b ds →
    (∀ a ∈ xs, ∀ (b : β) (ds : List Sl), env b ds → ∃ ds1, tg ds (enc a) = some ds1 ∧ (bad a = true → body ds1 w = some (.rt (.bl false) w)) ∧ (bad a = false → ∃ ds2, body ds1 w = some (.nx ds2 w) ∧ env (f b a) ds2)) →
    (xs.any bad = true → forGo tg body (xs.map enc) ds w = some (.rt (.bl false) w)) ∧ (xs.any bad = false → ∃ ds', forGo tg body (xs.map enc) ds w = some (.nx ds' w) ∧ env (xs.foldl f b) ds')
  | [], b, ds, h, _ => ⟨fun z => (nomatch z), fun _ => ⟨ds, rfl, h⟩⟩
  | a :: xs, b, ds, h, hs => by
    obtain ⟨ds1, h1, h2, h3⟩ := hs a List.mem_cons_self b ds h
    rw [List.any_cons]
    cases hb : bad a with
    | true =>
      refine ⟨fun _ => ?_, fun z => (nomatch z)⟩
      show (tg ds (enc a)).bind _ = _
      rw [h1]
      show (body ds1 w).bind _ = _
      rw [h2 hb]
      rfl
    | false =>
      obtain ⟨ds2, h4, h5⟩ := h3 hb
      obtain ⟨i1, i2⟩ := forGo_chk enc env f bad xs (f b a) ds2 h5 fun a' ha' => hs a' (List.mem_cons_of_mem _ ha')
      have e : forGo tg body ((a :: xs).map enc) ds w = forGo tg body (xs.map enc) ds2 w := by
        show (tg ds (enc a)).bind _ = _
        rw [h1]
        show (body ds1 w).bind _ = _
        rw [h4]
        rfl
      rw [Bool.false_or, e]
      exact ⟨i1, i2⟩
/-- .. when nothing is kept -/
theorem forGo_bad {α : Type} (enc : α → D) {tg : Eg} {body : Es} {w : Wd} (env : List Sl → Prop) (bad : α → Bool) (xs : List α) (ds : List Sl) (h : env ds)
    (hs : ∀ a ∈ xs, ∀ (ds : List Sl), env ds → ∃ ds1, tg ds (enc a) = some ds1 ∧ (bad a = true → body ds1 w = some (.rt (.bl false) w)) ∧ (bad a = false → ∃ ds2, body ds1 w = some (.nx ds2 w) ∧ env ds2)) :
    (xs.any bad = true → forGo tg body (xs.map enc) ds w = some (.rt (.bl false) w)) ∧ (xs.any bad = false → ∃ ds', forGo tg body (xs.map enc) ds w = some (.nx ds' w) ∧ env ds') :=
  forGo_chk (β := Unit) enc (fun _ => env) (fun b _ => b) bad xs () ds h fun a ha _ => hs a ha
end J
namespace J
open PySem PyProof.Rows L2
theorem forGo_rt {tg : Eg} {body : Es} {x : D} {xs : List D} {ds ds1 : List Sl} {d : D} {w w2 : Wd} (h1 : tg ds x = some ds1) (h2 : body ds1 w = some (.rt d w2)) : forGo tg body (x :: xs) ds w = some (.rt d w2) := by
  show (tg ds x).bind _ = _
  rw [h1]
  show (body ds1 w).bind _ = _
  rw [h2]
  rfl
theorem cut_from (xs : List D) (k : Nat) : cutD xs (some (k : Int)) none = xs.drop k := by
  unfold cutD
  have e : HT.sIx xs.length 0 (some (k : Int)) = min k xs.length := HT.sIx_nat _ _ k
  rw [HT.sIx_none, e]
  rcases Nat.lt_or_ge k xs.length with h | h
  · rw [Nat.min_eq_left (by omega)]
    exact List.take_of_length_le (by simp)
  · rw [Nat.min_eq_right h, List.drop_eq_nil_of_le h]
    simp
theorem cut_to (xs : List D) (k : Nat) : cutD xs none (some (k : Int)) = xs.take k := by
  unfold cutD
  have e : HT.sIx xs.length xs.length (some (k : Int)) = min k xs.length := HT.sIx_nat _ _ k
  rw [HT.sIx_none, e, List.drop_zero, Nat.sub_zero]
  rcases Nat.lt_or_ge k xs.length with h | h
  · rw [Nat.min_eq_left (by omega)]
  · rw [Nat.min_eq_right h, List.take_length, List.take_of_length_le h]
theorem cut_from1 (xs : List D) : cutD xs (some 1) none = xs.drop 1 := cut_from xs 1
theorem cut_to1 (xs : List D) : cutD xs none (some 1) = xs.take 1 := cut_to xs 1
theorem cut_butlast (xs : List D) : cutD xs none (some (-1)) = xs.take (xs.length - 1) := by
  unfold cutD
  have e : HT.sIx xs.length xs.length (some (-1)) = xs.length - 1 := by
    show (if (-1 : Int) < 0 then (-1 + (xs.length : Int)).toNat else min (-1 : Int).toNat xs.length) = _
    rw [if_pos (by decide)]
    omega
  rw [HT.sIx_none, e, List.drop_zero, Nat.sub_zero]
theorem enumD_zip {α : Type} (f : α → D) : ∀ (xs : List α) (k : Nat), enumD k (xs.map f) = (xs.zipIdx k).map fun p => .tup [.int (p.2 : Int), f p.1]
  | [], _ => rfl
  | x :: xs, k => by
    show D.tup [.int (k : Int), f x] :: enumD (k + 1) (xs.map f) = _
    rw [enumD_zip f xs (k + 1)]
    rfl
/-! steps of a body -/
theorem seq_nx {f g : Es} {ds ds2 : List Sl} {w w2 : Wd} (h : f ds w = some (.nx ds2 w2)) : sSeq f g ds w = g ds2 w2 := by
  rw [sSeq.ap, h]
  rfl
theorem seq_rt {f g : Es} {ds : List Sl} {d : D} {w w2 : Wd} (h : f ds w = some (.rt d w2)) : sSeq f g ds w = some (.rt d w2) := by
  rw [sSeq.ap, h]
  rfl
theorem sif_no {t : Et} {a g : Es} {ds : List Sl} {w w2 : Wd} (h : t ds w = some (false, w2)) : sSeq (sIf t a sNil) g ds w = g ds w2 := by
  rw [sSeq.ap, sIf.ap, h]
  rfl
theorem sif_ret {t : Et} {g h : Es} {d : D} {ds : List Sl} {w w2 : Wd} (e : t ds w = some (true, w2)) : sSeq (sIf t (sSeq (sRet (eC d)) g) sNil) h ds w = some (.rt d w2) := by
  rw [sSeq.ap, sIf.ap, e]
  rfl
end J
namespace J
open PySem PyProof.Rows L2
/-! ### dicts whose keys are ints and texts -/
def keyOf : D → Option Key
  | .int i => some (.inl i)
  | .str s => some (.inr s)
  | _ => none
theorem key_of {K : PySem.W.Frag} {p : Addr} {F : Hp} {d : D} {k : Key} {v : V} (e : keyOf d = some k) (h : Den K p F d v) : v = kV k := by
  cases d <;> first | (cases e; unfold Den at h; exact h) | cases e
theorem keyB_of {K : PySem.W.Frag} {p : Addr} {F H : Hp} {d : D} {k : Key} {v : V} (e : keyOf d = some k) (h : DenB K p F H d v) : v = kV k := by
  rcases h with h | ⟨_, _, rfl, _⟩ | ⟨_, x, rfl, _⟩
  · exact key_of e h
  · cases e
  · cases x <;> cases e
section
variable {κ : Type} [DecidableEq κ] {α : Type}
def atK (ks : List κ) (xs : List α) (k : κ) : Option α := ((ks.zip xs).find? fun p => decide (p.1 = k)).map (·.2)
def putVs (ks : List κ) (xs : List α) (k : κ) (x : α) : List α := if k ∈ ks then (ks.zip xs).map (fun p => if p.1 = k then x else p.2) else xs ++ [x]
def putKs (ks : List κ) (k : κ) : List κ := if k ∈ ks then ks else ks ++ [k]
def hasK (ks : List κ) (k : κ) : Bool := decide (k ∈ ks)
theorem atK_nil (xs : List α) (k : κ) : atK [] xs k = none := rfl
theorem atK_cons (q : κ) (ks : List κ) (x : α) (xs : List α) (k : κ) : atK (q :: ks) (x :: xs) k = if q = k then some x else atK ks xs k := by
  unfold atK
  rw [List.zip_cons_cons, List.find?_cons]
  by_cases h : q = k
  · simp [h]
  · simp [h]
theorem atK_some {ks : List κ} {k : κ} : ∀ {xs : List α}, ks.length = xs.length → (atK ks xs k).isSome = decide (k ∈ ks) := by
  induction ks with
  | nil => intro xs _; rfl
  | cons q ks ih =>
    intro xs h
    cases xs with
    | nil => cases h
    | cons x xs =>
      rw [atK_cons]
      by_cases hq : q = k
      · rw [if_pos hq]
        simp [hq]
      · rw [if_neg hq, ih (Nat.succ.inj h)]
        simp [Ne.symm hq]
theorem valV_zip (ks : List κ) (vs : List V) (k : κ) : valV (ks.zip vs) k = atK ks vs k := rfl
theorem zip_any {ks : List κ} {k : κ} : ∀ {vs : List V}, ks.length = vs.length → ((ks.zip vs).any fun kv => decide (kv.1 = k)) = decide (k ∈ ks) := by
  induction ks with
  | nil => intro vs _; rfl
  | cons q ks ih =>
    intro vs h
    cases vs with
    | nil => cases h
    | cons v vs =>
      rw [List.zip_cons_cons, List.any_cons, ih (Nat.succ.inj h)]
      by_cases hq : q = k
      · simp [hq]
      · simp [hq, Ne.symm hq]
theorem zip_put (k : κ) (v : V) : ∀ {ks : List κ} {vs : List V}, ks.length = vs.length → (ks.zip vs).map (fun kv => if kv.1 = k then (kv.1, v) else kv) = ks.zip ((ks.zip vs).map fun p => if p.1 = k then v else p.2)
  | [], _, _ => rfl
  | q :: ks, [], h => by cases h
  | q :: ks, u :: vs, h => by
    rw [List.zip_cons_cons, List.map_cons, List.map_cons, List.zip_cons_cons, ← zip_put k v (Nat.succ.inj h)]
    by_cases hq : q = k
    · simp [hq]
    · simp [hq]
theorem putK_zip {ks : List κ} {vs : List V} (h : ks.length = vs.length) (k : κ) (v : V) : putK (ks.zip vs) k v = (putKs ks k).zip (putVs ks vs k v) := by
  unfold putK putKs putVs
  rw [zip_any h]
  by_cases hk : k ∈ ks
  · rw [if_pos (decide_eq_true hk), if_pos hk, if_pos hk]
    exact zip_put k v h
  · rw [if_neg (by simpa using hk), if_neg hk, if_neg hk, List.zip_append h]
    rfl
theorem putVs_len {ks : List κ} {xs : List α} (h : ks.length = xs.length) (k : κ) (x : α) : (putKs ks k).length = (putVs ks xs k x).length := by
  unfold putKs putVs
  split
  · rw [List.length_map, List.length_zip]
    omega
  · rw [List.length_append, List.length_append, h]
    rfl
variable {K : PySem.W.Frag} {p : Addr} {F : Hp}
theorem at_den {ks : List κ} {k : κ} : ∀ {ds : List D} {vs : List V} {d : D}, Dens K p F ds vs → atK ks ds k = some d → ∃ v, atK ks vs k = some v ∧ Den K p F d v := by
  induction ks with
  | nil => intro ds vs d _ h; cases h
  | cons q ks ih =>
    intro ds vs d h e
    cases ds with
    | nil => cases e
    | cons d0 ds =>
      unfold Dens at h
      obtain ⟨v, r, rfl, a, b⟩ := h
      rw [atK_cons] at e ⊢
      split at e
      · rename_i hq
        cases e
        exact ⟨v, by rw [if_pos hq], a⟩
      · rename_i hq
        obtain ⟨u, h1, h2⟩ := ih b e
        exact ⟨u, by rw [if_neg hq]; exact h1, h2⟩
theorem put_den_map {k : κ} {d : D} {v : V} (hv : Den K p F d v) : ∀ {ks : List κ} {ds : List D} {vs : List V}, Dens K p F ds vs → Dens K p F ((ks.zip ds).map fun q => if q.1 = k then d else q.2) ((ks.zip vs).map fun q => if q.1 = k then v else q.2)
  | [], _, _, _ => dens_nil
  | q :: ks, [], vs, h => by
    unfold Dens at h
    subst h
    exact dens_nil
  | q :: ks, e :: ds, vs, h => by
    unfold Dens at h
    obtain ⟨u, r, rfl, a, b⟩ := h
    rw [List.zip_cons_cons, List.map_cons, List.zip_cons_cons, List.map_cons]
    refine dens_cons ?_ (put_den_map hv b)
    by_cases hq : q = k
    · simp [hq]
      exact hv
    · simp [hq]
      exact a
theorem put_den {ks : List κ} {ds : List D} {vs : List V} {k : κ} {d : D} {v : V} (h : Dens K p F ds vs) (hv : Den K p F d v) : Dens K p F (putVs ks ds k d) (putVs ks vs k v) := by
  unfold putVs
  split
  · exact put_den_map hv h
  · exact h.append (dens_cons hv dens_nil)
end
section
variable {K : PySem.W.Frag} {p : Addr} {F H : Hp}
/-- a dict that is read -/
theorem DenB.dk {ks : List Key} {ds : List D} {v : V} (h : DenB K p F H (.dk ks ds) v) (e : Same F H) : ∃ a vs, v = .ref a ∧ ks.length = ds.length ∧ Rd H a (.dK (ks.zip vs)) ∧ Dens K p F ds vs := by
  rcases h with h | ⟨_, _, q, _⟩ | ⟨a, x, q, rfl, o⟩
  · unfold Den at h
    obtain ⟨a, o, vs, rfl, l, h1, h2⟩ := h
    exact ⟨a, vs, rfl, l, .inr ⟨o, e _ _ h1⟩, h2⟩
  · cases q
  · cases x with
    | t _ _ => cases q
    | k ks' ds' =>
      cases q
      obtain ⟨l, vs, h1, _, _, h4⟩ := o
      exact ⟨a, vs, rfl, l, .inl h1, h4⟩
end
/-- d[k] -/
def dAt (a k : D) : Option D := match a with
  | .dk ks ds => (keyOf k).bind fun q => atK ks ds q
  | _ => none
def eDAt (fo fi : Ev) : Ev := fun ds w => (fo ds w).bind fun a => (fi ds a.2).bind fun k => (dAt a.1 k.1).bind fun d => some (d, k.2)
section
variable {X : Cx} {o i e : Expr} {fo fi fe : Ev} {pos : Pos} {k : Nat}
theorem je_dAt (hr : Room k X.A) (ho : JB X o fo) (hi : JB X i fi) (hs : NoSl i := by exact fun _ _ => rfl) : JE X (.Subscript o i pos) (eDAt fo fi) :=
  ⟨pe_weak (pe_dget (by have := hr.un; omega) ho.run hi.run hs) fun σ H Q ⟨Z, F, ds, w, d, w', rr, hf, kk⟩ => by
    obtain ⟨a, ha, hf⟩ := bind2 hf
    obtain ⟨b, hb, hf⟩ := bind2 hf
    obtain ⟨d', hd, hf⟩ := bind2 hf
    cases hf
    refine ⟨Z, F, ds, w, _, _, rr, ha, fun v F1 H1 s1 d1 hv => ⟨Z, F1, ds, _, _, _, rr.step s1 d1, hb, fun u F2 H2 s2 d2 hu => ?_⟩⟩
    unfold dAt at hd
    split at hd
    · rename_i ks es ea
      obtain ⟨q, hq, hd⟩ := bind2 hd
      rw [ea] at hv
      obtain ⟨c, vs, rfl, l, h1, h2⟩ := (hv.step s2).dk s2.e
      obtain ⟨y, g1, g2⟩ := at_den h2 hd
      rw [keyB_of hq hu]
      exact ⟨c, y, rfl, .inl ⟨_, q, h1, rfl, g1.symm⟩, kk y F2 H2 (s1.trans s2) d2 g2⟩
    · cases hd⟩
/-- k in d -/
def dHas (neg : Bool) (k a : D) : Option D := match a with
  | .dk ks ds => (keyOf k).bind fun q => if ks.length = ds.length then some (.bl (if neg then !hasK ks q else hasK ks q)) else none
  | _ => none
def eDHas (neg : Bool) (fi fo : Ev) : Ev := fun ds w => (fi ds w).bind fun k => (fo ds k.2).bind fun a => (dHas neg k.1 a.1).bind fun d => some (d, a.2)
theorem has_of {neg : Bool} {σ : L2.St} {H : Hp} {Q : VK} (h : canE X.K (eDHas neg fi fo) σ H Q) : canB X.K fi σ H fun y H1 => canB X.K fo σ H1 fun x H2 => ∃ a ov, x = .ref a ∧ DGet H2 a y ov ∧ Q (.bl (if neg then !ov.isSome else ov.isSome)) H2 := by
  obtain ⟨Z, F, ds, w, d, w', rr, hf, kk⟩ := h
  obtain ⟨b, hb, hf⟩ := bind2 hf
  obtain ⟨a, ha, hf⟩ := bind2 hf
  obtain ⟨d', hd, hf⟩ := bind2 hf
  cases hf
  refine ⟨Z, F, ds, w, _, _, rr, hb, fun u F1 H1 s1 d1 hu => ⟨Z, F1, ds, _, _, _, rr.step s1 d1, ha, fun v F2 H2 s2 d2 hv => ?_⟩⟩
  unfold dHas at hd
  split at hd
  · rename_i ks es ea
    obtain ⟨q, hq, hd⟩ := bind2 hd
    split at hd
    · rename_i hl
      cases hd
      rw [ea] at hv
      obtain ⟨c, vs, rfl, l, h1, h2⟩ := hv.dk s2.e
      rw [keyB_of hq hu]
      refine ⟨c, _, rfl, .inl ⟨_, q, h1, rfl, rfl⟩, ?_⟩
      have e : (valV (ks.zip vs) q).isSome = hasK ks q := atK_some (hl.trans h2.len.symm)
      rw [e]
      cases neg
      · exact kk _ F2 H2 (s1.trans s2) d2 den_bl
      · exact kk _ F2 H2 (s1.trans s2) d2 den_bl
    · cases hd
  · cases hd
theorem je_dIn (hr : Room k X.A) (hi : JB X i fi) (ho : JB X o fo) (h1 : behindInMarks .In o = false := by first | exact nobehind _ (by decide) (by decide) | rfl) : JE X (.Compare i [.In] [o] pos) (eDHas false fi fo) :=
  ⟨pe_weak (pe_cmp (pc_din (by have := hr.un; omega) hi.run ho.run) h1) fun σ H Q h => has_of h⟩
theorem je_dNotIn (hr : Room k X.A) (hi : JB X i fi) (ho : JB X o fo) (h1 : behindInMarks .NotIn o = false := by first | exact nobehind _ (by decide) (by decide) | rfl) : JE X (.Compare i [.NotIn] [o] pos) (eDHas true fi fo) :=
  ⟨pe_weak (pe_cmp (pc_dnotin (by have := hr.un; omega) hi.run ho.run) h1) fun σ H Q h => has_of h⟩
end
end J
namespace J
open PySem PyProof.Rows L2
section
variable {K : PySem.W.Frag} {Z : Cfg} {F H F1 H1 : Hp} {σ : L2.St} {ds : List Sl} {w w1 : Wd}
/-- a name gets a dict of its own -/
theorem R.freshD {x : OD} {q : Addr} (i : Nat) (rr : R K Z F H σ ds w) (s1 : Stp Z.p F H F1 H1) (d1 : Dr Z.p F1 H1 w1) (h1 : OwnO K Z.p F1 H1 q x) (h2 : H q = none) : R K Z F1 H1 (σ.set i (some (.ref q))) (ds.set i (.oo x)) w1 := by
  obtain ⟨o, g1, g2, g3⟩ := h1.at
  have nm : q ∉ Z.M := fun z => by
    obtain ⟨⟨o, ho⟩, _⟩ := rr.hm _ z
    rw [h2] at ho
    cases ho
  have r1 := rr.step s1 d1
  obtain ⟨α, hα⟩ := rr.env
  have he : EnvOk K Z F H σ ds α := hα
  refine ⟨r1.ex, r1.fp, r1.dr, r1.pm, r1.hm, r1.m0, r1.keep, r1.nw, r1.f0, by rw [List.length_set, List.length_set]; exact r1.len, _, (he.step s1).put r1.len (fun _ => rfl) (fun p hp => ?_) fun hi => ⟨by rw [List.getElem?_set_self (by rw [r1.len]; exact hi)], h1, ?_⟩⟩
  · obtain ⟨o, g2, _⟩ := he.live hp
    exact ne_of_none g2 h2
  · cases z : Z.H0 q with
    | none => rfl
    | some o =>
      have := rr.keep q o g3 nm z
      rw [h2] at this
      cases this
/-- what stands where the own dict of a name stands -/
theorem R.dict1 (r : R K Z F H σ ds w) {i : Nat} {x : OD} (h : ds[i]? = some (.oo x)) : ∃ a, σ[i]? = some (some (.ref a)) ∧ OwnO K Z.p F H a x ∧ Z.H0 a = none := by
  obtain ⟨α, _, hα⟩ := r.env
  exact ⟨_, hα i _ h⟩
/-- a dict of one's own turns -/
theorem R.turnD (r : R K Z F H σ ds w) {i : Nat} {x x' : OD} {a : Addr} {o' : HO} (hs : ds[i]? = some (.oo x)) (ha : σ[i]? = some (some (.ref a))) (hx : OwnO K Z.p F (upd H a o') a x') : R K Z F (upd H a o') σ (ds.set i (.oo x')) w := by
  obtain ⟨α, inj, hα⟩ := id r.env
  obtain ⟨h1, h2, h3⟩ := hα i _ hs
  rw [ha] at h1
  cases h1
  obtain ⟨u, g1, g2, g3⟩ := h2.at
  refine ⟨fun b o z => ?_, r.fp, ?_, r.pm, fun b hb => ⟨?_, (r.hm b hb).2⟩, r.m0, fun b o hb hm z => ?_, r.nw, r.f0, by rw [List.length_set]; exact r.len, α, fun p q hp hq => ?_, fun j t ht => ?_⟩
  · rw [upd_ne (ne_of_none z g2)]
    exact r.ex b o z
  · obtain ⟨c, q1, q2⟩ := r.dr
    exact ⟨c, by rw [upd_ne (Ne.symm g3)]; exact q1, q2⟩
  · by_cases hba : b = α (i, 0)
    · subst hba
      exact ⟨_, upd_same⟩
    · obtain ⟨o, ho⟩ := (r.hm b hb).1
      exact ⟨o, by rw [upd_ne hba]; exact ho⟩
  · have hba : b ≠ α (i, 0) := by
      rintro rfl
      rw [h3] at z
      cases z
    rw [upd_ne hba]
    exact r.keep b o hb hm z
  · exact inj p q (isOwn_eq (t := .oo x') hs (fun _ => rfl) hp) (isOwn_eq (t := .oo x') hs (fun _ => rfl) hq)
  · rw [List.getElem?_set] at ht
    by_cases hj : i = j
    · subst hj
      rw [if_pos rfl] at ht
      split at ht
      · cases ht
        exact ⟨ha, hx, h3⟩
      · cases ht
    · rw [if_neg hj] at ht
      have z := hα j t ht
      have nb : ∀ m, t.has m = true → α (j, m) ≠ α (i, 0) := fun m ho q => hj (congrArg Prod.fst (inj (i, 0) (j, m) ⟨_, hs, decide_eq_true (rfl : (0 : Nat) = 0)⟩ ⟨t, ht, ho⟩ q.symm))
      have na : t.ow = true → α (j, 0) ≠ α (i, 0) := fun ho => nb 0 (has0 ho)
      cases t with
      | no => trivial
      | d x => exact z
      | own zs =>
        obtain ⟨q1, ⟨us', q2, q3⟩, q5⟩ := z
        exact ⟨q1, ⟨us', by rw [upd_ne (na rfl)]; exact q2, q3⟩, q5⟩
      | mu k zs =>
        obtain ⟨q1, ⟨us', q2, q3⟩, q5⟩ := z
        exact ⟨q1, ⟨us', by rw [upd_ne (na rfl)]; exact q2, q3⟩, q5⟩
      | oo x =>
        obtain ⟨q1, q2, q5⟩ := z
        obtain ⟨_, _, q3, _⟩ := q2.at
        exact ⟨q1, q2.same (upd_ne (na rfl)) q3 (Same.refl _), q5⟩
      | ll ks xss => exact SlR.ll_same z rfl (fun _ => rfl) (fun m hm => upd_ne (nb m (decide_eq_true hm))) (fun _ _ z => z) (Same.refl _)
/-- a dict of one's own is told to all, and locked -/
theorem R.lockD (r : R K Z F H σ ds w) {i : Nat} {x : OD} {a : Addr} {u od} (hs : ds[i]? = some (.oo x)) (ha : σ[i]? = some (some (.ref a))) (hu : H a = some u) : ∃ F', Same F F' ∧ R K Z F' (upd H a (.frz od u)) σ (ds.set i (.d x.toD)) w := by
  obtain ⟨α, inj, hα⟩ := id r.env
  obtain ⟨h1, h2, h3⟩ := hα i _ hs
  rw [ha] at h1
  cases h1
  obtain ⟨u', g1, g2, g3⟩ := h2.at
  rw [hu] at g1
  cases g1
  have sf : Same F (upd F (α (i, 0)) (.frz od u)) := same_tell g2
  have nm : α (i, 0) ∉ Z.M := fun z => by
    obtain ⟨o, ho⟩ := r.m0 _ z
    rw [h3] at ho
    cases ho
  refine ⟨_, sf, fun b o z => ?_, by rw [upd_ne (Ne.symm g3)]; exact r.fp, ?_, r.pm, fun b hb => ⟨?_, by rw [upd_ne (fun q : b = α (i, 0) => nm (q ▸ hb))]; exact (r.hm b hb).2⟩, r.m0, fun b o hb hm z => ?_, fun b o z => ?_, r.f0.trans sf, by rw [List.length_set]; exact r.len, α, fun p q hp hq => inj p q (isOwn_set rfl hp) (isOwn_set rfl hq), fun j t ht => ?_⟩
  · by_cases hb : b = α (i, 0)
    · subst hb
      rw [upd_same] at z ⊢
      exact z
    · rw [upd_ne hb] at z ⊢
      exact r.ex b o z
  · obtain ⟨c, q1, q2⟩ := r.dr
    exact ⟨c, by rw [upd_ne (Ne.symm g3)]; exact q1, sf _ _ q2⟩
  · obtain ⟨o, ho⟩ := (r.hm b hb).1
    exact ⟨o, by rw [upd_ne (fun q : b = α (i, 0) => nm (q ▸ hb))]; exact ho⟩
  · have hba : b ≠ α (i, 0) := by
      rintro rfl
      rw [h3] at z
      cases z
    rw [upd_ne hba]
    exact r.keep b o hb hm z
  · by_cases hb : b = α (i, 0)
    · subst hb
      exact .inr h3
    · rw [upd_ne hb] at z
      exact r.nw b o z
  · rw [List.getElem?_set] at ht
    by_cases hj : i = j
    · subst hj
      rw [if_pos rfl] at ht
      split at ht
      · cases ht
        refine ⟨_, ha, ?_⟩
        cases x with
        | k ks es =>
          obtain ⟨l, vs, k1, k2, k3, k4⟩ := h2
          rw [hu] at k1
          cases k1
          unfold OD.toD Den
          exact ⟨_, od, vs, rfl, l, upd_same, k4.mono sf⟩
        | t ks es =>
          obtain ⟨l, vs, k1, k2, k3, k4⟩ := h2
          rw [hu] at k1
          cases k1
          unfold OD.toD Den
          exact ⟨_, od, vs, rfl, l, upd_same, k4.mono sf⟩
      · cases ht
    · rw [if_neg hj] at ht
      have z := hα j t ht
      have nb : ∀ m, t.has m = true → α (j, m) ≠ α (i, 0) := fun m ho q => hj (congrArg Prod.fst (inj (i, 0) (j, m) ⟨_, hs, decide_eq_true (rfl : (0 : Nat) = 0)⟩ ⟨t, ht, ho⟩ q.symm))
      have na : t.ow = true → α (j, 0) ≠ α (i, 0) := fun ho => nb 0 (has0 ho)
      cases t with
      | no => trivial
      | d x =>
        obtain ⟨u, q1, q2⟩ := z
        exact ⟨u, q1, Den.mono sf x u q2⟩
      | own zs =>
        obtain ⟨q1, ⟨us', q2, q3, q4, q6⟩, q5⟩ := z
        exact ⟨q1, ⟨us', by rw [upd_ne (na rfl)]; exact q2, by rw [upd_ne (na rfl)]; exact q3, q4, q6.mono sf⟩, q5⟩
      | mu k zs =>
        obtain ⟨q1, ⟨us', q2, q3, q4, q6⟩, q5⟩ := z
        exact ⟨q1, ⟨us', by rw [upd_ne (na rfl)]; exact q2, by rw [upd_ne (na rfl)]; exact q3, q4, q6.mono sf⟩, q5⟩
      | oo x =>
        obtain ⟨q1, q2, q5⟩ := z
        obtain ⟨_, _, q3, _⟩ := q2.at
        exact ⟨q1, q2.same (upd_ne (na rfl)) (by rw [upd_ne (na rfl)]; exact q3) sf, q5⟩
      | ll ks xss => exact SlR.ll_same z rfl (fun _ => rfl) (fun m hm => upd_ne (nb m (decide_eq_true hm))) (fun m hm zz => (upd_ne (nb m (decide_eq_true hm))).trans zz) sf
end
/-! ### new dicts -/
abbrev Eo' := List Sl → Wd → Option (OD × Wd)
def KND (K : PySem.W.Frag) (p : Addr) (F H : Hp) (w' : Wd) (x : OD) (Q : VK) : Prop := ∀ q F' H', Stp p F H F' H' → Dr p F' H' w' → OwnO K p F' H' q x → H q = none → Q (.ref q) H'
def canND (K : PySem.W.Frag) (f : Eo') : TE := fun σ H Q => ∃ Z F ds w x w', R K Z F H σ ds w ∧ f ds w = some (x, w') ∧ KND K Z.p F H w' x Q
structure JND (X : Cx) (e : Expr) (f : Eo') : Prop where run : PE X e (canND X.K f)
section
variable {X : Cx} {e o i : Expr} {es : List Expr} {f : Eo'} {fe fi : Ev} {g : Ep} {gs : Es} {rest : List Stmt} {pos : Pos}
/-- {} -/
def nNew : Eo' := fun _ w => some (.k [] [], w)
theorem jn_new : JND X (.Dict [] [] pos) nNew := ⟨pe_weak pe_dnewK fun σ H Q ⟨Z, F, ds, w, x, w', rr, hf, k⟩ => by
  cases hf
  intro q hq
  obtain ⟨s1, d1⟩ := rr.newO (o := .dK []) hq
  exact k q F _ s1 d1 ⟨rfl, [], upd_same, (by
    cases z : F q with
    | none => rfl
    | some o =>
      have := rr.ex q o z
      rw [hq] at this
      cases this), rr.np hq, dens_nil⟩ hq⟩
def sSetN (i : Nat) (f : Eo') : Es := fun ds w => (f ds w).bind fun d => some (.nx (ds.set i (.oo d.1)) d.2)
theorem js_setN (i : Nat) {x : Str} {pos' : Pos} (hN : X.N.Nodup) (he : JND X e f) (hi : X.N[i]? = some x := by rfl) (hx : Loc X.env.scope x := by first | exact Or.inl rfl | exact Or.inr rfl) (hs : swapsWith e (some (.Name x pos')) pos.line X.env = pure false := by rfl) (hf : X.fn x = true ∨ X.env.scope.names.lookup x = some .local := by first | exact .inl rfl | exact .inr rfl | assumption) :
    JS X (.Assign [.Name x pos'] e pos) (sSetN i f) := ⟨ps_weak (ps_set hN hi hx he.run hs hf) fun D σ H ⟨Z, F, ds, w, o, rr, hf, k⟩ => by
  obtain ⟨d, hd, hf⟩ := bind2 hf
  cases hf
  exact ⟨Z, F, ds, w, _, _, rr, hd, fun q F1 H1 s1 d1 h1 h2 => k _ F1 H1 s1.f (R.freshD i rr s1 d1 h1 h2)⟩⟩
def pN (f : Eo') (g : Ep) : Ep := fun ds w => (f ds w).bind fun d => (g ds d.2).bind fun r => some (.oo d.1 :: r.1, r.2)
theorem jp_n (h : JND X e f) (hr : JP X es g) (hs : starEach (e :: es) X.env = (false, eval e X.env) :: starEach es X.env := by rfl) : JP X (e :: es) (pN f g) := ⟨pa_weak (pa_cons h.run hr.run hs) fun σ H Q ⟨Z, F, ds, τ, ts0, w, ts, w', hl, rr, hf, k⟩ => by
  obtain ⟨d, hd, hf⟩ := bind2 hf
  obtain ⟨r, hr, hf⟩ := bind2 hf
  cases hf
  refine ⟨Z, F, ds, w, _, _, rr.front hl, hd, fun q F1 H1 s1 d1 h1 h2 => ⟨Z, F1, ds, τ ++ [some (.ref q)], ts0 ++ [.oo d.1], _, _, _, hl, ?_, hr, fun vs F2 H2 s2 hlen r2 => k (.ref q :: vs) F2 H2 (s1.f.trans s2) (by rw [List.length_cons, List.length_cons, hlen]) ?_⟩⟩
  · have z := R.freshD (σ ++ τ).length (rr.none1) s1 d1 h1 h2
    rw [set_last, rr.len, set_last, List.append_assoc, List.append_assoc] at z
    exact z
  · rw [List.append_assoc τ, List.append_assoc ts0] at r2
    exact r2⟩
/-- a dict of one's own is told to all from here on -/
def sFrzD (i : Nat) (g : Es) : Es := fun ds w => match ds[i]? with | some (.oo x) => g (ds.set i (.d x.toD)) w | _ => g ds w
theorem jss_frzD (i : Nat) (h : JSs X rest gs) : JSs X rest (sFrzD i gs) := ⟨⟨fun pins s σ H D I ⟨Z, F, ds, w, o, rr, hf, k⟩ => by
  unfold sFrzD at hf
  split at hf
  · rename_i x hx
    obtain ⟨a, h1, h2, _⟩ := rr.dict1 hx
    obtain ⟨u, g1, _⟩ := h2.at
    have mu : Mut (some u) := by
      cases x with
      | k _ _ =>
        obtain ⟨_, vs, q, _⟩ := h2
        rw [g1] at q
        cases q
        trivial
      | t _ _ =>
        obtain ⟨_, vs, q, _⟩ := h2
        rw [g1] at q
        cases q
        trivial
    obtain ⟨od, I2⟩ := I.lock g1 mu
    obtain ⟨F', s1, r1⟩ := rr.lockD (od := od) hx h1 g1
    exact h.run.run pins s σ _ D I2 ⟨Z, F', _, w, o, r1, hf, k.go s1⟩
  · exact h.run.run pins s σ H D I ⟨Z, F, _, w, o, rr, hf, k⟩⟩⟩
/-- d[k] = e -/
def sDPut' (i : Nat) (fi fe : Ev) : Es := fun ds w => (fe ds w).bind fun v => (fi ds v.2).bind fun q => match ds[i]? with
  | some (.oo (.k ks es)) => (keyOf q.1).bind fun key => if ks.length < line then some (.nx (ds.set i (.oo (.k (putKs ks key) (putVs ks es key v.1)))) q.2) else none
  | _ => none
theorem js_dput (n : Nat) {x : Str} {p1 pos' : Pos} {k : Nat} (hr : Room k X.A) (hi : JB X i fi) (he : JE X e fe) (hN : X.N[n]? = some x := by rfl) (hv : Vis X.env.scope x := by first | exact Or.inl rfl | exact Or.inr (Or.inl rfl) | exact Or.inr (Or.inr rfl)) (hd : (x == ("__debug__" : Str)) = false := by decide) (hcd : (x == ("__classdict__" : Str)) = false := by decide)
    (hs : swapsWith e (some (.Subscript (.Name x p1) i pos')) pos.line X.env = pure false := by rfl) : JS X (.Assign [.Subscript (.Name x p1) i pos'] e pos) (sDPut' n fi fe) :=
  ⟨ps_weak (ps_dput (by have := hr.un; omega) (pe_var hN hv hd hcd) hi.run he.run hs) fun D σ H ⟨Z, F, ds, w, o, rr, hf, k⟩ => by
    obtain ⟨v, hv, hf⟩ := bind2 hf
    obtain ⟨q, hq, hf⟩ := bind2 hf
    split at hf
    · rename_i ks es hx
      obtain ⟨key, hk, hf⟩ := bind2 hf
      split at hf
      · rename_i hl
        cases hf
        refine ⟨Z, F, ds, w, _, _, rr, hv, fun y F1 H1 s1 d1 hy => ?_⟩
        have r1 := rr.step s1 d1
        obtain ⟨a, h1, _⟩ := r1.dict1 hx
        refine ⟨.ref a, h1, Z, F1, ds, _, _, _, r1, hq, fun u F2 H2 s2 d2 hu => ?_⟩
        have r2 := r1.step s2 d2
        obtain ⟨a', h1', ⟨l, vs, g1, g2, g3, g4⟩, _⟩ := r2.dict1 hx
        rw [h1] at h1'
        cases h1'
        rw [keyB_of hk hu]
        refine ⟨a, _, rfl, DPut.k g1 (by rw [List.length_zip, g4.len, l, Nat.min_self, ← l]; exact sz_lt hl), ?_⟩
        refine k σ F2 _ (s1.f.trans s2.f) (r2.turnD hx h1 ⟨putVs_len l _ _, _, ?_, g2, g3, put_den g4 (hy.mono s2.f)⟩)
        rw [upd_same, putK_zip (l.trans g4.len.symm)]
      · cases hf
    · cases hf⟩
end
end J
namespace J
open PySem PyProof.Rows L2
/-! ### walks of a kept dict, its length -/
def keyD : Key → D
  | .inl i => .int i
  | .inr s => .str s
theorem den_key {K : PySem.W.Frag} {p : Addr} {F : Hp} (k : Key) : Den K p F (keyD k) (kV k) := by
  cases k <;> (unfold keyD Den; rfl)
section
variable {K : PySem.W.Frag} {p : Addr} {F H : Hp} {ks : List Key} {ds : List D} {vs : List V} {a : Addr} {o : Obj}
theorem zip_at {α β : Type} {l : List α} {m : List β} (h : l.length = m.length) {i : Nat} {x : α} (e : l[i]? = some x) : ∃ y, m[i]? = some y ∧ (l.zip m)[i]? = some (x, y) := by
  have hi := (List.getElem?_eq_some_iff.mp e).1
  have hm : i < m.length := by omega
  refine ⟨m[i], List.getElem?_eq_getElem hm, ?_⟩
  rw [List.getElem?_zip_eq_some]
  exact ⟨e, List.getElem?_eq_getElem hm⟩
theorem src_keys (h : F a = some (.frz o (.dK (ks.zip vs)))) (l : ks.length = vs.length) : Src K p (Itk a o (ks.zip vs)) F H [] (ks.map keyD) := by
  refine ⟨fun q hq => (nomatch hq), fun F2 H2 hA e1 e2 hp hp2 i => ⟨fun hi => ⟨e2 _ _ (e1 _ _ h), by rw [List.length_zip]; rw [List.length_map] at hi; omega⟩, fun x hx => ?_⟩⟩
  rw [List.getElem?_map] at hx
  obtain ⟨k, hk, rfl⟩ := Option.map_eq_some_iff.mp hx
  obtain ⟨v, hv, hz⟩ := zip_at l hk
  refine ⟨⟨e2 _ _ (e1 _ _ h), (List.getElem?_eq_some_iff.mp hz).1⟩, fun y H3 ⟨e3, k', v', h1, h2⟩ => ?_⟩
  rw [hz] at h1
  cases h1
  subst e3 h2
  exact ⟨Same.refl _, F2, Stp.refl e2 hp, den_key k⟩
theorem src_items (h : F a = some (.frz o (.dK (ks.zip vs)))) (l : ks.length = vs.length) (d : Dens K p F ds vs) : Src K p (Iti a o (ks.zip vs)) F H [] (zipD (ks.map keyD) ds) := by
  refine ⟨fun q hq => (nomatch hq), fun F2 H2 hA e1 e2 hp hp2 i => ⟨fun hi => ⟨e2 _ _ (e1 _ _ h), ?_⟩, fun x hx => ?_⟩⟩
  · rcases zipD_stop _ _ _ hi with z | z
    · rw [List.length_map] at z
      rw [List.length_zip]
      omega
    · have := d.len
      rw [List.length_zip]
      omega
  · obtain ⟨e, e', g1, g2, rfl⟩ := zipD_get _ _ i x hx
    rw [List.getElem?_map] at g1
    obtain ⟨k, hk, rfl⟩ := Option.map_eq_some_iff.mp g1
    obtain ⟨v, hv, hz⟩ := zip_at l hk
    obtain ⟨v', hv', hd⟩ := d.get g2
    rw [hv] at hv'
    cases hv'
    refine ⟨⟨e2 _ _ (e1 _ _ h), (List.getElem?_eq_some_iff.mp hz).1⟩, fun y H3 ⟨T, k', v', h1, h2, h3, h4⟩ => ?_⟩
    rw [hz] at h1
    cases h1
    subst h2 h4
    exact ⟨same_new h3, _, stp_new e2 hp hp2 h3, den_pair (e2.free h3) (den_key k) (Den.mono e1 _ _ hd)⟩
end
def kvD : D → Option (List Key × List D)
  | .dk ks ds => some (ks, ds)
  | _ => none
theorem kvD_eq {d : D} {q : List Key × List D} (h : kvD d = some q) : d = .dk q.1 q.2 := by
  cases d <;> first | (cases h; rfl) | cases h
section
variable {X : Cx} {tg e : Expr} {fe : Ev} {apos cpos p pos : Pos} {fs : Ef}
def iDKeys (f : Ev) : Ef := fun ds w => (f ds w).bind fun a => (kvD a.1).bind fun q => some (q.1.map keyD, a.2)
theorem ji_dkeys (h : JE X e fe) : JI X tg e false (iDKeys fe) := ⟨pi_weak (pi_keys h.run) fun σ H Rk ⟨Z, F, ds, w, xs, w', rr, hf, k⟩ => by
  obtain ⟨⟨a, w1⟩, ha, hf⟩ := bind2 hf
  obtain ⟨q, hq, hf⟩ := bind2 hf
  cases hf
  refine ⟨Z, F, ds, w, _, _, rr, ha, fun v F1 H1 s1 d1 hv => ?_⟩
  have e := kvD_eq hq
  dsimp only at e
  subst e
  unfold Den at hv
  obtain ⟨c, o, vs, rfl, l, h1, h2⟩ := hv
  exact ⟨c, o, rfl, .inl ⟨_, s1.e _ _ h1, k _ F1 H1 [] s1 d1 (fun _ => rfl) (src_keys h1 (l.trans h2.len.symm))⟩⟩⟩
def iDItems (f : Ev) : Ef := fun ds w => (f ds w).bind fun a => (kvD a.1).bind fun q => some (zipD (q.1.map keyD) q.2, a.2)
theorem ji_ditems {elts : List Expr} {kk : Nat} {tpos : Pos} (h : JE X e fe) (hbase : attributeBase e "items" X.env (eval e X.env) = eval e X.env := by rfl) (hline : (apos.endLine == cpos.line) = true := by rfl) :
    JI X (.Tuple elts kk tpos) (.Call (.Attribute e "items" apos) [] [] cpos) false (iDItems fe) := ⟨pi_weak (pi_items h.run hbase hline) fun σ H Rk ⟨Z, F, ds, w, xs, w', rr, hf, k⟩ => by
  obtain ⟨⟨a, w1⟩, ha, hf⟩ := bind2 hf
  obtain ⟨q, hq, hf⟩ := bind2 hf
  cases hf
  refine ⟨Z, F, ds, w, _, _, rr, ha, fun v F1 H1 s1 d1 hv => ?_⟩
  have e := kvD_eq hq
  dsimp only at e
  subst e
  unfold Den at hv
  obtain ⟨c, o, vs, rfl, l, h1, h2⟩ := hv
  exact ⟨c, o, _, rfl, s1.e _ _ h1, k _ F1 H1 [] s1 d1 (fun _ => rfl) (src_items h1 (l.trans h2.len.symm) h2)⟩⟩
/-- len(d) -/
def gLenD : List D → Option D
  | [.dk ks ds] => if ks.length = ds.length then some (.int ks.length) else none
  | _ => none
theorem call_lenD : CallR X (.builtin "len") (fun xs H Q => ∃ a kvs, xs = [.ref a] ∧ Rd H a (.dK kvs) ∧ Q (.int (kvs.length : Int)) H) := by
  intro pins s σ H xs us Q I r ⟨a, kvs, e, hr, q⟩
  subst e
  rw [Vals.ref1 r]
  exact d_len I hr fun t s' I' => ⟨.int kvs.length, H, I', ⟨t, rfl⟩, q⟩
theorem s_lenD {K : PySem.W.Frag} : CalS K (fun xs H Q => ∃ a kvs, xs = [.ref a] ∧ Rd H a (.dK kvs) ∧ Q (.int (kvs.length : Int)) H) gLenD := fun Z F H σ ds w as d vs Q r h hg k => by
  unfold gLenD at hg
  split at hg
  · rename_i ks es
    split at hg
    · rename_i hl
      cases hg
      obtain ⟨v, rfl, hv⟩ := densB1 h
      obtain ⟨a, us, rfl, l, h1, h2⟩ := hv.dk r.ex
      refine ⟨a, _, rfl, h1, ?_⟩
      rw [List.length_zip, h2.len, ← l, Nat.min_self]
      exact k _ F H r.stp r.dr den_int
    · cases hg
  · cases hg
def eLenD := eCal gLenD
theorem je_lenD (hm : X.mg "len" = none) (hg : Gl X "len") (ha : JR X [e] fs) (he : starEach [e] X.env = (false, eval e X.env) :: starEach [] X.env := by rfl) : JE X (.Call (.Name "len" p) [e] [] pos) (eLenD fs) := je_bltO call_lenD s_lenD hg hm boot_len ha (by decide) (by decide) he rfl
end
end J
namespace J
open PySem PySem.Spec PyProof.Rows L2 PySem.W
/-! ### sorted(d), the keys texts -/
section
variable {prog : Program} {w : World} {A : Around} {E : Value → Shared → Prop} {s : Shared} {T : String} {r d : Addr} {n : Nat} {P : Nat → Value → Prop} {OK : Heap → Prop}
theorem collectK {R : List Value → Shared → Prop} (K : KdlSrc prog w T r d n P OK) (hh : A.handled = none) (hok : OK s.heap) (hn : n ≤ sizeLine)
    (h : ∀ (h' : Heap) (tk : Nat) (vs : List Value), (∀ b o, s.heap.get? b = some o → h'.get? b = some o) → s.heap.objs.size < h'.objs.size → vs.length = n → (∀ j v, vs[j]? = some v → P j v) → R vs { s with heap := h', toks := tk }) :
    wpAny (model prog w) A (collect (.ref r)) R E s := by
  have hlt := K.there _ hok
  unfold collect
  refine wpAny_bind (wpAny_runValue (codeAny_builtin entry_proto_collect' ?_))
  rw [Around.under_plainId PySem.F.plain_proto_collect _]
  show wpAny _ A.in1 (newList [] >>= fun l => again (.builtin "list.__iadd__" ⟨[l, .ref r], []⟩)) _ _ s
  refine wpAny_bind (wpAny_newObj_type ?_)
  refine wpAny_pure ⟨plainId_quiet PySem.F.plain_list_iadd _, codeAny_builtin entry_list_iadd' ?_⟩
  rw [Around.under_plainId PySem.F.plain_list_iadd _]
  have hS₁ : (s.heap.push { cls := .type "list", data := .seq ([] : List Value).toArray }).get? s.heap.objs.size = some { cls := .type "list", data := .seq #[] } := Heap.get?_push_size _ rfl
  show wpAny _ A.in1 (Builtin.List.listExtendWith (.ref s.heap.objs.size) (.ref r) (.ref s.heap.objs.size)) _ _ _
  have key := kdl_extend (prog := prog) (w := w) (A := A) (s := { s with heap := s.heap.push { cls := .type "list", data := .seq ([] : List Value).toArray } })
    (R := fun (q : Result) (s' : Shared) => ∃ (h' : Heap) (tk : Nat) (acc' : Array Value) (c' : Nat), q = .ok (.ret (.ref s.heap.objs.size)) ∧ s' = { s with heap := h', toks := tk } ∧
      (∀ b o, s.heap.get? b = some o → h'.get? b = some o) ∧ h'.get? s.heap.objs.size = some { cls := .type "list", dict := none, data := .seq acc' c', slots := #[] } ∧ ItemsOf P acc' n)
    K hh (K.keep _ _ hok fun b _ o e => Heap.get?_push_of_some _ e) s.heap.objs.size (Nat.ne_of_gt hlt.1) (Nat.ne_of_gt hlt.2) (.ref s.heap.objs.size) 0 hS₁
    (fun h' tk acc' c' hk hS' hacc => ⟨h', tk, acc', c', rfl, rfl, fun b o e => hk b o (Nat.ne_of_lt (Heap.lt_size e)) (Heap.get?_push_of_some _ e), hS', hacc⟩) hn
  have fin : ∀ (h' : Heap) (tk : Nat) (acc' : Array Value), (∀ b o, s.heap.get? b = some o → h'.get? b = some o) → s.heap.objs.size < h'.objs.size → ItemsOf P acc' n → R acc'.toList { s with heap := h', toks := tk } := fun h' tk acc' hk hz hacc =>
    h h' tk acc'.toList hk hz (by rw [Array.length_toList]; exact hacc.1) fun j v e => hacc.2 j v (by rw [← Array.getElem?_toList]; exact e)
  refine wpAny_mono key (fun fl s' x => ?_) fun e s' x => ?_
  · cases fl with
    | done f =>
      obtain ⟨h', tk, acc', c', e, rfl, hk, hS', hacc⟩ := x
      cases e
      show wpAny _ A (load s.heap.objs.size >>= _) _ _ _
      refine wpAny_bind (wpAny_load hS' ?_)
      exact wpAny_pure (fin h' tk acc' hk (Heap.lt_size hS') hacc)
    | again c₁ =>
      refine ⟨x.1, codeAny_mono x.2 fun q s₂ y => ?_⟩
      obtain ⟨h', tk, acc', c', rfl, rfl, hk, hS', hacc⟩ := y
      show wpAny _ A (load s.heap.objs.size >>= _) _ _ _
      refine wpAny_bind (wpAny_load hS' ?_)
      exact wpAny_pure (fin h' tk acc' hk (Heap.lt_size hS') hacc)
  · obtain ⟨_, _, _, _, e', _⟩ := x
    cases e'
theorem sortedK0 {Q : Value → Shared → Prop} (K : KdlSrc prog w T r d n P OK) (hh : A.handled = none) (hok : OK s.heap) (hn : n ≤ sizeLine) {xs : List Str}
    (hx : ∀ vs : List Value, vs.length = n → (∀ j v, vs[j]? = some v → P j v) → StrsAre vs xs)
    (h : ∀ (h' : Heap) (tk : Nat) (l : Addr) (out : Array Value) (ys : List Str) (e : Nat), (∀ b o, s.heap.get? b = some o → h'.get? b = some o) → s.heap.objs.size ≤ l → h'.get? l = some (seqObj "list" out e) → StrsAre out.toList ys → ys.Perm xs → sortedS ys = true → Q (.ref l) { s with heap := h', toks := tk }) :
    wpAny (model prog w) A (call (.builtin "sorted") [.ref r]) Q E s := by
  refine Calls.call_function_entry kind_sorted plain_sorted entry_sorted (args_sorted1 _) ?_
  unfold Builtin.«sorted»
  refine wpAny_bind (m := checkCount "sorted" 1 1 _) (wpAny_pure ?_)
  refine wpAny_bind (collectK (A := A.in1) K hh hok hn fun h1 tk vs hk hz hl hp => ?_)
  have hS := hx vs hl hp
  have hL : vs.length ≤ sizeLine := by rw [hl]; exact hn
  refine wpAny_bind (wpAny_newList ?_ hL)
  have hoL : (h1.push (seqObj "list" vs.toArray 0)).get? h1.objs.size = some (seqObj "list" vs.toArray 0) := Heap.get?_push_size _ rfl
  refine wpAny_bind (wpAny_holding (wpAny_call_entry slot_list_sort ⟨_, hoL, rfl⟩ entry_list_sort (list_sort_treeKAny strKind_oneLt hoL hS.keysOf (fun v₁ v₂ rest e => keyKind_strs (by rw [← e]; exact hS)) hL fun st' a1 a2 => ⟨_, rfl, ?_⟩) (args_list_sort _)))
  obtain ⟨ys, g1, g2, g3⟩ := sorted_out_str hS a1 a2
  obtain ⟨e, he⟩ := sortedHeap_at (out := (arrOf st').map (·.2)) hoL
  refine wpAny_pure ⟨_, rfl, h _ tk h1.objs.size _ ys e (fun b o q => ?_) ?_ he g1 g2 g3⟩
  · have q1 := hk b o q
    have lt := Heap.lt_size q1
    rw [sortedHeap_old (Nat.ne_of_lt lt) (by rw [size_push']; exact Nat.lt_succ_of_lt lt)]
    exact Heap.get?_push_of_some _ q1
  · exact Nat.le_of_lt hz
end
theorem str_ext {x y : Str} (h : x.cps.toList = y.cps.toList) : x = y := by
  obtain ⟨a⟩ := x
  obtain ⟨b⟩ := y
  congr 1
  exact Array.toList_inj.mp h
def leS (x y : Str) : Prop := x.cps.toList ≤ y.cps.toList
theorem rising_pair : ∀ (ys : List Str) (p : Str), risingS p ys = true → (∀ y ∈ ys, leS p y) ∧ ys.Pairwise leS
  | [], _, _ => ⟨fun _ h => (nomatch h), List.Pairwise.nil⟩
  | x :: r, p, h => by
    unfold risingS at h
    obtain ⟨h1, h2⟩ := Bool.and_eq_true_iff.mp h
    obtain ⟨g1, g2⟩ := rising_pair r x h2
    have hp : leS p x := by
      have e : ltCps x.cps.toList p.cps.toList = false := by simpa using h1
      rw [ltCps_eq] at e
      exact List.not_lt.mp (of_decide_eq_false e)
    refine ⟨fun y hy => ?_, List.Pairwise.cons g1 g2⟩
    rcases List.mem_cons.mp hy with rfl | hy
    · exact hp
    · exact List.le_trans hp (g1 y hy)
theorem sortedS_pair : ∀ {ys : List Str}, sortedS ys = true → ys.Pairwise leS
  | [], _ => List.Pairwise.nil
  | x :: r, h => List.Pairwise.cons (rising_pair r x h).1 (rising_pair r x h).2
theorem sortedS_same {ys xs : List Str} (p : ys.Perm xs) (h1 : sortedS ys = true) (h2 : sortedS xs = true) : ys = xs :=
  List.Perm.eq_of_pairwise (fun a b _ _ g1 g2 => str_ext (List.le_antisymm g1 g2)) (sortedS_pair h1) (sortedS_pair h2) p
/-- the texts among keys -/
def strsOf : List Key → Option (List Str)
  | [] => some []
  | .inr x :: r => (strsOf r).bind fun l => some (x :: l)
  | .inl _ :: _ => none
theorem strsOf_eq : ∀ {ks : List Key} {xs : List Str}, strsOf ks = some xs → ks = xs.map Sum.inr
  | [], xs, h => by cases h; rfl
  | .inr x :: r, xs, h => by
    obtain ⟨l, h1, h2⟩ := bind2 (show (strsOf r).bind _ = _ from h)
    cases h2
    rw [strsOf_eq h1]
    rfl
  | .inl _ :: _, xs, h => by cases h
theorem strs_by : ∀ {xs : List Str} {vs : List Value}, vs.length = xs.length → (∀ (j : Nat) (v : Value), vs[j]? = some v → ∃ (x : Str) (t : Tok), xs[j]? = some x ∧ v = Value.str x t) → StrsAre vs xs
  | [], [], _, _ => .nil
  | [], v :: vs, h, _ => by cases h
  | x :: xs, [], h, _ => by cases h
  | x :: xs, v :: vs, h, g => by
    obtain ⟨y, t, h1, rfl⟩ := g 0 v rfl
    cases h1
    exact .cons x t (strs_by (Nat.succ.inj h) fun j v e => g (j + 1) v e)
def rSortedDK : List V → Hp → VK → Prop := fun vs H Q => ∃ (a : Addr) (kvs : List (Key × V)) (xs : List Str), vs = [.ref a] ∧ Rd H a (.dK kvs) ∧ kvs.map (·.1) = xs.map Sum.inr ∧ ∀ ys p, ys.Perm xs → sortedS ys = true → H p = none → Q (.ref p) (upd H p (.lst (ys.map V.str)))
theorem cr_sortedDK {X : Cx} (hc : X.calm = true) : CallR X (.builtin "sorted") rSortedDK := by
  intro pins s σ H us ws Q I r ⟨a, kvs, xs, e, hr, hk, q⟩
  subst e
  rw [Vals.ref1 r]
  obtain ⟨z, hd, vs, rel, dd⟩ := dk_rd I.hok hr
  obtain ⟨ep, dat⟩ := dd.dictAt
  have hl : kvs.length = vs.length := Paired.length rel
  have hxl : xs.length = kvs.length := by
    have := congrArg List.length hk
    simpa using this.symm
  refine sortedK0 (K := kdl_dict (knd := mixKind X.prog X.w) (kvs := vs) (ep := ep) hd) (I.ok.hd hc) dat (by rw [← hl]; exact z) (xs := xs) (fun us hu hp => strs_by (by rw [hu, hxl, hl]) fun j v hj => ?_) fun h' tk l out ys e hkk hle he h1 h2 h3 => ?_
  · obtain ⟨k, x, g1, g2⟩ := hp j v hj
    have hks : (kvs.map (·.1))[j]? = some k := by
      rw [show kvs.map (·.1) = vs.map (·.1) from KV.keys rel, List.getElem?_map, g1]
      rfl
    rw [hk, List.getElem?_map] at hks
    obtain ⟨y, hy, rfl⟩ := Option.map_eq_some_iff.mp hks
    obtain ⟨t, ht⟩ := relV_key (show keyIs (.inr y) v = true from g2)
    exact ⟨y, t, hy, ht⟩
  · have hlen : (ys.map V.str).length ≤ sizeLine := by rw [List.length_map, h2.length_eq, hxl]; exact z
    exact ⟨.ref l, upd H l (.lst (ys.map V.str)), I.laid (t' := tk) hkk hle ⟨hlen, out.toList, e, vals_of_strs h1, he⟩, rfl, q ys l h2 h3 (I.hok.fresh hle)⟩
def gfSortedD : List D → Option (List D)
  | [.dk ks ds] => if ks.length = ds.length then (strsOf ks).bind fun xs => if sortedS xs = true then some (xs.map D.str) else none else none
  | _ => none
theorem dens_strs {K : PySem.W.Frag} {p : Addr} {F : Hp} : ∀ (xs : List Str), Dens K p F (xs.map D.str) (xs.map V.str)
  | [] => dens_nil
  | x :: xs => dens_cons den_str (dens_strs xs)
theorem s_sortedD {K : PySem.W.Frag} : CalF K rSortedDK gfSortedD := fun Z F H σ ds w as xs vs Q r h hg k => by
  unfold gfSortedD at hg
  split at hg
  · rename_i ks es
    split at hg
    · rename_i hl
      obtain ⟨zs, h1, hg⟩ := bind2 hg
      split at hg
      · rename_i hs
        cases hg
        obtain ⟨v, rfl, hv⟩ := densB1 h
        obtain ⟨a, us, rfl, l, g1, g2⟩ := hv.dk r.ex
        refine ⟨a, _, zs, rfl, g1, ?_, fun ys p hp hy hn => ?_⟩
        · rw [← strsOf_eq h1]
          exact List.map_fst_zip (by rw [g2.len, l]; exact Nat.le_refl _)
        · rw [sortedS_same hp hy hs]
          exact k.new r (dens_strs zs) p hn
      · cases hg
    · cases hg
  · cases hg
section
variable {X : Cx} {e : Expr} {fs : Ef} {p pos : Pos}
def fSortedD := fCal gfSortedD
theorem jf_sortedD (hc : X.calm = true) (hm : X.mg "sorted" = none) (hg : Gl X "sorted") (ha : JR X [e] fs) (he : starEach [e] X.env = (false, eval e X.env) :: starEach [] X.env := by rfl) : JF X (.Call (.Name "sorted" p) [e] [] pos) (fSortedD fs) := jf_bltO (cr_sortedDK hc) s_sortedD hg hm (by decide +kernel) ha (by decide) (by decide) he rfl
end
end J
namespace J
open PySem PySem.Spec PyProof.Rows GenW L2
/-! ### for, in a generator: what its body hands out -/
section
variable {M : Model} {A : Around} {R : GenEnd} {Y : Protocol} {n : Nat} {s₀ : Shared} {c : Code} {fs : List Frame} {s : Shared} {env : Env}
  {K : Flow → Sem PySem.Fin} {JJ : Value → Sem PySem.Fin} {gd : Bool → Bool} {lv : List Value → List Value}
theorem seg_For {target iter : Expr} {body orelse : List Stmt} {pos : Pos}
    (h : wpAny M (A.over c fs) (eval iter env) (fun x s₁ => wpAny M (A.over c fs) (pyIter x) (fun it s₂ =>
      ∀ p, Seg M A R Y n s₀ (.forLoop target it body orelse env) (M.den (.forLoop target it body orelse env))
        (.ret (fun r => ((match r with | .ok f => (.pure f : Sem Flow) | .error e => .raise e).onRaise (cameBack env)).wrap K JJ gd lv) none (gd false) (lv []) c p [] :: fs) s₂) (fun x s' => Seg M A R Y n s₀ c (JJ x) fs s') s₁) (fun x s' => Seg M A R Y n s₀ c (JJ x) fs s') s)
    (hs : ∀ x, foldedSetIterable iter env x = pure x := by intro _; rfl) :
    Seg M A R Y n s₀ c ((exec (.For target iter body orelse pos) env).wrap K JJ gd lv) fs s := by
  rw [exec_For]
  refine seg_bind_wrap (wpAny_standAt ?_)
  refine seg_bind_wrap (wpAny_mono h (fun x s₁ h₁ => ?_) fun _ _ z => z)
  refine seg_bind_wrap (wpAny_of_eq (hs x) ?_)
  refine seg_bind_wrap (wpAny_standAt ?_)
  refine seg_bind_wrap (wpAny_holding (wpAny_mono h₁ (fun it s₂ h₂ => ?_) fun _ _ z => z))
  exact seg_call h₂
end
section
variable {prog : Program} {w : World} {A : Around} {R : GenEnd} {Y : Protocol} {n : Nat} {s₀ : Shared} {fs : List Frame} {s : Shared} {env : Env}
/-- what the loop's code does with an exception -/
def noteJ (env : Env) (x : Value) : Sem PySem.Fin := (do noteFrame x env; theTreesLotGoes x : Sem Unit).wrap (fun _ => .raise x) .raise id id
theorem seg_forLoop {target : Expr} {it : Value} {body : List Stmt}
    (h : wpAny (model prog w) (A.over (.forLoop target it body [] env) fs) (pyNext it) (fun r s₁ => match r with
        | none => Seg (model prog w) A R Y n s₀ (.forLoop target it body [] env) (.pure (.again (.block [] env))) fs s₁
        | some v => wpAny (model prog w) (A.over (.forLoop target it body [] env) fs) (letOwnedTupleGo target it v) (fun _ s₁' =>
          wpAny (model prog w) (A.over (.forLoop target it body [] env) fs) (assign target env v) (fun _ s₂ =>
            Seg (model prog w) A R Y n s₀ (.forLoop target it body [] env) ((execs body env).wrap (fun f => match f with
              | .next | .cont => .pure (.again (.forLoop target it body [] env))
              | .brk => .pure (.done .next)
              | .ret v => .pure (.done (.ret v))) (noteJ env) id id) fs s₂)
            (fun x s' => Seg (model prog w) A R Y n s₀ (.forLoop target it body [] env) (noteJ env x) fs s') s₁')
          (fun x s' => Seg (model prog w) A R Y n s₀ (.forLoop target it body [] env) (noteJ env x) fs s') s₁)
      (fun x s' => Seg (model prog w) A R Y n s₀ (.forLoop target it body [] env) (noteJ env x) fs s') s) :
    Seg (model prog w) A R Y n s₀ (.forLoop target it body [] env) ((model prog w).den (.forLoop target it body [] env)) fs s := by
  show Seg _ A R Y n s₀ _ ((forTurn target it body [] env).onRaise (fun x => do noteFrame x env; theTreesLotGoes x)) fs s
  have e : ((forTurn target it body [] env).onRaise (fun x => do noteFrame x env; theTreesLotGoes x)) = (forTurn target it body [] env).wrap .pure (noteJ env) id id := by
    rw [Sem.onRaise_eq_wrap]
    refine Sem.wrap_congr _ _ _ (fun _ => rfl) fun x => ?_
    exact Sem.bind_eq_wrap _ _
  rw [e]
  unfold forTurn
  refine seg_bind_wrap (wpAny_standAt ?_)
  refine seg_bind_wrap (wpAny_onRaise (wpAny_mono h (fun r s₁ h₁ => ?_) fun x s' h' => wpAny_standAt h'))
  cases r with
  | none => exact h₁
  | some v =>
    refine seg_bind_wrap (wpAny_mono h₁ (fun _ s₁' h₁' => ?_) fun _ _ z => z)
    refine seg_bind_wrap (wpAny_mono h₁' (fun _ s₂ h₂ => ?_) fun _ _ z => z)
    rw [Sem.bind_eq_wrap', Sem.wrap_wrap]
    refine cast (congrArg (fun t => Seg (model prog w) A R Y n s₀ (.forLoop target it body [] env) t fs s₂) ?_) h₂
    refine Sem.wrap_congr _ _ _ (fun f => ?_) (fun _ => rfl)
    cases f <;> rfl
end
section
variable {X : Cx}
def tGFor (wi : TI) (g : TG) (tb : TGn) : TGn := fun D ys σ H => wi σ H fun J H1 => ∃ W : Nat → Nat → List V → L2.St → Hp → Prop, (∃ m, W 0 m ys σ H1) ∧ ∀ i m ys σ H, W i m ys σ H →
  (J.stop i H ∧ D.nx ys σ H) ∨ (J.go i H ∧ ∃ N : List V → L2.St → Hp → Prop, (∀ ys' σ' H', N ys' σ' H' → ∃ m', m' < m ∧ W (i + 1) m' ys' σ' H') ∧ ∀ x H', J.yld i H x H' → g x σ H' fun σ2 H2 => tb { D with nx := N, ct := N, bk := D.nx } ys σ2 H2)
theorem gi_less {S : Addr} {ip pl : List (Addr × Obj)} {ys : List V} {σ : L2.St} {H : Hp} {s : Shared} (h : GI X S (ip ++ pl) ys σ H s) : GI X S ip ys σ H s := by
  obtain ⟨acc, c, r, I⟩ := h
  refine ⟨acc, c, r, I.pins_of fun p hp => I.pin p (List.mem_append_right _ ?_)⟩
  rcases List.mem_cons.mp hp with rfl | hp
  · exact List.mem_cons_self
  · exact List.mem_cons_of_mem _ (List.mem_append_left _ hp)
theorem gs_for {tg iter : Expr} {body : List Stmt} {wi : TI} {g : TG} {tb : TGn} {pos : Pos} (hp : PassesOwn (model X.prog X.w) X.A X.env X.xe) (hc : X.calm = true) (hi : PI X tg iter wi) (hg : PG X tg g) (hb : GSs X body tb)
    (hs : ∀ x, foldedSetIterable iter X.env x = pure x := by intro _; rfl) : GS X (.For tg iter body [] pos) (tGFor wi g tb) := by
  refine ⟨fun A S ip R n ys s₀ c fs K J gd lv s σ H D g' hn k hI ht => ?_⟩
  obtain ⟨acc, cc, r, I⟩ := hI
  refine seg_For ?_ hs
  rw [g'.over]
  refine wpAny_mono (hi.run ((S, lstObj acc cc) :: ip) s σ H _ I ht) (fun v s1 h1 => ?_) (fun x s' hx => k.exc n s₀ x s' hx)
  refine wpAny_mono h1 (fun itv s2 h2 => ?_) (fun x s' hx => k.exc n s₀ x s' hx)
  obtain ⟨it, fp, tn, J0, H2, e, I2, T, st2, f2, W, ⟨m0, w0⟩, turn⟩ := h2
  subst e
  intro p
  have nS : ∀ b ∈ fp, b ≠ S := fun b hb z => (f2 b hb).2.2.2.2.2 (S, lstObj acc cc) (List.mem_append_right _ List.mem_cons_self) z.symm
  have nip : ∀ b ∈ fp, ∀ q ∈ X.pn ++ ip, q.1 ≠ b := fun b hb q hq => (f2 b hb).2.2.2.2.2 q (by
    rcases List.mem_append.mp hq with hq | hq
    · exact List.mem_append_left _ hq
    · exact List.mem_append_right _ (List.mem_cons_of_mem _ hq))
  have stat : ∀ {H' : Hp} {acc : Array Value} {c : Nat}, (∀ b ∈ fp, H' b = none) → ∀ b ∈ fp, FpOk X ((S, lstObj acc c) :: ip) H' b := fun {H' acc c} hn b hb => by
    obtain ⟨_, h1, h2, h3, h4, _⟩ := f2 b hb
    refine ⟨hn b hb, h1, h2, h3, h4, fun q hq => ?_⟩
    rcases List.mem_append.mp hq with hq | hq
    · exact nip b hb q (List.mem_append_left _ hq)
    · rcases List.mem_cons.mp hq with rfl | hq
      · exact (nS b hb).symm
      · exact nip b hb q (List.mem_append_right _ hq)
  have gl := fun (kk : Result → Sem PySem.Fin) => gc_loop (k := kk) (c' := .forLoop tg (.ref it) body [] X.env) (l := lv []) (kp := []) (p := p) g' rfl rfl
  have loop : ∀ (m i n : Nat) (ys : List V) (s₀ s : Shared) (σ : L2.St) (H : Hp), n + ys.length = sizeLine → W i m ys σ H → GI X S ip ys σ H s → tn i s.heap → (∀ b ∈ fp, H b = none) →
      Seg (model X.prog X.w) A R (GY X S) n s₀ (.forLoop tg (.ref it) body [] X.env) ((model X.prog X.w).den (.forLoop tg (.ref it) body [] X.env))
        (.ret (fun r => ((match r with | .ok f => (.pure f : Sem Flow) | .error e => .raise e).onRaise (cameBack X.env)).wrap K J gd lv) none (gd false) (lv []) c p [] :: fs) s := by
    intro m
    induction m using Nat.strongRecOn with
    | ind m ih =>
      intro i n ys s₀ s σ H hn w hI st hfp
      have ee : ∀ (n : Nat) (s₀ : Shared) (x : Value) (s' : Shared), X.xe x s' → Seg (model X.prog X.w) A R (GY X S) n s₀ (.forLoop tg (.ref it) body [] X.env)
          (noteJ X.env x)
          (.ret (fun r => ((match r with | .ok f => (.pure f : Sem Flow) | .error e => .raise e).onRaise (cameBack X.env)).wrap K J gd lv) none (gd false) (lv []) c p [] :: fs) s' := fun n s₀ x s' hx => by
        unfold noteJ
        refine seg_wrap ?_
        rw [(gl _).over]
        refine wpAny_bind (wpAny_mono (hp x s' hx) (fun _ s'' hcb => wpAny_theTreesLotGoes ?_) fun y s'' hcb => ?_)
        · exact seg_leaf (.error x) (seg_cameBack g' k hcb)
        · exact seg_leaf (.error y) (seg_cameBack g' k hcb)
      refine seg_forLoop ?_
      rw [(gl _).over]
      obtain ⟨acc, cc, r, I⟩ := hI
      rcases turn i m ys σ H w with ⟨stop, qn⟩ | ⟨go, N, hN, step⟩
      · refine wpAny_mono (T.done X rfl rfl rfl hc i _ s σ H X.xe I (stat hfp) st stop) (fun r' s' h' => ?_) fun x s' hx => ee n s₀ x s' hx
        obtain ⟨rfl, I'⟩ := h'
        refine seg_again rfl ?_
        exact seg_leaf (.ok .next) (k.ok n ys s₀ s' .next hn ⟨σ, H, ⟨acc, cc, r, I'⟩, qn⟩)
      · refine wpAny_mono (T.item X rfl rfl rfl hc i _ s σ H X.xe I (stat hfp) st go) (fun r' s' h' => ?_) fun x s' hx => ee n s₀ x s' hx
        obtain ⟨u, rfl, h''⟩ := h'
        refine wpAny_mono h'' (fun _ s3 h3 => ?_) fun x s' hx => ee n s₀ x s' hx
        obtain ⟨x, H3, I3, rx, yl, st3, fr3⟩ := h3
        have I3' := I3.pinned (stat fr3) (T.obj _ _ st3)
        refine wpAny_mono (hg.run _ s3 σ H3 x u _ I3' rx (step x H3 yl)) (fun _ s4 h4 => ?_) fun x s' hx => ee n s₀ x s' hx
        obtain ⟨σ4, H4, I4, q4⟩ := h4
        have g1 := gl (fun r => ((match r with | .ok f => (.pure f : Sem Flow) | .error e => .raise e).onRaise (cameBack X.env)).wrap K J gd lv)
        have gb : GC X S (ip ++ pinsAt fp s3.heap) A (.forLoop tg (.ref it) body [] X.env) (.ret (fun r => ((match r with | .ok f => (.pure f : Sem Flow) | .error e => .raise e).onRaise (cameBack X.env)).wrap K J gd lv) none (gd false) (lv []) c p [] :: fs) id :=
          ⟨g1.pn, fun q hq => (List.mem_append.mp hq).elim (fun z => g'.ip q z) (fun z => nS q.1 (of_pinsAt z).1), g1.apart, g1.over, g1.split, g1.guard, g1.gd⟩
        have again : ∀ {n' : Nat} {ys' : List V} {s₀' s5 : Shared} {σ5 : L2.St} {H5 : Hp}, n' + ys'.length = sizeLine → GI X S (ip ++ pinsAt fp s3.heap) ys' σ5 H5 s5 → N ys' σ5 H5 →
            Seg (model X.prog X.w) A R (GY X S) n' s₀' (.forLoop tg (.ref it) body [] X.env) (.pure (.again (.forLoop tg (.ref it) body [] X.env)))
              (.ret (fun r => ((match r with | .ok f => (.pure f : Sem Flow) | .error e => .raise e).onRaise (cameBack X.env)).wrap K J gd lv) none (gd false) (lv []) c p [] :: fs) s5 := fun {n' ys' s₀' s5 σ5 H5} hn' hI5 n5 => by
          obtain ⟨m', hm, w5⟩ := hN ys' σ5 H5 n5
          have pin5 : ∀ b ∈ fp, ∀ o, s3.heap.get? b = some o → s5.heap.get? b = some o ∧ H5 b = none := fun b hb o e => by
            obtain ⟨acc5, c5, r5, I5⟩ := hI5
            have z := I5.pin (b, o) (List.mem_append_right _ (List.mem_cons_of_mem _ (List.mem_append_right _ (mem_pinsAt hb e))))
            exact ⟨z.1, z.2.1⟩
          refine seg_again rfl (ih m' hm (i + 1) n' ys' s₀' s5 σ5 H5 hn' w5 (gi_less hI5) (T.keep _ _ _ st3 fun b hb o e => (pin5 b hb o e).1) fun b hb => ?_)
          obtain ⟨o, e, _⟩ := T.obj _ _ st3 b hb
          exact (pin5 b hb o e).2
        refine hb.run A S (ip ++ pinsAt fp s3.heap) R n ys s₀ _ _ _ _ id id s4 σ4 H4 { D with nx := N, ct := N, bk := D.nx } gb hn ⟨fun n' ys' s₀' s5 f hn' hs5 => ?_, fun n' s₀' x s5 hx => ee n' s₀' x s5 hx⟩ ⟨acc, cc, r, I4⟩ q4
        cases f with
        | next =>
          obtain ⟨σ5, H5, I5, n5⟩ := hs5
          exact again hn' I5 n5
        | cont =>
          obtain ⟨σ5, H5, I5, n5⟩ := hs5
          exact again hn' I5 n5
        | brk =>
          obtain ⟨σ5, H5, I5, n5⟩ := hs5
          exact seg_leaf (.ok .next) (k.ok n' ys' s₀' s5 .next hn' ⟨σ5, H5, gi_less I5, n5⟩)
        | ret v =>
          obtain ⟨v5, σ5, H5, I5, r5, n5⟩ := hs5
          exact seg_leaf (.ok (.ret v)) (k.ok n' ys' s₀' s5 (.ret v) hn' ⟨v5, σ5, H5, gi_less I5, r5, n5⟩)
  exact loop m0 0 n ys s₀ s2 σ H2 hn w0 ⟨acc, cc, r, I2⟩ st2 fun b hb => (f2 b hb).1
end
end J
namespace J
open PySem PySem.Spec PyProof.Rows GenW L2
/-! ### generator defs: what they hand out, as data -/
abbrev Gn := List Sl → Wd → Option (List Sl × Wd × List D)
def canGn (K : PySem.W.Frag) (g : Gn) : TGn := fun D ys σ H => ∃ Z F ds w ds' w' new yds, R K Z F H σ ds w ∧ Dens K Z.p F yds ys ∧ g ds w = some (ds', w', new) ∧ yds.length + new.length ≤ line ∧
  ∀ σ' F' H' ys', Same F F' → R K Z F' H' σ' ds' w' → Dens K Z.p F' (yds ++ new) ys' → D.nx ys' σ' H'
structure JGn (X : Cx) (st : Stmt) (g : Gn) : Prop where run : GS X st (canGn X.K g)
structure JGns (X : Cx) (st : List Stmt) (g : Gn) : Prop where run : GSs X st (canGn X.K g)
theorem gs_weak {X : Cx} {st : Stmt} {t t' : TGn} (h : GS X st t) (s : ∀ D ys σ H, t' D ys σ H → t D ys σ H) : GS X st t' :=
  ⟨fun A S ip R n ys s₀ c fs K J gd lv s' σ H D g hn k hI ht => h.run A S ip R n ys s₀ c fs K J gd lv s' σ H D g hn k hI (s D ys σ H ht)⟩
theorem gss_weak {X : Cx} {st : List Stmt} {t t' : TGn} (h : GSs X st t) (s : ∀ D ys σ H, t' D ys σ H → t D ys σ H) : GSs X st t' :=
  ⟨fun A S ip R n ys s₀ c fs K J gd lv s' σ H D g hn k hI ht => h.run A S ip R n ys s₀ c fs K J gd lv s' σ H D g hn k hI (s D ys σ H ht)⟩
section
variable {X : Cx} {st : Stmt} {rest body : List Stmt} {f : Es} {g h gb : Gn} {e tg iter : Expr} {fe : Ev} {src : Ef} {gg : Eg} {js : List Nat} {pos yp : Pos}
def nPlain (f : Es) : Gn := fun ds w => match f ds w with
  | some (.nx ds' w') => some (ds', w', [])
  | _ => none
theorem plain_of {D : GEnds} {ys : List V} {σ : L2.St} {H : Hp} (q : canGn X.K (nPlain f) D ys σ H) : tPlain (canS X.K f) D ys σ H := by
  obtain ⟨Z, F, ds, w, ds', w', new, yds, rr, hy, hg, hl, k⟩ := q
  unfold nPlain at hg
  split at hg
  · rename_i ds1 w1 hf
    cases hg
    exact ⟨Z, F, ds, w, .nx ds' w', rr, hf, fun σ' F' H' e r' => k σ' F' H' ys e r' (by rw [List.append_nil]; exact hy.mono e)⟩
  · cases hg
theorem jgn_plain (h : JS X st f) : JGn X st (nPlain f) := ⟨gs_weak (gs_ps h.run) fun D ys σ H q => plain_of q⟩
def nYield (f : Ev) : Gn := fun ds w => (f ds w).bind fun d => some (ds, d.2, [d.1])
theorem jgn_yield (he : JE X e fe) (hco : X.env.scope.isCoroutine = false := by rfl) (hi : interactive X.env = false := by rfl) : JGn X (.Expr (.Yield (some e) yp) pos) (nYield fe) := ⟨gs_weak (gs_yield he.run hco hi) fun D ys σ H ⟨Z, F, ds, w, ds', w', new, yds, rr, hy, hg, hl, k⟩ => by
  obtain ⟨d, hd, hg⟩ := bind2 hg
  cases hg
  refine ⟨?_, Z, F, _, w, _, _, rr, hd, fun v F1 H1 s1 d1 hv => k σ F1 H1 _ s1.f (rr.step s1 d1) ((hy.mono s1.f).append (dens_cons hv dens_nil))⟩
  rw [hy.len]
  exact sz_lt (Nat.lt_of_lt_of_le (Nat.lt_succ_self _) hl)⟩
def nNilG : Gn := fun ds w => some (ds, w, [])
def nThen (g h : Gn) : Gn := fun ds w => (g ds w).bind fun r => (h r.1 r.2.1).bind fun q => some (q.1, q.2.1, r.2.2 ++ q.2.2)
theorem jgns_nil' : JGns X [] nNilG := ⟨gss_weak gss_nil fun D ys σ H ⟨Z, F, ds, w, ds', w', new, yds, rr, hy, hg, hl, k⟩ => by
  cases hg
  exact k σ F H ys (Same.refl _) rr (by rw [List.append_nil]; exact hy)⟩
theorem jgns_cons' (h1 : JGn X st g) (h2 : JGns X rest h) : JGns X (st :: rest) (nThen g h) := ⟨gss_weak (gss_cons h1.run h2.run) fun D ys σ H ⟨Z, F, ds, w, ds', w', new, yds, rr, hy, hg, hl, k⟩ => by
  obtain ⟨⟨d1, w1, n1⟩, hg1, hg⟩ := bind2 hg
  obtain ⟨⟨d2, w2, n2⟩, hg2, hg⟩ := bind2 hg
  cases hg
  rw [List.length_append] at hl
  dsimp only at hl
  refine ⟨Z, F, ds, w, d1, w1, n1, yds, rr, hy, hg1, by omega, fun σ' F' H' ys' e r' hy' => ?_⟩
  refine ⟨Z, F', d1, w1, _, _, n2, yds ++ n1, r', hy', hg2, by rw [List.length_append]; omega, fun σ2 F2 H2 ys2 e2 r2 hy2 => k σ2 F2 H2 ys2 (e.trans e2) r2 ?_⟩
  rw [List.append_assoc] at hy2
  exact hy2⟩
def forGn (tg : Eg) (body : Gn) : List D → Gn
  | [], ds, w => some (ds, w, [])
  | x :: xs, ds, w => (tg ds x).bind fun ds1 => (body ds1 w).bind fun r => (forGn tg body xs r.1 r.2.1).bind fun q => some (q.1, q.2.1, r.2.2 ++ q.2.2)
def nFor (src : Ef) (tg : Eg) (body : Gn) : Gn := fun ds w => (src ds w).bind fun s => forGn tg body s.1 ds s.2
theorem jgn_for (hp : PassesOwn (model X.prog X.w) X.A X.env X.xe) (hc : X.calm = true) (hi : JI X tg iter false src) (hg : JG X tg gg js) (hb : JGns X body gb) (hs : ∀ x, foldedSetIterable iter X.env x = pure x := by intro _; rfl) : JGn X (.For tg iter body [] pos) (nFor src gg gb) :=
  ⟨gs_weak (gs_for hp hc hi.run hg.run hb.run hs) fun D ys σ H ⟨Z, F, ds, w, ds', w', new, yds, rr, hy, hf, hl, k⟩ => by
  obtain ⟨⟨xs, w1⟩, hx, hf⟩ := bind2 hf
  refine ⟨Z, F, ds, w, _, _, rr, hx, fun T F1 H1 A s1 d1 hA hS => ?_⟩
  cases hA rfl
  obtain ⟨_, hT⟩ := hS
  refine ⟨fun i m ys2 σ2 H2 => m = xs.length - i ∧ i ≤ xs.length ∧ ∃ F2 ds2 w2 yds2 new2, Same F1 F2 ∧ R X.K Z F2 H2 σ2 ds2 w2 ∧ Dens X.K Z.p F2 yds2 ys2 ∧ forGn gg gb (xs.drop i) ds2 w2 = some (ds', w', new2) ∧ yds2 ++ new2 = yds ++ new, ⟨xs.length, rfl, Nat.zero_le _, F1, ds, w1, yds, new, Same.refl _, rr.step s1 d1, hy.mono s1.f, hf, rfl⟩, fun i m ys2 σ2 H2 hw => ?_⟩
  obtain ⟨rfl, hi, F2, ds2, w2, yds2, new2, e2, r2, hy2, hgo, htot⟩ := hw
  obtain ⟨hstop, hgo'⟩ := hT F2 H2 (fun _ z => nomatch z) e2 r2.ex r2.fp (let ⟨a, h, _⟩ := r2.dr; ⟨_, h⟩) i
  by_cases hlt : i < xs.length
  · right
    have hxi : xs[i]? = some xs[i] := List.getElem?_eq_getElem hlt
    obtain ⟨g1, g2⟩ := hgo' _ hxi
    refine ⟨g1, fun ys' σ' H' => ∃ m', m' < xs.length - i ∧ (m' = xs.length - (i + 1) ∧ i + 1 ≤ xs.length ∧ ∃ F2 ds2 w2 yds2 new2, Same F1 F2 ∧ R X.K Z F2 H' σ' ds2 w2 ∧ Dens X.K Z.p F2 yds2 ys' ∧ forGn gg gb (xs.drop (i + 1)) ds2 w2 = some (ds', w', new2) ∧ yds2 ++ new2 = yds ++ new), fun _ _ _ z => z, fun x H3 hyl => ?_⟩
    obtain ⟨sm, F3, s3, hden⟩ := g2 x H3 hyl
    have d3 : Dr Z.p F3 H3 w2 := by
      obtain ⟨a, q1, q2⟩ := r2.dr
      exact ⟨a, sm _ _ q1, s3.f _ _ q2⟩
    rw [List.drop_eq_getElem_cons hlt] at hgo
    obtain ⟨ds1, htg, hgo⟩ := bind2 (show (gg ds2 xs[i]).bind _ = _ from hgo)
    obtain ⟨⟨b1, b2, b3⟩, hbd, hgo⟩ := bind2 hgo
    obtain ⟨⟨c1, c2, c3⟩, hrest, hgo⟩ := bind2 hgo
    cases hgo
    have hlen : yds2.length + (b3 ++ c3).length = yds.length + new.length := by
      have := congrArg List.length htot
      simpa using this
    rw [List.length_append] at hlen
    refine ⟨Z, F3, ds2, w2, _, _, r2.step s3 d3, hden, htg, fun σ4 r4 _ _ => ⟨Z, F3, ds1, w2, b1, b2, b3, yds2, r4, hy2.mono s3.f, hbd, by omega, fun σ' F' H' ys' e5 r5 hy5 => ⟨_, by omega, rfl, by omega, F', b1, b2, yds2 ++ b3, c3, (e2.trans s3.f).trans e5, r5, hy5, hrest, ?_⟩⟩⟩
    rw [List.append_assoc]
    exact htot
  · left
    refine ⟨hstop (by omega), ?_⟩
    rw [List.drop_eq_nil_of_le (by omega)] at hgo
    cases hgo
    rw [List.append_nil] at htot
    exact k σ2 F2 H2 ys2 (s1.f.trans e2) r2 (by rw [← htot]; exact hy2)⟩
end
/-! the promise of a generator def, list(g(..)) -/
abbrev Fg := List D → Wd → Option (List D × Wd)
def spGJ (K : PySem.W.Frag) (n : Nat) (G : Fg) : SpG := fun vs H Q _ => vs.length = n ∧ ∃ Z F ds w out w', R K Z F H [] [] w ∧ Dens K Z.p F ds vs ∧ G ds w = some (out, w') ∧ ∀ ys F' H', Stp Z.p F H F' H' → Dr Z.p F' H' w' → Dens K Z.p F' out ys → Q ys H'
def callG (m : Nat) (g : Gn) : Fg := fun ds w => (g (startS m ds) w).bind fun r => if r.2.2.length ≤ line then some (r.2.2, r.2.1) else none
section
variable {P : Program} {wd : World} {K : PySem.W.Frag} {mg : Str → Option Value} {base : Heap} {k : Nat} {x : Str} {st : Stmt} {f : Addr} {fd : FuncData} {N ps : List Str} {g : Gn}
theorem gfn_J {f : Addr} {name qual : Str} {params : Arguments} {body : List Stmt} {scope : Scope} {dV kV doc pm cdv ct oc : Value} {an od : Option Addr} {osl : Array (Option Value)} {N ps : List Str}
    (lk : K.lookup f = some ⟨oc, od, .func (PySem.W.fnOf name qual params body scope dV kV doc pm an cdv ct), osl⟩) (hcd : PySem.W.codeIn K cdv qual = true) (S : GScope N ps scope)
    (hbody : ∀ (A : Around) (outer : List Env) (s : Shared) (H : Hp) (E : XK) (pn : List (Addr × Obj)), Room k (A.deeper (envOfC qual scope s.heap.objs.size f cdv)) → JGns (gcxOf P wd K mg base N qual scope f cdv A outer s H E pn) body g) :
    GFn P wd K mg base (k + 1) f (PySem.W.fnOf name qual params body scope dV kV doc pm an cdv ct) ps (spGJ K ps.length (callG N.length g)) := by
  refine gfn_of lk hcd S (fun vs H Q E h => h.1) fun A outer s H vs Q E pn hr h => ⟨_, (hbody A outer s H E pn hr).run, ?_⟩
  obtain ⟨_, Z, F, ds, w, out, w', rr, hv, hG, kk⟩ := h
  obtain ⟨⟨d1, w1, n1⟩, hg, hG⟩ := bind2 hG
  dsimp only at hG
  split at hG
  · rename_i hl
    cases hG
    exact ⟨⟨Z.p, [], F, H⟩, F, startS N.length ds, w, d1, _, _, [], rr.entry hv, dens_nil, hg, by simpa using hl, fun σ' F' H' ys' e r' hy => kk ys' F' H' (r'.out e) r'.dr hy⟩
  · cases hG
end
end J
namespace J
open PySem PySem.Spec PyProof.Rows GenW L2
/-! ### arguments by keywords -/
structure JK (X : Cx) (kws : List Keyword) (f : Ef) : Prop where run : PK X kws (canA X.K f)
section
variable {X : Cx} {e : Expr} {f : Ev} {fs : Ef} {kws : List Keyword} {nm : Option Str} {kp : Pos}
theorem pk_weak {t t' : TA} (h : PK X kws t) (s : ∀ σ H Q, t' σ H Q → t σ H Q) : PK X kws t' := ⟨fun pos pins s' σ H Q I q => h.run pos pins s' σ H Q I (s σ H Q q)⟩
theorem jk_nil : JK X [] aNil := ⟨pk_weak pk_nil fun σ H Q ⟨Z, F, ds, w, d, w', rr, hf, k⟩ => by cases hf; exact k [] F H rr.stp rr.dr dens_nil⟩
theorem jk_cons (h : JE X e f) (hr : JK X kws fs) : JK X (⟨nm, e, kp⟩ :: kws) (aCons f fs) := ⟨pk_weak (pk_cons h.run hr.run) fun σ H Q ⟨Z, F, ds, w, d, w', rr, hf, k⟩ => by
  obtain ⟨a, ha, hf⟩ := bind2 hf
  obtain ⟨b, hb, hf⟩ := bind2 hf
  cases hf
  exact ⟨Z, F, ds, w, _, _, rr, ha, fun v F1 H1 s1 d1 hv => ⟨Z, F1, ds, _, _, _, rr.step s1 d1, hb, fun vs F2 H2 s2 d2 hvs => k _ F2 H2 (s1.trans s2) d2 (dens_cons (hv.mono s2.f) hvs)⟩⟩⟩
end
/-- every parameter is given, the last ones by their names, in their order -/
abbrev KBa (K : PySem.W.Frag) (fd : FuncData) (ps : List Str) (n : Nat) (ks : List Str) : Prop := KBn K fd ps n ks (fun us ws => us ++ ws) (fun vs zs => vs ++ zs)
theorem fun_kb {K : PySem.W.Frag} {x qual : Str} {st : Stmt} {f : Addr} {fd : FuncData} {ps ks : List Str} {n : Nat} (F : Fun K x qual st f fd)
    (h : ∀ (kV doc pm : Value) (an : Option Addr) (cdv ct : Value) (us ws : List Value), us.length = n → ws.length = ks.length → bindArgs (PySem.W.fnOf x qual (defArgs st) (defBody st) (defScope st) .none kV doc pm an cdv ct) ⟨us, ks.zip ws⟩ = pure (ps.zip (us ++ ws))) : KBa K fd ps n ks := by
  obtain ⟨oc, od, kV, doc, pm, an, cdv, ct, osl, rfl, lk, hcd⟩ := F.ex
  exact ⟨fun s us ws _ l1 l2 => .of_eq (h kV doc pm an cdv ct us ws l1 l2), fun r1 r2 => r1.append r2⟩
structure CalK (P : Program) (w : World) (K : PySem.W.Frag) (mg : Str → Option Value) (base : Heap) (k : Nat) (x : Str) (n : Nat) (ks : List Str) (m : Nat) (G : Fn) : Prop where
  ex : ∃ (f : Addr) (fd : FuncData) (ps : List Str), FnOk P w K mg base CX0 k f fd ps (spJ K m G) ∧ mg x = some (.ref f) ∧ PySem.W.keepIn K (.ref f) = true ∧ KBa K fd ps n ks
structure CalG (P : Program) (w : World) (K : PySem.W.Frag) (mg : Str → Option Value) (base : Heap) (k : Nat) (x : Str) (n : Nat) (ks : List Str) (m : Nat) (G : Fg) : Prop where
  ex : ∃ (f : Addr) (fd : FuncData) (ps : List Str), GFn P w K mg base k f fd ps (spGJ K m G) ∧ mg x = some (.ref f) ∧ PySem.W.keepIn K (.ref f) = true ∧ KBa K fd ps n ks
section
variable {P : Program} {wd : World} {K : PySem.W.Frag} {mg : Str → Option Value} {base : Heap} {k n : Nat} {x : Str} {st : Stmt} {f : Addr} {fd : FuncData} {N ps ks : List Str}
theorem cal_K {g : Es} (F : Fun K x x st f fd) (hm : mg x = some (.ref f)) (b : KBa K fd ps n ks) (S : FnScope N ps (defScope st))
    (hbody : ∀ (cdv : Value) (A : Around) (outer : List Env) (s : Shared) (H : Hp) (E : XK), Room k (A.deeper (envOfC x (defScope st) s.heap.objs.size f cdv)) → JSs (cxOf CX0 P wd K mg base N x (defScope st) f cdv A outer s H E).nox (defBody st) g) :
    CalK P wd K mg base (k + 1) x n ks ps.length (callS N.length g) := ⟨f, fd, ps, fn_J F S hbody, hm, F.kp, b⟩
theorem cal_G {g : Gn} (F : Fun K x x st f fd) (hm : mg x = some (.ref f)) (b : KBa K fd ps n ks) (S : GScope N ps (defScope st))
    (hbody : ∀ (cdv : Value) (A : Around) (outer : List Env) (s : Shared) (H : Hp) (E : XK) (pn : List (Addr × Obj)), Room k (A.deeper (envOfC x (defScope st) s.heap.objs.size f cdv)) → JGns (gcxOf P wd K mg base N x (defScope st) f cdv A outer s H E pn) (defBody st) g) :
    CalG P wd K mg base (k + 1) x n ks ps.length (callG N.length g) := by
  obtain ⟨oc, od, kV, doc, pm, an, cdv, ct, osl, rfl, lk, hcd⟩ := F.ex
  exact ⟨f, _, ps, gfn_J lk hcd S (hbody cdv), hm, F.kp, b⟩
end
def callKA (n m : Nat) (fs gs : Ef) : Ef := fun ds w => (fs ds w).bind fun a => (gs ds a.2).bind fun b => if a.1.length = n ∧ b.1.length = m then some (a.1 ++ b.1, b.2) else none
def eCallK (n m : Nat) (G : Fn) (fs gs : Ef) : Ev := fun ds w => (callKA n m fs gs ds w).bind fun a => G a.1 a.2
def fListG (n m : Nat) (G : Fg) (fs gs : Ef) : Ef := fun ds w => (callKA n m fs gs ds w).bind fun a => G a.1 a.2
theorem callKA_some {n m : Nat} {fs gs : Ef} {ds : List Sl} {w : Wd} {r : List D × Wd} (h : callKA n m fs gs ds w = some r) : ∃ a b, fs ds w = some a ∧ gs ds a.2 = some b ∧ a.1.length = n ∧ b.1.length = m ∧ r = (a.1 ++ b.1, b.2) := by
  obtain ⟨a, ha, h⟩ := bind2 h
  obtain ⟨b, hb, h⟩ := bind2 h
  split at h
  · rename_i hl
    cases h
    exact ⟨a, b, ha, hb, hl.1, hl.2, rfl⟩
  · cases h
section
variable {X : Cx} {x : Str} {e : Expr} {es : List Expr} {fs gs : Ef} {p pos p2 pos2 : Pos} {k j n m kn : Nat} {ks : List Str} {G : Fn} {GG : Fg} {kws : List Keyword}
theorem je_callK (c : CalK X.prog X.w X.K X.mg X.base k x n ks m G) (hr : Room j X.A) (hk : k ≤ j) (hg : Gl X x) (ha : JA X (e :: es) fs) (hkw : JK X kws gs) (hkn : ks.length = kn := by rfl) (hm0 : n + ks.length = m := by rfl) (hall : (backToKw pos (keywordEach kws X.env)).all (·.1.isSome) = true := by rfl) (hks : (backToKw pos (keywordEach kws X.env)).filterMap (·.1) = ks := by rfl)
    (hdb : (x == ("__debug__" : Str)) = false := by decide) (he : starEach (e :: es) X.env = (false, eval e X.env) :: starEach es X.env := by rfl)
    (hpl : ((backTo pos (starEach (e :: es) X.env)).any (·.1) || (backToKw pos (keywordEach kws X.env)).any (·.1.isNone)) = false := by rfl) :
    JE X (.Call (.Name x p) (e :: es) kws pos) (eCallK n kn G fs gs) := ⟨by
  subst hkn
  obtain ⟨f, fd, ps, F, hm, kp, b⟩ := c.ex
  refine pe_weak (pe_callN F (hr.mono hk) hg hm kp b pass0 ha.run hkw.run hall hks hdb he hpl) fun σ H Q ⟨Z, F, ds, w, d, w', rr, hf, k⟩ => ?_
  obtain ⟨r, hr, hf⟩ := bind2 hf
  obtain ⟨a, b, ha, hb, l1, l2, rfl⟩ := callKA_some hr
  refine ⟨Z, F, ds, w, _, _, rr, ha, fun vs F1 H1 s1 d1 hv => ⟨Z, F1, ds, _, _, _, rr.step s1 d1, hb, fun zs F2 H2 s2 d2 hz => ?_⟩⟩
  have r2 := (rr.step s1 d1).step s2 d2
  refine ⟨by rw [hv.len]; exact l1, by rw [hz.len]; exact l2, ?_⟩
  exact ⟨by rw [List.length_append, hv.len, hz.len, l1, l2, hm0], Z, F2, _, _, d, w', r2.nil, (hv.mono s2.f).append hz, hf, k.go (s1.trans s2)⟩⟩
/-! list(g(e, .., k = v, ..)) -/
theorem run_gfnN {pins : List (Addr × Obj)} {σ : L2.St} {H : Hp} {s : Shared} {us ws : List Value} {vs zs : List V} {cont : List V → Hp → Prop} {E : XK} {E1 : Value → Shared → Prop} {f : Addr} {fd : FuncData} {ps : List Str} {sp : SpG} (F : GFn X.prog X.w X.K X.mg X.base k f fd ps sp) (hr : Room k X.A) (hb : KBa X.K fd ps n ks)
    (I : Inv X pins σ H s) (r : Vals vs us) (rz : Vals zs ws) (l1 : vs.length = n) (l2 : zs.length = ks.length) (h : sp (vs ++ zs) H cont E) :
    wpAny (model X.prog X.w) X.A (call (.ref f) us (ks.zip ws)) (fun u s' => ∃ H1 sc ex, Inv X pins σ H1 sc ∧ ExOk X pins ex ∧ GMade X.prog X.w k X.stack H1 sc ex cont E u s') E1 s := by
  refine wpAny_call (codeAny_mono (F.run X.A X.stack s H ⟨us, ks.zip ws⟩ (us ++ ws) (vs ++ zs) cont E hr I.env0 (hb.to s us ws I.kIn (r.length.symm.trans l1) (rz.length.symm.trans l2)) (r.append rz) h) fun r s' hq => ?_)
  cases r with
  | error e => exact False.elim hq
  | ok fl =>
    cases fl with
    | ret u => exact ⟨H, s, [], I, .nil, hq⟩
    | next => exact False.elim hq
    | brk => exact False.elim hq
    | cont => exact False.elim hq
def tCallGN (n m : Nat) (sp : SpG) (E : XK) (t tk : TA) : TGen := fun σ H cont => t σ H fun vs H1 => tk σ H1 fun zs H2 => vs.length = n ∧ zs.length = m ∧ sp (vs ++ zs) H2 cont E
theorem pgen_callN {E : XK} {f : Addr} {fd : FuncData} {ps : List Str} {sp : SpG} {t tk : TA} (F : GFn X.prog X.w X.K X.mg X.base k f fd ps sp) (hr : Room k X.A) (hg : Gl X x) (hm : X.mg x = some (.ref f)) (hk : PySem.W.keepIn X.K (.ref f) = true) (hb : KBa X.K fd ps n ks)
    (ha : PA X (e :: es) t) (hkw : PK X kws tk) (hall : (backToKw pos (keywordEach kws X.env)).all (·.1.isSome) = true := by rfl) (hks : (backToKw pos (keywordEach kws X.env)).filterMap (·.1) = ks := by rfl)
    (hdb : (x == ("__debug__" : Str)) = false := by decide) (he : starEach (e :: es) X.env = (false, eval e X.env) :: starEach es X.env := by rfl)
    (hpl : ((backTo pos (starEach (e :: es) X.env)).any (·.1) || (backToKw pos (keywordEach kws X.env)).any (·.1.isNone)) = false := by rfl) :
    PGen X k (.Call (.Name x p) (e :: es) kws pos) (tCallGN n ks.length sp E t tk) E := by
  refine ⟨fun pins s σ H cont I h => ?_⟩
  refine wpAny_Call_Name_kw (ld_glob I hg hm ?_ hdb)
  refine PySem.W.callWith_KW (h₀ := X.base) I.ok.mod.kin hk hall (thn (ha.run pos pins s σ H _ I h) fun us s1 ⟨vs, H1, I1, r, q⟩ => ?_) hpl he
  refine thn (hkw.run pos pins s1 σ H1 _ I1 q) fun ws s2 ⟨zs, H2, I2, rz, l1, l2, q2⟩ => ⟨I2.kIn, ?_⟩
  rw [hks]
  exact run_gfnN F hr hb I2 r rz l1 l2 q2
theorem passG : Passes (L2.CX X.prog X.w) X E0 := fun pins σ H s e s' I hc => by
  obtain ⟨_, _, _, _, _, _, _, _, _, _, _, _, h⟩ := hc
  exact h.elim
theorem jf_listGK (c : CalG X.prog X.w X.K X.mg X.base k x n ks m GG) (hr : Room j X.A) (hk : k + 3 ≤ j) (hg : Gl X x) (ha : JA X (e :: es) fs) (hkw : JK X kws gs) (hgl : Gl X "list") (hml : X.mg "list" = none) (hkn : ks.length = kn := by rfl) (hm0 : n + ks.length = m := by rfl) (hall : (backToKw pos (keywordEach kws X.env)).all (·.1.isSome) = true := by rfl) (hks : (backToKw pos (keywordEach kws X.env)).filterMap (·.1) = ks := by rfl)
    (hdb : (x == ("__debug__" : Str)) = false := by decide) (he : starEach (e :: es) X.env = (false, eval e X.env) :: starEach es X.env := by rfl)
    (hpl : ((backTo pos (starEach (e :: es) X.env)).any (·.1) || (backToKw pos (keywordEach kws X.env)).any (·.1.isNone)) = false := by rfl)
    (hel : starEach [.Call (.Name x p) (e :: es) kws pos] X.env = (false, eval (.Call (.Name x p) (e :: es) kws pos) X.env) :: starEach [] X.env := by rfl) :
    JF X (.Call (.Name "list" p2) [.Call (.Name x p) (e :: es) kws pos] [] pos2) (fListG n kn GG fs gs) := ⟨by
  subst hkn
  obtain ⟨f, fd, ps, F, hm, kp, b⟩ := c.ex
  refine pe_weak (pe_listG (pgen_callN F (hr.mono (by omega)) hg hm kp b ha.run hkw.run hall hks hdb he hpl) passG (fun _ _ _ h => h.elim) (hr.mono hk) hgl hml (by decide +kernel) (by decide) (by decide) hel) fun σ H Q ⟨Z, F, ds, w, d, w', rr, hf, k⟩ => ?_
  obtain ⟨r, hr, hf⟩ := bind2 hf
  obtain ⟨a, b, ha, hb, l1, l2, rfl⟩ := callKA_some hr
  refine ⟨Z, F, ds, w, _, _, rr, ha, fun vs F1 H1 s1 d1 hv => ⟨Z, F1, ds, _, _, _, rr.step s1 d1, hb, fun zs F2 H2 s2 d2 hz => ?_⟩⟩
  have r2 := (rr.step s1 d1).step s2 d2
  refine ⟨by rw [hv.len]; exact l1, by rw [hz.len]; exact l2, ?_⟩
  refine ⟨by rw [List.length_append, hv.len, hz.len, l1, l2, hm0], Z, F2, _, _, d, w', r2.nil, (hv.mono s2.f).append hz, hf, fun ys F3 H3 s3 d3 hy p hp => ?_⟩
  exact (k.go (s1.trans (s2.trans s3)) rr.pn).new (r2.step s3 d3) hy p hp⟩
end
end J
namespace J
open PySem PyProof.Rows L2
/-! ### a text's signs, a text in a text -/
def signsD (s : Str) : List D := s.cps.toList.map fun c => .str ⟨#[c]⟩
theorem src_str {K : PySem.W.Frag} {p : Addr} {F H : Hp} {x : Str} : Src K p (Its x) F H [] (signsD x) := by
  refine ⟨fun q hq => (nomatch hq), fun F2 H2 hA e1 e2 hp hp2 i => ⟨fun hi => ?_, fun d hd => ?_⟩⟩
  · unfold signsD at hi
    rw [List.length_map, Array.length_toList] at hi
    exact hi
  · unfold signsD at hd
    rw [List.getElem?_map] at hd
    obtain ⟨c, h1, rfl⟩ := Option.map_eq_some_iff.mp hd
    rw [Array.getElem?_toList] at h1
    refine ⟨(Array.getElem?_eq_some_iff.mp h1).1, fun y H3 ⟨e3, c', h2, e4⟩ => ?_⟩
    rw [h1] at h2
    cases h2
    subst e3 e4
    exact ⟨Same.refl _, F2, Stp.refl e2 hp, den_str⟩
def iSigns (f : Ev) : Ef := fun ds w => (f ds w).bind fun a => match a.1 with | .str s => some (signsD s, a.2) | _ => none
def inS (neg : Bool) (a b : D) : Option D := match a, b with
  | .str i, .str j => some (.bl (if neg then !(!(Builtin.Str.occurrences j i 0 j.length 1).isEmpty) else !(Builtin.Str.occurrences j i 0 j.length 1).isEmpty))
  | _, _ => none
section
variable {X : Cx} {tg e a b : Expr} {f fa fb : Ev} {pos : Pos}
theorem jib_str (h : JB X e f) : JI X tg e true (iSigns f) := ⟨pi_weak (pi_str h.run) fun σ H Rk ⟨Z, F, ds, w, xs, w', rr, hf, k⟩ => by
  obtain ⟨⟨a, w1⟩, ha, hf⟩ := bind2 hf
  refine ⟨Z, F, ds, w, _, _, rr, ha, fun v F1 H1 s1 d1 hv => ?_⟩
  cases a with
  | str s =>
    cases hf
    exact ⟨s, hv.str, k _ F1 H1 [] s1 d1 (fun z => nomatch z) src_str⟩
  | _ => cases hf⟩
theorem s_inS {K : PySem.W.Frag} : OpS K (fun x y H Q => ∃ i j, x = .str i ∧ y = .str j ∧ Q (.bl (!(Builtin.Str.occurrences j i 0 j.length 1).isEmpty)) H) (inS false) := fun Z F H σ ds w a b d x y Q r hx hy hg k => by
  unfold inS at hg
  split at hg
  · cases hg
    exact ⟨_, _, hx.str, hy.str, k _ F H r.stp r.dr den_bl⟩
  · cases hg
def eInS := eBin (inS false)
theorem je_inS (ha : JB X a fa) (hb : JB X b fb) (hm : behindInMarks .In b = false := by rfl) : JE X (.Compare a [.In] [b] pos) (eInS fa fb) := je_cmpO op_in_str s_inS ha hb hm
end
/-! ### dict(pairs) -/
def pairsD : List D → Option (List Key × List D)
  | [] => some ([], [])
  | .tup [k, v] :: r => (keyOf k).bind fun q => (pairsD r).bind fun z => some (q :: z.1, v :: z.2)
  | _ :: _ => none
def nodupK : List Key → Bool
  | [] => true
  | k :: ks => !hasK ks k && nodupK ks
theorem sqT_pair {K : PySem.W.Frag} {p : Addr} {F : Hp} {k d : D} {v : V} (h : Den K p F (.tup [k, d]) v) : ∃ a y u, v = .ref a ∧ SqU K F a [y, u] ∧ Den K p F k y ∧ Den K p F d u := by
  unfold Den at h
  obtain ⟨a, vs, rfl, h1, h2⟩ := h
  unfold Dens at h2
  obtain ⟨y, r, rfl, hy, h2⟩ := h2
  unfold Dens at h2
  obtain ⟨u, r, rfl, hu, h2⟩ := h2
  unfold Dens at h2
  subst h2
  exact ⟨a, y, u, rfl, h1, hy, hu⟩
theorem pairs_vs {K : PySem.W.Frag} {p : Addr} {F H : Hp} (e : Same F H) : ∀ {xs : List D} {vs : List V} {q : List Key × List D}, Dens K p F xs vs → pairsD xs = some q → ∃ (ps : List Addr) (us : List V), vs = ps.map V.ref ∧ Dens K p F q.2 us ∧ q.1.length = us.length ∧ Paired (fun p kv => SqT K H p [kV kv.1, kv.2]) ps (q.1.zip us)
  | [], vs, q, h, g => by
    cases g
    unfold Dens at h
    subst h
    exact ⟨[], [], rfl, dens_nil, rfl, .nil⟩
  | x :: xs, vs, q, h, g => by
    unfold pairsD at g
    split at g
    · rename_i hnil
      cases hnil
    · rename_i k d r hc
      cases hc
      obtain ⟨key, hk, g⟩ := bind2 g
      obtain ⟨z, hz, g⟩ := bind2 g
      cases g
      unfold Dens at h
      obtain ⟨v, rs, rfl, hv, hr⟩ := h
      obtain ⟨a, y, u, rfl, h1, h2, h3⟩ := sqT_pair hv
      obtain ⟨ps, us, rfl, g2, g3, g4⟩ := pairs_vs e hr hz
      rw [key_of hk h2] at h1
      exact ⟨a :: ps, u :: us, rfl, dens_cons h3 g2, congrArg Nat.succ g3, .cons (same_t h1 e) g4⟩
    · cases g
theorem merge_nodup {ks : List Key} : ∀ {vs : List V} {ls : List Key} {us : List V}, ks.length = vs.length → ls.length = us.length → nodupK ks = true → (∀ k ∈ ks, k ∉ ls) → mergeK (ls.zip us) (ks.zip vs) = (ls ++ ks).zip (us ++ vs) := by
  induction ks with
  | nil =>
    intro vs ls us h _ _ _
    cases vs with
    | nil => simp [mergeK]
    | cons _ _ => cases h
  | cons k ks ih =>
    intro vs ls us h h2 hn hd
    cases vs with
    | nil => cases h
    | cons v vs =>
      unfold nodupK at hn
      rw [Bool.and_eq_true] at hn
      have hk : k ∉ ls := hd k (List.mem_cons_self ..)
      have e : putK (ls.zip us) k v = (ls ++ [k]).zip (us ++ [v]) := by
        rw [putK_zip h2]
        unfold putKs putVs
        rw [if_neg hk, if_neg hk]
      have step : mergeK (ls.zip us) ((k :: ks).zip (v :: vs)) = mergeK ((ls ++ [k]).zip (us ++ [v])) (ks.zip vs) := by
        rw [← e]
        rfl
      rw [step, ih (Nat.succ.inj h) (by simp [h2]) hn.2 (fun q hq hm => ?_)]
      · simp
      · rcases List.mem_append.mp hm with z | z
        · exact hd q (List.mem_cons_of_mem _ hq) z
        · have := List.mem_singleton.mp z
          subst this
          have h3 := hn.1
          unfold hasK at h3
          simp at h3
          exact h3 hq
def nDict (f : Ef) : Eo' := fun ds w => (f ds w).bind fun a => match a.1 with
  | [.lst xs] => (pairsD xs).bind fun q => if nodupK q.1 = true then some (.k q.1 q.2, a.2) else none
  | _ => none
section
variable {X : Cx} {e : Expr} {fs : Ef} {p pos : Pos}
theorem jn_dict (hc : X.calm = true) (hm : X.mg "dict" = none) (hg : Gl X "dict") (ha : JA X [e] fs) (he : starEach [e] X.env = (false, eval e X.env) :: starEach [] X.env := by rfl) : JND X (.Call (.Name "dict" p) [e] [] pos) (nDict fs) :=
  ⟨pe_weak (pe_callTy (call_dictP hc) hg hm (by decide +kernel) ha.run (by decide) (by decide) he rfl) fun σ H Q ⟨Z, F, ds, w, d, w', rr, hf, k⟩ => by
    obtain ⟨⟨a, w1⟩, ha, hf⟩ := bind2 hf
    dsimp only at hf
    split at hf
    · rename_i xs
      obtain ⟨q, hq, hf⟩ := bind2 hf
      split at hf
      · rename_i hn
        cases hf
        refine ⟨Z, F, ds, w, _, _, rr, ha, fun vs F1 H1 s1 d1 hv => ?_⟩
        unfold Dens at hv
        obtain ⟨v, r, rfl, hv, hr⟩ := hv
        unfold Dens at hr
        subst hr
        unfold Den at hv
        obtain ⟨a, us, rfl, h1, h2⟩ := hv
        obtain ⟨ps, zs, rfl, g2, g3, g4⟩ := pairs_vs s1.e h2 hq
        refine ⟨a, ps, _, rfl, .of (s1.e _ _ h1), g4, fun p hp => ?_⟩
        have em : mergeK [] (q.1.zip zs) = q.1.zip zs := by
          have := merge_nodup (ls := []) (us := []) g3 rfl hn (fun _ _ z => nomatch z)
          simpa using this
        rw [em]
        obtain ⟨s2, d2⟩ := (rr.step s1 d1).newO (o := .dK (q.1.zip zs)) hp
        refine k p F1 _ (s1.trans s2) d2 ⟨?_, zs, upd_same, ?_, (rr.step s1 d1).np hp, g2⟩ ?_
        · rw [g3, g2.len]
        · cases z : F1 p with
          | none => rfl
          | some o =>
            have := s1.e p o z
            rw [hp] at this
            cases this
        · cases z : H p with
          | none => rfl
          | some o =>
            by_cases hpp : p = Z.p
            · subst hpp
              exact absurd rfl ((rr.step s1 d1).np hp)
            · have := s1.h p o hpp z
              rw [hp] at this
              cases this
      · cases hf
    · cases hf⟩
end
/-! ### range(a, b, c) -/
def iRg3 (fa fb fc : Ev) : Ef := fun ds w => (fa ds w).bind fun a => (fb ds a.2).bind fun b => (fc ds b.2).bind fun c => match a.1, b.1, c.1 with
  | .int i, .int j, .int k => if small2 i j k then some (rgD i k (rgN i j k), c.2) else none
  | _, _, _ => none
section
variable {X : Cx} {tg a b c : Expr} {fa fb fc : Ev} {p pos : Pos}
theorem ji_rg3 (hg : Gl X "range") (hm : X.mg "range" = none) (ha : JB X a fa) (hb : JB X b fb) (hc : JB X c fc)
    (na : starEach [a, b, c] X.env = (false, eval a X.env) :: starEach [b, c] X.env := by rfl) (nb : starEach [b, c] X.env = (false, eval b X.env) :: starEach [c] X.env := by rfl) (nc : starEach [c] X.env = (false, eval c X.env) :: starEach [] X.env := by rfl)
    (hpl : (backTo pos (starEach [b, c] X.env)).any (·.1) = false := by rfl) : JI X tg (.Call (.Name "range" p) [a, b, c] [] pos) false (iRg3 fa fb fc) :=
  ⟨pi_weak (pi_range3 hg hm (pa_cons ha.run (pa_cons hb.run (pa_cons hc.run pa_nil nc) nb) na) na hpl) fun σ H Rk ⟨Z, F, ds, w, xs, w', rr, hf, k⟩ => by
    obtain ⟨⟨x, w1⟩, hx, hf⟩ := bind2 hf
    obtain ⟨⟨y, w2⟩, hy, hf⟩ := bind2 hf
    obtain ⟨⟨z, w3⟩, hz, hf⟩ := bind2 hf
    refine ⟨Z, F, ds, w, _, _, rr, hx, fun v F1 H1 s1 d1 hv => ⟨Z, F1, ds, _, _, _, rr.step s1 d1, hy, fun u F2 H2 s2 d2 hu => ⟨Z, F2, ds, _, _, _, (rr.step s1 d1).step s2 d2, hz, fun t F3 H3 s3 d3 ht => ?_⟩⟩⟩
    cases x <;> first | cases hf | skip
    cases y <;> first | cases hf | skip
    cases z <;> first | cases hf | skip
    dsimp only at hf
    split at hf
    · rename_i hs
      cases hf
      have h1 := hs
      unfold small2 at h1
      rw [Bool.and_eq_true, Bool.and_eq_true] at h1
      obtain ⟨⟨h2, h3⟩, h4⟩ := h1
      have h2 := of_decide_eq_true h2
      refine ⟨_, _, _, rgN _ _ _, by rw [hv.int, hu.int, ht.int], ⟨by omega, by omega, h3, rangeSize_nn h2.1⟩, k _ F3 H3 [] (s1.trans (s2.trans s3)) d3 (fun _ => rfl) src_rangeC⟩
    · cases hf⟩
end
end J
namespace J
open PySem PyProof.Rows L2
/-! ### two names at once, that comprehensions read -/
section
variable {X : Cx} {g : Ep} {pos : Pos}
theorem js_asgP2 (i j : Nat) {x y : Str} {a b : Expr} {px py pt : Pos} {kt k2 : Nat} {pt2 : Pos} (hc : X.calm = true) (hN : X.N.Nodup) (ha : JP X [a, b] g) (hi : X.N[i]? = some x := by rfl) (hj : X.N[j]? = some y := by rfl) (hij : i ≠ j := by decide)
    (hx : Loc X.env.scope x := by first | exact Or.inl rfl | exact Or.inr rfl) (hy : Loc X.env.scope y := by first | exact Or.inl rfl | exact Or.inr rfl)
    (hfx : X.fn x = true ∨ X.env.scope.names.lookup x = some .local := by first | exact .inl rfl | exact .inr rfl | assumption) (hfy : X.fn y = true ∨ X.env.scope.names.lookup y = some .local := by first | exact .inl rfl | exact .inr rfl | assumption)
    (hn : (assignEach [.Name x px, .Name y py] X.env).length = 2 := by rfl) (hst : (assignEach [.Name x px, .Name y py] X.env).findIdx? (·.1) = none := by rfl)
    (hn1 : (assignEach [.Name x px, .Name y py] X.env).map (·.2) = assign (.Name x px) X.env :: (assignEach [.Name y py] X.env).map (·.2) := by rfl) (hn2 : (assignEach [.Name y py] X.env).map (·.2) = assign (.Name y py) X.env :: (assignEach [] X.env).map (·.2) := by rfl)
    (hs : swapsWithSole [.Tuple [.Name x px, .Name y py] kt pt] (.Tuple [a, b] k2 pt2) pos.line X.env = pure false := by rfl) (hw : swappedStores [.Tuple [.Name x px, .Name y py] kt pt] (.Tuple [a, b] k2 pt2) X.env = pure none := by rfl) (h1 : (assignEach [.Tuple [.Name x px, .Name y py] kt pt] X.env).map (·.2) = [assign (.Tuple [.Name x px, .Name y py] kt pt) X.env] := by rfl) :
    JS X (.Assign [.Tuple [.Name x px, .Name y py] kt pt] (.Tuple [a, b] k2 pt2) pos) (sPar2 i j g) := ⟨ps_weak (ps_asg (pe_tup ha.run) (pg_tup hc (pgs_cons (pg_name hN hi hx hfx) (pgs_cons (pg_name hN hj hy hfy) pgs_nil hn2) hn1) hn hst) hs hw h1) fun D σ H ⟨Z, F, ds, w, o, rr, hf, k⟩ => by
  obtain ⟨⟨ts, w1⟩, h1, hf⟩ := bind2 hf
  dsimp only at hf
  split at hf
  · cases hf
    refine ⟨Z, F, ds, [], [], w, _, _, rr.len, by rw [List.append_nil, List.append_nil]; exact rr, h1, fun vs F1 H1 s1 hlen r1 => ?_⟩
    match vs, hlen with
    | [v, u], _ =>
      refine ⟨(by decide : (2 : Nat) ≤ sizeLine), fun q hq => ?_⟩
      obtain ⟨s2, d2⟩ := r1.newO (o := .tup [v, u]) hq
      exact ⟨q, [v, u], rfl, .inl (.inl upd_same), rfl, v, [u], rfl, u, [], rfl, rfl, k _ F1 _ s1 (R.par2 hij rr.len (r1.step s2 d2))⟩
  · cases hf⟩
end
/-! k in d as a test -/
section
variable {X : Cx} {i o : Expr} {fi fo : Ev} {pos : Pos} {k : Nat}
theorem jt_dIn (hr : Room k X.A) (hi : JB X i fi) (ho : JB X o fo) (h1 : behindInMarks .In o = false := by first | exact nobehind _ (by decide) (by decide) | rfl) : JT X (.Compare i [.In] [o] pos) (eTest (eDHas false fi fo)) :=
  ⟨pt_weak (pt_cmp (pc_din (by have := hr.un; omega) hi.run ho.run) h1) fun σ H Q q => test_of (e := i) σ H Q (fun Q h => has_of (neg := false) h) q⟩
theorem jt_dNotIn (hr : Room k X.A) (hi : JB X i fi) (ho : JB X o fo) (h1 : behindInMarks .NotIn o = false := by first | exact nobehind _ (by decide) (by decide) | rfl) : JT X (.Compare i [.NotIn] [o] pos) (eTest (eDHas true fi fo)) :=
  ⟨pt_weak (pt_cmp (pc_dnotin (by have := hr.un; omega) hi.run ho.run) h1) fun σ H Q q => test_of (e := i) σ H Q (fun Q h => has_of (neg := true) h) q⟩
end
/-- a def that is never asked -/
theorem jss_none {X : Cx} {sts : List Stmt} : JSs X sts (fun _ _ => none) := ⟨⟨fun pins s σ H D I ⟨Z, F, ds, w, o, rr, hf, k⟩ => nomatch hf⟩⟩
end J
namespace J
open PySem PyProof.Rows L2
/-! ### dicts of lists of one's own -/
section
variable {κ : Type} [DecidableEq κ] {α : Type}
def ixK : List κ → κ → Option Nat
  | [], _ => none
  | q :: ks, k => if q = k then some 0 else (ixK ks k).map (· + 1)
theorem atK_ix {k : κ} : ∀ {ks : List κ} {xs : List α}, ks.length = xs.length → atK ks xs k = (ixK ks k).bind (xs[·]?)
  | [], xs, _ => rfl
  | q :: ks, [], h => by cases h
  | q :: ks, x :: xs, h => by
    rw [atK_cons]
    unfold ixK
    by_cases hq : q = k
    · rw [if_pos hq, if_pos hq]
      rfl
    · rw [if_neg hq, if_neg hq, atK_ix (Nat.succ.inj h)]
      cases ixK ks k <;> rfl
end
section
variable {K : PySem.W.Frag} {Z : Cfg} {F H F1 H1 : Hp} {σ : L2.St} {ds : List Sl} {w w1 : Wd} {ks : List Key} {xss : List (List D)}
theorem R.env' (r : R K Z F H σ ds w) : ∃ α, EnvOk K Z F H σ ds α := r.env
theorem EnvOk.ll {α : Nat × Nat → Addr} (h : EnvOk K Z F H σ ds α) {i : Nat} (hs : ds[i]? = some (.ll ks xss)) : σ[i]? = some (some (.ref (α (i, 0)))) ∧ (ks.length = xss.length ∧ H (α (i, 0)) = some (.dK (ks.zip ((List.range xss.length).map fun m => V.ref (α (i, m + 1))))) ∧ F (α (i, 0)) = none ∧ α (i, 0) ≠ Z.p ∧ Z.H0 (α (i, 0)) = none) ∧ ∀ m xs, xss[m]? = some xs → OwnL K Z.p F H (α (i, m + 1)) xs ∧ Z.H0 (α (i, m + 1)) = none := h.2 i _ hs
/-- rows[k] -/
theorem EnvOk.llKey {α : Nat × Nat → Addr} (h : EnvOk K Z F H σ ds α) {i : Nat} (hs : ds[i]? = some (.ll ks xss)) {q : Key} {m : Nat} {xs : List D} (hm : ixK ks q = some m) (hx : xss[m]? = some xs) :
    valV (ks.zip ((List.range xss.length).map fun m => V.ref (α (i, m + 1)))) q = some (V.ref (α (i, m + 1))) := by
  obtain ⟨_, ⟨l, _⟩, _⟩ := h.ll hs
  rw [valV_zip, atK_ix (by rw [List.length_map, List.length_range]; exact l), hm]
  have hl := (List.getElem?_eq_some_iff.mp hx).1
  show ((List.range xss.length).map fun m => V.ref (α (i, m + 1)))[m]? = _
  simp [hl]
/-- a list in the dict turns -/
theorem R.turnLL (r : R K Z F H σ ds w) {α : Nat × Nat → Addr} (he : EnvOk K Z F H σ ds α) {i m : Nat} {xs ys : List D} {vs : List V} (hs : ds[i]? = some (.ll ks xss)) (hm : xss[m]? = some xs) (hd : Dens K Z.p F ys vs) :
    R K Z F (upd H (α (i, m + 1)) (.lst vs)) σ (ds.set i (.ll ks (xss.set m ys))) w := by
  obtain ⟨h1, ⟨h2, h3, h4, h5, h6⟩, h7⟩ := he.ll hs
  obtain ⟨⟨us, g1, g2, g3, g4⟩, g5⟩ := h7 m xs hm
  have hml := (List.getElem?_eq_some_iff.mp hm).1
  have own : ∀ n, n ≤ xss.length → isOwn ds (i, n) := fun n hn => ⟨_, hs, decide_eq_true hn⟩
  have nm : α (i, m + 1) ∉ Z.M := fun z => by
    obtain ⟨o, ho⟩ := r.m0 _ z
    rw [g5] at ho
    cases ho
  have hh : ∀ n, (Sl.ll ks (xss.set m ys)).has n = (Sl.ll ks xss).has n := fun n => by
    show decide (n ≤ (xss.set m ys).length) = decide (n ≤ xss.length)
    rw [List.length_set]
  refine ⟨fun b o z => ?_, r.fp, ?_, r.pm, fun b hb => ⟨?_, (r.hm b hb).2⟩, r.m0, fun b o hb hbm z => ?_, r.nw, r.f0, by rw [List.length_set]; exact r.len, α, fun p q hp hq => he.1 p q (isOwn_eq hs hh hp) (isOwn_eq hs hh hq), fun j t ht => ?_⟩
  · rw [upd_ne (ne_of_none z g2)]
    exact r.ex b o z
  · obtain ⟨c, q1, q2⟩ := r.dr
    exact ⟨c, by rw [upd_ne (Ne.symm g3)]; exact q1, q2⟩
  · obtain ⟨o, ho⟩ := (r.hm b hb).1
    exact ⟨o, by rw [upd_ne (fun q : b = α (i, m + 1) => nm (q ▸ hb))]; exact ho⟩
  · have hba : b ≠ α (i, m + 1) := by
      rintro rfl
      rw [g5] at z
      cases z
    rw [upd_ne hba]
    exact r.keep b o hb hbm z
  · rw [List.getElem?_set] at ht
    by_cases hj : i = j
    · subst hj
      rw [if_pos rfl] at ht
      split at ht
      · cases ht
        have n0 : α (i, 0) ≠ α (i, m + 1) := fun q => by
          have := he.1 _ _ (own 0 (Nat.zero_le _)) (own (m + 1) hml) q
          cases this
        refine ⟨h1, ⟨by rw [List.length_set]; exact h2, ?_, h4, h5, h6⟩, fun n zs hn => ?_⟩
        · dsimp only
          rw [upd_ne n0, List.length_set]
          exact h3
        · dsimp only
          by_cases hnm : m = n
          · subst hnm
            rw [List.getElem?_set_self hml] at hn
            cases hn
            exact ⟨⟨vs, upd_same, g2, g3, hd⟩, g5⟩
          · rw [List.getElem?_set_ne hnm] at hn
            obtain ⟨⟨us', q1, q2, q3, q4⟩, q5⟩ := h7 n zs hn
            have hnl := (List.getElem?_eq_some_iff.mp hn).1
            have nn : α (i, n + 1) ≠ α (i, m + 1) := fun q => by
              have := he.1 _ _ (own (n + 1) hnl) (own (m + 1) hml) q
              cases this
              exact hnm rfl
            exact ⟨⟨us', by rw [upd_ne nn]; exact q1, q2, q3, q4⟩, q5⟩
      · cases ht
    · rw [if_neg hj] at ht
      have z := he.2 j t ht
      have nb : ∀ n, t.has n = true → α (j, n) ≠ α (i, m + 1) := fun n ho q => hj (congrArg Prod.fst (he.1 (i, m + 1) (j, n) (own _ hml) ⟨t, ht, ho⟩ q.symm))
      have na : t.ow = true → α (j, 0) ≠ α (i, m + 1) := fun ho => nb 0 (has0 ho)
      cases t with
      | no => trivial
      | d x => exact z
      | own zs =>
        obtain ⟨q1, ⟨us', q2, q3⟩, q5⟩ := z
        exact ⟨q1, ⟨us', by rw [upd_ne (na rfl)]; exact q2, q3⟩, q5⟩
      | mu k zs =>
        obtain ⟨q1, ⟨us', q2, q3⟩, q5⟩ := z
        exact ⟨q1, ⟨us', by rw [upd_ne (na rfl)]; exact q2, q3⟩, q5⟩
      | oo x =>
        obtain ⟨q1, q2, q5⟩ := z
        obtain ⟨_, _, q3, _⟩ := q2.at
        exact ⟨q1, q2.same (upd_ne (na rfl)) q3 (Same.refl _), q5⟩
      | ll ks' xss' => exact SlR.ll_same z rfl (fun _ => rfl) (fun n hn => upd_ne (nb n (decide_eq_true hn))) (fun _ _ z => z) (Same.refl _)
/-- a list in the dict is told to all; the dict is forgotten -/
theorem R.tellLL (r : R K Z F H σ ds w) {α : Nat × Nat → Addr} (he : EnvOk K Z F H σ ds α) {i m : Nat} {xs : List D} (hs : ds[i]? = some (.ll ks xss)) (hm : xss[m]? = some xs) : ∃ F', Same F F' ∧ R K Z F' H σ (ds.set i .no) w ∧ Den K Z.p F' (.lst xs) (.ref (α (i, m + 1))) := by
  obtain ⟨h1, ⟨h2, h3, h4, h5, h6⟩, h7⟩ := he.ll hs
  obtain ⟨⟨vs, g1, g2, g3, g4⟩, g5⟩ := h7 m xs hm
  have hml := (List.getElem?_eq_some_iff.mp hm).1
  have sf : Same F (upd F (α (i, m + 1)) (.lst vs)) := same_tell g2
  have nm : α (i, m + 1) ∉ Z.M := fun z => by
    obtain ⟨o, ho⟩ := r.m0 _ z
    rw [g5] at ho
    cases ho
  refine ⟨_, sf, ⟨fun b o z => ?_, by rw [upd_ne (Ne.symm g3)]; exact r.fp, ?_, r.pm, fun b hb => ⟨(r.hm b hb).1, by rw [upd_ne (fun q : b = α (i, m + 1) => nm (q ▸ hb))]; exact (r.hm b hb).2⟩, r.m0, r.keep, fun b o z => ?_, r.f0.trans sf, by rw [List.length_set]; exact r.len, α, fun p q hp hq => he.1 p q (isOwn_set rfl hp) (isOwn_set rfl hq), fun j t ht => ?_⟩, den_lst upd_same (g4.mono sf)⟩
  · by_cases hb : b = α (i, m + 1)
    · subst hb
      rw [upd_same] at z
      rw [← z]
      exact g1
    · rw [upd_ne hb] at z
      exact r.ex b o z
  · obtain ⟨c, q1, q2⟩ := r.dr
    exact ⟨c, q1, sf _ _ q2⟩
  · by_cases hb : b = α (i, m + 1)
    · subst hb
      exact .inr g5
    · rw [upd_ne hb] at z
      exact r.nw b o z
  · rw [List.getElem?_set] at ht
    by_cases hj : i = j
    · subst hj
      rw [if_pos rfl] at ht
      split at ht
      · cases ht
        trivial
      · cases ht
    · rw [if_neg hj] at ht
      have z := he.2 j t ht
      have nb : ∀ n, t.has n = true → α (j, n) ≠ α (i, m + 1) := fun n ho q => hj (congrArg Prod.fst (he.1 (i, m + 1) (j, n) ⟨_, hs, decide_eq_true hml⟩ ⟨t, ht, ho⟩ q.symm))
      have na : t.ow = true → α (j, 0) ≠ α (i, m + 1) := fun ho => nb 0 (has0 ho)
      cases t with
      | no => trivial
      | d x =>
        obtain ⟨u, q1, q2⟩ := z
        exact ⟨u, q1, Den.mono sf x u q2⟩
      | own zs =>
        obtain ⟨q1, ⟨us', q2, q3, q4, q6⟩, q5⟩ := z
        exact ⟨q1, ⟨us', q2, by rw [upd_ne (na rfl)]; exact q3, q4, q6.mono sf⟩, q5⟩
      | mu k zs =>
        obtain ⟨q1, ⟨us', q2, q3, q4, q6⟩, q5⟩ := z
        exact ⟨q1, ⟨us', q2, by rw [upd_ne (na rfl)]; exact q3, q4, q6.mono sf⟩, q5⟩
      | oo x =>
        obtain ⟨q1, q2, q5⟩ := z
        obtain ⟨_, _, q3, _⟩ := q2.at
        exact ⟨q1, q2.same rfl (by rw [upd_ne (na rfl)]; exact q3) sf, q5⟩
      | ll ks' xss' => exact SlR.ll_same z rfl (fun _ => rfl) (fun _ _ => rfl) (fun n hn zz => (upd_ne (nb n (decide_eq_true hn))).trans zz) sf
end
section
variable {X : Cx} {e ik : Expr} {fi fe : Ev} {pos : Pos} {k : Nat}
def eLlAt (i : Nat) (fi : Ev) : Ev := fun ds w => (fi ds w).bind fun k => match ds[i]? with
  | some (.ll ks xss) => (keyOf k.1).bind fun q => (ixK ks q).bind fun m => (xss[m]?).bind fun xs => some (.lst xs, k.2)
  | _ => none
theorem jb_llAt (i : Nat) {x : Str} {p1 : Pos} (hr : Room k X.A) (hi : JB X ik fi) (hN : X.N[i]? = some x := by rfl) (hv : Vis X.env.scope x := by first | exact Or.inl rfl | exact Or.inr (Or.inl rfl) | exact Or.inr (Or.inr rfl)) (hd : (x == ("__debug__" : Str)) = false := by decide) (hcd : (x == ("__classdict__" : Str)) = false := by decide)
    (hs : NoSl ik := by exact fun _ _ => rfl) : JB X (.Subscript (.Name x p1) ik pos) (eLlAt i fi) :=
  ⟨pe_weak (pe_dget (by have := hr.un; omega) (pe_var hN hv hd hcd) hi.run hs) fun σ H Q ⟨Z, F, ds, w, d, w', rr, hf, kk⟩ => by
    obtain ⟨b, hb, hf⟩ := bind2 hf
    split at hf
    · rename_i ks xss hx
      obtain ⟨q, hq, hf⟩ := bind2 hf
      obtain ⟨m, hm, hf⟩ := bind2 hf
      obtain ⟨xs, hxs, hf⟩ := bind2 hf
      cases hf
      obtain ⟨α, he⟩ := rr.env'
      refine ⟨_, (he.ll hx).1, Z, F, ds, w, _, _, rr, hb, fun u F1 H1 s1 d1 hu => ?_⟩
      have he1 := he.step s1
      obtain ⟨h1, ⟨h2, h3, h4, h5, h6⟩, h7⟩ := he1.ll hx
      rw [keyB_of hq hu]
      exact ⟨_, _, rfl, .inl ⟨_, q, .inl h3, rfl, (he1.llKey hx hm hxs).symm⟩, kk _ F1 H1 s1 d1 (.inr (.inl ⟨_, _, rfl, rfl, (h7 m xs hxs).1⟩))⟩
    · cases hf⟩
/-- x[k].append(e) -/
def sLlApp (i : Nat) (fi fe : Ev) : Es := fun ds w => (fi ds w).bind fun k => match ds[i]? with
  | some (.ll ks xss) => (keyOf k.1).bind fun q => (ixK ks q).bind fun m => (xss[m]?).bind fun xs => (fe ds k.2).bind fun d => if xs.length < line then some (.nx (ds.set i (.ll ks (xss.set m (xs ++ [d.1])))) d.2) else none
  | _ => none
theorem js_llApp (i : Nat) {x : Str} {p1 p2 apos cpos : Pos} (hr : Room k X.A) (hi : JB X ik fi) (he : JE X e fe) (hN : X.N[i]? = some x := by rfl) (hv : Vis X.env.scope x := by first | exact Or.inl rfl | exact Or.inr (Or.inl rfl) | exact Or.inr (Or.inr rfl)) (hd : (x == ("__debug__" : Str)) = false := by decide) (hcd : (x == ("__classdict__" : Str)) = false := by decide)
    (hsl : NoSl ik := by exact fun _ _ => rfl)
    (hbase : attributeBase (.Subscript (.Name x p1) ik p2) "append" X.env (eval (.Subscript (.Name x p1) ik p2) X.env) = eval (.Subscript (.Name x p1) ik p2) X.env := by rfl)
    (hfew : ((backTo cpos (starEach (e :: []) X.env)).all (fun x => !x.1) && (backToKw cpos (keywordEach [] X.env)).all (fun x => x.1.isSome) && decide ((e :: []).length + ([] : List Keyword).length + (if ([] : List Keyword).isEmpty then 0 else 1) < 30)) = true := by rfl)
    (hline : (apos.endLine == cpos.line) = true := by rfl) (hs : starEach (e :: []) X.env = (false, eval e X.env) :: starEach [] X.env := by rfl) (hplain : (backTo cpos (starEach [] X.env)).any (·.1) = false := by rfl)
    (hsw : swapsWith (.Call (.Attribute (.Subscript (.Name x p1) ik p2) "append" apos) [e] [] cpos) none pos.line X.env = pure false := by rfl) : JS X (.Expr (.Call (.Attribute (.Subscript (.Name x p1) ik p2) "append" apos) [e] [] cpos) pos) (sLlApp i fi fe) :=
  ⟨ps_weak (ps_expr (pe_bm PySem.F.plainAttrs_list PySem.F.slot_list_append PySem.F.type_list_append mt_append (pe_dget (by have := hr.un; omega) (pe_var hN hv hd hcd) hi.run hsl) (pa_cons he.run pa_nil hs) hbase hfew hline hs hplain) hsw) fun D σ H ⟨Z, F, ds, w, o, rr, hf, kk⟩ => by
    obtain ⟨b, hb, hf⟩ := bind2 hf
    split at hf
    · rename_i ks xss hx
      obtain ⟨q, hq, hf⟩ := bind2 hf
      obtain ⟨m, hm, hf⟩ := bind2 hf
      obtain ⟨xs, hxs, hf⟩ := bind2 hf
      obtain ⟨d, hdd, hf⟩ := bind2 hf
      split at hf
      · rename_i hl
        cases hf
        obtain ⟨α, he0⟩ := rr.env'
        refine ⟨_, (he0.ll hx).1, Z, F, ds, w, _, _, rr, hb, fun u F1 H1 s1 d1 hu => ?_⟩
        have r1 := rr.step s1 d1
        have he1 := he0.step s1
        obtain ⟨h1, ⟨h2, h3, h4, h5, h6⟩, h7⟩ := he1.ll hx
        obtain ⟨⟨vs, g1, g2, g3, g4⟩, g5⟩ := h7 m xs hxs
        rw [keyB_of hq hu]
        refine ⟨_, _, rfl, .inl ⟨_, q, .inl h3, rfl, (he1.llKey hx hm hxs).symm⟩, .inl ⟨rfl, vs, .of g1⟩, Z, F1, ds, _, _, _, r1, hdd, fun v F2 H2 s2 d2 hv => ?_⟩
        have r2 := r1.step s2 d2
        have he2 := he1.step s2
        refine ⟨_, vs, v, rfl, rfl, s2.h _ _ g3 g1, by rw [g4.len]; exact sz_lt hl, ?_⟩
        exact kk σ F2 _ (s1.f.trans s2.f) (r2.turnLL he2 hx hxs ((g4.mono s2.f).append (dens_cons hv dens_nil)))
      · cases hf
    · cases hf⟩
/-- return x[k] -/
def sLlRet (i : Nat) (fi : Ev) : Es := fun ds w => (fi ds w).bind fun k => match ds[i]? with
  | some (.ll ks xss) => (keyOf k.1).bind fun q => (ixK ks q).bind fun m => (xss[m]?).bind fun xs => some (.rt (.lst xs) k.2)
  | _ => none
theorem js_llRet (i : Nat) {x : Str} {p1 p2 : Pos} (hr : Room k X.A) (hi : JB X ik fi) (hN : X.N[i]? = some x := by rfl) (hv : Vis X.env.scope x := by first | exact Or.inl rfl | exact Or.inr (Or.inl rfl) | exact Or.inr (Or.inr rfl)) (hd : (x == ("__debug__" : Str)) = false := by decide) (hcd : (x == ("__classdict__" : Str)) = false := by decide)
    (hsl : NoSl ik := by exact fun _ _ => rfl) : JS X (.Return (some (.Subscript (.Name x p1) ik p2)) pos) (sLlRet i fi) :=
  ⟨ps_weak (ps_ret (pe_dget (by have := hr.un; omega) (pe_var hN hv hd hcd) hi.run hsl)) fun D σ H ⟨Z, F, ds, w, o, rr, hf, kk⟩ => by
    obtain ⟨b, hb, hf⟩ := bind2 hf
    split at hf
    · rename_i ks xss hx
      obtain ⟨q, hq, hf⟩ := bind2 hf
      obtain ⟨m, hm, hf⟩ := bind2 hf
      obtain ⟨xs, hxs, hf⟩ := bind2 hf
      cases hf
      obtain ⟨α, he0⟩ := rr.env'
      refine ⟨_, (he0.ll hx).1, Z, F, ds, w, _, _, rr, hb, fun u F1 H1 s1 d1 hu => ?_⟩
      have r1 := rr.step s1 d1
      have he1 := he0.step s1
      obtain ⟨h1, ⟨h2, h3, h4, h5, h6⟩, h7⟩ := he1.ll hx
      obtain ⟨F2, sf, r2, hden⟩ := r1.tellLL he1 hx hxs
      rw [keyB_of hq hu]
      exact ⟨_, _, rfl, .inl ⟨_, q, .inl h3, rfl, (he1.llKey hx hm hxs).symm⟩, kk _ _ _ F2 H1 (s1.f.trans sf) r2 hden⟩
    · cases hf⟩
end
end J
namespace J
open PySem PyProof.Rows L2
/-! ### {k: [..] for ..} -/
abbrev LLD := List Key × List (List D)
abbrev Ell := List Sl → Wd → Option (LLD × Wd)
def dcGo (tg : Eg) (ek : Ev) (ev : Ef) (ds : List Sl) : List D → LLD → Wd → Option (LLD × Wd)
  | [], a, w => some (a, w)
  | x :: xs, a, w => (tg ds x).bind fun ds1 => (ek ds1 w).bind fun k => (keyOf k.1).bind fun q => (ev ds1 k.2).bind fun y => if hasK a.1 q = false ∧ a.1.length < line then dcGo tg ek ev ds xs (a.1 ++ [q], a.2 ++ [y.1]) y.2 else none
def fDc (src : Ef) (tg : Eg) (ek : Ev) (ev : Ef) (vs : List Nat) : Ell := fun ds w => (src ds w).bind fun s => dcGo tg ek ev (wipeS ds vs) s.1 ([], []) s.2
structure LLat (K : PySem.W.Frag) (p : Addr) (F H : Hp) (D : Addr) (qs : List Addr) (x : LLD) : Prop where
  lk : x.1.length = qs.length
  lx : x.2.length = qs.length
  hd : H D = some (.dK (x.1.zip (qs.map V.ref)))
  fd : F D = none
  dp : D ≠ p
  nd : (D :: qs).Nodup
  ls : ∀ (m : Nat) (xs : List J.D) (q : Addr), x.2[m]? = some xs → qs[m]? = some q → OwnL K p F H q xs
theorem LLat.step {K : PySem.W.Frag} {p D : Addr} {F H F' H' : Hp} {qs : List Addr} {x : LLD} (h : LLat K p F H D qs x) (y : Stp p F H F' H') : LLat K p F' H' D qs x :=
  ⟨h.lk, h.lx, y.h _ _ h.dp h.hd, none_step y h.hd h.fd, h.dp, h.nd, fun m xs q h1 h2 => (h.ls m xs q h1 h2).step y⟩
def KLD (K : PySem.W.Frag) (p : Addr) (F H : Hp) (w' : Wd) (x : LLD) (Q : VK) : Prop := ∀ D qs F' H', Stp p F H F' H' → Dr p F' H' w' → LLat K p F' H' D qs x → (∀ b ∈ D :: qs, H b = none) → Q (.ref D) H'
def canLD (K : PySem.W.Frag) (f : Ell) : TE := fun σ H Q => ∃ Z F ds w x w', R K Z F H σ ds w ∧ f ds w = some (x, w') ∧ KLD K Z.p F H w' x Q
structure JLD (X : Cx) (e : Expr) (f : Ell) : Prop where run : PE X e (canLD X.K f)
theorem hasK_not {κ : Type} [DecidableEq κ] {ks : List κ} {q : κ} (h : hasK ks q = false) : q ∉ ks := by
  unfold hasK at h
  exact of_decide_eq_false h
theorem dc_of {K : PySem.W.Frag} {src : Ef} {tg : Eg} {ek : Ev} {ev : Ef} {vs js : List Nat} (hj : ∀ i ∈ js, i ∈ vs) (σ : L2.St) (H : Hp) (Q : VK) : canLD K (fDc src tg ek ev vs) σ H Q → tDc (canI K false src) (canG K tg js) (canT K tYesJ) (canE K ek) (canF K ev) vs σ H Q := fun ⟨Z, F, ds, w, ys, w', rr, hf, k⟩ => by
  obtain ⟨⟨xs, w1⟩, hs, hg⟩ := bind2 hf
  refine ⟨Z, F, ds, w, _, _, rr, hs, fun T F1 H1 A s1 d1 _ hS D hD => ?_⟩
  obtain ⟨hA, hT⟩ := hS
  have r1 := rr.step s1 d1
  have hDp : D ≠ Z.p := r1.np hD
  have hDF : F1 D = none := r1.ex.free hD
  have old : ∀ {b : Addr}, b ≠ Z.p → H1 b = none → H b = none := fun {b} hb h => by
    cases q : H b with
    | none => rfl
    | some o =>
      have := s1.h b o hb q
      rw [h] at this
      cases this
  refine ⟨fun i m H2 => m = xs.length - i ∧ i ≤ xs.length ∧ ∃ F2 qs acc w3, Stp Z.p F1 H1 F2 H2 ∧ Dr Z.p F2 H2 w3 ∧ LLat K Z.p F2 H2 D qs acc ∧ (∀ b ∈ qs, H1 b = none) ∧ dcGo tg ek ev (wipeS ds vs) (xs.drop i) acc w3 = some (ys, w'), ⟨xs.length, rfl, Nat.zero_le _, F1, [], ([], []), w1, ?_⟩, fun i m H2 hw => ?_⟩
  · obtain ⟨s2, d2⟩ := r1.newO (o := .dK []) hD
    exact ⟨s2, d2, ⟨rfl, rfl, upd_same, hDF, hDp, by simp, fun m xs q h => by cases h⟩, (fun b hb => absurd hb List.not_mem_nil), hg⟩
  · obtain ⟨rfl, hi, F2, qs, acc, w3, s2, d2, L, fr, hgo⟩ := hw
    have hA2 : ∀ q ∈ A, H2 q.1 = some q.2 := fun q hq => s2.h _ _ (hA q hq).2 (hA q hq).1
    obtain ⟨hstop, hgo'⟩ := hT F2 H2 hA2 s2.f s2.e s2.fp (let ⟨a, h, _⟩ := d2; ⟨_, h⟩) i
    by_cases hlt : i < xs.length
    · right
      have hx : xs[i]? = some xs[i] := List.getElem?_eq_getElem hlt
      obtain ⟨g1, g2⟩ := hgo' _ hx
      refine ⟨g1, fun H' => ∃ m', m' < xs.length - i ∧ (m' = xs.length - (i + 1) ∧ i + 1 ≤ xs.length ∧ ∃ F2 qs acc w3, Stp Z.p F1 H1 F2 H' ∧ Dr Z.p F2 H' w3 ∧ LLat K Z.p F2 H' D qs acc ∧ (∀ b ∈ qs, H1 b = none) ∧ dcGo tg ek ev (wipeS ds vs) (xs.drop (i + 1)) acc w3 = some (ys, w')), fun H' z => z, fun x H3 hy => ?_⟩
      obtain ⟨sm, F3, s3, hden⟩ := g2 x H3 hy
      have d3 : Dr Z.p F3 H3 w3 := by
        obtain ⟨a, q1, q2⟩ := d2
        exact ⟨a, sm _ _ q1, s3.f _ _ q2⟩
      have s13 := s2.trans s3
      have r3 := r1.step s13 d3
      have L3 := L.step s3
      rw [List.drop_eq_getElem_cons hlt] at hgo
      obtain ⟨ds1, htg, hgo⟩ := bind2 (show (tg (wipeS ds vs) xs[i]).bind _ = _ from hgo)
      obtain ⟨⟨kd, w4⟩, hk, hgo⟩ := bind2 hgo
      obtain ⟨q, hq, hgo⟩ := bind2 hgo
      obtain ⟨⟨y, w5⟩, he, hgo⟩ := bind2 hgo
      split at hgo
      · rename_i hc
        refine ⟨Z, F3, wipeS ds vs, w3, _, _, r3.wipe vs, hden, htg, fun σ2 r4 hsame hlen => ⟨?_, ?_⟩⟩
        · have e1 : L2.wipe σ2 vs = L2.wipe (L2.wipe σ vs) vs := wipe_same hlen fun i hi => hsame i fun z => hi (hj i z)
          rw [e1, wipe_wipe]
        · refine ⟨Z, F3, ds1, w3, _, _, r4, rfl, fun F4 H4 s4 d4 => ?_⟩
          dsimp only
          rw [if_pos rfl]
          have r5 := r4.step s4 d4
          refine ⟨Z, F4, ds1, _, _, _, r5, hk, fun u F5 H5 s5 d5 hu => ⟨Z, F5, ds1, _, _, _, r5.step s5 d5, he, fun b us F6 H6 s6 d6 b1 b2 b3 b4 b5 => ?_⟩⟩
          have s36 := s4.trans (s5.trans s6)
          have L6 := L3.step s36
          have hzl : (acc.1.zip (qs.map V.ref)).length = acc.1.length := by
            rw [List.length_zip, List.length_map, L.lk, Nat.min_self]
          have hb5 : H1 b = none := by
            cases z : H1 b with
            | none => rfl
            | some o =>
              have := (s13.trans (s4.trans s5)).h b o b4 z
              rw [b2] at this
              cases this
          have hbD : b ≠ D := fun z => by
            have := (L3.step (s4.trans s5)).hd
            rw [← z, b2] at this
            cases this
          have hbq : b ∉ qs := fun z => by
            obtain ⟨m, hm⟩ := List.mem_iff_getElem?.mp z
            have hml := (List.getElem?_eq_some_iff.mp hm).1
            obtain ⟨vs', q1, _⟩ := (L3.step (s4.trans s5)).ls m _ b (List.getElem?_eq_getElem (by rw [L.lx]; exact hml)) hm
            rw [b2] at q1
            cases q1
          refine ⟨_, q, key_of hq hu, L6.hd, by rw [hzl]; exact sz_lt hc.2, xs.length - (i + 1), by omega, rfl, hlt, F6, qs ++ [b], (acc.1 ++ [q], acc.2 ++ [y]), w5, ?_, ?_, ⟨by simp [L.lk], by simp [L.lx], ?_, L6.fd, L6.dp, ?_, fun m zs a h1 h2 => ?_⟩, fun c hc' => ?_, hgo⟩
          · have s16 := s13.trans s36
            refine ⟨s16.f, fun c o hb hz => ?_, fun c o hz => ?_, s16.n, s16.fp⟩
            · have hbD : c ≠ D := ne_of_none hz hD
              rw [upd_ne hbD]
              exact s16.h c o hb hz
            · rw [upd_ne (ne_of_none hz L6.fd)]
              exact s16.e c o hz
          · obtain ⟨a, q1, q2⟩ := d6
            exact ⟨a, by rw [upd_ne (Ne.symm hDp)]; exact q1, q2⟩
          · rw [upd_same, putK_zip (by rw [List.length_map]; exact L.lk)]
            unfold putKs putVs
            rw [if_neg (hasK_not hc.1), if_neg (hasK_not hc.1)]
            simp
          · have nd := L.nd
            rw [List.nodup_cons] at nd ⊢
            refine ⟨fun z => ?_, ?_⟩
            · rcases List.mem_append.mp z with z | z
              · exact nd.1 z
              · exact hbD (List.mem_singleton.mp z).symm
            · rw [List.nodup_append]
              refine ⟨nd.2, by simp, fun a ha c hc' => ?_⟩
              rw [List.mem_singleton.mp hc']
              rintro rfl
              exact hbq ha
          · have own6 : OwnL K Z.p F6 H6 a zs ∧ a ≠ D := by
              by_cases hm : m < qs.length
              · rw [List.getElem?_append_left hm] at h2
                rw [List.getElem?_append_left (by rw [L.lx]; exact hm)] at h1
                refine ⟨L6.ls m zs a h1 h2, fun z => ?_⟩
                have nd := L.nd
                rw [List.nodup_cons] at nd
                exact nd.1 (z ▸ List.mem_of_getElem? h2)
              · have hm1 := (List.getElem?_eq_some_iff.mp h2).1
                simp at hm1
                have em : m = qs.length := by omega
                subst em
                rw [List.getElem?_append_right (Nat.le_refl _), Nat.sub_self] at h2
                rw [List.getElem?_append_right (by rw [L.lx]; exact Nat.le_refl _), L.lx, Nat.sub_self] at h1
                cases h1
                cases h2
                exact ⟨⟨us, b1, b3, b4, b5⟩, hbD⟩
            obtain ⟨⟨vs', q1, q2, q3, q4⟩, hne⟩ := own6
            exact ⟨vs', by rw [upd_ne hne]; exact q1, q2, q3, q4⟩
          · rcases List.mem_append.mp hc' with z | z
            · exact fr c z
            · rw [List.mem_singleton.mp z]
              exact hb5
      · cases hgo
    · left
      refine ⟨hstop (by omega), ?_⟩
      have hnil : xs.drop i = [] := List.drop_eq_nil_of_le (by omega)
      rw [hnil] at hgo
      cases hgo
      refine k D qs F2 H2 (s1.trans s2) d2 L fun b hb => ?_
      rcases List.mem_cons.mp hb with rfl | hb
      · exact old hDp hD
      · refine old ?_ (fr b hb)
        rintro rfl
        have := fr _ hb
        obtain ⟨a, q1, _⟩ := r1.dr
        rw [this] at q1
        cases q1
section
variable {X : Cx} {kx vx tg iter : Expr} {scope : Scope} {own : List (Str × Nat)} {pos : Pos} {src : Ef} {gg : Eg} {ek : Ev} {ev : Ef} {js : List Nat}
theorem jl_dc (hc : X.calm = true) (hN : X.N.Nodup) (hi : JI X tg iter false src) (ok : BlkOk X.N X.env.scope scope own)
    (hg : ∀ (s : Shared) (H : Hp) (C : Addr) (cl : List (Str × Addr)) (fp : List Addr), JG (X.blk s H scope (compEnvC scope cl C X.env) fp) tg gg js)
    (hk : ∀ (s : Shared) (H : Hp) (C : Addr) (cl : List (Str × Addr)) (fp : List Addr), JE (X.blk s H scope (compEnvC scope cl C X.env) fp) kx ek)
    (hv : ∀ (s : Shared) (H : Hp) (C : Addr) (cl : List (Str × Addr)) (fp : List Addr), JF (X.blk s H scope (compEnvC scope cl C X.env) fp) vx ev)
    (hj : ∀ i ∈ js, i ∈ own.map (·.2) := by decide) (hs : ∀ x, foldedSetIterable iter X.env x = pure x := by intro _; rfl) :
    JLD X (.DictComp kx vx [⟨tg, iter, [], 0⟩] scope pos) (fDc src gg ek ev (own.map (·.2))) :=
  ⟨pe_weak (pe_dc hc hN hi.run ok (fun s H C cl fp => (hg s H C cl fp).run) (fun s H C cl fp => jts_nil.run) (fun s H C cl fp => (hk s H C cl fp).run) (fun s H C cl fp => (hv s H C cl fp).run) hs) fun σ H Q q => dc_of hj σ H Q q⟩
end
/-! a name gets a dict of lists -/
section
variable {K : PySem.W.Frag} {Z : Cfg} {F H F1 H1 : Hp} {σ : L2.St} {ds : List Sl} {w w1 : Wd}
theorem nodup_at {D : Addr} {qs : List Addr} (nd : (D :: qs).Nodup) {m n : Nat} (hm : m ≤ qs.length) (hn : n ≤ qs.length) (e : (D :: qs).getD m 0 = (D :: qs).getD n 0) : m = n := by
  have h1 : m < (D :: qs).length := by simpa using Nat.lt_succ_of_le hm
  have h2 : n < (D :: qs).length := by simpa using Nat.lt_succ_of_le hn
  rw [List.getD_eq_getElem?_getD, List.getD_eq_getElem?_getD, List.getElem?_eq_getElem h1, List.getElem?_eq_getElem h2] at e
  have e := Option.some.inj (show some _ = some _ from congrArg some e)
  dsimp only [Option.getD_some] at e
  have P := List.pairwise_iff_getElem.mp nd
  rcases Nat.lt_trichotomy m n with h | h | h
  · exact absurd e (P m n h1 h2 h)
  · exact h
  · exact absurd e.symm (P n m h2 h1 h)
theorem R.freshLL {x : LLD} {q : Addr} {qs : List Addr} (i : Nat) (rr : R K Z F H σ ds w) (s1 : Stp Z.p F H F1 H1) (d1 : Dr Z.p F1 H1 w1) (L : LLat K Z.p F1 H1 q qs x) (fr : ∀ b ∈ q :: qs, H b = none) : R K Z F1 H1 (σ.set i (some (.ref q))) (ds.set i (.ll x.1 x.2)) w1 := by
  have r1 := rr.step s1 d1
  obtain ⟨α, he0⟩ := rr.env'
  have he := he0.step s1
  have h0 : ∀ b ∈ q :: qs, b ≠ Z.p → Z.H0 b = none := fun b hb hp => by
    have nm : b ∉ Z.M := fun z => by
      obtain ⟨⟨o, ho⟩, _⟩ := rr.hm _ z
      rw [fr b hb] at ho
      cases ho
    cases z : Z.H0 b with
    | none => rfl
    | some o =>
      have := rr.keep b o hp nm z
      rw [fr b hb] at this
      cases this
  have hlx := L.lx
  have mem : ∀ n, n ≤ qs.length → (q :: qs).getD n 0 ∈ q :: qs := fun n hn => by
    have h1 : n < (q :: qs).length := by simpa using Nat.lt_succ_of_le hn
    rw [List.getD_eq_getElem?_getD, List.getElem?_eq_getElem h1]
    exact List.getElem_mem h1
  have apart : ∀ p n, isOwn ds p → n ≤ qs.length → α p ≠ (q :: qs).getD n 0 := fun p n hp hn e => by
    obtain ⟨o, g, _⟩ := he0.live hp
    rw [e, fr _ (mem n hn)] at g
    cases g
  have ne : ∀ p : Nat × Nat, i ≠ p.1 → isOwn (ds.set i (.ll x.1 x.2)) p → isOwn ds p := fun p hj ⟨t, h1, h2⟩ => by
    rw [List.getElem?_set_ne hj] at h1
    exact ⟨t, h1, h2⟩
  have at0 : ∀ p : Nat × Nat, i = p.1 → isOwn (ds.set i (.ll x.1 x.2)) p → p.2 ≤ qs.length := fun p hj ⟨t, h1, h2⟩ => by
    rw [← hj, List.getElem?_set, if_pos rfl] at h1
    split at h1
    · cases h1
      have h3 : p.2 ≤ x.2.length := of_decide_eq_true h2
      omega
    · cases h1
  refine ⟨r1.ex, r1.fp, r1.dr, r1.pm, r1.hm, r1.m0, r1.keep, r1.nw, r1.f0, by rw [List.length_set, List.length_set]; exact r1.len, fun p => if i = p.1 then (q :: qs).getD p.2 0 else α p, fun a b ha hb e => ?_, fun j s e => ?_⟩
  · dsimp only at e
    by_cases h1 : i = a.1
    · by_cases h2 : i = b.1
      · rw [if_pos h1, if_pos h2] at e
        exact Prod.ext (h1.symm.trans h2) (nodup_at L.nd (at0 a h1 ha) (at0 b h2 hb) e)
      · rw [if_pos h1, if_neg h2] at e
        exact absurd e.symm (apart b a.2 (ne b h2 hb) (at0 a h1 ha))
    · by_cases h2 : i = b.1
      · rw [if_neg h1, if_pos h2] at e
        exact absurd e (apart a b.2 (ne a h1 ha) (at0 b h2 hb))
      · rw [if_neg h1, if_neg h2] at e
        exact he.1 a b (ne a h1 ha) (ne b h2 hb) e
  · dsimp only
    rw [List.getElem?_set] at e
    by_cases hj : i = j
    · subst hj
      rw [if_pos rfl] at e
      simp only [if_pos]
      split at e
      · rename_i hi
        cases e
        refine ⟨by rw [List.getElem?_set_self (by rw [r1.len]; exact hi)]; rfl, ⟨by rw [L.lk, L.lx], ?_, L.fd, L.dp, h0 _ (List.mem_cons_self ..) L.dp⟩, fun m xs hm => ?_⟩
        · have e1 : ((List.range x.2.length).map fun m => V.ref ((q :: qs).getD (m + 1) 0)) = qs.map V.ref := by
            refine List.ext_getElem (by simp [hlx]) fun n h1 h2 => ?_
            simp at h2
            simp [h2]
          rw [e1]
          exact L.hd
        · have hml := (List.getElem?_eq_some_iff.mp hm).1
          have hq : qs[m]? = some (qs[m]'(by omega)) := List.getElem?_eq_getElem _
          have e2 : (q :: qs).getD (m + 1) 0 = qs[m]'(by omega) := by
            rw [List.getD_eq_getElem?_getD, List.getElem?_cons_succ, hq]
            rfl
          dsimp only
          rw [e2]
          have o := L.ls m xs _ hm hq
          obtain ⟨vs, _, _, q3, _⟩ := id o
          exact ⟨o, h0 _ (List.mem_cons_of_mem _ (List.getElem_mem _)) q3⟩
      · cases e
    · rw [if_neg hj] at e
      simp only [if_neg hj]
      have z := he.2 j s e
      have e2 : (σ.set i (some (V.ref q)))[j]? = σ[j]? := List.getElem?_set_ne hj
      cases s with
      | no => trivial
      | d x =>
        obtain ⟨u, h1, h2⟩ := z
        exact ⟨u, by rw [e2]; exact h1, h2⟩
      | own xs =>
        obtain ⟨h1, h2, h3⟩ := z
        exact ⟨by rw [e2]; exact h1, h2, h3⟩
      | mu k xs =>
        obtain ⟨h1, h2, h3⟩ := z
        exact ⟨by rw [e2]; exact h1, h2, h3⟩
      | oo x =>
        obtain ⟨h1, h2, h3⟩ := z
        exact ⟨by rw [e2]; exact h1, h2, h3⟩
      | ll ks xss => exact SlR.ll_same z e2 (fun _ => rfl) (fun _ _ => rfl) (fun _ _ z => z) (Same.refl _)
end
section
variable {X : Cx} {e : Expr} {es : List Expr} {f : Ell} {g : Ep} {pos : Pos}
def pLL (f : Ell) (g : Ep) : Ep := fun ds w => (f ds w).bind fun d => (g ds d.2).bind fun r => some (.ll d.1.1 d.1.2 :: r.1, r.2)
theorem jp_ll (h : JLD X e f) (hr : JP X es g) (hs : starEach (e :: es) X.env = (false, eval e X.env) :: starEach es X.env := by rfl) : JP X (e :: es) (pLL f g) := ⟨pa_weak (pa_cons h.run hr.run hs) fun σ H Q ⟨Z, F, ds, τ, ts0, w, ts, w', hl, rr, hf, k⟩ => by
  obtain ⟨d, hd, hf⟩ := bind2 hf
  obtain ⟨r, hr, hf⟩ := bind2 hf
  cases hf
  refine ⟨Z, F, ds, w, _, _, rr.front hl, hd, fun q qs F1 H1 s1 d1 h1 h2 => ⟨Z, F1, ds, τ ++ [some (.ref q)], ts0 ++ [.ll d.1.1 d.1.2], _, _, _, hl, ?_, hr, fun vs F2 H2 s2 hlen r2 => k (.ref q :: vs) F2 H2 (s1.f.trans s2) (by rw [List.length_cons, List.length_cons, hlen]) ?_⟩⟩
  · have z := R.freshLL (σ ++ τ).length (rr.none1) s1 d1 h1 h2
    rw [set_last, rr.len, set_last, List.append_assoc, List.append_assoc] at z
    exact z
  · rw [List.append_assoc τ, List.append_assoc ts0] at r2
    exact r2⟩
def sSetLL (i : Nat) (f : Ell) : Es := fun ds w => (f ds w).bind fun d => some (.nx (ds.set i (.ll d.1.1 d.1.2)) d.2)
theorem js_setLL (i : Nat) {x : Str} {pos' : Pos} (hN : X.N.Nodup) (he : JLD X e f) (hi : X.N[i]? = some x := by rfl) (hx : Loc X.env.scope x := by first | exact Or.inl rfl | exact Or.inr rfl) (hs : swapsWith e (some (.Name x pos')) pos.line X.env = pure false := by rfl) (hf : X.fn x = true ∨ X.env.scope.names.lookup x = some .local := by first | exact .inl rfl | exact .inr rfl | assumption) :
    JS X (.Assign [.Name x pos'] e pos) (sSetLL i f) := ⟨ps_weak (ps_set hN hi hx he.run hs hf) fun D σ H ⟨Z, F, ds, w, o, rr, hf, k⟩ => by
  obtain ⟨d, hd, hf⟩ := bind2 hf
  cases hf
  exact ⟨Z, F, ds, w, _, _, rr, hd, fun q qs F1 H1 s1 d1 h1 h2 => k _ F1 H1 s1.f (R.freshLL i rr s1 d1 h1 h2)⟩⟩
end
end J
namespace JZ
open PySem PyProof.Rows L2
/-! enumerate of a zip of two lists: the zip's own pair may be out, or gone -/
abbrev Zo (h : Heap) (z I O : Addr) (v : Value) (f : Bool) : Prop := h.get? z = some { cls := .type "zip", dict := none, data := .fields #[v, .bool f, .bool false, .ref I, .ref O], slots := #[] }
section
variable {prog : Program} {w : World} {A : Around} {E : Value → Shared → Prop} {s : Shared} {z I O p1 p2 a b T : Addr} {f : Bool} {i : Nat} {xs ys : Array Value} {x y u v : Value}
theorem gone {T : Addr} {Q : Option Obj → Shared → Prop} (ho : s.heap.get? T = none) (h : Q none s) : wpAny (model prog w) A (loadIfAlive T) Q E s := by
  have q : Q (s.heap.get? T) s := by rw [ho]; exact h
  exact fun _ _ _ => q
theorem free_gone {Q : Bool → Shared → Prop} (zz : Zo s.heap z I O (rawInt T) f) (dd : s.heap.get? T = none) (h : Q true s) : wpAny (model prog w) A (Builtin.SmallTypes.ownedTupleIsFree (.ref z)) Q E s := by
  delta Builtin.SmallTypes.ownedTupleIsFree
  refine wpAny_bind (wpAny_field zz rfl (x := rawInt T) rfl ?_)
  show wpAny _ A (loadIfAlive ((T : Int).toNat) >>= _) _ _ s
  rw [Int.toNat_natCast]
  refine wpAny_bind (gone dd ?_)
  simp only [Option.isNone_none, if_true]
  exact wpAny_pure h
theorem next_gone {Q : Value → Shared → Prop} (D : ZipApart z I O p1 p2 a b) (zz : Zo s.heap z I O (rawInt T) f) (dd : s.heap.get? T = none) (hI : IsPair s.heap I (.ref p1) (.ref p2)) (hO : IsPair s.heap O u v)
    (h1 : s.heap.IsListIter p1 a i) (h2 : s.heap.IsListIter p2 b i) (l1 : s.heap.IsList a xs) (l2 : s.heap.IsList b ys) (ex : xs[i]? = some x) (ey : ys[i]? = some y)
    (hQ : ∀ h', Zo h' z I O (rawInt s.heap.objs.size) false → IsPair h' O x y → h'.IsListIter p1 a (i + 1) → h'.IsListIter p2 b (i + 1) → IsPair h' s.heap.objs.size x y → h'.objs.size = s.heap.objs.size + 1 →
      (∀ c o, c ≠ z → c ≠ O → c ≠ p1 → c ≠ p2 → s.heap.get? c = some o → h'.get? c = some o) → Q (.ref s.heap.objs.size) { s with heap := h' }) :
    wpAny (model prog w) A (Builtin.«zip.__next__» ⟨[.ref z], []⟩) (fun fin s' => ∃ v, fin = .done (.ret v) ∧ Q v s') E s := by
  obtain ⟨hp, g, d, tk, os⟩ := s
  show wpAny _ A (field (.ref z) 2 >>= _) _ _ _
  refine wpAny_bind (wpAny_field zz rfl (x := .bool false) rfl ?_)
  show wpAny _ A (field (.ref z) 3 >>= _) _ _ _
  refine wpAny_bind (wpAny_field zz rfl (x := .ref I) rfl ?_)
  refine wpAny_bind (wpAny_seqItems hI rfl ?_)
  show wpAny _ A (Builtin.SmallTypes.ownedTupleIsFree (.ref z) >>= _) _ _ _
  refine wpAny_bind (free_gone zz dd ?_)
  simp only [if_true]
  refine wpAny_bind (wpAny_rule ?_)
  refine wpAny_bind (wpAny_field zz rfl (x := .ref O) rfl ?_)
  refine wpAny_bind (wpAny_setField_rec zz (by simp) fun g0 z0 s0 => ?_)
  replace z0 : Zo g0 z I O .ellipsis f := z0
  replace s0 : Heap.SameBut z hp g0 := s0
  refine wpAny_bind ?_
  simp only [List.zipIdx_nil, List.zipIdx_cons, List.forIn_nil, List.forIn_cons]
  refine wpAny_bind (wpAny_bind (wpAny_onRaise ?_))
  show wpAny _ A (Builtin.SmallTypes.nextOf (.ref p1) >>= _) _ _ ⟨g0, g, d, tk, os⟩
  have h1a : g0.IsListIter p1 a i := Heap.IsListIter.extBut h1 s0.extBut D.i1z
  have l1a : g0.IsList a xs := Heap.IsList.extBut l1 s0.extBut D.l1z
  refine wpAny_bind (wpAny_nextOf_list_item (s := ⟨g0, g, d, tk, os⟩) h1a l1a ex fun q1 n1 t1 => wpAny_pure ?_)
  replace t1 : Heap.SameBut p1 g0 q1 := t1
  have U1 : IsPair q1 O u v := t1.extBut _ _ D.TOi1 (s0.extBut _ _ D.TOz hO)
  refine wpAny_bind (wpAny_seqItems (s := ⟨q1, g, d, tk, os⟩) U1 rfl ?_)
  refine wpAny_bind (wpAny_updateSeq_pair (s := ⟨q1, g, d, tk, os⟩) U1 fun g1 T1 s1 => ?_)
  replace T1 : IsPair g1 O x v := T1
  replace s1 : Heap.SameBut O q1 g1 := s1
  refine wpAny_bind (wpAny_letGo (wpAny_pure ?_))
  refine wpAny_bind (wpAny_bind (wpAny_onRaise ?_))
  show wpAny _ A (Builtin.SmallTypes.nextOf (.ref p2) >>= _) _ _ ⟨g1, g, d, tk, os⟩
  have h2a : g1.IsListIter p2 b i := ((Heap.IsListIter.extBut h2 s0.extBut D.i2z).extBut t1.extBut D.i12.symm).extBut s1.extBut D.TOi2.symm
  have l2a : g1.IsList b ys := ((Heap.IsList.extBut l2 s0.extBut D.l2z).extBut t1.extBut D.l2i1).extBut s1.extBut D.l2TO
  refine wpAny_bind (wpAny_nextOf_list_item (s := ⟨g1, g, d, tk, os⟩) h2a l2a ey fun q2 n2 t2 => wpAny_pure ?_)
  replace t2 : Heap.SameBut p2 g1 q2 := t2
  have U2 : IsPair q2 O x v := t2.extBut _ _ D.TOi2 T1
  refine wpAny_bind (wpAny_seqItems (s := ⟨q2, g, d, tk, os⟩) U2 rfl ?_)
  refine wpAny_bind (wpAny_updateSeq_pair (s := ⟨q2, g, d, tk, os⟩) U2 fun g2 T2 s2 => ?_)
  replace T2 : IsPair g2 O x y := T2
  replace s2 : Heap.SameBut O q2 g2 := s2
  refine wpAny_bind (wpAny_letGo (wpAny_pure (wpAny_pure ?_)))
  refine wpAny_bind (wpAny_seqItems (s := ⟨g2, g, d, tk, os⟩) T2 rfl ?_)
  refine wpAny_bind (wpAny_newTuple ?_)
  have sz : g2.objs.size = hp.objs.size := by rw [s2.1, t2.1, s1.1, t1.1, s0.1]
  have zg : Zo g2 z I O .ellipsis f := s2.extBut _ _ D.TOz.symm (t2.extBut _ _ D.i2z.symm (s1.extBut _ _ D.TOz.symm (t1.extBut _ _ D.i1z.symm z0)))
  have kk : ∀ c o, c ≠ z → c ≠ O → c ≠ p1 → c ≠ p2 → hp.get? c = some o → g2.get? c = some o := fun c o c1 c2 c3 c4 e =>
    s2.extBut _ _ c2 (t2.extBut _ _ c4 (s1.extBut _ _ c2 (t1.extBut _ _ c3 (s0.extBut _ _ c1 e))))
  have j1 : g2.IsListIter p1 a (i + 1) := ((Heap.IsListIter.extBut n1 s1.extBut D.TOi1.symm).extBut t2.extBut D.i12).extBut s2.extBut D.TOi1.symm
  have j2 : g2.IsListIter p2 b (i + 1) := Heap.IsListIter.extBut n2 s2.extBut D.TOi2.symm
  have zl : z < g2.objs.size := Heap.lt_size zg
  show wpAny _ A (Builtin.SmallTypes.ownedTupleHandOut (.ref z) (.ref g2.objs.size) >>= _) _ _ ⟨g2.push { cls := .type "tuple", data := .seq #[x, y] }, g, d, tk, os⟩
  refine wpAny_bind ?_
  delta Builtin.SmallTypes.ownedTupleHandOut
  have z6 : Zo (g2.push { cls := .type "tuple", data := .seq #[x, y] }) z I O .ellipsis f := Heap.get?_push_of_some _ zg
  refine wpAny_bind (wpAny_setField_rec z6 (by simp) fun g7 z7 s7 => ?_)
  replace z7 : Zo g7 z I O (rawInt g2.objs.size) f := z7
  refine wpAny_setField_rec z7 (by simp) fun g8 z8 s8 => ?_
  replace z8 : Zo g8 z I O (rawInt g2.objs.size) false := z8
  replace s7 : Heap.SameBut z (g2.push { cls := .type "tuple", data := .seq #[x, y] }) g7 := s7
  replace s8 : Heap.SameBut z g7 g8 := s8
  have up : ∀ c o, c ≠ z → g2.get? c = some o → g8.get? c = some o := fun c o c1 e => s8.extBut _ _ c1 (s7.extBut _ _ c1 (Heap.get?_push_of_some _ e))
  have P8 : IsPair g8 g2.objs.size x y := s8.extBut _ _ (Nat.ne_of_gt zl) (s7.extBut _ _ (Nat.ne_of_gt zl) (Heap.get?_push_size _ rfl))
  have e8 : g8.objs.size = g2.objs.size + 1 := by rw [s8.1, s7.1, Heap.size_push]
  rw [sz] at z8 P8 e8
  refine wpAny_pure ⟨_, rfl, ?_⟩
  show Q (.ref g2.objs.size) ⟨g8, g, d, tk, os⟩
  rw [sz]
  exact hQ g8 z8 (up _ _ D.TOz T2) (j1.at fun o e => up _ o D.i1z e) (j2.at fun o e => up _ o D.i2z e) P8 e8 fun c o c1 c2 c3 c4 e => up c o c1 (kk c o c1 c2 c3 c4 e)
theorem end_gone {Q : Fin → Shared → Prop} (hh : A.handled = none) (D : ZipApart z I O p1 p2 a b) (zz : Zo s.heap z I O (rawInt T) f) (dd : s.heap.get? T = none) (hI : IsPair s.heap I (.ref p1) (.ref p2)) (hO : IsPair s.heap O u v)
    (h1 : s.heap.IsListIter p1 a i) (h2 : s.heap.IsListIter p2 b i) (l1 : s.heap.IsList a xs) (l2 : s.heap.IsList b ys) (he : xs[i]? = none ∨ ys[i]? = none)
    (hE : ∀ h' e, (∀ c o, c ≠ z → c ≠ O → c ≠ p1 → c ≠ p2 → s.heap.get? c = some o → h'.get? c = some o) → (∃ o, h'.get? e = some o ∧ o.cls = .type "StopIteration") → E (.ref e) { s with heap := h' }) :
    wpAny (model prog w) A (Builtin.«zip.__next__» ⟨[.ref z], []⟩) Q E s := by
  obtain ⟨hp, g, d, tk, os⟩ := s
  show wpAny _ A (field (.ref z) 2 >>= _) _ _ _
  refine wpAny_bind (wpAny_field zz rfl (x := .bool false) rfl ?_)
  show wpAny _ A (field (.ref z) 3 >>= _) _ _ _
  refine wpAny_bind (wpAny_field zz rfl (x := .ref I) rfl ?_)
  refine wpAny_bind (wpAny_seqItems hI rfl ?_)
  show wpAny _ A (Builtin.SmallTypes.ownedTupleIsFree (.ref z) >>= _) _ _ _
  refine wpAny_bind (free_gone zz dd ?_)
  simp only [if_true]
  refine wpAny_bind (wpAny_rule ?_)
  refine wpAny_bind (wpAny_field zz rfl (x := .ref O) rfl ?_)
  refine wpAny_bind (wpAny_setField_rec zz (by simp) fun g0 z0 s0 => ?_)
  replace z0 : Zo g0 z I O .ellipsis f := z0
  replace s0 : Heap.SameBut z hp g0 := s0
  refine wpAny_bind ?_
  simp only [List.zipIdx_nil, List.zipIdx_cons, List.forIn_nil, List.forIn_cons]
  refine wpAny_bind (wpAny_bind (wpAny_onRaise ?_))
  show wpAny _ A (Builtin.SmallTypes.nextOf (.ref p1) >>= _) _ _ ⟨g0, g, d, tk, os⟩
  have h1a : g0.IsListIter p1 a i := Heap.IsListIter.extBut h1 s0.extBut D.i1z
  have l1a : g0.IsList a xs := Heap.IsList.extBut l1 s0.extBut D.l1z
  cases ex : xs[i]? with
  | none =>
    refine wpAny_bind (wpAny_nextOf_list_end (s := ⟨g0, g, d, tk, os⟩) hh h1a l1a ex fun q e hq he => ?_)
    replace hq : Heap.ExtBut p1 g0 q := hq
    obtain ⟨oe, oe1, oe2⟩ := he
    replace oe1 : q.get? e = some oe := oe1
    have zq : Zo q z I O .ellipsis f := hq _ _ D.i1z.symm z0
    have ez : e ≠ z := fun c => by subst c; rw [zq] at oe1; cases oe1; simp at oe2
    refine wpAny_setField_rec (s := ⟨q, g, d, tk, os⟩) zq (by simp) fun q' _ t' => ?_
    replace t' : Heap.SameBut z q q' := t'
    exact hE q' e (fun c o c1 c2 c3 c4 e => t'.extBut _ _ c1 (hq _ _ c3 (s0.extBut _ _ c1 e))) ⟨oe, t'.extBut _ _ ez oe1, oe2⟩
  | some x =>
    have ey : ys[i]? = none := by
      rcases he with h | h
      · rw [ex] at h
        cases h
      · exact h
    refine wpAny_bind (wpAny_nextOf_list_item (s := ⟨g0, g, d, tk, os⟩) h1a l1a ex fun q1 n1 t1 => wpAny_pure ?_)
    replace t1 : Heap.SameBut p1 g0 q1 := t1
    have U1 : IsPair q1 O u v := t1.extBut _ _ D.TOi1 (s0.extBut _ _ D.TOz hO)
    refine wpAny_bind (wpAny_seqItems (s := ⟨q1, g, d, tk, os⟩) U1 rfl ?_)
    refine wpAny_bind (wpAny_updateSeq_pair (s := ⟨q1, g, d, tk, os⟩) U1 fun g1 T1 s1 => ?_)
    replace s1 : Heap.SameBut O q1 g1 := s1
    refine wpAny_bind (wpAny_letGo (wpAny_pure ?_))
    refine wpAny_bind (wpAny_bind (wpAny_onRaise ?_))
    show wpAny _ A (Builtin.SmallTypes.nextOf (.ref p2) >>= _) _ _ ⟨g1, g, d, tk, os⟩
    have h2a : g1.IsListIter p2 b i := ((Heap.IsListIter.extBut h2 s0.extBut D.i2z).extBut t1.extBut D.i12.symm).extBut s1.extBut D.TOi2.symm
    have l2a : g1.IsList b ys := ((Heap.IsList.extBut l2 s0.extBut D.l2z).extBut t1.extBut D.l2i1).extBut s1.extBut D.l2TO
    refine wpAny_bind (wpAny_nextOf_list_end (s := ⟨g1, g, d, tk, os⟩) hh h2a l2a ey fun q e hq he => ?_)
    replace hq : Heap.ExtBut p2 g1 q := hq
    obtain ⟨oe, oe1, oe2⟩ := he
    replace oe1 : q.get? e = some oe := oe1
    have zq : Zo q z I O .ellipsis f := hq _ _ D.i2z.symm (s1.extBut _ _ D.TOz.symm (t1.extBut _ _ D.i1z.symm z0))
    have ez : e ≠ z := fun c => by subst c; rw [zq] at oe1; cases oe1; simp at oe2
    refine wpAny_setField_rec (s := ⟨q, g, d, tk, os⟩) zq (by simp) fun q' _ t' => ?_
    replace t' : Heap.SameBut z q q' := t'
    exact hE q' e (fun c o c1 c2 c3 c4 e => t'.extBut _ _ c1 (hq _ _ c4 (s1.extBut _ _ c2 (t1.extBut _ _ c3 (s0.extBut _ _ c1 e))))) ⟨oe, t'.extBut _ _ ez oe1, oe2⟩
end
end JZ
namespace JZ
open PySem PyProof.Rows L2
/-- a zip that has given i pairs -/
def Zs (h : Heap) (z I O p1 p2 a b : Addr) (i : Nat) : Prop := ∃ v f, (v = .none ∧ f = false ∨ ∃ T : Addr, v = rawInt T ∧ T ≠ z ∧ T ≠ p1 ∧ T ≠ p2) ∧ Zo h z I O v f ∧ IsPair h I (.ref p1) (.ref p2) ∧ (∃ x y, IsPair h O x y) ∧ h.IsListIter p1 a i ∧ h.IsListIter p2 b i
theorem Zs.keep {h h' : Heap} {z I O p1 p2 a b : Addr} {i : Nat} (q : Zs h z I O p1 p2 a b i) (k : ∀ c ∈ [z, I, O, p1, p2], ∀ o, h.get? c = some o → h'.get? c = some o) : Zs h' z I O p1 p2 a b i := by
  obtain ⟨v, f, hv, h1, h2, ⟨x, y, h3⟩, h4, h5⟩ := q
  exact ⟨v, f, hv, k z (by simp) _ h1, k I (by simp) _ h2, ⟨x, y, k O (by simp) _ h3⟩, h4.at fun o e => k p1 (by simp) o e, h5.at fun o e => k p2 (by simp) o e⟩
section
variable {prog : Program} {w : World} {A : Around} {E : Value → Shared → Prop} {s : Shared} {z I O p1 p2 a b : Addr} {i : Nat} {xs ys : Array Value} {x y : Value}
theorem next_zs {Q : Value → Shared → Prop} (D : ZipApart z I O p1 p2 a b) (q : Zs s.heap z I O p1 p2 a b i) (l1 : s.heap.IsList a xs) (l2 : s.heap.IsList b ys) (ex : xs[i]? = some x) (ey : ys[i]? = some y)
    (hQ : ∀ h', Zs h' z I O p1 p2 a b (i + 1) → IsPair h' s.heap.objs.size x y → h'.objs.size = s.heap.objs.size + 1 → (∀ c o, c ≠ z → c ≠ O → c ≠ p1 → c ≠ p2 → s.heap.get? c = some o → h'.get? c = some o) → Q (.ref s.heap.objs.size) { s with heap := h' }) :
    wpAny (model prog w) A (Builtin.SmallTypes.nextOf (.ref z)) Q E s := by
  obtain ⟨v, f, hv, h1, h2, ⟨u, u', h3⟩, h4, h5⟩ := q
  have lt : ∀ {c : Addr} {o : Obj}, s.heap.get? c = some o → s.heap.objs.size ≠ c := fun e => Nat.ne_of_gt (Heap.lt_size e)
  have n0 := lt h1
  have n1 : s.heap.objs.size ≠ p1 := by obtain ⟨o, e, _⟩ := h4; exact lt e
  have n2 : s.heap.objs.size ≠ p2 := by obtain ⟨o, e, _⟩ := h5; exact lt e
  have hT : s.TypeIs (.ref z) "zip" := ⟨_, h1, rfl⟩
  have main : wpAny (model prog w) A.in1 (Builtin.«zip.__next__» ⟨[.ref z], []⟩) (fun fin s' => ∃ v, fin = .done (.ret v) ∧ Q v s') E s := by
    rcases hv with ⟨rfl, rfl⟩ | ⟨T, rfl, t1, t2, t3⟩
    · exact zip_next_item D h1 h2 h3 h4 h5 l1 l2 ex ey fun h' a1 a2 a3 a4 a5 a6 a7 => hQ h' ⟨_, false, .inr ⟨_, rfl, n0, n1, n2⟩, a1, a7 I _ D.TIz D.TITO D.TIi1 D.TIi2 h2, ⟨_, _, a2⟩, a3, a4⟩ a5 a6 a7
    · cases hd : s.heap.get? T with
      | none => exact next_gone D h1 hd h2 h3 h4 h5 l1 l2 ex ey fun h' a1 a2 a3 a4 a5 a6 a7 => hQ h' ⟨_, false, .inr ⟨_, rfl, n0, n1, n2⟩, a1, a7 I _ D.TIz D.TITO D.TIi1 D.TIi2 h2, ⟨_, _, a2⟩, a3, a4⟩ a5 a6 a7
      | some oT => exact zip_next_item_held D h1 hd h2 h4 h5 l1 l2 ex ey fun h' a1 a3 a4 a5 a6 a7 => hQ h' ⟨_, true, .inr ⟨T, rfl, t1, t2, t3⟩, a1, a7 I _ D.TIz D.TIi1 D.TIi2 h2, ⟨_, _, a7 O _ D.TOz D.TOi1 D.TOi2 h3⟩, a3, a4⟩ a5 a6 fun c o c1 _ c3 c4 e => a7 c o c1 c3 c4 e
  delta Builtin.SmallTypes.nextOf
  exact wpAny_bind (wpAny_callSpecial?_slot (name := Str.ofString "__next__") hT F.slot_zip_next
    (wpAny_call_entry F.slot_zip_next hT F.entry_zip_next (wpAny_mono main (fun fin s' ⟨v, e, q⟩ => ⟨v, e, wpAny_pure q⟩) fun _ _ q => q) (F.args_zip_next_1 _)))
theorem end_zs {Q : Value → Shared → Prop} (hh : A.handled = none) (D : ZipApart z I O p1 p2 a b) (q : Zs s.heap z I O p1 p2 a b i) (l1 : s.heap.IsList a xs) (l2 : s.heap.IsList b ys) (he : xs[i]? = none ∨ ys[i]? = none)
    (hE : ∀ h' e, (∀ c o, c ≠ z → c ≠ O → c ≠ p1 → c ≠ p2 → s.heap.get? c = some o → h'.get? c = some o) → (∃ o, h'.get? e = some o ∧ o.cls = .type "StopIteration") → E (.ref e) { s with heap := h' }) :
    wpAny (model prog w) A (Builtin.SmallTypes.nextOf (.ref z)) Q E s := by
  obtain ⟨v, f, hv, h1, h2, ⟨u, u', h3⟩, h4, h5⟩ := q
  have hT : s.TypeIs (.ref z) "zip" := ⟨_, h1, rfl⟩
  have main : ∀ Q', wpAny (model prog w) A.in1 (Builtin.«zip.__next__» ⟨[.ref z], []⟩) Q' E s := by
    intro Q'
    rcases hv with ⟨rfl, rfl⟩ | ⟨T, rfl, t1, t2, t3⟩
    · exact zip_next_end hh D h1 h2 h3 h4 h5 l1 l2 he hE
    · cases hd : s.heap.get? T with
      | none => exact end_gone hh D h1 hd h2 h3 h4 h5 l1 l2 he hE
      | some oT => exact zip_next_end_held hh D h1 hd h2 h4 h5 l1 l2 he fun h' e k q => hE h' e (fun c o c1 _ c3 c4 e => k c o c1 c3 c4 e) q
  delta Builtin.SmallTypes.nextOf
  exact wpAny_bind (wpAny_callSpecial?_slot (name := Str.ofString "__next__") hT F.slot_zip_next
    (wpAny_call_entry F.slot_zip_next hT F.entry_zip_next (main _) (F.args_zip_next_1 _)))
end
end JZ
namespace JZ
open PySem PyProof.Rows L2
section
variable {prog : Program} {w : World} {A : Around} {E : Value → Shared → Prop} {s : Shared} {e z I O p1 p2 a b : Addr} {i : Nat} {xs ys : Array Value} {x y old : Value}
theorem en_next {Q : Value → Shared → Prop} (D : ZipApart z I O p1 p2 a b) (ee : IsEnum s.heap e z ((i : Nat) : Int) old) (q : Zs s.heap z I O p1 p2 a b i) (l1 : s.heap.IsList a xs) (l2 : s.heap.IsList b ys) (ex : xs[i]? = some x) (ey : ys[i]? = some y)
    (ne : ∀ c ∈ [z, I, O, p1, p2], c ≠ e)
    (hQ : ∀ h' tk, IsEnumOut h' e z (((i : Nat) : Int) + 1) (.ref s.heap.objs.size) (s.heap.objs.size + 1) → Zs h' z I O p1 p2 a b (i + 1) → IsPair h' s.heap.objs.size x y →
      h'.get? (s.heap.objs.size + 1) = some { cls := .type "tuple", data := .seq #[.int i tk, .ref s.heap.objs.size] } → h'.objs.size = s.heap.objs.size + 2 →
      (∀ c o, c ≠ e → c ≠ z → c ≠ O → c ≠ p1 → c ≠ p2 → s.heap.get? c = some o → h'.get? c = some o) → Q (.ref (s.heap.objs.size + 1)) { s with heap := h', toks := tk + 1 }) :
    wpAny (model prog w) A (Builtin.«enumerate.__next__» ⟨[.ref e], []⟩) (fun fin s' => ∃ v, fin = .done (.ret v) ∧ Q v s') E s := by
  obtain ⟨hp, g, d, tk, os⟩ := s
  have ze := ne z (by simp)
  have oe := ne O (by simp)
  have pe1 := ne p1 (by simp)
  have pe2 := ne p2 (by simp)
  show wpAny _ A (field (.ref e) 2 >>= _) _ _ _
  refine wpAny_bind (wpAny_field ee rfl (x := .ref z) rfl ?_)
  refine wpAny_bind (next_zs D q l1 l2 ex ey fun k1 q1 pr sz1 kp1 => ?_)
  have e1 : IsEnum k1 e z ((i : Nat) : Int) old := kp1 e _ (Ne.symm ze) (Ne.symm oe) (Ne.symm pe1) (Ne.symm pe2) ee
  replace pr : IsPair k1 hp.objs.size x y := pr
  replace sz1 : k1.objs.size = hp.objs.size + 1 := sz1
  have kp : ∀ c o, c ≠ z → c ≠ O → c ≠ p1 → c ≠ p2 → hp.get? c = some o → k1.get? c = some o := kp1
  show wpAny _ A (field (.ref e) 3 >>= _) _ _ ⟨k1, g, d, tk, os⟩
  refine wpAny_bind (wpAny_field e1 rfl (x := rawInt i) rfl ?_)
  show wpAny _ A (field (.ref e) 4 >>= _) _ _ ⟨k1, g, d, tk, os⟩
  refine wpAny_bind (wpAny_field e1 rfl (x := .none) rfl ?_)
  show wpAny _ A (mkInt i >>= _) _ _ ⟨k1, g, d, tk, os⟩
  refine wpAny_bind (wpAny_mkInt ?_)
  show wpAny _ A (setField (.ref e) 3 (rawInt ((i : Int) + 1)) >>= _) _ _ ⟨k1, g, d, tk + 1, os⟩
  refine wpAny_bind (wpAny_setField_rec e1 (by simp) fun k2 e2 t2 => ?_)
  replace t2 : Heap.SameBut e k1 k2 := t2
  replace e2 : IsEnum k2 e z ((i : Int) + 1) old := e2
  show wpAny _ A (setField (.ref e) 4 .none >>= _) _ _ ⟨k2, g, d, tk + 1, os⟩
  refine wpAny_bind (wpAny_setField_rec e2 (by simp) fun k3 e3 t3 => ?_)
  replace t3 : Heap.SameBut e k2 k3 := t3
  replace e3 : IsEnum k3 e z ((i : Int) + 1) old := e3
  show wpAny _ A (newTuple [.int i tk, .ref hp.objs.size] >>= _) _ _ ⟨k3, g, d, tk + 1, os⟩
  refine wpAny_bind (wpAny_newTuple ?_)
  have e4 : IsEnum (k3.push { cls := .type "tuple", data := .seq #[.int i tk, .ref hp.objs.size] }) e z ((i : Int) + 1) old := Heap.get?_push_of_some _ e3
  have sz3 : k3.objs.size = hp.objs.size + 1 := by rw [t3.1, t2.1, sz1]
  have el : e < hp.objs.size := Heap.lt_size ee
  have tp : (k3.push { cls := .type "tuple", data := .seq #[.int i tk, .ref hp.objs.size] }).get? (hp.objs.size + 1) = some { cls := .type "tuple", data := .seq #[.int i tk, .ref hp.objs.size] } := by
    rw [← sz3]
    exact Heap.get?_push_size _ rfl
  have sz4 : (k3.push { cls := .type "tuple", data := .seq #[.int i tk, .ref hp.objs.size] }).objs.size = hp.objs.size + 2 := by rw [Heap.size_push, sz3]
  have kp4 : ∀ c o, c ≠ e → k1.get? c = some o → (k3.push { cls := .type "tuple", data := .seq #[.int i tk, .ref hp.objs.size] }).get? c = some o := fun c o hc h => Heap.get?_push_of_some _ (t3.extBut c o hc (t2.extBut c o hc h))
  generalize k3.push { cls := .type "tuple", data := .seq #[.int i tk, .ref hp.objs.size] } = k4 at e4 tp sz4 kp4
  show wpAny _ A (Builtin.SmallTypes.ownedTupleIsFree (.ref e) >>= _) _ _ ⟨k4, g, d, tk + 1, os⟩
  rw [sz3]
  refine wpAny_bind ?_
  delta Builtin.SmallTypes.ownedTupleIsFree
  refine wpAny_bind (wpAny_field e4 rfl (x := .none) rfl (wpAny_pure ?_))
  simp only [if_true]
  refine wpAny_bind (wpAny_rule ?_)
  refine wpAny_bind (wpAny_field e4 rfl (x := old) rfl ?_)
  refine wpAny_bind (wpAny_setField_rec e4 (by simp) fun k5 e5 t5 => ?_)
  replace t5 : Heap.SameBut e k4 k5 := t5
  replace e5 : IsEnum k5 e z ((i : Int) + 1) (.ref hp.objs.size) := e5
  show wpAny _ A (Builtin.SmallTypes.ownedTupleHandOut (.ref e) (.ref (hp.objs.size + 1)) >>= _) _ _ ⟨k5, g, d, tk + 1, os⟩
  refine wpAny_bind ?_
  delta Builtin.SmallTypes.ownedTupleHandOut
  refine wpAny_bind (wpAny_setField_rec e5 (by simp) fun k6 e6 t6 => ?_)
  replace t6 : Heap.SameBut e k5 k6 := t6
  replace e6 : IsEnumOut k6 e z ((i : Int) + 1) (.ref hp.objs.size) (hp.objs.size + 1) := e6
  refine wpAny_setField_rec e6 (by simp) fun k7 e7 t7 => ?_
  replace t7 : Heap.SameBut e k6 k7 := t7
  replace e7 : IsEnumOut k7 e z ((i : Int) + 1) (.ref hp.objs.size) (hp.objs.size + 1) := e7
  have kp7 : ∀ c o, c ≠ e → k4.get? c = some o → k7.get? c = some o := fun c o hc h => t7.extBut c o hc (t6.extBut c o hc (t5.extBut c o hc h))
  refine wpAny_bind (wpAny_letGo (wpAny_pure ⟨_, rfl, hQ k7 tk e7 (q1.keep fun c hc o h => kp7 c o (ne c hc) (kp4 c o (ne c hc) h)) (kp7 _ _ (Nat.ne_of_gt el) (kp4 _ _ (Nat.ne_of_gt el) pr)) (kp7 _ _ (Nat.ne_of_gt (Nat.lt_succ_of_lt el)) tp) ?_ fun c o c0 c1 c2 c3 c4 h => kp7 c o c0 (kp4 c o c0 (kp c o c1 c2 c3 c4 h))⟩))
  rw [t7.1, t6.1, t5.1, sz4]
theorem pyNext_enz {Q : Option Value → Shared → Prop} (D : ZipApart z I O p1 p2 a b) (ee : IsEnum s.heap e z ((i : Nat) : Int) old) (q : Zs s.heap z I O p1 p2 a b i) (l1 : s.heap.IsList a xs) (l2 : s.heap.IsList b ys) (ex : xs[i]? = some x) (ey : ys[i]? = some y)
    (ne : ∀ c ∈ [z, I, O, p1, p2], c ≠ e)
    (hQ : ∀ h' tk, IsEnumOut h' e z (((i : Nat) : Int) + 1) (.ref s.heap.objs.size) (s.heap.objs.size + 1) → Zs h' z I O p1 p2 a b (i + 1) → IsPair h' s.heap.objs.size x y →
      h'.get? (s.heap.objs.size + 1) = some { cls := .type "tuple", data := .seq #[.int i tk, .ref s.heap.objs.size] } → h'.objs.size = s.heap.objs.size + 2 →
      (∀ c o, c ≠ e → c ≠ z → c ≠ O → c ≠ p1 → c ≠ p2 → s.heap.get? c = some o → h'.get? c = some o) → Q (some (.ref (s.heap.objs.size + 1))) { s with heap := h', toks := tk + 1 }) :
    wpAny (model prog w) A (pyNext (.ref e)) Q E s := by
  have hT : s.TypeIs (.ref e) "enumerate" := ⟨_, ee, rfl⟩
  delta pyNext
  exact wpAny_bind (wpAny_attempt (wpAny_callSpecial?_slot (name := Str.ofString "__next__") hT F.slot_enumerate_next
    (wpAny_call_entry F.slot_enumerate_next hT F.entry_enumerate_next
      (en_next D ee q l1 l2 ex ey ne fun h' tk a1 a2 a3 a4 a5 a6 => wpAny_pure (hQ h' tk a1 a2 a3 a4 a5 a6)) (F.args_enumerate_next_1 _))))
theorem pyNext_enz_end {Q : Option Value → Shared → Prop} (hh : A.handled = none) (D : ZipApart z I O p1 p2 a b) (ee : IsEnum s.heap e z ((i : Nat) : Int) old) (q : Zs s.heap z I O p1 p2 a b i) (l1 : s.heap.IsList a xs) (l2 : s.heap.IsList b ys) (he : xs[i]? = none ∨ ys[i]? = none)
    (hQ : ∀ h', (∀ c o, c ≠ z → c ≠ O → c ≠ p1 → c ≠ p2 → s.heap.get? c = some o → h'.get? c = some o) → Q none { s with heap := h' }) : wpAny (model prog w) A (pyNext (.ref e)) Q E s := by
  have hT : s.TypeIs (.ref e) "enumerate" := ⟨_, ee, rfl⟩
  delta pyNext
  refine wpAny_bind (wpAny_attempt (wpAny_callSpecial?_slot (name := Str.ofString "__next__") hT F.slot_enumerate_next
    (wpAny_call_entry F.slot_enumerate_next hT F.entry_enumerate_next ?_ (F.args_enumerate_next_1 _))))
  show wpAny _ _ (field (.ref e) 2 >>= _) _ _ _
  refine wpAny_bind (wpAny_field ee rfl (x := .ref z) rfl ?_)
  refine wpAny_bind (end_zs hh D q l1 l2 he fun h' c k hx => ?_)
  obtain ⟨o, ho, hc⟩ := hx
  refine wpAny_bind (wpAny_isInstance (T := "StopIteration") (b := true) ⟨o, ho, hc⟩ isSubtype_stop ?_)
  exact wpAny_pure (hQ _ k)
end
end JZ
namespace JZ
open PySem PyProof.Rows L2
/-- the lists at a and b as they stand at each turn: a number, the items in a new pair -/
def Iez (K : PySem.W.Frag) (a b : Addr) : It :=
  ⟨fun i H => ∃ (xs ys : List V) (x y : V), SqL K H a xs ∧ SqL K H b ys ∧ xs[i]? = some x ∧ ys[i]? = some y,
    fun i H v H' => ∃ P T x y, v = .ref T ∧ H P = none ∧ (upd H P (.tup [x, y])) T = none ∧ H' = upd (upd H P (.tup [x, y])) T (.tup [.int (i : Nat), .ref P]) ∧ (∀ xs, SqL K H a xs → xs[i]? = some x) ∧ ∀ ys, SqL K H b ys → ys[i]? = some y,
    fun i H => ∃ xs ys : List V, SqL K H a xs ∧ SqL K H b ys ∧ (xs.length ≤ i ∨ ys.length ≤ i)⟩
theorem turn_enz {P : Program} {w : World} {K : PySem.W.Frag} {elts : List Expr} {kk : Nat} {tpos : Pos} {e a b z I O p1 p2 : Addr} (D : ZipApart z I O p1 p2 a b) (ne : ∀ c ∈ [z, I, O, p1, p2], c ≠ e) :
    Turn P w K (.Tuple elts kk tpos) (Iez K a b) [e, z, I, O, p1, p2] e (fun i h => (∃ old, IsEnum h e z ((i : Nat) : Int) old) ∧ Zs h z I O p1 p2 a b i) where
  mem := List.mem_cons_self ..
  obj := fun i h st c hc => by
    obtain ⟨⟨old, he⟩, v, f, _, h1, h2, ⟨x, y, h3⟩, ⟨o1, e1, _, d1⟩, ⟨o2, e2, _, d2⟩⟩ := st
    have e' : c = e ∨ c = z ∨ c = I ∨ c = O ∨ c = p1 ∨ c = p2 := by simpa using hc
    rcases e' with rfl | rfl | rfl | rfl | rfl | rfl
    · exact ⟨_, he, fun v q => nomatch q⟩
    · exact ⟨_, h1, fun v q => nomatch q⟩
    · exact ⟨_, h2, fun v q => nomatch q⟩
    · exact ⟨_, h3, fun v q => nomatch q⟩
    · exact ⟨o1, e1, fun v q => by rw [d1] at q; cases q⟩
    · exact ⟨o2, e2, fun v q => by rw [d2] at q; cases q⟩
  keep := fun i h h' st k => ⟨let ⟨old, he⟩ := st.1; ⟨old, k e (List.mem_cons_self ..) _ he⟩, st.2.keep fun c hc o q => k c (List.mem_cons_of_mem _ hc) o q⟩
  item := by
    intro X hP hw hK hc i pins s σ H E J hf st hg
    subst hP hw hK
    obtain ⟨⟨old, he⟩, q⟩ := st
    obtain ⟨xs, ys, x, y, hqx, hqy, hx, hy⟩ := hg
    obtain ⟨its, rv, pl, _⟩ := J.list hqx
    obtain ⟨its2, rv2, pl2, _⟩ := J.list hqy
    obtain ⟨u, hu, ru⟩ := rv.get hx
    obtain ⟨u2, hu2, ru2⟩ := rv2.get hy
    have oldlt : ∀ c ∈ [e, z, I, O, p1, p2], c < s.heap.objs.size := fun c hcm => by
      obtain ⟨v, f, _, h1, h2, ⟨x, y, h3⟩, ⟨o1, e1, _⟩, ⟨o2, e2, _⟩⟩ := q
      have e' : c = e ∨ c = z ∨ c = I ∨ c = O ∨ c = p1 ∨ c = p2 := by simpa using hcm
      rcases e' with rfl | rfl | rfl | rfl | rfl | rfl
      · exact Heap.lt_size he
      · exact Heap.lt_size h1
      · exact Heap.lt_size h2
      · exact Heap.lt_size h3
      · exact Heap.lt_size e1
      · exact Heap.lt_size e2
    have hel := oldlt e (List.mem_cons_self ..)
    refine pyNext_enz D he q pl.isList pl2.isList (x := u) (y := u2) (by simpa using hu) (by simpa using hu2) ne fun h' tk a1 a2 a3 a4 a5 a6 => ?_
    refine ⟨_, rfl, wpAny_letOwnedTupleGo_enum (s := { s with heap := h', toks := tk + 1 }) a1 fun h2 b1 sb => ?_⟩
    have e0 : s.heap.objs.size ≠ e := Nat.ne_of_gt hel
    have e1 : s.heap.objs.size + 1 ≠ e := Nat.ne_of_gt (Nat.lt_succ_of_lt hel)
    have P2 : IsPair h2 s.heap.objs.size u u2 := (sb.2 _ e0).trans a3
    have T2 : h2.get? (s.heap.objs.size + 1) = some { cls := .type "tuple", data := .seq #[.int i tk, .ref s.heap.objs.size] } := (sb.2 _ e1).trans a4
    have kp : ∀ c o, c ∉ [e, z, I, O, p1, p2] → s.heap.get? c = some o → h2.get? c = some o := fun c o hb q => (sb.2 c (fun q' => hb (by simp [q']))).trans (a6 c o (fun q' => hb (by simp [q'])) (fun q' => hb (by simp [q'])) (fun q' => hb (by simp [q'])) (fun q' => hb (by simp [q'])) (fun q' => hb (by simp [q'])) q)
    obtain ⟨G, g1, g2⟩ := restrict h2 fun b => decide (b ≠ s.heap.objs.size + 1)
    have gs : ∀ c, c ≠ s.heap.objs.size + 1 → G.get? c = h2.get? c := fun c hc => g1 c (decide_eq_true hc)
    have gT : G.get? (s.heap.objs.size + 1) = none := g2 _ (decide_eq_false fun z => z rfl)
    have PG : IsPair G s.heap.objs.size u u2 := (gs _ (Nat.ne_of_lt (Nat.lt_succ_self _))).trans P2
    have newP : ObjOk X.prog X.w (upd H s.heap.objs.size (.tup [x, y])) G s.heap.objs.size (.tup [x, y]) :=
      ⟨(by decide : (2 : Nat) ≤ sizeLine), [u, u2], .cons ru (.cons ru2 .nil), ⟨_, PG, rfl, _, rfl⟩⟩
    have J1 : Inv X pins σ (upd H s.heap.objs.size (.tup [x, y])) { s with heap := G, toks := tk + 1 } :=
      J.turnedNew (ch := [e, z, I, O, p1, p2]) (fun c o hb q => (gs c (Nat.ne_of_lt (Nat.lt_succ_of_lt (Heap.lt_size q)))).trans (kp c o hb q)) hf (Nat.le_refl _) newP
    have hnT : (upd H s.heap.objs.size (.tup [x, y])) (s.heap.objs.size + 1) = none := by
      rw [upd_ne (Nat.ne_of_gt (Nat.lt_succ_self _))]
      exact J.hok.fresh (Nat.le_succ _)
    have newT : ObjOk X.prog X.w (upd (upd H s.heap.objs.size (.tup [x, y])) (s.heap.objs.size + 1) (.tup [.int (i : Nat), .ref s.heap.objs.size])) h2 (s.heap.objs.size + 1) (.tup [.int (i : Nat), .ref s.heap.objs.size]) :=
      ⟨(by decide : (2 : Nat) ≤ sizeLine), [.int i tk, .ref s.heap.objs.size], .cons ⟨_, rfl⟩ (.cons rfl .nil), ⟨_, T2, rfl, _, rfl⟩⟩
    have J2 : Inv X pins σ (upd (upd H s.heap.objs.size (.tup [x, y])) (s.heap.objs.size + 1) (.tup [.int (i : Nat), .ref s.heap.objs.size])) { s with heap := h2, toks := tk + 1 } :=
      J1.laidN (t' := tk + 1) (fun c o q => by
        by_cases hc : c = s.heap.objs.size + 1
        · subst hc
          have q' : G.get? (s.heap.objs.size + 1) = some o := q
          rw [gT] at q'
          cases q'
        · exact (gs c hc).symm.trans q) gT hnT newT
    refine ⟨.ref (s.heap.objs.size + 1), _, J2, rfl, ⟨s.heap.objs.size, s.heap.objs.size + 1, x, y, rfl, J.hok.fresh (Nat.le_refl _), hnT, rfl, fun l hl => by rw [J.list_inj hl hqx]; exact hx, fun l hl => by rw [J.list_inj hl hqy]; exact hy⟩, ⟨⟨.ref s.heap.objs.size, ?_⟩, a2.keep fun c hc o q => (sb.2 c (ne c hc)).trans q⟩, fun c hcm => ?_⟩
    · have ec : ((i + 1 : Nat) : Int) = (i : Int) + 1 := by omega
      rw [ec]
      exact b1
    · have hlt := oldlt c hcm
      rw [upd_ne (Nat.ne_of_lt (Nat.lt_succ_of_lt hlt)), upd_ne (Nat.ne_of_lt hlt)]
      exact (hf c hcm).1
  done := by
    intro X hP hw hK hc i pins s σ H E J hf st hg
    subst hP hw hK
    obtain ⟨⟨old, he⟩, q⟩ := st
    obtain ⟨xs, ys, hqx, hqy, hend⟩ := hg
    obtain ⟨its, rv, pl, _⟩ := J.list hqx
    obtain ⟨its2, rv2, pl2, _⟩ := J.list hqy
    have le1 := rv.length
    have le2 := rv2.length
    have en : its.toArray[i]? = none ∨ its2.toArray[i]? = none := by
      rcases hend with q | q
      · exact .inl (by simp; omega)
      · exact .inr (by simp; omega)
    exact pyNext_enz_end (J.ok.hd hc) D he q pl.isList pl2.isList en fun h' hk => ⟨rfl, J.turnedL (t' := s.toks) (ch := [e, z, I, O, p1, p2]) (fun c o hb q =>
      hk c o (fun q' => hb (by simp [q'])) (fun q' => hb (by simp [q'])) (fun q' => hb (by simp [q'])) (fun q' => hb (by simp [q'])) q) hf⟩
  self := fun A i s Q E st h => let ⟨⟨_, he⟩, _⟩ := st; wpAny_pyIter_enum he h
theorem enz_new (z : Addr) (I O : Addr) :
    Meets (Builtin.«enumerate.__new__» ⟨[.type "enumerate", .ref z], []⟩) (fun _ R s => IsZip s.heap z I O .none ∧
      R (.ok (.ret (.ref s.heap.objs.size))) { s with heap := s.heap.push { cls := .type "enumerate", data := .fields #[.none, .bool false, .ref z, rawInt 0, .none, .none] } }) :=
  .of_wp fun prog w A R s hz => by
    obtain ⟨hp, g, d, tk, os⟩ := s
    obtain ⟨hq, hz⟩ := hz
    have hsub0 := sub_enumerate
    have hT0 : IsZip (Shared.heap ⟨hp, g, d, tk, os⟩) z I O .none := hq
    wp_walk using AutoSeq1.wpAny_loadPart' hq
    refine wpAny_stack_any fun st => wpAny_pure ?_
    split
    · rename_i c0 _ _ _ _ _
      cases (c0 == Value.type "enumerate")
      · wp_walk using AutoSeq1.wpAny_loadPart' hq, wpAny_pyIter_zip hT0
        exact ⟨_, rfl, hz⟩
      · wp_walk using AutoSeq1.wpAny_loadPart' hq, wpAny_pyIter_zip hT0
        exact ⟨_, rfl, hz⟩
    · wp_walk using AutoSeq1.wpAny_loadPart' hq, wpAny_pyIter_zip hT0
      exact ⟨_, rfl, hz⟩
end JZ
namespace JZ
open PySem PyProof.Rows L2
section
variable {prog : Program} {w : World} {A : Around} {E : Value → Shared → Prop} {s : Shared}
theorem call_enz {z I O : Addr} {Q : Value → Shared → Prop} (hz : IsZip s.heap z I O .none)
    (h : ∀ h', IsEnum h' s.heap.objs.size z 0 .none → (∀ b o, s.heap.get? b = some o → h'.get? b = some o) → Q (.ref s.heap.objs.size) { s with heap := h' }) : wpAny (model prog w) A (call (.type "enumerate") [.ref z]) Q E s := by
  refine callType_new F.called_enumerate (by decide) (F.typeCall_enumerate_1 _) (F.newCall_enumerate_1 _) (fun o0 => F.args_object_init_2 o0 _) F.entry_enumerate_new (enz_new z I O) ⟨hz, ?_⟩
  have he : IsEnum (s.heap.push { cls := .type "enumerate", data := .fields #[.none, .bool false, .ref z, rawInt 0, .none, .none] }) s.heap.objs.size z 0 .none := Heap.get?_push_size s.heap rfl
  exact ⟨⟨_, he, rfl⟩, h _ he fun b o x => Heap.get?_push_of_some _ x⟩
end
def iEnz (K : PySem.W.Frag) (ta : TA) : TI := fun σ H Rk => ta σ H fun us H1 => ∃ a b xs ys, us = [.ref a, .ref b] ∧ SqL K H1 a xs ∧ SqL K H1 b ys ∧ Rk (Iez K a b) H1
theorem pi_enz {X : Cx} {e e2 : Expr} {ta : TA} {p p2 pos pos2 tpos : Pos} {elts : List Expr} {kk : Nat} (hg : Gl X "enumerate") (hm : X.mg "enumerate" = none) (hgz : Gl X "zip") (hmz : X.mg "zip" = none) (ha : PA X [e, e2] ta)
    (hs : starEach [e, e2] X.env = (false, eval e X.env) :: starEach [e2] X.env := by rfl) (hpl : (backTo pos2 (starEach [e2] X.env)).any (·.1) = false := by rfl)
    (ho : starEach [.Call (.Name "zip" p2) [e, e2] [] pos2] X.env = (false, eval (.Call (.Name "zip" p2) [e, e2] [] pos2) X.env) :: starEach [] X.env := by rfl) :
    PI X (.Tuple elts kk tpos) (.Call (.Name "enumerate" p) [.Call (.Name "zip" p2) [e, e2] [] pos2] [] pos) (iEnz X.K ta) := ⟨fun pins s σ H Rk I h => by
  refine wpAny_Call_Name_kw (ld_blt I hg hm boot_enumerate ?_ (by decide) (by decide))
  refine PyProof.Rows.callWith_type1 ?_ ho rfl
  rw [ho]
  show wpAny _ _ (spliced ((false, eval (.Call (.Name "zip" p2) [e, e2] [] pos2) X.env) :: backTo pos (starEach [] X.env))) _ _ s
  refine Calls.spliced_cons ?_
  refine Call_ (ld_blt I hgz hmz PyProof.Rows.boot_zip (PyProof.Rows.callWith_type1 (thn (ha.run pos2 pins s σ H _ I h) fun us s1 ⟨vs, H1, I1, r1, q1⟩ => ?_) hs hpl))
  obtain ⟨a, b, xs, ys, ex, hqx, hqy, q⟩ := q1
  subst ex
  cases r1 with
  | cons r rr =>
    cases rr with
    | cons r' rr =>
      cases rr
      cases r
      cases r'
      obtain ⟨its, rv, pl1, _⟩ := I1.list hqx
      obtain ⟨its2, rv2, pl2, _⟩ := I1.list hqy
      have la : a < s1.heap.objs.size := pl1.lt
      have lb : b < s1.heap.objs.size := pl2.lt
      refine call_zip_2 pl1.isList pl2.isList fun h1 hz hTI hTO h3 h4 hsz hk => ?_
      refine Calls.spliced_nil ?_
      refine call_enz (s := { s1 with heap := h1 }) hz fun h2 he hk2 => wpAny_pyIter_enum he ?_
      have I2 : Inv X pins σ H1 { s1 with heap := h2 } := I1.kept (t' := s1.toks) fun c o x => hk2 c o (hk c o x)
      have e5 : ({ s1 with heap := h1 } : Shared).heap.objs.size = s1.heap.objs.size + 5 := hsz
      rw [e5] at he ⊢
      have nn : ∀ c ∈ [s1.heap.objs.size + 4, s1.heap.objs.size + 2, s1.heap.objs.size + 3, s1.heap.objs.size, s1.heap.objs.size + 1], c ≠ s1.heap.objs.size + 5 := fun c hc => by
        have e' : c = s1.heap.objs.size + 4 ∨ c = s1.heap.objs.size + 2 ∨ c = s1.heap.objs.size + 3 ∨ c = s1.heap.objs.size ∨ c = s1.heap.objs.size + 1 := by simpa using hc
        have lt : c < s1.heap.objs.size + 5 := by rcases e' with q | q | q | q | q <;> (rw [q]; first | exact Nat.lt_add_of_pos_right (by decide) | exact Nat.add_lt_add_left (by decide) _)
        exact Nat.ne_of_lt lt
      refine ⟨s1.heap.objs.size + 5, [s1.heap.objs.size + 5, s1.heap.objs.size + 4, s1.heap.objs.size + 2, s1.heap.objs.size + 3, s1.heap.objs.size, s1.heap.objs.size + 1], _, _, H1, rfl, I2, turn_enz (PySem.W.ktu_apart s1.heap.objs.size a b la lb) nn, ⟨⟨.none, he⟩, .none, false, .inl ⟨rfl, rfl⟩, hk2 _ _ hz, hk2 _ _ hTI, ⟨_, _, hk2 _ _ hTO⟩, h3.at fun o x => hk2 _ o x, h4.at fun o x => hk2 _ o x⟩, fun c hcm => ?_, q⟩
      have e' : c = s1.heap.objs.size + 5 ∨ c = s1.heap.objs.size + 4 ∨ c = s1.heap.objs.size + 2 ∨ c = s1.heap.objs.size + 3 ∨ c = s1.heap.objs.size ∨ c = s1.heap.objs.size + 1 := by simpa using hcm
      have hle : s1.heap.objs.size ≤ c := by rcases e' with z | z | z | z | z | z <;> (rw [z]; first | exact Nat.le_refl _ | exact Nat.le_add_right _ _)
      exact I1.fpOk hle (I1.hok.fresh hle)⟩
end JZ
namespace J
open PySem PyProof.Rows L2
section
variable {K : PySem.W.Frag} {p : Addr} {F H : Hp} {xs ys : List D} {vs us : List V} {a b : Addr}
theorem src_enz (h : F a = some (.lst vs)) (d : Dens K p F xs vs) (h' : F b = some (.lst us)) (d' : Dens K p F ys us) : Src K p (JZ.Iez K a b) F H [] (enumD 0 (zipD xs ys)) := by
  refine ⟨fun q hq => (nomatch hq), fun F2 H2 hA e1 e2 hp hp2 i => ⟨fun hi => ⟨vs, us, .of (e2 _ _ (e1 _ _ h)), .of (e2 _ _ (e1 _ _ h')), by rw [d.len, d'.len]; rw [enumD_len] at hi; exact zipD_stop _ _ _ hi⟩, fun x hx => ?_⟩⟩
  obtain ⟨x1, g0, g00⟩ := enumD_get 0 (zipD xs ys) i x hx
  subst g00
  obtain ⟨e, e', g1, g2, g3⟩ := zipD_get xs ys i x1 g0
  subst g3
  obtain ⟨v, h1, h2⟩ := d.get g1
  obtain ⟨u, h3, h4⟩ := d'.get g2
  have hv : SqL K H2 a vs := .of (e2 _ _ (e1 _ _ h))
  have hu : SqL K H2 b us := .of (e2 _ _ (e1 _ _ h'))
  refine ⟨⟨vs, us, v, u, hv, hu, h1, h3⟩, fun y H3 ⟨P, T, z, z', e3, e4, e5, e6, hy, hy'⟩ => ?_⟩
  subst e3 e6
  have q1 := hy vs hv
  rw [h1] at q1
  cases q1
  have q2 := hy' us hu
  rw [h3] at q2
  cases q2
  have s1 : Stp p F2 H2 (upd F2 P (.tup [v, u])) (upd H2 P (.tup [v, u])) := stp_new e2 hp hp2 e4
  have hp3 : ∃ o, (upd H2 P (.tup [v, u])) p = some o := by
    obtain ⟨o, ho⟩ := hp2
    exact ⟨o, same_new e4 _ _ ho⟩
  have den1 : Den K p (upd F2 P (.tup [v, u])) (.tup [e, e']) (.ref P) := den_pair (e2.free e4) (Den.mono e1 _ _ h2) (Den.mono e1 _ _ h4)
  refine ⟨(same_new e4).trans (same_new e5), _, s1.trans (stp_new s1.e s1.fp hp3 e5), ?_⟩
  rw [Nat.zero_add]
  exact den_pair (s1.e.free e5) den_int den1
end
def iEnumZip (f : Ef) : Ef := fun ds w => (f ds w).bind fun a => match a.1 with | [.lst xs, .lst ys] => some (enumD 0 (zipD xs ys), a.2) | _ => none
section
variable {X : Cx} {e e2 : Expr} {fs : Ef} {p p2 pos pos2 tpos : Pos} {elts : List Expr} {kk : Nat}
theorem ji_enumzip (hg : Gl X "enumerate") (hm : X.mg "enumerate" = none) (hgz : Gl X "zip") (hmz : X.mg "zip" = none) (ha : JA X [e, e2] fs)
    (hs : starEach [e, e2] X.env = (false, eval e X.env) :: starEach [e2] X.env := by rfl) (hpl : (backTo pos2 (starEach [e2] X.env)).any (·.1) = false := by rfl)
    (ho : starEach [.Call (.Name "zip" p2) [e, e2] [] pos2] X.env = (false, eval (.Call (.Name "zip" p2) [e, e2] [] pos2) X.env) :: starEach [] X.env := by rfl) :
    JI X (.Tuple elts kk tpos) (.Call (.Name "enumerate" p) [.Call (.Name "zip" p2) [e, e2] [] pos2] [] pos) false (iEnumZip fs) := ⟨pi_weak (JZ.pi_enz hg hm hgz hmz ha.run hs hpl ho) fun σ H Rk ⟨Z, F, ds, w, xs, w', rr, hf, k⟩ => by
  obtain ⟨⟨a, w1⟩, ha, hf⟩ := bind2 hf
  refine ⟨Z, F, ds, w, _, _, rr, ha, fun us F1 H1 s1 d1 hv => ?_⟩
  dsimp only at hf
  split at hf
  · cases hf
    obtain ⟨v, u, rfl, hw, hu⟩ := dens2 hv
    unfold Den at hw hu
    obtain ⟨q, vs, rfl, h1, h2⟩ := hw
    obtain ⟨q', vs', rfl, h1', h2'⟩ := hu
    exact ⟨q, q', vs, vs', rfl, .of (s1.e _ _ h1), .of (s1.e _ _ h1'), k _ F1 H1 [] s1 d1 (fun _ => rfl) (src_enz h1 h2 h1' h2')⟩
  · cases hf⟩
end
end J
namespace K12
open PySem PySem.Spec PyProof.Rows GenW L2 J
def topS (i : Nat) : Stmt := PySem.Challenge.pw_strandloom_k12_whole_numbers.main.body.getD i (.Pass ⟨0, 0, 0, 0⟩)
abbrev s_is_whole : Stmt := topS 7
abbrev N_is_whole : List Str := ["thing"]
theorem sc_is_whole : FnScope N_is_whole ["thing"] (defScope s_is_whole) := ⟨rfl, rfl, rfl, by decide +kernel, rfl, by decide +kernel, by decide +kernel⟩
noncomputable def g_is_whole : Es :=
 (sSeq (sRet (eAnd (eIsi (aCons (eBor 0) (aCons (eC (.ty "int")) aNil))) (eNot (eIsi (aCons (eBor 0) (aCons (eC (.ty "bool")) aNil))))))
 sNil)
noncomputable def G_is_whole : Fn := callS N_is_whole.length g_is_whole
abbrev s_is_title : Stmt := topS 14
abbrev N_is_title : List Str := ["thing", "sign"]
theorem sc_is_title : FnScope N_is_title ["thing"] (defScope s_is_title) := ⟨rfl, rfl, rfl, by decide +kernel, rfl, by decide +kernel, by decide +kernel⟩
noncomputable def g_is_title : Es :=
 (sSeq (sRet (eAnd (eIsi (aCons (eBor 0) (aCons (eC (.ty "str")) aNil))) (eAnd (eChain (g2B pLe) (g2B pLe) (eC (.int 1)) (eLen (aCons (eBor 0) aNil)) (eC (.int 8))) (eAll (aCons (eL (fLc (iSigns (eBor 0)) (gN 1) tYesJ (eInS (eBor 1) (eC (.str "abcdefghijklmnopqrstuvwxyz"))) [1])) aNil)))))
 sNil)
noncomputable def G_is_title : Fn := callS N_is_title.length g_is_title
abbrev s_is_step : Stmt := topS 15
abbrev N_is_step : List Str := ["thing"]
theorem sc_is_step : FnScope N_is_step ["thing"] (defScope s_is_step) := ⟨rfl, rfl, rfl, by decide +kernel, rfl, by decide +kernel, by decide +kernel⟩
noncomputable def g_is_step : Es :=
 (sSeq (sIf (tOrJ (tNotJ (eTest (eIsi (aCons (eBor 0) (aCons (eC (.ty "tuple")) aNil))))) (tOrJ (eTest (eEq (eLen (aCons (eBor 0) aNil)) (eC (.int 0)))) (tNotJ (eTest (eIsi (aCons (eIx (eBor 0) (eC (.int 0))) (aCons (eC (.ty "str")) aNil))))))) (sSeq (sRet (eC (.bl false)))
 sNil) sNil)
 (sSeq (sIf (eTest (eEq (eIx (eBor 0) (eC (.int 0))) (eC (.str "swap")))) (sSeq (sRet (eEq (eLen (aCons (eBor 0) aNil)) (eC (.int 1))))
 sNil) sNil)
 (sSeq (sIf (tOrJ (eTest (eNe (eLen (aCons (eBor 0) aNil)) (eC (.int 2)))) (tNotJ (eTest (eIsi (aCons (eIx (eBor 0) (eC (.int 1))) (aCons (eC (.ty "str")) aNil)))))) (sSeq (sRet (eC (.bl false)))
 sNil) sNil)
 (sSeq (sRet (eIf (eTest (eEq (eIx (eBor 0) (eC (.int 0))) (eC (.str "flip")))) (eIn (eIx (eBor 0) (eC (.int 1))) (eC (.tup [.str "left", .str "right", .str "both", .str "all"]))) (eAnd (eIn (eIx (eBor 0) (eC (.int 0))) (eTup (aCons (eC (.str "cross")) (aCons (eC (.str "mirror")) aNil)))) (eIn (eIx (eBor 0) (eC (.int 1))) (eC (.tup [.str "up", .str "down"]))))))
 sNil))))
noncomputable def G_is_step : Fn := callS N_is_step.length g_is_step
abbrev s_is_call : Stmt := topS 16
abbrev N_is_call : List Str := ["thing", "looms"]
theorem sc_is_call : FnScope N_is_call ["thing", "looms"] (defScope s_is_call) := ⟨rfl, rfl, rfl, by decide +kernel, rfl, by decide +kernel, by decide +kernel⟩
noncomputable def g_is_call : Es :=
 (sSeq (sIf (eTest (eIs (eBor 0) (eC .non))) (sSeq (sRet (eC (.bl true)))
 sNil) sNil)
 (sSeq (sIf (tOrJ (tNotJ (eTest (eIsi (aCons (eBor 0) (aCons (eC (.ty "tuple")) aNil))))) (tOrJ (eTest (eNe (eLen (aCons (eBor 0) aNil)) (eC (.int 2)))) (tNotJ (eTest (eIsi (aCons (eIx (eBor 0) (eC (.int 0))) (aCons (eC (.ty "str")) aNil))))))) (sSeq (sRet (eC (.bl false)))
 sNil) sNil)
 (sSeq (sRet (eAnd (eDHas false (eIx (eBor 0) (eC (.int 0))) (eBor 1)) (eIsi (aCons (eIx (eBor 0) (eC (.int 1))) (aCons (eC (.ty "bool")) aNil)))))
 sNil)))
noncomputable def G_is_call : Fn := callS N_is_call.length g_is_call
abbrev s_is_loom : Stmt := topS 17
abbrev N_is_loom : List Str := ["thing", "looms", "step", "call"]
theorem sc_is_loom : FnScope N_is_loom ["thing", "looms"] (defScope s_is_loom) := ⟨rfl, rfl, rfl, by decide +kernel, rfl, by decide +kernel, by decide +kernel⟩
noncomputable def g_is_loom : Es :=
 (sSeq (sIf (tOrJ (tNotJ (eTest (eIsi (aCons (eBor 0) (aCons (eC (.ty "tuple")) aNil))))) (tOrJ (eTest (eNe (eLen (aCons (eBor 0) aNil)) (eC (.int 3)))) (tNotJ (eTest (eIsi (aCons (eIx (eBor 0) (eC (.int 0))) (aCons (eC (.ty "tuple")) aNil))))))) (sSeq (sRet (eC (.bl false)))
 sNil) sNil)
 (sSeq (sIf (tOrJ (eTest (eGt (eLen (aCons (eIx (eBor 0) (eC (.int 0))) aNil)) (eC (.int 12)))) (tNotJ (eTest (eAll (aCons (eL (fLc (iItems (eIx (eBor 0) (eC (.int 0)))) (gN 2) tYesJ (eCall 1 G_is_step (aCons (eVar 2) aNil)) [2])) aNil))))) (sSeq (sRet (eC (.bl false)))
 sNil) sNil)
 (sSeq (sRet (eAll (aCons (eL (fLc (iItems (eSlT (eBor 0) (oSo (eC (.int 1))) oNo)) (gN 3) tYesJ (eCall 2 G_is_call (aCons (eVar 3) (aCons (eVar 1) aNil))) [3])) aNil)))
 sNil)))
noncomputable def G_is_loom : Fn := callS N_is_loom.length g_is_loom
abbrev s_check_looms : Stmt := topS 18
abbrev N_check_looms : List Str := ["looms", "name"]
theorem sc_check_looms : FnScope N_check_looms ["looms"] (defScope s_check_looms) := ⟨rfl, rfl, rfl, by decide +kernel, rfl, by decide +kernel, by decide +kernel⟩
noncomputable def g_check_looms : Es :=
 (sSeq (sIf (tOrJ (tNotJ (eTest (eIsi (aCons (eBor 0) (aCons (eC (.ty "dict")) aNil))))) (tNotJ (eTest (eChain (g2B pLe) (g2B pLe) (eC (.int 1)) (eLenD (aCons (eBor 0) aNil)) (eC (.int 8)))))) (sSeq sNone
 sNil) sNil)
 (sSeq (sFor (iDKeys (eVar 0)) (gN 1) (sSeq (sIf (tNotJ (eTest (eCall 1 G_is_title (aCons (eVar 1) aNil)))) (sSeq sNone
 sNil) sNil)
 sNil))
 (sSeq (sFor (iItems (eL (fSortedD (aCons (eBor 0) aNil)))) (gN 1) (sSeq (sIf (tNotJ (eTest (eCall 2 G_is_loom (aCons (eDAt (eBor 0) (eBor 1)) (aCons (eVar 0) aNil))))) (sSeq sNone
 sNil) sNil)
 sNil))
 sNil)))
noncomputable def G_check_looms : Fn := callS N_check_looms.length g_check_looms
abbrev s_check_name : Stmt := topS 19
abbrev N_check_name : List Str := ["looms", "name"]
theorem sc_check_name : FnScope N_check_name ["looms", "name"] (defScope s_check_name) := ⟨rfl, rfl, rfl, by decide +kernel, rfl, by decide +kernel, by decide +kernel⟩
noncomputable def g_check_name : Es :=
 (sSeq (sDrop (eCall 1 G_check_looms (aCons (eVar 0) aNil)))
 (sSeq (sIf (tOrJ (tNotJ (eTest (eIsi (aCons (eBor 1) (aCons (eC (.ty "str")) aNil))))) (eTest (eDHas true (eBor 1) (eBor 0)))) (sSeq sNone
 sNil) sNil)
 sNil))
noncomputable def G_check_name : Fn := callS N_check_name.length g_check_name
abbrev s_is_word : Stmt := topS 25
abbrev N_is_word : List Str := ["thing", "words"]
theorem sc_is_word : FnScope N_is_word ["thing", "words"] (defScope s_is_word) := ⟨rfl, rfl, rfl, by decide +kernel, rfl, by decide +kernel, by decide +kernel⟩
noncomputable def g_is_word : Es :=
 (sSeq (sRet (eAnd (eIsi (aCons (eBor 0) (aCons (eC (.ty "str")) aNil))) (eIn (eBor 0) (eBor 1))))
 sNil)
noncomputable def G_is_word : Fn := callS N_is_word.length g_is_word
abbrev s_is_pass : Stmt := topS 24
abbrev N_is_pass : List Str := ["thing"]
theorem sc_is_pass : FnScope N_is_pass ["thing"] (defScope s_is_pass) := ⟨rfl, rfl, rfl, by decide +kernel, rfl, by decide +kernel, by decide +kernel⟩
noncomputable def g_is_pass : Es :=
 (sSeq (sIf (tOrJ (tNotJ (eTest (eIsi (aCons (eBor 0) (aCons (eC (.ty "tuple")) aNil))))) (tOrJ (eTest (eEq (eLen (aCons (eBor 0) aNil)) (eC (.int 0)))) (tNotJ (eTest (eIsi (aCons (eIx (eBor 0) (eC (.int 0))) (aCons (eC (.ty "str")) aNil))))))) (sSeq (sRet (eC (.bl false)))
 sNil) sNil)
 (sSeq (sMatch (eIx (eBor 0) (eC (.int 0))) (mcCons ["turn"] (sSeq (sRet (eEq (eLen (aCons (eBor 0) aNil)) (eC (.int 1))))
 sNil)
 (mcCons ["round"] (sSeq (sRet (eAnd (eEq (eLen (aCons (eBor 0) aNil)) (eC (.int 2))) (eCall 2 G_is_word (aCons (eIx (eBor 0) (eC (.int 1))) (aCons (eC (.tup [.str "right", .str "left"])) aNil)))))
 sNil)
 (mcCons ["chain", "ends"] (sSeq (sRet (eAnd (eEq (eLen (aCons (eBor 0) aNil)) (eC (.int 3))) (eAnd (eCall 2 G_is_word (aCons (eIx (eBor 0) (eC (.int 1))) (aCons (eC (.tup [.str "right", .str "left"])) aNil))) (eCall 2 G_is_word (aCons (eIx (eBor 0) (eC (.int 2))) (aCons (eC (.tup [.str "up", .str "down"])) aNil))))))
 sNil)
 (mcCons ["layer"] (sSeq (sIf (tOrJ (eTest (eNe (eLen (aCons (eBor 0) aNil)) (eC (.int 5)))) (tOrJ (tNotJ (eTest (eCall 2 G_is_word (aCons (eIx (eBor 0) (eC (.int 1))) (aCons (eC (.tup [.str "right", .str "left"])) aNil))))) (tNotJ (eTest (eCall 2 G_is_word (aCons (eIx (eBor 0) (eC (.int 4))) (aCons (eC (.tup [.str "up", .str "down"])) aNil))))))) (sSeq (sRet (eC (.bl false)))
 sNil) sNil)
 (sSeq (sRet (eAnd (eCall 1 G_is_whole (aCons (eIx (eBor 0) (eC (.int 2))) aNil)) (eAnd (eCall 1 G_is_whole (aCons (eIx (eBor 0) (eC (.int 3))) aNil)) (eAnd (eChain (g2B pLe) (g2B pLe) (eC (.int 2)) (eIx (eBor 0) (eC (.int 3))) (eC (.int 6))) (eChain (g2B pLe) (g2B pLt) (eC (.int 0)) (eIx (eBor 0) (eC (.int 2))) (eIx (eBor 0) (eC (.int 3))))))))
 sNil))
 mcNil)))))
 (sSeq (sRet (eC (.bl false)))
 sNil)))
noncomputable def G_is_pass : Fn := callS N_is_pass.length g_is_pass
abbrev s_check_passes : Stmt := topS 26
abbrev N_check_passes : List Str := ["passes", "place", "one"]
theorem sc_check_passes : FnScope N_check_passes ["passes"] (defScope s_check_passes) := ⟨rfl, rfl, rfl, by decide +kernel, rfl, by decide +kernel, by decide +kernel⟩
noncomputable def g_check_passes : Es :=
 (sSeq (sIf (tNotJ (eTest (eIsi2 (eBor 0) "list" "tuple"))) (sSeq sNone
 sNil) sNil)
 (sSeq (sFor (iEnumJ (aCons (eVar 0) aNil)) (gT 2 (gsCons (gN 1) (gsCons (gN 2) gsNil))) (sSeq (sIf (tNotJ (eTest (eCall 1 G_is_pass (aCons (eVar 2) aNil)))) (sSeq sNone
 sNil) sNil)
 sNil))
 sNil))
noncomputable def G_check_passes : Fn := callS N_check_passes.length g_check_passes
abbrev s_exchanges : Stmt := topS 27
abbrev N_exchanges : List Str := ["one", "width", "places", "first", "place"]
theorem sc_exchanges : FnScope N_exchanges ["one", "width"] (defScope s_exchanges) := ⟨rfl, rfl, rfl, by decide +kernel, rfl, by decide +kernel, by decide +kernel⟩
noncomputable def g_exchanges : Es :=
 (sSeq (sIf (eTest (eEq (eIx (eBor 0) (eC (.int 0))) (eC (.str "chain")))) (sSeq (sSet 2 (eL (fRg (eC (.int 0)) (eSub (eBor 1) (eC (.int 1))) (eC (.int 1)))))
 (sSeq (sRet (eL (fLc (iItems (eIf (eTest (eEq (eIx (eBor 0) (eC (.int 1))) (eC (.str "right")))) (eBor 2) (eL (fRev (eBor 2))))) (gN 4) tYesJ (eTup (aCons (eVar 4) (aCons (eAdd (eBor 4) (eC (.int 1))) (aCons (eIx (eBor 0) (eC (.int 2))) aNil)))) [4])))
 sNil)) sNil)
 (sSeq (sIf (eTest (eEq (eIx (eBor 0) (eC (.int 0))) (eC (.str "ends")))) (sSeq (sSet 3 (eIf (eTest (eEq (eIx (eBor 0) (eC (.int 1))) (eC (.str "left")))) (eC (.int 0)) (eSub (eBor 1) (eC (.int 2)))))
 (sSeq (sRet (eIf (eTest (eGt (eBor 1) (eC (.int 1)))) (eL (fLst (aCons (eTup (aCons (eVar 3) (aCons (eAdd (eBor 3) (eC (.int 1))) (aCons (eIx (eBor 0) (eC (.int 2))) aNil)))) aNil))) (eL (fLst aNil))))
 sNil)) sNil)
 (sSeq (sIf (eTest (eEq (eIx (eBor 0) (eC (.int 0))) (eC (.str "layer")))) (sSeq (sSet 2 (eL (fRg (eIx (eBor 0) (eC (.int 2))) (eSub (eBor 1) (eC (.int 1))) (eIx (eBor 0) (eC (.int 3))))))
 (sSeq (sIf (eTest (eEq (eIx (eBor 0) (eC (.int 1))) (eC (.str "left")))) (sSeq (sSetO 2 (fLc (iItems (eBor 2)) (gN 4) tYesJ (eSub (eSub (eBor 1) (eC (.int 2))) (eBor 4)) [4]))
 (sFrz 2 sNil)) sNil)
 (sSeq (sRet (eL (fLc (iItems (eL (fSorted (aCons (eBor 2) aNil)))) (gN 4) tYesJ (eTup (aCons (eVar 4) (aCons (eAdd (eBor 4) (eC (.int 1))) (aCons (eIx (eBor 0) (eC (.int 4))) aNil)))) [4])))
 sNil))) sNil)
 (sSeq (sRet (eL (fLst aNil)))
 sNil))))
noncomputable def G_exchanges : Fn := callS N_exchanges.length g_exchanges
abbrev s_check_growing : Stmt := topS 31
abbrev N_check_growing : List Str := ["passes", "side", "many"]
theorem sc_check_growing : FnScope N_check_growing ["passes", "side", "many"] (defScope s_check_growing) := ⟨rfl, rfl, rfl, by decide +kernel, rfl, by decide +kernel, by decide +kernel⟩
noncomputable def g_check_growing : Es :=
 (sSeq (sDrop (eCall 1 G_check_passes (aCons (eVar 0) aNil)))
 (sSeq (sIf (tOrJ (tNotJ (eTest (eIsi (aCons (eBor 1) (aCons (eC (.ty "str")) aNil))))) (eTest (eNotIn (eBor 1) (eC (.tup [.str "right", .str "left", .str "both"]))))) (sSeq sNone
 sNil) sNil)
 (sSeq (sIf (tOrJ (tNotJ (eTest (eCall 1 G_is_whole (aCons (eVar 2) aNil)))) (tOrJ (tNotJ (eTest (eChain (g2B pLe) (g2B pLe) (eC (.int 1)) (eBor 2) (eC (.int 2))))) (tAndJ (eTest (eEq (eBor 1) (eC (.str "both")))) (eTest (eNe (eBor 2) (eC (.int 2))))))) (sSeq sNone
 sNil) sNil)
 sNil)))
noncomputable def G_check_growing : Fn := callS N_check_growing.length g_check_growing
abbrev s_ends_of : Stmt := topS 32
abbrev N_ends_of : List Str := ["side", "many"]
theorem sc_ends_of : FnScope N_ends_of ["side", "many"] (defScope s_ends_of) := ⟨rfl, rfl, rfl, by decide +kernel, rfl, by decide +kernel, by decide +kernel⟩
noncomputable def g_ends_of : Es :=
 (sSeq (sIf (eTest (eEq (eBor 0) (eC (.str "both")))) (sSeq (sRet (eTup (aCons (eC (.int 1)) (aCons (eC (.int 1)) aNil))))
 sNil) sNil)
 (sSeq (sRet (eIf (eTest (eEq (eBor 0) (eC (.str "left")))) (eTup (aCons (eVar 1) (aCons (eC (.int 0)) aNil))) (eTup (aCons (eC (.int 0)) (aCons (eVar 1) aNil)))))
 sNil))
noncomputable def G_ends_of : Fn := callS N_ends_of.length g_ends_of
abbrev s_grown_net : Stmt := topS 33
abbrev N_grown_net : List Str := ["passes", "width", "side", "many", "left", "right", "cuts", "start", "end", "first", "last", "one", "low", "high", "order"]
theorem sc_grown_net : GScope N_grown_net ["passes", "width", "side", "many"] (defScope s_grown_net) := ⟨rfl, rfl, rfl, by decide +kernel, rfl, by decide +kernel, by decide +kernel⟩
noncomputable def g_grown_net : Gn :=
 (nThen (nPlain (sDrop (eCall 3 G_check_growing (aCons (eVar 0) (aCons (eVar 2) (aCons (eVar 3) aNil))))))
 (nThen (nPlain (sIf (tOrJ (tNotJ (eTest (eCall 1 G_is_whole (aCons (eVar 1) aNil)))) (tNotJ (eTest (eChain (g2B pLe) (g2B pLe) (eC (.int 0)) (eBor 1) (eC (.int 300)))))) (sSeq sNone
 sNil) sNil))
 (nThen (nPlain (sIf (eTest (eAny (aCons (eL (fLc (iItems (eBor 0)) (gN 11) tYesJ (eIn (eIx (eBor 11) (eC (.int 0))) (eTup (aCons (eC (.str "turn")) (aCons (eC (.str "round")) aNil)))) [11])) aNil))) (sSeq sNone
 sNil) sNil))
 (nThen (nPlain (sAsg (eCall 2 G_ends_of (aCons (eVar 2) (aCons (eVar 3) aNil))) (goN (gT 2 (gsCons (gN 4) (gsCons (gN 5) gsNil))))))
 (nThen (nPlain (sPar3 6 7 8 (pO (fLst aNil) (pD (eC (.int 0)) (pD (eVar 1) pNil)))))
 (nThen (nPlain (sWhile (eTest (eGe (eSub (eBor 8) (eBor 7)) (eBor 3))) (sSeq (sApp 6 (eTup (aCons (eVar 7) (aCons (eVar 8) aNil))))
 (sSeq (sPar2 7 8 (pD (eAdd (eBor 7) (eBor 4)) (pD (eSub (eBor 8) (eBor 5)) pNil)))
 sNil))))
 (nThen (nFor (iItems (eL (fRev (eBor 6)))) (gT 2 (gsCons (gN 9) (gsCons (gN 10) gsNil))) (nThen (nFor (iItems (eVar 0)) (gN 11) (nThen (nFor (iItems (eCall 2 G_exchanges (aCons (eVar 11) (aCons (eSub (eBor 10) (eBor 9)) aNil)))) (gT 3 (gsCons (gN 12) (gsCons (gN 13) (gsCons (gN 14) gsNil)))) (nThen (nYield (eTup (aCons (eAdd (eBor 9) (eBor 12)) (aCons (eAdd (eBor 9) (eBor 13)) (aCons (eVar 14) aNil)))))
 nNilG))
 nNilG))
 nNilG))
 nNilG)))))))
noncomputable def G_grown_net : Fg := callG N_grown_net.length g_grown_net
abbrev s_check_size : Stmt := topS 37
abbrev N_check_size : List Str := ["size"]
theorem sc_check_size : FnScope N_check_size ["size"] (defScope s_check_size) := ⟨rfl, rfl, rfl, by decide +kernel, rfl, by decide +kernel, by decide +kernel⟩
noncomputable def g_check_size : Es :=
 (sSeq (sIf (tOrJ (tNotJ (eTest (eCall 1 G_is_whole (aCons (eVar 0) aNil)))) (tNotJ (eTest (eChain (g2B pLe) (g2B pLe) (eC (.int 0)) (eBor 0) (eC (.int 1000000)))))) (sSeq sNone
 sNil) sNil)
 sNil)
noncomputable def G_check_size : Fn := callS N_check_size.length g_check_size
abbrev s_pass_number : Stmt := topS 38
abbrev N_pass_number : List Str := ["one", "width"]
theorem sc_pass_number : FnScope N_pass_number ["one", "width"] (defScope s_pass_number) := ⟨rfl, rfl, rfl, by decide +kernel, rfl, by decide +kernel, by decide +kernel⟩
noncomputable def g_pass_number : Es :=
 (sSeq (sIf (eTest (eEq (eIx (eBor 0) (eC (.int 0))) (eC (.str "chain")))) (sSeq (sRet (eMax (aCons (eL (fLst (aCons (eC (.int 0)) (aCons (eSub (eBor 1) (eC (.int 1))) aNil)))) aNil)))
 sNil) sNil)
 (sSeq (sIf (eTest (eEq (eIx (eBor 0) (eC (.int 0))) (eC (.str "ends")))) (sSeq (sRet (eIf (eTest (eGt (eBor 1) (eC (.int 1)))) (eC (.int 1)) (eC (.int 0))))
 sNil) sNil)
 (sSeq (sIf (eTest (eEq (eIx (eBor 0) (eC (.int 0))) (eC (.str "layer")))) (sSeq (sRet (eMax (aCons (eL (fLst (aCons (eC (.int 0)) (aCons (eNeg (eDiv (eNeg (eSub (eSub (eBor 1) (eC (.int 1))) (eIx (eBor 0) (eC (.int 2))))) (eIx (eBor 0) (eC (.int 3))))) aNil)))) aNil)))
 sNil) sNil)
 (sSeq (sRet (eC (.int 0)))
 sNil))))
noncomputable def G_pass_number : Fn := callS N_pass_number.length g_pass_number
abbrev s_number_at : Stmt := topS 39
abbrev N_number_at : List Str := ["passes", "width", "one"]
theorem sc_number_at : FnScope N_number_at ["passes", "width"] (defScope s_number_at) := ⟨rfl, rfl, rfl, by decide +kernel, rfl, by decide +kernel, by decide +kernel⟩
noncomputable def g_number_at : Es :=
 (sSeq (sDrop (eCall 1 G_check_passes (aCons (eVar 0) aNil)))
 (sSeq (sDrop (eCall 1 G_check_size (aCons (eVar 1) aNil)))
 (sSeq (sRet (eSumB (aCons (eL (fLc (iItems (eBor 0)) (gN 2) tYesJ (eCall 2 G_pass_number (aCons (eVar 2) (aCons (eVar 1) aNil))) [2])) aNil)))
 sNil)))
noncomputable def G_number_at : Fn := callS N_number_at.length g_number_at
abbrev s_common : Stmt := topS 41
abbrev N_common : List Str := ["one", "other"]
theorem sc_common : FnScope N_common ["one", "other"] (defScope s_common) := ⟨rfl, rfl, rfl, by decide +kernel, rfl, by decide +kernel, by decide +kernel⟩
noncomputable def g_common : Es :=
 (sSeq (sWhile (eTest (eGt (eBor 1) (eC (.int 0)))) (sSeq (sPar2 0 1 (pD (eVar 1) (pD (eMod (eBor 0) (eBor 1)) pNil)))
 sNil))
 (sSeq (sRet (eVar 0))
 sNil))
noncomputable def G_common : Fn := callS N_common.length g_common
abbrev s_period_of : Stmt := topS 40
abbrev N_period_of : List Str := ["passes", "found", "one"]
theorem sc_period_of : FnScope N_period_of ["passes"] (defScope s_period_of) := ⟨rfl, rfl, rfl, by decide +kernel, rfl, by decide +kernel, by decide +kernel⟩
noncomputable def g_period_of : Es :=
 (sSeq (sSet 1 (eC (.int 1)))
 (sSeq (sFor (iItems (eVar 0)) (gN 2) (sSeq (sIf (eTest (eEq (eIx (eBor 2) (eC (.int 0))) (eC (.str "layer")))) (sSeq (sSet 1 (eDiv (eMul (eBor 1) (eIx (eBor 2) (eC (.int 3)))) (eCall 2 G_common (aCons (eVar 1) (aCons (eIx (eBor 2) (eC (.int 3))) aNil)))))
 sNil) sNil)
 sNil))
 (sSeq (sRet (eVar 1))
 sNil)))
noncomputable def G_period_of : Fn := callS N_period_of.length g_period_of
abbrev s_unlike_width : Stmt := topS 42
abbrev N_unlike_width : List Str := ["one", "other", "most", "width"]
theorem sc_unlike_width : FnScope N_unlike_width ["one", "other"] (defScope s_unlike_width) := ⟨rfl, rfl, rfl, by decide +kernel, rfl, by decide +kernel, by decide +kernel⟩
noncomputable def g_unlike_width : Es :=
 (sSeq (sDrop (eCall 1 G_check_passes (aCons (eVar 0) aNil)))
 (sSeq (sDrop (eCall 1 G_check_passes (aCons (eVar 1) aNil)))
 (sSeq (sSet 2 (eAdd (eC (.int 8)) (eMul (eC (.int 2)) (eCall 1 G_period_of (aCons (eL (fLst (aStar (eBor 0) (aStar (eBor 1) aNil)))) aNil)))))
 (sSeq (sFor (iRg (eC (.int 0)) (eBor 2)) (gN 3) (sSeq (sIf (eTest (eNe (eCall 2 G_number_at (aCons (eVar 0) (aCons (eVar 3) aNil))) (eCall 2 G_number_at (aCons (eVar 1) (aCons (eVar 3) aNil))))) (sSeq (sRet (eVar 3))
 sNil) sNil)
 sNil))
 (sSeq (sRet (eC .non))
 sNil)))))
noncomputable def G_unlike_width : Fn := callS N_unlike_width.length g_unlike_width
abbrev s_grown_number : Stmt := topS 43
abbrev N_grown_number : List Str := ["passes", "width", "side", "many", "one"]
theorem sc_grown_number : FnScope N_grown_number ["passes", "width", "side", "many"] (defScope s_grown_number) := ⟨rfl, rfl, rfl, by decide +kernel, rfl, by decide +kernel, by decide +kernel⟩
noncomputable def g_grown_number : Es :=
 (sSeq (sDrop (eCall 3 G_check_growing (aCons (eVar 0) (aCons (eVar 2) (aCons (eVar 3) aNil)))))
 (sSeq (sIf (tOrJ (tNotJ (eTest (eCall 1 G_is_whole (aCons (eVar 1) aNil)))) (tNotJ (eTest (eChain (g2B pLe) (g2B pLe) (eC (.int 0)) (eBor 1) (eC (.int 2000)))))) (sSeq sNone
 sNil) sNil)
 (sSeq (sRet (eSumB (aCons (eL (fLc (iRg3 (eAdd (eMod (eBor 1) (eBor 3)) (eBor 3)) (eAdd (eBor 1) (eC (.int 1))) (eBor 3)) (gN 4) tYesJ (eCall 2 G_number_at (aCons (eVar 0) (aCons (eVar 4) aNil))) [4])) aNil)))
 sNil)))
noncomputable def G_grown_number : Fn := callS N_grown_number.length g_grown_number
abbrev s_unlike_growth : Stmt := topS 44
abbrev N_unlike_growth : List Str := ["one", "other", "side", "many", "most", "width"]
theorem sc_unlike_growth : FnScope N_unlike_growth ["one", "other", "side", "many"] (defScope s_unlike_growth) := ⟨rfl, rfl, rfl, by decide +kernel, rfl, by decide +kernel, by decide +kernel⟩
noncomputable def g_unlike_growth : Es :=
 (sSeq (sDrop (eCall 3 G_check_growing (aCons (eVar 0) (aCons (eVar 2) (aCons (eVar 3) aNil)))))
 (sSeq (sDrop (eCall 3 G_check_growing (aCons (eVar 1) (aCons (eVar 2) (aCons (eVar 3) aNil)))))
 (sSeq (sSet 4 (eAdd (eC (.int 8)) (eMul (eMul (eC (.int 3)) (eBor 3)) (eCall 1 G_period_of (aCons (eL (fLst (aStar (eBor 0) (aStar (eBor 1) aNil)))) aNil)))))
 (sSeq (sFor (iRg (eC (.int 0)) (eBor 4)) (gN 5) (sSeq (sIf (eTest (eNe (eCallK 2 2 G_grown_number (aCons (eVar 0) (aCons (eVar 5) aNil)) (aCons (eVar 2) (aCons (eVar 3) aNil))) (eCallK 2 2 G_grown_number (aCons (eVar 1) (aCons (eVar 5) aNil)) (aCons (eVar 2) (aCons (eVar 3) aNil))))) (sSeq (sRet (eVar 5))
 sNil) sNil)
 sNil))
 (sSeq (sRet (eC .non))
 sNil)))))
noncomputable def G_unlike_growth : Fn := callS N_unlike_growth.length g_unlike_growth
abbrev s_own_number : Stmt := topS 45
abbrev N_own_number : List Str := ["loom", "half", "step"]
theorem sc_own_number : FnScope N_own_number ["loom", "half"] (defScope s_own_number) := ⟨rfl, rfl, rfl, by decide +kernel, rfl, by decide +kernel, by decide +kernel⟩
noncomputable def g_own_number : Es :=
 (sSeq (sRet (eMul (eBor 1) (eLen (aCons (eL (fLc (iItems (eIx (eBor 0) (eC (.int 0)))) (gN 2) (eTest (eIn (eIx (eBor 2) (eC (.int 0))) (eTup (aCons (eC (.str "cross")) (aCons (eC (.str "mirror")) aNil))))) (eVar 2) [2])) aNil))))
 sNil)
noncomputable def G_own_number : Fn := callS N_own_number.length g_own_number
abbrev s_check_doublings : Stmt := topS 47
abbrev N_check_doublings : List Str := ["most"]
theorem sc_check_doublings : FnScope N_check_doublings ["most"] (defScope s_check_doublings) := ⟨rfl, rfl, rfl, by decide +kernel, rfl, by decide +kernel, by decide +kernel⟩
noncomputable def g_check_doublings : Es :=
 (sSeq (sIf (tOrJ (tNotJ (eTest (eCall 1 G_is_whole (aCons (eVar 0) aNil)))) (tNotJ (eTest (eChain (g2B pLe) (g2B pLe) (eC (.int 0)) (eBor 0) (eC (.int 300)))))) (sSeq sNone
 sNil) sNil)
 sNil)
noncomputable def G_check_doublings : Fn := callS N_check_doublings.length g_check_doublings
abbrev s_loom_numbers : Stmt := topS 46
abbrev N_loom_numbers : List Str := ["looms", "name", "most", "rows", "half", "turn", "late", "one", "loom", "number", "call"]
theorem sc_loom_numbers : FnScope N_loom_numbers ["looms", "name", "most"] (defScope s_loom_numbers) := ⟨rfl, rfl, rfl, by decide +kernel, rfl, by decide +kernel, by decide +kernel⟩
noncomputable def g_loom_numbers : Es :=
 (sSeq (sDrop (eCall 2 G_check_name (aCons (eVar 0) (aCons (eVar 1) aNil))))
 (sSeq (sDrop (eCall 1 G_check_doublings (aCons (eVar 2) aNil)))
 (sSeq (sPar2 3 4 (pLL (fDc (iDKeys (eVar 0)) (gN 7) (eVar 7) (fLst (aCons (eC (.int 0)) aNil)) [7]) (pD (eC (.int 1)) pNil)))
 (sSeq (sFor (iRg (eC (.int 0)) (eBor 2)) (gN 5) (sSeq (sSetN 6 nNew)
 (sSeq (sFor (iDItems (eVar 0)) (gT 2 (gsCons (gN 7) (gsCons (gN 8) gsNil))) (sSeq (sDPut' 6 (eBor 7) (eAdd (eCall 2 G_own_number (aCons (eVar 8) (aCons (eVar 4) aNil))) (eSumB (aCons (eL (fLc (iItems (eSlT (eBor 8) (oSo (eC (.int 1))) oNo)) (gN 10) (eTest (eIsNot (eBor 10) (eC .non))) (eIx (eLlAt 3 (eIx (eBor 10) (eC (.int 0)))) (eNeg (eC (.int 1)))) [10])) aNil))))
 sNil))
 (sFrzD 6 (sSeq (sFor (iDItems (eVar 6)) (gT 2 (gsCons (gN 7) (gsCons (gN 9) gsNil))) (sSeq (sLlApp 3 (eBor 7) (eVar 9))
 sNil))
 (sSeq (sAug 4 mulD0 (eC (.int 2)))
 sNil))))))
 (sSeq (sLlRet 3 (eBor 1))
 sNil)))))
noncomputable def G_loom_numbers : Fn := callS N_loom_numbers.length g_loom_numbers
abbrev s_sorter_numbers : Stmt := topS 48
abbrev N_sorter_numbers : List Str := ["looms", "name", "most", "rows", "found", "number"]
theorem sc_sorter_numbers : FnScope N_sorter_numbers ["looms", "name", "most"] (defScope s_sorter_numbers) := ⟨rfl, rfl, rfl, by decide +kernel, rfl, by decide +kernel, by decide +kernel⟩
noncomputable def g_sorter_numbers : Es :=
 (sSeq (sPar2 3 4 (pD (eCall 3 G_loom_numbers (aCons (eVar 0) (aCons (eVar 1) (aCons (eVar 2) aNil)))) (pO (fLst (aCons (eC (.int 0)) aNil)) pNil)))
 (sSeq (sFor (iItems (eL (fSl (eBor 3) (oSo (eC (.int 1))) oNo))) (gN 5) (sSeq (sApp 4 (eAdd (eMul (eC (.int 2)) (eIx (eBor 4) (eNeg (eC (.int 1))))) (eBor 5)))
 sNil))
 (sFrz 4 (sSeq (sRet (eVar 4))
 sNil))))
noncomputable def G_sorter_numbers : Fn := callS N_sorter_numbers.length g_sorter_numbers
abbrev s_unlike_doubling : Stmt := topS 49
abbrev N_unlike_doubling : List Str := ["looms", "one", "other", "first", "second", "turn", "pair"]
theorem sc_unlike_doubling : FnScope N_unlike_doubling ["looms", "one", "other"] (defScope s_unlike_doubling) := ⟨rfl, rfl, rfl, by decide +kernel, rfl, by decide +kernel, by decide +kernel⟩
noncomputable def g_unlike_doubling : Es :=
 (sSeq (sDrop (eCall 2 G_check_name (aCons (eVar 0) (aCons (eVar 1) aNil))))
 (sSeq (sDrop (eCall 2 G_check_name (aCons (eVar 0) (aCons (eVar 2) aNil))))
 (sSeq (sPar2 3 4 (pD (eCall 3 G_loom_numbers (aCons (eVar 0) (aCons (eVar 1) (aCons (eAdd (eLenD (aCons (eBor 0) aNil)) (eC (.int 1))) aNil)))) (pD (eCall 3 G_loom_numbers (aCons (eVar 0) (aCons (eVar 2) (aCons (eAdd (eLenD (aCons (eBor 0) aNil)) (eC (.int 1))) aNil)))) pNil)))
 (sSeq (sFor (iEnumZip (aCons (eVar 3) (aCons (eVar 4) aNil))) (gT 2 (gsCons (gN 5) (gsCons (gN 6) gsNil))) (sSeq (sIf (eTest (eNe (eIx (eBor 6) (eC (.int 0))) (eIx (eBor 6) (eC (.int 1))))) (sSeq (sRet (eVar 5))
 sNil) sNil)
 sNil))
 (sSeq (sRet (eC .non))
 sNil)))))
noncomputable def G_unlike_doubling : Fn := callS N_unlike_doubling.length g_unlike_doubling
abbrev s__law_cell_at : Stmt := topS 51
abbrev N__law_cell_at : List Str := ["_law_script", "_law_k"]
theorem sc__law_cell_at : FnScope N__law_cell_at ["_law_script", "_law_k"] (defScope s__law_cell_at) := ⟨rfl, rfl, rfl, by decide +kernel, rfl, by decide +kernel, by decide +kernel⟩
noncomputable def g__law_cell_at : Es :=
 (sSeq (sIf (eTest (eLt (eBor 1) (eLen (aCons (eBor 0) aNil)))) (sSeq (sRet (eIx (eBor 0) (eBor 1)))
 sNil) sNil)
 (sSeq (sRet (eC (.int 0)))
 sNil))
noncomputable def G__law_cell_at : Fn := callS N__law_cell_at.length g__law_cell_at
abbrev s__law_draw : Stmt := topS 52
abbrev N__law_draw : List Str := ["_law_cell", "_law_k", "_law_bound", "_law_primes"]
theorem sc__law_draw : FnScope N__law_draw ["_law_cell", "_law_k", "_law_bound"] (defScope s__law_draw) := ⟨rfl, rfl, rfl, by decide +kernel, rfl, by decide +kernel, by decide +kernel⟩
noncomputable def g__law_draw : Es :=
 (sSeq (sSet 3 (eTup (aCons (eC (.int 1000003)) (aCons (eC (.int 1000033)) (aCons (eC (.int 1000037)) (aCons (eC (.int 1000039)) (aCons (eC (.int 1000081)) (aCons (eC (.int 1000099)) (aCons (eC (.int 1000117)) (aCons (eC (.int 1000121)) (aCons (eC (.int 1000133)) (aCons (eC (.int 1000151)) (aCons (eC (.int 1000159)) (aCons (eC (.int 1000171)) (aCons (eC (.int 1000183)) (aCons (eC (.int 1000187)) (aCons (eC (.int 1000193)) (aCons (eC (.int 1000199)) aNil))))))))))))))))))
 (sSeq (sRet (eMod (eMod (eInt (aCons (eAdd (eMul (eBor 0) (eC (.int 48271))) (eMul (eBor 1) (eC (.int 69621)))) aNil)) (eIx (eBor 3) (eMod (eInt (aCons (eBor 1) aNil)) (eC (.int 16))))) (eBor 2)))
 sNil))
noncomputable def G__law_draw : Fn := callS N__law_draw.length g__law_draw
abbrev s__law_number : Stmt := topS 53
abbrev N__law_number : List Str := ["_law_cell", "_law_k", "_law_bound", "_law_power", "_law_lap", "_law_remains", "_law_small"]
theorem sc__law_number : FnScope N__law_number ["_law_cell", "_law_k", "_law_bound"] (defScope s__law_number) := ⟨rfl, rfl, rfl, by decide +kernel, rfl, by decide +kernel, by decide +kernel⟩
noncomputable def g__law_number : Es :=
 (sSeq (sSet 3 (eC (.int 1)))
 (sSeq (sFor (iRg (eC (.int 0)) (eMod (eInt (aCons (eBor 1) aNil)) (eC (.int 24)))) (gN 4) (sSeq (sSet 3 (eMul (eBor 3) (eC (.int 1009))))
 sNil))
 (sSeq (sSet 5 (eDiv (eSub (eBor 0) (ePow (eC (.int 10)) (eC (.int 18)))) (eBor 3)))
 (sSeq (sIf (eTest (eGt (eBor 5) (eC (.int 0)))) (sSeq (sRet (eMod (eMod (eInt (aCons (eBor 5) aNil)) (eC (.int 1009))) (eBor 2)))
 sNil) sNil)
 (sSeq (sSet 6 (eMod (eInt (aCons (eBor 0) aNil)) (eC (.int 1000003))))
 (sSeq (sRet (eMod (eCall 3 G__law_draw (aCons (eMul (eAdd (eBor 6) (eMul (eC (.int 977)) (eBor 1))) (eAdd (eAdd (eBor 6) (eMul (eC (.int 31)) (eBor 1))) (eC (.int 5)))) (aCons (eAdd (eMod (eInt (aCons (eBor 1) aNil)) (eC (.int 9))) (eC (.int 1))) (aCons (eC (.int 999983)) aNil)))) (eBor 2)))
 sNil))))))
noncomputable def G__law_number : Fn := callS N__law_number.length g__law_number
abbrev s__law_next : Stmt := topS 54
abbrev N__law_next : List Str := ["_law_draw_here", "_law_bound", "_law_at", "_law_cell"]
theorem sc__law_next : FnScope N__law_next ["_law_draw_here", "_law_bound"] (defScope s__law_next) := ⟨rfl, rfl, rfl, by decide +kernel, rfl, by decide +kernel, by decide +kernel⟩
noncomputable def g__law_next : Es :=
 (sSeq (sAsg (eAdd (eDrIx (eVar 0) (eC (.int 2))) (eC (.int 1))) (goDr (eVar 0) (eC (.int 2))))
 (sSeq (sSet 2 (eDiv (eDrIx (eVar 0) (eC (.int 2))) (eC (.int 12))))
 (sSeq (sSet 3 (eAdd (eCall 2 G__law_cell_at (aCons (eDrIx (eVar 0) (eC (.int 0))) (aCons (eAdd (eDrIx (eVar 0) (eC (.int 1))) (eBor 2)) aNil))) (eMul (eC (.int 31)) (eBor 2))))
 (sSeq (sRet (eCall 3 G__law_number (aCons (eVar 3) (aCons (eAdd (eMod (eInt (aCons (eDrIx (eVar 0) (eC (.int 2))) aNil)) (eC (.int 12))) (eC (.int 1))) (aCons (eVar 1) aNil)))))
 sNil))))
noncomputable def G__law_next : Fn := callS N__law_next.length g__law_next
abbrev s__law_pick : Stmt := topS 55
abbrev N__law_pick : List Str := ["_law_draw_here", "_law_things"]
theorem sc__law_pick : FnScope N__law_pick ["_law_draw_here", "_law_things"] (defScope s__law_pick) := ⟨rfl, rfl, rfl, by decide +kernel, rfl, by decide +kernel, by decide +kernel⟩
noncomputable def g__law_pick : Es :=
 (sSeq (sRet (eIx (eBor 1) (eCall 2 G__law_next (aCons (eVar 0) (aCons (eLen (aCons (eBor 1) aNil)) aNil)))))
 sNil)
noncomputable def G__law_pick : Fn := callS N__law_pick.length g__law_pick
abbrev s__law_pass : Stmt := topS 56
abbrev N__law_pass : List Str := ["_law_draw_here", "_law_kind", "_law_way", "_law_order", "_law_step"]
theorem sc__law_pass : FnScope N__law_pass ["_law_draw_here"] (defScope s__law_pass) := ⟨rfl, rfl, rfl, by decide +kernel, rfl, by decide +kernel, by decide +kernel⟩
noncomputable def g__law_pass : Es :=
 (sSeq (sPar3 1 2 3 (pD (eCall 2 G__law_next (aCons (eVar 0) (aCons (eC (.int 7)) aNil))) (pD (eCall 2 G__law_pick (aCons (eVar 0) (aCons (eL (fLst (aCons (eC (.str "right")) (aCons (eC (.str "left")) aNil)))) aNil))) (pD (eCall 2 G__law_pick (aCons (eVar 0) (aCons (eL (fLst (aCons (eC (.str "up")) (aCons (eC (.str "up")) (aCons (eC (.str "down")) aNil))))) aNil))) pNil))))
 (sSeq (sIf (tOrJ (eTest (eLt (eBor 1) (eC (.int 3)))) (eTest (eEq (eBor 1) (eC (.int 6))))) (sSeq (sRet (eTup (aCons (eIf (eTest (eLt (eBor 1) (eC (.int 3)))) (eC (.str "chain")) (eC (.str "ends"))) (aCons (eVar 2) (aCons (eVar 3) aNil)))))
 sNil) sNil)
 (sSeq (sIf (eTest (eLt (eBor 1) (eC (.int 5)))) (sSeq (sSet 4 (eAdd (eC (.int 2)) (eCall 2 G__law_next (aCons (eVar 0) (aCons (eC (.int 3)) aNil)))))
 (sSeq (sRet (eTup (aCons (eC (.str "layer")) (aCons (eVar 2) (aCons (eCall 2 G__law_next (aCons (eVar 0) (aCons (eVar 4) aNil))) (aCons (eVar 4) (aCons (eVar 3) aNil)))))))
 sNil)) sNil)
 (sSeq (sRet (eCall 2 G__law_pick (aCons (eVar 0) (aCons (eL (fLst (aCons (eTup (aCons (eC (.str "turn")) aNil)) (aCons (eTup (aCons (eC (.str "round")) (aCons (eVar 2) aNil))) aNil)))) aNil))))
 sNil))))
noncomputable def G__law_pass : Fn := callS N__law_pass.length g__law_pass
abbrev s__law_number_of : Stmt := topS 58
abbrev N__law_number_of : List Str := ["_law_looms", "_law_name", "_law_turn", "_law_half", "_law_lap", "_law_steps", "_law_one", "_law_other", "_law_call", "_law_step"]
theorem sc__law_number_of : FnScope N__law_number_of ["_law_looms", "_law_name", "_law_turn"] (defScope s__law_number_of) := ⟨rfl, rfl, rfl, by decide +kernel, rfl, by decide +kernel, by decide +kernel⟩
noncomputable def g__law_number_of (Gr : Fn) : Es :=
 (sSeq (sIf (eTest (eEq (eBor 2) (eC (.int 0)))) (sSeq (sRet (eC (.int 0)))
 sNil) sNil)
 (sSeq (sSet 3 (eC (.int 1)))
 (sSeq (sFor (iRg (eC (.int 0)) (eSub (eBor 2) (eC (.int 1)))) (gN 4) (sSeq (sSet 3 (eMul (eBor 3) (eC (.int 2))))
 sNil))
 (sSeq (sAsg (eDAt (eBor 0) (eBor 1)) (goN (gT 3 (gsCons (gN 5) (gsCons (gN 6) (gsCons (gN 7) gsNil))))))
 (sSeq (sRet (eAdd (eMul (eBor 3) (eLen (aCons (eL (fLc (iItems (eBor 5)) (gN 9) (eTest (eIn (eIx (eBor 9) (eC (.int 0))) (eTup (aCons (eC (.str "cross")) (aCons (eC (.str "mirror")) aNil))))) (eVar 9) [9])) aNil))) (eSumB (aCons (eL (fLc (iItems (eTup (aCons (eVar 6) (aCons (eVar 7) aNil)))) (gN 8) (eTest (eIsNot (eBor 8) (eC .non))) (eCall 3 Gr (aCons (eVar 0) (aCons (eIx (eBor 8) (eC (.int 0))) (aCons (eSub (eBor 2) (eC (.int 1))) aNil)))) [8])) aNil))))
 sNil)))))
noncomputable def Gi__law_number_of : Nat → Fn
  | 0 => callS N__law_number_of.length fun _ _ => none
  | j + 1 => callS N__law_number_of.length (g__law_number_of (Gi__law_number_of j))
noncomputable def G__law_number_of : Fn := Gi__law_number_of 9
abbrev s__law_numbers : Stmt := topS 57
abbrev N__law_numbers : List Str := ["_law_looms", "_law_name", "_law_most", "_law_found", "_law_turn"]
theorem sc__law_numbers : FnScope N__law_numbers ["_law_looms", "_law_name", "_law_most"] (defScope s__law_numbers) := ⟨rfl, rfl, rfl, by decide +kernel, rfl, by decide +kernel, by decide +kernel⟩
noncomputable def g__law_numbers : Es :=
 (sSeq (sSetO 3 (fLst aNil))
 (sSeq (sFor (iRg (eC (.int 0)) (eAdd (eBor 2) (eC (.int 1)))) (gN 4) (sSeq (sApp 3 (eCall 3 G__law_number_of (aCons (eVar 0) (aCons (eVar 1) (aCons (eVar 4) aNil)))))
 sNil))
 (sFrz 3 (sSeq (sRet (eVar 3))
 sNil))))
noncomputable def G__law_numbers : Fn := callS N__law_numbers.length g__law_numbers
abbrev s_law : Stmt := topS 59
abbrev N_law : List Str := ["_law_script", "_law_draw_here", "_law_one", "_law_other", "_law_least", "_law_width", "_law_numbers_here", "_law_side", "_law_many", "_law_grown", "_law_late", "_law_number_here", "_law_names", "_law_looms", "_law_name", "_law_steps", "_law_calls", "_law_rows", "_law_sums", "_law_apart", "_law_turn", "_law_some", "_law_step", "_law_size"]
theorem sc_law : FnScope N_law ["_law_script"] (defScope s_law) := ⟨rfl, rfl, rfl, by decide +kernel, rfl, by decide +kernel, by decide +kernel⟩
noncomputable def g_law : Es :=
 (sSeq (sAsg (eTup (aCons (eL (fLc (iRg (eC (.int 0)) (eCall 2 G__law_next (aCons (eVar 1) (aCons (eC (.int 4)) aNil)))) (gN 20) tYesJ (eCall 1 G__law_pass (aCons (eVar 1) aNil)) [20])) (aCons (eL (fLc (iRg (eC (.int 0)) (eCall 2 G__law_next (aCons (eVar 1) (aCons (eC (.int 4)) aNil)))) (gN 20) tYesJ (eCall 1 G__law_pass (aCons (eVar 1) aNil)) [20])) aNil))) (goN (gT 2 (gsCons (gN 2) (gsCons (gN 3) gsNil)))))
 (sSeq (sIf (eTest (eEq (eCall 2 G__law_next (aCons (eVar 1) (aCons (eC (.int 3)) aNil))) (eC (.int 0)))) (sSeq (sSet 3 (eAdd (eL (fRev (eBor 2))) (eL (fLst (aCons (eTup (aCons (eC (.str "turn")) aNil)) aNil)))))
 sNil) sNil)
 (sSeq (sSet 4 (eC .non))
 (sSeq (sFor (iRg (eC (.int 0)) (eC (.int 40))) (gN 5) (sSeq (sSetO 6 (fLc (iItems (eTup (aCons (eVar 2) (aCons (eVar 3) aNil)))) (gN 21) tYesJ (eSumB (aCons (eL (fLc (iItems (eBor 21)) (gN 22) tYesJ (eLen (aCons (eCall 2 G_exchanges (aCons (eVar 22) (aCons (eVar 5) aNil))) aNil)) [22])) aNil)) [21]))
 (sFrz 6 (sSeq (sIf (eTest (eNe (eCall 2 G_number_at (aCons (eTuple (aCons (eBor 2) aNil)) (aCons (eVar 5) aNil))) (eIx (eBor 6) (eC (.int 0))))) (sSeq (sRet (eC (.bl false)))
 sNil) sNil)
 (sSeq (sIf (tAndJ (eTest (eNe (eIx (eBor 6) (eC (.int 0))) (eIx (eBor 6) (eC (.int 1))))) (eTest (eIs (eBor 4) (eC .non)))) (sSeq (sSet 4 (eVar 5))
 sNil) sNil)
 sNil)))))
 (sSeq (sIf (eTest (eNe (eCall 2 G_unlike_width (aCons (eVar 2) (aCons (eVar 3) aNil))) (eBor 4))) (sSeq (sRet (eC (.bl false)))
 sNil) sNil)
 (sSeq (sAsg (eCall 2 G__law_pick (aCons (eVar 1) (aCons (eL (fLst (aCons (eTup (aCons (eC (.str "right")) (aCons (eC (.int 1)) aNil))) (aCons (eTup (aCons (eC (.str "left")) (aCons (eC (.int 2)) aNil))) (aCons (eTup (aCons (eC (.str "both")) (aCons (eC (.int 2)) aNil))) (aCons (eTup (aCons (eC (.str "left")) (aCons (eC (.int 1)) aNil))) aNil)))))) aNil))) (goN (gT 2 (gsCons (gN 7) (gsCons (gN 8) gsNil)))))
 (sSeq (sAsg (eTup (aCons (eC .non) (aCons (eC .non) aNil))) (goN (gT 2 (gsCons (gN 9) (gsCons (gN 10) gsNil)))))
 (sSeq (sFor (iRg (eC (.int 0)) (eC (.int 30))) (gN 5) (sSeq (sSet 11 (eCallK 2 2 G_grown_number (aCons (eVar 2) (aCons (eVar 5) aNil)) (aCons (eVar 7) (aCons (eVar 8) aNil))))
 (sSeq (sIf (eTest (eNe (eBor 11) (eSumB (aCons (eL (fLc (iRg (eC (.int 1)) (eAdd (eBor 5) (eC (.int 1)))) (gN 23) (tAndJ (eTest (eGe (eBor 23) (eBor 8))) (eTest (eEq (eMod (eSub (eBor 5) (eBor 23)) (eBor 8)) (eC (.int 0))))) (eCall 2 G_number_at (aCons (eVar 2) (aCons (eVar 23) aNil))) [23])) aNil)))) (sSeq (sRet (eC (.bl false)))
 sNil) sNil)
 (sSeq (sIf (tAndJ (eTest (eIs (eBor 9) (eC .non))) (eTest (eNe (eBor 11) (eCallK 2 2 G_grown_number (aCons (eVar 3) (aCons (eVar 5) aNil)) (aCons (eVar 7) (aCons (eVar 8) aNil)))))) (sSeq (sSet 9 (eVar 5))
 sNil) sNil)
 (sSeq (sIf (tAndJ (eTest (eLt (eBor 5) (eC (.int 8)))) (tAndJ (tNotJ (eTest (eAny (aCons (eL (fLc (iItems (eBor 2)) (gN 22) tYesJ (eIn (eIx (eBor 22) (eC (.int 0))) (eTup (aCons (eC (.str "turn")) (aCons (eC (.str "round")) aNil)))) [22])) aNil)))) (eTest (eNe (eLen (aCons (eL (fListG 2 2 G_grown_net (aCons (eVar 2) (aCons (eVar 5) aNil)) (aCons (eVar 7) (aCons (eVar 8) aNil)))) aNil)) (eBor 11))))) (sSeq (sRet (eC (.bl false)))
 sNil) sNil)
 sNil)))))
 (sSeq (sIf (eTest (eNe (eCallK 2 2 G_unlike_growth (aCons (eVar 2) (aCons (eVar 3) aNil)) (aCons (eVar 7) (aCons (eVar 8) aNil))) (eBor 9))) (sSeq (sRet (eC (.bl false)))
 sNil) sNil)
 (sSeq (sPar2 12 13 (pD (eL (fLst (aCons (eC (.str "a")) (aCons (eC (.str "b")) (aCons (eC (.str "c")) aNil))))) (pN nNew pNil)))
 (sSeq (sFor (iItems (eVar 12)) (gN 14) (sSeq (sSet 15 (eTuple (aCons (eL (fLc (iRg (eC (.int 0)) (eCall 2 G__law_next (aCons (eVar 1) (aCons (eC (.int 3)) aNil)))) (gN 20) tYesJ (eCall 2 G__law_pick (aCons (eVar 1) (aCons (eL (fLst (aCons (eTup (aCons (eC (.str "cross")) (aCons (eC (.str "up")) aNil))) (aCons (eTup (aCons (eC (.str "mirror")) (aCons (eC (.str "down")) aNil))) (aCons (eTup (aCons (eC (.str "swap")) aNil)) (aCons (eTup (aCons (eC (.str "flip")) (aCons (eC (.str "all")) aNil))) aNil)))))) aNil))) [20])) aNil)))
 (sSeq (sSetO 16 (fLc (iRg (eC (.int 0)) (eC (.int 2))) (gN 20) tYesJ (eIf (eTest (eEq (eCall 2 G__law_next (aCons (eVar 1) (aCons (eC (.int 3)) aNil))) (eC (.int 0)))) (eC .non) (eTup (aCons (eCall 2 G__law_pick (aCons (eVar 1) (aCons (eVar 12) aNil))) (aCons (eC (.bl false)) aNil)))) [20]))
 (sFrz 16 (sSeq (sDPut' 13 (eBor 14) (eTup (aCons (eVar 15) (aCons (eIx (eBor 16) (eC (.int 0))) (aCons (eIx (eBor 16) (eC (.int 1))) aNil)))))
 sNil)))))
 (sFrzD 13 (sSeq (sSetN 17 (nDict (aCons (eL (fLc (iItems (eBor 12)) (gN 14) tYesJ (eTup (aCons (eVar 14) (aCons (eCall 3 G__law_numbers (aCons (eVar 13) (aCons (eVar 14) (aCons (eC (.int 7)) aNil)))) aNil))) [14])) aNil)))
 (sFrzD 17 (sSeq (sIf (tOrJ (eTest (eNe (eCall 3 G_loom_numbers (aCons (eVar 13) (aCons (eC (.str "a")) (aCons (eC (.int 7)) aNil)))) (eDAt (eBor 17) (eC (.str "a"))))) (eTest (eNe (eCall 3 G_loom_numbers (aCons (eVar 13) (aCons (eC (.str "b")) (aCons (eC (.int 0)) aNil)))) (eL (fLst (aCons (eC (.int 0)) aNil)))))) (sSeq (sRet (eC (.bl false)))
 sNil) sNil)
 (sSeq (sSetO 18 (fLst (aCons (eC (.int 0)) aNil)))
 (sSeq (sFor (iItems (eL (fSl (eDAt (eBor 17) (eC (.str "a"))) (oSo (eC (.int 1))) oNo))) (gN 11) (sSeq (sApp 18 (eAdd (eMul (eC (.int 2)) (eIx (eBor 18) (eNeg (eC (.int 1))))) (eBor 11)))
 sNil))
 (sSeq (sIf (eTest (eNe (eCall 3 G_sorter_numbers (aCons (eVar 13) (aCons (eC (.str "a")) (aCons (eC (.int 7)) aNil)))) (eBor 18))) (sSeq (sRet (eC (.bl false)))
 sNil) sNil)
 (sSeq (sSetO 19 (fLc (iRg (eC (.int 0)) (eC (.int 8))) (gN 20) (eTest (eNe (eIx (eDAt (eBor 17) (eC (.str "a"))) (eBor 20)) (eIx (eDAt (eBor 17) (eC (.str "b"))) (eBor 20)))) (eVar 20) [20]))
 (sFrz 19 (sSeq (sRet (eEq (eCall 3 G_unlike_doubling (aCons (eVar 13) (aCons (eC (.str "a")) (aCons (eC (.str "b")) aNil)))) (eIf (eTest (eNe (eBor 19) (eL (fLst aNil)))) (eIx (eBor 19) (eC (.int 0))) (eC .non))))
 sNil)))))))))))))))))))))
structure Txt (K : PySem.W.Frag) (mg : Str → Option Value) : Prop where
  n_all : mg "all" = none
  n_any : mg "any" = none
  n_bool : mg "bool" = none
  n_dict : mg "dict" = none
  n_enumerate : mg "enumerate" = none
  n_int : mg "int" = none
  n_isinstance : mg "isinstance" = none
  n_len : mg "len" = none
  n_list : mg "list" = none
  n_max : mg "max" = none
  n_range : mg "range" = none
  n_sorted : mg "sorted" = none
  n_str : mg "str" = none
  n_sum : mg "sum" = none
  n_tuple : mg "tuple" = none
  n_zip : mg "zip" = none
  x_LETTERS : ∃ (v : V) (u : Value), mg "LETTERS" = some u ∧ RelV v u ∧ ∀ p F, Den K p F (.str "abcdefghijklmnopqrstuvwxyz") v
  x_MOST_GROWN : ∃ (v : V) (u : Value), mg "MOST_GROWN" = some u ∧ RelV v u ∧ ∀ p F, Den K p F (.int 2000) v
  x_MOST_LOOMS : ∃ (v : V) (u : Value), mg "MOST_LOOMS" = some u ∧ RelV v u ∧ ∀ p F, Den K p F (.int 8) v
  x_MOST_SIZE : ∃ (v : V) (u : Value), mg "MOST_SIZE" = some u ∧ RelV v u ∧ ∀ p F, Den K p F (.int 1000000) v
  x_MOST_STEP : ∃ (v : V) (u : Value), mg "MOST_STEP" = some u ∧ RelV v u ∧ ∀ p F, Den K p F (.int 6) v
  x_MOST_STEPS : ∃ (v : V) (u : Value), mg "MOST_STEPS" = some u ∧ RelV v u ∧ ∀ p F, Den K p F (.int 12) v
  x_MOST_WIDTH : ∃ (v : V) (u : Value), mg "MOST_WIDTH" = some u ∧ RelV v u ∧ ∀ p F, Den K p F (.int 300) v
  x_ORDERS_doubles : ∃ (v : V) (u : Value), mg "ORDERS_doubles" = some u ∧ RelV v u ∧ ∀ p F, Den K p F (.tup [.str "up", .str "down"]) v
  x_ORDERS_passes : ∃ (v : V) (u : Value), mg "ORDERS_passes" = some u ∧ RelV v u ∧ ∀ p F, Den K p F (.tup [.str "up", .str "down"]) v
  x_SIDES_doubles : ∃ (v : V) (u : Value), mg "SIDES_doubles" = some u ∧ RelV v u ∧ ∀ p F, Den K p F (.tup [.str "left", .str "right", .str "both", .str "all"]) v
  x_SIDES_growing : ∃ (v : V) (u : Value), mg "SIDES_growing" = some u ∧ RelV v u ∧ ∀ p F, Den K p F (.tup [.str "right", .str "left", .str "both"]) v
  x_WAYS : ∃ (v : V) (u : Value), mg "WAYS" = some u ∧ RelV v u ∧ ∀ p F, Den K p F (.tup [.str "right", .str "left"]) v
theorem Txt.e_LETTERS {K : PySem.W.Frag} {mg : Str → Option Value} (T : Txt K mg) : ∃ (v : V) (u : Value), mg "LETTERS" = some u ∧ RelV v u ∧ ∀ p F, Den K p F (.str "abcdefghijklmnopqrstuvwxyz") v := T.x_LETTERS
theorem Txt.m_LETTERS {K : PySem.W.Frag} {mg : Str → Option Value} (T : Txt K mg) : mg "LETTERS" = some T.e_LETTERS.choose_spec.choose := T.e_LETTERS.choose_spec.choose_spec.1
theorem Txt.r_LETTERS {K : PySem.W.Frag} {mg : Str → Option Value} (T : Txt K mg) : RelV T.e_LETTERS.choose T.e_LETTERS.choose_spec.choose := T.e_LETTERS.choose_spec.choose_spec.2.1
theorem Txt.d_LETTERS {K : PySem.W.Frag} {mg : Str → Option Value} (T : Txt K mg) : ∀ p F, Den K p F (.str "abcdefghijklmnopqrstuvwxyz") T.e_LETTERS.choose := T.e_LETTERS.choose_spec.choose_spec.2.2
theorem Txt.e_MOST_GROWN {K : PySem.W.Frag} {mg : Str → Option Value} (T : Txt K mg) : ∃ (v : V) (u : Value), mg "MOST_GROWN" = some u ∧ RelV v u ∧ ∀ p F, Den K p F (.int 2000) v := T.x_MOST_GROWN
theorem Txt.m_MOST_GROWN {K : PySem.W.Frag} {mg : Str → Option Value} (T : Txt K mg) : mg "MOST_GROWN" = some T.e_MOST_GROWN.choose_spec.choose := T.e_MOST_GROWN.choose_spec.choose_spec.1
theorem Txt.r_MOST_GROWN {K : PySem.W.Frag} {mg : Str → Option Value} (T : Txt K mg) : RelV T.e_MOST_GROWN.choose T.e_MOST_GROWN.choose_spec.choose := T.e_MOST_GROWN.choose_spec.choose_spec.2.1
theorem Txt.d_MOST_GROWN {K : PySem.W.Frag} {mg : Str → Option Value} (T : Txt K mg) : ∀ p F, Den K p F (.int 2000) T.e_MOST_GROWN.choose := T.e_MOST_GROWN.choose_spec.choose_spec.2.2
theorem Txt.e_MOST_LOOMS {K : PySem.W.Frag} {mg : Str → Option Value} (T : Txt K mg) : ∃ (v : V) (u : Value), mg "MOST_LOOMS" = some u ∧ RelV v u ∧ ∀ p F, Den K p F (.int 8) v := T.x_MOST_LOOMS
theorem Txt.m_MOST_LOOMS {K : PySem.W.Frag} {mg : Str → Option Value} (T : Txt K mg) : mg "MOST_LOOMS" = some T.e_MOST_LOOMS.choose_spec.choose := T.e_MOST_LOOMS.choose_spec.choose_spec.1
theorem Txt.r_MOST_LOOMS {K : PySem.W.Frag} {mg : Str → Option Value} (T : Txt K mg) : RelV T.e_MOST_LOOMS.choose T.e_MOST_LOOMS.choose_spec.choose := T.e_MOST_LOOMS.choose_spec.choose_spec.2.1
theorem Txt.d_MOST_LOOMS {K : PySem.W.Frag} {mg : Str → Option Value} (T : Txt K mg) : ∀ p F, Den K p F (.int 8) T.e_MOST_LOOMS.choose := T.e_MOST_LOOMS.choose_spec.choose_spec.2.2
theorem Txt.e_MOST_SIZE {K : PySem.W.Frag} {mg : Str → Option Value} (T : Txt K mg) : ∃ (v : V) (u : Value), mg "MOST_SIZE" = some u ∧ RelV v u ∧ ∀ p F, Den K p F (.int 1000000) v := T.x_MOST_SIZE
theorem Txt.m_MOST_SIZE {K : PySem.W.Frag} {mg : Str → Option Value} (T : Txt K mg) : mg "MOST_SIZE" = some T.e_MOST_SIZE.choose_spec.choose := T.e_MOST_SIZE.choose_spec.choose_spec.1
theorem Txt.r_MOST_SIZE {K : PySem.W.Frag} {mg : Str → Option Value} (T : Txt K mg) : RelV T.e_MOST_SIZE.choose T.e_MOST_SIZE.choose_spec.choose := T.e_MOST_SIZE.choose_spec.choose_spec.2.1
theorem Txt.d_MOST_SIZE {K : PySem.W.Frag} {mg : Str → Option Value} (T : Txt K mg) : ∀ p F, Den K p F (.int 1000000) T.e_MOST_SIZE.choose := T.e_MOST_SIZE.choose_spec.choose_spec.2.2
theorem Txt.e_MOST_STEP {K : PySem.W.Frag} {mg : Str → Option Value} (T : Txt K mg) : ∃ (v : V) (u : Value), mg "MOST_STEP" = some u ∧ RelV v u ∧ ∀ p F, Den K p F (.int 6) v := T.x_MOST_STEP
theorem Txt.m_MOST_STEP {K : PySem.W.Frag} {mg : Str → Option Value} (T : Txt K mg) : mg "MOST_STEP" = some T.e_MOST_STEP.choose_spec.choose := T.e_MOST_STEP.choose_spec.choose_spec.1
theorem Txt.r_MOST_STEP {K : PySem.W.Frag} {mg : Str → Option Value} (T : Txt K mg) : RelV T.e_MOST_STEP.choose T.e_MOST_STEP.choose_spec.choose := T.e_MOST_STEP.choose_spec.choose_spec.2.1
theorem Txt.d_MOST_STEP {K : PySem.W.Frag} {mg : Str → Option Value} (T : Txt K mg) : ∀ p F, Den K p F (.int 6) T.e_MOST_STEP.choose := T.e_MOST_STEP.choose_spec.choose_spec.2.2
theorem Txt.e_MOST_STEPS {K : PySem.W.Frag} {mg : Str → Option Value} (T : Txt K mg) : ∃ (v : V) (u : Value), mg "MOST_STEPS" = some u ∧ RelV v u ∧ ∀ p F, Den K p F (.int 12) v := T.x_MOST_STEPS
theorem Txt.m_MOST_STEPS {K : PySem.W.Frag} {mg : Str → Option Value} (T : Txt K mg) : mg "MOST_STEPS" = some T.e_MOST_STEPS.choose_spec.choose := T.e_MOST_STEPS.choose_spec.choose_spec.1
theorem Txt.r_MOST_STEPS {K : PySem.W.Frag} {mg : Str → Option Value} (T : Txt K mg) : RelV T.e_MOST_STEPS.choose T.e_MOST_STEPS.choose_spec.choose := T.e_MOST_STEPS.choose_spec.choose_spec.2.1
theorem Txt.d_MOST_STEPS {K : PySem.W.Frag} {mg : Str → Option Value} (T : Txt K mg) : ∀ p F, Den K p F (.int 12) T.e_MOST_STEPS.choose := T.e_MOST_STEPS.choose_spec.choose_spec.2.2
theorem Txt.e_MOST_WIDTH {K : PySem.W.Frag} {mg : Str → Option Value} (T : Txt K mg) : ∃ (v : V) (u : Value), mg "MOST_WIDTH" = some u ∧ RelV v u ∧ ∀ p F, Den K p F (.int 300) v := T.x_MOST_WIDTH
theorem Txt.m_MOST_WIDTH {K : PySem.W.Frag} {mg : Str → Option Value} (T : Txt K mg) : mg "MOST_WIDTH" = some T.e_MOST_WIDTH.choose_spec.choose := T.e_MOST_WIDTH.choose_spec.choose_spec.1
theorem Txt.r_MOST_WIDTH {K : PySem.W.Frag} {mg : Str → Option Value} (T : Txt K mg) : RelV T.e_MOST_WIDTH.choose T.e_MOST_WIDTH.choose_spec.choose := T.e_MOST_WIDTH.choose_spec.choose_spec.2.1
theorem Txt.d_MOST_WIDTH {K : PySem.W.Frag} {mg : Str → Option Value} (T : Txt K mg) : ∀ p F, Den K p F (.int 300) T.e_MOST_WIDTH.choose := T.e_MOST_WIDTH.choose_spec.choose_spec.2.2
theorem Txt.e_ORDERS_doubles {K : PySem.W.Frag} {mg : Str → Option Value} (T : Txt K mg) : ∃ (v : V) (u : Value), mg "ORDERS_doubles" = some u ∧ RelV v u ∧ ∀ p F, Den K p F (.tup [.str "up", .str "down"]) v := T.x_ORDERS_doubles
theorem Txt.m_ORDERS_doubles {K : PySem.W.Frag} {mg : Str → Option Value} (T : Txt K mg) : mg "ORDERS_doubles" = some T.e_ORDERS_doubles.choose_spec.choose := T.e_ORDERS_doubles.choose_spec.choose_spec.1
theorem Txt.r_ORDERS_doubles {K : PySem.W.Frag} {mg : Str → Option Value} (T : Txt K mg) : RelV T.e_ORDERS_doubles.choose T.e_ORDERS_doubles.choose_spec.choose := T.e_ORDERS_doubles.choose_spec.choose_spec.2.1
theorem Txt.d_ORDERS_doubles {K : PySem.W.Frag} {mg : Str → Option Value} (T : Txt K mg) : ∀ p F, Den K p F (.tup [.str "up", .str "down"]) T.e_ORDERS_doubles.choose := T.e_ORDERS_doubles.choose_spec.choose_spec.2.2
theorem Txt.e_ORDERS_passes {K : PySem.W.Frag} {mg : Str → Option Value} (T : Txt K mg) : ∃ (v : V) (u : Value), mg "ORDERS_passes" = some u ∧ RelV v u ∧ ∀ p F, Den K p F (.tup [.str "up", .str "down"]) v := T.x_ORDERS_passes
theorem Txt.m_ORDERS_passes {K : PySem.W.Frag} {mg : Str → Option Value} (T : Txt K mg) : mg "ORDERS_passes" = some T.e_ORDERS_passes.choose_spec.choose := T.e_ORDERS_passes.choose_spec.choose_spec.1
theorem Txt.r_ORDERS_passes {K : PySem.W.Frag} {mg : Str → Option Value} (T : Txt K mg) : RelV T.e_ORDERS_passes.choose T.e_ORDERS_passes.choose_spec.choose := T.e_ORDERS_passes.choose_spec.choose_spec.2.1
theorem Txt.d_ORDERS_passes {K : PySem.W.Frag} {mg : Str → Option Value} (T : Txt K mg) : ∀ p F, Den K p F (.tup [.str "up", .str "down"]) T.e_ORDERS_passes.choose := T.e_ORDERS_passes.choose_spec.choose_spec.2.2
theorem Txt.e_SIDES_doubles {K : PySem.W.Frag} {mg : Str → Option Value} (T : Txt K mg) : ∃ (v : V) (u : Value), mg "SIDES_doubles" = some u ∧ RelV v u ∧ ∀ p F, Den K p F (.tup [.str "left", .str "right", .str "both", .str "all"]) v := T.x_SIDES_doubles
theorem Txt.m_SIDES_doubles {K : PySem.W.Frag} {mg : Str → Option Value} (T : Txt K mg) : mg "SIDES_doubles" = some T.e_SIDES_doubles.choose_spec.choose := T.e_SIDES_doubles.choose_spec.choose_spec.1
theorem Txt.r_SIDES_doubles {K : PySem.W.Frag} {mg : Str → Option Value} (T : Txt K mg) : RelV T.e_SIDES_doubles.choose T.e_SIDES_doubles.choose_spec.choose := T.e_SIDES_doubles.choose_spec.choose_spec.2.1
theorem Txt.d_SIDES_doubles {K : PySem.W.Frag} {mg : Str → Option Value} (T : Txt K mg) : ∀ p F, Den K p F (.tup [.str "left", .str "right", .str "both", .str "all"]) T.e_SIDES_doubles.choose := T.e_SIDES_doubles.choose_spec.choose_spec.2.2
theorem Txt.e_SIDES_growing {K : PySem.W.Frag} {mg : Str → Option Value} (T : Txt K mg) : ∃ (v : V) (u : Value), mg "SIDES_growing" = some u ∧ RelV v u ∧ ∀ p F, Den K p F (.tup [.str "right", .str "left", .str "both"]) v := T.x_SIDES_growing
theorem Txt.m_SIDES_growing {K : PySem.W.Frag} {mg : Str → Option Value} (T : Txt K mg) : mg "SIDES_growing" = some T.e_SIDES_growing.choose_spec.choose := T.e_SIDES_growing.choose_spec.choose_spec.1
theorem Txt.r_SIDES_growing {K : PySem.W.Frag} {mg : Str → Option Value} (T : Txt K mg) : RelV T.e_SIDES_growing.choose T.e_SIDES_growing.choose_spec.choose := T.e_SIDES_growing.choose_spec.choose_spec.2.1
theorem Txt.d_SIDES_growing {K : PySem.W.Frag} {mg : Str → Option Value} (T : Txt K mg) : ∀ p F, Den K p F (.tup [.str "right", .str "left", .str "both"]) T.e_SIDES_growing.choose := T.e_SIDES_growing.choose_spec.choose_spec.2.2
theorem Txt.e_WAYS {K : PySem.W.Frag} {mg : Str → Option Value} (T : Txt K mg) : ∃ (v : V) (u : Value), mg "WAYS" = some u ∧ RelV v u ∧ ∀ p F, Den K p F (.tup [.str "right", .str "left"]) v := T.x_WAYS
theorem Txt.m_WAYS {K : PySem.W.Frag} {mg : Str → Option Value} (T : Txt K mg) : mg "WAYS" = some T.e_WAYS.choose_spec.choose := T.e_WAYS.choose_spec.choose_spec.1
theorem Txt.r_WAYS {K : PySem.W.Frag} {mg : Str → Option Value} (T : Txt K mg) : RelV T.e_WAYS.choose T.e_WAYS.choose_spec.choose := T.e_WAYS.choose_spec.choose_spec.2.1
theorem Txt.d_WAYS {K : PySem.W.Frag} {mg : Str → Option Value} (T : Txt K mg) : ∀ p F, Den K p F (.tup [.str "right", .str "left"]) T.e_WAYS.choose := T.e_WAYS.choose_spec.choose_spec.2.2
section
variable {P : Program} {wd : World} {K : PySem.W.Frag} {mg : Str → Option Value} {base : Heap}
theorem j_is_whole {f : Addr} {fd : FuncData} (T : Txt K mg) (F : Fun K "is_whole" "is_whole" s_is_whole f fd) (hm : mg "is_whole" = some (.ref f)) (b : Binds K fd ["thing"] []) : CalJ P wd K mg base 1 "is_whole" 1 G_is_whole :=
  cal_J (k := 0) (N := N_is_whole) F hm b sc_is_whole fun cdv A outer s H E hr =>
 (jss_cons (js_ret (je_and (je_isi T.n_isinstance rfl (jr_cons (jb_var 0) (jr_cons (JE.toB (je_ty rfl T.n_int PyProof.Rows.boot_int)) jr_nil))) (je_one (je_not (je_isi T.n_isinstance rfl (jr_cons (jb_var 0) (jr_cons (JE.toB (je_ty rfl T.n_bool PyProof.Rows.boot_bool)) jr_nil)))))))
 jss_nil)
theorem j_is_title {f : Addr} {fd : FuncData} (T : Txt K mg) (F : Fun K "is_title" "is_title" s_is_title f fd) (hm : mg "is_title" = some (.ref f)) (b : Binds K fd ["thing"] []) : CalJ P wd K mg base 1 "is_title" 1 G_is_title :=
  cal_J (k := 0) (N := N_is_title) F hm b sc_is_title fun cdv A outer s H E hr =>
 (jss_cons (js_ret (je_and (je_isi T.n_isinstance rfl (jr_cons (jb_var 0) (jr_cons (JE.toB (je_ty rfl T.n_str PyProof.Rows.boot_str)) jr_nil))) (je_and (je_lele (JE.toB je_int) (JE.toB (je_len T.n_len rfl (jr_cons (jb_var 0) jr_nil))) (JE.toB je_int)) (je_one (je_all rfl T.n_all rfl (jr_cons (JE.toB (JF.toE (jf_lc (own := [("sign", 1)]) rfl sc_is_title.nd (jib_str (jb_var 0)) (blkOk_by (own := [("sign", 1)]) (N := N_is_title) (sc := defScope s_is_title) (by decide +kernel)) (fun _ _ _ _ _ => (jg_name 1 sc_is_title.nd)) (fun _ _ _ _ _ => jts_nil) (fun _ _ _ _ _ => (je_inS (jb_var 1) (JE.toB (je_glob rfl T.m_LETTERS T.r_LETTERS T.d_LETTERS))))))) jr_nil))))))
 jss_nil)
theorem j_is_step {f : Addr} {fd : FuncData} (T : Txt K mg) (F : Fun K "is_step" "is_step" s_is_step f fd) (hm : mg "is_step" = some (.ref f)) (b : Binds K fd ["thing"] []) : CalJ P wd K mg base 1 "is_step" 1 G_is_step :=
  cal_J (k := 0) (N := N_is_step) F hm b sc_is_step fun cdv A outer s H E hr =>
 (jss_cons (js_if (JW.t (jw_or (jt_not (jt_val (je_isi T.n_isinstance rfl (jr_cons (jb_var 0) (jr_cons (JE.toB (je_ty rfl T.n_tuple PyProof.Rows.boot_tuple)) jr_nil))))) (jw_or (jt_eq hr (JE.toB (je_len T.n_len rfl (jr_cons (jb_var 0) jr_nil))) (JE.toB je_int)) (jw_or1 (jt_not (jt_val (je_isi T.n_isinstance rfl (jr_cons (JE.toB (je_ix (jb_var 0) (JE.toB je_int))) (jr_cons (JE.toB (je_ty rfl T.n_str PyProof.Rows.boot_str)) jr_nil))))))))) (jss_cons (js_ret je_bl)
 jss_nil) jss_nil)
 (jss_cons (js_if (jt_eq hr (JE.toB (je_ix (jb_var 0) (JE.toB je_int))) (JE.toB je_str)) (jss_cons (js_ret (je_eq hr (JE.toB (je_len T.n_len rfl (jr_cons (jb_var 0) jr_nil))) (JE.toB je_int)))
 jss_nil) jss_nil)
 (jss_cons (js_if (JW.t (jw_or (jt_ne hr (JE.toB (je_len T.n_len rfl (jr_cons (jb_var 0) jr_nil))) (JE.toB je_int)) (jw_or1 (jt_not (jt_val (je_isi T.n_isinstance rfl (jr_cons (JE.toB (je_ix (jb_var 0) (JE.toB je_int))) (jr_cons (JE.toB (je_ty rfl T.n_str PyProof.Rows.boot_str)) jr_nil)))))))) (jss_cons (js_ret je_bl)
 jss_nil) jss_nil)
 (jss_cons (js_ret (je_if (jt_eq hr (JE.toB (je_ix (jb_var 0) (JE.toB je_int))) (JE.toB je_str)) (je_in hr (JE.toB (je_ix (jb_var 0) (JE.toB je_int))) (JE.toB (je_glob rfl T.m_SIDES_doubles T.r_SIDES_doubles T.d_SIDES_doubles))) (je_and (je_in hr (JE.toB (je_ix (jb_var 0) (JE.toB je_int))) (JE.toB (je_tup (ja_cons je_str (ja_cons je_str ja_nil))))) (je_one (je_in hr (JE.toB (je_ix (jb_var 0) (JE.toB je_int))) (JE.toB (je_glob rfl T.m_ORDERS_doubles T.r_ORDERS_doubles T.d_ORDERS_doubles)))))))
 jss_nil))))
theorem j_is_call {f : Addr} {fd : FuncData} (T : Txt K mg) (F : Fun K "is_call" "is_call" s_is_call f fd) (hm : mg "is_call" = some (.ref f)) (b : Binds K fd ["thing", "looms"] []) : CalJ P wd K mg base 1 "is_call" 2 G_is_call :=
  cal_J (k := 0) (N := N_is_call) F hm b sc_is_call fun cdv A outer s H E hr =>
 (jss_cons (js_if (jt_is (jb_var 0) (JE.toB je_non)) (jss_cons (js_ret je_bl)
 jss_nil) jss_nil)
 (jss_cons (js_if (JW.t (jw_or (jt_not (jt_val (je_isi T.n_isinstance rfl (jr_cons (jb_var 0) (jr_cons (JE.toB (je_ty rfl T.n_tuple PyProof.Rows.boot_tuple)) jr_nil))))) (jw_or (jt_ne hr (JE.toB (je_len T.n_len rfl (jr_cons (jb_var 0) jr_nil))) (JE.toB je_int)) (jw_or1 (jt_not (jt_val (je_isi T.n_isinstance rfl (jr_cons (JE.toB (je_ix (jb_var 0) (JE.toB je_int))) (jr_cons (JE.toB (je_ty rfl T.n_str PyProof.Rows.boot_str)) jr_nil))))))))) (jss_cons (js_ret je_bl)
 jss_nil) jss_nil)
 (jss_cons (js_ret (je_and (je_dIn hr (JE.toB (je_ix (jb_var 0) (JE.toB je_int))) (jb_var 1)) (je_one (je_isi T.n_isinstance rfl (jr_cons (JE.toB (je_ix (jb_var 0) (JE.toB je_int))) (jr_cons (JE.toB (je_ty rfl T.n_bool PyProof.Rows.boot_bool)) jr_nil))))))
 jss_nil)))
theorem j_is_loom {f : Addr} {fd : FuncData} (T : Txt K mg) (c_is_step : CalJ P wd K mg base 1 "is_step" 1 G_is_step) (c_is_call : CalJ P wd K mg base 1 "is_call" 2 G_is_call) (F : Fun K "is_loom" "is_loom" s_is_loom f fd) (hm : mg "is_loom" = some (.ref f)) (b : Binds K fd ["thing", "looms"] []) : CalJ P wd K mg base 2 "is_loom" 2 G_is_loom :=
  cal_J (k := 1) (N := N_is_loom) F hm b sc_is_loom fun cdv A outer s H E hr =>
 (jss_cons (js_if (JW.t (jw_or (jt_not (jt_val (je_isi T.n_isinstance rfl (jr_cons (jb_var 0) (jr_cons (JE.toB (je_ty rfl T.n_tuple PyProof.Rows.boot_tuple)) jr_nil))))) (jw_or (jt_ne hr (JE.toB (je_len T.n_len rfl (jr_cons (jb_var 0) jr_nil))) (JE.toB je_int)) (jw_or1 (jt_not (jt_val (je_isi T.n_isinstance rfl (jr_cons (JE.toB (je_ix (jb_var 0) (JE.toB je_int))) (jr_cons (JE.toB (je_ty rfl T.n_tuple PyProof.Rows.boot_tuple)) jr_nil))))))))) (jss_cons (js_ret je_bl)
 jss_nil) jss_nil)
 (jss_cons (js_if (JW.t (jw_or (jt_gt (JE.toB (je_len T.n_len rfl (jr_cons (JE.toB (je_ix (jb_var 0) (JE.toB je_int))) jr_nil))) (JE.toB (je_glob rfl T.m_MOST_STEPS T.r_MOST_STEPS T.d_MOST_STEPS))) (jw_or1 (jt_not (jt_val (je_all rfl T.n_all rfl (jr_cons (JE.toB (JF.toE (jf_lc (own := [("step", 2)]) rfl sc_is_loom.nd (jib_seq (JE.toB (je_ix (jb_var 0) (JE.toB je_int)))) (blkOk_by (own := [("step", 2)]) (N := N_is_loom) (sc := defScope s_is_loom) (by decide +kernel)) (fun _ _ _ _ _ => (jg_name 2 sc_is_loom.nd)) (fun _ _ _ _ _ => jts_nil) (fun _ _ _ _ _ => (je_call c_is_step hr (by decide) rfl (ja_cons (je_var 2) ja_nil)))))) jr_nil))))))) (jss_cons (js_ret je_bl)
 jss_nil) jss_nil)
 (jss_cons (js_ret (je_all rfl T.n_all rfl (jr_cons (JE.toB (JF.toE (jf_lc (own := [("call", 3)]) rfl sc_is_loom.nd (jib_seq (JE.toB (je_sliceT (jb_var 0) (jo_so (JE.toB je_int)) jo_no))) (blkOk_by (own := [("call", 3)]) (N := N_is_loom) (sc := defScope s_is_loom) (by decide +kernel)) (fun _ _ _ _ _ => (jg_name 3 sc_is_loom.nd)) (fun _ _ _ _ _ => jts_nil) (fun _ _ _ _ _ => (je_call c_is_call hr (by decide) rfl (ja_cons (je_var 3) (ja_cons (je_var 1) ja_nil))))))) jr_nil)))
 jss_nil)))
theorem j_check_looms {f : Addr} {fd : FuncData} (T : Txt K mg) (c_is_title : CalJ P wd K mg base 1 "is_title" 1 G_is_title) (c_is_loom : CalJ P wd K mg base 2 "is_loom" 2 G_is_loom) (F : Fun K "check_looms" "check_looms" s_check_looms f fd) (hm : mg "check_looms" = some (.ref f)) (b : Binds K fd ["looms"] []) : CalJ P wd K mg base 3 "check_looms" 1 G_check_looms :=
  cal_J (k := 2) (N := N_check_looms) F hm b sc_check_looms fun cdv A outer s H E hr =>
 (jss_cons (js_if (JW.t (jw_or (jt_not (jt_val (je_isi T.n_isinstance rfl (jr_cons (jb_var 0) (jr_cons (JE.toB (je_ty rfl T.n_dict PyProof.Rows.boot_dict)) jr_nil))))) (jw_or1 (jt_not (jt_lele (JE.toB je_int) (JE.toB (je_lenD T.n_len rfl (jr_cons (jb_var 0) jr_nil))) (JE.toB (je_glob rfl T.m_MOST_LOOMS T.r_MOST_LOOMS T.d_MOST_LOOMS))))))) (jss_cons js_never
 jss_nil) jss_nil)
 (jss_cons (js_for PassesOwn.never rfl (ji_dkeys (je_var 0)) (jg_name 1 sc_check_looms.nd) (jss_cons (js_if (jt_not (jt_val (je_call c_is_title hr (by decide) rfl (ja_cons (je_var 1) ja_nil)))) (jss_cons js_never
 jss_nil) jss_nil)
 jss_nil))
 (jss_cons (js_for PassesOwn.never rfl (ji_seq (JF.toE (jf_sortedD rfl T.n_sorted rfl (jr_cons (jb_var 0) jr_nil)))) (jg_name 1 sc_check_looms.nd) (jss_cons (js_if (jt_not (jt_val (je_call c_is_loom hr (by decide) rfl (ja_cons (je_dAt hr (jb_var 0) (jb_var 1)) (ja_cons (je_var 0) ja_nil))))) (jss_cons js_never
 jss_nil) jss_nil)
 jss_nil))
 jss_nil)))
theorem j_check_name {f : Addr} {fd : FuncData} (T : Txt K mg) (c_check_looms : CalJ P wd K mg base 3 "check_looms" 1 G_check_looms) (F : Fun K "check_name" "check_name" s_check_name f fd) (hm : mg "check_name" = some (.ref f)) (b : Binds K fd ["looms", "name"] []) : CalJ P wd K mg base 4 "check_name" 2 G_check_name :=
  cal_J (k := 3) (N := N_check_name) F hm b sc_check_name fun cdv A outer s H E hr =>
 (jss_cons (js_expr (je_call c_check_looms hr (by decide) rfl (ja_cons (je_var 0) ja_nil)))
 (jss_cons (js_if (JW.t (jw_or (jt_not (jt_val (je_isi T.n_isinstance rfl (jr_cons (jb_var 1) (jr_cons (JE.toB (je_ty rfl T.n_str PyProof.Rows.boot_str)) jr_nil))))) (jw_or1 (jt_dNotIn hr (jb_var 1) (jb_var 0))))) (jss_cons js_never
 jss_nil) jss_nil)
 jss_nil))
theorem j_is_word {f : Addr} {fd : FuncData} (T : Txt K mg) (F : Fun K "is_word" "is_word" s_is_word f fd) (hm : mg "is_word" = some (.ref f)) (b : Binds K fd ["thing", "words"] []) : CalJ P wd K mg base 1 "is_word" 2 G_is_word :=
  cal_J (k := 0) (N := N_is_word) F hm b sc_is_word fun cdv A outer s H E hr =>
 (jss_cons (js_ret (je_and (je_isi T.n_isinstance rfl (jr_cons (jb_var 0) (jr_cons (JE.toB (je_ty rfl T.n_str PyProof.Rows.boot_str)) jr_nil))) (je_one (je_in hr (jb_var 0) (jb_var 1)))))
 jss_nil)
theorem j_is_pass {f : Addr} {fd : FuncData} (T : Txt K mg) (c_is_whole : CalJ P wd K mg base 1 "is_whole" 1 G_is_whole) (c_is_word : CalJ P wd K mg base 1 "is_word" 2 G_is_word) (F : Fun K "is_pass" "is_pass" s_is_pass f fd) (hm : mg "is_pass" = some (.ref f)) (b : Binds K fd ["thing"] []) : CalJ P wd K mg base 2 "is_pass" 1 G_is_pass :=
  cal_J (k := 1) (N := N_is_pass) F hm b sc_is_pass fun cdv A outer s H E hr =>
 (jss_cons (js_if (JW.t (jw_or (jt_not (jt_val (je_isi T.n_isinstance rfl (jr_cons (jb_var 0) (jr_cons (JE.toB (je_ty rfl T.n_tuple PyProof.Rows.boot_tuple)) jr_nil))))) (jw_or (jt_eq hr (JE.toB (je_len T.n_len rfl (jr_cons (jb_var 0) jr_nil))) (JE.toB je_int)) (jw_or1 (jt_not (jt_val (je_isi T.n_isinstance rfl (jr_cons (JE.toB (je_ix (jb_var 0) (JE.toB je_int))) (jr_cons (JE.toB (je_ty rfl T.n_str PyProof.Rows.boot_str)) jr_nil))))))))) (jss_cons (js_ret je_bl)
 jss_nil) jss_nil)
 (jss_cons (js_match (je_ix (jb_var 0) (JE.toB je_int)) (mc_cons jp_one (jss_cons (js_ret (je_eq hr (JE.toB (je_len T.n_len rfl (jr_cons (jb_var 0) jr_nil))) (JE.toB je_int)))
 jss_nil)
 (mc_cons jp_one (jss_cons (js_ret (je_and (je_eq hr (JE.toB (je_len T.n_len rfl (jr_cons (jb_var 0) jr_nil))) (JE.toB je_int)) (je_one (je_call c_is_word hr (by decide) rfl (ja_cons (je_ix (jb_var 0) (JE.toB je_int)) (ja_cons (je_glob rfl T.m_WAYS T.r_WAYS T.d_WAYS) ja_nil))))))
 jss_nil)
 (mc_cons (jp_or (jfst_cons jp_one (jfst_cons jp_one jfst_nil))) (jss_cons (js_ret (je_and (je_eq hr (JE.toB (je_len T.n_len rfl (jr_cons (jb_var 0) jr_nil))) (JE.toB je_int)) (je_and (je_call c_is_word hr (by decide) rfl (ja_cons (je_ix (jb_var 0) (JE.toB je_int)) (ja_cons (je_glob rfl T.m_WAYS T.r_WAYS T.d_WAYS) ja_nil))) (je_one (je_call c_is_word hr (by decide) rfl (ja_cons (je_ix (jb_var 0) (JE.toB je_int)) (ja_cons (je_glob rfl T.m_ORDERS_passes T.r_ORDERS_passes T.d_ORDERS_passes) ja_nil)))))))
 jss_nil)
 (mc_cons jp_one (jss_cons (js_if (JW.t (jw_or (jt_ne hr (JE.toB (je_len T.n_len rfl (jr_cons (jb_var 0) jr_nil))) (JE.toB je_int)) (jw_or (jt_not (jt_val (je_call c_is_word hr (by decide) rfl (ja_cons (je_ix (jb_var 0) (JE.toB je_int)) (ja_cons (je_glob rfl T.m_WAYS T.r_WAYS T.d_WAYS) ja_nil))))) (jw_or1 (jt_not (jt_val (je_call c_is_word hr (by decide) rfl (ja_cons (je_ix (jb_var 0) (JE.toB je_int)) (ja_cons (je_glob rfl T.m_ORDERS_passes T.r_ORDERS_passes T.d_ORDERS_passes) ja_nil))))))))) (jss_cons (js_ret je_bl)
 jss_nil) jss_nil)
 (jss_cons (js_ret (je_and (je_call c_is_whole hr (by decide) rfl (ja_cons (je_ix (jb_var 0) (JE.toB je_int)) ja_nil)) (je_and (je_call c_is_whole hr (by decide) rfl (ja_cons (je_ix (jb_var 0) (JE.toB je_int)) ja_nil)) (je_and (je_lele (JE.toB je_int) (JE.toB (je_ix (jb_var 0) (JE.toB je_int))) (JE.toB (je_glob rfl T.m_MOST_STEP T.r_MOST_STEP T.d_MOST_STEP))) (je_one (je_lelt (JE.toB je_int) (JE.toB (je_ix (jb_var 0) (JE.toB je_int))) (JE.toB (je_ix (jb_var 0) (JE.toB je_int)))))))))
 jss_nil))
 mc_nil)))))
 (jss_cons (js_ret je_bl)
 jss_nil)))
theorem j_check_passes {f : Addr} {fd : FuncData} (T : Txt K mg) (c_is_pass : CalJ P wd K mg base 2 "is_pass" 1 G_is_pass) (F : Fun K "check_passes" "check_passes" s_check_passes f fd) (hm : mg "check_passes" = some (.ref f)) (b : Binds K fd ["passes"] []) : CalJ P wd K mg base 3 "check_passes" 1 G_check_passes :=
  cal_J (k := 2) (N := N_check_passes) F hm b sc_check_passes fun cdv A outer s H E hr =>
 (jss_cons (js_if (jt_not (jt_val (je_isi2 T.n_isinstance rfl (jb_var 0) (pe_bltn (v := .ty "list") rfl T.n_list PyProof.Rows.boot_list rfl) (pe_bltn (v := .ty "tuple") rfl T.n_tuple PyProof.Rows.boot_tuple rfl)))) (jss_cons js_never
 jss_nil) jss_nil)
 (jss_cons (js_for PassesOwn.never rfl (ji_enum rfl T.n_enumerate (ja_cons (je_var 0) ja_nil)) (jg_tup rfl (jgs_cons (jg_name 1 sc_check_passes.nd) (jgs_cons (jg_name 2 sc_check_passes.nd) jgs_nil))) (jss_cons (js_if (jt_not (jt_val (je_call c_is_pass hr (by decide) rfl (ja_cons (je_var 2) ja_nil)))) (jss_cons js_never
 jss_nil) jss_nil)
 jss_nil))
 jss_nil))
theorem j_exchanges {f : Addr} {fd : FuncData} (T : Txt K mg) (F : Fun K "exchanges" "exchanges" s_exchanges f fd) (hm : mg "exchanges" = some (.ref f)) (b : Binds K fd ["one", "width"] []) : CalJ P wd K mg base 1 "exchanges" 2 G_exchanges :=
  cal_J (k := 0) (N := N_exchanges) F hm b sc_exchanges fun cdv A outer s H E hr =>
 (jss_cons (js_if (jt_eq hr (JE.toB (je_ix (jb_var 0) (JE.toB je_int))) (JE.toB je_str)) (jss_cons (js_set 2 sc_exchanges.nd (JF.toE (jf_listrg rfl rfl T.n_list (prc_1 rfl T.n_range (JE.toB (je_sub (jb_var 1) (JE.toB je_int)))))))
 (jss_cons (js_ret (JF.toE (jf_lc (own := [("place", 4)]) rfl sc_exchanges.nd (jib_seq (jb_if (jt_eq hr (JE.toB (je_ix (jb_var 0) (JE.toB je_int))) (JE.toB je_str)) (jb_var 2) (JE.toB (JF.toE (jf_rev (jb_var 2)))))) (blkOk_by (own := [("place", 4)]) (N := N_exchanges) (sc := defScope s_exchanges) (by decide +kernel)) (fun _ _ _ _ _ => (jg_name 4 sc_exchanges.nd)) (fun _ _ _ _ _ => jts_nil) (fun _ _ _ _ _ => (je_tup (ja_cons (je_var 4) (ja_cons (je_add (jb_var 4) (JE.toB je_int)) (ja_cons (je_ix (jb_var 0) (JE.toB je_int)) ja_nil))))))))
 jss_nil)) jss_nil)
 (jss_cons (js_if (jt_eq hr (JE.toB (je_ix (jb_var 0) (JE.toB je_int))) (JE.toB je_str)) (jss_cons (js_set 3 sc_exchanges.nd (je_if (jt_eq hr (JE.toB (je_ix (jb_var 0) (JE.toB je_int))) (JE.toB je_str)) je_int (je_sub (jb_var 1) (JE.toB je_int))))
 (jss_cons (js_ret (je_if (jt_gt (jb_var 1) (JE.toB je_int)) (JF.toE (jf_lst (ja_cons (je_tup (ja_cons (je_var 3) (ja_cons (je_add (jb_var 3) (JE.toB je_int)) (ja_cons (je_ix (jb_var 0) (JE.toB je_int)) ja_nil)))) ja_nil))) (JF.toE (jf_lst ja_nil))))
 jss_nil)) jss_nil)
 (jss_cons (js_if (jt_eq hr (JE.toB (je_ix (jb_var 0) (JE.toB je_int))) (JE.toB je_str)) (jss_cons (js_set 2 sc_exchanges.nd (JF.toE (jf_listrg rfl rfl T.n_list (prc_3 rfl T.n_range (JE.toB (je_ix (jb_var 0) (JE.toB je_int))) (JE.toB (je_sub (jb_var 1) (JE.toB je_int))) (JE.toB (je_ix (jb_var 0) (JE.toB je_int)))))))
 (jss_cons (js_if (jt_eq hr (JE.toB (je_ix (jb_var 0) (JE.toB je_int))) (JE.toB je_str)) (jss_cons (js_setLc (own := [("place", 4)]) 2 rfl sc_exchanges.nd (sw_true rfl rfl rfl (by decide +kernel)) (jib_seq (jb_var 2)) (blkOk_by (own := [("place", 4)]) (N := N_exchanges) (sc := defScope s_exchanges) (by decide +kernel)) (fun _ _ _ _ _ => (jg_name 4 sc_exchanges.nd)) (fun _ _ _ _ _ => jts_nil) (fun _ _ _ _ _ => (je_sub (JE.toB (je_sub (jb_var 1) (JE.toB je_int))) (jb_var 4))))
 (jss_frz 2 jss_nil)) jss_nil)
 (jss_cons (js_ret (JF.toE (jf_lc (own := [("place", 4)]) rfl sc_exchanges.nd (jib_seq (JE.toB (JF.toE (jf_sorted T.n_sorted rfl (jr_cons (jb_var 2) jr_nil))))) (blkOk_by (own := [("place", 4)]) (N := N_exchanges) (sc := defScope s_exchanges) (by decide +kernel)) (fun _ _ _ _ _ => (jg_name 4 sc_exchanges.nd)) (fun _ _ _ _ _ => jts_nil) (fun _ _ _ _ _ => (je_tup (ja_cons (je_var 4) (ja_cons (je_add (jb_var 4) (JE.toB je_int)) (ja_cons (je_ix (jb_var 0) (JE.toB je_int)) ja_nil))))))))
 jss_nil))) jss_nil)
 (jss_cons (js_ret (JF.toE (jf_lst ja_nil)))
 jss_nil))))
theorem j_check_growing {f : Addr} {fd : FuncData} (T : Txt K mg) (c_is_whole : CalJ P wd K mg base 1 "is_whole" 1 G_is_whole) (c_check_passes : CalJ P wd K mg base 3 "check_passes" 1 G_check_passes) (F : Fun K "check_growing" "check_growing" s_check_growing f fd) (hm : mg "check_growing" = some (.ref f)) (b : Binds K fd ["passes", "side", "many"] []) : CalJ P wd K mg base 4 "check_growing" 3 G_check_growing :=
  cal_J (k := 3) (N := N_check_growing) F hm b sc_check_growing fun cdv A outer s H E hr =>
 (jss_cons (js_expr (je_call c_check_passes hr (by decide) rfl (ja_cons (je_var 0) ja_nil)))
 (jss_cons (js_if (JW.t (jw_or (jt_not (jt_val (je_isi T.n_isinstance rfl (jr_cons (jb_var 1) (jr_cons (JE.toB (je_ty rfl T.n_str PyProof.Rows.boot_str)) jr_nil))))) (jw_or1 (jt_notin hr (jb_var 1) (JE.toB (je_glob rfl T.m_SIDES_growing T.r_SIDES_growing T.d_SIDES_growing)))))) (jss_cons js_never
 jss_nil) jss_nil)
 (jss_cons (js_if (JW.t (jw_or (jt_not (jt_val (je_call c_is_whole hr (by decide) rfl (ja_cons (je_var 2) ja_nil)))) (jw_or (jt_not (jt_lele (JE.toB je_int) (jb_var 2) (JE.toB je_int))) (jw_or1 (JW.t (jw_and (jt_eq hr (jb_var 1) (JE.toB je_str)) (jw_and1 (jt_ne hr (jb_var 2) (JE.toB je_int))))))))) (jss_cons js_never
 jss_nil) jss_nil)
 jss_nil)))
theorem j_ends_of {f : Addr} {fd : FuncData} (T : Txt K mg) (F : Fun K "ends_of" "ends_of" s_ends_of f fd) (hm : mg "ends_of" = some (.ref f)) (b : Binds K fd ["side", "many"] []) : CalJ P wd K mg base 1 "ends_of" 2 G_ends_of :=
  cal_J (k := 0) (N := N_ends_of) F hm b sc_ends_of fun cdv A outer s H E hr =>
 (jss_cons (js_if (jt_eq hr (jb_var 0) (JE.toB je_str)) (jss_cons (js_ret (je_tup (ja_cons je_int (ja_cons je_int ja_nil))))
 jss_nil) jss_nil)
 (jss_cons (js_ret (je_if (jt_eq hr (jb_var 0) (JE.toB je_str)) (je_tup (ja_cons (je_var 1) (ja_cons je_int ja_nil))) (je_tup (ja_cons je_int (ja_cons (je_var 1) ja_nil)))))
 jss_nil))
theorem j_grown_net {f : Addr} {fd : FuncData} (T : Txt K mg) (c_is_whole : CalJ P wd K mg base 1 "is_whole" 1 G_is_whole) (c_exchanges : CalJ P wd K mg base 1 "exchanges" 2 G_exchanges) (c_check_growing : CalJ P wd K mg base 4 "check_growing" 3 G_check_growing) (c_ends_of : CalJ P wd K mg base 1 "ends_of" 2 G_ends_of) (F : Fun K "grown_net" "grown_net" s_grown_net f fd) (hm : mg "grown_net" = some (.ref f)) (b : KBa K fd ["passes", "width", "side", "many"] 2 ["side", "many"]) : CalG P wd K mg base 5 "grown_net" 2 ["side", "many"] 4 G_grown_net :=
  cal_G (k := 4) (N := N_grown_net) F hm b sc_grown_net fun cdv A outer s H E pn hr =>
 (jgns_cons' (jgn_plain (js_expr (je_call c_check_growing hr (by decide) rfl (ja_cons (je_var 0) (ja_cons (je_var 2) (ja_cons (je_var 3) ja_nil))))))
 (jgns_cons' (jgn_plain (js_if (JW.t (jw_or (jt_not (jt_val (je_call c_is_whole hr (by decide) rfl (ja_cons (je_var 1) ja_nil)))) (jw_or1 (jt_not (jt_lele (JE.toB je_int) (jb_var 1) (JE.toB (je_glob rfl T.m_MOST_WIDTH T.r_MOST_WIDTH T.d_MOST_WIDTH))))))) (jss_cons js_never
 jss_nil) jss_nil))
 (jgns_cons' (jgn_plain (js_if (jt_val (je_any rfl T.n_any rfl (jr_cons (JE.toB (JF.toE (jf_lc (own := [("one", 11)]) rfl sc_grown_net.nd (jib_seq (jb_var 0)) (blkOk_by (own := [("one", 11)]) (N := N_grown_net) (sc := defScope s_grown_net) (by decide +kernel)) (fun _ _ _ _ _ => (jg_name 11 sc_grown_net.nd)) (fun _ _ _ _ _ => jts_nil) (fun _ _ _ _ _ => (je_in hr (JE.toB (je_ix (jb_var 11) (JE.toB je_int))) (JE.toB (je_tup (ja_cons je_str (ja_cons je_str ja_nil))))))))) jr_nil))) (jss_cons js_never
 jss_nil) jss_nil))
 (jgns_cons' (jgn_plain (js_asg (je_call c_ends_of hr (by decide) rfl (ja_cons (je_var 2) (ja_cons (je_var 3) ja_nil))) (jgo_of (jg_tup rfl (jgs_cons (jg_name 4 sc_grown_net.nd) (jgs_cons (jg_name 5 sc_grown_net.nd) jgs_nil))))))
 (jgns_cons' (jgn_plain (js_par3 6 7 8 rfl sc_grown_net.nd (jp_o (jf_lst ja_nil) (jp_d je_int (jp_d (je_var 1) jp_nil)))))
 (jgns_cons' (jgn_plain (js_while owns_gcx (jt_ge (JE.toB (je_sub (jb_var 8) (jb_var 7))) (jb_var 3)) (jss_cons (js_app 6 (je_tup (ja_cons (je_var 7) (ja_cons (je_var 8) ja_nil))))
 (jss_cons (js_par2 7 8 rfl sc_grown_net.nd (jp_d (je_add (jb_var 7) (jb_var 4)) (jp_d (je_sub (jb_var 8) (jb_var 5)) jp_nil)))
 jss_nil))))
 (jgns_cons' (jgn_for owns_gcx rfl (ji_seq (JF.toE (jf_rev (jb_var 6)))) (jg_tup rfl (jgs_cons (jg_name 9 sc_grown_net.nd) (jgs_cons (jg_name 10 sc_grown_net.nd) jgs_nil))) (jgns_cons' (jgn_for owns_gcx rfl (ji_seq (je_var 0)) (jg_name 11 sc_grown_net.nd) (jgns_cons' (jgn_for owns_gcx rfl (ji_seq (je_call c_exchanges hr (by decide) rfl (ja_cons (je_var 11) (ja_cons (je_sub (jb_var 10) (jb_var 9)) ja_nil)))) (jg_tup rfl (jgs_cons (jg_name 12 sc_grown_net.nd) (jgs_cons (jg_name 13 sc_grown_net.nd) (jgs_cons (jg_name 14 sc_grown_net.nd) jgs_nil)))) (jgns_cons' (jgn_yield (je_tup (ja_cons (je_add (jb_var 9) (jb_var 12)) (ja_cons (je_add (jb_var 9) (jb_var 13)) (ja_cons (je_var 14) ja_nil)))))
 jgns_nil'))
 jgns_nil'))
 jgns_nil'))
 jgns_nil')))))))
theorem j_check_size {f : Addr} {fd : FuncData} (T : Txt K mg) (c_is_whole : CalJ P wd K mg base 1 "is_whole" 1 G_is_whole) (F : Fun K "check_size" "check_size" s_check_size f fd) (hm : mg "check_size" = some (.ref f)) (b : Binds K fd ["size"] []) : CalJ P wd K mg base 2 "check_size" 1 G_check_size :=
  cal_J (k := 1) (N := N_check_size) F hm b sc_check_size fun cdv A outer s H E hr =>
 (jss_cons (js_if (JW.t (jw_or (jt_not (jt_val (je_call c_is_whole hr (by decide) rfl (ja_cons (je_var 0) ja_nil)))) (jw_or1 (jt_not (jt_lele (JE.toB je_int) (jb_var 0) (JE.toB (je_glob rfl T.m_MOST_SIZE T.r_MOST_SIZE T.d_MOST_SIZE))))))) (jss_cons js_never
 jss_nil) jss_nil)
 jss_nil)
theorem j_pass_number {f : Addr} {fd : FuncData} (T : Txt K mg) (F : Fun K "pass_number" "pass_number" s_pass_number f fd) (hm : mg "pass_number" = some (.ref f)) (b : Binds K fd ["one", "width"] []) : CalJ P wd K mg base 1 "pass_number" 2 G_pass_number :=
  cal_J (k := 0) (N := N_pass_number) F hm b sc_pass_number fun cdv A outer s H E hr =>
 (jss_cons (js_if (jt_eq hr (JE.toB (je_ix (jb_var 0) (JE.toB je_int))) (JE.toB je_str)) (jss_cons (js_ret (je_max rfl T.n_max rfl (jr_cons (JE.toB (JF.toE (jf_lst (ja_cons je_int (ja_cons (je_sub (jb_var 1) (JE.toB je_int)) ja_nil))))) jr_nil)))
 jss_nil) jss_nil)
 (jss_cons (js_if (jt_eq hr (JE.toB (je_ix (jb_var 0) (JE.toB je_int))) (JE.toB je_str)) (jss_cons (js_ret (je_if (jt_gt (jb_var 1) (JE.toB je_int)) je_int je_int))
 jss_nil) jss_nil)
 (jss_cons (js_if (jt_eq hr (JE.toB (je_ix (jb_var 0) (JE.toB je_int))) (JE.toB je_str)) (jss_cons (js_ret (je_max rfl T.n_max rfl (jr_cons (JE.toB (JF.toE (jf_lst (ja_cons je_int (ja_cons (je_neg (JE.toB (je_div (JE.toB (je_neg (JE.toB (je_sub (JE.toB (je_sub (jb_var 1) (JE.toB je_int))) (JE.toB (je_ix (jb_var 0) (JE.toB je_int))))))) (JE.toB (je_ix (jb_var 0) (JE.toB je_int)))))) ja_nil))))) jr_nil)))
 jss_nil) jss_nil)
 (jss_cons (js_ret je_int)
 jss_nil))))
theorem j_number_at {f : Addr} {fd : FuncData} (T : Txt K mg) (c_check_passes : CalJ P wd K mg base 3 "check_passes" 1 G_check_passes) (c_check_size : CalJ P wd K mg base 2 "check_size" 1 G_check_size) (c_pass_number : CalJ P wd K mg base 1 "pass_number" 2 G_pass_number) (F : Fun K "number_at" "number_at" s_number_at f fd) (hm : mg "number_at" = some (.ref f)) (b : Binds K fd ["passes", "width"] []) : CalJ P wd K mg base 4 "number_at" 2 G_number_at :=
  cal_J (k := 3) (N := N_number_at) F hm b sc_number_at fun cdv A outer s H E hr =>
 (jss_cons (js_expr (je_call c_check_passes hr (by decide) rfl (ja_cons (je_var 0) ja_nil)))
 (jss_cons (js_expr (je_call c_check_size hr (by decide) rfl (ja_cons (je_var 1) ja_nil)))
 (jss_cons (js_ret (je_sumB rfl T.n_sum rfl (jr_cons (JE.toB (JF.toE (jf_lc (own := [("one", 2)]) rfl sc_number_at.nd (jib_seq (jb_var 0)) (blkOk_by (own := [("one", 2)]) (N := N_number_at) (sc := defScope s_number_at) (by decide +kernel)) (fun _ _ _ _ _ => (jg_name 2 sc_number_at.nd)) (fun _ _ _ _ _ => jts_nil) (fun _ _ _ _ _ => (je_call c_pass_number hr (by decide) rfl (ja_cons (je_var 2) (ja_cons (je_var 1) ja_nil))))))) jr_nil)))
 jss_nil)))
theorem j_common {f : Addr} {fd : FuncData} (T : Txt K mg) (F : Fun K "common" "common" s_common f fd) (hm : mg "common" = some (.ref f)) (b : Binds K fd ["one", "other"] []) : CalJ P wd K mg base 1 "common" 2 G_common :=
  cal_J (k := 0) (N := N_common) F hm b sc_common fun cdv A outer s H E hr =>
 (jss_cons (js_while PassesOwn.never (jt_gt (jb_var 1) (JE.toB je_int)) (jss_cons (js_par2 0 1 rfl sc_common.nd (jp_d (je_var 1) (jp_d (je_mod (jb_var 0) (jb_var 1)) jp_nil)))
 jss_nil))
 (jss_cons (js_ret (je_var 0))
 jss_nil))
theorem j_period_of {f : Addr} {fd : FuncData} (T : Txt K mg) (c_common : CalJ P wd K mg base 1 "common" 2 G_common) (F : Fun K "period_of" "period_of" s_period_of f fd) (hm : mg "period_of" = some (.ref f)) (b : Binds K fd ["passes"] []) : CalJ P wd K mg base 2 "period_of" 1 G_period_of :=
  cal_J (k := 1) (N := N_period_of) F hm b sc_period_of fun cdv A outer s H E hr =>
 (jss_cons (js_set 1 sc_period_of.nd je_int)
 (jss_cons (js_for PassesOwn.never rfl (ji_seq (je_var 0)) (jg_name 2 sc_period_of.nd) (jss_cons (js_if (jt_eq hr (JE.toB (je_ix (jb_var 2) (JE.toB je_int))) (JE.toB je_str)) (jss_cons (js_set 1 sc_period_of.nd (je_div (JE.toB (je_mul (jb_var 1) (JE.toB (je_ix (jb_var 2) (JE.toB je_int))))) (JE.toB (je_call c_common hr (by decide) rfl (ja_cons (je_var 1) (ja_cons (je_ix (jb_var 2) (JE.toB je_int)) ja_nil))))))
 jss_nil) jss_nil)
 jss_nil))
 (jss_cons (js_ret (je_var 1))
 jss_nil)))
theorem j_unlike_width {f : Addr} {fd : FuncData} (T : Txt K mg) (c_check_passes : CalJ P wd K mg base 3 "check_passes" 1 G_check_passes) (c_number_at : CalJ P wd K mg base 4 "number_at" 2 G_number_at) (c_period_of : CalJ P wd K mg base 2 "period_of" 1 G_period_of) (F : Fun K "unlike_width" "unlike_width" s_unlike_width f fd) (hm : mg "unlike_width" = some (.ref f)) (b : Binds K fd ["one", "other"] []) : CalJ P wd K mg base 5 "unlike_width" 2 G_unlike_width :=
  cal_J (k := 4) (N := N_unlike_width) F hm b sc_unlike_width fun cdv A outer s H E hr =>
 (jss_cons (js_expr (je_call c_check_passes hr (by decide) rfl (ja_cons (je_var 0) ja_nil)))
 (jss_cons (js_expr (je_call c_check_passes hr (by decide) rfl (ja_cons (je_var 1) ja_nil)))
 (jss_cons (js_set 2 sc_unlike_width.nd (je_add (JE.toB je_int) (JE.toB (je_mul (JE.toB je_int) (JE.toB (je_call c_period_of hr (by decide) rfl (ja_cons (JF.toE (jf_lst (ja_star (jb_var 0) (ja_star (jb_var 1) ja_nil)))) ja_nil)))))))
 (jss_cons (js_for PassesOwn.never rfl (ji_rg1 rfl T.n_range (jb_var 2)) (jg_name 3 sc_unlike_width.nd) (jss_cons (js_if (jt_ne hr (JE.toB (je_call c_number_at hr (by decide) rfl (ja_cons (je_var 0) (ja_cons (je_var 3) ja_nil)))) (JE.toB (je_call c_number_at hr (by decide) rfl (ja_cons (je_var 1) (ja_cons (je_var 3) ja_nil))))) (jss_cons (js_ret (je_var 3))
 jss_nil) jss_nil)
 jss_nil))
 (jss_cons (js_ret je_non)
 jss_nil)))))
theorem j_grown_number {f : Addr} {fd : FuncData} (T : Txt K mg) (c_is_whole : CalJ P wd K mg base 1 "is_whole" 1 G_is_whole) (c_check_growing : CalJ P wd K mg base 4 "check_growing" 3 G_check_growing) (c_number_at : CalJ P wd K mg base 4 "number_at" 2 G_number_at) (F : Fun K "grown_number" "grown_number" s_grown_number f fd) (hm : mg "grown_number" = some (.ref f)) (b : KBa K fd ["passes", "width", "side", "many"] 2 ["side", "many"]) : CalK P wd K mg base 5 "grown_number" 2 ["side", "many"] 4 G_grown_number :=
  cal_K (k := 4) (N := N_grown_number) F hm b sc_grown_number fun cdv A outer s H E hr =>
 (jss_cons (js_expr (je_call c_check_growing hr (by decide) rfl (ja_cons (je_var 0) (ja_cons (je_var 2) (ja_cons (je_var 3) ja_nil)))))
 (jss_cons (js_if (JW.t (jw_or (jt_not (jt_val (je_call c_is_whole hr (by decide) rfl (ja_cons (je_var 1) ja_nil)))) (jw_or1 (jt_not (jt_lele (JE.toB je_int) (jb_var 1) (JE.toB (je_glob rfl T.m_MOST_GROWN T.r_MOST_GROWN T.d_MOST_GROWN))))))) (jss_cons js_never
 jss_nil) jss_nil)
 (jss_cons (js_ret (je_sumB rfl T.n_sum rfl (jr_cons (JE.toB (JF.toE (jf_lc (own := [("one", 4)]) rfl sc_grown_number.nd (ji_rg3 rfl T.n_range (JE.toB (je_add (JE.toB (je_mod (jb_var 1) (jb_var 3))) (jb_var 3))) (JE.toB (je_add (jb_var 1) (JE.toB je_int))) (jb_var 3)) (blkOk_by (own := [("one", 4)]) (N := N_grown_number) (sc := defScope s_grown_number) (by decide +kernel)) (fun _ _ _ _ _ => (jg_name 4 sc_grown_number.nd)) (fun _ _ _ _ _ => jts_nil) (fun _ _ _ _ _ => (je_call c_number_at hr (by decide) rfl (ja_cons (je_var 0) (ja_cons (je_var 4) ja_nil))))))) jr_nil)))
 jss_nil)))
theorem j_unlike_growth {f : Addr} {fd : FuncData} (T : Txt K mg) (c_check_growing : CalJ P wd K mg base 4 "check_growing" 3 G_check_growing) (c_period_of : CalJ P wd K mg base 2 "period_of" 1 G_period_of) (c_grown_number : CalK P wd K mg base 5 "grown_number" 2 ["side", "many"] 4 G_grown_number) (F : Fun K "unlike_growth" "unlike_growth" s_unlike_growth f fd) (hm : mg "unlike_growth" = some (.ref f)) (b : KBa K fd ["one", "other", "side", "many"] 2 ["side", "many"]) : CalK P wd K mg base 6 "unlike_growth" 2 ["side", "many"] 4 G_unlike_growth :=
  cal_K (k := 5) (N := N_unlike_growth) F hm b sc_unlike_growth fun cdv A outer s H E hr =>
 (jss_cons (js_expr (je_call c_check_growing hr (by decide) rfl (ja_cons (je_var 0) (ja_cons (je_var 2) (ja_cons (je_var 3) ja_nil)))))
 (jss_cons (js_expr (je_call c_check_growing hr (by decide) rfl (ja_cons (je_var 1) (ja_cons (je_var 2) (ja_cons (je_var 3) ja_nil)))))
 (jss_cons (js_set 4 sc_unlike_growth.nd (je_add (JE.toB je_int) (JE.toB (je_mul (JE.toB (je_mul (JE.toB je_int) (jb_var 3))) (JE.toB (je_call c_period_of hr (by decide) rfl (ja_cons (JF.toE (jf_lst (ja_star (jb_var 0) (ja_star (jb_var 1) ja_nil)))) ja_nil)))))))
 (jss_cons (js_for PassesOwn.never rfl (ji_rg1 rfl T.n_range (jb_var 4)) (jg_name 5 sc_unlike_growth.nd) (jss_cons (js_if (jt_ne hr (JE.toB (je_callK c_grown_number hr (by decide) rfl (ja_cons (je_var 0) (ja_cons (je_var 5) ja_nil)) (jk_cons (je_var 2) (jk_cons (je_var 3) jk_nil)))) (JE.toB (je_callK c_grown_number hr (by decide) rfl (ja_cons (je_var 1) (ja_cons (je_var 5) ja_nil)) (jk_cons (je_var 2) (jk_cons (je_var 3) jk_nil))))) (jss_cons (js_ret (je_var 5))
 jss_nil) jss_nil)
 jss_nil))
 (jss_cons (js_ret je_non)
 jss_nil)))))
theorem j_own_number {f : Addr} {fd : FuncData} (T : Txt K mg) (F : Fun K "own_number" "own_number" s_own_number f fd) (hm : mg "own_number" = some (.ref f)) (b : Binds K fd ["loom", "half"] []) : CalJ P wd K mg base 1 "own_number" 2 G_own_number :=
  cal_J (k := 0) (N := N_own_number) F hm b sc_own_number fun cdv A outer s H E hr =>
 (jss_cons (js_ret (je_mul (jb_var 1) (JE.toB (je_len T.n_len rfl (jr_cons (JE.toB (JF.toE (jf_lc (own := [("step", 2)]) rfl sc_own_number.nd (jib_seq (JE.toB (je_ix (jb_var 0) (JE.toB je_int)))) (blkOk_by (own := [("step", 2)]) (N := N_own_number) (sc := defScope s_own_number) (by decide +kernel)) (fun _ _ _ _ _ => (jg_name 2 sc_own_number.nd)) (fun _ _ _ _ _ => (jts_one (jt_in hr (JE.toB (je_ix (jb_var 2) (JE.toB je_int))) (JE.toB (je_tup (ja_cons je_str (ja_cons je_str ja_nil))))))) (fun _ _ _ _ _ => (je_var 2))))) jr_nil)))))
 jss_nil)
theorem j_check_doublings {f : Addr} {fd : FuncData} (T : Txt K mg) (c_is_whole : CalJ P wd K mg base 1 "is_whole" 1 G_is_whole) (F : Fun K "check_doublings" "check_doublings" s_check_doublings f fd) (hm : mg "check_doublings" = some (.ref f)) (b : Binds K fd ["most"] []) : CalJ P wd K mg base 2 "check_doublings" 1 G_check_doublings :=
  cal_J (k := 1) (N := N_check_doublings) F hm b sc_check_doublings fun cdv A outer s H E hr =>
 (jss_cons (js_if (JW.t (jw_or (jt_not (jt_val (je_call c_is_whole hr (by decide) rfl (ja_cons (je_var 0) ja_nil)))) (jw_or1 (jt_not (jt_lele (JE.toB je_int) (jb_var 0) (JE.toB je_int)))))) (jss_cons js_never
 jss_nil) jss_nil)
 jss_nil)
theorem j_loom_numbers {f : Addr} {fd : FuncData} (T : Txt K mg) (c_check_name : CalJ P wd K mg base 4 "check_name" 2 G_check_name) (c_own_number : CalJ P wd K mg base 1 "own_number" 2 G_own_number) (c_check_doublings : CalJ P wd K mg base 2 "check_doublings" 1 G_check_doublings) (F : Fun K "loom_numbers" "loom_numbers" s_loom_numbers f fd) (hm : mg "loom_numbers" = some (.ref f)) (b : Binds K fd ["looms", "name", "most"] []) : CalJ P wd K mg base 5 "loom_numbers" 3 G_loom_numbers :=
  cal_J (k := 4) (N := N_loom_numbers) F hm b sc_loom_numbers fun cdv A outer s H E hr =>
 (jss_cons (js_expr (je_call c_check_name hr (by decide) rfl (ja_cons (je_var 0) (ja_cons (je_var 1) ja_nil))))
 (jss_cons (js_expr (je_call c_check_doublings hr (by decide) rfl (ja_cons (je_var 2) ja_nil)))
 (jss_cons (js_asgP2 3 4 rfl sc_loom_numbers.nd (jp_ll (jl_dc (own := [("one", 7)]) rfl sc_loom_numbers.nd (ji_dkeys (je_var 0)) (blkOk_by (own := [("one", 7)]) (N := N_loom_numbers) (sc := defScope s_loom_numbers) (by decide +kernel)) (fun _ _ _ _ _ => (jg_name 7 sc_loom_numbers.nd)) (fun _ _ _ _ _ => (je_var 7)) (fun _ _ _ _ _ => (jf_lst (ja_cons je_int ja_nil)))) (jp_d je_int jp_nil)))
 (jss_cons (js_for PassesOwn.never rfl (ji_rg1 rfl T.n_range (jb_var 2)) (jg_name 5 sc_loom_numbers.nd) (jss_cons (js_setN 6 sc_loom_numbers.nd jn_new)
 (jss_cons (js_for PassesOwn.never rfl (ji_ditems (je_var 0)) (jg_tup rfl (jgs_cons (jg_name 7 sc_loom_numbers.nd) (jgs_cons (jg_name 8 sc_loom_numbers.nd) jgs_nil))) (jss_cons (js_dput 6 hr (jb_var 7) (je_add (JE.toB (je_call c_own_number hr (by decide) rfl (ja_cons (je_var 8) (ja_cons (je_var 4) ja_nil)))) (JE.toB (je_sumB rfl T.n_sum rfl (jr_cons (JE.toB (JF.toE (jf_lc (own := [("call", 10)]) rfl sc_loom_numbers.nd (jib_seq (JE.toB (je_sliceT (jb_var 8) (jo_so (JE.toB je_int)) jo_no))) (blkOk_by (own := [("call", 10)]) (N := N_loom_numbers) (sc := defScope s_loom_numbers) (by decide +kernel)) (fun _ _ _ _ _ => (jg_name 10 sc_loom_numbers.nd)) (fun _ _ _ _ _ => (jts_one (jt_isnot (jb_var 10) (JE.toB je_non)))) (fun _ _ _ _ _ => (je_ix (jb_llAt 3 hr (JE.toB (je_ix (jb_var 10) (JE.toB je_int)))) (JE.toB (je_neg (JE.toB je_int)))))))) jr_nil)))))
 jss_nil))
 (jss_frzD 6 (jss_cons (js_for PassesOwn.never rfl (ji_ditems (je_var 6)) (jg_tup rfl (jgs_cons (jg_name 7 sc_loom_numbers.nd) (jgs_cons (jg_name 9 sc_loom_numbers.nd) jgs_nil))) (jss_cons (js_llApp 3 hr (jb_var 7) (je_var 9))
 jss_nil))
 (jss_cons (js_augMul 4 sc_loom_numbers.nd (JE.toB je_int))
 jss_nil))))))
 (jss_cons (js_llRet 3 hr (jb_var 1))
 jss_nil)))))
theorem j_sorter_numbers {f : Addr} {fd : FuncData} (T : Txt K mg) (c_loom_numbers : CalJ P wd K mg base 5 "loom_numbers" 3 G_loom_numbers) (F : Fun K "sorter_numbers" "sorter_numbers" s_sorter_numbers f fd) (hm : mg "sorter_numbers" = some (.ref f)) (b : Binds K fd ["looms", "name", "most"] []) : CalJ P wd K mg base 6 "sorter_numbers" 3 G_sorter_numbers :=
  cal_J (k := 5) (N := N_sorter_numbers) F hm b sc_sorter_numbers fun cdv A outer s H E hr =>
 (jss_cons (js_par2 3 4 rfl sc_sorter_numbers.nd (jp_d (je_call c_loom_numbers hr (by decide) rfl (ja_cons (je_var 0) (ja_cons (je_var 1) (ja_cons (je_var 2) ja_nil)))) (jp_o (jf_lst (ja_cons je_int ja_nil)) jp_nil)))
 (jss_cons (js_for PassesOwn.never rfl (ji_seq (JF.toE (jf_slice (jb_var 3) (jo_so (JE.toB je_int)) jo_no))) (jg_name 5 sc_sorter_numbers.nd) (jss_cons (js_app 4 (je_add (JE.toB (je_mul (JE.toB je_int) (JE.toB (je_ix (jb_var 4) (JE.toB (je_neg (JE.toB je_int))))))) (jb_var 5)))
 jss_nil))
 (jss_frz 4 (jss_cons (js_ret (je_var 4))
 jss_nil))))
theorem j_unlike_doubling {f : Addr} {fd : FuncData} (T : Txt K mg) (c_check_name : CalJ P wd K mg base 4 "check_name" 2 G_check_name) (c_loom_numbers : CalJ P wd K mg base 5 "loom_numbers" 3 G_loom_numbers) (F : Fun K "unlike_doubling" "unlike_doubling" s_unlike_doubling f fd) (hm : mg "unlike_doubling" = some (.ref f)) (b : Binds K fd ["looms", "one", "other"] []) : CalJ P wd K mg base 6 "unlike_doubling" 3 G_unlike_doubling :=
  cal_J (k := 5) (N := N_unlike_doubling) F hm b sc_unlike_doubling fun cdv A outer s H E hr =>
 (jss_cons (js_expr (je_call c_check_name hr (by decide) rfl (ja_cons (je_var 0) (ja_cons (je_var 1) ja_nil))))
 (jss_cons (js_expr (je_call c_check_name hr (by decide) rfl (ja_cons (je_var 0) (ja_cons (je_var 2) ja_nil))))
 (jss_cons (js_par2 3 4 rfl sc_unlike_doubling.nd (jp_d (je_call c_loom_numbers hr (by decide) rfl (ja_cons (je_var 0) (ja_cons (je_var 1) (ja_cons (je_add (JE.toB (je_lenD T.n_len rfl (jr_cons (jb_var 0) jr_nil))) (JE.toB je_int)) ja_nil)))) (jp_d (je_call c_loom_numbers hr (by decide) rfl (ja_cons (je_var 0) (ja_cons (je_var 2) (ja_cons (je_add (JE.toB (je_lenD T.n_len rfl (jr_cons (jb_var 0) jr_nil))) (JE.toB je_int)) ja_nil)))) jp_nil)))
 (jss_cons (js_for PassesOwn.never rfl (ji_enumzip rfl T.n_enumerate rfl T.n_zip (ja_cons (je_var 3) (ja_cons (je_var 4) ja_nil))) (jg_tup rfl (jgs_cons (jg_name 5 sc_unlike_doubling.nd) (jgs_cons (jg_name 6 sc_unlike_doubling.nd) jgs_nil))) (jss_cons (js_if (jt_ne hr (JE.toB (je_ix (jb_var 6) (JE.toB je_int))) (JE.toB (je_ix (jb_var 6) (JE.toB je_int)))) (jss_cons (js_ret (je_var 5))
 jss_nil) jss_nil)
 jss_nil))
 (jss_cons (js_ret je_non)
 jss_nil)))))
theorem j__law_cell_at {f : Addr} {fd : FuncData} (T : Txt K mg) (F : Fun K "_law_cell_at" "_law_cell_at" s__law_cell_at f fd) (hm : mg "_law_cell_at" = some (.ref f)) (b : Binds K fd ["_law_script", "_law_k"] []) : CalJ P wd K mg base 1 "_law_cell_at" 2 G__law_cell_at :=
  cal_J (k := 0) (N := N__law_cell_at) F hm b sc__law_cell_at fun cdv A outer s H E hr =>
 (jss_cons (js_if (jt_lt (jb_var 1) (JE.toB (je_len T.n_len rfl (jr_cons (jb_var 0) jr_nil)))) (jss_cons (js_ret (je_ix (jb_var 0) (jb_var 1)))
 jss_nil) jss_nil)
 (jss_cons (js_ret je_int)
 jss_nil))
theorem j__law_draw {f : Addr} {fd : FuncData} (T : Txt K mg) (F : Fun K "_law_draw" "_law_draw" s__law_draw f fd) (hm : mg "_law_draw" = some (.ref f)) (b : Binds K fd ["_law_cell", "_law_k", "_law_bound"] []) : CalJ P wd K mg base 1 "_law_draw" 3 G__law_draw :=
  cal_J (k := 0) (N := N__law_draw) F hm b sc__law_draw fun cdv A outer s H E hr =>
 (jss_cons (js_set 3 sc__law_draw.nd (je_tup (ja_cons je_int (ja_cons je_int (ja_cons je_int (ja_cons je_int (ja_cons je_int (ja_cons je_int (ja_cons je_int (ja_cons je_int (ja_cons je_int (ja_cons je_int (ja_cons je_int (ja_cons je_int (ja_cons je_int (ja_cons je_int (ja_cons je_int (ja_cons je_int ja_nil))))))))))))))))))
 (jss_cons (js_ret (je_mod (JE.toB (je_mod (JE.toB (je_intc T.n_int rfl (jr_cons (JE.toB (je_add (JE.toB (je_mul (jb_var 0) (JE.toB je_int))) (JE.toB (je_mul (jb_var 1) (JE.toB je_int))))) jr_nil))) (JE.toB (je_ix (jb_var 3) (JE.toB (je_mod (JE.toB (je_intc T.n_int rfl (jr_cons (jb_var 1) jr_nil))) (JE.toB je_int))))))) (jb_var 2)))
 jss_nil))
theorem j__law_number {f : Addr} {fd : FuncData} (T : Txt K mg) (c__law_draw : CalJ P wd K mg base 1 "_law_draw" 3 G__law_draw) (F : Fun K "_law_number" "_law_number" s__law_number f fd) (hm : mg "_law_number" = some (.ref f)) (b : Binds K fd ["_law_cell", "_law_k", "_law_bound"] []) : CalJ P wd K mg base 2 "_law_number" 3 G__law_number :=
  cal_J (k := 1) (N := N__law_number) F hm b sc__law_number fun cdv A outer s H E hr =>
 (jss_cons (js_set 3 sc__law_number.nd je_int)
 (jss_cons (js_for PassesOwn.never rfl (ji_rg1 rfl T.n_range (JE.toB (je_mod (JE.toB (je_intc T.n_int rfl (jr_cons (jb_var 1) jr_nil))) (JE.toB je_int)))) (jg_name 4 sc__law_number.nd) (jss_cons (js_set 3 sc__law_number.nd (je_mul (jb_var 3) (JE.toB je_int)))
 jss_nil))
 (jss_cons (js_set 5 sc__law_number.nd (je_div (JE.toB (je_sub (jb_var 0) (JE.toB (je_pow (JE.toB je_int) (JE.toB je_int))))) (jb_var 3)))
 (jss_cons (js_if (jt_gt (jb_var 5) (JE.toB je_int)) (jss_cons (js_ret (je_mod (JE.toB (je_mod (JE.toB (je_intc T.n_int rfl (jr_cons (jb_var 5) jr_nil))) (JE.toB je_int))) (jb_var 2)))
 jss_nil) jss_nil)
 (jss_cons (js_set 6 sc__law_number.nd (je_mod (JE.toB (je_intc T.n_int rfl (jr_cons (jb_var 0) jr_nil))) (JE.toB je_int)))
 (jss_cons (js_ret (je_mod (JE.toB (je_call c__law_draw hr (by decide) rfl (ja_cons (je_mul (JE.toB (je_add (jb_var 6) (JE.toB (je_mul (JE.toB je_int) (jb_var 1))))) (JE.toB (je_add (JE.toB (je_add (jb_var 6) (JE.toB (je_mul (JE.toB je_int) (jb_var 1))))) (JE.toB je_int)))) (ja_cons (je_add (JE.toB (je_mod (JE.toB (je_intc T.n_int rfl (jr_cons (jb_var 1) jr_nil))) (JE.toB je_int))) (JE.toB je_int)) (ja_cons je_int ja_nil))))) (jb_var 2)))
 jss_nil))))))
theorem j__law_next {f : Addr} {fd : FuncData} (T : Txt K mg) (c__law_cell_at : CalJ P wd K mg base 1 "_law_cell_at" 2 G__law_cell_at) (c__law_number : CalJ P wd K mg base 2 "_law_number" 3 G__law_number) (F : Fun K "_law_next" "_law_next" s__law_next f fd) (hm : mg "_law_next" = some (.ref f)) (b : Binds K fd ["_law_draw_here", "_law_bound"] []) : CalJ P wd K mg base 3 "_law_next" 2 G__law_next :=
  cal_J (k := 2) (N := N__law_next) F hm b sc__law_next fun cdv A outer s H E hr =>
 (jss_cons (js_asg (je_add (JE.toB (je_drix (je_var 0) je_int)) (JE.toB je_int)) (jgo_dr (je_var 0) je_int))
 (jss_cons (js_set 2 sc__law_next.nd (je_div (JE.toB (je_drix (je_var 0) je_int)) (JE.toB je_int)))
 (jss_cons (js_set 3 sc__law_next.nd (je_add (JE.toB (je_call c__law_cell_at hr (by decide) rfl (ja_cons (je_drix (je_var 0) je_int) (ja_cons (je_add (JE.toB (je_drix (je_var 0) je_int)) (jb_var 2)) ja_nil)))) (JE.toB (je_mul (JE.toB je_int) (jb_var 2)))))
 (jss_cons (js_ret (je_call c__law_number hr (by decide) rfl (ja_cons (je_var 3) (ja_cons (je_add (JE.toB (je_mod (JE.toB (je_intc T.n_int rfl (jr_cons (JE.toB (je_drix (je_var 0) je_int)) jr_nil))) (JE.toB je_int))) (JE.toB je_int)) (ja_cons (je_var 1) ja_nil)))))
 jss_nil))))
theorem j__law_pick {f : Addr} {fd : FuncData} (T : Txt K mg) (c__law_next : CalJ P wd K mg base 3 "_law_next" 2 G__law_next) (F : Fun K "_law_pick" "_law_pick" s__law_pick f fd) (hm : mg "_law_pick" = some (.ref f)) (b : Binds K fd ["_law_draw_here", "_law_things"] []) : CalJ P wd K mg base 4 "_law_pick" 2 G__law_pick :=
  cal_J (k := 3) (N := N__law_pick) F hm b sc__law_pick fun cdv A outer s H E hr =>
 (jss_cons (js_ret (je_ix (jb_var 1) (JE.toB (je_call c__law_next hr (by decide) rfl (ja_cons (je_var 0) (ja_cons (je_len T.n_len rfl (jr_cons (jb_var 1) jr_nil)) ja_nil))))))
 jss_nil)
theorem j__law_pass {f : Addr} {fd : FuncData} (T : Txt K mg) (c__law_next : CalJ P wd K mg base 3 "_law_next" 2 G__law_next) (c__law_pick : CalJ P wd K mg base 4 "_law_pick" 2 G__law_pick) (F : Fun K "_law_pass" "_law_pass" s__law_pass f fd) (hm : mg "_law_pass" = some (.ref f)) (b : Binds K fd ["_law_draw_here"] []) : CalJ P wd K mg base 5 "_law_pass" 1 G__law_pass :=
  cal_J (k := 4) (N := N__law_pass) F hm b sc__law_pass fun cdv A outer s H E hr =>
 (jss_cons (js_par3 1 2 3 rfl sc__law_pass.nd (jp_d (je_call c__law_next hr (by decide) rfl (ja_cons (je_var 0) (ja_cons je_int ja_nil))) (jp_d (je_call c__law_pick hr (by decide) rfl (ja_cons (je_var 0) (ja_cons (JF.toE (jf_lst (ja_cons je_str (ja_cons je_str ja_nil)))) ja_nil))) (jp_d (je_call c__law_pick hr (by decide) rfl (ja_cons (je_var 0) (ja_cons (JF.toE (jf_lst (ja_cons je_str (ja_cons je_str (ja_cons je_str ja_nil))))) ja_nil))) jp_nil))))
 (jss_cons (js_if (JW.t (jw_or (jt_lt (jb_var 1) (JE.toB je_int)) (jw_or1 (jt_eq hr (jb_var 1) (JE.toB je_int))))) (jss_cons (js_ret (je_tup (ja_cons (je_if (jt_lt (jb_var 1) (JE.toB je_int)) je_str je_str) (ja_cons (je_var 2) (ja_cons (je_var 3) ja_nil)))))
 jss_nil) jss_nil)
 (jss_cons (js_if (jt_lt (jb_var 1) (JE.toB je_int)) (jss_cons (js_set 4 sc__law_pass.nd (je_add (JE.toB je_int) (JE.toB (je_call c__law_next hr (by decide) rfl (ja_cons (je_var 0) (ja_cons je_int ja_nil))))))
 (jss_cons (js_ret (je_tup (ja_cons je_str (ja_cons (je_var 2) (ja_cons (je_call c__law_next hr (by decide) rfl (ja_cons (je_var 0) (ja_cons (je_var 4) ja_nil))) (ja_cons (je_var 4) (ja_cons (je_var 3) ja_nil)))))))
 jss_nil)) jss_nil)
 (jss_cons (js_ret (je_call c__law_pick hr (by decide) rfl (ja_cons (je_var 0) (ja_cons (JF.toE (jf_lst (ja_cons (je_tup (ja_cons je_str ja_nil)) (ja_cons (je_tup (ja_cons je_str (ja_cons (je_var 2) ja_nil))) ja_nil)))) ja_nil))))
 jss_nil))))
theorem ji__law_number_of {f : Addr} {fd : FuncData} (T : Txt K mg) (F : Fun K "_law_number_of" "_law_number_of" s__law_number_of f fd) (hm : mg "_law_number_of" = some (.ref f)) (b : Binds K fd ["_law_looms", "_law_name", "_law_turn"] []) : ∀ j : Nat, CalJ P wd K mg base (1 + j + 1) "_law_number_of" 3 (Gi__law_number_of j)
  | 0 => cal_J (k := 1) (N := N__law_number_of) F hm b sc__law_number_of fun cdv A outer s H E hr => jss_none
  | j + 1 => by
    have c_self := ji__law_number_of T F hm b j
    exact cal_J (k := 1 + j + 1) (N := N__law_number_of) F hm b sc__law_number_of fun cdv A outer s H E hr =>
 (jss_cons (js_if (jt_eq hr (jb_var 2) (JE.toB je_int)) (jss_cons (js_ret je_int)
 jss_nil) jss_nil)
 (jss_cons (js_set 3 sc__law_number_of.nd je_int)
 (jss_cons (js_for PassesOwn.never rfl (ji_rg1 rfl T.n_range (JE.toB (je_sub (jb_var 2) (JE.toB je_int)))) (jg_name 4 sc__law_number_of.nd) (jss_cons (js_set 3 sc__law_number_of.nd (je_mul (jb_var 3) (JE.toB je_int)))
 jss_nil))
 (jss_cons (js_asg (je_dAt hr (jb_var 0) (jb_var 1)) (jgo_of (jg_tup rfl (jgs_cons (jg_name 5 sc__law_number_of.nd) (jgs_cons (jg_name 6 sc__law_number_of.nd) (jgs_cons (jg_name 7 sc__law_number_of.nd) jgs_nil))))))
 (jss_cons (js_ret (je_add (JE.toB (je_mul (jb_var 3) (JE.toB (je_len T.n_len rfl (jr_cons (JE.toB (JF.toE (jf_lc (own := [("_law_step", 9)]) rfl sc__law_number_of.nd (jib_seq (jb_var 5)) (blkOk_by (own := [("_law_step", 9)]) (N := N__law_number_of) (sc := defScope s__law_number_of) (by decide +kernel)) (fun _ _ _ _ _ => (jg_name 9 sc__law_number_of.nd)) (fun _ _ _ _ _ => (jts_one (jt_in hr (JE.toB (je_ix (jb_var 9) (JE.toB je_int))) (JE.toB (je_tup (ja_cons je_str (ja_cons je_str ja_nil))))))) (fun _ _ _ _ _ => (je_var 9))))) jr_nil))))) (JE.toB (je_sumB rfl T.n_sum rfl (jr_cons (JE.toB (JF.toE (jf_lc (own := [("_law_call", 8)]) rfl sc__law_number_of.nd (jib_seq (JE.toB (je_tup (ja_cons (je_var 6) (ja_cons (je_var 7) ja_nil))))) (blkOk_by (own := [("_law_call", 8)]) (N := N__law_number_of) (sc := defScope s__law_number_of) (by decide +kernel)) (fun _ _ _ _ _ => (jg_name 8 sc__law_number_of.nd)) (fun _ _ _ _ _ => (jts_one (jt_isnot (jb_var 8) (JE.toB je_non)))) (fun _ _ _ _ _ => (je_call c_self hr (Nat.le_refl _) rfl (ja_cons (je_var 0) (ja_cons (je_ix (jb_var 8) (JE.toB je_int)) (ja_cons (je_sub (jb_var 2) (JE.toB je_int)) ja_nil)))))))) jr_nil)))))
 jss_nil)))))
theorem j__law_number_of {f : Addr} {fd : FuncData} (T : Txt K mg) (F : Fun K "_law_number_of" "_law_number_of" s__law_number_of f fd) (hm : mg "_law_number_of" = some (.ref f)) (b : Binds K fd ["_law_looms", "_law_name", "_law_turn"] []) : CalJ P wd K mg base 11 "_law_number_of" 3 G__law_number_of := ji__law_number_of T F hm b 9
theorem j__law_numbers {f : Addr} {fd : FuncData} (T : Txt K mg) (c__law_number_of : CalJ P wd K mg base 11 "_law_number_of" 3 G__law_number_of) (F : Fun K "_law_numbers" "_law_numbers" s__law_numbers f fd) (hm : mg "_law_numbers" = some (.ref f)) (b : Binds K fd ["_law_looms", "_law_name", "_law_most"] []) : CalJ P wd K mg base 12 "_law_numbers" 3 G__law_numbers :=
  cal_J (k := 11) (N := N__law_numbers) F hm b sc__law_numbers fun cdv A outer s H E hr =>
 (jss_cons (js_setO 3 sc__law_numbers.nd (jf_lst ja_nil))
 (jss_cons (js_for PassesOwn.never rfl (ji_rg1 rfl T.n_range (JE.toB (je_add (jb_var 2) (JE.toB je_int)))) (jg_name 4 sc__law_numbers.nd) (jss_cons (js_app 3 (je_call c__law_number_of hr (by decide) rfl (ja_cons (je_var 0) (ja_cons (je_var 1) (ja_cons (je_var 4) ja_nil)))))
 jss_nil))
 (jss_frz 3 (jss_cons (js_ret (je_var 3))
 jss_nil))))
theorem j_law_body (T : Txt K mg) (c_exchanges : CalJ P wd K mg base 1 "exchanges" 2 G_exchanges) (c_grown_net : CalG P wd K mg base 5 "grown_net" 2 ["side", "many"] 4 G_grown_net) (c_number_at : CalJ P wd K mg base 4 "number_at" 2 G_number_at) (c_unlike_width : CalJ P wd K mg base 5 "unlike_width" 2 G_unlike_width) (c_grown_number : CalK P wd K mg base 5 "grown_number" 2 ["side", "many"] 4 G_grown_number) (c_unlike_growth : CalK P wd K mg base 6 "unlike_growth" 2 ["side", "many"] 4 G_unlike_growth) (c_loom_numbers : CalJ P wd K mg base 5 "loom_numbers" 3 G_loom_numbers) (c_sorter_numbers : CalJ P wd K mg base 6 "sorter_numbers" 3 G_sorter_numbers) (c_unlike_doubling : CalJ P wd K mg base 6 "unlike_doubling" 3 G_unlike_doubling) (c__law_next : CalJ P wd K mg base 3 "_law_next" 2 G__law_next) (c__law_pick : CalJ P wd K mg base 4 "_law_pick" 2 G__law_pick) (c__law_pass : CalJ P wd K mg base 5 "_law_pass" 1 G__law_pass) (c__law_numbers : CalJ P wd K mg base 12 "_law_numbers" 3 G__law_numbers) (cdv : Value) (A : Around) (outer : List Env) (s : Shared) (H : Hp) (E : XK) {f : Addr} (hr : Room 12 (A.deeper (envOfC "law" (defScope s_law) s.heap.objs.size f cdv))) : JSs (cxOf CX0 P wd K mg base N_law "law" (defScope s_law) f cdv A outer s H E).nox ((defBody s_law).drop 1) g_law :=
 (jss_cons (js_asg (je_tup (ja_cons (JF.toE (jf_lc (own := [("_law_turn", 20)]) rfl sc_law.nd (ji_rg1 rfl T.n_range (JE.toB (je_call c__law_next hr (by decide) rfl (ja_cons (je_var 1) (ja_cons je_int ja_nil))))) (blkOk_by (own := [("_law_turn", 20)]) (N := N_law) (sc := defScope s_law) (by decide +kernel)) (fun _ _ _ _ _ => (jg_name 20 sc_law.nd)) (fun _ _ _ _ _ => jts_nil) (fun _ _ _ _ _ => (je_call c__law_pass hr (by decide) rfl (ja_cons (je_var 1) ja_nil))))) (ja_cons (JF.toE (jf_lc (own := [("_law_turn", 20)]) rfl sc_law.nd (ji_rg1 rfl T.n_range (JE.toB (je_call c__law_next hr (by decide) rfl (ja_cons (je_var 1) (ja_cons je_int ja_nil))))) (blkOk_by (own := [("_law_turn", 20)]) (N := N_law) (sc := defScope s_law) (by decide +kernel)) (fun _ _ _ _ _ => (jg_name 20 sc_law.nd)) (fun _ _ _ _ _ => jts_nil) (fun _ _ _ _ _ => (je_call c__law_pass hr (by decide) rfl (ja_cons (je_var 1) ja_nil))))) ja_nil))) (jgo_of (jg_tup rfl (jgs_cons (jg_name 2 sc_law.nd) (jgs_cons (jg_name 3 sc_law.nd) jgs_nil)))))
 (jss_cons (js_if (jt_eq hr (JE.toB (je_call c__law_next hr (by decide) rfl (ja_cons (je_var 1) (ja_cons je_int ja_nil)))) (JE.toB je_int)) (jss_cons (js_set 3 sc_law.nd (je_add (JE.toB (JF.toE (jf_rev (jb_var 2)))) (JE.toB (JF.toE (jf_lst (ja_cons (je_tup (ja_cons je_str ja_nil)) ja_nil))))))
 jss_nil) jss_nil)
 (jss_cons (js_set 4 sc_law.nd je_non)
 (jss_cons (js_for PassesOwn.never rfl (ji_rg1 rfl T.n_range (JE.toB je_int)) (jg_name 5 sc_law.nd) (jss_cons (js_setLc (own := [("_law_some", 21)]) 6 rfl sc_law.nd (sw_true rfl rfl rfl (by decide +kernel)) (jib_seq (JE.toB (je_tup (ja_cons (je_var 2) (ja_cons (je_var 3) ja_nil))))) (blkOk_by (own := [("_law_some", 21)]) (N := N_law) (sc := defScope s_law) (by decide +kernel)) (fun _ _ _ _ _ => (jg_name 21 sc_law.nd)) (fun _ _ _ _ _ => jts_nil) (fun _ _ _ _ _ => (je_sumB rfl T.n_sum rfl (jr_cons (JE.toB (JF.toE (jf_lc (own := [("_law_step", 22)]) rfl sc_law.nd (jib_seq (jb_var 21)) (blkOk_by (own := [("_law_step", 22)]) (N := N_law) rfl) (fun _ _ _ _ _ => (jg_name 22 sc_law.nd)) (fun _ _ _ _ _ => jts_nil) (fun _ _ _ _ _ => (je_len T.n_len rfl (jr_cons (JE.toB (je_call c_exchanges hr (by decide) rfl (ja_cons (je_var 22) (ja_cons (je_var 5) ja_nil)))) jr_nil)))))) jr_nil))))
 (jss_frz 6 (jss_cons (js_if (jt_ne hr (JE.toB (je_call c_number_at hr (by decide) rfl (ja_cons (je_tuple T.n_tuple rfl (jr_cons (jb_var 2) jr_nil)) (ja_cons (je_var 5) ja_nil)))) (JE.toB (je_ix (jb_var 6) (JE.toB je_int)))) (jss_cons (js_ret je_bl)
 jss_nil) jss_nil)
 (jss_cons (js_if (JW.t (jw_and (jt_ne hr (JE.toB (je_ix (jb_var 6) (JE.toB je_int))) (JE.toB (je_ix (jb_var 6) (JE.toB je_int)))) (jw_and1 (jt_is (jb_var 4) (JE.toB je_non))))) (jss_cons (js_set 4 sc_law.nd (je_var 5))
 jss_nil) jss_nil)
 jss_nil)))))
 (jss_cons (js_if (jt_ne hr (JE.toB (je_call c_unlike_width hr (by decide) rfl (ja_cons (je_var 2) (ja_cons (je_var 3) ja_nil)))) (jb_var 4)) (jss_cons (js_ret je_bl)
 jss_nil) jss_nil)
 (jss_cons (js_asg (je_call c__law_pick hr (by decide) rfl (ja_cons (je_var 1) (ja_cons (JF.toE (jf_lst (ja_cons (je_tup (ja_cons je_str (ja_cons je_int ja_nil))) (ja_cons (je_tup (ja_cons je_str (ja_cons je_int ja_nil))) (ja_cons (je_tup (ja_cons je_str (ja_cons je_int ja_nil))) (ja_cons (je_tup (ja_cons je_str (ja_cons je_int ja_nil))) ja_nil)))))) ja_nil))) (jgo_of (jg_tup rfl (jgs_cons (jg_name 7 sc_law.nd) (jgs_cons (jg_name 8 sc_law.nd) jgs_nil)))))
 (jss_cons (js_asg (je_tup (ja_cons je_non (ja_cons je_non ja_nil))) (jgo_of (jg_tup rfl (jgs_cons (jg_name 9 sc_law.nd) (jgs_cons (jg_name 10 sc_law.nd) jgs_nil)))))
 (jss_cons (js_for PassesOwn.never rfl (ji_rg1 rfl T.n_range (JE.toB je_int)) (jg_name 5 sc_law.nd) (jss_cons (js_set 11 sc_law.nd (je_callK c_grown_number hr (by decide) rfl (ja_cons (je_var 2) (ja_cons (je_var 5) ja_nil)) (jk_cons (je_var 7) (jk_cons (je_var 8) jk_nil))))
 (jss_cons (js_if (jt_ne hr (jb_var 11) (JE.toB (je_sumB rfl T.n_sum rfl (jr_cons (JE.toB (JF.toE (jf_lc (own := [("_law_size", 23)]) rfl sc_law.nd (ji_rg2 rfl T.n_range (JE.toB je_int) (JE.toB (je_add (jb_var 5) (JE.toB je_int)))) (blkOk_by (own := [("_law_size", 23)]) (N := N_law) (sc := defScope s_law) (by decide +kernel)) (fun _ _ _ _ _ => (jg_name 23 sc_law.nd)) (fun _ _ _ _ _ => (jts_one (JW.t (jw_and (jt_ge (jb_var 23) (jb_var 8)) (jw_and1 (jt_eq hr (JE.toB (je_mod (JE.toB (je_sub (jb_var 5) (jb_var 23))) (jb_var 8))) (JE.toB je_int))))))) (fun _ _ _ _ _ => (je_call c_number_at hr (by decide) rfl (ja_cons (je_var 2) (ja_cons (je_var 23) ja_nil))))))) jr_nil)))) (jss_cons (js_ret je_bl)
 jss_nil) jss_nil)
 (jss_cons (js_if (JW.t (jw_and (jt_is (jb_var 9) (JE.toB je_non)) (jw_and1 (jt_ne hr (jb_var 11) (JE.toB (je_callK c_grown_number hr (by decide) rfl (ja_cons (je_var 3) (ja_cons (je_var 5) ja_nil)) (jk_cons (je_var 7) (jk_cons (je_var 8) jk_nil)))))))) (jss_cons (js_set 9 sc_law.nd (je_var 5))
 jss_nil) jss_nil)
 (jss_cons (js_if (JW.t (jw_and (jt_lt (jb_var 5) (JE.toB je_int)) (jw_and (jt_not (jt_val (je_any rfl T.n_any rfl (jr_cons (JE.toB (JF.toE (jf_lc (own := [("_law_step", 22)]) rfl sc_law.nd (jib_seq (jb_var 2)) (blkOk_by (own := [("_law_step", 22)]) (N := N_law) (sc := defScope s_law) (by decide +kernel)) (fun _ _ _ _ _ => (jg_name 22 sc_law.nd)) (fun _ _ _ _ _ => jts_nil) (fun _ _ _ _ _ => (je_in hr (JE.toB (je_ix (jb_var 22) (JE.toB je_int))) (JE.toB (je_tup (ja_cons je_str (ja_cons je_str ja_nil))))))))) jr_nil)))) (jw_and1 (jt_ne hr (JE.toB (je_len T.n_len rfl (jr_cons (JE.toB (JF.toE (jf_listGK c_grown_net hr (by decide) rfl (ja_cons (je_var 2) (ja_cons (je_var 5) ja_nil)) (jk_cons (je_var 7) (jk_cons (je_var 8) jk_nil)) rfl T.n_list))) jr_nil))) (jb_var 11)))))) (jss_cons (js_ret je_bl)
 jss_nil) jss_nil)
 jss_nil)))))
 (jss_cons (js_if (jt_ne hr (JE.toB (je_callK c_unlike_growth hr (by decide) rfl (ja_cons (je_var 2) (ja_cons (je_var 3) ja_nil)) (jk_cons (je_var 7) (jk_cons (je_var 8) jk_nil)))) (jb_var 9)) (jss_cons (js_ret je_bl)
 jss_nil) jss_nil)
 (jss_cons (js_asgP2 12 13 rfl sc_law.nd (jp_d (JF.toE (jf_lst (ja_cons je_str (ja_cons je_str (ja_cons je_str ja_nil))))) (jp_n jn_new jp_nil)))
 (jss_cons (js_for PassesOwn.never rfl (ji_seq (je_var 12)) (jg_name 14 sc_law.nd) (jss_cons (js_set 15 sc_law.nd (je_tuple T.n_tuple rfl (jr_cons (JE.toB (JF.toE (jf_lc (own := [("_law_turn", 20)]) rfl sc_law.nd (ji_rg1 rfl T.n_range (JE.toB (je_call c__law_next hr (by decide) rfl (ja_cons (je_var 1) (ja_cons je_int ja_nil))))) (blkOk_by (own := [("_law_turn", 20)]) (N := N_law) (sc := defScope s_law) (by decide +kernel)) (fun _ _ _ _ _ => (jg_name 20 sc_law.nd)) (fun _ _ _ _ _ => jts_nil) (fun _ _ _ _ _ => (je_call c__law_pick hr (by decide) rfl (ja_cons (je_var 1) (ja_cons (JF.toE (jf_lst (ja_cons (je_tup (ja_cons je_str (ja_cons je_str ja_nil))) (ja_cons (je_tup (ja_cons je_str (ja_cons je_str ja_nil))) (ja_cons (je_tup (ja_cons je_str ja_nil)) (ja_cons (je_tup (ja_cons je_str (ja_cons je_str ja_nil))) ja_nil)))))) ja_nil))))))) jr_nil)))
 (jss_cons (js_setLc (own := [("_law_turn", 20)]) 16 rfl sc_law.nd (sw_true rfl rfl rfl (by decide +kernel)) (ji_rg1 rfl T.n_range (JE.toB je_int)) (blkOk_by (own := [("_law_turn", 20)]) (N := N_law) (sc := defScope s_law) (by decide +kernel)) (fun _ _ _ _ _ => (jg_name 20 sc_law.nd)) (fun _ _ _ _ _ => jts_nil) (fun _ _ _ _ _ => (je_if (jt_eq hr (JE.toB (je_call c__law_next hr (by decide) rfl (ja_cons (je_var 1) (ja_cons je_int ja_nil)))) (JE.toB je_int)) je_non (je_tup (ja_cons (je_call c__law_pick hr (by decide) rfl (ja_cons (je_var 1) (ja_cons (je_var 12) ja_nil))) (ja_cons je_bl ja_nil))))))
 (jss_frz 16 (jss_cons (js_dput 13 hr (jb_var 14) (je_tup (ja_cons (je_var 15) (ja_cons (je_ix (jb_var 16) (JE.toB je_int)) (ja_cons (je_ix (jb_var 16) (JE.toB je_int)) ja_nil)))))
 jss_nil)))))
 (jss_frzD 13 (jss_cons (js_setN 17 sc_law.nd (jn_dict rfl T.n_dict rfl (ja_cons (JF.toE (jf_lc (own := [("_law_name", 14)]) rfl sc_law.nd (jib_seq (jb_var 12)) (blkOk_by (own := [("_law_name", 14)]) (N := N_law) (sc := defScope s_law) (by decide +kernel)) (fun _ _ _ _ _ => (jg_name 14 sc_law.nd)) (fun _ _ _ _ _ => jts_nil) (fun _ _ _ _ _ => (je_tup (ja_cons (je_var 14) (ja_cons (je_call c__law_numbers hr (by decide) rfl (ja_cons (je_var 13) (ja_cons (je_var 14) (ja_cons je_int ja_nil)))) ja_nil)))))) ja_nil)))
 (jss_frzD 17 (jss_cons (js_if (JW.t (jw_or (jt_ne hr (JE.toB (je_call c_loom_numbers hr (by decide) rfl (ja_cons (je_var 13) (ja_cons je_str (ja_cons je_int ja_nil))))) (JE.toB (je_dAt hr (jb_var 17) (JE.toB je_str)))) (jw_or1 (jt_ne hr (JE.toB (je_call c_loom_numbers hr (by decide) rfl (ja_cons (je_var 13) (ja_cons je_str (ja_cons je_int ja_nil))))) (JE.toB (JF.toE (jf_lst (ja_cons je_int ja_nil)))))))) (jss_cons (js_ret je_bl)
 jss_nil) jss_nil)
 (jss_cons (js_setO 18 sc_law.nd (jf_lst (ja_cons je_int ja_nil)))
 (jss_cons (js_for PassesOwn.never rfl (ji_seq (JF.toE (jf_slice (JE.toB (je_dAt hr (jb_var 17) (JE.toB je_str))) (jo_so (JE.toB je_int)) jo_no))) (jg_name 11 sc_law.nd) (jss_cons (js_app 18 (je_add (JE.toB (je_mul (JE.toB je_int) (JE.toB (je_ix (jb_var 18) (JE.toB (je_neg (JE.toB je_int))))))) (jb_var 11)))
 jss_nil))
 (jss_cons (js_if (jt_ne hr (JE.toB (je_call c_sorter_numbers hr (by decide) rfl (ja_cons (je_var 13) (ja_cons je_str (ja_cons je_int ja_nil))))) (jb_var 18)) (jss_cons (js_ret je_bl)
 jss_nil) jss_nil)
 (jss_cons (js_setLc (own := [("_law_turn", 20)]) 19 rfl sc_law.nd (sw_true rfl rfl rfl (by decide +kernel)) (ji_rg1 rfl T.n_range (JE.toB je_int)) (blkOk_by (own := [("_law_turn", 20)]) (N := N_law) (sc := defScope s_law) (by decide +kernel)) (fun _ _ _ _ _ => (jg_name 20 sc_law.nd)) (fun _ _ _ _ _ => (jts_one (jt_ne hr (JE.toB (je_ix (JE.toB (je_dAt hr (jb_var 17) (JE.toB je_str))) (jb_var 20))) (JE.toB (je_ix (JE.toB (je_dAt hr (jb_var 17) (JE.toB je_str))) (jb_var 20)))))) (fun _ _ _ _ _ => (je_var 20)))
 (jss_frz 19 (jss_cons (js_ret (je_eq hr (JE.toB (je_call c_unlike_doubling hr (by decide) rfl (ja_cons (je_var 13) (ja_cons je_str (ja_cons je_str ja_nil))))) (jb_if (jt_ne hr (jb_var 19) (JE.toB (JF.toE (jf_lst ja_nil)))) (JE.toB (je_ix (jb_var 19) (JE.toB je_int))) (JE.toB je_non))))
 jss_nil)))))))))))))))))))))
end
end K12
namespace K12
open PySem PyProof.Rows L2 J
inductive Pass where
  | turn | round (r : Bool) | chain (r u : Bool) | ends (r u : Bool) | layer (r : Bool) (start step : Nat) (u : Bool)
def wayS (r : Bool) : Str := if r then "right" else "left"
def ordS (u : Bool) : Str := if u then "up" else "down"
def passD : Pass → D
  | .turn => .tup [.str "turn"]
  | .round r => .tup [.str "round", .str (wayS r)]
  | .chain r u => .tup [.str "chain", .str (wayS r), .str (ordS u)]
  | .ends r u => .tup [.str "ends", .str (wayS r), .str (ordS u)]
  | .layer r a s u => .tup [.str "layer", .str (wayS r), .int a, .int s, .str (ordS u)]
def Pass.ok : Pass → Prop
  | .layer _ a s _ => 2 ≤ s ∧ s ≤ 6 ∧ a < s
  | _ => True
@[simp] theorem l_turn : lay (.str "turn") = true := by decide +kernel
@[simp] theorem l_round : lay (.str "round") = true := by decide +kernel
@[simp] theorem l_chain : lay (.str "chain") = true := by decide +kernel
@[simp] theorem l_ends : lay (.str "ends") = true := by decide +kernel
@[simp] theorem l_layer : lay (.str "layer") = true := by decide +kernel
@[simp] theorem l_left : lay (.str "left") = true := by decide +kernel
@[simp] theorem l_right : lay (.str "right") = true := by decide +kernel
@[simp] theorem l_up : lay (.str "up") = true := by decide +kernel
@[simp] theorem l_down : lay (.str "down") = true := by decide +kernel
@[simp] theorem l_way (r : Bool) : lay (.str (wayS r)) = true := by cases r <;> decide +kernel
@[simp] theorem l_ord (r : Bool) : lay (.str (ordS r)) = true := by cases r <;> decide +kernel
@[simp] theorem wayS_r (r : Bool) : (wayS r = "right") = (r = true) := by cases r <;> decide +kernel
@[simp] theorem wayS_l (r : Bool) : (wayS r = "left") = (r = false) := by cases r <;> decide +kernel
@[simp] theorem ordS_u (r : Bool) : (ordS r = "up") = (r = true) := by cases r <;> decide +kernel
theorem ap_is_pass (a : D) (w : Wd) : G_is_pass [a] w = fin (g_is_pass [.d a] w) := rfl
theorem ap_check_passes (a : D) (w : Wd) : G_check_passes [a] w = fin (g_check_passes [.d a, .no, .no] w) := rfl
theorem ap_exchanges (a b : D) (w : Wd) : G_exchanges [a, b] w = fin (g_exchanges [.d a, .d b, .no, .no, .no] w) := rfl
theorem whole_int (i : Int) (w : Wd) : G_is_whole [.int i] w = some (.bl true, w) := rfl
theorem word_way (r : Bool) (w : Wd) : G_is_word [.str (wayS r), .tup [.str "right", .str "left"]] w = some (.bl true, w) := by cases r <;> rfl
theorem word_ord (r : Bool) (w : Wd) : G_is_word [.str (ordS r), .tup [.str "up", .str "down"]] w = some (.bl true, w) := by cases r <;> rfl
theorem is_pass_ok (p : Pass) (h : p.ok) (w : Wd) : G_is_pass [passD p] w = some (.bl true, w) := by
  rw [ap_is_pass]
  unfold g_is_pass
  cases p with
  | layer r a s u =>
    obtain ⟨h1, h2, h3⟩ := h
    unfold passD
    simp (decide := true) [word_way, word_ord, whole_int]
    omega
  | _ =>
    unfold passD
    simp (decide := true) [word_way, word_ord, line_eq]
theorem check_ok (ps : List Pass) (h : ∀ p ∈ ps, p.ok) (w : Wd) : G_check_passes [.tup (ps.map passD)] w = some (.non, w) := by
  have hl : ∀ (ps : List Pass) (n : Nat) (x y z : Sl), (∀ p ∈ ps, p.ok) → ∃ y' z', forGo (gT 2 (gsCons (gN 1) (gsCons (gN 2) gsNil))) (sSeq (sIf (tNotJ (eTest (eCall 1 G_is_pass (aCons (eVar 2) aNil)))) (sSeq sNone sNil) sNil) sNil) (enumD n (ps.map passD)) [x, y, z] w = some (.nx [x, y', z'] w) := by
    intro ps
    induction ps with
    | nil => exact fun n x y z _ => ⟨y, z, rfl⟩
    | cons p ps ih =>
      intro n x y z hp
      obtain ⟨y', z', h'⟩ := ih (n + 1) x (.d (.int (n : Int))) (.d (passD p)) fun q hq => hp q (List.mem_cons_of_mem _ hq)
      refine ⟨y', z', ?_⟩
      rw [List.map_cons]
      unfold enumD
      rw [forGo_nx (ds1 := [x, .d (.int (n : Int)), .d (passD p)]) (ds2 := [x, .d (.int (n : Int)), .d (passD p)]) (w2 := w) rfl (by simp [is_pass_ok p (hp p List.mem_cons_self)])]
      exact h'
  obtain ⟨y', z', h'⟩ := hl ps 0 (.d (.tup (ps.map passD))) .no .no h
  rw [ap_check_passes]
  unfold g_check_passes
  simp [h']
/-! ### the exchanges of a pass, in order: the first place, and whether the lesser comes first -/
def lay0 (a s n : Nat) : List Nat := (List.range n).map fun i => a + i * s
def exl : Pass → Nat → List (Nat × Bool)
  | .chain r u, n => (if r then List.range (n - 1) else (List.range (n - 1)).reverse).map fun i => (i, u)
  | .ends r u, n => if 1 < n then [(if r then n - 2 else 0, u)] else []
  | .layer r a s u, n => (if r then lay0 a s (rgN a ((n : Int) - 1) s) else ((lay0 a s (rgN a ((n : Int) - 1) s)).map fun i => n - 2 - i).reverse).map fun i => (i, u)
  | _, _ => []
def exD (q : Nat × Bool) : D := .tup [.int q.1, .int (q.1 + 1), .str (ordS q.2)]
theorem lay_rg (a s n : Nat) : rgD a s n = (lay0 a s n).map fun i : Nat => D.int (i : Int) := by
  unfold rgD lay0
  rw [List.map_map]
  apply List.map_congr_left
  intro i _
  simp
theorem ex_items (u : Bool) (l : List Nat) (ds : List Sl) (w : Wd) (t : D) (n : Int) (x y z : Sl) (k : Int) (hi : idxD t (.int k) = some (.str (ordS u))) :
    lcGo (gN 4) tYesJ (eTup (aCons (eVar 4) (aCons (eAdd (eBor 4) (eC (.int 1))) (aCons (eIx (eBor 0) (eC (.int k))) aNil)))) [.d t, .d (.int n), x, y, z] (l.map fun i : Nat => D.int (i : Int)) w = some ((l.map fun i => (i, u)).map exD, w) := by
  rw [List.map_map]
  exact lcGo_map (fun i : Nat => D.int (i : Int)) _ l fun i _ => ⟨_, rfl, by simp [hi, line_eq]; rfl⟩
theorem small_ok (a : Nat) (n s : Nat) (hn : n < 41) (hs : 0 < s) (h6 : s < 7) (ha : a < 7) : small2 a ((n : Int) - 1) s = true := by
  have h : ∀ n : Nat, n < 41 → ∀ s : Nat, s < 7 → ∀ a : Nat, a < 7 → 0 < s → small2 a ((n : Int) - 1) s = true := by decide +kernel
  exact h n hn s h6 a ha hs
def upB : List Nat → Bool
  | [] => true
  | a :: l => l.all (fun b => decide (a ≤ b)) && upB l
theorem upB_on : ∀ l : List Nat, upB l = true → l.Pairwise (· ≤ ·)
  | [], _ => List.Pairwise.nil
  | a :: l, h => by
    have h' := Bool.and_eq_true_iff.mp h
    exact List.Pairwise.cons (fun b hb => by simpa using (List.all_eq_true.mp h'.1) b hb) (upB_on l h'.2)
theorem lay_facts0 : ∀ n : Nat, n < 41 → ∀ s : Nat, s < 7 → ∀ a : Nat, a < 7 → (2 ≤ s ∧ a < s) →
    (upB (lay0 a s (rgN a ((n : Int) - 1) s)) && upB ((lay0 a s (rgN a ((n : Int) - 1) s)).map fun i => n - 2 - i).reverse && (lay0 a s (rgN a ((n : Int) - 1) s)).all fun i => decide (i + 2 ≤ n)) = true := by decide +kernel
theorem lay_facts (n : Nat) (hn : n < 41) (s : Nat) (h2 : 2 ≤ s) (h6 : s ≤ 6) (a : Nat) (ha : a < s) :
    (lay0 a s (rgN a ((n : Int) - 1) s)).Pairwise (· ≤ ·) ∧ ((lay0 a s (rgN a ((n : Int) - 1) s)).map fun i => n - 2 - i).reverse.Pairwise (· ≤ ·) ∧ ∀ i ∈ lay0 a s (rgN a ((n : Int) - 1) s), i + 2 ≤ n := by
  have h := lay_facts0 n hn s (by omega) a (by omega) ⟨h2, ha⟩
  rw [Bool.and_eq_true, Bool.and_eq_true] at h
  exact ⟨upB_on _ h.1.1, upB_on _ h.1.2, fun i hi => by simpa using (List.all_eq_true.mp h.2) i hi⟩
theorem chain_rg (n : Nat) : rgD 0 1 (rgN 0 ((n : Int) - 1) 1) = (List.range (n - 1)).map fun i : Nat => D.int (i : Int) := by
  rw [rgN_one, rgD_range, List.range_eq_range']
  congr 2
  omega
theorem sort_nats (l : List Nat) (h : l.Pairwise (· ≤ ·)) : sortI (l.map fun i : Nat => (i : Int)) = l.map fun i : Nat => (i : Int) := by
  refine sortI_id (List.pairwise_map.mpr (h.imp fun h => ?_))
  omega
theorem sort_rev (l : List Nat) (h : l.reverse.Pairwise (· ≤ ·)) : sortI (l.map fun i : Nat => (i : Int)) = l.reverse.map fun i : Nat => (i : Int) := by
  refine sortI_of ((List.reverse_perm l).map _) (List.pairwise_map.mpr (h.imp fun h => ?_))
  omega
theorem ints_nats (l : List Nat) : (l.map fun i : Nat => D.int (i : Int)) = (l.map fun i : Nat => (i : Int)).map D.int := by
  rw [List.map_map]
  rfl
theorem lay_short (n : Nat) (hn : n < 41) (s : Nat) (h2 : 2 ≤ s) (h6 : s ≤ 6) (a : Nat) (ha : a < s) : rgN a ((n : Int) - 1) s ≤ 100000 := by
  have h : ∀ n : Nat, n < 41 → ∀ s : Nat, s < 7 → ∀ a : Nat, a < 7 → rgN a ((n : Int) - 1) s ≤ 50 := by decide +kernel
  have h' := h n hn s (by omega) a (by omega)
  omega
theorem left_items (l : List Nat) (n : Nat) (h : ∀ i ∈ l, i + 2 ≤ n) (w : Wd) (t x y : Sl) :
    lcGo (gN 4) tYesJ (eSub (eSub (eBor 1) (eC (.int 2))) (eBor 4)) [t, .d (.int n), x, y, .no] (l.map fun i : Nat => D.int (i : Int)) w = some ((l.map fun i => n - 2 - i).map fun i : Nat => D.int (i : Int), w) := by
  rw [List.map_map]
  refine lcGo_map (fun i : Nat => D.int (i : Int)) _ l fun i hi => ⟨_, rfl, ?_⟩
  have := h i hi
  simp
  omega
theorem exchanges_on (p : Pass) (n : Nat) (hn : n < 41) (hp : p.ok) (w : Wd) : G_exchanges [passD p, .int n] w = some (.lst ((exl p n).map exD), w) := by
  have hc : small2 0 ((n : Int) - 1) 1 = true := small_ok 0 n 1 hn (by decide) (by decide) (by decide)
  have hl : n ≤ 100000 + 1 := by omega
  rw [ap_exchanges]
  unfold g_exchanges
  cases p with
  | turn =>
    unfold passD
    simp (decide := true) [exl, line_eq]
  | round r =>
    unfold passD
    simp (decide := true) [exl, line_eq]
  | chain r u =>
    unfold passD
    cases r with
    | true =>
      have e := ex_items u (List.range (n - 1)) [] w (passD (.chain true u)) n (.d (.lst ((List.range (n - 1)).map fun i : Nat => D.int (i : Int)))) .no .no 2 rfl
      unfold passD at e
      simp (decide := true) [hc, chain_rg, e, line_eq, hl, exl]
    | false =>
      have e := ex_items u (List.range (n - 1)).reverse [] w (passD (.chain false u)) n (.d (.lst ((List.range (n - 1)).map fun i : Nat => D.int (i : Int)))) .no .no 2 rfl
      unfold passD at e
      rw [List.map_reverse] at e
      simp (decide := true) [hc, chain_rg, e, line_eq, hl, exl]
  | ends r u =>
    unfold passD
    by_cases h1 : 1 < n
    · have h1' : (1 : Int) < n := by omega
      cases r with
      | true => simp (decide := true) [line_eq, exl, h1, h1', exD]; omega
      | false => simp (decide := true) [line_eq, exl, h1, h1', exD]
    · have h1' : ¬(1 : Int) < n := by omega
      cases r with
      | true => simp (decide := true) [line_eq, exl, h1, h1', exD]
      | false => simp (decide := true) [line_eq, exl, h1, h1', exD]
  | layer r a s u =>
    obtain ⟨h2, h6, ha⟩ := hp
    have hc := small_ok a n s hn (by omega) (by omega) (by omega)
    obtain ⟨f1, f2, f3⟩ := lay_facts n hn s h2 h6 a ha
    have f4 := lay_short n hn s h2 h6 a ha
    have f5 : (lay0 a s (rgN a ((n : Int) - 1) s)).length ≤ 100000 := by
      unfold lay0
      simpa using f4
    unfold passD
    cases r with
    | true =>
      have e := ex_items u (lay0 a s (rgN a ((n : Int) - 1) s)) [] w (passD (.layer true a s u)) n (.d (.lst ((lay0 a s (rgN a ((n : Int) - 1) s)).map fun i : Nat => D.int (i : Int)))) .no .no 4 rfl
      unfold passD at e
      have hsrt : gfSorted [.lst ((lay0 a s (rgN a ((n : Int) - 1) s)).map fun i : Nat => D.int (i : Int))] = some ((lay0 a s (rgN a ((n : Int) - 1) s)).map fun i : Nat => D.int (i : Int)) := by
        rw [ints_nats, v_sorted, sort_nats _ f1]
      simp (decide := true) [hc, lay_rg, hsrt, e, line_eq, f5, exl]
    | false =>
      have e := ex_items u ((lay0 a s (rgN a ((n : Int) - 1) s)).map fun i => n - 2 - i).reverse [] w (passD (.layer false a s u)) n (.d (.lst (((lay0 a s (rgN a ((n : Int) - 1) s)).map fun i => n - 2 - i).map fun i : Nat => D.int (i : Int)))) .no .no 4 rfl
      unfold passD at e
      have hsrt : gfSorted [.lst (((lay0 a s (rgN a ((n : Int) - 1) s)).map fun i => n - 2 - i).map fun i : Nat => D.int (i : Int))] = some (((lay0 a s (rgN a ((n : Int) - 1) s)).map fun i => n - 2 - i).reverse.map fun i : Nat => D.int (i : Int)) := by
        rw [ints_nats, v_sorted, sort_rev _ f2, ← ints_nats]
      have e2 := left_items (lay0 a s (rgN a ((n : Int) - 1) s)) n f3 w (.d (passD (.layer false a s u))) (.d (.lst ((lay0 a s (rgN a ((n : Int) - 1) s)).map fun i : Nat => D.int (i : Int)))) .no
      unfold passD at e2
      generalize hl0 : lay0 a s (rgN a ((n : Int) - 1) s) = l at *
      generalize hm : (l.map fun i => n - 2 - i) = m at *
      have hml : m.length ≤ 100000 := by rw [← hm, List.length_map]; exact f5
      simp (decide := true) [hc, lay_rg, hsrt, e, e2, line_eq, f5, hml, hl0, hm, exl, -List.map_map, -List.map_reverse]
end K12
namespace K12
open PySem PyProof.Rows L2 J
/-! lists of passes, tuples of passes -/
def seqD (b : Bool) (ps : List Pass) : D := if b then .tup (ps.map passD) else .lst (ps.map passD)
theorem check_seq (b : Bool) (ps : List Pass) (h : ∀ p ∈ ps, p.ok) (w : Wd) : G_check_passes [seqD b ps] w = some (.non, w) := by
  have hl : ∀ (ps : List Pass) (n : Nat) (x y z : Sl), (∀ p ∈ ps, p.ok) → ∃ y' z', forGo (gT 2 (gsCons (gN 1) (gsCons (gN 2) gsNil))) (sSeq (sIf (tNotJ (eTest (eCall 1 G_is_pass (aCons (eVar 2) aNil)))) (sSeq sNone sNil) sNil) sNil) (enumD n (ps.map passD)) [x, y, z] w = some (.nx [x, y', z'] w) := by
    intro ps
    induction ps with
    | nil => exact fun n x y z _ => ⟨y, z, rfl⟩
    | cons p ps ih =>
      intro n x y z hp
      obtain ⟨y', z', h'⟩ := ih (n + 1) x (.d (.int (n : Int))) (.d (passD p)) fun q hq => hp q (List.mem_cons_of_mem _ hq)
      refine ⟨y', z', ?_⟩
      rw [List.map_cons]
      unfold enumD
      rw [forGo_nx (ds1 := [x, .d (.int (n : Int)), .d (passD p)]) (ds2 := [x, .d (.int (n : Int)), .d (passD p)]) (w2 := w) rfl (by simp [is_pass_ok p (hp p List.mem_cons_self)])]
      exact h'
  obtain ⟨y', z', h'⟩ := hl ps 0 (.d (seqD b ps)) .no .no h
  rw [ap_check_passes]
  unfold g_check_passes
  cases b with
  | true =>
    unfold seqD at h' ⊢
    simp at h'
    simp [h']
  | false =>
    unfold seqD at h' ⊢
    simp at h'
    simp [h']
/-! the number of a pass's exchanges -/
def pos0 (x : Int) : Int := if 0 < x then x else 0
def num : Pass → Int → Int
  | .chain _ _, n => pos0 (n - 1)
  | .ends _ _, n => if 1 < n then 1 else 0
  | .layer _ a s _, n => pos0 (-(-(n - 1 - a) / s))
  | _, _ => 0
theorem gmax0 (x : Int) : gMax [.lst [.int 0, .int x]] = some (.int (pos0 x)) := by
  show some (D.int (maxI [0, x])) = _
  have e : maxI [0, x] = pos0 x := by
    show max 0 x = _
    unfold pos0
    split <;> omega
  rw [e]
theorem ap_pass_number (a b : D) (w : Wd) : G_pass_number [a, b] w = fin (g_pass_number [.d a, .d b] w) := rfl
theorem okDiv_small (x : Int) (s : Nat) (h1 : 2 ≤ s) (h2 : s ≤ 6) : okDiv x s = true := by
  have h : ∀ s : Nat, s < 7 → 2 ≤ s → okDiv 0 s = true := by decide +kernel
  exact h s (by omega) h1
theorem pass_number_on (p : Pass) (n : Int) (hp : p.ok) (w : Wd) : G_pass_number [passD p, .int n] w = some (.int (num p n), w) := by
  rw [ap_pass_number]
  unfold g_pass_number
  cases p with
  | turn =>
    unfold passD
    simp (decide := true) [num, line_eq]
  | round r =>
    unfold passD
    simp (decide := true) [num, line_eq]
  | chain r u =>
    unfold passD
    simp (decide := true) [num, line_eq, gmax0]
  | ends r u =>
    unfold passD
    by_cases h1 : 1 < n
    · simp (decide := true) [line_eq, num, h1]
    · simp (decide := true) [line_eq, num, h1]
  | layer r a s u =>
    obtain ⟨h2, h6, ha⟩ := hp
    have hd := v_div (okDiv_small (-(n - 1 - (a : Int))) s h2 h6)
    unfold passD
    simp (decide := true) [num, line_eq, gmax0, hd]
/-! the number at a width -/
def tot (ps : List Pass) (n : Int) : Int := (ps.map fun p => num p n).sum
theorem ap_check_size (a : D) (w : Wd) : G_check_size [a] w = fin (g_check_size [.d a] w) := rfl
theorem check_size_on (n : Int) (h0 : 0 ≤ n) (h1 : n ≤ 1000000) (w : Wd) : G_check_size [.int n] w = some (.non, w) := by
  rw [ap_check_size]
  unfold g_check_size
  simp [whole_int, h0, h1]
theorem ap_number_at (a b : D) (w : Wd) : G_number_at [a, b] w = fin (g_number_at [.d a, .d b, .no] w) := rfl
theorem number_at_on (b : Bool) (ps : List Pass) (hp : ∀ p ∈ ps, p.ok) (hl : ps.length ≤ 10) (n : Int) (h0 : 0 ≤ n) (h1 : n ≤ 1000000) (w : Wd) : G_number_at [seqD b ps, .int n] w = some (.int (tot ps n), w) := by
  have e : lcGo (gN 2) tYesJ (eCall 2 G_pass_number (aCons (eVar 2) (aCons (eVar 1) aNil))) [.d (seqD b ps), .d (.int n), .no] (ps.map passD) w = some ((ps.map fun p => num p n).map D.int, w) := by
    rw [List.map_map]
    exact lcGo_map passD _ ps fun p hm => ⟨_, rfl, by simp [pass_number_on p n (hp p hm)]⟩
  have hl' : ps.length ≤ 100000 := by omega
  rw [ap_number_at]
  unfold g_number_at
  have c1 := check_seq b ps hp w
  have c2 := check_size_on n h0 h1 w
  cases b with
  | true =>
    unfold seqD at e c1 ⊢
    simp only [if_true] at e c1 ⊢
    simp [c1, c2, e, line_eq, hl', tot, -List.map_map]
  | false =>
    unfold seqD at e c1 ⊢
    simp only [Bool.false_eq_true, if_false] at e c1 ⊢
    simp [c1, c2, e, line_eq, hl', tot, -List.map_map]
/-! nets that grow -/
inductive Gw where
  | r1 | l2 | b2 | l1
def Gw.side : Gw → Str
  | .r1 => "right" | .l2 => "left" | .b2 => "both" | .l1 => "left"
def Gw.many : Gw → Nat
  | .r1 => 1 | .l2 => 2 | .b2 => 2 | .l1 => 1
theorem ap_check_growing (a b c : D) (w : Wd) : G_check_growing [a, b, c] w = fin (g_check_growing [.d a, .d b, .d c] w) := rfl
theorem in_side (g : Gw) : inD true (.str g.side) (.tup [.str "right", .str "left", .str "both"]) = some (.bl false) := by cases g <;> rfl
theorem l_both : lay (.str "both") = true := by decide +kernel
theorem check_growing_on (g : Gw) (b : Bool) (ps : List Pass) (hp : ∀ p ∈ ps, p.ok) (w : Wd) : G_check_growing [seqD b ps, .str g.side, .int g.many] w = some (.non, w) := by
  have c1 := check_seq b ps hp w
  have c2 := in_side g
  rw [ap_check_growing]
  unfold g_check_growing
  generalize seqD b ps = q at *
  cases g <;> (unfold Gw.side Gw.many at *; simp (decide := true) [c1, c2, whole_int, l_both])
theorem ap_grown_number (a b c d : D) (w : Wd) : G_grown_number [a, b, c, d] w = fin (g_grown_number [.d a, .d b, .d c, .d d, .no] w) := rfl
def sizes (m n : Nat) : List Nat := (List.range (rgN ((n % m + m : Nat) : Int) ((n : Int) + 1) m)).map fun i => (n % m + m) + i * m
def gro (m : Nat) (ps : List Pass) (n : Nat) : Int := ((sizes m n).map fun k : Nat => tot ps k).sum
theorem small_sizes (m n : Nat) (hm : 1 ≤ m) (hm2 : m ≤ 2) (hn : n < 81) : small2 ((n % m + m : Nat) : Int) ((n : Int) + 1) m = true ∧ (rgN ((n % m + m : Nat) : Int) ((n : Int) + 1) m ≤ 90) ∧ ∀ k ∈ sizes m n, k ≤ n := by
  have h : ∀ m : Nat, m < 3 → ∀ n : Nat, n < 81 → 1 ≤ m → (small2 ((n % m + m : Nat) : Int) ((n : Int) + 1) m && decide (rgN ((n % m + m : Nat) : Int) ((n : Int) + 1) m ≤ 90) && (sizes m n).all fun k => decide (k ≤ n)) = true := by decide +kernel
  have h' := h m (by omega) n hn hm
  rw [Bool.and_eq_true, Bool.and_eq_true] at h'
  exact ⟨h'.1.1, of_decide_eq_true h'.1.2, fun k hk => by simpa using (List.all_eq_true.mp h'.2) k hk⟩
theorem rg_sizes (m n : Nat) : rgD ((n % m + m : Nat) : Int) m (rgN ((n % m + m : Nat) : Int) ((n : Int) + 1) m) = (sizes m n).map fun i : Nat => D.int (i : Int) := by
  unfold rgD sizes
  rw [List.map_map]
  apply List.map_congr_left
  intro i _
  simp
end K12
namespace K12
open PySem PyProof.Rows L2 J
theorem iRg3_on {fa fb fc : Ev} {ds : List Sl} {w : Wd} {i j k : Int} (h1 : fa ds w = some (.int i, w)) (h2 : fb ds w = some (.int j, w)) (h3 : fc ds w = some (.int k, w)) (hs : small2 i j k = true) : iRg3 fa fb fc ds w = some (rgD i k (rgN i j k), w) := by
  unfold iRg3
  rw [h1]
  show (fb ds w).bind _ = _
  rw [h2]
  show (fc ds w).bind _ = _
  rw [h3]
  show (if small2 i j k = true then _ else _) = _
  rw [if_pos hs]
theorem grown_number_on (g : Gw) (b : Bool) (ps : List Pass) (hp : ∀ p ∈ ps, p.ok) (hl : ps.length ≤ 10) (n : Nat) (hn : n < 81) (w : Wd) : G_grown_number [seqD b ps, .int n, .str g.side, .int g.many] w = some (.int (gro g.many ps n), w) := by
  have hm : 1 ≤ g.many ∧ g.many ≤ 2 := by cases g <;> decide
  obtain ⟨s1, s2, s3⟩ := small_sizes g.many n hm.1 hm.2 hn
  have c1 := check_growing_on g b ps hp w
  have hmod := v_mod (i := (n : Int)) (j := (g.many : Int)) (by omega)
  have em : (n : Int) % (g.many : Int) + (g.many : Int) = ((n % g.many + g.many : Nat) : Int) := by omega
  have e : fLc (iRg3 (eAdd (eMod (eBor 1) (eBor 3)) (eBor 3)) (eAdd (eBor 1) (eC (.int 1))) (eBor 3)) (gN 4) tYesJ (eCall 2 G_number_at (aCons (eVar 0) (aCons (eVar 4) aNil))) [4] [.d (seqD b ps), .d (.int n), .d (.str g.side), .d (.int g.many), .no] w = some (((sizes g.many n).map fun k : Nat => tot ps k).map D.int, w) := by
    refine fLc_ok (xs := (sizes g.many n).map fun i : Nat => D.int (i : Int)) (w1 := w) ?_ ?_ ?_
    · rw [← rg_sizes]
      refine iRg3_on ?_ ?_ ?_ s1
      · refine Eq.trans (b := some (D.int ((n : Int) % (g.many : Int) + (g.many : Int)), w)) ?_ (by rw [em])
        simp [hmod]
      · simp
      · simp
    · rw [List.map_map]
      refine lcGo_map (fun i : Nat => D.int (i : Int)) _ _ fun k hk => ⟨_, rfl, ?_⟩
      have hk' := s3 k hk
      have z := number_at_on b ps hp hl (k : Int) (by omega) (by omega) w
      simp [z]
    · have : (sizes g.many n).length ≤ 90 := by
        unfold sizes
        simpa using s2
      simp
      unfold line
      omega
  rw [ap_grown_number]
  unfold g_grown_number
  have h0 : (0 : Int) ≤ n := by omega
  have h1 : (n : Int) ≤ 2000 := by omega
  simp [c1, whole_int, h0, h1, e, gro, -fLc.ap, -List.map_map]
/-! the period -/
theorem ap_common (a b : D) (w : Wd) : G_common [a, b] w = fin (g_common [.d a, .d b] w) := rfl
def gcds : List (Nat × Nat × Nat) := [(1, 2, 1), (1, 3, 1), (1, 4, 1), (2, 2, 2), (2, 3, 1), (2, 4, 2), (3, 2, 1), (3, 3, 3), (3, 4, 1), (4, 2, 2), (4, 3, 1), (4, 4, 4), (6, 2, 2), (6, 3, 3), (6, 4, 2), (12, 2, 2), (12, 3, 3), (12, 4, 4)]
theorem wh_nx {t : Et} {body : Es} {n : Nat} {ds ds2 : List Sl} {w w1 w2 : Wd} (h1 : t ds w = some (true, w1)) (h2 : body ds w1 = some (.nx ds2 w2)) : whileN t body (n + 1) ds w = whileN t body n ds2 w2 := by
  show (t ds w).bind _ = _
  rw [h1]
  simp only [Option.bind_some, if_true, h2]
theorem wh_no {t : Et} {body : Es} {n : Nat} {ds : List Sl} {w w1 : Wd} (h1 : t ds w = some (false, w1)) : whileN t body (n + 1) ds w = some (.nx ds w1) := by
  show (t ds w).bind _ = _
  rw [h1]
  rfl
noncomputable abbrev tC : Et := eTest (eGt (eBor 1) (eC (.int 0)))
noncomputable abbrev bC : Es := sSeq (sPar2 0 1 (pD (eVar 1) (pD (eMod (eBor 0) (eBor 1)) pNil))) sNil
theorem step_c (a b : Int) (hb : 0 < b) (w : Wd) (n : Nat) : whileN tC bC (n + 1) [.d (.int a), .d (.int b)] w = whileN tC bC n [.d (.int b), .d (.int (a % b))] w := by
  have hm := v_mod (i := a) (j := b) hb
  exact wh_nx (w1 := w) (by simp [hb]) (by simp [hm])
theorem stop_c (a : Int) (w : Wd) (n : Nat) : whileN tC bC (n + 1) [.d (.int a), .d (.int 0)] w = some (.nx [.d (.int a), .d (.int 0)] w) := wh_no (by simp)
def euc : Nat → Nat → Nat → Nat
  | 0, a, _ => a
  | n + 1, a, b => if b = 0 then a else euc n b (a % b)
def eucOk : Nat → Nat → Nat → Bool
  | 0, _, _ => false
  | n + 1, a, b => if b = 0 then true else eucOk n b (a % b)
theorem loop_c (w : Wd) : ∀ (n a b : Nat), eucOk n a b = true → whileN tC bC n [.d (.int a), .d (.int b)] w = some (.nx [.d (.int (euc n a b)), .d (.int 0)] w)
  | 0, a, b, h => by cases h
  | n + 1, a, b, h => by
    unfold eucOk at h
    unfold euc
    by_cases hb : b = 0
    · subst hb
      rw [if_pos rfl]
      exact stop_c a w n
    · rw [if_neg hb] at h ⊢
      rw [step_c a b (by omega) w n, ← loop_c w n b (a % b) h]
      rfl
theorem common_on (a b : Nat) (h : eucOk 20 a b = true) (w : Wd) : G_common [.int a, .int b] w = some (.int (euc 20 a b), w) := by
  rw [ap_common]
  unfold g_common
  rw [seq_nx (sWhile_of (loop_c w 20 a b h))]
  simp
/-! the period of some passes -/
def lcmP (f s : Nat) : Nat := f * s / euc 20 f s
def perS (f : Nat) : Pass → Nat
  | .layer _ _ s _ => lcmP f s
  | _ => f
def perF (f : Nat) (ps : List Pass) : Nat := ps.foldl perS f
def stepsL : List Nat := [2, 3, 4]
def foundL : List Nat := [1, 2, 3, 4, 6, 12]
def Pass.four : Pass → Prop
  | .layer _ _ s _ => s ≤ 4
  | _ => True
theorem lcm_tab : (foundL.all fun f => stepsL.all fun s => eucOk 20 f s && foundL.contains (lcmP f s) && decide (lcmP f s % s = 0) && decide (lcmP f s % f = 0) && okMul (f : Int) (s : Int) && okDiv ((f * s : Nat) : Int) (euc 20 f s : Int) && decide (0 < euc 20 f s)) = true := by decide +kernel
theorem lcm_facts (f s : Nat) (hf : f ∈ foundL) (hs : s ∈ stepsL) : eucOk 20 f s = true ∧ lcmP f s ∈ foundL ∧ lcmP f s % s = 0 ∧ lcmP f s % f = 0 ∧ okMul (f : Int) (s : Int) = true ∧ okDiv ((f * s : Nat) : Int) (euc 20 f s : Int) = true ∧ 0 < euc 20 f s := by
  have h := (List.all_eq_true.mp ((List.all_eq_true.mp lcm_tab) f hf)) s hs
  simp only [Bool.and_eq_true, decide_eq_true_eq] at h
  exact ⟨h.1.1.1.1.1.1, by simpa using h.1.1.1.1.1.2, h.1.1.1.1.2, h.1.1.1.2, h.1.1.2, h.1.2, h.2⟩
theorem ap_period_of (a : D) (w : Wd) : G_period_of [a] w = fin (g_period_of [.d a, .no, .no] w) := rfl
theorem per_loop (x : Sl) (w : Wd) : ∀ (ps : List Pass) (f : Nat) (z : Sl), (∀ p ∈ ps, p.ok ∧ p.four) → f ∈ foundL → ∃ z', forGo (gN 2) (sSeq (sIf (eTest (eEq (eIx (eBor 2) (eC (.int 0))) (eC (.str "layer")))) (sSeq (sSet 1 (eDiv (eMul (eBor 1) (eIx (eBor 2) (eC (.int 3)))) (eCall 2 G_common (aCons (eVar 1) (aCons (eIx (eBor 2) (eC (.int 3))) aNil))))) sNil) sNil) sNil) (ps.map passD) [x, .d (.int f), z] w = some (.nx [x, .d (.int (perF f ps)), z'] w) ∧ perF f ps ∈ foundL
  | [], f, z, _, hf => ⟨z, rfl, hf⟩
  | p :: ps, f, z, hp, hf => by
    have hp0 := hp p List.mem_cons_self
    have key : ∃ f', (sSeq (sIf (eTest (eEq (eIx (eBor 2) (eC (.int 0))) (eC (.str "layer")))) (sSeq (sSet 1 (eDiv (eMul (eBor 1) (eIx (eBor 2) (eC (.int 3)))) (eCall 2 G_common (aCons (eVar 1) (aCons (eIx (eBor 2) (eC (.int 3))) aNil))))) sNil) sNil) sNil) [x, .d (.int f), .d (passD p)] w = some (.nx [x, .d (.int (f' : Nat)), .d (passD p)] w) ∧ f' = perS f p ∧ f' ∈ foundL := by
      cases p with
      | layer r a s u =>
        obtain ⟨⟨h2, h6, ha⟩, h4⟩ := hp0
        have h4' : s ≤ 4 := h4
        have hs : s ∈ stepsL := by
          have : s = 2 ∨ s = 3 ∨ s = 4 := by omega
          rcases this with rfl | rfl | rfl <;> decide
        obtain ⟨e1, e2, _, _, e3, e4, e5⟩ := lcm_facts f s hf hs
        have m1 := J.v_mul e3
        have m2 := common_on f s e1 w
        have m3 := v_div e4
        have m4 : ((f : Int) * (s : Int)) = ((f * s : Nat) : Int) := (Int.natCast_mul f s).symm
        rw [m4] at m1
        have m5 : ((f * s : Nat) : Int) / (euc 20 f s : Int) = ((lcmP f s : Nat) : Int) := by
          show ((f * s : Nat) : Int) / (euc 20 f s : Int) = ((f * s / euc 20 f s : Nat) : Int)
          generalize euc 20 f s = g
          exact (Int.natCast_ediv (f * s) g).symm
        rw [m5] at m3
        refine ⟨lcmP f s, ?_, rfl, e2⟩
        generalize ((f * s : Nat) : Int) = fs at *
        unfold passD
        simp (decide := true) [m1, m2, m3]
      | turn => exact ⟨f, by unfold passD; simp (decide := true), rfl, hf⟩
      | round r => exact ⟨f, by unfold passD; simp (decide := true), rfl, hf⟩
      | chain r u => exact ⟨f, by unfold passD; simp (decide := true), rfl, hf⟩
      | ends r u => exact ⟨f, by unfold passD; simp (decide := true), rfl, hf⟩
    obtain ⟨f', k1, k2, k3⟩ := key
    obtain ⟨z', h', h''⟩ := per_loop x w ps f' (.d (passD p)) (fun q hq => hp q (List.mem_cons_of_mem _ hq)) k3
    have e : perF f (p :: ps) = perF f' ps := by rw [k2]; rfl
    refine ⟨z', ?_, by rw [e]; exact h''⟩
    rw [List.map_cons, forGo_nx (ds1 := [x, .d (.int f), .d (passD p)]) (ds2 := [x, .d (.int f'), .d (passD p)]) (w2 := w) rfl k1, e]
    exact h'
theorem period_on (ps : List Pass) (hp : ∀ p ∈ ps, p.ok ∧ p.four) (w : Wd) : G_period_of [.lst (ps.map passD)] w = some (.int (perF 1 ps), w) ∧ perF 1 ps ∈ foundL := by
  obtain ⟨z', h1, h2⟩ := per_loop (.d (.lst (ps.map passD))) w ps 1 .no hp (by decide)
  have h1' := h1
  refine ⟨?_, h2⟩
  rw [ap_period_of]
  unfold g_period_of
  have h3 : ((1 : Nat) : Int) = 1 := rfl
  rw [h3] at h1'
  simp [h1']
theorem per_div : ∀ (ps : List Pass) (f : Nat), (∀ p ∈ ps, p.ok ∧ p.four) → f ∈ foundL → perF f ps ∈ foundL ∧ perF f ps % f = 0 ∧ ∀ r a s u, Pass.layer r a s u ∈ ps → perF f ps % s = 0
  | [], f, _, hf => ⟨hf, Nat.mod_self f, fun _ _ _ _ h => nomatch h⟩
  | p :: ps, f, hp, hf => by
    have hp0 := hp p List.mem_cons_self
    have e : perF f (p :: ps) = perF (perS f p) ps := rfl
    have key : perS f p ∈ foundL ∧ perS f p % f = 0 ∧ ∀ r a s u, Pass.layer r a s u = p → perS f p % s = 0 := by
      cases p with
      | layer r a s u =>
        obtain ⟨⟨h2, h6, ha⟩, h4⟩ := hp0
        have h4' : s ≤ 4 := h4
        have hs : s ∈ stepsL := by
          have : s = 2 ∨ s = 3 ∨ s = 4 := by omega
          rcases this with rfl | rfl | rfl <;> decide
        obtain ⟨_, e2, e3, e4, _⟩ := lcm_facts f s hf hs
        exact ⟨e2, e4, fun r' a' s' u' h => by cases h; exact e3⟩
      | turn => exact ⟨hf, Nat.mod_self f, fun _ _ _ _ h => nomatch h⟩
      | round r => exact ⟨hf, Nat.mod_self f, fun _ _ _ _ h => nomatch h⟩
      | chain r u => exact ⟨hf, Nat.mod_self f, fun _ _ _ _ h => nomatch h⟩
      | ends r u => exact ⟨hf, Nat.mod_self f, fun _ _ _ _ h => nomatch h⟩
    obtain ⟨k1, k2, k3⟩ := key
    obtain ⟨i1, i2, i3⟩ := per_div ps (perS f p) (fun q hq => hp q (List.mem_cons_of_mem _ hq)) k1
    rw [e]
    have tr : ∀ {a b c : Nat}, a % b = 0 → b % c = 0 → a % c = 0 := fun {a b c} h1 h2 => Nat.mod_eq_zero_of_dvd (Nat.dvd_trans (Nat.dvd_of_mod_eq_zero h2) (Nat.dvd_of_mod_eq_zero h1))
    refine ⟨i1, tr i2 k2, fun r a s u hm => ?_⟩
    rcases List.mem_cons.mp hm with h | h
    · exact tr i2 (k3 r a s u h)
    · exact i3 r a s u h
end K12
namespace K12
open PySem PyProof.Rows L2 J
/-! from 4 on the numbers grow by the same over a period -/
def kp (P : Int) : Pass → Int
  | .chain _ _ => P
  | .layer _ _ s _ => P / s
  | _ => 0
theorem pos0_nn {x : Int} (h : 0 ≤ x) : pos0 x = x := by
  unfold pos0
  split <;> omega
theorem num_per (p : Pass) (hp : p.ok) (h4 : p.four) (P : Nat) (hP : 0 < P) (hs : ∀ r a s u, Pass.layer r a s u = p → P % s = 0) (n : Int) (hn : 4 ≤ n) : num p (n + P) = num p n + kp P p := by
  cases p with
  | turn => rfl
  | round r => rfl
  | chain r u =>
    show pos0 (n + P - 1) = pos0 (n - 1) + P
    rw [pos0_nn (by omega), pos0_nn (by omega)]
    omega
  | ends r u =>
    show (if 1 < n + P then (1 : Int) else 0) = (if 1 < n then 1 else 0) + 0
    rw [if_pos (by omega), if_pos (by omega)]
    rfl
  | layer r a s u =>
    obtain ⟨h2, h6, ha⟩ := hp
    have h4' : s ≤ 4 := h4
    have hm := hs r a s u rfl
    have e : ((P / s : Nat) : Int) = (P : Int) / (s : Int) := Int.natCast_ediv P s
    have e2 : (P : Int) = ((P / s : Nat) : Int) * (s : Int) := by
      rw [← Int.natCast_mul, Nat.div_mul_cancel (Nat.dvd_of_mod_eq_zero hm)]
    show pos0 (-(-(n + P - 1 - a) / s)) = pos0 (-(-(n - 1 - a) / s)) + (P : Int) / (s : Int)
    rw [← e]
    generalize P / s = q at *
    have e3 : -(n + (P : Int) - 1 - (a : Int)) = -(n - 1 - a) + (-(q : Int)) * (s : Int) := by
      rw [e2, Int.neg_mul]
      omega
    have hs0 : (s : Int) ≠ 0 := by omega
    rw [e3, Int.add_mul_ediv_right _ _ hs0]
    have h5 : -(n - 1 - (a : Int)) / (s : Int) ≤ 0 := by
      have h6 : -(n - 1 - (a : Int)) ≤ 0 := by omega
      exact Int.ediv_nonpos_of_nonpos_of_neg h6 (by omega)
    rw [pos0_nn (by omega), pos0_nn (by omega)]
    omega
def kAll (P : Int) (ps : List Pass) : Int := (ps.map (kp P)).sum
theorem tot_per (P : Nat) (hP : 0 < P) (n : Int) (hn : 4 ≤ n) : ∀ ps : List Pass, (∀ p ∈ ps, p.ok ∧ p.four ∧ ∀ r a s u, Pass.layer r a s u = p → P % s = 0) → tot ps (n + P) = tot ps n + kAll P ps
  | [], _ => rfl
  | p :: ps, h => by
    have h0 := h p List.mem_cons_self
    have ih := tot_per P hP n hn ps fun q hq => h q (List.mem_cons_of_mem _ hq)
    have e := num_per p h0.1 h0.2.1 P hP h0.2.2 n hn
    unfold tot kAll at *
    rw [List.map_cons, List.map_cons, List.map_cons, List.sum_cons, List.sum_cons, List.sum_cons, ih, e]
    omega
theorem agree (A B : List Pass) (P : Nat) (hP : 0 < P) (hA : ∀ p ∈ A, p.ok ∧ p.four ∧ ∀ r a s u, Pass.layer r a s u = p → P % s = 0) (hB : ∀ p ∈ B, p.ok ∧ p.four ∧ ∀ r a s u, Pass.layer r a s u = p → P % s = 0)
    (m N : Nat) (hm : m ≤ 4) (hN : 4 + P < N) (h : ∀ n : Nat, m ≤ n → n < N → tot A n = tot B n) : ∀ n : Nat, m ≤ n → tot A n = tot B n := by
  have a1 := tot_per P hP 4 (by decide) A hA
  have b1 := tot_per P hP 4 (by decide) B hB
  have e1 : tot A ((4 : Nat) : Int) = tot B ((4 : Nat) : Int) := h 4 hm (by omega)
  have e2 : tot A ((4 + P : Nat) : Int) = tot B ((4 + P : Nat) : Int) := h (4 + P) (by omega) hN
  rw [show ((4 + P : Nat) : Int) = 4 + (P : Int) by omega] at e2
  rw [show ((4 : Nat) : Int) = 4 by rfl] at e1
  have hk : kAll P A = kAll P B := by omega
  intro n
  induction n using Nat.strongRecOn with
  | _ n ih =>
    intro hmn
    by_cases hn : n < N
    · exact h n hmn hn
    · have e3 := ih (n - P) (by omega) (by omega)
      have a2 := tot_per P hP ((n - P : Nat) : Int) (by omega) A hA
      have b2 := tot_per P hP ((n - P : Nat) : Int) (by omega) B hB
      rw [show ((n - P : Nat) : Int) + (P : Int) = (n : Int) by omega] at a2 b2
      omega
/-! the sums of a net that grows -/
theorem gro_lt (m : Nat) (ps : List Pass) (n : Nat) (hm : 1 ≤ m) (hm2 : m ≤ 2) (h : n < m) : gro m ps n = 0 := by
  have t : ∀ m : Nat, m < 3 → ∀ n : Nat, n < m → sizes m n = [] := by decide +kernel
  unfold gro
  rw [t m (by omega) n h]
  rfl
theorem gro_ge (m : Nat) (ps : List Pass) (n : Nat) (hm : 1 ≤ m) (hm2 : m ≤ 2) (h : m ≤ n) (hn : n < 81) : gro m ps n = gro m ps (n - m) + tot ps n := by
  have t : ∀ m : Nat, m < 3 → ∀ n : Nat, n < 81 → (1 ≤ m ∧ m ≤ n) → sizes m n = sizes m (n - m) ++ [n] := by decide +kernel
  unfold gro
  rw [t m (by omega) n hn ⟨hm, h⟩, List.map_append, List.sum_append]
  simp
theorem gro_tot (m : Nat) (A B : List Pass) (hm : 1 ≤ m) (hm2 : m ≤ 2) (N : Nat) (hN : N ≤ 81) (h : ∀ n, n < N → gro m A n = gro m B n) : ∀ n, m ≤ n → n < N → tot A n = tot B n := fun n h1 h2 => by
  have a := gro_ge m A n hm hm2 h1 (by omega)
  have b := gro_ge m B n hm hm2 h1 (by omega)
  have c := h n h2
  have d := h (n - m) (by omega)
  omega
theorem tot_gro (m : Nat) (A B : List Pass) (hm : 1 ≤ m) (hm2 : m ≤ 2) (h : ∀ n : Nat, m ≤ n → tot A n = tot B n) : ∀ n : Nat, n < 81 → gro m A n = gro m B n := by
  intro n
  induction n using Nat.strongRecOn with
  | _ n ih =>
    intro hn
    by_cases h1 : n < m
    · rw [gro_lt m A n hm hm2 h1, gro_lt m B n hm hm2 h1]
    · rw [gro_ge m A n hm hm2 (by omega) hn, gro_ge m B n hm hm2 (by omega) hn, ih (n - m) (by omega) (by omega), h n (by omega)]
/-! the least of some numbers -/
def least (f : Nat → Bool) (n : Nat) : Option Nat := (List.range n).find? f
def optD : Option Nat → D
  | none => .non
  | some k => .int k
theorem least_some {f : Nat → Bool} {n k : Nat} (h : least f n = some k) : f k = true ∧ k < n ∧ ∀ j, j < k → f j = false := by
  unfold least at h
  rw [List.find?_range_eq_some] at h
  obtain ⟨h1, h2, h3⟩ := h
  exact ⟨h1, List.mem_range.mp h2, fun j hj => by simpa using h3 j hj⟩
theorem least_none {f : Nat → Bool} {n : Nat} (h : least f n = none) : ∀ j, j < n → f j = false := fun j hj => by
  unfold least at h
  have := (List.find?_eq_none.mp h) j (List.mem_range.mpr hj)
  simpa using this
theorem least_eq {f : Nat → Bool} {n m : Nat} (h1 : (∀ j, j < n → f j = false) → ∀ j, j < m → f j = false) (h2 : (∀ j, j < m → f j = false) → ∀ j, j < n → f j = false) : least f n = least f m := by
  cases e : least f n with
  | none =>
    cases e' : least f m with
    | none => rfl
    | some k =>
      obtain ⟨a, b, _⟩ := least_some e'
      rw [h1 (least_none e) k b] at a
      cases a
  | some k =>
    obtain ⟨a, b, c⟩ := least_some e
    cases e' : least f m with
    | none =>
      rw [h2 (least_none e') k b] at a
      cases a
    | some k' =>
      obtain ⟨a', b', c'⟩ := least_some e'
      rcases Nat.lt_trichotomy k k' with h | h | h
      · rw [c' k h] at a
        cases a
      · rw [h]
      · rw [c k' h] at a'
        cases a'
theorem forGo_find {α : Type} (enc : α → D) {tg : Eg} {body : Es} {w : Wd} (env : List Sl → Prop) (bad : α → Bool) (ret : α → D) : ∀ (xs : List α) (ds : List Sl), env ds →
    (∀ a ∈ xs, ∀ (ds : List Sl), env ds → ∃ ds1, tg ds (enc a) = some ds1 ∧ (bad a = true → body ds1 w = some (.rt (ret a) w)) ∧ (bad a = false → ∃ ds2, body ds1 w = some (.nx ds2 w) ∧ env ds2)) →
    (∀ a, xs.find? bad = some a → forGo tg body (xs.map enc) ds w = some (.rt (ret a) w)) ∧ (xs.find? bad = none → ∃ ds', forGo tg body (xs.map enc) ds w = some (.nx ds' w) ∧ env ds')
  | [], ds, h, _ => ⟨fun a z => (nomatch z), fun _ => ⟨ds, rfl, h⟩⟩
  | a :: xs, ds, h, hs => by
    obtain ⟨ds1, h1, h2, h3⟩ := hs a List.mem_cons_self ds h
    rw [List.map_cons]
    cases hb : bad a with
    | true =>
      rw [List.find?_cons_of_pos hb]
      refine ⟨fun b z => ?_, fun z => (nomatch z)⟩
      cases z
      exact forGo_rt h1 (h2 hb)
    | false =>
      obtain ⟨ds2, h4, h5⟩ := h3 hb
      rw [List.find?_cons_of_neg (by rw [hb]; exact Bool.false_ne_true), forGo_nx h1 h4]
      exact forGo_find enc env bad ret xs ds2 h5 fun b hb => hs b (List.mem_cons_of_mem _ hb)
end K12
namespace K12
open PySem PyProof.Rows L2 J
noncomputable abbrev natD (i : Nat) : D := .int (i : Int)
theorem rg_nat (n : Nat) : rgD 0 1 n = (List.range n).map natD := by
  unfold rgD
  apply List.map_congr_left
  intro i _
  simp
theorem irg0 (n : Nat) (hn : n < 1000) (w : Wd) : irF (.int 0) (.int n) w = some ((List.range n).map natD, w) := by
  have h := irF.on 0 (n : Int) w ⟨by decide, by decide, by omega, by omega⟩
  rw [show ((n : Int) - 0).toNat = n by omega, rg_nat] at h
  exact h
/-- passes of which the law draws -/
def Okk (ps : List Pass) : Prop := (∀ p ∈ ps, p.ok ∧ p.four) ∧ ps.length ≤ 5
theorem Okk.ok {ps : List Pass} (h : Okk ps) : ∀ p ∈ ps, p.ok := fun p hp => (h.1 p hp).1
theorem Okk.len {ps : List Pass} (h : Okk ps) : ps.length ≤ 10 := by
  have := h.2
  omega
theorem Okk.both {A B : List Pass} (hA : Okk A) (hB : Okk B) : ∀ p ∈ A ++ B, p.ok ∧ p.four := fun p hp => (List.mem_append.mp hp).elim (hA.1 p) (hB.1 p)
theorem found_le {P : Nat} (h : P ∈ foundL) : 0 < P ∧ P ≤ 12 := by
  have t : ∀ P ∈ foundL, 0 < P ∧ P ≤ 12 := by decide
  exact t P h
def perB (A B : List Pass) : Nat := perF 1 (A ++ B)
theorem perB_in {A B : List Pass} (hA : Okk A) (hB : Okk B) : perB A B ∈ foundL := (per_div (A ++ B) 1 (hA.both hB) (by decide)).1
theorem perB_div {A B : List Pass} (hA : Okk A) (hB : Okk B) : (∀ p ∈ A, p.ok ∧ p.four ∧ ∀ r a s u, Pass.layer r a s u = p → perB A B % s = 0) ∧ ∀ p ∈ B, p.ok ∧ p.four ∧ ∀ r a s u, Pass.layer r a s u = p → perB A B % s = 0 := by
  have h := (per_div (A ++ B) 1 (hA.both hB) (by decide)).2.2
  refine ⟨fun p hp => ⟨(hA.1 p hp).1, (hA.1 p hp).2, fun r a s u e => h r a s u (by rw [e]; exact List.mem_append_left _ hp)⟩, fun p hp => ⟨(hB.1 p hp).1, (hB.1 p hp).2, fun r a s u e => h r a s u (by rw [e]; exact List.mem_append_right _ hp)⟩⟩
theorem both_on (A B : List Pass) (hA : Okk A) (hB : Okk B) (w : Wd) : G_period_of [.lst (A.map passD ++ B.map passD)] w = some (.int (perB A B), w) := by
  rw [← List.map_append]
  exact (period_on (A ++ B) (hA.both hB) w).1
def badW (A B : List Pass) (n : Nat) : Bool := !decide (tot A n = tot B n)
theorem ap_unlike_width (a b : D) (w : Wd) : G_unlike_width [a, b] w = fin (g_unlike_width [.d a, .d b, .no, .no] w) := rfl
theorem mul2 (P : Nat) (h : P ≤ 12) : mulD (.int 2) (.int P) = some (.int (2 * P)) := J.v_mul (okMul_l (by decide) (by decide))
theorem unlike_width_on (A B : List Pass) (hA : Okk A) (hB : Okk B) (w : Wd) : G_unlike_width [.lst (A.map passD), .lst (B.map passD)] w = some (optD (least (badW A B) (8 + 2 * perB A B)), w) := by
  have c1 : G_check_passes [.lst (A.map passD)] w = some (.non, w) := check_seq false A hA.ok w
  have c2 : G_check_passes [.lst (B.map passD)] w = some (.non, w) := check_seq false B hB.ok w
  have c3 := both_on A B hA hB w
  obtain ⟨p0, p1⟩ := found_le (perB_in hA hB)
  generalize hP : perB A B = P at *
  have la := hA.2
  have lb := hB.2
  have hl : (A.map passD).length + (B.map passD).length ≤ 100000 := by
    rw [List.length_map, List.length_map]
    omega
  have m2 := mul2 P p1
  have em : (8 : Int) + 2 * (P : Int) = ((8 + 2 * P : Nat) : Int) := by omega
  have hr := irg0 (8 + 2 * P) (by omega) w
  rw [ap_unlike_width]
  unfold g_unlike_width
  rw [seq_nx (ds2 := [.d (.lst (A.map passD)), .d (.lst (B.map passD)), .no, .no]) (w2 := w) (by simp [c1]), seq_nx (ds2 := [.d (.lst (A.map passD)), .d (.lst (B.map passD)), .no, .no]) (w2 := w) (by simp [c2]),
    seq_nx (ds2 := [.d (.lst (A.map passD)), .d (.lst (B.map passD)), .d (.int (8 + 2 * (P : Int))), .no]) (w2 := w) (by
      have hl' : A.length + B.length ≤ 100000 := by omega
      simp [line_eq, c3, m2, hl'])]
  rw [em]
  have hs : ∀ a ∈ List.range (8 + 2 * P), ∀ ds : List Sl, (∃ z, ds = [.d (.lst (A.map passD)), .d (.lst (B.map passD)), .d (.int ((8 + 2 * P : Nat) : Int)), z]) → ∃ ds1, (gN 3) ds (natD a) = some ds1 ∧
      (badW A B a = true → (sSeq (sIf (eTest (eNe (eCall 2 G_number_at (aCons (eVar 0) (aCons (eVar 3) aNil))) (eCall 2 G_number_at (aCons (eVar 1) (aCons (eVar 3) aNil))))) (sSeq (sRet (eVar 3)) sNil) sNil) sNil) ds1 w = some (.rt (natD a) w)) ∧
      (badW A B a = false → ∃ ds2, (sSeq (sIf (eTest (eNe (eCall 2 G_number_at (aCons (eVar 0) (aCons (eVar 3) aNil))) (eCall 2 G_number_at (aCons (eVar 1) (aCons (eVar 3) aNil))))) (sSeq (sRet (eVar 3)) sNil) sNil) sNil) ds1 w = some (.nx ds2 w) ∧ ∃ z, ds2 = [.d (.lst (A.map passD)), .d (.lst (B.map passD)), .d (.int ((8 + 2 * P : Nat) : Int)), z]) := by
    intro a ha ds ⟨z, hz⟩
    subst hz
    have ha' := List.mem_range.mp ha
    have n1 : G_number_at [.lst (A.map passD), .int a] w = some (.int (tot A a), w) := number_at_on false A hA.ok hA.len a (by omega) (by omega) w
    have n2 : G_number_at [.lst (B.map passD), .int a] w = some (.int (tot B a), w) := number_at_on false B hB.ok hB.len a (by omega) (by omega) w
    refine ⟨[.d (.lst (A.map passD)), .d (.lst (B.map passD)), .d (.int ((8 + 2 * P : Nat) : Int)), .d (natD a)], rfl, fun hb => ?_, fun hb => ⟨[.d (.lst (A.map passD)), .d (.lst (B.map passD)), .d (.int ((8 + 2 * P : Nat) : Int)), .d (natD a)], ?_, _, rfl⟩⟩
    · unfold badW at hb
      have hb' : ¬tot A a = tot B a := by simpa using hb
      simp [n1, n2, hb']
    · unfold badW at hb
      have hb' : tot A a = tot B a := by simpa using hb
      simp [n1, n2, hb']
  obtain ⟨f1, f2⟩ := forGo_find natD _ (badW A B) natD (List.range (8 + 2 * P)) [.d (.lst (A.map passD)), .d (.lst (B.map passD)), .d (.int ((8 + 2 * P : Nat) : Int)), .no] ⟨_, rfl⟩ hs
  cases e : least (badW A B) (8 + 2 * P) with
  | none =>
    obtain ⟨ds', h1, z, h2⟩ := f2 e
    subst h2
    rw [seq_nx (ds2 := [.d (.lst (A.map passD)), .d (.lst (B.map passD)), .d (.int ((8 + 2 * P : Nat) : Int)), z]) (w2 := w) (by
      rw [← h1]
      rw [sFor.ap, iRg.ap]
      show fo1 _ _ _ (irF (.int 0) (.int ((8 + 2 * P : Nat) : Int)) w) = _
      rw [hr]
      rfl)]
    simp [optD]
  | some k =>
    have h1 := f1 k e
    rw [seq_rt (d := natD k) (w2 := w) (by
      rw [← h1]
      rw [sFor.ap, iRg.ap]
      show fo1 _ _ _ (irF (.int 0) (.int ((8 + 2 * P : Nat) : Int)) w) = _
      rw [hr]
      rfl)]
    rfl
end K12
namespace K12
open PySem PyProof.Rows L2 J
theorem width_same (A B : List Pass) (hA : Okk A) (hB : Okk B) : least (badW A B) (8 + 2 * perB A B) = least (badW A B) 40 := by
  obtain ⟨p0, p1⟩ := found_le (perB_in hA hB)
  obtain ⟨dA, dB⟩ := perB_div hA hB
  have all : ∀ N, 4 + perB A B < N → (∀ j, j < N → badW A B j = false) → ∀ j, badW A B j = false := fun N hN h j => by
    have z := agree A B (perB A B) p0 dA dB 0 N (by decide) hN (fun n _ hn => by
      have := h n hn
      unfold badW at this
      simpa using this) j (Nat.zero_le _)
    unfold badW
    simp [z]
  exact least_eq (fun h j _ => all _ (by omega) h j) (fun h j _ => all 40 (by omega) h j)
def badG (m : Nat) (A B : List Pass) (n : Nat) : Bool := !decide (gro m A n = gro m B n)
theorem growth_same (m : Nat) (hm : 1 ≤ m) (hm2 : m ≤ 2) (A B : List Pass) (hA : Okk A) (hB : Okk B) : least (badG m A B) (8 + 3 * m * perB A B) = least (badG m A B) 30 := by
  obtain ⟨p0, p1⟩ := found_le (perB_in hA hB)
  obtain ⟨dA, dB⟩ := perB_div hA hB
  have hb : 3 * m * perB A B ≤ 72 := by
    have : m = 1 ∨ m = 2 := by omega
    rcases this with rfl | rfl <;> omega
  have hc : perB A B ≤ 3 * m * perB A B := by
    have : m = 1 ∨ m = 2 := by omega
    rcases this with rfl | rfl <;> omega
  have all : ∀ N, 4 + perB A B < N → N ≤ 81 → (∀ j, j < N → badG m A B j = false) → ∀ j, j < 81 → badG m A B j = false := fun N hN hN2 h j hj => by
    have t := gro_tot m A B hm hm2 N hN2 (fun n hn => by
      have := h n hn
      unfold badG at this
      simpa using this)
    have z := agree A B (perB A B) p0 dA dB m N (by omega) hN t
    have g := tot_gro m A B hm hm2 z j hj
    unfold badG
    simp [g]
  exact least_eq (fun h j hj => all _ (by omega) (by omega) h j (by omega)) (fun h j hj => all 30 (by omega) (by decide) h j (by omega))
theorem ap_unlike_growth (a b c d : D) (w : Wd) : G_unlike_growth [a, b, c, d] w = fin (g_unlike_growth [.d a, .d b, .d c, .d d, .no, .no] w) := rfl
theorem eCallK_on {n m : Nat} {G : Fn} {fs gs : Ef} {ds : List Sl} {w : Wd} {a b : List D} {r : Option (D × Wd)} (h1 : fs ds w = some (a, w)) (h2 : gs ds w = some (b, w)) (l1 : a.length = n) (l2 : b.length = m) (h3 : G (a ++ b) w = r) : eCallK n m G fs gs ds w = r := by
  unfold eCallK callKA
  rw [h1]
  simp only [Option.bind_some]
  rw [h2]
  simp only [Option.bind_some, l1, l2, and_self, if_true, h3]
noncomputable abbrev bodyG : Es := (sSeq (sIf (eTest (eNe (eCallK 2 2 G_grown_number (aCons (eVar 0) (aCons (eVar 5) aNil)) (aCons (eVar 2) (aCons (eVar 3) aNil))) (eCallK 2 2 G_grown_number (aCons (eVar 1) (aCons (eVar 5) aNil)) (aCons (eVar 2) (aCons (eVar 3) aNil))))) (sSeq (sRet (eVar 5)) sNil) sNil) sNil)
theorem unlike_growth_on (g : Gw) (A B : List Pass) (hA : Okk A) (hB : Okk B) (w : Wd) : G_unlike_growth [.lst (A.map passD), .lst (B.map passD), .str g.side, .int g.many] w = some (optD (least (badG g.many A B) 30), w) := by
  have hm : 1 ≤ g.many ∧ g.many ≤ 2 := by cases g <;> decide
  rw [← growth_same g.many hm.1 hm.2 A B hA hB]
  have c1 : G_check_growing [.lst (A.map passD), .str g.side, .int g.many] w = some (.non, w) := check_growing_on g false A hA.ok w
  have c2 : G_check_growing [.lst (B.map passD), .str g.side, .int g.many] w = some (.non, w) := check_growing_on g false B hB.ok w
  have c3 := both_on A B hA hB w
  obtain ⟨p0, p1⟩ := found_le (perB_in hA hB)
  generalize hP : perB A B = P at *
  have la := hA.2
  have lb := hB.2
  have hN : 8 + 3 * g.many * P ≤ 80 := by
    have : g.many = 1 ∨ g.many = 2 := by omega
    rcases this with h | h <;> rw [h] <;> omega
  have m1 : mulD (.int 3) (.int g.many) = some (.int (3 * g.many)) := J.v_mul (okMul_l (by decide) (by decide))
  have m2 : mulD (.int (3 * (g.many : Int))) (.int P) = some (.int (3 * g.many * P)) := J.v_mul (okMul_l (by omega) (by omega))
  have em : (8 : Int) + 3 * (g.many : Int) * (P : Int) = ((8 + 3 * g.many * P : Nat) : Int) := by
    have : g.many = 1 ∨ g.many = 2 := by omega
    rcases this with h | h <;> rw [h] <;> omega
  have hr := irg0 (8 + 3 * g.many * P) (by omega) w
  rw [ap_unlike_growth]
  unfold g_unlike_growth
  rw [seq_nx (ds2 := [.d (.lst (A.map passD)), .d (.lst (B.map passD)), .d (.str g.side), .d (.int g.many), .no, .no]) (w2 := w) (by simp [c1]), seq_nx (ds2 := [.d (.lst (A.map passD)), .d (.lst (B.map passD)), .d (.str g.side), .d (.int g.many), .no, .no]) (w2 := w) (by simp [c2]),
    seq_nx (ds2 := [.d (.lst (A.map passD)), .d (.lst (B.map passD)), .d (.str g.side), .d (.int g.many), .d (.int (8 + 3 * (g.many : Int) * (P : Int))), .no]) (w2 := w) (by
      have hl' : A.length + B.length ≤ 100000 := by omega
      simp [line_eq, c3, m1, m2, hl'])]
  rw [em]
  generalize hNN : 8 + 3 * g.many * P = N at *
  have hs : ∀ a ∈ List.range N, ∀ ds : List Sl, (∃ z, ds = [.d (.lst (A.map passD)), .d (.lst (B.map passD)), .d (.str g.side), .d (.int g.many), .d (.int (N : Int)), z]) → ∃ ds1, (gN 5) ds (natD a) = some ds1 ∧
      (badG g.many A B a = true → bodyG ds1 w = some (.rt (natD a) w)) ∧
      (badG g.many A B a = false → ∃ ds2, bodyG ds1 w = some (.nx ds2 w) ∧ ∃ z, ds2 = [.d (.lst (A.map passD)), .d (.lst (B.map passD)), .d (.str g.side), .d (.int g.many), .d (.int (N : Int)), z]) := by
    intro a ha ds ⟨z, hz⟩
    subst hz
    have ha' := List.mem_range.mp ha
    have n1 : G_grown_number [.lst (A.map passD), .int a, .str g.side, .int g.many] w = some (.int (gro g.many A a), w) := grown_number_on g false A hA.ok hA.len a (by omega) w
    have n2 : G_grown_number [.lst (B.map passD), .int a, .str g.side, .int g.many] w = some (.int (gro g.many B a), w) := grown_number_on g false B hB.ok hB.len a (by omega) w
    have k1 : (eCallK 2 2 G_grown_number (aCons (eVar 0) (aCons (eVar 5) aNil)) (aCons (eVar 2) (aCons (eVar 3) aNil))) [.d (.lst (A.map passD)), .d (.lst (B.map passD)), .d (.str g.side), .d (.int g.many), .d (.int (N : Int)), .d (natD a)] w = some (.int (gro g.many A a), w) :=
      eCallK_on (a := [.lst (A.map passD), .int a]) (b := [.str g.side, .int g.many]) (by simp) (by simp) rfl rfl n1
    have k2 : (eCallK 2 2 G_grown_number (aCons (eVar 1) (aCons (eVar 5) aNil)) (aCons (eVar 2) (aCons (eVar 3) aNil))) [.d (.lst (A.map passD)), .d (.lst (B.map passD)), .d (.str g.side), .d (.int g.many), .d (.int (N : Int)), .d (natD a)] w = some (.int (gro g.many B a), w) :=
      eCallK_on (a := [.lst (B.map passD), .int a]) (b := [.str g.side, .int g.many]) (by simp) (by simp) rfl rfl n2
    refine ⟨[.d (.lst (A.map passD)), .d (.lst (B.map passD)), .d (.str g.side), .d (.int g.many), .d (.int (N : Int)), .d (natD a)], rfl, fun hb => ?_, fun hb => ⟨[.d (.lst (A.map passD)), .d (.lst (B.map passD)), .d (.str g.side), .d (.int g.many), .d (.int (N : Int)), .d (natD a)], ?_, _, rfl⟩⟩
    · unfold badG at hb
      have hb' : ¬gro g.many A a = gro g.many B a := by simpa using hb
      simp [k1, k2, hb']
    · unfold badG at hb
      have hb' : gro g.many A a = gro g.many B a := by simpa using hb
      simp [k1, k2, hb']
  obtain ⟨f1, f2⟩ := forGo_find natD _ (badG g.many A B) natD (List.range N) [.d (.lst (A.map passD)), .d (.lst (B.map passD)), .d (.str g.side), .d (.int g.many), .d (.int (N : Int)), .no] ⟨_, rfl⟩ hs
  cases e : least (badG g.many A B) N with
  | none =>
    obtain ⟨ds', h1, z, h2⟩ := f2 e
    subst h2
    rw [seq_nx (ds2 := [.d (.lst (A.map passD)), .d (.lst (B.map passD)), .d (.str g.side), .d (.int g.many), .d (.int (N : Int)), z]) (w2 := w) (by
      rw [← h1]
      rw [sFor.ap, iRg.ap]
      show fo1 _ _ _ (irF (.int 0) (.int (N : Int)) w) = _
      rw [hr]
      rfl)]
    simp [optD]
  | some k =>
    have h1 := f1 k e
    rw [seq_rt (d := natD k) (w2 := w) (by
      rw [← h1]
      rw [sFor.ap, iRg.ap]
      show fo1 _ _ _ (irF (.int 0) (.int (N : Int)) w) = _
      rw [hr]
      rfl)]
    rfl
end K12
namespace K12
open PySem PyProof.Rows L2 J
theorem exl_num (p : Pass) (hp : p.ok) (n : Nat) (hn : n < 41) : (((exl p n).length : Nat) : Int) = num p n := by
  cases p with
  | turn => rfl
  | round r => rfl
  | chain r u =>
    show (((exl (.chain r u) n).length : Nat) : Int) = pos0 ((n : Int) - 1)
    have e : (exl (.chain r u) n).length = n - 1 := by cases r <;> simp [exl]
    rw [e]
    unfold pos0
    split <;> omega
  | ends r u =>
    show (((exl (.ends r u) n).length : Nat) : Int) = if 1 < (n : Int) then 1 else 0
    by_cases h : 1 < n
    · have h' : (1 : Int) < n := by omega
      rw [if_pos h']
      simp [exl, h]
    · have h' : ¬(1 : Int) < n := by omega
      rw [if_neg h']
      simp [exl, h]
  | layer r a s u =>
    obtain ⟨h2, h6, ha⟩ := hp
    have t : ∀ n : Nat, n < 41 → ∀ s : Nat, s < 7 → ∀ a : Nat, a < 7 → (2 ≤ s ∧ a < s) → ((rgN a ((n : Int) - 1) s : Nat) : Int) = pos0 (-(-((n : Int) - 1 - a) / s)) := by decide +kernel
    have e : (exl (.layer r a s u) n).length = rgN a ((n : Int) - 1) s := by cases r <;> simp [exl, lay0]
    rw [e]
    exact t n hn s (by omega) a (by omega) ⟨h2, ha⟩
/-! what a generator's body hands out, by number -/
theorem then_on {g h : Gn} {ds ds2 ds3 : List Sl} {w w2 w3 : Wd} {n1 n2 : List D} (h1 : g ds w = some (ds2, w2, n1)) (h2 : h ds2 w2 = some (ds3, w3, n2)) : nThen g h ds w = some (ds3, w3, n1 ++ n2) := by
  unfold nThen
  rw [h1]
  simp only [Option.bind_some]
  rw [h2]
  rfl
theorem plain_on {f : Es} {ds ds2 : List Sl} {w w2 : Wd} (h : f ds w = some (.nx ds2 w2)) : nPlain f ds w = some (ds2, w2, []) := by
  unfold nPlain
  rw [h]
theorem plain_then {f : Es} {g : Gn} {ds ds2 ds3 : List Sl} {w w2 w3 : Wd} {n2 : List D} (h : f ds w = some (.nx ds2 w2)) (h2 : g ds2 w2 = some (ds3, w3, n2)) : nThen (nPlain f) g ds w = some (ds3, w3, n2) := then_on (plain_on h) h2
theorem forGn_len {α : Type} (enc : α → D) {tg : Eg} {body : Gn} {w : Wd} (env : List Sl → Prop) (k : α → Nat) : ∀ (xs : List α) (ds : List Sl), env ds →
    (∀ a ∈ xs, ∀ (ds : List Sl), env ds → ∃ ds1 ds2 out, tg ds (enc a) = some ds1 ∧ body ds1 w = some (ds2, w, out) ∧ out.length = k a ∧ env ds2) → ∃ ds2 out, forGn tg body (xs.map enc) ds w = some (ds2, w, out) ∧ out.length = (xs.map k).sum ∧ env ds2
  | [], ds, h, _ => ⟨ds, [], rfl, rfl, h⟩
  | a :: xs, ds, h, hs => by
    obtain ⟨ds1, ds2, out, h1, h2, h3, h4⟩ := hs a List.mem_cons_self ds h
    obtain ⟨ds3, out2, i1, i2, i3⟩ := forGn_len enc env k xs ds2 h4 fun b hb => hs b (List.mem_cons_of_mem _ hb)
    refine ⟨ds3, out ++ out2, ?_, by rw [List.length_append, h3, i2]; rfl, i3⟩
    rw [List.map_cons]
    unfold forGn
    rw [h1]
    simp only [Option.bind_some]
    rw [h2]
    simp only [Option.bind_some]
    rw [i1]
    rfl
theorem nFor_on {src : Ef} {tg : Eg} {body : Gn} {ds : List Sl} {w w2 : Wd} {xs : List D} {r : Option (List Sl × Wd × List D)} (h1 : src ds w = some (xs, w2)) (h2 : forGn tg body xs ds w2 = r) : nFor src tg body ds w = r := by
  unfold nFor
  rw [h1]
  exact h2
/-! the cuts -/
def Gw.ends : Gw → Nat × Nat
  | .r1 => (0, 1) | .l2 => (2, 0) | .b2 => (1, 1) | .l1 => (1, 0)
theorem ends_on (g : Gw) (w : Wd) : G_ends_of [.str g.side, .int g.many] w = some (.tup [.int g.ends.1, .int g.ends.2], w) := by
  show fin (g_ends_of [.d (.str g.side), .d (.int g.many)] w) = _
  unfold g_ends_of
  cases g <;> (unfold Gw.side Gw.many Gw.ends; simp (decide := true) [l_both, line_eq])
def cutsL (m l r : Nat) : Nat → Nat → Nat → List (Nat × Nat)
  | 0, _, _ => []
  | n + 1, s, e => if m ≤ e - s then (s, e) :: cutsL m l r n (s + l) (e - r) else []
def cutOk (m l r : Nat) : Nat → Nat → Nat → Bool
  | 0, _, _ => false
  | n + 1, s, e => if m ≤ e - s then cutOk m l r n (s + l) (e - r) else true
def cutD2 (c : Nat × Nat) : D := .tup [.int c.1, .int c.2]
noncomputable abbrev tW : Et := eTest (eGe (eSub (eBor 8) (eBor 7)) (eBor 3))
noncomputable abbrev bW : Es := sSeq (sApp 6 (eTup (aCons (eVar 7) (aCons (eVar 8) aNil)))) (sSeq (sPar2 7 8 (pD (eAdd (eBor 7) (eBor 4)) (pD (eSub (eBor 8) (eBor 5)) pNil))) sNil)
theorem cut_loop (x0 x1 x2 : Sl) (m l r : Nat) (hm : 1 ≤ m) (hlr : l + r = m) (w : Wd) (y1 y2 y3 y4 y5 y6 : Sl) : ∀ (n s e : Nat) (C : List (Nat × Nat)), s ≤ e → C.length + n ≤ 1000 → cutOk m l r n s e = true →
    ∃ s' e' : Nat, whileN tW bW n [x0, x1, x2, .d (.int m), .d (.int l), .d (.int r), .own (C.map cutD2), .d (.int s), .d (.int e), y1, y2, y3, y4, y5, y6] w = some (.nx [x0, x1, x2, .d (.int m), .d (.int l), .d (.int r), .own ((C ++ cutsL m l r n s e).map cutD2), .d (.int s'), .d (.int e'), y1, y2, y3, y4, y5, y6] w)
  | 0, s, e, C, _, _, h => by cases h
  | n + 1, s, e, C, hse, hC, h => by
    unfold cutOk at h
    unfold cutsL
    by_cases hc : m ≤ e - s
    · rw [if_pos hc] at h ⊢
      obtain ⟨s', e', i⟩ := cut_loop x0 x1 x2 m l r hm hlr w y1 y2 y3 y4 y5 y6 n (s + l) (e - r) (C ++ [(s, e)]) (by omega) (by rw [List.length_append]; simp; omega) h
      refine ⟨s', e', ?_⟩
      rw [List.append_assoc] at i
      have hc' : (m : Int) ≤ (e : Int) - (s : Int) := by omega
      have e1 : ((s + l : Nat) : Int) = (s : Int) + (l : Int) := by omega
      have e2 : ((e - r : Nat) : Int) = (e : Int) - (r : Int) := by omega
      have hCl : C.length < 100000 := by omega
      rw [e1, e2] at i
      refine (wh_nx (w1 := w) (by simp [hc']) ?_).trans i
      simp [line_eq, hCl, cutD2]
    · rw [if_neg hc, List.append_nil]
      have hc' : ¬(m : Int) ≤ (e : Int) - (s : Int) := by omega
      exact ⟨s, e, wh_no (by simp [hc'])⟩
theorem cuts_tab (g : Gw) (n : Nat) (hn : n < 8) : cutOk g.many g.ends.1 g.ends.2 20 0 n = true ∧ ((cutsL g.many g.ends.1 g.ends.2 20 0 n).reverse.map fun c => c.2 - c.1) = sizes g.many n ∧ ∀ c ∈ cutsL g.many g.ends.1 g.ends.2 20 0 n, c.1 ≤ c.2 ∧ c.2 - c.1 < 41 := by
  have t : ∀ n : Nat, n < 8 → ([Gw.r1, .l2, .b2, .l1].all fun g => cutOk g.many g.ends.1 g.ends.2 20 0 n && decide (((cutsL g.many g.ends.1 g.ends.2 20 0 n).reverse.map fun c => c.2 - c.1) = sizes g.many n) && (cutsL g.many g.ends.1 g.ends.2 20 0 n).all fun c => decide (c.1 ≤ c.2) && decide (c.2 - c.1 < 41)) = true := by decide +kernel
  have h := List.all_eq_true.mp (t n hn) g (by cases g <;> simp)
  simp only [Bool.and_eq_true, decide_eq_true_eq] at h
  exact ⟨h.1.1, h.1.2, fun c hc => by simpa using (List.all_eq_true.mp h.2) c hc⟩
end K12
namespace K12
open PySem PyProof.Rows L2 J
noncomputable abbrev gY : Gn := nThen (nYield (eTup (aCons (eAdd (eBor 9) (eBor 12)) (aCons (eAdd (eBor 9) (eBor 13)) (aCons (eVar 14) aNil))))) nNilG
noncomputable abbrev t3 : Eg := gT 3 (gsCons (gN 12) (gsCons (gN 13) (gsCons (gN 14) gsNil)))
theorem yield_on (x0 x1 x2 x3 x4 x5 x6 x7 x8 x10 x11 : Sl) (f : Nat) (w : Wd) (l : List (Nat × Bool)) (z12 z13 z14 : Sl) : ∃ ds2 out, forGn t3 gY (l.map exD) [x0, x1, x2, x3, x4, x5, x6, x7, x8, .d (.int f), x10, x11, z12, z13, z14] w = some (ds2, w, out) ∧ out.length = (l.map fun _ => 1).sum ∧ ∃ z12 z13 z14, ds2 = [x0, x1, x2, x3, x4, x5, x6, x7, x8, .d (.int f), x10, x11, z12, z13, z14] := by
  refine forGn_len exD (fun ds => ∃ z12 z13 z14, ds = [x0, x1, x2, x3, x4, x5, x6, x7, x8, .d (.int f), x10, x11, z12, z13, z14]) (fun _ => 1) l _ ⟨_, _, _, rfl⟩ fun q hq ds ⟨z12, z13, z14, hz⟩ => ?_
  subst hz
  refine ⟨[x0, x1, x2, x3, x4, x5, x6, x7, x8, .d (.int f), x10, x11, .d (.int q.1), .d (.int (q.1 + 1)), .d (.str (ordS q.2))], _, _, rfl, then_on (ds2 := [x0, x1, x2, x3, x4, x5, x6, x7, x8, .d (.int f), x10, x11, .d (.int q.1), .d (.int (q.1 + 1)), .d (.str (ordS q.2))]) (w2 := w) (n1 := [.tup [.int (f + q.1), .int (f + (q.1 + 1)), .str (ordS q.2)]]) ?_ rfl, rfl, _, _, _, rfl⟩
  unfold nYield
  have e : (eTup (aCons (eAdd (eBor 9) (eBor 12)) (aCons (eAdd (eBor 9) (eBor 13)) (aCons (eVar 14) aNil)))) [x0, x1, x2, x3, x4, x5, x6, x7, x8, .d (.int f), x10, x11, .d (.int q.1), .d (.int (q.1 + 1)), .d (.str (ordS q.2))] w = some (.tup [.int (f + q.1), .int (f + (q.1 + 1)), .str (ordS q.2)], w) := by simp [line_eq]
  rw [e]
  rfl
noncomputable abbrev gE : Gn := nThen (nFor (iItems (eCall 2 G_exchanges (aCons (eVar 11) (aCons (eSub (eBor 10) (eBor 9)) aNil)))) t3 gY) nNilG
theorem ones {α : Type} (l : List α) : (l.map fun _ => 1).sum = l.length := by
  induction l with
  | nil => rfl
  | cons a l ih => rw [List.map_cons, List.sum_cons, ih, List.length_cons]; omega
theorem pass_net (x0 x1 x2 x3 x4 x5 x6 x7 x8 : Sl) (c : Nat × Nat) (hc : c.1 ≤ c.2 ∧ c.2 - c.1 < 41) (w : Wd) (ps : List Pass) (hp : ∀ p ∈ ps, p.ok) (z11 z12 z13 z14 : Sl) : ∃ ds2 out, forGn (gN 11) gE (ps.map passD) [x0, x1, x2, x3, x4, x5, x6, x7, x8, .d (.int c.1), .d (.int c.2), z11, z12, z13, z14] w = some (ds2, w, out) ∧ out.length = (ps.map fun p => (exl p (c.2 - c.1)).length).sum ∧ ∃ z11 z12 z13 z14, ds2 = [x0, x1, x2, x3, x4, x5, x6, x7, x8, .d (.int c.1), .d (.int c.2), z11, z12, z13, z14] := by
  refine forGn_len passD (fun ds => ∃ z11 z12 z13 z14, ds = [x0, x1, x2, x3, x4, x5, x6, x7, x8, .d (.int c.1), .d (.int c.2), z11, z12, z13, z14]) (fun p => (exl p (c.2 - c.1)).length) ps _ ⟨_, _, _, _, rfl⟩ fun p hpm ds ⟨z11, z12, z13, z14, hz⟩ => ?_
  subst hz
  have hx := exchanges_on p (c.2 - c.1) hc.2 (hp p hpm) w
  have ec : (c.2 : Int) - (c.1 : Int) = ((c.2 - c.1 : Nat) : Int) := by omega
  obtain ⟨ds2, out, h1, h2, z12', z13', z14', h3⟩ := yield_on x0 x1 x2 x3 x4 x5 x6 x7 x8 (.d (.int c.2)) (.d (passD p)) c.1 w (exl p (c.2 - c.1)) z12 z13 z14
  subst h3
  have src : (iItems (eCall 2 G_exchanges (aCons (eVar 11) (aCons (eSub (eBor 10) (eBor 9)) aNil)))) [x0, x1, x2, x3, x4, x5, x6, x7, x8, .d (.int c.1), .d (.int c.2), .d (passD p), z12, z13, z14] w = some ((exl p (c.2 - c.1)).map exD, w) := by
    simp [ec, hx]
  refine ⟨[x0, x1, x2, x3, x4, x5, x6, x7, x8, .d (.int c.1), .d (.int c.2), .d (passD p), z12, z13, z14], [x0, x1, x2, x3, x4, x5, x6, x7, x8, .d (.int c.1), .d (.int c.2), .d (passD p), z12', z13', z14'], out, rfl, ?_, ?_, .d (passD p), z12', z13', z14', rfl⟩
  · have := then_on (g := nFor (iItems (eCall 2 G_exchanges (aCons (eVar 11) (aCons (eSub (eBor 10) (eBor 9)) aNil)))) t3 gY) (h := nNilG) (nFor_on src h1) rfl
    rw [List.append_nil] at this
    exact this
  · rw [h2]
    exact ones _
noncomputable abbrev gP : Gn := nThen (nFor (iItems (eVar 0)) (gN 11) gE) nNilG
theorem cuts_net (x1 x2 x3 x4 x5 x6 x7 x8 : Sl) (w : Wd) (ps : List Pass) (hp : ∀ p ∈ ps, p.ok) (C : List (Nat × Nat)) (hC : ∀ c ∈ C, c.1 ≤ c.2 ∧ c.2 - c.1 < 41) (z9 z10 z11 z12 z13 z14 : Sl) : ∃ ds2 out, forGn (gT 2 (gsCons (gN 9) (gsCons (gN 10) gsNil))) gP (C.map cutD2) [.d (.lst (ps.map passD)), x1, x2, x3, x4, x5, x6, x7, x8, z9, z10, z11, z12, z13, z14] w = some (ds2, w, out) ∧ out.length = (C.map fun c => (ps.map fun p => (exl p (c.2 - c.1)).length).sum).sum := by
  have h := forGn_len cutD2 (tg := gT 2 (gsCons (gN 9) (gsCons (gN 10) gsNil))) (body := gP) (w := w) (fun ds => ∃ z9 z10 z11 z12 z13 z14, ds = [.d (.lst (ps.map passD)), x1, x2, x3, x4, x5, x6, x7, x8, z9, z10, z11, z12, z13, z14]) (fun c => (ps.map fun p => (exl p (c.2 - c.1)).length).sum) C _ ⟨z9, z10, z11, z12, z13, z14, rfl⟩ fun c hcm ds ⟨z9, z10, z11, z12, z13, z14, hz⟩ => by
    subst hz
    obtain ⟨ds2, out, h1, h2, a, b, c', d, h3⟩ := pass_net (.d (.lst (ps.map passD))) x1 x2 x3 x4 x5 x6 x7 x8 c (hC c hcm) w ps hp z11 z12 z13 z14
    subst h3
    have src : (iItems (eVar 0)) [.d (.lst (ps.map passD)), x1, x2, x3, x4, x5, x6, x7, x8, .d (.int c.1), .d (.int c.2), z11, z12, z13, z14] w = some (ps.map passD, w) := by simp
    refine ⟨[.d (.lst (ps.map passD)), x1, x2, x3, x4, x5, x6, x7, x8, .d (.int c.1), .d (.int c.2), z11, z12, z13, z14], [.d (.lst (ps.map passD)), x1, x2, x3, x4, x5, x6, x7, x8, .d (.int c.1), .d (.int c.2), a, b, c', d], out, rfl, ?_, h2, .d (.int c.1), .d (.int c.2), a, b, c', d, rfl⟩
    have := then_on (g := nFor (iItems (eVar 0)) (gN 11) gE) (h := nNilG) (nFor_on src h1) rfl
    rw [List.append_nil] at this
    exact this
  obtain ⟨ds2, out, h1, h2, _⟩ := h
  exact ⟨ds2, out, h1, h2⟩
def Pass.mv : Pass → Bool
  | .turn => true
  | .round _ => true
  | _ => false
theorem in_mv (p : Pass) : ∃ x r, passD p = .tup (.str x :: r) ∧ inD false (.str x) (.tup [.str "turn", .str "round"]) = some (.bl p.mv) := by
  cases p with
  | turn => exact ⟨_, _, rfl, rfl⟩
  | round r => exact ⟨_, _, rfl, rfl⟩
  | chain r u => exact ⟨_, _, rfl, rfl⟩
  | ends r u => exact ⟨_, _, rfl, rfl⟩
  | layer r a s u => exact ⟨_, _, rfl, rfl⟩
theorem sum_cast (l : List Nat) : ((l.sum : Nat) : Int) = (l.map fun n : Nat => (n : Int)).sum := by
  induction l with
  | nil => rfl
  | cons a l ih => rw [List.sum_cons, List.map_cons, List.sum_cons, ← ih]; omega
theorem tot_exl (ps : List Pass) (hp : ∀ p ∈ ps, p.ok) (n : Nat) (hn : n < 41) : (((ps.map fun p => (exl p n).length).sum : Nat) : Int) = tot ps n := by
  rw [sum_cast, List.map_map]
  unfold tot
  congr 1
  exact List.map_congr_left fun p h => exl_num p (hp p h) n hn
theorem net_on (g : Gw) (ps : List Pass) (h : Okk ps) (hmv : ∀ p ∈ ps, p.mv = false) (n : Nat) (hn : n < 8) (w : Wd) : ∃ out : List D, G_grown_net [.lst (ps.map passD), .int n, .str g.side, .int g.many] w = some (out, w) ∧ ((out.length : Nat) : Int) = gro g.many ps n := by
  obtain ⟨t1, t2, t3⟩ := cuts_tab g n hn
  have hm : 1 ≤ g.many ∧ g.many ≤ 2 ∧ g.ends.1 + g.ends.2 = g.many := by cases g <;> decide
  have c1 : G_check_growing [.lst (ps.map passD), .str g.side, .int g.many] w = some (.non, w) := check_growing_on g false ps h.ok w
  have c2 := ends_on g w
  obtain ⟨s', e', hw⟩ := cut_loop (.d (.lst (ps.map passD))) (.d (.int n)) (.d (.str g.side)) g.many g.ends.1 g.ends.2 hm.1 hm.2.2 w .no .no .no .no .no .no 20 0 n [] (Nat.zero_le _) (by decide) t1
  rw [List.nil_append] at hw
  generalize hC : cutsL g.many g.ends.1 g.ends.2 20 0 n = C at *
  obtain ⟨ds2, out, k1, k2⟩ := cuts_net (.d (.int n)) (.d (.str g.side)) (.d (.int g.many)) (.d (.int g.ends.1)) (.d (.int g.ends.2)) (.own (C.map cutD2)) (.d (.int s')) (.d (.int e')) w ps h.ok C.reverse (fun c hc => t3 c (List.mem_reverse.mp hc)) .no .no .no .no .no .no
  have hsum : ((out.length : Nat) : Int) = gro g.many ps n := by
    rw [k2, sum_cast, List.map_map]
    unfold gro
    rw [← t2, List.map_map]
    congr 1
    exact List.map_congr_left fun c hc => tot_exl ps h.ok (c.2 - c.1) (t3 c (List.mem_reverse.mp hc)).2
  have hsmall : out.length ≤ line := by
    have hk : ∀ m, m < 3 → ∀ n, n < 8 → 1 ≤ m → (sizes m n).length ≤ 8 ∧ ∀ k ∈ sizes m n, k ≤ 8 := by decide +kernel
    obtain ⟨q1, q2⟩ := hk g.many (by omega) n hn hm.1
    have hnum : ∀ p : Pass, p.ok → ∀ k : Nat, k ≤ 8 → num p k ≤ 8 := fun p hp k hk => by
      have e := exl_num p hp k (by omega)
      cases p with
      | turn => exact (by decide : (0 : Int) ≤ 8)
      | round r => exact (by decide : (0 : Int) ≤ 8)
      | chain r u =>
        show pos0 ((k : Int) - 1) ≤ 8
        unfold pos0
        split <;> omega
      | ends r u =>
        show (if 1 < (k : Int) then (1 : Int) else 0) ≤ 8
        split <;> decide
      | layer r a s u =>
        obtain ⟨h2, h6, ha⟩ := hp
        have t : ∀ n : Nat, n < 9 → ∀ s : Nat, s < 7 → ∀ a : Nat, a < 7 → (2 ≤ s ∧ a < s) → pos0 (-(-((n : Int) - 1 - a) / s)) ≤ 8 := by decide +kernel
        exact t k (by omega) s (by omega) a (by omega) ⟨h2, ha⟩
    have htot : ∀ (l : List Pass), (∀ p ∈ l, p.ok) → ∀ k : Nat, k ≤ 8 → tot l k ≤ 8 * (l.length : Int) := by
      intro l
      induction l with
      | nil => exact fun _ _ _ => Int.le_refl _
      | cons p l ih =>
        intro hp k hk
        have a := ih (fun q hq => hp q (List.mem_cons_of_mem _ hq)) k hk
        have b := hnum p (hp p List.mem_cons_self) k hk
        unfold tot at *
        rw [List.map_cons, List.sum_cons, List.length_cons]
        omega
    have hg : ∀ (l : List Nat), (∀ k ∈ l, k ≤ 8) → (l.map fun k : Nat => tot ps k).sum ≤ 40 * (l.length : Int) := by
      intro l
      induction l with
      | nil => exact fun _ => Int.le_refl _
      | cons k l ih =>
        intro hk
        have a := ih fun q hq => hk q (List.mem_cons_of_mem _ hq)
        have b := htot ps h.ok k (hk k List.mem_cons_self)
        have c := h.2
        rw [List.map_cons, List.sum_cons, List.length_cons]
        omega
    have z := hg (sizes g.many n) q2
    unfold gro at hsum
    unfold line
    omega
  refine ⟨out, ?_, hsum⟩
  have ha : lcGo (gN 11) tYesJ (eIn (eIx (eBor 11) (eC (.int 0))) (eTup (aCons (eC (.str "turn")) (aCons (eC (.str "round")) aNil)))) [.d (.lst (ps.map passD)), .d (.int n), .d (.str g.side), .d (.int g.many), .no, .no, .no, .no, .no, .no, .no, .no, .no, .no, .no] (ps.map passD) w = some ((ps.map Pass.mv).map D.bl, w) := by
    rw [List.map_map]
    refine lcGo_map passD _ ps fun p hp => ⟨_, rfl, ?_⟩
    obtain ⟨x, r, e1, e2⟩ := in_mv p
    rw [e1]
    simp [e2, line_eq]
  have hal := v_any (ps.map Pass.mv)
  have hf : (ps.map Pass.mv).any id = false := by
    rw [List.any_eq_false]
    intro b hb
    obtain ⟨p, hp, rfl⟩ := List.mem_map.mp hb
    rw [hmv p hp]
    decide
  rw [hf] at hal
  have hl : ps.length ≤ 100000 := by
    have := h.2
    omega
  have h0 : (0 : Int) ≤ n := by omega
  have h1 : (n : Int) ≤ 300 := by omega
  have body : g_grown_net [.d (.lst (ps.map passD)), .d (.int n), .d (.str g.side), .d (.int g.many), .no, .no, .no, .no, .no, .no, .no, .no, .no, .no, .no] w = some (ds2, w, out) := by
    unfold g_grown_net
    refine plain_then (ds2 := [.d (.lst (ps.map passD)), .d (.int n), .d (.str g.side), .d (.int g.many), .no, .no, .no, .no, .no, .no, .no, .no, .no, .no, .no]) (w2 := w) (by simp [c1]) ?_
    refine plain_then (ds2 := [.d (.lst (ps.map passD)), .d (.int n), .d (.str g.side), .d (.int g.many), .no, .no, .no, .no, .no, .no, .no, .no, .no, .no, .no]) (w2 := w) (by simp [whole_int, h0, h1]) ?_
    refine plain_then (ds2 := [.d (.lst (ps.map passD)), .d (.int n), .d (.str g.side), .d (.int g.many), .no, .no, .no, .no, .no, .no, .no, .no, .no, .no, .no]) (w2 := w) (by simp [ha, hal, line_eq, hl, -List.map_map, -J.v_any]) ?_
    refine plain_then (ds2 := [.d (.lst (ps.map passD)), .d (.int n), .d (.str g.side), .d (.int g.many), .d (.int g.ends.1), .d (.int g.ends.2), .no, .no, .no, .no, .no, .no, .no, .no, .no]) (w2 := w) (by simp [c2]) ?_
    refine plain_then (ds2 := [.d (.lst (ps.map passD)), .d (.int n), .d (.str g.side), .d (.int g.many), .d (.int g.ends.1), .d (.int g.ends.2), .own [], .d (.int 0), .d (.int n), .no, .no, .no, .no, .no, .no]) (w2 := w) (by simp [line_eq]) ?_
    refine plain_then (sWhile_of hw) ?_
    have src : (iItems (eL (fRev (eBor 6)))) [.d (.lst (ps.map passD)), .d (.int n), .d (.str g.side), .d (.int g.many), .d (.int g.ends.1), .d (.int g.ends.2), .own (C.map cutD2), .d (.int s'), .d (.int e'), .no, .no, .no, .no, .no, .no] w = some (C.reverse.map cutD2, w) := by
      simp
    have := then_on (g := nFor (iItems (eL (fRev (eBor 6)))) (gT 2 (gsCons (gN 9) (gsCons (gN 10) gsNil))) gP) (h := nNilG) (nFor_on src k1) rfl
    rw [List.append_nil] at this
    exact this
  show callG 15 g_grown_net _ w = _
  unfold callG
  have st : startS 15 [.lst (ps.map passD), .int n, .str g.side, .int g.many] = [.d (.lst (ps.map passD)), .d (.int n), .d (.str g.side), .d (.int g.many), .no, .no, .no, .no, .no, .no, .no, .no, .no, .no, .no] := rfl
  rw [st, body]
  simp only [Option.bind_some]
  rw [if_pos hsmall]
end K12
namespace K12
open PySem PyProof.Rows L2 J
/-! ### looms -/
inductive Sp where
  | cross | mirror | swap | flip
def Sp.x : Sp → Bool
  | .cross => true | .mirror => true | _ => false
def stepD : Sp → D
  | .cross => .tup [.str "cross", .str "up"]
  | .mirror => .tup [.str "mirror", .str "down"]
  | .swap => .tup [.str "swap"]
  | .flip => .tup [.str "flip", .str "all"]
inductive Nm where
  | a | b | c
def Nm.s : Nm → Str
  | .a => "a" | .b => "b" | .c => "c"
def calD : Option Nm → D
  | none => .non
  | some x => .tup [.str x.s, .bl false]
structure Lm where
  st : List Sp
  c1 : Option Nm
  c2 : Option Nm
def lmD (l : Lm) : D := .tup [.tup (l.st.map stepD), calD l.c1, calD l.c2]
structure L3 where
  a : Lm
  b : Lm
  c : Lm
def L3.get (L : L3) : Nm → Lm
  | .a => L.a | .b => L.b | .c => L.c
def kabc : List Key := [.inr "a", .inr "b", .inr "c"]
def l3D (L : L3) : D := .dk kabc [lmD L.a, lmD L.b, lmD L.c]
def Lm.ok (l : Lm) : Prop := l.st.length ≤ 2
def L3.ok (L : L3) : Prop := L.a.ok ∧ L.b.ok ∧ L.c.ok
theorem step_ok (x : Sp) (w : Wd) : G_is_step [stepD x] w = some (.bl true, w) := by
  show fin (g_is_step [.d (stepD x)] w) = _
  unfold g_is_step
  have e1 : inD false (.str "all") (.tup [.str "left", .str "right", .str "both", .str "all"]) = some (.bl true) := rfl
  have e2 : inD false (.str "cross") (.tup [.str "cross", .str "mirror"]) = some (.bl true) := rfl
  have e3 : inD false (.str "mirror") (.tup [.str "cross", .str "mirror"]) = some (.bl true) := rfl
  have e4 : inD false (.str "up") (.tup [.str "up", .str "down"]) = some (.bl true) := rfl
  have e5 : inD false (.str "down") (.tup [.str "up", .str "down"]) = some (.bl true) := rfl
  have l1 : lay (.str "cross") = true := by decide +kernel
  have l2 : lay (.str "mirror") = true := by decide +kernel
  have l3 : lay (.str "swap") = true := by decide +kernel
  have l4 : lay (.str "flip") = true := by decide +kernel
  cases x <;> (unfold stepD; simp (decide := true) [e1, e2, e3, e4, e5, l1, l2, l3, l4, line_eq])
theorem call_ok (c : Option Nm) (x y z : D) (w : Wd) : G_is_call [calD c, .dk kabc [x, y, z]] w = some (.bl true, w) := by
  cases c with
  | none => rfl
  | some n => cases n <;> rfl
theorem cut1 (x y z : D) : J.cutD [x, y, z] (some 1) none = [y, z] := cut_from1 [x, y, z]
theorem loom_ok (l : Lm) (hl : l.ok) (x y z : D) (w : Wd) : G_is_loom [lmD l, .dk kabc [x, y, z]] w = some (.bl true, w) := by
  show fin (g_is_loom [.d (lmD l), .d (.dk kabc [x, y, z]), .no, .no] w) = _
  have hl' : l.st.length ≤ 2 := hl
  have e1 : lcGo (gN 2) tYesJ (eCall 1 G_is_step (aCons (eVar 2) aNil)) [.d (lmD l), .d (.dk kabc [x, y, z]), .no, .no] (l.st.map stepD) w = some ((l.st.map fun _ => true).map D.bl, w) := by
    rw [List.map_map]
    exact lcGo_map stepD _ l.st fun s hs => ⟨_, rfl, by simp [step_ok]⟩
  have e2 : lcGo (gN 3) tYesJ (eCall 2 G_is_call (aCons (eVar 3) (aCons (eVar 1) aNil))) [.d (lmD l), .d (.dk kabc [x, y, z]), .no, .no] ([l.c1, l.c2].map calD) w = some (([l.c1, l.c2].map fun _ => true).map D.bl, w) := by
    rw [List.map_map]
    exact lcGo_map calD _ [l.c1, l.c2] fun s hs => ⟨_, rfl, by simp [call_ok]⟩
  have a1 := v_all (l.st.map fun _ => true)
  have a0 : (l.st.map fun _ => true).all id = true := by simp
  rw [a0] at a1
  have a2 : gAll [.lst [.bl true, .bl true]] = some (.bl true) := rfl
  have h1 : ¬(12 : Int) < (l.st.length : Int) := by omega
  have h2 : l.st.length ≤ 100000 := by omega
  unfold g_is_loom
  unfold lmD at e1 e2 ⊢
  simp only [List.map_cons, List.map_nil] at e2
  simp [e1, a1, h1, h2, line_eq, cut1, e2, a2, -List.map_map, -J.v_all]
theorem title_ok (n : Nm) (w : Wd) : G_is_title [.str n.s] w = some (.bl true, w) := by cases n <;> kernel_rfl
theorem check_looms_on (L : L3) (hL : L.ok) (w : Wd) : G_check_looms [l3D L] w = some (.non, w) := by
  show fin (g_check_looms [.d (l3D L), .no] w) = _
  obtain ⟨ha, hb, hc⟩ := hL
  unfold g_check_looms l3D
  rw [sif_no (w2 := w) rfl]
  rw [seq_nx (ds2 := [.d (.dk kabc [lmD L.a, lmD L.b, lmD L.c]), .d (.str Nm.c.s)]) (w2 := w) ?_]
  · rw [seq_nx (ds2 := [.d (.dk kabc [lmD L.a, lmD L.b, lmD L.c]), .d (.str Nm.c.s)]) (w2 := w) ?_]
    · rfl
    · have src : (iItems (eL (fSortedD (aCons (eBor 0) aNil)))) [.d (.dk kabc [lmD L.a, lmD L.b, lmD L.c]), .d (.str Nm.c.s)] w = some ([Nm.a, .b, .c].map fun n => D.str n.s, w) := rfl
      rw [sFor.ap, src]
      show forGo _ _ ([Nm.a, .b, .c].map fun n => D.str n.s) _ w = _
      have at0 : ∀ n : Nm, (eDAt (eBor 0) (eBor 1)) [.d (.dk kabc [lmD L.a, lmD L.b, lmD L.c]), .d (.str n.s)] w = some (lmD (L.get n), w) := fun n => by cases n <;> rfl
      have ok0 : ∀ n : Nm, (L.get n).ok := fun n => by cases n <;> assumption
      have body : ∀ n : Nm, (sSeq (sIf (tNotJ (eTest (eCall 2 G_is_loom (aCons (eDAt (eBor 0) (eBor 1)) (aCons (eVar 0) aNil))))) (sSeq sNone sNil) sNil) sNil) [.d (.dk kabc [lmD L.a, lmD L.b, lmD L.c]), .d (.str n.s)] w = some (.nx [.d (.dk kabc [lmD L.a, lmD L.b, lmD L.c]), .d (.str n.s)] w) := fun n => by
        simp [at0 n, loom_ok (L.get n) (ok0 n)]
      simp only [List.map_cons, List.map_nil]
      rw [forGo_nx (ds1 := [.d (.dk kabc [lmD L.a, lmD L.b, lmD L.c]), .d (.str Nm.a.s)]) rfl (body .a), forGo_nx (ds1 := [.d (.dk kabc [lmD L.a, lmD L.b, lmD L.c]), .d (.str Nm.b.s)]) rfl (body .b), forGo_nx (ds1 := [.d (.dk kabc [lmD L.a, lmD L.b, lmD L.c]), .d (.str Nm.c.s)]) rfl (body .c)]
      rfl
  · have src : (iDKeys (eVar 0)) [.d (.dk kabc [lmD L.a, lmD L.b, lmD L.c]), .no] w = some ([Nm.a, .b, .c].map fun n => D.str n.s, w) := rfl
    rw [sFor.ap, src]
    show forGo _ _ ([Nm.a, .b, .c].map fun n => D.str n.s) _ w = _
    have body : ∀ n : Nm, (sSeq (sIf (tNotJ (eTest (eCall 1 G_is_title (aCons (eVar 1) aNil)))) (sSeq sNone sNil) sNil) sNil) [.d (.dk kabc [lmD L.a, lmD L.b, lmD L.c]), .d (.str n.s)] w = some (.nx [.d (.dk kabc [lmD L.a, lmD L.b, lmD L.c]), .d (.str n.s)] w) := fun n => by
      simp [title_ok n]
    simp only [List.map_cons, List.map_nil]
    rw [forGo_nx (ds1 := [.d (.dk kabc [lmD L.a, lmD L.b, lmD L.c]), .d (.str Nm.a.s)]) rfl (body .a), forGo_nx (ds1 := [.d (.dk kabc [lmD L.a, lmD L.b, lmD L.c]), .d (.str Nm.b.s)]) rfl (body .b), forGo_nx (ds1 := [.d (.dk kabc [lmD L.a, lmD L.b, lmD L.c]), .d (.str Nm.c.s)]) rfl (body .c)]
    rfl
theorem check_name_on (L : L3) (hL : L.ok) (n : Nm) (w : Wd) : G_check_name [l3D L, .str n.s] w = some (.non, w) := by
  show fin (g_check_name [.d (l3D L), .d (.str n.s)] w) = _
  have c := check_looms_on L hL w
  unfold g_check_name
  rw [seq_nx (ds2 := [.d (l3D L), .d (.str n.s)]) (w2 := w) (by simp [c])]
  cases n <;> rfl
end K12
namespace K12
open PySem PyProof.Rows L2 J
def own (l : Lm) : Nat := (l.st.filter Sp.x).length
theorem own_le (l : Lm) (h : l.ok) : own l ≤ 2 := Nat.le_trans (List.length_filter_le _ _) h
theorem in_x (s : Sp) : ∃ x r, stepD s = .tup (.str x :: r) ∧ inD false (.str x) (.tup [.str "cross", .str "mirror"]) = some (.bl s.x) := by
  cases s with
  | cross => exact ⟨_, _, rfl, rfl⟩
  | mirror => exact ⟨_, _, rfl, rfl⟩
  | swap => exact ⟨_, _, rfl, rfl⟩
  | flip => exact ⟨_, _, rfl, rfl⟩
theorem own_on (l : Lm) (hl : l.ok) (h : Int) (w : Wd) : G_own_number [lmD l, .int h] w = some (.int (h * own l), w) := by
  show fin (g_own_number [.d (lmD l), .d (.int h), .no] w) = _
  have e : lcGo (gN 2) (eTest (eIn (eIx (eBor 2) (eC (.int 0))) (eTup (aCons (eC (.str "cross")) (aCons (eC (.str "mirror")) aNil))))) (eVar 2) [.d (lmD l), .d (.int h), .no] (l.st.map stepD) w = some ((l.st.filter Sp.x).map stepD, w) := by
    refine lcGo_filter stepD Sp.x stepD l.st fun s hs => ⟨[.d (lmD l), .d (.int h), .d (stepD s)], rfl, ?_, fun _ => by simp⟩
    obtain ⟨x, r, e1, e2⟩ := in_x s
    rw [e1]
    simp [e2, line_eq]
  have hx := own_le l hl
  have hlen : (l.st.filter Sp.x).length ≤ 100000 := by
    have : own l = (l.st.filter Sp.x).length := rfl
    omega
  have m : mulD (.int h) (.int (own l : Int)) = some (.int (h * own l)) := J.v_mul (okMul_r (by omega) (by omega))
  unfold own at m
  unfold g_own_number
  unfold lmD at e ⊢
  simp [e, hlen, line_eq, m, own]
/-! what the calls add -/
def calV (v : Nm → Int) : Option Nm → Int
  | none => 0
  | some x => v x
theorem ix_s (n : Nm) : idxD (.tup [.str n.s, .bl false]) (.int 0) = some (.str n.s) := rfl
noncomputable abbrev elB : Ev := eIx (eLlAt 3 (eIx (eBor 10) (eC (.int 0)))) (eNeg (eC (.int 1)))
noncomputable abbrev teB : Et := eTest (eIsNot (eBor 10) (eC .non))
noncomputable abbrev lcB : Ef := fLc (iItems (eSlT (eBor 8) (oSo (eC (.int 1))) oNo)) (gN 10) teB elB [10]
theorem ll_at (r : Nm → List D) (x0 x1 x2 x4 x5 x6 x7 x8 x9 : Sl) (n : Nm) (w : Wd) : eLlAt 3 (eIx (eBor 10) (eC (.int 0))) [x0, x1, x2, .ll kabc [r .a, r .b, r .c], x4, x5, x6, x7, x8, x9, .d (calD (some n))] w = some (.lst (r n), w) := by cases n <;> rfl
theorem el_on (r : Nm → List D) (v : Nm → Int) (hv : ∀ n, atI (r n) (-1) = some (.int (v n))) (x0 x1 x2 x4 x5 x6 x7 x8 x9 : Sl) (n : Nm) (w : Wd) : elB [x0, x1, x2, .ll kabc [r .a, r .b, r .c], x4, x5, x6, x7, x8, x9, .d (calD (some n))] w = some (.int (v n), w) := by
  show eIx (eLlAt 3 (eIx (eBor 10) (eC (.int 0)))) (eNeg (eC (.int 1))) _ w = _
  rw [eIx.ap, ll_at]
  simp [hv]
theorem te_on (ds : List Sl) (c : Option Nm) (hd : ds[10]? = some (.d (calD c))) (w : Wd) : teB ds w = some (c.isSome, w) := by
  cases c with
  | none => simp [hd, calD]; rfl
  | some n => simp [hd, calD]; rfl
def calL (v : Nm → Int) : List (Option Nm) → List Int
  | [] => []
  | none :: l => calL v l
  | some n :: l => v n :: calL v l
theorem lc_cal (r : Nm → List D) (v : Nm → Int) (hv : ∀ n, atI (r n) (-1) = some (.int (v n))) (x0 x1 x2 x4 x5 x6 x7 x8 x9 x10 : Sl) (w : Wd) : ∀ l : List (Option Nm), lcGo (gN 10) teB elB [x0, x1, x2, .ll kabc [r .a, r .b, r .c], x4, x5, x6, x7, x8, x9, x10] (l.map calD) w = some ((calL v l).map D.int, w)
  | [] => rfl
  | c :: l => by
    have ih := lc_cal r v hv x0 x1 x2 x4 x5 x6 x7 x8 x9 x10 w l
    rw [List.map_cons, lcGo_test (ds1 := [x0, x1, x2, .ll kabc [r .a, r .b, r .c], x4, x5, x6, x7, x8, x9, .d (calD c)]) (b := (c.isSome, w)) rfl (te_on _ c rfl w)]
    cases c with
    | none =>
      simp only [Option.isSome_none, Bool.false_eq_true, if_false]
      exact ih
    | some n =>
      simp only [Option.isSome_some, if_true]
      rw [el_on r v hv]
      simp only [Option.bind_some]
      rw [ih]
      rfl
theorem cal_sum (v : Nm → Int) (c d : Option Nm) : (calL v [c, d]).sum = calV v c + calV v d := by
  cases c <;> cases d <;> simp [calL, calV]
theorem lc_on (r : Nm → List D) (v : Nm → Int) (hv : ∀ n, atI (r n) (-1) = some (.int (v n))) (x0 x1 x2 x4 x5 x6 x7 x9 x10 : Sl) (l : Lm) (w : Wd) : lcB [x0, x1, x2, .ll kabc [r .a, r .b, r .c], x4, x5, x6, x7, .d (lmD l), x9, x10] w = some ((calL v [l.c1, l.c2]).map D.int, w) := by
  refine fLc_ok (xs := [l.c1, l.c2].map calD) (w1 := w) ?_ (lc_cal r v hv x0 x1 x2 x4 x5 x6 x7 (.d (lmD l)) x9 .no w [l.c1, l.c2]) ?_
  · unfold lmD
    simp [cut1]
  · rw [List.length_map]
    have : (calL v [l.c1, l.c2]).length ≤ 2 := by
      cases l.c1 <;> cases l.c2 <;> simp [calL]
    unfold line
    omega
/-- one loom's new number -/
def newV (L : L3) (h : Int) (v : Nm → Int) (n : Nm) : Int := h * own (L.get n) + (calV v (L.get n).c1 + calV v (L.get n).c2)
noncomputable abbrev exB : Ev := eAdd (eCall 2 G_own_number (aCons (eVar 8) (aCons (eVar 4) aNil))) (eSumB (aCons (eL lcB) aNil))
theorem ex_on (L : L3) (hL : L.ok) (r : Nm → List D) (v : Nm → Int) (hv : ∀ n, atI (r n) (-1) = some (.int (v n))) (x0 x1 x2 x5 x6 x7 x9 x10 : Sl) (h : Int) (n : Nm) (w : Wd) : exB [x0, x1, x2, .ll kabc [r .a, r .b, r .c], .d (.int h), x5, x6, x7, .d (lmD (L.get n)), x9, x10] w = some (.int (newV L h v n), w) := by
  obtain ⟨ha, hb, hc⟩ := hL
  have ok0 : (L.get n).ok := by cases n <;> assumption
  have e1 := lc_on r v hv x0 x1 x2 (.d (.int h)) x5 x6 x7 x9 x10 (L.get n) w
  have e2 := own_on (L.get n) ok0 h w
  have e3 := cal_sum v (L.get n).c1 (L.get n).c2
  generalize hq : (calL v [(L.get n).c1, (L.get n).c2]) = q at *
  have a : (eCall 2 G_own_number (aCons (eVar 8) (aCons (eVar 4) aNil))) [x0, x1, x2, .ll kabc [r .a, r .b, r .c], .d (.int h), x5, x6, x7, .d (lmD (L.get n)), x9, x10] w = some (.int (h * own (L.get n)), w) := by simp [e2]
  have b : (eSumB (aCons (eL lcB) aNil)) [x0, x1, x2, .ll kabc [r .a, r .b, r .c], .d (.int h), x5, x6, x7, .d (lmD (L.get n)), x9, x10] w = some (.int q.sum, w) := by
    rw [eSumB.ap, aCons.ap, eL.ap, e1]
    simp
  show eAdd _ _ _ w = _
  rw [eAdd.ap, a]
  show bin2 addD _ _ = _
  rw [b]
  simp [newV, e3]
end K12
namespace K12
open PySem PyProof.Rows L2 J
noncomputable abbrev b1B : Es := sSeq (sDPut' 6 (eBor 7) exB) sNil
noncomputable abbrev b2B : Es := sSeq (sLlApp 3 (eBor 7) (eVar 9)) sNil
theorem dput_on {fe : Ev} {ds : List Sl} {w : Wd} {d : D} {q : D} {key : Key} {ks : List Key} {es : List D} (h1 : fe ds w = some (d, w)) (h2 : eBor 7 ds w = some (q, w)) (h3 : ds[6]? = some (.oo (.k ks es))) (h4 : keyOf q = some key) (h5 : ks.length < 1000) : sSeq (sDPut' 6 (eBor 7) fe) sNil ds w = some (.nx (ds.set 6 (.oo (.k (putKs ks key) (putVs ks es key d)))) w) := by
  refine (seq_nx (ds2 := ds.set 6 (.oo (.k (putKs ks key) (putVs ks es key d)))) (w2 := w) ?_).trans rfl
  unfold sDPut'
  rw [h1]
  simp only [Option.bind_some]
  rw [h2]
  simp only [Option.bind_some, h3, h4]
  rw [if_pos (by unfold line; omega)]
theorem late_on (L : L3) (hL : L.ok) (r : Nm → List D) (v : Nm → Int) (hv : ∀ n, atI (r n) (-1) = some (.int (v n))) (x1 x2 x5 x7 x8 x9 x10 : Sl) (h : Int) (w : Wd) :
    forGo (gT 2 (gsCons (gN 7) (gsCons (gN 8) gsNil))) b1B [.tup [.str Nm.a.s, lmD L.a], .tup [.str Nm.b.s, lmD L.b], .tup [.str Nm.c.s, lmD L.c]] [.d (l3D L), x1, x2, .ll kabc [r .a, r .b, r .c], .d (.int h), x5, .oo (.k [] []), x7, x8, x9, x10] w =
      some (.nx [.d (l3D L), x1, x2, .ll kabc [r .a, r .b, r .c], .d (.int h), x5, .oo (.k kabc [.int (newV L h v .a), .int (newV L h v .b), .int (newV L h v .c)]), .d (.str Nm.c.s), .d (lmD L.c), x9, x10] w) := by
  have ea := fun (x6 x7 : Sl) => ex_on L hL r v hv (.d (l3D L)) x1 x2 x5 x6 x7 x9 x10 h .a w
  have eb := fun (x6 x7 : Sl) => ex_on L hL r v hv (.d (l3D L)) x1 x2 x5 x6 x7 x9 x10 h .b w
  have ec := fun (x6 x7 : Sl) => ex_on L hL r v hv (.d (l3D L)) x1 x2 x5 x6 x7 x9 x10 h .c w
  rw [forGo_nx (ds1 := [.d (l3D L), x1, x2, .ll kabc [r .a, r .b, r .c], .d (.int h), x5, .oo (.k [] []), .d (.str Nm.a.s), .d (lmD L.a), x9, x10]) (ds2 := [.d (l3D L), x1, x2, .ll kabc [r .a, r .b, r .c], .d (.int h), x5, .oo (.k [.inr "a"] [.int (newV L h v .a)]), .d (.str Nm.a.s), .d (lmD L.a), x9, x10]) (w2 := w) rfl (dput_on (ks := []) (es := []) (key := .inr "a") (ea _ _) rfl rfl rfl (by decide)),
    forGo_nx (ds1 := [.d (l3D L), x1, x2, .ll kabc [r .a, r .b, r .c], .d (.int h), x5, .oo (.k [.inr "a"] [.int (newV L h v .a)]), .d (.str Nm.b.s), .d (lmD L.b), x9, x10]) (ds2 := [.d (l3D L), x1, x2, .ll kabc [r .a, r .b, r .c], .d (.int h), x5, .oo (.k [.inr "a", .inr "b"] [.int (newV L h v .a), .int (newV L h v .b)]), .d (.str Nm.b.s), .d (lmD L.b), x9, x10]) (w2 := w) rfl (dput_on (ks := [.inr "a"]) (es := [.int (newV L h v .a)]) (key := .inr "b") (eb _ _) rfl rfl rfl (by decide)),
    forGo_nx (ds1 := [.d (l3D L), x1, x2, .ll kabc [r .a, r .b, r .c], .d (.int h), x5, .oo (.k [.inr "a", .inr "b"] [.int (newV L h v .a), .int (newV L h v .b)]), .d (.str Nm.c.s), .d (lmD L.c), x9, x10]) (ds2 := [.d (l3D L), x1, x2, .ll kabc [r .a, r .b, r .c], .d (.int h), x5, .oo (.k kabc [.int (newV L h v .a), .int (newV L h v .b), .int (newV L h v .c)]), .d (.str Nm.c.s), .d (lmD L.c), x9, x10]) (w2 := w) rfl (dput_on (ks := [.inr "a", .inr "b"]) (es := [.int (newV L h v .a), .int (newV L h v .b)]) (key := .inr "c") (ec _ _) rfl rfl rfl (by decide))]
  rfl
theorem llapp_on {ds : List Sl} {w : Wd} {q d : D} {key : Key} {ks : List Key} {xss : List (List D)} {m : Nat} {xs : List D} (h1 : eBor 7 ds w = some (q, w)) (h2 : ds[3]? = some (.ll ks xss)) (h3 : keyOf q = some key) (h4 : ixK ks key = some m) (h5 : xss[m]? = some xs) (h6 : eVar 9 ds w = some (d, w)) (h7 : xs.length < 1000) : b2B ds w = some (.nx (ds.set 3 (.ll ks (xss.set m (xs ++ [d])))) w) := by
  refine (seq_nx (ds2 := ds.set 3 (.ll ks (xss.set m (xs ++ [d])))) (w2 := w) ?_).trans rfl
  unfold sLlApp
  rw [h1]
  simp only [Option.bind_some, h2, h3, h4, h5]
  rw [h6]
  simp only [Option.bind_some]
  rw [if_pos (by unfold line; omega)]
theorem app_on (ra rb rc : List D) (va vb vc : D) (la : ra.length < 1000) (lb : rb.length < 1000) (lc : rc.length < 1000) (x0 x1 x2 x4 x5 x6 x7 x8 x9 x10 : Sl) (w : Wd) :
    forGo (gT 2 (gsCons (gN 7) (gsCons (gN 9) gsNil))) b2B [.tup [.str Nm.a.s, va], .tup [.str Nm.b.s, vb], .tup [.str Nm.c.s, vc]] [x0, x1, x2, .ll kabc [ra, rb, rc], x4, x5, x6, x7, x8, x9, x10] w =
      some (.nx [x0, x1, x2, .ll kabc [ra ++ [va], rb ++ [vb], rc ++ [vc]], x4, x5, x6, .d (.str Nm.c.s), x8, .d vc, x10] w) := by
  rw [forGo_nx (ds1 := [x0, x1, x2, .ll kabc [ra, rb, rc], x4, x5, x6, .d (.str Nm.a.s), x8, .d va, x10]) (ds2 := [x0, x1, x2, .ll kabc [ra ++ [va], rb, rc], x4, x5, x6, .d (.str Nm.a.s), x8, .d va, x10]) (w2 := w) rfl (llapp_on (m := 0) (xs := ra) (ks := kabc) (xss := [ra, rb, rc]) (d := va) (key := .inr "a") rfl rfl rfl rfl rfl rfl la),
    forGo_nx (ds1 := [x0, x1, x2, .ll kabc [ra ++ [va], rb, rc], x4, x5, x6, .d (.str Nm.b.s), x8, .d vb, x10]) (ds2 := [x0, x1, x2, .ll kabc [ra ++ [va], rb ++ [vb], rc], x4, x5, x6, .d (.str Nm.b.s), x8, .d vb, x10]) (w2 := w) rfl (llapp_on (m := 1) (xs := rb) (ks := kabc) (xss := [ra ++ [va], rb, rc]) (d := vb) (key := .inr "b") rfl rfl rfl rfl rfl rfl lb),
    forGo_nx (ds1 := [x0, x1, x2, .ll kabc [ra ++ [va], rb ++ [vb], rc], x4, x5, x6, .d (.str Nm.c.s), x8, .d vc, x10]) (ds2 := [x0, x1, x2, .ll kabc [ra ++ [va], rb ++ [vb], rc ++ [vc]], x4, x5, x6, .d (.str Nm.c.s), x8, .d vc, x10]) (w2 := w) rfl (llapp_on (m := 2) (xs := rc) (ks := kabc) (xss := [ra ++ [va], rb ++ [vb], rc]) (d := vc) (key := .inr "c") rfl rfl rfl rfl rfl rfl lc)]
  rfl
noncomputable abbrev bT : Es := (sSeq (sSetN 6 nNew)
 (sSeq (sFor (iDItems (eVar 0)) (gT 2 (gsCons (gN 7) (gsCons (gN 8) gsNil))) b1B)
 (sFrzD 6 (sSeq (sFor (iDItems (eVar 6)) (gT 2 (gsCons (gN 7) (gsCons (gN 9) gsNil))) b2B)
 (sSeq (sAug 4 mulD0 (eC (.int 2)))
 sNil)))))
theorem aug_on {ds : List Sl} {h : Int} (hd : ds[4]? = some (.d (.int h))) (w : Wd) : sAug 4 mulD0 (eC (.int 2)) ds w = some (.nx (ds.set 4 (.d (.int (h * 2)))) w) := by
  have m : mulD0 (.int h) (.int 2) = some (.int (h * 2)) := by
    have := okMul_r (i := h) (j := 2) (by decide) (by decide)
    show (if okMul h 2 = true then _ else _) = _
    rw [if_pos this]
  unfold sAug
  rw [hd]
  show ((eC (.int 2)) ds w).bind _ = _
  rw [show (eC (.int 2)) ds w = some (.int 2, w) from rfl]
  simp only [Option.bind_some]
  rw [m]
  rfl
theorem turn_on (L : L3) (hL : L.ok) (r : Nm → List D) (v : Nm → Int) (hv : ∀ n, atI (r n) (-1) = some (.int (v n))) (hl : ∀ n, (r n).length < 1000) (x1 x2 x5 x6 x7 x8 x9 x10 : Sl) (h : Int) (w : Wd) :
    ∃ y6 y7 y8 y9, bT [.d (l3D L), x1, x2, .ll kabc [r .a, r .b, r .c], .d (.int h), x5, x6, x7, x8, x9, x10] w =
      some (.nx [.d (l3D L), x1, x2, .ll kabc [r .a ++ [.int (newV L h v .a)], r .b ++ [.int (newV L h v .b)], r .c ++ [.int (newV L h v .c)]], .d (.int (h * 2)), x5, y6, y7, y8, y9, x10] w) := by
  refine ⟨.d (.dk kabc [.int (newV L h v .a), .int (newV L h v .b), .int (newV L h v .c)]), .d (.str Nm.c.s), .d (lmD L.c), .d (.int (newV L h v .c)), ?_⟩
  show sSeq (sSetN 6 nNew) _ _ w = _
  rw [seq_nx (ds2 := [.d (l3D L), x1, x2, .ll kabc [r .a, r .b, r .c], .d (.int h), x5, .oo (.k [] []), x7, x8, x9, x10]) (w2 := w) rfl]
  rw [seq_nx (ds2 := [.d (l3D L), x1, x2, .ll kabc [r .a, r .b, r .c], .d (.int h), x5, .oo (.k kabc [.int (newV L h v .a), .int (newV L h v .b), .int (newV L h v .c)]), .d (.str Nm.c.s), .d (lmD L.c), x9, x10]) (w2 := w) (by
    rw [sFor.ap]
    exact late_on L hL r v hv x1 x2 x5 x7 x8 x9 x10 h w)]
  show (sSeq _ _) [.d (l3D L), x1, x2, .ll kabc [r .a, r .b, r .c], .d (.int h), x5, .d (.dk kabc [.int (newV L h v .a), .int (newV L h v .b), .int (newV L h v .c)]), .d (.str Nm.c.s), .d (lmD L.c), x9, x10] w = _
  rw [seq_nx (ds2 := [.d (l3D L), x1, x2, .ll kabc [r .a ++ [.int (newV L h v .a)], r .b ++ [.int (newV L h v .b)], r .c ++ [.int (newV L h v .c)]], .d (.int h), x5, .d (.dk kabc [.int (newV L h v .a), .int (newV L h v .b), .int (newV L h v .c)]), .d (.str Nm.c.s), .d (lmD L.c), .d (.int (newV L h v .c)), x10]) (w2 := w) (by
    rw [sFor.ap]
    exact app_on (r .a) (r .b) (r .c) _ _ _ (hl .a) (hl .b) (hl .c) (.d (l3D L)) x1 x2 (.d (.int h)) x5 _ _ _ _ x10 w)]
  rw [seq_nx (ds2 := [.d (l3D L), x1, x2, .ll kabc [r .a ++ [.int (newV L h v .a)], r .b ++ [.int (newV L h v .b)], r .c ++ [.int (newV L h v .c)]], .d (.int (h * 2)), x5, .d (.dk kabc [.int (newV L h v .a), .int (newV L h v .b), .int (newV L h v .c)]), .d (.str Nm.c.s), .d (lmD L.c), .d (.int (newV L h v .c)), x10]) (w2 := w) (by
    exact aug_on rfl w)]
  rfl
/-! the numbers, turn by turn -/
def valT (L : L3) : Nat → Nm → Int
  | 0 => fun _ => 0
  | t + 1 => newV L (2 ^ t) (valT L t)
def rowT (L : L3) (t : Nat) (n : Nm) : List D := (List.range (t + 1)).map fun i => D.int (valT L i n)
theorem rowT_len (L : L3) (t : Nat) (n : Nm) : (rowT L t n).length = t + 1 := by unfold rowT; simp
theorem rowT_next (L : L3) (t : Nat) (n : Nm) : rowT L (t + 1) n = rowT L t n ++ [.int (newV L (2 ^ t) (valT L t) n)] := by
  unfold rowT
  rw [List.range_succ, List.map_append]
  rfl
theorem rowT_last (L : L3) (t : Nat) (n : Nm) : atI (rowT L t n) (-1) = some (.int (valT L t n)) := by
  unfold atI ixN
  rw [rowT_len, if_neg (by omega), if_pos (by omega)]
  show (rowT L t n)[(-1 + ((t + 1 : Nat) : Int)).toNat]? = _
  rw [show (-1 + ((t + 1 : Nat) : Int)).toNat = t by omega]
  unfold rowT
  simp
theorem turns_on (L : L3) (hL : L.ok) (x1 x2 : Sl) (w : Wd) (z10 : Sl) : ∀ (k t : Nat) (z5 z6 z7 z8 z9 : Sl), t + k < 500 → ∃ y5 y6 y7 y8 y9, forGo (gN 5) bT ((List.range' t k).map natD) [.d (l3D L), x1, x2, .ll kabc [rowT L t .a, rowT L t .b, rowT L t .c], .d (.int (2 ^ t)), z5, z6, z7, z8, z9, z10] w =
    some (.nx [.d (l3D L), x1, x2, .ll kabc [rowT L (t + k) .a, rowT L (t + k) .b, rowT L (t + k) .c], .d (.int (2 ^ (t + k))), y5, y6, y7, y8, y9, z10] w)
  | 0, t, z5, z6, z7, z8, z9, _ => ⟨z5, z6, z7, z8, z9, rfl⟩
  | k + 1, t, z5, z6, z7, z8, z9, hk => by
    obtain ⟨y6, y7, y8, y9, h1⟩ := turn_on L hL (rowT L t) (valT L t) (rowT_last L t) (fun n => by rw [rowT_len]; omega) x1 x2 (.d (natD t)) z6 z7 z8 z9 z10 (2 ^ t) w
    obtain ⟨u5, u6, u7, u8, u9, h2⟩ := turns_on L hL x1 x2 w z10 k (t + 1) (.d (natD t)) y6 y7 y8 y9 (by omega)
    refine ⟨u5, u6, u7, u8, u9, ?_⟩
    rw [List.range'_succ, List.map_cons]
    have e : t + (k + 1) = t + 1 + k := by omega
    rw [e, ← h2, rowT_next, rowT_next, rowT_next]
    refine forGo_nx (ds1 := [.d (l3D L), x1, x2, .ll kabc [rowT L t .a, rowT L t .b, rowT L t .c], .d (.int (2 ^ t)), .d (natD t), z6, z7, z8, z9, z10]) rfl ?_
    rw [h1, Int.pow_succ]
theorem loom_numbers_on (L : L3) (hL : L.ok) (n : Nm) (m : Nat) (hm : m < 300) (w : Wd) : G_loom_numbers [l3D L, .str n.s, .int m] w = some (.lst (rowT L m n), w) := by
  show fin (g_loom_numbers [.d (l3D L), .d (.str n.s), .d (.int m), .no, .no, .no, .no, .no, .no, .no, .no] w) = _
  have c1 := check_name_on L hL n w
  have c2 : G_check_doublings [.int m] w = some (.non, w) := by
    show fin (g_check_doublings [.d (.int m)] w) = _
    unfold g_check_doublings
    have h0 : (0 : Int) ≤ m := by omega
    have h1 : (m : Int) ≤ 300 := by omega
    simp [whole_int, h0, h1]
  obtain ⟨y5, y6, y7, y8, y9, hl⟩ := turns_on L hL (.d (.str n.s)) (.d (.int m)) w .no m 0 .no .no .no .no .no (by omega)
  rw [Nat.zero_add] at hl
  unfold g_loom_numbers
  rw [seq_nx (ds2 := [.d (l3D L), .d (.str n.s), .d (.int m), .no, .no, .no, .no, .no, .no, .no, .no]) (w2 := w) (by simp [c1])]
  rw [seq_nx (ds2 := [.d (l3D L), .d (.str n.s), .d (.int m), .no, .no, .no, .no, .no, .no, .no, .no]) (w2 := w) (by simp [c2])]
  rw [seq_nx (ds2 := [.d (l3D L), .d (.str n.s), .d (.int m), .ll kabc [[.int 0], [.int 0], [.int 0]], .d (.int 1), .no, .no, .no, .no, .no, .no]) (w2 := w) rfl]
  rw [seq_nx (w2 := w) (by
    rw [sFor.ap, iRg.ap]
    show fo1 _ _ _ (irF (.int 0) (.int (m : Int)) w) = _
    rw [irg0 m (by omega) w, List.range_eq_range']
    exact hl)]
  cases n <;> rfl
end K12
namespace K12
open PySem PyProof.Rows L2 J
/-! two rows that agree for five turns agree for eight -/
def cvN (x y z : Nat) : Option Nm → Nat
  | none => 0
  | some .a => x
  | some .b => y
  | some .c => z
def chkN (oa ob oc : Nat) (a1 a2 b1 b2 c1 c2 : Option Nm) : Nat → Nat → Nat → Nat → Nat → Bool
  | 0, _, _, _, _ => true
  | j + 1, x, y, z, h => if Nat.beq (h * oa + (cvN x y z a1 + cvN x y z a2)) (h * ob + (cvN x y z b1 + cvN x y z b2)) = true
      then chkN oa ob oc a1 a2 b1 b2 c1 c2 j (h * oa + (cvN x y z a1 + cvN x y z a2)) (h * ob + (cvN x y z b1 + cvN x y z b2)) (h * oc + (cvN x y z c1 + cvN x y z c2)) (2 * h)
      else Nat.ble 3 j
def optN : List (Option Nm) := [none, some .a, some .b, some .c]
theorem optN_all (c : Option Nm) : c ∈ optN := by
  cases c with
  | none => simp [optN]
  | some n => cases n <;> simp [optN]
theorem chk_tab : ([0, 1, 2].all fun o => [0, 1, 2].all fun oc => optN.all fun a1 => optN.all fun a2 => optN.all fun b1 => optN.all fun b2 => optN.all fun c1 => optN.all fun c2 => chkN o o oc a1 a2 b1 b2 c1 c2 7 0 0 0 1) = true := by decide +kernel
theorem cv0 (c : Option Nm) : cvN 0 0 0 c = 0 := by
  cases c with
  | none => rfl
  | some n => cases n <;> rfl
theorem chk_all (oa ob oc : Nat) (ha : oa ≤ 2) (hb : ob ≤ 2) (hc : oc ≤ 2) (a1 a2 b1 b2 c1 c2 : Option Nm) : chkN oa ob oc a1 a2 b1 b2 c1 c2 7 0 0 0 1 = true := by
  have m : ∀ o : Nat, o ≤ 2 → o ∈ [0, 1, 2] := fun o h => by
    have : o = 0 ∨ o = 1 ∨ o = 2 := by omega
    rcases this with rfl | rfl | rfl <;> decide
  by_cases e : oa = ob
  · subst e
    have h := chk_tab
    have h := List.all_eq_true.mp h oa (m oa ha)
    have h := List.all_eq_true.mp h oc (m oc hc)
    have h := List.all_eq_true.mp h a1 (optN_all a1)
    have h := List.all_eq_true.mp h a2 (optN_all a2)
    have h := List.all_eq_true.mp h b1 (optN_all b1)
    have h := List.all_eq_true.mp h b2 (optN_all b2)
    have h := List.all_eq_true.mp h c1 (optN_all c1)
    exact List.all_eq_true.mp h c2 (optN_all c2)
  · have n : Nat.beq (1 * oa + (cvN 0 0 0 a1 + cvN 0 0 0 a2)) (1 * ob + (cvN 0 0 0 b1 + cvN 0 0 0 b2)) = true → False := fun h => by
      rw [cv0, cv0, cv0, cv0] at h
      have := Nat.eq_of_beq_eq_true h
      omega
    unfold chkN
    rw [if_neg n]
    rfl
def vN (L : L3) : Nat → Nm → Nat
  | 0 => fun _ => 0
  | t + 1 => fun n => 2 ^ t * own (L.get n) + (cvN (vN L t .a) (vN L t .b) (vN L t .c) (L.get n).c1 + cvN (vN L t .a) (vN L t .b) (vN L t .c) (L.get n).c2)
theorem cal_cv (v : Nm → Int) (u : Nm → Nat) (h : ∀ n, v n = (u n : Int)) (c : Option Nm) : calV v c = (cvN (u .a) (u .b) (u .c) c : Int) := by
  cases c with
  | none => rfl
  | some n => cases n <;> exact h _
theorem val_vN (L : L3) : ∀ (t : Nat) (n : Nm), valT L t n = (vN L t n : Int)
  | 0, n => rfl
  | t + 1, n => by
    have ih := val_vN L t
    show (2 : Int) ^ t * (own (L.get n) : Int) + (calV (valT L t) (L.get n).c1 + calV (valT L t) (L.get n).c2) = _
    rw [cal_cv _ _ ih, cal_cv _ _ ih]
    show _ = ((2 ^ t * own (L.get n) + (cvN (vN L t .a) (vN L t .b) (vN L t .c) (L.get n).c1 + cvN (vN L t .a) (vN L t .b) (vN L t .c) (L.get n).c2) : Nat) : Int)
    rw [Int.natCast_add, Int.natCast_add, Int.natCast_mul, Int.natCast_pow]
    rfl
theorem chk_sound (L : L3) (h4 : ∀ i, i ≤ 4 → vN L i .a = vN L i .b) : ∀ (j t : Nat), t + j = 7 → chkN (own L.a) (own L.b) (own L.c) L.a.c1 L.a.c2 L.b.c1 L.b.c2 L.c.c1 L.c.c2 j (vN L t .a) (vN L t .b) (vN L t .c) (2 ^ t) = true → ∀ i, t < i → i ≤ 7 → vN L i .a = vN L i .b
  | 0, t, ht, _, i, h1, h2 => by omega
  | j + 1, t, ht, h, i, h1, h2 => by
    unfold chkN at h
    have ea : 2 ^ t * own L.a + (cvN (vN L t .a) (vN L t .b) (vN L t .c) L.a.c1 + cvN (vN L t .a) (vN L t .b) (vN L t .c) L.a.c2) = vN L (t + 1) .a := rfl
    have eb : 2 ^ t * own L.b + (cvN (vN L t .a) (vN L t .b) (vN L t .c) L.b.c1 + cvN (vN L t .a) (vN L t .b) (vN L t .c) L.b.c2) = vN L (t + 1) .b := rfl
    have ec : 2 ^ t * own L.c + (cvN (vN L t .a) (vN L t .b) (vN L t .c) L.c.c1 + cvN (vN L t .a) (vN L t .b) (vN L t .c) L.c.c2) = vN L (t + 1) .c := rfl
    rw [ea, eb, ec] at h
    split at h
    · rename_i hb
      have e := Nat.eq_of_beq_eq_true hb
      by_cases hi : i = t + 1
      · subst hi
        exact e
      · rw [show 2 * 2 ^ t = 2 ^ (t + 1) by rw [Nat.pow_succ, Nat.mul_comm]] at h
        exact chk_sound L h4 j (t + 1) (by omega) h i (by omega) h2
    · rename_i hb
      have h3 := Nat.le_of_ble_eq_true h
      exfalso
      apply hb
      rw [h4 (t + 1) (by omega)]
      exact Nat.beq_refl _
def badL (L : L3) (i : Nat) : Bool := !decide (valT L i .a = valT L i .b)
theorem loom_same (L : L3) (hL : L.ok) : least (badL L) 5 = least (badL L) 8 := by
  refine least_eq (fun h j hj => ?_) (fun h j hj => h j (by omega))
  have h4 : ∀ i, i ≤ 4 → vN L i .a = vN L i .b := fun i hi => by
    have := h i (by omega)
    unfold badL at this
    rw [val_vN, val_vN] at this
    simp at this
    omega
  have hc := chk_all (own L.a) (own L.b) (own L.c) (own_le _ hL.1) (own_le _ hL.2.1) (own_le _ hL.2.2) L.a.c1 L.a.c2 L.b.c1 L.b.c2 L.c.c1 L.c.c2
  have hs := chk_sound L h4 7 0 rfl hc
  have e : vN L j .a = vN L j .b := by
    by_cases h0 : j = 0
    · subst h0
      rfl
    · exact hs j (by omega) (by omega)
  unfold badL
  rw [val_vN, val_vN, e]
  simp
end K12
namespace K12
open PySem PyProof.Rows L2 J
/-! the law's own numbers -/
theorem half_loop (x0 x1 x2 x5 x6 x7 x8 x9 : Sl) (w : Wd) : ∀ (k s : Nat) (h : Int) (x4 : Sl), ∃ y4, forGo (gN 4) (sSeq (sSet 3 (eMul (eBor 3) (eC (.int 2)))) sNil) ((List.range' s k).map natD) [x0, x1, x2, .d (.int h), x4, x5, x6, x7, x8, x9] w = some (.nx [x0, x1, x2, .d (.int (h * 2 ^ k)), y4, x5, x6, x7, x8, x9] w)
  | 0, s, h, x4 => ⟨x4, by rw [Int.pow_zero, Int.mul_one]; rfl⟩
  | k + 1, s, h, x4 => by
    have m : mulD (.int h) (.int 2) = some (.int (h * 2)) := J.v_mul (okMul_r (by decide) (by decide))
    obtain ⟨y4, i⟩ := half_loop x0 x1 x2 x5 x6 x7 x8 x9 w k (s + 1) (h * 2) (.d (natD s))
    refine ⟨y4, ?_⟩
    rw [List.range'_succ, List.map_cons, Int.pow_succ, show h * (2 ^ k * 2) = h * 2 * 2 ^ k by rw [Int.mul_comm (2 ^ k) 2, Int.mul_assoc]]
    rw [← i]
    exact forGo_nx (ds1 := [x0, x1, x2, .d (.int h), .d (natD s), x5, x6, x7, x8, x9]) rfl (by simp [m])
noncomputable abbrev teC : Et := eTest (eIsNot (eBor 8) (eC .non))
noncomputable abbrev elC (Gr : Fn) : Ev := eCall 3 Gr (aCons (eVar 0) (aCons (eIx (eBor 8) (eC (.int 0))) (aCons (eSub (eBor 2) (eC (.int 1))) aNil)))
theorem teC_on (ds : List Sl) (c : Option Nm) (hd : ds[8]? = some (.d (calD c))) (w : Wd) : teC ds w = some (c.isSome, w) := by
  cases c with
  | none => simp [hd, calD]; rfl
  | some n => simp [hd, calD]; rfl
theorem lcC_on (L : L3) (Gr : Fn) (t : Nat) (v : Nm → Int) (w : Wd) (hG : ∀ n, Gr [l3D L, .str n.s, .int t] w = some (.int (v n), w)) (x1 x3 x4 x5 x6 x7 x8 x9 : Sl) : ∀ l : List (Option Nm), lcGo (gN 8) teC (elC Gr) [.d (l3D L), x1, .d (.int ((t + 1 : Nat) : Int)), x3, x4, x5, x6, x7, x8, x9] (l.map calD) w = some ((calL v l).map D.int, w)
  | [] => rfl
  | c :: l => by
    have ih := lcC_on L Gr t v w hG x1 x3 x4 x5 x6 x7 x8 x9 l
    rw [List.map_cons, lcGo_test (ds1 := [.d (l3D L), x1, .d (.int ((t + 1 : Nat) : Int)), x3, x4, x5, x6, x7, .d (calD c), x9]) (b := (c.isSome, w)) rfl (teC_on _ c rfl w)]
    cases c with
    | none =>
      simp only [Option.isSome_none, Bool.false_eq_true, if_false]
      exact ih
    | some n =>
      simp only [Option.isSome_some, if_true]
      have e : ((t + 1 : Nat) : Int) - 1 = (t : Int) := by omega
      have el : elC Gr [.d (l3D L), x1, .d (.int ((t + 1 : Nat) : Int)), x3, x4, x5, x6, x7, .d (calD (some n)), x9] w = some (.int (v n), w) := by
        unfold elC calD
        generalize ((t + 1 : Nat) : Int) = q at *
        simp [e, hG]
      rw [el]
      simp only [Option.bind_some]
      rw [ih]
      rfl
theorem Gi_succ (j : Nat) (a b c : D) (w : Wd) : Gi__law_number_of (j + 1) [a, b, c] w = fin (g__law_number_of (Gi__law_number_of j) [.d a, .d b, .d c, .no, .no, .no, .no, .no, .no, .no] w) := rfl
theorem number_of_on (L : L3) (hL : L.ok) (w : Wd) : ∀ (j t : Nat), t ≤ j → t < 20 → ∀ n : Nm, Gi__law_number_of (j + 1) [l3D L, .str n.s, .int t] w = some (.int (valT L t n), w) := by
  have zero : ∀ (j : Nat) (n : Nm), Gi__law_number_of (j + 1) [l3D L, .str n.s, .int (0 : Nat)] w = some (.int (valT L 0 n), w) := fun j n => by
    rw [Gi_succ]
    unfold g__law_number_of
    rw [sif_ret (d := .int 0) (w2 := w) (by simp)]
    rfl
  intro j
  induction j with
  | zero =>
    intro t ht _ n
    obtain rfl : t = 0 := by omega
    exact zero 0 n
  | succ j ih =>
    intro t ht h20 n
    cases t with
    | zero => exact zero (j + 1) n
    | succ t =>
      have hG := fun m => ih t (by omega) (by omega) m
      obtain ⟨ha, hb, hc⟩ := hL
      have ok0 : (L.get n).ok := by cases n <;> assumption
      have hx := own_le (L.get n) ok0
      rw [Gi_succ]
      unfold g__law_number_of
      rw [sif_no (w2 := w) (by
        have : ¬((t : Int) + 1 = 0) := by omega
        simp [this])]
      rw [seq_nx (ds2 := [.d (l3D L), .d (.str n.s), .d (.int ((t + 1 : Nat) : Int)), .d (.int 1), .no, .no, .no, .no, .no, .no]) (w2 := w) rfl]
      obtain ⟨y4, hh⟩ := half_loop (.d (l3D L)) (.d (.str n.s)) (.d (.int ((t + 1 : Nat) : Int))) .no .no .no .no .no w t 0 1 .no
      rw [Int.one_mul] at hh
      rw [seq_nx (w2 := w) (by
        have e : (eSub (eBor 2) (eC (.int 1))) [.d (l3D L), .d (.str n.s), .d (.int ((t + 1 : Nat) : Int)), .d (.int 1), .no, .no, .no, .no, .no, .no] w = some (.int (t : Int), w) := by
          have e : ((t + 1 : Nat) : Int) - 1 = (t : Int) := by omega
          generalize ((t + 1 : Nat) : Int) = q at *
          simp [e]
        have src : iRg (eC (.int 0)) (eSub (eBor 2) (eC (.int 1))) [.d (l3D L), .d (.str n.s), .d (.int ((t + 1 : Nat) : Int)), .d (.int 1), .no, .no, .no, .no, .no, .no] w = some ((List.range' 0 t).map natD, w) := by
          rw [iRg.ap]
          show ir1 _ _ (some (.int 0, w)) = _
          rw [ir1.on, e, ← List.range_eq_range']
          exact irg0 t (by omega) w
        rw [sFor.ap, src]
        exact hh)]
      have at0 : (eDAt (eBor 0) (eBor 1)) [.d (l3D L), .d (.str n.s), .d (.int ((t + 1 : Nat) : Int)), .d (.int (2 ^ t)), y4, .no, .no, .no, .no, .no] w = some (lmD (L.get n), w) := by cases n <;> rfl
      rw [seq_nx (ds2 := [.d (l3D L), .d (.str n.s), .d (.int ((t + 1 : Nat) : Int)), .d (.int (2 ^ t)), y4, .d (.tup ((L.get n).st.map stepD)), .d (calD (L.get n).c1), .d (calD (L.get n).c2), .no, .no]) (w2 := w) (by
        show ((eDAt (eBor 0) (eBor 1)) _ w).bind _ = _
        rw [at0]
        rfl)]
      have e1 : lcGo (gN 9) (eTest (eIn (eIx (eBor 9) (eC (.int 0))) (eTup (aCons (eC (.str "cross")) (aCons (eC (.str "mirror")) aNil))))) (eVar 9) [.d (l3D L), .d (.str n.s), .d (.int ((t + 1 : Nat) : Int)), .d (.int (2 ^ t)), y4, .d (.tup ((L.get n).st.map stepD)), .d (calD (L.get n).c1), .d (calD (L.get n).c2), .no, .no] ((L.get n).st.map stepD) w = some (((L.get n).st.filter Sp.x).map stepD, w) := by
        refine lcGo_filter stepD Sp.x stepD (L.get n).st fun s hs => ⟨[.d (l3D L), .d (.str n.s), .d (.int ((t + 1 : Nat) : Int)), .d (.int (2 ^ t)), y4, .d (.tup ((L.get n).st.map stepD)), .d (calD (L.get n).c1), .d (calD (L.get n).c2), .no, .d (stepD s)], rfl, ?_, fun _ => by simp⟩
        obtain ⟨x, r, e1, e2⟩ := in_x s
        rw [e1]
        simp [e2, line_eq]
      have hlen : ((L.get n).st.filter Sp.x).length ≤ 100000 := by
        have : own (L.get n) = ((L.get n).st.filter Sp.x).length := rfl
        omega
      have m : mulD (.int (2 ^ t)) (.int (own (L.get n) : Int)) = some (.int (2 ^ t * own (L.get n))) := J.v_mul (okMul_r (by omega) (by omega))
      have pA : (eMul (eBor 3) (eLen (aCons (eL (fLc (iItems (eBor 5)) (gN 9) (eTest (eIn (eIx (eBor 9) (eC (.int 0))) (eTup (aCons (eC (.str "cross")) (aCons (eC (.str "mirror")) aNil))))) (eVar 9) [9])) aNil))) [.d (l3D L), .d (.str n.s), .d (.int ((t + 1 : Nat) : Int)), .d (.int (2 ^ t)), y4, .d (.tup ((L.get n).st.map stepD)), .d (calD (L.get n).c1), .d (calD (L.get n).c2), .no, .no] w = some (.int (2 ^ t * own (L.get n)), w) := by
        unfold own at m ⊢
        generalize ((2 : Int) ^ t) = q at *
        generalize ((t + 1 : Nat) : Int) = q2 at *
        simp [e1, hlen, line_eq, m]
      have e2 := lcC_on L (Gi__law_number_of (j + 1)) t (valT L t) w hG (.d (.str n.s)) (.d (.int (2 ^ t))) y4 (.d (.tup ((L.get n).st.map stepD))) (.d (calD (L.get n).c1)) (.d (calD (L.get n).c2)) .no .no [(L.get n).c1, (L.get n).c2]
      have e3 := cal_sum (valT L t) (L.get n).c1 (L.get n).c2
      have e4 : (calL (valT L t) [(L.get n).c1, (L.get n).c2]).length ≤ 100000 := by
        cases (L.get n).c1 <;> cases (L.get n).c2 <;> simp [calL]
      have pB : (eSumB (aCons (eL (fLc (iItems (eTup (aCons (eVar 6) (aCons (eVar 7) aNil)))) (gN 8) teC (elC (Gi__law_number_of (j + 1))) [8])) aNil)) [.d (l3D L), .d (.str n.s), .d (.int ((t + 1 : Nat) : Int)), .d (.int (2 ^ t)), y4, .d (.tup ((L.get n).st.map stepD)), .d (calD (L.get n).c1), .d (calD (L.get n).c2), .no, .no] w = some (.int (calV (valT L t) (L.get n).c1 + calV (valT L t) (L.get n).c2), w) := by
        have e5 : fLc (iItems (eTup (aCons (eVar 6) (aCons (eVar 7) aNil)))) (gN 8) teC (elC (Gi__law_number_of (j + 1))) [8] [.d (l3D L), .d (.str n.s), .d (.int ((t + 1 : Nat) : Int)), .d (.int (2 ^ t)), y4, .d (.tup ((L.get n).st.map stepD)), .d (calD (L.get n).c1), .d (calD (L.get n).c2), .no, .no] w = some ((calL (valT L t) [(L.get n).c1, (L.get n).c2]).map D.int, w) :=
          fLc_ok (xs := [(L.get n).c1, (L.get n).c2].map calD) (w1 := w) rfl e2 (by rw [List.length_map]; exact e4)
        rw [eSumB.ap, aCons.ap, eL.ap, e5, ← e3]
        simp
      rw [seq_rt (d := .int (valT L (t + 1) n)) (w2 := w) (by
        rw [sRet.ap, eAdd.ap, pA]
        show rt1 (bin2 addD (.int (2 ^ t * own (L.get n))) ((eSumB (aCons (eL (fLc (iItems (eTup (aCons (eVar 6) (aCons (eVar 7) aNil)))) (gN 8) teC (elC (Gi__law_number_of (j + 1))) [8])) aNil)) _ w)) = _
        rw [pB]
        rfl)]
      rfl
end K12
namespace K12
open PySem PyProof.Rows L2 J
theorem nums_loop (L : L3) (hL : L.ok) (n : Nm) (x2 : Sl) (w : Wd) : ∀ (k s : Nat) (acc : List D) (x4 : Sl), s + k ≤ 9 → acc.length ≤ s → ∃ y4, forGo (gN 4) (sSeq (sApp 3 (eCall 3 G__law_number_of (aCons (eVar 0) (aCons (eVar 1) (aCons (eVar 4) aNil))))) sNil) ((List.range' s k).map natD) [.d (l3D L), .d (.str n.s), x2, .own acc, x4] w = some (.nx [.d (l3D L), .d (.str n.s), x2, .own (acc ++ (List.range' s k).map fun i => D.int (valT L i n)), y4] w)
  | 0, s, acc, x4, _, _ => ⟨x4, by rw [List.range'_zero, List.map_nil, List.map_nil, List.append_nil]; rfl⟩
  | k + 1, s, acc, x4, hs, ha => by
    obtain ⟨y4, i⟩ := nums_loop L hL n x2 w k (s + 1) (acc ++ [.int (valT L s n)]) (.d (natD s)) (by omega) (by rw [List.length_append]; simp; omega)
    have e : G__law_number_of [l3D L, .str n.s, .int s] w = some (.int (valT L s n), w) := number_of_on L hL w 8 s (by omega) (by omega) n
    refine ⟨y4, ?_⟩
    rw [List.range'_succ, List.map_cons, List.map_cons]
    rw [List.append_assoc] at i
    have hl : acc.length < 100000 := by omega
    exact (forGo_nx (ds1 := [.d (l3D L), .d (.str n.s), x2, .own acc, .d (natD s)]) (ds2 := [.d (l3D L), .d (.str n.s), x2, .own (acc ++ [.int (valT L s n)]), .d (natD s)]) (w2 := w) rfl (by simp [e, line_eq, hl])).trans i
theorem law_numbers_on (L : L3) (hL : L.ok) (n : Nm) (w : Wd) : G__law_numbers [l3D L, .str n.s, .int 7] w = some (.lst (rowT L 7 n), w) := by
  show fin (g__law_numbers [.d (l3D L), .d (.str n.s), .d (.int 7), .no, .no] w) = _
  obtain ⟨y4, h⟩ := nums_loop L hL n (.d (.int 7)) w 8 0 [] .no (by omega) (Nat.le_refl _)
  unfold g__law_numbers
  rw [seq_nx (ds2 := [.d (l3D L), .d (.str n.s), .d (.int 7), .own [], .no]) (w2 := w) rfl]
  rw [seq_nx (w2 := w) (by
    have src : iRg (eC (.int 0)) (eAdd (eBor 2) (eC (.int 1))) [.d (l3D L), .d (.str n.s), .d (.int 7), .own [], .no] w = some ((List.range' 0 8).map natD, w) := by
      rw [iRg.ap]
      show irF (.int 0) (.int ((8 : Nat) : Int)) w = _
      rw [← List.range_eq_range']
      exact irg0 8 (by decide) w
    rw [sFor.ap, src]
    exact h)]
  rw [List.nil_append, ← List.range_eq_range']
  rfl
/-! sums -/
def sorF : List Int → List Int → List Int
  | acc, [] => acc
  | acc, x :: xs => sorF (acc ++ [2 * acc.getLastD 0 + x]) xs
theorem atI_last {acc : List Int} (h : acc ≠ []) : atI (acc.map D.int) (-1) = some (.int (acc.getLastD 0)) := by
  unfold atI ixN
  have hl : 0 < acc.length := List.length_pos_iff.mpr h
  rw [List.length_map, if_neg (by omega), if_pos (by omega)]
  show (acc.map D.int)[(-1 + (acc.length : Int)).toNat]? = _
  rw [show (-1 + (acc.length : Int)).toNat = acc.length - 1 by omega, List.getElem?_map, ← List.getLast?_eq_getElem?, List.getLastD_eq_getLast?]
  rw [List.getLast?_eq_some_getLast h]
  rfl
theorem mul_two (x : Int) : mulD (.int 2) (.int x) = some (.int (2 * x)) := J.v_mul (okMul_l (by decide) (by decide))
theorem sor_loop (x0 x1 x2 x3 : Sl) (w : Wd) : ∀ (xs acc : List Int) (x5 : Sl), acc ≠ [] → acc.length + xs.length < 1000 → ∃ y5, forGo (gN 5) (sSeq (sApp 4 (eAdd (eMul (eC (.int 2)) (eIx (eBor 4) (eNeg (eC (.int 1))))) (eBor 5))) sNil) (xs.map D.int) [x0, x1, x2, x3, .own (acc.map D.int), x5] w = some (.nx [x0, x1, x2, x3, .own ((sorF acc xs).map D.int), y5] w)
  | [], acc, x5, _, _ => ⟨x5, rfl⟩
  | x :: xs, acc, x5, ha, hl => by
    rw [List.length_cons] at hl
    obtain ⟨y5, i⟩ := sor_loop x0 x1 x2 x3 w xs (acc ++ [2 * acc.getLastD 0 + x]) (.d (.int x)) (by simp) (by rw [List.length_append]; simp; omega)
    have e := atI_last ha
    have m := mul_two (acc.getLastD 0)
    have hl' : acc.length < 100000 := by omega
    have es : sorF acc (x :: xs) = sorF (acc ++ [2 * acc.getLastD 0 + x]) xs := rfl
    generalize acc.getLastD 0 = q at *
    rw [es]
    exact ⟨y5, (forGo_nx (ds1 := [x0, x1, x2, x3, .own (acc.map D.int), .d (.int x)]) (ds2 := [x0, x1, x2, x3, .own ((acc ++ [2 * q + x]).map D.int), .d (.int x)]) (w2 := w) rfl (by simp [e, m, line_eq, hl'])).trans i⟩
theorem sor_law (x0 x1 x2 x3 x4 x5 x6 x7 x8 x9 x10 x12 x13 x14 x15 x16 x17 x19 x20 x21 x22 x23 : Sl) (w : Wd) : ∀ (xs acc : List Int) (x11 : Sl), acc ≠ [] → acc.length + xs.length < 1000 → ∃ y11, forGo (gN 11) (sSeq (sApp 18 (eAdd (eMul (eC (.int 2)) (eIx (eBor 18) (eNeg (eC (.int 1))))) (eBor 11))) sNil) (xs.map D.int) [x0, x1, x2, x3, x4, x5, x6, x7, x8, x9, x10, x11, x12, x13, x14, x15, x16, x17, .own (acc.map D.int), x19, x20, x21, x22, x23] w = some (.nx [x0, x1, x2, x3, x4, x5, x6, x7, x8, x9, x10, y11, x12, x13, x14, x15, x16, x17, .own ((sorF acc xs).map D.int), x19, x20, x21, x22, x23] w)
  | [], acc, x11, _, _ => ⟨x11, rfl⟩
  | x :: xs, acc, x11, ha, hl => by
    rw [List.length_cons] at hl
    obtain ⟨y11, i⟩ := sor_law x0 x1 x2 x3 x4 x5 x6 x7 x8 x9 x10 x12 x13 x14 x15 x16 x17 x19 x20 x21 x22 x23 w xs (acc ++ [2 * acc.getLastD 0 + x]) (.d (.int x)) (by simp) (by rw [List.length_append]; simp; omega)
    have e := atI_last ha
    have m := mul_two (acc.getLastD 0)
    have hl' : acc.length < 100000 := by omega
    have es : sorF acc (x :: xs) = sorF (acc ++ [2 * acc.getLastD 0 + x]) xs := rfl
    generalize acc.getLastD 0 = q at *
    rw [es]
    exact ⟨y11, (forGo_nx (ds1 := [x0, x1, x2, x3, x4, x5, x6, x7, x8, x9, x10, .d (.int x), x12, x13, x14, x15, x16, x17, .own (acc.map D.int), x19, x20, x21, x22, x23]) (ds2 := [x0, x1, x2, x3, x4, x5, x6, x7, x8, x9, x10, .d (.int x), x12, x13, x14, x15, x16, x17, .own ((acc ++ [2 * q + x]).map D.int), x19, x20, x21, x22, x23]) (w2 := w) rfl (by simp [e, m, line_eq, hl'])).trans i⟩
def rowV (L : L3) (t : Nat) (n : Nm) : List Int := (List.range (t + 1)).map fun i => valT L i n
theorem rowT_V (L : L3) (t : Nat) (n : Nm) : rowT L t n = (rowV L t n).map D.int := by
  unfold rowT rowV
  rw [List.map_map]
  rfl
theorem rowV_len (L : L3) (t : Nat) (n : Nm) : (rowV L t n).length = t + 1 := by unfold rowV; simp
theorem sorter_on (L : L3) (hL : L.ok) (n : Nm) (m : Nat) (hm : m < 300) (w : Wd) : G_sorter_numbers [l3D L, .str n.s, .int m] w = some (.lst ((sorF [0] ((rowV L m n).drop 1)).map D.int), w) := by
  show fin (g_sorter_numbers [.d (l3D L), .d (.str n.s), .d (.int m), .no, .no, .no] w) = _
  have c1 := loom_numbers_on L hL n m hm w
  rw [rowT_V] at c1
  obtain ⟨y5, h⟩ := sor_loop (.d (l3D L)) (.d (.str n.s)) (.d (.int m)) (.d (.lst ((rowV L m n).map D.int))) w ((rowV L m n).drop 1) [0] .no (by simp) (by
    have := rowV_len L m n
    simp
    omega)
  unfold g_sorter_numbers
  rw [seq_nx (ds2 := [.d (l3D L), .d (.str n.s), .d (.int m), .d (.lst ((rowV L m n).map D.int)), .own [.int 0], .no]) (w2 := w) (by simp [c1, line_eq])]
  rw [seq_nx (w2 := w) (by
    have src : (iItems (eL (fSl (eBor 3) (oSo (eC (.int 1))) oNo))) [.d (l3D L), .d (.str n.s), .d (.int m), .d (.lst ((rowV L m n).map D.int)), .own [.int 0], .no] w = some (((rowV L m n).drop 1).map D.int, w) := by
      rw [List.map_drop]
      simp [cut_from1, -List.map_drop, -List.drop_one]
    rw [sFor.ap, src]
    exact h)]
  rfl
/-! the first turn at which two rows differ -/
noncomputable abbrev encU (L : L3) (i : Nat) : D := .tup [.int (i : Int), .tup [.int (valT L i .a), .int (valT L i .b)]]
noncomputable abbrev bodyU : Es := (sSeq (sIf (eTest (eNe (eIx (eBor 6) (eC (.int 0))) (eIx (eBor 6) (eC (.int 1))))) (sSeq (sRet (eVar 5)) sNil) sNil) sNil)
theorem unlike_doubling_on (L : L3) (hL : L.ok) (w : Wd) : G_unlike_doubling [l3D L, .str Nm.a.s, .str Nm.b.s] w = some (optD (least (badL L) 8), w) := by
  rw [← loom_same L hL]
  show fin (g_unlike_doubling [.d (l3D L), .d (.str Nm.a.s), .d (.str Nm.b.s), .no, .no, .no, .no] w) = _
  have c1 := check_name_on L hL .a w
  have c2 := check_name_on L hL .b w
  have n1 : G_loom_numbers [l3D L, .str Nm.a.s, .int 4] w = some (.lst (rowT L 4 .a), w) := loom_numbers_on L hL .a 4 (by decide) w
  have n2 : G_loom_numbers [l3D L, .str Nm.b.s, .int 4] w = some (.lst (rowT L 4 .b), w) := loom_numbers_on L hL .b 4 (by decide) w
  have len : ∀ ds : List Sl, ds[0]? = some (.d (l3D L)) → (eAdd (eLenD (aCons (eBor 0) aNil)) (eC (.int 1))) ds w = some (.int 4, w) := fun ds hd => by
    have a1 : (aCons (eBor 0) aNil) ds w = some ([l3D L], w) := by simp [hd]
    have a2 : (eLenD (aCons (eBor 0) aNil)) ds w = some (.int 3, w) := by
      unfold eLenD eCal
      rw [a1]
      rfl
    rw [eAdd.ap, a2]
    rfl
  unfold g_unlike_doubling
  rw [seq_nx (ds2 := [.d (l3D L), .d (.str Nm.a.s), .d (.str Nm.b.s), .no, .no, .no, .no]) (w2 := w) (by simp [c1])]
  rw [seq_nx (ds2 := [.d (l3D L), .d (.str Nm.a.s), .d (.str Nm.b.s), .no, .no, .no, .no]) (w2 := w) (by simp [c2])]
  rw [seq_nx (ds2 := [.d (l3D L), .d (.str Nm.a.s), .d (.str Nm.b.s), .d (.lst (rowT L 4 .a)), .d (.lst (rowT L 4 .b)), .no, .no]) (w2 := w) (by
    have l0 := len [.d (l3D L), .d (.str Nm.a.s), .d (.str Nm.b.s), .no, .no, .no, .no] rfl
    simp [l0, n1, n2, -eAdd.ap])]
  have hs : ∀ a ∈ List.range 5, ∀ ds : List Sl, (∃ z5 z6, ds = [.d (l3D L), .d (.str Nm.a.s), .d (.str Nm.b.s), .d (.lst (rowT L 4 .a)), .d (.lst (rowT L 4 .b)), z5, z6]) → ∃ ds1, (gT 2 (gsCons (gN 5) (gsCons (gN 6) gsNil))) ds (encU L a) = some ds1 ∧
      (badL L a = true → bodyU ds1 w = some (.rt (natD a) w)) ∧ (badL L a = false → ∃ ds2, bodyU ds1 w = some (.nx ds2 w) ∧ ∃ z5 z6, ds2 = [.d (l3D L), .d (.str Nm.a.s), .d (.str Nm.b.s), .d (.lst (rowT L 4 .a)), .d (.lst (rowT L 4 .b)), z5, z6]) := by
    intro a ha ds ⟨z5, z6, hz⟩
    subst hz
    refine ⟨[.d (l3D L), .d (.str Nm.a.s), .d (.str Nm.b.s), .d (.lst (rowT L 4 .a)), .d (.lst (rowT L 4 .b)), .d (natD a), .d (.tup [.int (valT L a .a), .int (valT L a .b)])], rfl, fun hb => ?_, fun hb => ⟨[.d (l3D L), .d (.str Nm.a.s), .d (.str Nm.b.s), .d (.lst (rowT L 4 .a)), .d (.lst (rowT L 4 .b)), .d (natD a), .d (.tup [.int (valT L a .a), .int (valT L a .b)])], ?_, _, _, rfl⟩⟩
    · unfold badL at hb
      generalize valT L a .a = p at *
      generalize valT L a .b = q at *
      have hb' : ¬p = q := by simpa using hb
      simp [hb']
    · unfold badL at hb
      generalize valT L a .a = p at *
      generalize valT L a .b = q at *
      have hb' : p = q := by simpa using hb
      simp [hb']
  obtain ⟨f1, f2⟩ := forGo_find (encU L) _ (badL L) natD (List.range 5) [.d (l3D L), .d (.str Nm.a.s), .d (.str Nm.b.s), .d (.lst (rowT L 4 .a)), .d (.lst (rowT L 4 .b)), .no, .no] ⟨_, _, rfl⟩ hs
  have src : iEnumZip (aCons (eVar 3) (aCons (eVar 4) aNil)) [.d (l3D L), .d (.str Nm.a.s), .d (.str Nm.b.s), .d (.lst (rowT L 4 .a)), .d (.lst (rowT L 4 .b)), .no, .no] w = some ((List.range 5).map (encU L), w) := rfl
  cases e : least (badL L) 5 with
  | none =>
    obtain ⟨ds', h1, z5, z6, h2⟩ := f2 e
    subst h2
    rw [seq_nx (w2 := w) (by
      rw [sFor.ap, src]
      exact h1)]
    rfl
  | some k =>
    have h1 := f1 k e
    rw [seq_rt (d := natD k) (w2 := w) (by
      rw [sFor.ap, src]
      exact h1)]
    rfl
end K12
namespace K12
open PySem PyProof.Rows L2 J
theorem next_eq : G__law_next = G_next := rfl
theorem draw_on (b : Int) (hb : 0 < b) (w : Wd) (hc : 0 ≤ w.c) : ∃ v, 0 ≤ v ∧ v < b ∧ G__law_next [.draw, .int b] w = some (.int v, ⟨w.ns, w.c + 1⟩) := by
  rw [next_eq]
  exact next_on b hb w hc
theorem ap__law_pick (a b : D) (w : Wd) : G__law_pick [a, b] w = fin (g__law_pick [.d a, .d b] w) := rfl
theorem ap__law_pass (a : D) (w : Wd) : G__law_pass [a] w = fin (g__law_pass [.d a, .no, .no, .no, .no] w) := rfl
theorem pick_on (ds : List D) (hd : 0 < ds.length) (w : Wd) (hc : 0 ≤ w.c) : ∃ x, x ∈ ds ∧ G__law_pick [.draw, .lst ds] w = some (x, ⟨w.ns, w.c + 1⟩) := by
  obtain ⟨v, h0, h1, h2⟩ := draw_on (ds.length : Int) (by omega) w hc
  obtain ⟨x, hx, e⟩ := atI_lit ds v h0 h1
  refine ⟨x, hx, ?_⟩
  rw [ap__law_pick]
  unfold g__law_pick
  simp [h2, e]
theorem pass_on (w : Wd) (hc : 0 ≤ w.c) : ∃ (p : Pass) (w' : Wd), G__law_pass [.draw] w = some (passD p, w') ∧ (p.ok ∧ p.four) ∧ 0 ≤ w'.c := by
  obtain ⟨v, h0, h1, h2⟩ := draw_on 7 (by decide) w hc
  obtain ⟨x, hx, ex⟩ := pick_on [.str "right", .str "left"] (by decide) ⟨w.ns, w.c + 1⟩ (by dsimp only; omega)
  have hx' : ∃ r, x = .str (wayS r) := by
    simp only [List.mem_cons, List.not_mem_nil, or_false] at hx
    rcases hx with rfl | rfl
    · exact ⟨true, rfl⟩
    · exact ⟨false, rfl⟩
  obtain ⟨r, rfl⟩ := hx'
  obtain ⟨y, hy, ey⟩ := pick_on [.str "up", .str "up", .str "down"] (by decide) ⟨w.ns, w.c + 1 + 1⟩ (by dsimp only; omega)
  have hy' : ∃ u, y = .str (ordS u) := by
    simp only [List.mem_cons, List.not_mem_nil, or_false] at hy
    rcases hy with rfl | rfl | rfl
    · exact ⟨true, rfl⟩
    · exact ⟨true, rfl⟩
    · exact ⟨false, rfl⟩
  obtain ⟨u, rfl⟩ := hy'
  rw [ap__law_pass]
  unfold g__law_pass
  by_cases k3 : v < 3
  · refine ⟨.chain r u, ⟨w.ns, w.c + 1 + 1 + 1⟩, ?_, ⟨trivial, trivial⟩, by dsimp only; omega⟩
    simp [h2, ex, ey, line_eq, k3, passD]
  · by_cases k6 : v = 6
    · refine ⟨.ends r u, ⟨w.ns, w.c + 1 + 1 + 1⟩, ?_, ⟨trivial, trivial⟩, by dsimp only; omega⟩
      simp [h2, ex, ey, line_eq, k3, k6, passD]
    · by_cases k5 : v < 5
      · obtain ⟨z, z0, z1, z2⟩ := draw_on 3 (by decide) ⟨w.ns, w.c + 1 + 1 + 1⟩ (by dsimp only; omega)
        obtain ⟨t, t0, t1, t2⟩ := draw_on (2 + z) (by omega) ⟨w.ns, w.c + 1 + 1 + 1 + 1⟩ (by dsimp only; omega)
        have e1 : (((2 + z).toNat : Nat) : Int) = 2 + z := by omega
        have e2 : ((t.toNat : Nat) : Int) = t := by omega
        refine ⟨.layer r t.toNat (2 + z).toNat u, ⟨w.ns, w.c + 1 + 1 + 1 + 1 + 1⟩, ?_, ⟨⟨by omega, by omega, by omega⟩, (by omega : (2 + z).toNat ≤ 4)⟩, by dsimp only; omega⟩
        simp [h2, ex, ey, z2, t2, line_eq, k3, k6, k5, passD, e1, e2]
      · obtain ⟨q, hq, eq⟩ := pick_on [.tup [.str "turn"], .tup [.str "round", .str (wayS r)]] (Nat.succ_pos _) ⟨w.ns, w.c + 1 + 1 + 1⟩ (by dsimp only; omega)
        have hq' : ∃ p : Pass, q = passD p ∧ p.ok ∧ p.four := by
          simp only [List.mem_cons, List.not_mem_nil, or_false] at hq
          rcases hq with rfl | rfl
          · exact ⟨.turn, rfl, trivial, trivial⟩
          · exact ⟨.round r, rfl, trivial, trivial⟩
        obtain ⟨p, rfl, hp⟩ := hq'
        refine ⟨p, ⟨w.ns, w.c + 1 + 1 + 1 + 1⟩, ?_, hp, by dsimp only; omega⟩
        simp [h2, ex, ey, line_eq, k3, k6, k5, eq]
noncomputable abbrev fPs : Ef := fLc (iRg (eC (.int 0)) (eCall 2 G__law_next (aCons (eVar 1) (aCons (eC (.int 4)) aNil)))) (gN 20) tYesJ (eCall 1 G__law_pass (aCons (eVar 1) aNil)) [20]
theorem irg_draw (b : Nat) (hb : 0 < b) (hb2 : b < 100) (ds : List Sl) (hd : ds[1]? = some (.d .draw)) (w : Wd) (hc : 0 ≤ w.c) : ∃ n : Nat, n < b ∧ iRg (eC (.int 0)) (eCall 2 G__law_next (aCons (eVar 1) (aCons (eC (.int b)) aNil))) ds w = some ((List.range n).map natD, ⟨w.ns, w.c + 1⟩) := by
  obtain ⟨v, h0, h1, h2⟩ := draw_on (b : Int) (by omega) w hc
  have e : ((v.toNat : Nat) : Int) = v := by omega
  refine ⟨v.toNat, by omega, ?_⟩
  have e1 : (eCall 2 G__law_next (aCons (eVar 1) (aCons (eC (.int b)) aNil))) ds w = some (.int v, ⟨w.ns, w.c + 1⟩) := by simp [hd, h2]
  rw [iRg.ap]
  show ir1 _ _ (some (.int 0, w)) = _
  rw [ir1.on, e1]
  show irF (.int 0) (.int v) _ = _
  rw [← e]
  exact irg0 v.toNat (by omega) _
theorem passes_on (ds : List Sl) (hd : ds[1]? = some (.d .draw)) (hl : 20 < ds.length) (w : Wd) (hc : 0 ≤ w.c) : ∃ (ps : List Pass) (w' : Wd), fPs ds w = some (ps.map passD, w') ∧ ((∀ p ∈ ps, p.ok ∧ p.four) ∧ ps.length ≤ 3) ∧ 0 ≤ w'.c := by
  obtain ⟨n, hn, e⟩ := irg_draw 4 (by decide) (by decide) ds hd w hc
  obtain ⟨bs, w', h1, h2, h3, h4⟩ := lcGo_draw natD passD (tg := gN 20) (e := eCall 1 G__law_pass (aCons (eVar 1) aNil)) (ds := wipeS ds [20]) (fun (_ : Nat) (p : Pass) => p.ok ∧ p.four) (fun w => 0 ≤ w.c) (List.range n) ⟨w.ns, w.c + 1⟩ (by dsimp only; omega) (fun a ha w hw => by
    obtain ⟨p, w', k1, k2, k3⟩ := pass_on w hw
    have hd' : ((wipeS ds [20]).set 20 (.d (natD a)))[1]? = some (.d .draw) := by
      simp [hd]
    exact ⟨_, p, w', rfl, by simp [hd, k1], k2, k3⟩)
  refine ⟨bs, w', fLc_ok (w1 := ⟨w.ns, w.c + 1⟩) e h1 (by
    rw [List.length_map, h2, List.length_range]
    unfold line
    omega), ⟨fun p hp => ?_, by rw [h2, List.length_range]; omega⟩, h4⟩
  obtain ⟨_, _, q⟩ := h3 p hp
  exact q
end K12
namespace K12
open PySem PyProof.Rows L2 J
theorem least_succ (f : Nat → Bool) (n : Nat) : least f (n + 1) = match least f n with | some k => some k | none => if f n = true then some n else none := by
  unfold least
  rw [List.range_succ, List.find?_append]
  cases (List.range n).find? f with
  | some k => rfl
  | none =>
    cases h : f n <;> simp [h]
/-! the first loop -/
noncomputable abbrev inA : Ev := eSumB (aCons (eL (fLc (iItems (eBor 21)) (gN 22) tYesJ (eLen (aCons (eCall 2 G_exchanges (aCons (eVar 22) (aCons (eVar 5) aNil))) aNil)) [22])) aNil)
noncomputable abbrev bodyA : Es := (sSeq (sSetO 6 (fLc (iItems (eTup (aCons (eVar 2) (aCons (eVar 3) aNil)))) (gN 21) tYesJ inA [21]))
 (sFrz 6 (sSeq (sIf (eTest (eNe (eCall 2 G_number_at (aCons (eTuple (aCons (eBor 2) aNil)) (aCons (eVar 5) aNil))) (eIx (eBor 6) (eC (.int 0))))) (sSeq (sRet (eC (.bl false)))
 sNil) sNil)
 (sSeq (sIf (tAndJ (eTest (eNe (eIx (eBor 6) (eC (.int 0))) (eIx (eBor 6) (eC (.int 1))))) (eTest (eIs (eBor 4) (eC .non)))) (sSeq (sSet 4 (eVar 5))
 sNil) sNil)
 sNil))))
theorem inA_on (ps : List Pass) (h : Okk ps) (n : Nat) (hn : n < 41) (ds : List Sl) (h5 : ds[5]? = some (.d (.int n))) (h21 : ds[21]? = some (.d (.lst (ps.map passD)))) (hl : 22 < ds.length) (w : Wd) : inA ds w = some (.int (tot ps n), w) := by
  have e : lcGo (gN 22) tYesJ (eLen (aCons (eCall 2 G_exchanges (aCons (eVar 22) (aCons (eVar 5) aNil))) aNil)) (wipeS ds [22]) (ps.map passD) w = some (((ps.map fun p => ((exl p n).length : Nat)).map fun k : Nat => (k : Int)).map D.int, w) := by
    rw [List.map_map, List.map_map]
    refine lcGo_map passD _ ps fun p hp => ⟨_, rfl, ?_⟩
    have z := exchanges_on p n hn (h.ok p hp) w
    have z5 : ((wipeS ds [22]).set 22 (.d (passD p)))[5]? = some (.d (.int n)) := by simp [h5]
    have z22 : ((wipeS ds [22]).set 22 (.d (passD p)))[22]? = some (.d (passD p)) := by simp [hl]
    generalize (wipeS ds [22]).set 22 (.d (passD p)) = q at *
    simp [z5, z22, z]
  have e2 : fLc (iItems (eBor 21)) (gN 22) tYesJ (eLen (aCons (eCall 2 G_exchanges (aCons (eVar 22) (aCons (eVar 5) aNil))) aNil)) [22] ds w = some (((ps.map fun p => ((exl p n).length : Nat)).map fun k : Nat => (k : Int)).map D.int, w) :=
    fLc_ok (xs := ps.map passD) (w1 := w) (by simp [h21]) e (by
      have := h.2
      simp
      unfold line
      omega)
  have e3 := tot_exl ps h.ok n hn
  rw [sum_cast] at e3
  show eSumB (aCons (eL (fLc _ _ _ _ _)) aNil) ds w = _
  rw [eSumB.ap, aCons.ap, eL.ap, e2, ← e3]
  simp [-List.map_map]
theorem bodyA_on (A B : List Pass) (hA : Okk A) (hB : Okk B) (a : Nat) (ha : a < 40) (x0 x7 x8 x9 x10 x11 x12 x13 x14 x15 x16 x17 x18 x19 x20 x21 x22 x23 x6 : Sl) (w : Wd) : bodyA [x0, .d .draw, .d (.lst (A.map passD)), .d (.lst (B.map passD)), .d (optD (least (badW A B) a)), .d (natD a), x6, x7, x8, x9, x10, x11, x12, x13, x14, x15, x16, x17, x18, x19, x20, x21, x22, x23] w = some (.nx [x0, .d .draw, .d (.lst (A.map passD)), .d (.lst (B.map passD)), .d (optD (least (badW A B) (a + 1))), .d (natD a), .d (.lst [.int (tot A a), .int (tot B a)]), x7, x8, x9, x10, x11, x12, x13, x14, x15, x16, x17, x18, x19, x20, x21, x22, x23] w) := by
  have src : (iItems (eTup (aCons (eVar 2) (aCons (eVar 3) aNil)))) [x0, .d .draw, .d (.lst (A.map passD)), .d (.lst (B.map passD)), .d (optD (least (badW A B) a)), .d (natD a), x6, x7, x8, x9, x10, x11, x12, x13, x14, x15, x16, x17, x18, x19, x20, x21, x22, x23] w = some ([A, B].map fun ps => D.lst (ps.map passD), w) := by simp [line_eq]
  have lc : lcGo (gN 21) tYesJ inA (wipeS [x0, .d .draw, .d (.lst (A.map passD)), .d (.lst (B.map passD)), .d (optD (least (badW A B) a)), .d (natD a), x6, x7, x8, x9, x10, x11, x12, x13, x14, x15, x16, x17, x18, x19, x20, x21, x22, x23] [21]) ([A, B].map fun ps => D.lst (ps.map passD)) w = some ([A, B].map (fun ps => D.int (tot ps a)), w) := by
    refine lcGo_map (fun ps : List Pass => D.lst (ps.map passD)) _ [A, B] fun ps hp => ⟨_, rfl, ?_⟩
    have hps : Okk ps := by
      simp only [List.mem_cons, List.not_mem_nil, or_false] at hp
      rcases hp with rfl | rfl
      · exact hA
      · exact hB
    exact inA_on ps hps a (by omega) _ rfl rfl (by simp) w
  have i1 : ∀ k : Int, isN (.int k) .non = some (.bl false) := fun _ => rfl
  have i2 : isN .non .non = some (.bl true) := rfl
  have nat : G_number_at [.tup (A.map passD), .int a] w = some (.int (tot A a), w) := number_at_on true A hA.ok hA.len a (by omega) (by omega) w
  show (sSeq _ _) [x0, .d .draw, .d (.lst (A.map passD)), .d (.lst (B.map passD)), .d (optD (least (badW A B) a)), .d (natD a), x6, x7, x8, x9, x10, x11, x12, x13, x14, x15, x16, x17, x18, x19, x20, x21, x22, x23] w = _
  rw [seq_nx (ds2 := [x0, .d .draw, .d (.lst (A.map passD)), .d (.lst (B.map passD)), .d (optD (least (badW A B) a)), .d (natD a), .own [.int (tot A a), .int (tot B a)], x7, x8, x9, x10, x11, x12, x13, x14, x15, x16, x17, x18, x19, x20, x21, x22, x23]) (w2 := w) (by
    rw [sSetO.ap, fLc_ok src lc (by simp [line])]
    rfl)]
  show (sSeq _ _) [x0, .d .draw, .d (.lst (A.map passD)), .d (.lst (B.map passD)), .d (optD (least (badW A B) a)), .d (natD a), .d (.lst [.int (tot A a), .int (tot B a)]), x7, x8, x9, x10, x11, x12, x13, x14, x15, x16, x17, x18, x19, x20, x21, x22, x23] w = _
  rw [sif_no (w2 := w) (by simp [nat])]
  rw [least_succ]
  cases e : least (badW A B) a with
  | some k =>
    by_cases hb : tot A a = tot B a
    · rw [sif_no (w2 := w) (by simp [hb])]
      rfl
    · rw [sif_no (w2 := w) (by simp [hb, optD, i1])]
      rfl
  | none =>
    by_cases hb : tot A a = tot B a
    · have hb' : badW A B a = false := by unfold badW; simp [hb]
      rw [sif_no (w2 := w) (by simp [hb])]
      simp [hb', optD]
    · have hb' : badW A B a = true := by unfold badW; simp [hb]
      simp [hb, hb', optD, i2]
theorem loopA (A B : List Pass) (hA : Okk A) (hB : Okk B) (x0 x7 x8 x9 x10 x11 x12 x13 x14 x15 x16 x17 x18 x19 x20 x21 x22 x23 : Sl) (w : Wd) : ∀ (k s : Nat) (x5 x6 : Sl), s + k ≤ 40 → ∃ y5 y6, forGo (gN 5) bodyA ((List.range' s k).map natD) [x0, .d .draw, .d (.lst (A.map passD)), .d (.lst (B.map passD)), .d (optD (least (badW A B) s)), x5, x6, x7, x8, x9, x10, x11, x12, x13, x14, x15, x16, x17, x18, x19, x20, x21, x22, x23] w = some (.nx [x0, .d .draw, .d (.lst (A.map passD)), .d (.lst (B.map passD)), .d (optD (least (badW A B) (s + k))), y5, y6, x7, x8, x9, x10, x11, x12, x13, x14, x15, x16, x17, x18, x19, x20, x21, x22, x23] w)
  | 0, s, x5, x6, _ => ⟨x5, x6, rfl⟩
  | k + 1, s, x5, x6, h => by
    have b := bodyA_on A B hA hB s (by omega) x0 x7 x8 x9 x10 x11 x12 x13 x14 x15 x16 x17 x18 x19 x20 x21 x22 x23 x6 w
    obtain ⟨y5, y6, i⟩ := loopA A B hA hB x0 x7 x8 x9 x10 x11 x12 x13 x14 x15 x16 x17 x18 x19 x20 x21 x22 x23 w k (s + 1) (.d (natD s)) (.d (.lst [.int (tot A s), .int (tot B s)])) (by omega)
    refine ⟨y5, y6, ?_⟩
    rw [List.range'_succ, List.map_cons, show s + (k + 1) = s + 1 + k by omega]
    exact (forGo_nx (ds1 := [x0, .d .draw, .d (.lst (A.map passD)), .d (.lst (B.map passD)), .d (optD (least (badW A B) s)), .d (natD s), x6, x7, x8, x9, x10, x11, x12, x13, x14, x15, x16, x17, x18, x19, x20, x21, x22, x23]) rfl b).trans i
end K12
namespace K12
open PySem PyProof.Rows L2 J
theorem fListG_on {n m : Nat} {G : Fg} {fs gs : Ef} {ds : List Sl} {w : Wd} {a b : List D} {r : Option (List D × Wd)} (h1 : fs ds w = some (a, w)) (h2 : gs ds w = some (b, w)) (l1 : a.length = n) (l2 : b.length = m) (h3 : G (a ++ b) w = r) : fListG n m G fs gs ds w = r := by
  unfold fListG callKA
  rw [h1]
  simp only [Option.bind_some]
  rw [h2]
  simp only [Option.bind_some, l1, l2, and_self, if_true, h3]
theorem tb_on {f : Ev} {ds : List Sl} {w : Wd} {b : Bool} (h : f ds w = some (.bl b, w)) : eTest f ds w = some (b, w) := by
  rw [eTest.ap, h]
  rfl
theorem and_t {t u : Et} {ds : List Sl} {w : Wd} (h : t ds w = some (true, w)) : tAndJ t u ds w = u ds w := by
  rw [tAndJ.ap, h]
  rfl
theorem and_f {t u : Et} {ds : List Sl} {w : Wd} (h : t ds w = some (false, w)) : tAndJ t u ds w = some (false, w) := by
  rw [tAndJ.ap, h]
  rfl
theorem nt_on {t : Et} {ds : List Sl} {w : Wd} {b : Bool} (h : t ds w = some (b, w)) : tNotJ t ds w = some (!b, w) := by
  rw [tNotJ.ap, h]
  rfl
theorem ne_on2 {fa fb : Ev} {ds : List Sl} {w : Wd} {x y : D} {b : Bool} (h1 : fa ds w = some (x, w)) (h2 : fb ds w = some (y, w)) (h3 : neD x y = some (.bl b)) : eTest (eNe fa fb) ds w = some (b, w) := by
  rw [eTest.ap, eNe.ap, h1]
  show kT (bin2 neD x (fb ds w)) = _
  rw [h2, bin2.on, h3]
  rfl
theorem lt_on2 {fa fb : Ev} {ds : List Sl} {w : Wd} {x y : Int} (h1 : fa ds w = some (.int x, w)) (h2 : fb ds w = some (.int y, w)) : eTest (eLt fa fb) ds w = some (decide (x < y), w) := by
  rw [eTest.ap, eLt.ap, h1]
  show kT (bin2 (g2B pLt) (.int x) (fb ds w)) = _
  rw [h2, bin2.on, J.v_lt]
  rfl
theorem is_on2 {fa : Ev} {ds : List Sl} {w : Wd} {k : Option Nat} (h1 : fa ds w = some (optD k, w)) : eTest (eIs fa (eC .non)) ds w = some (k.isNone, w) := by
  rw [eTest.ap, eIs.ap, h1]
  cases k <;> rfl
theorem len_on {f : Ef} {ds : List Sl} {w : Wd} {xs : List D} (h : f ds w = some (xs, w)) : (eLen (aCons (eL f) aNil)) ds w = some (.int (xs.length : Int), w) := by
  rw [eLen.ap, aCons.ap, eL.ap, h]
  rfl
noncomputable abbrev keA (i : Nat) : Ev := eCallK 2 2 G_grown_number (aCons (eVar i) (aCons (eVar 5) aNil)) (aCons (eVar 7) (aCons (eVar 8) aNil))
noncomputable abbrev teS : Et := tAndJ (eTest (eGe (eBor 23) (eBor 8))) (eTest (eEq (eMod (eSub (eBor 5) (eBor 23)) (eBor 8)) (eC (.int 0))))
noncomputable abbrev lcS : Ef := fLc (iRg (eC (.int 1)) (eAdd (eBor 5) (eC (.int 1)))) (gN 23) teS (eCall 2 G_number_at (aCons (eVar 2) (aCons (eVar 23) aNil))) [23]
noncomputable abbrev anS : Ev := eAny (aCons (eL (fLc (iItems (eBor 2)) (gN 22) tYesJ (eIn (eIx (eBor 22) (eC (.int 0))) (eTup (aCons (eC (.str "turn")) (aCons (eC (.str "round")) aNil)))) [22])) aNil)
noncomputable abbrev nwS : Ef := fListG 2 2 G_grown_net (aCons (eVar 2) (aCons (eVar 5) aNil)) (aCons (eVar 7) (aCons (eVar 8) aNil))
noncomputable abbrev bodyS : Es := (sSeq (sSet 11 (keA 2))
 (sSeq (sIf (eTest (eNe (eBor 11) (eSumB (aCons (eL lcS) aNil)))) (sSeq (sRet (eC (.bl false)))
 sNil) sNil)
 (sSeq (sIf (tAndJ (eTest (eIs (eBor 9) (eC .non))) (eTest (eNe (eBor 11) (keA 3)))) (sSeq (sSet 9 (eVar 5))
 sNil) sNil)
 (sSeq (sIf (tAndJ (eTest (eLt (eBor 5) (eC (.int 8)))) (tAndJ (tNotJ (eTest anS)) (eTest (eNe (eLen (aCons (eL nwS) aNil)) (eBor 11))))) (sSeq (sRet (eC (.bl false)))
 sNil) sNil)
 sNil))))
theorem range1 (n : Nat) : rgD 1 1 n = (List.range' 1 n).map natD := by
  unfold rgD
  rw [List.range'_eq_map_range, List.map_map]
  apply List.map_congr_left
  intro i _
  show D.int (1 + (i : Int) * 1) = D.int ((1 + i : Nat) : Int)
  congr 1
  omega
def okS (m a k : Nat) : Bool := decide (m ≤ k) && decide ((a - k) % m = 0)
theorem sizes_filter (m a : Nat) (hm : 1 ≤ m) (hm2 : m ≤ 2) (ha : a < 30) : (List.range' 1 a).filter (okS m a) = sizes m a := by
  have t : ∀ m : Nat, m < 3 → ∀ a : Nat, a < 30 → 1 ≤ m → (List.range' 1 a).filter (okS m a) = sizes m a := by decide +kernel
  exact t m (by omega) a ha hm
theorem lcS_on (g : Gw) (A : List Pass) (hA : Okk A) (a : Nat) (ha : a < 30) (ds : List Sl) (h2 : ds[2]? = some (.d (.lst (A.map passD)))) (h5 : ds[5]? = some (.d (natD a))) (h8 : ds[8]? = some (.d (.int g.many))) (hl : 23 < ds.length) (w : Wd) : lcS ds w = some (((sizes g.many a).map fun k : Nat => tot A k).map D.int, w) := by
  have hm : 1 ≤ g.many ∧ g.many ≤ 2 := by cases g <;> decide
  have src : iRg (eC (.int 1)) (eAdd (eBor 5) (eC (.int 1))) ds w = some ((List.range' 1 a).map natD, w) := by
    have e : (eAdd (eBor 5) (eC (.int 1))) ds w = some (.int ((a : Int) + 1), w) := by simp [h5]
    rw [iRg.ap]
    show ir1 _ _ (some (.int 1, w)) = _
    rw [ir1.on, e]
    show irF (.int 1) (.int ((a : Int) + 1)) w = _
    rw [irF.on 1 ((a : Int) + 1) w ⟨by decide, by decide, by omega, by omega⟩, show ((a : Int) + 1 - 1).toNat = a by omega, range1]
  have lc : lcGo (gN 23) teS (eCall 2 G_number_at (aCons (eVar 2) (aCons (eVar 23) aNil))) (wipeS ds [23]) ((List.range' 1 a).map natD) w = some (((List.range' 1 a).filter (okS g.many a)).map fun k : Nat => D.int (tot A k), w) := by
    refine lcGo_filter natD (okS g.many a) (fun k : Nat => D.int (tot A k)) _ fun k hk => ⟨_, rfl, ?_, fun hp => ?_⟩
    · have hk' := List.mem_range'_1.mp hk
      have z2 : ((wipeS ds [23]).set 23 (.d (natD k)))[8]? = some (.d (.int g.many)) := by simp [h8]
      have z3 : ((wipeS ds [23]).set 23 (.d (natD k)))[5]? = some (.d (natD a)) := by simp [h5]
      have z4 : ((wipeS ds [23]).set 23 (.d (natD k)))[23]? = some (.d (natD k)) := by simp [hl]
      generalize (wipeS ds [23]).set 23 (.d (natD k)) = q at *
      have e1 : (a : Int) - (k : Int) = ((a - k : Nat) : Int) := by omega
      have e2 := v_mod (i := ((a - k : Nat) : Int)) (j := (g.many : Int)) (by omega)
      have e3 : ((a - k : Nat) : Int) % (g.many : Int) = (((a - k) % g.many : Nat) : Int) := (Int.natCast_emod _ _).symm
      rw [e3] at e2
      unfold okS
      by_cases c1 : g.many ≤ k
      · have c1' : (g.many : Int) ≤ (k : Int) := by omega
        by_cases c2 : (a - k) % g.many = 0
        · rw [c2] at e2
          generalize ((a - k : Nat) : Int) = r at *
          simp [z2, z3, z4, c1, c1', e1, e2, c2]
        · have c2' : ¬(((a - k) % g.many : Nat) : Int) = 0 := by omega
          generalize (((a - k) % g.many : Nat) : Int) = r2 at *
          generalize ((a - k : Nat) : Int) = r at *
          simp [z2, z3, z4, c1, c1', e1, e2, c2, c2']
      · have c1' : ¬(g.many : Int) ≤ (k : Int) := by omega
        simp [z2, z4, c1, c1']
    · have hk' := List.mem_range'_1.mp hk
      have z2 : ((wipeS ds [23]).set 23 (.d (natD k)))[2]? = some (.d (.lst (A.map passD))) := by simp [h2]
      have z4 : ((wipeS ds [23]).set 23 (.d (natD k)))[23]? = some (.d (natD k)) := by simp [hl]
      generalize (wipeS ds [23]).set 23 (.d (natD k)) = q at *
      have nat : G_number_at [.lst (A.map passD), .int k] w = some (.int (tot A k), w) := number_at_on false A hA.ok hA.len k (by omega) (by omega) w
      simp [z2, z4, nat]
  rw [sizes_filter g.many a hm.1 hm.2 ha] at lc
  rw [List.map_map]
  exact fLc_ok src lc (by
    have := (small_sizes g.many a hm.1 hm.2 (by omega)).2.1
    have hz : (sizes g.many a).length ≤ 90 := by
      unfold sizes
      rw [List.length_map, List.length_range]
      exact this
    rw [List.length_map]
    unfold line
    omega)
theorem anS_on (A : List Pass) (hA : Okk A) (ds : List Sl) (h2 : ds[2]? = some (.d (.lst (A.map passD)))) (hl : 22 < ds.length) (w : Wd) : anS ds w = some (.bl (A.any Pass.mv), w) := by
  have ha : lcGo (gN 22) tYesJ (eIn (eIx (eBor 22) (eC (.int 0))) (eTup (aCons (eC (.str "turn")) (aCons (eC (.str "round")) aNil)))) (wipeS ds [22]) (A.map passD) w = some ((A.map Pass.mv).map D.bl, w) := by
    rw [List.map_map]
    refine lcGo_map passD _ A fun p hp => ⟨_, rfl, ?_⟩
    have z4 : ((wipeS ds [22]).set 22 (.d (passD p)))[22]? = some (.d (passD p)) := by simp [hl]
    generalize (wipeS ds [22]).set 22 (.d (passD p)) = q at *
    obtain ⟨x, r, e1, e2⟩ := in_mv p
    rw [e1] at z4
    simp [e2, line_eq, z4]
  have e : fLc (iItems (eBor 2)) (gN 22) tYesJ (eIn (eIx (eBor 22) (eC (.int 0))) (eTup (aCons (eC (.str "turn")) (aCons (eC (.str "round")) aNil)))) [22] ds w = some ((A.map Pass.mv).map D.bl, w) :=
    fLc_ok (xs := A.map passD) (w1 := w) (by simp [h2]) ha (by
      have := hA.2
      simp
      unfold line
      omega)
  have hal := v_any (A.map Pass.mv)
  have hf : (A.map Pass.mv).any id = A.any Pass.mv := by
    rw [List.any_map]
    rfl
  rw [hf] at hal
  show eAny (aCons (eL (fLc _ _ _ _ _)) aNil) ds w = _
  rw [eAny.ap, aCons.ap, eL.ap, e]
  show ca1 gAny (some ([.lst ((A.map Pass.mv).map D.bl)], w)) = _
  rw [ca1.on, hal]
  rfl
theorem keA_on (i : Nat) (g : Gw) (A : List Pass) (hA : Okk A) (a : Nat) (ha : a < 30) (ds : List Sl) (hi : ds[i]? = some (.d (.lst (A.map passD)))) (h5 : ds[5]? = some (.d (natD a))) (h7 : ds[7]? = some (.d (.str g.side))) (h8 : ds[8]? = some (.d (.int g.many))) (w : Wd) : keA i ds w = some (.int (gro g.many A a), w) :=
  eCallK_on (a := [.lst (A.map passD), natD a]) (b := [.str g.side, .int g.many]) (by simp [hi, h5]) (by simp [h7, h8]) rfl rfl (grown_number_on g false A hA.ok hA.len a (by omega) w)
theorem bodyS_on (g : Gw) (A B : List Pass) (hA : Okk A) (hB : Okk B) (a : Nat) (ha : a < 30) (x0 x4 x6 x10 x12 x13 x14 x15 x16 x17 x18 x19 x20 x21 x22 x23 x11 : Sl) (w : Wd) : bodyS [x0, .d .draw, .d (.lst (A.map passD)), .d (.lst (B.map passD)), x4, .d (natD a), x6, .d (.str g.side), .d (.int g.many), .d (optD (least (badG g.many A B) a)), x10, x11, x12, x13, x14, x15, x16, x17, x18, x19, x20, x21, x22, x23] w = some (.nx [x0, .d .draw, .d (.lst (A.map passD)), .d (.lst (B.map passD)), x4, .d (natD a), x6, .d (.str g.side), .d (.int g.many), .d (optD (least (badG g.many A B) (a + 1))), x10, .d (.int (gro g.many A a)), x12, x13, x14, x15, x16, x17, x18, x19, x20, x21, x22, x23] w) := by
  have i1 : ∀ k : Int, isN (.int k) .non = some (.bl false) := fun _ => rfl
  have i2 : isN .non .non = some (.bl true) := rfl
  show (sSeq _ _) [x0, .d .draw, .d (.lst (A.map passD)), .d (.lst (B.map passD)), x4, .d (natD a), x6, .d (.str g.side), .d (.int g.many), .d (optD (least (badG g.many A B) a)), x10, x11, x12, x13, x14, x15, x16, x17, x18, x19, x20, x21, x22, x23] w = _
  rw [seq_nx (ds2 := [x0, .d .draw, .d (.lst (A.map passD)), .d (.lst (B.map passD)), x4, .d (natD a), x6, .d (.str g.side), .d (.int g.many), .d (optD (least (badG g.many A B) a)), x10, .d (.int (gro g.many A a)), x12, x13, x14, x15, x16, x17, x18, x19, x20, x21, x22, x23]) (w2 := w) (by
    rw [sSet.ap, keA_on 2 g A hA a ha _ rfl rfl rfl rfl]
    rfl)]
  have lc := lcS_on g A hA a ha [x0, .d .draw, .d (.lst (A.map passD)), .d (.lst (B.map passD)), x4, .d (natD a), x6, .d (.str g.side), .d (.int g.many), .d (optD (least (badG g.many A B) a)), x10, .d (.int (gro g.many A a)), x12, x13, x14, x15, x16, x17, x18, x19, x20, x21, x22, x23] rfl rfl rfl (by simp) w
  have sm : (eSumB (aCons (eL lcS) aNil)) [x0, .d .draw, .d (.lst (A.map passD)), .d (.lst (B.map passD)), x4, .d (natD a), x6, .d (.str g.side), .d (.int g.many), .d (optD (least (badG g.many A B) a)), x10, .d (.int (gro g.many A a)), x12, x13, x14, x15, x16, x17, x18, x19, x20, x21, x22, x23] w = some (.int (gro g.many A a), w) := by
    rw [eSumB.ap, aCons.ap, eL.ap, lc]
    unfold gro
    simp [-List.map_map]
  rw [sif_no (w2 := w) ((ne_on2 (x := .int (gro g.many A a)) (y := .int (gro g.many A a)) rfl sm (neD_int _ _)).trans (by rw [decide_eq_true rfl]; rfl))]
  have kb := keA_on 3 g B hB a ha [x0, .d .draw, .d (.lst (A.map passD)), .d (.lst (B.map passD)), x4, .d (natD a), x6, .d (.str g.side), .d (.int g.many), .d (optD (least (badG g.many A B) a)), x10, .d (.int (gro g.many A a)), x12, x13, x14, x15, x16, x17, x18, x19, x20, x21, x22, x23] rfl rfl rfl rfl w
  have tn := ne_on2 (fa := eBor 11) (x := .int (gro g.many A a)) rfl kb (neD_int _ _)
  have ti := is_on2 (fa := eBor 9) (ds := [x0, .d .draw, .d (.lst (A.map passD)), .d (.lst (B.map passD)), x4, .d (natD a), x6, .d (.str g.side), .d (.int g.many), .d (optD (least (badG g.many A B) a)), x10, .d (.int (gro g.many A a)), x12, x13, x14, x15, x16, x17, x18, x19, x20, x21, x22, x23]) (w := w) (k := least (badG g.many A B) a) rfl
  have third : (sIf (tAndJ (eTest (eIs (eBor 9) (eC .non))) (eTest (eNe (eBor 11) (keA 3)))) (sSeq (sSet 9 (eVar 5)) sNil) sNil) [x0, .d .draw, .d (.lst (A.map passD)), .d (.lst (B.map passD)), x4, .d (natD a), x6, .d (.str g.side), .d (.int g.many), .d (optD (least (badG g.many A B) a)), x10, .d (.int (gro g.many A a)), x12, x13, x14, x15, x16, x17, x18, x19, x20, x21, x22, x23] w = some (.nx [x0, .d .draw, .d (.lst (A.map passD)), .d (.lst (B.map passD)), x4, .d (natD a), x6, .d (.str g.side), .d (.int g.many), .d (optD (least (badG g.many A B) (a + 1))), x10, .d (.int (gro g.many A a)), x12, x13, x14, x15, x16, x17, x18, x19, x20, x21, x22, x23] w) := by
    rw [least_succ, sIf.ap]
    cases e : least (badG g.many A B) a with
    | some k =>
      rw [e] at ti
      rw [and_f ti]
      rfl
    | none =>
      rw [e] at ti tn
      rw [and_t ti, tn]
      unfold badG
      by_cases hb : gro g.many A a = gro g.many B a
      · rw [hb]
        simp
      · have hb' : decide (gro g.many A a = gro g.many B a) = false := decide_eq_false hb
        rw [hb']
        simp [optD]
  rw [seq_nx third]
  have an := anS_on A hA [x0, .d .draw, .d (.lst (A.map passD)), .d (.lst (B.map passD)), x4, .d (natD a), x6, .d (.str g.side), .d (.int g.many), .d (optD (least (badG g.many A B) (a + 1))), x10, .d (.int (gro g.many A a)), x12, x13, x14, x15, x16, x17, x18, x19, x20, x21, x22, x23] rfl (by simp) w
  rw [sif_no (w2 := w) (by
    have t8 := lt_on2 (fa := eBor 5) (fb := eC (.int 8)) (ds := [x0, .d .draw, .d (.lst (A.map passD)), .d (.lst (B.map passD)), x4, .d (natD a), x6, .d (.str g.side), .d (.int g.many), .d (optD (least (badG g.many A B) (a + 1))), x10, .d (.int (gro g.many A a)), x12, x13, x14, x15, x16, x17, x18, x19, x20, x21, x22, x23]) (w := w) (x := a) (y := 8) rfl rfl
    by_cases c8 : a < 8
    · have c8' : (a : Int) < 8 := by omega
      rw [decide_eq_true c8'] at t8
      rw [and_t t8]
      cases hv : A.any Pass.mv with
      | true =>
        rw [hv] at an
        exact and_f (nt_on (tb_on an))
      | false =>
        rw [hv] at an
        rw [and_t (nt_on (tb_on an))]
        have hmv : ∀ p ∈ A, p.mv = false := fun p hp => by
          rw [List.any_eq_false] at hv
          simpa using hv p hp
        obtain ⟨out, o1, o2⟩ := net_on g A hA hmv a c8 w
        have nw : nwS [x0, .d .draw, .d (.lst (A.map passD)), .d (.lst (B.map passD)), x4, .d (natD a), x6, .d (.str g.side), .d (.int g.many), .d (optD (least (badG g.many A B) (a + 1))), x10, .d (.int (gro g.many A a)), x12, x13, x14, x15, x16, x17, x18, x19, x20, x21, x22, x23] w = some (out, w) := fListG_on (a := [.lst (A.map passD), natD a]) (b := [.str g.side, .int g.many]) (by simp) (by simp) rfl rfl o1
        exact (ne_on2 (fb := eBor 11) (len_on nw) rfl (neD_int _ _)).trans (by rw [o2, decide_eq_true rfl]; rfl)
    · have c8' : ¬(a : Int) < 8 := by omega
      rw [decide_eq_false c8'] at t8
      exact and_f t8)]
  rfl
theorem loopS (g : Gw) (A B : List Pass) (hA : Okk A) (hB : Okk B) (x0 x4 x6 x10 x12 x13 x14 x15 x16 x17 x18 x19 x20 x21 x22 x23 : Sl) (w : Wd) : ∀ (k s : Nat) (x5 x11 : Sl), s + k ≤ 30 → ∃ y5 y11, forGo (gN 5) bodyS ((List.range' s k).map natD) [x0, .d .draw, .d (.lst (A.map passD)), .d (.lst (B.map passD)), x4, x5, x6, .d (.str g.side), .d (.int g.many), .d (optD (least (badG g.many A B) s)), x10, x11, x12, x13, x14, x15, x16, x17, x18, x19, x20, x21, x22, x23] w = some (.nx [x0, .d .draw, .d (.lst (A.map passD)), .d (.lst (B.map passD)), x4, y5, x6, .d (.str g.side), .d (.int g.many), .d (optD (least (badG g.many A B) (s + k))), x10, y11, x12, x13, x14, x15, x16, x17, x18, x19, x20, x21, x22, x23] w)
  | 0, s, x5, x11, _ => ⟨x5, x11, rfl⟩
  | k + 1, s, x5, x11, h => by
    have b := bodyS_on g A B hA hB s (by omega) x0 x4 x6 x10 x12 x13 x14 x15 x16 x17 x18 x19 x20 x21 x22 x23 x11 w
    obtain ⟨y5, y11, i⟩ := loopS g A B hA hB x0 x4 x6 x10 x12 x13 x14 x15 x16 x17 x18 x19 x20 x21 x22 x23 w k (s + 1) (.d (natD s)) (.d (.int (gro g.many A s))) (by omega)
    refine ⟨y5, y11, ?_⟩
    rw [List.range'_succ, List.map_cons, show s + (k + 1) = s + 1 + k by omega]
    exact (forGo_nx (ds1 := [x0, .d .draw, .d (.lst (A.map passD)), .d (.lst (B.map passD)), x4, .d (natD s), x6, .d (.str g.side), .d (.int g.many), .d (optD (least (badG g.many A B) s)), x10, x11, x12, x13, x14, x15, x16, x17, x18, x19, x20, x21, x22, x23]) rfl b).trans i
end K12
namespace K12
open PySem PyProof.Rows L2 J
noncomputable abbrev st4 : Ev := eL (fLst (aCons (eTup (aCons (eC (.str "cross")) (aCons (eC (.str "up")) aNil))) (aCons (eTup (aCons (eC (.str "mirror")) (aCons (eC (.str "down")) aNil))) (aCons (eTup (aCons (eC (.str "swap")) aNil)) (aCons (eTup (aCons (eC (.str "flip")) (aCons (eC (.str "all")) aNil))) aNil)))))
noncomputable abbrev fSt : Ef := fLc (iRg (eC (.int 0)) (eCall 2 G__law_next (aCons (eVar 1) (aCons (eC (.int 3)) aNil)))) (gN 20) tYesJ (eCall 2 G__law_pick (aCons (eVar 1) (aCons st4 aNil))) [20]
noncomputable abbrev tN3 : Et := eTest (eEq (eCall 2 G__law_next (aCons (eVar 1) (aCons (eC (.int 3)) aNil))) (eC (.int 0)))
noncomputable abbrev elL : Ev := eIf tN3 (eC .non) (eTup (aCons (eCall 2 G__law_pick (aCons (eVar 1) (aCons (eVar 12) aNil))) (aCons (eC (.bl false)) aNil)))
noncomputable abbrev fCl : Ef := fLc (iRg (eC (.int 0)) (eC (.int 2))) (gN 20) tYesJ elL [20]
noncomputable abbrev bodyL : Es := (sSeq (sSet 15 (eTuple (aCons (eL fSt) aNil)))
 (sSeq (sSetO 16 fCl)
 (sFrz 16 (sSeq (sDPut' 13 (eBor 14) (eTup (aCons (eVar 15) (aCons (eIx (eBor 16) (eC (.int 0))) (aCons (eIx (eBor 16) (eC (.int 1))) aNil)))))
 sNil))))
theorem sp_pick (ds : List Sl) (hd : ds[1]? = some (.d .draw)) (w : Wd) (hc : 0 ≤ w.c) : ∃ s : Sp, (eCall 2 G__law_pick (aCons (eVar 1) (aCons st4 aNil))) ds w = some (stepD s, ⟨w.ns, w.c + 1⟩) := by
  obtain ⟨x, hx, ex⟩ := pick_on ([Sp.cross, .mirror, .swap, .flip].map stepD) (Nat.succ_pos _) w hc
  obtain ⟨s, _, rfl⟩ := List.mem_map.mp hx
  refine ⟨s, ?_⟩
  have e : st4 ds w = some (.lst ([Sp.cross, .mirror, .swap, .flip].map stepD), w) := by
    simp [line_eq, stepD]
  have a : (aCons (eVar 1) (aCons st4 aNil)) ds w = some ([.draw, .lst ([Sp.cross, .mirror, .swap, .flip].map stepD)], w) := by
    rw [aCons.ap, show eVar 1 ds w = some (.draw, w) by simp [hd]]
    show ac2 _ ((aCons st4 aNil) ds w) = _
    rw [aCons.ap, e]
    rfl
  rw [eCall.ap, a]
  exact ex
theorem steps_on (ds : List Sl) (hd : ds[1]? = some (.d .draw)) (hl : 20 < ds.length) (w : Wd) (hc : 0 ≤ w.c) : ∃ (st : List Sp) (w' : Wd), fSt ds w = some (st.map stepD, w') ∧ st.length ≤ 2 ∧ 0 ≤ w'.c := by
  obtain ⟨n, hn, e⟩ := irg_draw 3 (by decide) (by decide) ds hd w hc
  obtain ⟨bs, w', h1, h2, h3, h4⟩ := lcGo_draw natD stepD (tg := gN 20) (e := eCall 2 G__law_pick (aCons (eVar 1) (aCons st4 aNil))) (ds := wipeS ds [20]) (fun (_ : Nat) (_ : Sp) => True) (fun w => 0 ≤ w.c) (List.range n) ⟨w.ns, w.c + 1⟩ (by dsimp only; omega) (fun a ha w hw => by
    have hd' : ((wipeS ds [20]).set 20 (.d (natD a)))[1]? = some (.d .draw) := by simp [hd]
    obtain ⟨s, k⟩ := sp_pick ((wipeS ds [20]).set 20 (.d (natD a))) hd' w hw
    exact ⟨_, s, _, rfl, k, trivial, by dsimp only; omega⟩)
  exact ⟨bs, w', fLc_ok (w1 := ⟨w.ns, w.c + 1⟩) e h1 (by
    rw [List.length_map, h2, List.length_range]
    unfold line
    omega), by rw [h2, List.length_range]; omega, h4⟩
theorem call_on (ds : List Sl) (hd : ds[1]? = some (.d .draw)) (h12 : ds[12]? = some (.d (.lst [.str Nm.a.s, .str Nm.b.s, .str Nm.c.s]))) (w : Wd) (hc : 0 ≤ w.c) : ∃ (c : Option Nm) (w' : Wd), elL ds w = some (calD c, w') ∧ 0 ≤ w'.c := by
  obtain ⟨v, v0, v1, ev⟩ := draw_on 3 (by decide) w hc
  have t : tN3 ds w = some (decide (v = 0), ⟨w.ns, w.c + 1⟩) := by simp [hd, ev]
  show ∃ (c : Option Nm) (w' : Wd), eIf tN3 _ _ ds w = some (calD c, w') ∧ 0 ≤ w'.c
  by_cases h : v = 0
  · refine ⟨none, ⟨w.ns, w.c + 1⟩, ?_, by dsimp only; omega⟩
    rw [decide_eq_true h] at t
    rw [eIf.ap, t]
    rfl
  · rw [decide_eq_false h] at t
    obtain ⟨x, hx, ex⟩ := pick_on ([Nm.a, .b, .c].map fun n => D.str n.s) (Nat.succ_pos _) ⟨w.ns, w.c + 1⟩ (by dsimp only; omega)
    obtain ⟨n, _, rfl⟩ := List.mem_map.mp hx
    refine ⟨some n, ⟨w.ns, w.c + 1 + 1⟩, ?_, by dsimp only; omega⟩
    have p : (eCall 2 G__law_pick (aCons (eVar 1) (aCons (eVar 12) aNil))) ds ⟨w.ns, w.c + 1⟩ = some (.str n.s, ⟨w.ns, w.c + 1 + 1⟩) := by
      have a : (aCons (eVar 1) (aCons (eVar 12) aNil)) ds ⟨w.ns, w.c + 1⟩ = some ([.draw, .lst ([Nm.a, .b, .c].map fun n => D.str n.s)], ⟨w.ns, w.c + 1⟩) := by
        simp [hd, h12]
      rw [eCall.ap, a]
      exact ex
    rw [eIf.ap, t]
    show (eTup (aCons (eCall 2 G__law_pick (aCons (eVar 1) (aCons (eVar 12) aNil))) (aCons (eC (.bl false)) aNil))) ds ⟨w.ns, w.c + 1⟩ = _
    rw [eTup.ap, aCons.ap, p]
    rfl
theorem calls_on (ds : List Sl) (hd : ds[1]? = some (.d .draw)) (h12 : ds[12]? = some (.d (.lst [.str Nm.a.s, .str Nm.b.s, .str Nm.c.s]))) (w : Wd) (hc : 0 ≤ w.c) : ∃ (c1 c2 : Option Nm) (w' : Wd), fCl ds w = some ([calD c1, calD c2], w') ∧ 0 ≤ w'.c := by
  obtain ⟨bs, w', h1, h2, h3, h4⟩ := lcGo_draw natD calD (tg := gN 20) (e := elL) (ds := wipeS ds [20]) (fun (_ : Nat) (_ : Option Nm) => True) (fun w => 0 ≤ w.c) (List.range 2) w hc (fun a ha w hw => by
    have hd' : ((wipeS ds [20]).set 20 (.d (natD a)))[1]? = some (.d .draw) := by simp [hd]
    have h12' : ((wipeS ds [20]).set 20 (.d (natD a)))[12]? = some (.d (.lst [.str Nm.a.s, .str Nm.b.s, .str Nm.c.s])) := by simp [h12]
    obtain ⟨c, w', k, hk⟩ := call_on ((wipeS ds [20]).set 20 (.d (natD a))) hd' h12' w hw
    exact ⟨_, c, w', rfl, k, trivial, hk⟩)
  have src : iRg (eC (.int 0)) (eC (.int 2)) ds w = some ((List.range 2).map natD, w) := by
    rw [iRg.ap]
    show irF (.int 0) (.int ((2 : Nat) : Int)) w = _
    exact irg0 2 (by decide) w
  match bs, h2 with
  | [c1, c2], _ => exact ⟨c1, c2, w', fLc_ok src h1 (by simp [line]), h4⟩
theorem dput13 {fe : Ev} {ds : List Sl} {w : Wd} {d : D} {q : D} {key : Key} {ks : List Key} {es : List D} (h1 : fe ds w = some (d, w)) (h2 : eBor 14 ds w = some (q, w)) (h3 : ds[13]? = some (.oo (.k ks es))) (h4 : keyOf q = some key) (h5 : ks.length < 1000) : sSeq (sDPut' 13 (eBor 14) fe) sNil ds w = some (.nx (ds.set 13 (.oo (.k (putKs ks key) (putVs ks es key d)))) w) := by
  refine (seq_nx (ds2 := ds.set 13 (.oo (.k (putKs ks key) (putVs ks es key d)))) (w2 := w) ?_).trans rfl
  unfold sDPut'
  rw [h1]
  simp only [Option.bind_some]
  rw [h2]
  simp only [Option.bind_some, h3, h4]
  rw [if_pos (by unfold line; omega)]
theorem bodyL_on (n : Nm) (ks : List Key) (es : List D) (hk : ks.length < 1000) (x0 x2 x3 x4 x5 x6 x7 x8 x9 x10 x11 x17 x18 x19 x20 x21 x22 x23 x15 x16 : Sl) (w : Wd) (hc : 0 ≤ w.c) : ∃ (l : Lm) (w' : Wd) (y15 y16 : Sl), l.ok ∧ 0 ≤ w'.c ∧ bodyL [x0, .d .draw, x2, x3, x4, x5, x6, x7, x8, x9, x10, x11, .d (.lst [.str Nm.a.s, .str Nm.b.s, .str Nm.c.s]), .oo (.k ks es), .d (.str n.s), x15, x16, x17, x18, x19, x20, x21, x22, x23] w = some (.nx [x0, .d .draw, x2, x3, x4, x5, x6, x7, x8, x9, x10, x11, .d (.lst [.str Nm.a.s, .str Nm.b.s, .str Nm.c.s]), .oo (.k (putKs ks (.inr n.s)) (putVs ks es (.inr n.s) (lmD l))), .d (.str n.s), y15, y16, x17, x18, x19, x20, x21, x22, x23] w') := by
  obtain ⟨st, w1, e1, hst, hc1⟩ := steps_on [x0, .d .draw, x2, x3, x4, x5, x6, x7, x8, x9, x10, x11, .d (.lst [.str Nm.a.s, .str Nm.b.s, .str Nm.c.s]), .oo (.k ks es), .d (.str n.s), x15, x16, x17, x18, x19, x20, x21, x22, x23] rfl (by simp) w hc
  obtain ⟨c1, c2, w2, e2, hc2⟩ := calls_on [x0, .d .draw, x2, x3, x4, x5, x6, x7, x8, x9, x10, x11, .d (.lst [.str Nm.a.s, .str Nm.b.s, .str Nm.c.s]), .oo (.k ks es), .d (.str n.s), .d (.tup (st.map stepD)), x16, x17, x18, x19, x20, x21, x22, x23] rfl rfl w1 hc1
  refine ⟨⟨st, c1, c2⟩, w2, .d (.tup (st.map stepD)), .d (.lst [calD c1, calD c2]), hst, hc2, ?_⟩
  show (sSeq _ _) [x0, .d .draw, x2, x3, x4, x5, x6, x7, x8, x9, x10, x11, .d (.lst [.str Nm.a.s, .str Nm.b.s, .str Nm.c.s]), .oo (.k ks es), .d (.str n.s), x15, x16, x17, x18, x19, x20, x21, x22, x23] w = _
  rw [seq_nx (ds2 := [x0, .d .draw, x2, x3, x4, x5, x6, x7, x8, x9, x10, x11, .d (.lst [.str Nm.a.s, .str Nm.b.s, .str Nm.c.s]), .oo (.k ks es), .d (.str n.s), .d (.tup (st.map stepD)), x16, x17, x18, x19, x20, x21, x22, x23]) (w2 := w1) (by
    rw [sSet.ap, eTuple.ap, aCons.ap, eL.ap, e1]
    rfl)]
  rw [seq_nx (ds2 := [x0, .d .draw, x2, x3, x4, x5, x6, x7, x8, x9, x10, x11, .d (.lst [.str Nm.a.s, .str Nm.b.s, .str Nm.c.s]), .oo (.k ks es), .d (.str n.s), .d (.tup (st.map stepD)), .own [calD c1, calD c2], x17, x18, x19, x20, x21, x22, x23]) (w2 := w2) (by
    rw [sSetO.ap, e2]
    rfl)]
  show (sSeq _ _) [x0, .d .draw, x2, x3, x4, x5, x6, x7, x8, x9, x10, x11, .d (.lst [.str Nm.a.s, .str Nm.b.s, .str Nm.c.s]), .oo (.k ks es), .d (.str n.s), .d (.tup (st.map stepD)), .d (.lst [calD c1, calD c2]), x17, x18, x19, x20, x21, x22, x23] w2 = _
  exact dput13 (d := lmD ⟨st, c1, c2⟩) (q := .str n.s) (key := .inr n.s) (ks := ks) (es := es) (by unfold lmD; simp [line_eq]) rfl rfl rfl hk
theorem loopL (x0 x2 x3 x4 x5 x6 x7 x8 x9 x10 x11 x17 x18 x19 x20 x21 x22 x23 x14 x15 x16 : Sl) (w : Wd) (hc : 0 ≤ w.c) : ∃ (L : L3) (w' : Wd) (y15 y16 : Sl), L.ok ∧ 0 ≤ w'.c ∧ forGo (gN 14) bodyL [.str Nm.a.s, .str Nm.b.s, .str Nm.c.s] [x0, .d .draw, x2, x3, x4, x5, x6, x7, x8, x9, x10, x11, .d (.lst [.str Nm.a.s, .str Nm.b.s, .str Nm.c.s]), .oo (.k [] []), x14, x15, x16, x17, x18, x19, x20, x21, x22, x23] w = some (.nx [x0, .d .draw, x2, x3, x4, x5, x6, x7, x8, x9, x10, x11, .d (.lst [.str Nm.a.s, .str Nm.b.s, .str Nm.c.s]), .oo (.k kabc [lmD L.a, lmD L.b, lmD L.c]), .d (.str Nm.c.s), y15, y16, x17, x18, x19, x20, x21, x22, x23] w') := by
  obtain ⟨la, w1, a15, a16, ka, ca, ea⟩ := bodyL_on .a [] [] (by decide) x0 x2 x3 x4 x5 x6 x7 x8 x9 x10 x11 x17 x18 x19 x20 x21 x22 x23 x15 x16 w hc
  obtain ⟨lb, w2, b15, b16, kb, cb, eb⟩ := bodyL_on .b [.inr "a"] [lmD la] (by decide) x0 x2 x3 x4 x5 x6 x7 x8 x9 x10 x11 x17 x18 x19 x20 x21 x22 x23 a15 a16 w1 ca
  obtain ⟨lc, w3, c15, c16, kc, cc, ec⟩ := bodyL_on .c [.inr "a", .inr "b"] [lmD la, lmD lb] (by decide) x0 x2 x3 x4 x5 x6 x7 x8 x9 x10 x11 x17 x18 x19 x20 x21 x22 x23 b15 b16 w2 cb
  refine ⟨⟨la, lb, lc⟩, w3, c15, c16, ⟨ka, kb, kc⟩, cc, ?_⟩
  rw [forGo_nx (ds1 := [x0, .d .draw, x2, x3, x4, x5, x6, x7, x8, x9, x10, x11, .d (.lst [.str Nm.a.s, .str Nm.b.s, .str Nm.c.s]), .oo (.k [] []), .d (.str Nm.a.s), x15, x16, x17, x18, x19, x20, x21, x22, x23]) (ds2 := [x0, .d .draw, x2, x3, x4, x5, x6, x7, x8, x9, x10, x11, .d (.lst [.str Nm.a.s, .str Nm.b.s, .str Nm.c.s]), .oo (.k [.inr "a"] [lmD la]), .d (.str Nm.a.s), a15, a16, x17, x18, x19, x20, x21, x22, x23]) (w2 := w1) rfl ea,
    forGo_nx (ds1 := [x0, .d .draw, x2, x3, x4, x5, x6, x7, x8, x9, x10, x11, .d (.lst [.str Nm.a.s, .str Nm.b.s, .str Nm.c.s]), .oo (.k [.inr "a"] [lmD la]), .d (.str Nm.b.s), a15, a16, x17, x18, x19, x20, x21, x22, x23]) (ds2 := [x0, .d .draw, x2, x3, x4, x5, x6, x7, x8, x9, x10, x11, .d (.lst [.str Nm.a.s, .str Nm.b.s, .str Nm.c.s]), .oo (.k [.inr "a", .inr "b"] [lmD la, lmD lb]), .d (.str Nm.b.s), b15, b16, x17, x18, x19, x20, x21, x22, x23]) (w2 := w2) rfl eb,
    forGo_nx (ds1 := [x0, .d .draw, x2, x3, x4, x5, x6, x7, x8, x9, x10, x11, .d (.lst [.str Nm.a.s, .str Nm.b.s, .str Nm.c.s]), .oo (.k [.inr "a", .inr "b"] [lmD la, lmD lb]), .d (.str Nm.c.s), b15, b16, x17, x18, x19, x20, x21, x22, x23]) (ds2 := [x0, .d .draw, x2, x3, x4, x5, x6, x7, x8, x9, x10, x11, .d (.lst [.str Nm.a.s, .str Nm.b.s, .str Nm.c.s]), .oo (.k kabc [lmD la, lmD lb, lmD lc]), .d (.str Nm.c.s), c15, c16, x17, x18, x19, x20, x21, x22, x23]) (w2 := w3) rfl ec]
  rfl
end K12
namespace K12
open PySem PyProof.Rows L2 J
theorem least_zero (f : Nat → Bool) : least f 0 = none := rfl
theorem ne_opt (k l : Option Nat) (h : k = l) : neD (optD k) (optD l) = some (.bl false) := by
  subst h
  cases k with
  | none => rfl
  | some n => 
    show neD (.int n) (.int n) = _
    rw [neD_int]
    simp
/-- the drawn passes -/
theorem okk3 {ps : List Pass} (h : (∀ p ∈ ps, p.ok ∧ p.four) ∧ ps.length ≤ 3) : Okk ps := ⟨h.1, by have := h.2; omega⟩
theorem okk_rev {ps : List Pass} (h : (∀ p ∈ ps, p.ok ∧ p.four) ∧ ps.length ≤ 3) : Okk (ps.reverse ++ [.turn]) := by
  refine ⟨fun p hp => ?_, by have := h.2; simp; omega⟩
  rcases List.mem_append.mp hp with z | z
  · exact h.1 p (List.mem_reverse.mp z)
  · rw [List.mem_singleton.mp z]
    exact ⟨trivial, trivial⟩
theorem st1 (w : Wd) (hc : 0 ≤ w.c) : ∃ (A B : List Pass) (w' : Wd), ((∀ p ∈ A, p.ok ∧ p.four) ∧ A.length ≤ 3) ∧ ((∀ p ∈ B, p.ok ∧ p.four) ∧ B.length ≤ 3) ∧ 0 ≤ w'.c ∧ (sAsg (eTup (aCons (eL fPs) (aCons (eL fPs) aNil))) (goN (gT 2 (gsCons (gN 2) (gsCons (gN 3) gsNil))))) [.no, .d .draw, .no, .no, .no, .no, .no, .no, .no, .no, .no, .no, .no, .no, .no, .no, .no, .no, .no, .no, .no, .no, .no, .no] w = some (.nx [.no, .d .draw, .d (.lst (A.map passD)), .d (.lst (B.map passD)), .no, .no, .no, .no, .no, .no, .no, .no, .no, .no, .no, .no, .no, .no, .no, .no, .no, .no, .no, .no] w') := by
  obtain ⟨A, w1, e1, hA, c1⟩ := passes_on [.no, .d .draw, .no, .no, .no, .no, .no, .no, .no, .no, .no, .no, .no, .no, .no, .no, .no, .no, .no, .no, .no, .no, .no, .no] rfl (by simp) w hc
  obtain ⟨B, w2, e2, hB, c2⟩ := passes_on [.no, .d .draw, .no, .no, .no, .no, .no, .no, .no, .no, .no, .no, .no, .no, .no, .no, .no, .no, .no, .no, .no, .no, .no, .no] rfl (by simp) w1 c1
  refine ⟨A, B, w2, hA, hB, c2, ?_⟩
  have a2 : (aCons (eL fPs) aNil) [.no, .d .draw, .no, .no, .no, .no, .no, .no, .no, .no, .no, .no, .no, .no, .no, .no, .no, .no, .no, .no, .no, .no, .no, .no] w1 = some ([.lst (B.map passD)], w2) := by
    rw [aCons.ap, eL.ap, e2]
    rfl
  have a1 : (aCons (eL fPs) (aCons (eL fPs) aNil)) [.no, .d .draw, .no, .no, .no, .no, .no, .no, .no, .no, .no, .no, .no, .no, .no, .no, .no, .no, .no, .no, .no, .no, .no, .no] w = some ([.lst (A.map passD), .lst (B.map passD)], w2) := by
    rw [aCons.ap, eL.ap, e1]
    show ac2 _ ((aCons (eL fPs) aNil) _ w1) = _
    rw [a2]
    rfl
  have t : (eTup (aCons (eL fPs) (aCons (eL fPs) aNil))) [.no, .d .draw, .no, .no, .no, .no, .no, .no, .no, .no, .no, .no, .no, .no, .no, .no, .no, .no, .no, .no, .no, .no, .no, .no] w = some (.tup [.lst (A.map passD), .lst (B.map passD)], w2) := by
    rw [eTup.ap, a1]
    simp [line_eq]
  rw [sAsg.ap, t]
  rfl
theorem st2 (A B : List Pass) (hA : (∀ p ∈ A, p.ok ∧ p.four) ∧ A.length ≤ 3) (hB : (∀ p ∈ B, p.ok ∧ p.four) ∧ B.length ≤ 3) (w : Wd) (hc : 0 ≤ w.c) : ∃ (C : List Pass) (w' : Wd), Okk C ∧ 0 ≤ w'.c ∧ (sIf (eTest (eEq (eCall 2 G__law_next (aCons (eVar 1) (aCons (eC (.int 3)) aNil))) (eC (.int 0)))) (sSeq (sSet 3 (eAdd (eL (fRev (eBor 2))) (eL (fLst (aCons (eTup (aCons (eC (.str "turn")) aNil)) aNil))))) sNil) sNil) [.no, .d .draw, .d (.lst (A.map passD)), .d (.lst (B.map passD)), .no, .no, .no, .no, .no, .no, .no, .no, .no, .no, .no, .no, .no, .no, .no, .no, .no, .no, .no, .no] w = some (.nx [.no, .d .draw, .d (.lst (A.map passD)), .d (.lst (C.map passD)), .no, .no, .no, .no, .no, .no, .no, .no, .no, .no, .no, .no, .no, .no, .no, .no, .no, .no, .no, .no] w') := by
  obtain ⟨v, v0, v1, ev⟩ := draw_on 3 (by decide) w hc
  have t : (eTest (eEq (eCall 2 G__law_next (aCons (eVar 1) (aCons (eC (.int 3)) aNil))) (eC (.int 0)))) [.no, .d .draw, .d (.lst (A.map passD)), .d (.lst (B.map passD)), .no, .no, .no, .no, .no, .no, .no, .no, .no, .no, .no, .no, .no, .no, .no, .no, .no, .no, .no, .no] w = some (decide (v = 0), ⟨w.ns, w.c + 1⟩) := by simp [ev]
  by_cases h : v = 0
  · refine ⟨A.reverse ++ [Pass.turn], ⟨w.ns, w.c + 1⟩, okk_rev hA, by dsimp only; omega, ?_⟩
    rw [decide_eq_true h] at t
    rw [sIf.ap, t]
    have e : (eAdd (eL (fRev (eBor 2))) (eL (fLst (aCons (eTup (aCons (eC (.str "turn")) aNil)) aNil)))) [.no, .d .draw, .d (.lst (A.map passD)), .d (.lst (B.map passD)), .no, .no, .no, .no, .no, .no, .no, .no, .no, .no, .no, .no, .no, .no, .no, .no, .no, .no, .no, .no] ⟨w.ns, w.c + 1⟩ = some (.lst ((A.reverse ++ [Pass.turn]).map passD), ⟨w.ns, w.c + 1⟩) := by
      have hl : A.length ≤ 3 := hA.2
      have r1 : (eL (fRev (eBor 2))) [.no, .d .draw, .d (.lst (A.map passD)), .d (.lst (B.map passD)), .no, .no, .no, .no, .no, .no, .no, .no, .no, .no, .no, .no, .no, .no, .no, .no, .no, .no, .no, .no] ⟨w.ns, w.c + 1⟩ = some (.lst (A.map passD).reverse, ⟨w.ns, w.c + 1⟩) := by simp
      have r2 : (eL (fLst (aCons (eTup (aCons (eC (.str "turn")) aNil)) aNil))) [.no, .d .draw, .d (.lst (A.map passD)), .d (.lst (B.map passD)), .no, .no, .no, .no, .no, .no, .no, .no, .no, .no, .no, .no, .no, .no, .no, .no, .no, .no, .no, .no] ⟨w.ns, w.c + 1⟩ = some (.lst [passD Pass.turn], ⟨w.ns, w.c + 1⟩) := by
        simp [line_eq]
        rfl
      rw [eAdd.ap, r1, bin1.on, r2, bin2.on, v_addL, if_pos (by
        unfold line
        simp
        omega)]
      show some (D.lst _, _) = _
      rw [List.map_append, List.map_reverse]
      rfl
    show (sSeq _ _) [.no, .d .draw, .d (.lst (A.map passD)), .d (.lst (B.map passD)), .no, .no, .no, .no, .no, .no, .no, .no, .no, .no, .no, .no, .no, .no, .no, .no, .no, .no, .no, .no] _ = _
    rw [seq_nx (ds2 := [.no, .d .draw, .d (.lst (A.map passD)), .d (.lst ((A.reverse ++ [Pass.turn]).map passD)), .no, .no, .no, .no, .no, .no, .no, .no, .no, .no, .no, .no, .no, .no, .no, .no, .no, .no, .no, .no]) (w2 := ⟨w.ns, w.c + 1⟩) (by
      rw [sSet.ap, e]
      rfl)]
    rfl
  · refine ⟨B, ⟨w.ns, w.c + 1⟩, okk3 hB, by dsimp only; omega, ?_⟩
    rw [decide_eq_false h] at t
    rw [sIf.ap, t]
    rfl
theorem irg_c (n : Nat) (hn : n < 1000) (ds : List Sl) (w : Wd) : iRg (eC (.int 0)) (eC (.int (n : Int))) ds w = some ((List.range' 0 n).map natD, w) := by
  rw [iRg.ap]
  show irF (.int 0) (.int (n : Int)) w = _
  rw [irg0 n hn, List.range_eq_range']
theorem gw_pick (w : Wd) (hc : 0 ≤ w.c) (ds : List Sl) (hd : ds[1]? = some (.d .draw)) : ∃ g : Gw, (eCall 2 G__law_pick (aCons (eVar 1) (aCons (eL (fLst (aCons (eTup (aCons (eC (.str "right")) (aCons (eC (.int 1)) aNil))) (aCons (eTup (aCons (eC (.str "left")) (aCons (eC (.int 2)) aNil))) (aCons (eTup (aCons (eC (.str "both")) (aCons (eC (.int 2)) aNil))) (aCons (eTup (aCons (eC (.str "left")) (aCons (eC (.int 1)) aNil))) aNil)))))) aNil))) ds w = some (.tup [.str g.side, .int g.many], ⟨w.ns, w.c + 1⟩) := by
  obtain ⟨x, hx, ex⟩ := pick_on ([Gw.r1, .l2, .b2, .l1].map fun g => D.tup [.str g.side, .int g.many]) (Nat.succ_pos _) w hc
  obtain ⟨g, _, rfl⟩ := List.mem_map.mp hx
  refine ⟨g, ?_⟩
  have e : (eL (fLst (aCons (eTup (aCons (eC (.str "right")) (aCons (eC (.int 1)) aNil))) (aCons (eTup (aCons (eC (.str "left")) (aCons (eC (.int 2)) aNil))) (aCons (eTup (aCons (eC (.str "both")) (aCons (eC (.int 2)) aNil))) (aCons (eTup (aCons (eC (.str "left")) (aCons (eC (.int 1)) aNil))) aNil)))))) ds w = some (.lst ([Gw.r1, .l2, .b2, .l1].map fun g => D.tup [.str g.side, .int g.many]), w) := by
    simp [line_eq]
    exact ⟨⟨rfl, rfl⟩, ⟨rfl, rfl⟩, ⟨rfl, rfl⟩, rfl, rfl⟩
  have a : (aCons (eVar 1) (aCons (eL (fLst (aCons (eTup (aCons (eC (.str "right")) (aCons (eC (.int 1)) aNil))) (aCons (eTup (aCons (eC (.str "left")) (aCons (eC (.int 2)) aNil))) (aCons (eTup (aCons (eC (.str "both")) (aCons (eC (.int 2)) aNil))) (aCons (eTup (aCons (eC (.str "left")) (aCons (eC (.int 1)) aNil))) aNil)))))) aNil)) ds w = some ([.draw, .lst ([Gw.r1, .l2, .b2, .l1].map fun g => D.tup [.str g.side, .int g.many])], w) := by
    rw [aCons.ap, show eVar 1 ds w = some (.draw, w) by simp [hd], ac1.on, aCons.ap, e]
    rfl
  rw [eCall.ap, a]
  exact ex
theorem dict3 {f : Ef} {ds : List Sl} {w : Wd} {x y z : D} (h : f ds w = some ([.lst [.tup [.str "a", x], .tup [.str "b", y], .tup [.str "c", z]]], w)) : nDict f ds w = some (.k kabc [x, y, z], w) := by
  unfold nDict
  rw [h]
  have e1 : pairsD [.tup [.str "a", x], .tup [.str "b", y], .tup [.str "c", z]] = some (kabc, [x, y, z]) := rfl
  have e2 : nodupK kabc = true := by decide +kernel
  simp [e1, e2]
noncomputable abbrev nRows : Eo' := nDict (aCons (eL (fLc (iItems (eBor 12)) (gN 14) tYesJ (eTup (aCons (eVar 14) (aCons (eCall 3 G__law_numbers (aCons (eVar 13) (aCons (eVar 14) (aCons (eC (.int 7)) aNil)))) aNil))) [14])) aNil)
theorem rows_on (L : L3) (hL : L.ok) (x0 x2 x3 x4 x5 x6 x7 x8 x9 x10 x11 x14 x15 x16 x17 x18 x19 x20 x21 x22 x23 : Sl) (w : Wd) : nRows [x0, .d .draw, x2, x3, x4, x5, x6, x7, x8, x9, x10, x11, .d (.lst [.str Nm.a.s, .str Nm.b.s, .str Nm.c.s]), .d (l3D L), x14, x15, x16, x17, x18, x19, x20, x21, x22, x23] w = some (.k kabc [.lst (rowT L 7 .a), .lst (rowT L 7 .b), .lst (rowT L 7 .c)], w) := by
  have lc : lcGo (gN 14) tYesJ (eTup (aCons (eVar 14) (aCons (eCall 3 G__law_numbers (aCons (eVar 13) (aCons (eVar 14) (aCons (eC (.int 7)) aNil)))) aNil))) (wipeS [x0, .d .draw, x2, x3, x4, x5, x6, x7, x8, x9, x10, x11, .d (.lst [.str Nm.a.s, .str Nm.b.s, .str Nm.c.s]), .d (l3D L), x14, x15, x16, x17, x18, x19, x20, x21, x22, x23] [14]) ([Nm.a, .b, .c].map fun n => D.str n.s) w = some ([Nm.a, .b, .c].map fun n => D.tup [.str n.s, .lst (rowT L 7 n)], w) := by
    refine lcGo_map (fun n : Nm => D.str n.s) (fun n : Nm => D.tup [.str n.s, .lst (rowT L 7 n)]) [Nm.a, .b, .c] fun n hn => ⟨_, rfl, ?_⟩
    have z := law_numbers_on L hL n w
    have z13 : ((wipeS [x0, .d .draw, x2, x3, x4, x5, x6, x7, x8, x9, x10, x11, .d (.lst [.str Nm.a.s, .str Nm.b.s, .str Nm.c.s]), .d (l3D L), x14, x15, x16, x17, x18, x19, x20, x21, x22, x23] [14]).set 14 (.d (.str n.s)))[13]? = some (.d (l3D L)) := rfl
    have z14 : ((wipeS [x0, .d .draw, x2, x3, x4, x5, x6, x7, x8, x9, x10, x11, .d (.lst [.str Nm.a.s, .str Nm.b.s, .str Nm.c.s]), .d (l3D L), x14, x15, x16, x17, x18, x19, x20, x21, x22, x23] [14]).set 14 (.d (.str n.s)))[14]? = some (.d (.str n.s)) := rfl
    generalize (wipeS [x0, .d .draw, x2, x3, x4, x5, x6, x7, x8, x9, x10, x11, .d (.lst [.str Nm.a.s, .str Nm.b.s, .str Nm.c.s]), .d (l3D L), x14, x15, x16, x17, x18, x19, x20, x21, x22, x23] [14]).set 14 (.d (.str n.s)) = q at *
    simp [z13, z14, z, line_eq]
  have src : (iItems (eBor 12)) [x0, .d .draw, x2, x3, x4, x5, x6, x7, x8, x9, x10, x11, .d (.lst [.str Nm.a.s, .str Nm.b.s, .str Nm.c.s]), .d (l3D L), x14, x15, x16, x17, x18, x19, x20, x21, x22, x23] w = some ([Nm.a, .b, .c].map (fun n => D.str n.s), w) := by simp
  have e : fLc (iItems (eBor 12)) (gN 14) tYesJ (eTup (aCons (eVar 14) (aCons (eCall 3 G__law_numbers (aCons (eVar 13) (aCons (eVar 14) (aCons (eC (.int 7)) aNil)))) aNil))) [14] [x0, .d .draw, x2, x3, x4, x5, x6, x7, x8, x9, x10, x11, .d (.lst [.str Nm.a.s, .str Nm.b.s, .str Nm.c.s]), .d (l3D L), x14, x15, x16, x17, x18, x19, x20, x21, x22, x23] w = some ([Nm.a, .b, .c].map fun n => D.tup [.str n.s, .lst (rowT L 7 n)], w) :=
    fLc_ok src lc (by
      rw [List.length_map]
      show 3 ≤ line
      unfold line
      omega)
  refine dict3 (x := .lst (rowT L 7 .a)) (y := .lst (rowT L 7 .b)) (z := .lst (rowT L 7 .c)) ?_
  rw [aCons.ap, eL.ap, e]
  rfl
end K12
namespace K12
open PySem PyProof.Rows L2 J
theorem rowT_ne (L : L3) (t : Nat) (n m : Nm) : neD (.lst (rowT L t n)) (.lst (rowT L t m)) = some (.bl (!decide (rowV L t n = rowV L t m))) := by
  rw [rowT_V, rowT_V, neD_ints]
theorem sor_append : ∀ (xs acc : List Int), sorF acc xs = sorF acc xs := fun _ _ => rfl
theorem filt_head (L : L3) : ((List.range 8).filter (badL L)).head? = least (badL L) 8 := by
  unfold least
  rw [List.head?_filter]
theorem or_f {t u : Et} {ds : List Sl} {w : Wd} (h : t ds w = some (false, w)) : tOrJ t u ds w = u ds w := by
  rw [tOrJ.ap, h]
  rfl
theorem call3_on {G : Fn} {fa fb fc : Ev} {ds : List Sl} {w : Wd} {a b c : D} {r : Option (D × Wd)} (h1 : fa ds w = some (a, w)) (h2 : fb ds w = some (b, w)) (h3 : fc ds w = some (c, w)) (h : G [a, b, c] w = r) : eCall 3 G (aCons fa (aCons fb (aCons fc aNil))) ds w = r := by
  have e3 : (aCons fc aNil) ds w = some ([c], w) := by
    rw [aCons.ap, h3]
    rfl
  have e2 : (aCons fb (aCons fc aNil)) ds w = some ([b, c], w) := by
    rw [aCons.ap, h2]
    show ac2 _ ((aCons fc aNil) ds w) = _
    rw [e3]
    rfl
  have e1 : (aCons fa (aCons fb (aCons fc aNil))) ds w = some ([a, b, c], w) := by
    rw [aCons.ap, h1]
    show ac2 _ ((aCons fb (aCons fc aNil)) ds w) = _
    rw [e2]
    rfl
  rw [eCall.ap, e1]
  exact h
theorem da_on (L : L3) (n : Nm) (x0 x2 x3 x4 x5 x6 x7 x8 x9 x10 x11 x14 x15 x16 x18 x19 x20 x21 x22 x23 : Sl) (w : Wd) : (eDAt (eBor 17) (eC (.str n.s))) [x0, .d .draw, x2, x3, x4, x5, x6, x7, x8, x9, x10, x11, .d (.lst [.str Nm.a.s, .str Nm.b.s, .str Nm.c.s]), .d (l3D L), x14, x15, x16, .d (.dk kabc [.lst (rowT L 7 .a), .lst (rowT L 7 .b), .lst (rowT L 7 .c)]), x18, x19, x20, x21, x22, x23] w = some (.lst (rowT L 7 n), w) := by cases n <;> rfl
theorem c15 (L : L3) (hL : L.ok) (x0 x2 x3 x4 x5 x6 x7 x8 x9 x10 x11 x14 x15 x16 x18 x19 x20 x21 x22 x23 : Sl) (w : Wd) : (tOrJ (eTest (eNe (eCall 3 G_loom_numbers (aCons (eVar 13) (aCons (eC (.str "a")) (aCons (eC (.int 7)) aNil)))) (eDAt (eBor 17) (eC (.str "a"))))) (eTest (eNe (eCall 3 G_loom_numbers (aCons (eVar 13) (aCons (eC (.str "b")) (aCons (eC (.int 0)) aNil)))) (eL (fLst (aCons (eC (.int 0)) aNil)))))) [x0, .d .draw, x2, x3, x4, x5, x6, x7, x8, x9, x10, x11, .d (.lst [.str Nm.a.s, .str Nm.b.s, .str Nm.c.s]), .d (l3D L), x14, x15, x16, .d (.dk kabc [.lst (rowT L 7 .a), .lst (rowT L 7 .b), .lst (rowT L 7 .c)]), x18, x19, x20, x21, x22, x23] w = some (false, w) := by
  have n1 := loom_numbers_on L hL .a 7 (by decide) w
  have n2 := loom_numbers_on L hL .b 0 (by decide) w
  have c1 : (eCall 3 G_loom_numbers (aCons (eVar 13) (aCons (eC (.str "a")) (aCons (eC (.int 7)) aNil)))) [x0, .d .draw, x2, x3, x4, x5, x6, x7, x8, x9, x10, x11, .d (.lst [.str Nm.a.s, .str Nm.b.s, .str Nm.c.s]), .d (l3D L), x14, x15, x16, .d (.dk kabc [.lst (rowT L 7 .a), .lst (rowT L 7 .b), .lst (rowT L 7 .c)]), x18, x19, x20, x21, x22, x23] w = some (.lst (rowT L 7 .a), w) := call3_on (a := l3D L) (b := .str "a") (c := .int 7) rfl rfl rfl n1
  have c2 : (eCall 3 G_loom_numbers (aCons (eVar 13) (aCons (eC (.str "b")) (aCons (eC (.int 0)) aNil)))) [x0, .d .draw, x2, x3, x4, x5, x6, x7, x8, x9, x10, x11, .d (.lst [.str Nm.a.s, .str Nm.b.s, .str Nm.c.s]), .d (l3D L), x14, x15, x16, .d (.dk kabc [.lst (rowT L 7 .a), .lst (rowT L 7 .b), .lst (rowT L 7 .c)]), x18, x19, x20, x21, x22, x23] w = some (.lst (rowT L 0 .b), w) := call3_on (a := l3D L) (b := .str "b") (c := .int 0) rfl rfl rfl n2
  have d1 := da_on L .a x0 x2 x3 x4 x5 x6 x7 x8 x9 x10 x11 x14 x15 x16 x18 x19 x20 x21 x22 x23 w
  rw [or_f (by
    have h := rowT_ne L 7 .a .a
    rw [decide_eq_true rfl] at h
    exact ne_on2 c1 d1 h)]
  refine ne_on2 (y := .lst [.int 0]) c2 (by simp [line_eq]) ?_
  rfl
theorem s17 (L : L3) (hL : L.ok) (x0 x2 x3 x4 x5 x6 x7 x8 x9 x10 x11 x14 x15 x16 x18 x19 x20 x21 x22 x23 : Sl) (w : Wd) : ∃ y11, (sFor (iItems (eL (fSl (eDAt (eBor 17) (eC (.str "a"))) (oSo (eC (.int 1))) oNo))) (gN 11) (sSeq (sApp 18 (eAdd (eMul (eC (.int 2)) (eIx (eBor 18) (eNeg (eC (.int 1))))) (eBor 11))) sNil)) [x0, .d .draw, x2, x3, x4, x5, x6, x7, x8, x9, x10, x11, .d (.lst [.str Nm.a.s, .str Nm.b.s, .str Nm.c.s]), .d (l3D L), x14, x15, x16, .d (.dk kabc [.lst (rowT L 7 .a), .lst (rowT L 7 .b), .lst (rowT L 7 .c)]), .own (([0] : List Int).map D.int), x19, x20, x21, x22, x23] w = some (.nx [x0, .d .draw, x2, x3, x4, x5, x6, x7, x8, x9, x10, y11, .d (.lst [.str Nm.a.s, .str Nm.b.s, .str Nm.c.s]), .d (l3D L), x14, x15, x16, .d (.dk kabc [.lst (rowT L 7 .a), .lst (rowT L 7 .b), .lst (rowT L 7 .c)]), .own ((sorF [0] ((rowV L 7 .a).drop 1)).map D.int), x19, x20, x21, x22, x23] w) := by
  have d1 := da_on L .a x0 x2 x3 x4 x5 x6 x7 x8 x9 x10 x11 x14 x15 x16 (.own (([0] : List Int).map D.int)) x19 x20 x21 x22 x23 w
  obtain ⟨y11, e⟩ := sor_law x0 (.d .draw) x2 x3 x4 x5 x6 x7 x8 x9 x10 (.d (.lst [.str Nm.a.s, .str Nm.b.s, .str Nm.c.s])) (.d (l3D L)) x14 x15 x16 (.d (.dk kabc [.lst (rowT L 7 .a), .lst (rowT L 7 .b), .lst (rowT L 7 .c)])) x19 x20 x21 x22 x23 w ((rowV L 7 .a).drop 1) [0] x11 (List.cons_ne_nil _ _) (by
    have := rowV_len L 7 .a
    rw [List.length_drop, this]
    decide)
  refine ⟨y11, ?_⟩
  have src : (iItems (eL (fSl (eDAt (eBor 17) (eC (.str "a"))) (oSo (eC (.int 1))) oNo))) [x0, .d .draw, x2, x3, x4, x5, x6, x7, x8, x9, x10, x11, .d (.lst [.str Nm.a.s, .str Nm.b.s, .str Nm.c.s]), .d (l3D L), x14, x15, x16, .d (.dk kabc [.lst (rowT L 7 .a), .lst (rowT L 7 .b), .lst (rowT L 7 .c)]), .own (([0] : List Int).map D.int), x19, x20, x21, x22, x23] w = some (((rowV L 7 .a).drop 1).map D.int, w) := by
    have d2 : (eDAt (eBor 17) (eC (.str "a"))) [x0, .d .draw, x2, x3, x4, x5, x6, x7, x8, x9, x10, x11, .d (.lst [.str Nm.a.s, .str Nm.b.s, .str Nm.c.s]), .d (l3D L), x14, x15, x16, .d (.dk kabc [.lst (rowT L 7 .a), .lst (rowT L 7 .b), .lst (rowT L 7 .c)]), .own (([0] : List Int).map D.int), x19, x20, x21, x22, x23] w = some (.lst (rowT L 7 .a), w) := d1
    rw [iItems.ap, eL.ap, fSl.ap, d2, rowT_V, List.map_drop, ← cut_from1]
    rfl
  rw [sFor.ap, src]
  exact e
theorem c18 (L : L3) (hL : L.ok) (x0 x2 x3 x4 x5 x6 x7 x8 x9 x10 x11 x14 x15 x16 x18 x19 x20 x21 x22 x23 : Sl) (w : Wd) : (eTest (eNe (eCall 3 G_sorter_numbers (aCons (eVar 13) (aCons (eC (.str "a")) (aCons (eC (.int 7)) aNil)))) (eBor 18))) [x0, .d .draw, x2, x3, x4, x5, x6, x7, x8, x9, x10, x11, .d (.lst [.str Nm.a.s, .str Nm.b.s, .str Nm.c.s]), .d (l3D L), x14, x15, x16, .d (.dk kabc [.lst (rowT L 7 .a), .lst (rowT L 7 .b), .lst (rowT L 7 .c)]), .own ((sorF [0] ((rowV L 7 .a).drop 1)).map D.int), x19, x20, x21, x22, x23] w = some (false, w) := by
  have n1 := sorter_on L hL .a 7 (by decide) w
  have c1 : (eCall 3 G_sorter_numbers (aCons (eVar 13) (aCons (eC (.str "a")) (aCons (eC (.int 7)) aNil)))) [x0, .d .draw, x2, x3, x4, x5, x6, x7, x8, x9, x10, x11, .d (.lst [.str Nm.a.s, .str Nm.b.s, .str Nm.c.s]), .d (l3D L), x14, x15, x16, .d (.dk kabc [.lst (rowT L 7 .a), .lst (rowT L 7 .b), .lst (rowT L 7 .c)]), .own ((sorF [0] ((rowV L 7 .a).drop 1)).map D.int), x19, x20, x21, x22, x23] w = some (.lst ((sorF [0] ((rowV L 7 .a).drop 1)).map D.int), w) := call3_on (a := l3D L) (b := .str "a") (c := .int 7) rfl rfl rfl n1
  refine ne_on2 (y := .lst ((sorF [0] ((rowV L 7 .a).drop 1)).map D.int)) c1 rfl ?_
  rw [neD_ints, decide_eq_true rfl]
  rfl
theorem row_at (L : L3) (n : Nm) (t : Nat) (ht : t < 8) : atI (rowT L 7 n) (t : Int) = some (.int (valT L t n)) := by
  unfold atI
  rw [rowT_len, ixN_nat ht]
  unfold rowT
  simp [ht]
noncomputable abbrev lcZ : Ef := (fLc (iRg (eC (.int 0)) (eC (.int 8))) (gN 20) (eTest (eNe (eIx (eDAt (eBor 17) (eC (.str "a"))) (eBor 20)) (eIx (eDAt (eBor 17) (eC (.str "b"))) (eBor 20)))) (eVar 20) [20])
theorem z_on (L : L3) (x0 x2 x3 x4 x5 x6 x7 x8 x9 x10 x11 x14 x15 x16 x18 x19 x20 x21 x22 x23 : Sl) (w : Wd) : lcZ [x0, .d .draw, x2, x3, x4, x5, x6, x7, x8, x9, x10, x11, .d (.lst [.str Nm.a.s, .str Nm.b.s, .str Nm.c.s]), .d (l3D L), x14, x15, x16, .d (.dk kabc [.lst (rowT L 7 .a), .lst (rowT L 7 .b), .lst (rowT L 7 .c)]), x18, x19, x20, x21, x22, x23] w = some (((List.range 8).filter (badL L)).map natD, w) := by
  have lc : lcGo (gN 20) (eTest (eNe (eIx (eDAt (eBor 17) (eC (.str "a"))) (eBor 20)) (eIx (eDAt (eBor 17) (eC (.str "b"))) (eBor 20)))) (eVar 20) (wipeS [x0, .d .draw, x2, x3, x4, x5, x6, x7, x8, x9, x10, x11, .d (.lst [.str Nm.a.s, .str Nm.b.s, .str Nm.c.s]), .d (l3D L), x14, x15, x16, .d (.dk kabc [.lst (rowT L 7 .a), .lst (rowT L 7 .b), .lst (rowT L 7 .c)]), x18, x19, x20, x21, x22, x23] [20]) ((List.range 8).map natD) w = some (((List.range 8).filter (badL L)).map natD, w) := by
    refine lcGo_filter natD (badL L) natD _ fun t ht => ⟨_, rfl, ?_, fun _ => rfl⟩
    have ht' := List.mem_range.mp ht
    have e1 : (eIx (eDAt (eBor 17) (eC (.str "a"))) (eBor 20)) ((wipeS [x0, .d .draw, x2, x3, x4, x5, x6, x7, x8, x9, x10, x11, .d (.lst [.str Nm.a.s, .str Nm.b.s, .str Nm.c.s]), .d (l3D L), x14, x15, x16, .d (.dk kabc [.lst (rowT L 7 .a), .lst (rowT L 7 .b), .lst (rowT L 7 .c)]), x18, x19, x20, x21, x22, x23] [20]).set 20 (.d (natD t))) w = some (.int (valT L t .a), w) := by
      have h := row_at L .a t ht'
      have d : (eDAt (eBor 17) (eC (.str "a"))) ((wipeS [x0, .d .draw, x2, x3, x4, x5, x6, x7, x8, x9, x10, x11, .d (.lst [.str Nm.a.s, .str Nm.b.s, .str Nm.c.s]), .d (l3D L), x14, x15, x16, .d (.dk kabc [.lst (rowT L 7 .a), .lst (rowT L 7 .b), .lst (rowT L 7 .c)]), x18, x19, x20, x21, x22, x23] [20]).set 20 (.d (natD t))) w = some (.lst (rowT L 7 .a), w) := rfl
      have d2 : (eBor 20) ((wipeS [x0, .d .draw, x2, x3, x4, x5, x6, x7, x8, x9, x10, x11, .d (.lst [.str Nm.a.s, .str Nm.b.s, .str Nm.c.s]), .d (l3D L), x14, x15, x16, .d (.dk kabc [.lst (rowT L 7 .a), .lst (rowT L 7 .b), .lst (rowT L 7 .c)]), x18, x19, x20, x21, x22, x23] [20]).set 20 (.d (natD t))) w = some (natD t, w) := rfl
      rw [eIx.ap, d]
      simp [d2, h]
    have e2 : (eIx (eDAt (eBor 17) (eC (.str "b"))) (eBor 20)) ((wipeS [x0, .d .draw, x2, x3, x4, x5, x6, x7, x8, x9, x10, x11, .d (.lst [.str Nm.a.s, .str Nm.b.s, .str Nm.c.s]), .d (l3D L), x14, x15, x16, .d (.dk kabc [.lst (rowT L 7 .a), .lst (rowT L 7 .b), .lst (rowT L 7 .c)]), x18, x19, x20, x21, x22, x23] [20]).set 20 (.d (natD t))) w = some (.int (valT L t .b), w) := by
      have h := row_at L .b t ht'
      have d : (eDAt (eBor 17) (eC (.str "b"))) ((wipeS [x0, .d .draw, x2, x3, x4, x5, x6, x7, x8, x9, x10, x11, .d (.lst [.str Nm.a.s, .str Nm.b.s, .str Nm.c.s]), .d (l3D L), x14, x15, x16, .d (.dk kabc [.lst (rowT L 7 .a), .lst (rowT L 7 .b), .lst (rowT L 7 .c)]), x18, x19, x20, x21, x22, x23] [20]).set 20 (.d (natD t))) w = some (.lst (rowT L 7 .b), w) := rfl
      have d2 : (eBor 20) ((wipeS [x0, .d .draw, x2, x3, x4, x5, x6, x7, x8, x9, x10, x11, .d (.lst [.str Nm.a.s, .str Nm.b.s, .str Nm.c.s]), .d (l3D L), x14, x15, x16, .d (.dk kabc [.lst (rowT L 7 .a), .lst (rowT L 7 .b), .lst (rowT L 7 .c)]), x18, x19, x20, x21, x22, x23] [20]).set 20 (.d (natD t))) w = some (natD t, w) := rfl
      rw [eIx.ap, d]
      simp [d2, h]
    exact ne_on2 e1 e2 (by rw [neD_int]; rfl)
  have src : iRg (eC (.int 0)) (eC (.int 8)) [x0, .d .draw, x2, x3, x4, x5, x6, x7, x8, x9, x10, x11, .d (.lst [.str Nm.a.s, .str Nm.b.s, .str Nm.c.s]), .d (l3D L), x14, x15, x16, .d (.dk kabc [.lst (rowT L 7 .a), .lst (rowT L 7 .b), .lst (rowT L 7 .c)]), x18, x19, x20, x21, x22, x23] w = some ((List.range 8).map natD, w) := by
    rw [iRg.ap]
    show irF (.int 0) (.int ((8 : Nat) : Int)) w = _
    exact irg0 8 (by decide) w
  exact fLc_ok src lc (by
    have : ((List.range 8).filter (badL L)).length ≤ 8 := Nat.le_trans (List.length_filter_le _ _) (by simp)
    rw [List.length_map]
    unfold line
    omega)
theorem ret_on (L : L3) (hL : L.ok) (x0 x2 x3 x4 x5 x6 x7 x8 x9 x10 x11 x14 x15 x16 x18 x19 x20 x21 x22 x23 : Sl) (w : Wd) : (eEq (eCall 3 G_unlike_doubling (aCons (eVar 13) (aCons (eC (.str "a")) (aCons (eC (.str "b")) aNil)))) (eIf (eTest (eNe (eBor 19) (eL (fLst aNil)))) (eIx (eBor 19) (eC (.int 0))) (eC .non))) [x0, .d .draw, x2, x3, x4, x5, x6, x7, x8, x9, x10, x11, .d (.lst [.str Nm.a.s, .str Nm.b.s, .str Nm.c.s]), .d (l3D L), x14, x15, x16, .d (.dk kabc [.lst (rowT L 7 .a), .lst (rowT L 7 .b), .lst (rowT L 7 .c)]), x18, .d (.lst (((List.range 8).filter (badL L)).map natD)), x20, x21, x22, x23] w = some (.bl true, w) := by
  have u := unlike_doubling_on L hL w
  have c1 : (eCall 3 G_unlike_doubling (aCons (eVar 13) (aCons (eC (.str "a")) (aCons (eC (.str "b")) aNil)))) [x0, .d .draw, x2, x3, x4, x5, x6, x7, x8, x9, x10, x11, .d (.lst [.str Nm.a.s, .str Nm.b.s, .str Nm.c.s]), .d (l3D L), x14, x15, x16, .d (.dk kabc [.lst (rowT L 7 .a), .lst (rowT L 7 .b), .lst (rowT L 7 .c)]), x18, .d (.lst (((List.range 8).filter (badL L)).map natD)), x20, x21, x22, x23] w = some (optD (least (badL L) 8), w) := call3_on (a := l3D L) (b := .str "a") (c := .str "b") rfl rfl rfl u
  rw [← filt_head] at c1
  rw [eEq.ap, c1]
  cases (List.range 8).filter (badL L) with
  | nil => rfl
  | cons t l =>
    have n : (eTest (eNe (eBor 19) (eL (fLst aNil)))) [x0, .d .draw, x2, x3, x4, x5, x6, x7, x8, x9, x10, x11, .d (.lst [.str Nm.a.s, .str Nm.b.s, .str Nm.c.s]), .d (l3D L), x14, x15, x16, .d (.dk kabc [.lst (rowT L 7 .a), .lst (rowT L 7 .b), .lst (rowT L 7 .c)]), x18, .d (.lst ((t :: l).map natD)), x20, x21, x22, x23] w = some (true, w) := by
      refine ne_on2 (x := .lst ((t :: l).map natD)) (y := .lst []) rfl (by simp [line_eq]) ?_
      have h := neD_ints ((t :: l).map fun n : Nat => (n : Int)) []
      rw [List.map_map] at h
      exact h
    have i : (eIx (eBor 19) (eC (.int 0))) [x0, .d .draw, x2, x3, x4, x5, x6, x7, x8, x9, x10, x11, .d (.lst [.str Nm.a.s, .str Nm.b.s, .str Nm.c.s]), .d (l3D L), x14, x15, x16, .d (.dk kabc [.lst (rowT L 7 .a), .lst (rowT L 7 .b), .lst (rowT L 7 .c)]), x18, .d (.lst ((t :: l).map natD)), x20, x21, x22, x23] w = some (natD t, w) := by
      have h : ixN ((t :: l).map natD).length ((0 : Nat) : Int) = some 0 := ixN_nat (by simp)
      have a : atI ((t :: l).map natD) 0 = some (natD t) := by
        unfold atI
        rw [show (0 : Int) = ((0 : Nat) : Int) from rfl, h]
        rfl
      have b : (eBor 19) [x0, .d .draw, x2, x3, x4, x5, x6, x7, x8, x9, x10, x11, .d (.lst [.str Nm.a.s, .str Nm.b.s, .str Nm.c.s]), .d (l3D L), x14, x15, x16, .d (.dk kabc [.lst (rowT L 7 .a), .lst (rowT L 7 .b), .lst (rowT L 7 .c)]), x18, .d (.lst ((t :: l).map natD)), x20, x21, x22, x23] w = some (.lst ((t :: l).map natD), w) := rfl
      rw [eIx.ap, b]
      simp [a]
    have f : (eIf (eTest (eNe (eBor 19) (eL (fLst aNil)))) (eIx (eBor 19) (eC (.int 0))) (eC .non)) [x0, .d .draw, x2, x3, x4, x5, x6, x7, x8, x9, x10, x11, .d (.lst [.str Nm.a.s, .str Nm.b.s, .str Nm.c.s]), .d (l3D L), x14, x15, x16, .d (.dk kabc [.lst (rowT L 7 .a), .lst (rowT L 7 .b), .lst (rowT L 7 .c)]), x18, .d (.lst ((t :: l).map natD)), x20, x21, x22, x23] w = some (natD t, w) := by
      rw [eIf.ap, n]
      exact i
    show bin2 eqD (.int t) (eIf _ _ _ _ w) = _
    rw [f, bin2.on, eqD_int, decide_eq_true rfl]
    rfl
theorem law_on : ∀ ns : List Int, ns.length ≤ 63 → ∃ w', g_law (.no :: .d .draw :: List.replicate 22 .no) ⟨ns, 0⟩ = some (.rt (.bl true) w') := by
  intro ns _
  obtain ⟨A, B0, w1, hA0, hB0, c1, e1⟩ := st1 ⟨ns, 0⟩ (Int.le_refl 0)
  obtain ⟨B, w2, hB, c2, e2⟩ := st2 A B0 hA0 hB0 w1 c1
  have hA := okk3 hA0
  show ∃ w', g_law [.no, .d .draw, .no, .no, .no, .no, .no, .no, .no, .no, .no, .no, .no, .no, .no, .no, .no, .no, .no, .no, .no, .no, .no, .no] ⟨ns, 0⟩ = some (.rt (.bl true) w')
  unfold g_law
  rw [seq_nx e1, seq_nx e2]
  rw [seq_nx (ds2 := [.no, .d .draw, .d (.lst (A.map passD)), .d (.lst (B.map passD)), .d (optD (least (badW A B) 0)), .no, .no, .no, .no, .no, .no, .no, .no, .no, .no, .no, .no, .no, .no, .no, .no, .no, .no, .no]) (w2 := w2) rfl]
  obtain ⟨y5, y6, eA⟩ := loopA A B hA hB .no .no .no .no .no .no .no .no .no .no .no .no .no .no .no .no .no .no w2 40 0 .no .no (by decide)
  rw [seq_nx (ds2 := [.no, .d .draw, .d (.lst (A.map passD)), .d (.lst (B.map passD)), .d (optD (least (badW A B) (0 + 40))), y5, y6, .no, .no, .no, .no, .no, .no, .no, .no, .no, .no, .no, .no, .no, .no, .no, .no, .no]) (w2 := w2) (by
    rw [sFor.ap, show (40 : Int) = ((40 : Nat) : Int) from rfl, irg_c 40 (by decide)]
    exact eA)]
  rw [sif_no (w2 := w2) (by
    have u := unlike_width_on A B hA hB w2
    have c : (eCall 2 G_unlike_width (aCons (eVar 2) (aCons (eVar 3) aNil))) [.no, .d .draw, .d (.lst (A.map passD)), .d (.lst (B.map passD)), .d (optD (least (badW A B) (0 + 40))), y5, y6, .no, .no, .no, .no, .no, .no, .no, .no, .no, .no, .no, .no, .no, .no, .no, .no, .no] w2 = some (optD (least (badW A B) (8 + 2 * perB A B)), w2) := by
      rw [eCall.ap]
      exact u
    exact ne_on2 (y := optD (least (badW A B) 40)) c rfl (ne_opt _ _ (width_same A B hA hB)))]
  obtain ⟨g, eg⟩ := gw_pick w2 c2 [.no, .d .draw, .d (.lst (A.map passD)), .d (.lst (B.map passD)), .d (optD (least (badW A B) (0 + 40))), y5, y6, .no, .no, .no, .no, .no, .no, .no, .no, .no, .no, .no, .no, .no, .no, .no, .no, .no] rfl
  rw [seq_nx (ds2 := [.no, .d .draw, .d (.lst (A.map passD)), .d (.lst (B.map passD)), .d (optD (least (badW A B) (0 + 40))), y5, y6, .d (.str g.side), .d (.int g.many), .no, .no, .no, .no, .no, .no, .no, .no, .no, .no, .no, .no, .no, .no, .no]) (w2 := ⟨w2.ns, w2.c + 1⟩) (by
    rw [sAsg.ap, eg]
    rfl)]
  rw [seq_nx (ds2 := [.no, .d .draw, .d (.lst (A.map passD)), .d (.lst (B.map passD)), .d (optD (least (badW A B) (0 + 40))), y5, y6, .d (.str g.side), .d (.int g.many), .d (optD (least (badG g.many A B) 0)), .d .non, .no, .no, .no, .no, .no, .no, .no, .no, .no, .no, .no, .no, .no]) (w2 := ⟨w2.ns, w2.c + 1⟩) (by
    rw [sAsg.ap, eTup.ap]
    rfl)]
  obtain ⟨z5, y11, eS⟩ := loopS g A B hA hB .no (.d (optD (least (badW A B) (0 + 40)))) (y6) (.d .non) .no .no .no .no .no .no .no .no .no .no .no .no ⟨w2.ns, w2.c + 1⟩ 30 0 y5 .no (by decide)
  rw [seq_nx (ds2 := [.no, .d .draw, .d (.lst (A.map passD)), .d (.lst (B.map passD)), .d (optD (least (badW A B) (0 + 40))), z5, y6, .d (.str g.side), .d (.int g.many), .d (optD (least (badG g.many A B) (0 + 30))), .d .non, y11, .no, .no, .no, .no, .no, .no, .no, .no, .no, .no, .no, .no]) (w2 := ⟨w2.ns, w2.c + 1⟩) (by
    rw [sFor.ap, show (30 : Int) = ((30 : Nat) : Int) from rfl, irg_c 30 (by decide)]
    exact eS)]
  rw [sif_no (w2 := ⟨w2.ns, w2.c + 1⟩) (by
    have u := unlike_growth_on g A B hA hB ⟨w2.ns, w2.c + 1⟩
    exact ne_on2 (y := optD (least (badG g.many A B) 30)) (eCallK_on (a := [.lst (A.map passD), .lst (B.map passD)]) (b := [.str g.side, .int g.many]) rfl rfl rfl rfl u) rfl (ne_opt _ _ rfl))]
  rw [seq_nx (ds2 := [.no, .d .draw, .d (.lst (A.map passD)), .d (.lst (B.map passD)), .d (optD (least (badW A B) (0 + 40))), z5, y6, .d (.str g.side), .d (.int g.many), .d (optD (least (badG g.many A B) (0 + 30))), .d .non, y11, .d (.lst [.str Nm.a.s, .str Nm.b.s, .str Nm.c.s]), .oo (.k [] []), .no, .no, .no, .no, .no, .no, .no, .no, .no, .no]) (w2 := ⟨w2.ns, w2.c + 1⟩) (by
    rw [sPar2.ap]
    rfl)]
  obtain ⟨L, w3, y15, y16, hL, c3, eL3⟩ := loopL .no (.d (.lst (A.map passD))) (.d (.lst (B.map passD))) (.d (optD (least (badW A B) (0 + 40)))) (z5) (y6) (.d (.str g.side)) (.d (.int g.many)) (.d (optD (least (badG g.many A B) (0 + 30)))) (.d .non) (y11) .no .no .no .no .no .no .no .no .no .no ⟨w2.ns, w2.c + 1⟩ (by dsimp only; omega)
  rw [seq_nx (ds2 := [.no, .d .draw, .d (.lst (A.map passD)), .d (.lst (B.map passD)), .d (optD (least (badW A B) (0 + 40))), z5, y6, .d (.str g.side), .d (.int g.many), .d (optD (least (badG g.many A B) (0 + 30))), .d .non, y11, .d (.lst [.str Nm.a.s, .str Nm.b.s, .str Nm.c.s]), .oo (.k kabc [lmD L.a, lmD L.b, lmD L.c]), .d (.str Nm.c.s), y15, y16, .no, .no, .no, .no, .no, .no, .no]) (w2 := w3) (by
    rw [sFor.ap]
    exact eL3)]
  show ∃ w', (sSeq _ _) [.no, .d .draw, .d (.lst (A.map passD)), .d (.lst (B.map passD)), .d (optD (least (badW A B) (0 + 40))), z5, y6, .d (.str g.side), .d (.int g.many), .d (optD (least (badG g.many A B) (0 + 30))), .d .non, y11, .d (.lst [.str Nm.a.s, .str Nm.b.s, .str Nm.c.s]), .d (l3D L), .d (.str Nm.c.s), y15, y16, .no, .no, .no, .no, .no, .no, .no] w3 = _
  rw [seq_nx (ds2 := [.no, .d .draw, .d (.lst (A.map passD)), .d (.lst (B.map passD)), .d (optD (least (badW A B) (0 + 40))), z5, y6, .d (.str g.side), .d (.int g.many), .d (optD (least (badG g.many A B) (0 + 30))), .d .non, y11, .d (.lst [.str Nm.a.s, .str Nm.b.s, .str Nm.c.s]), .d (l3D L), .d (.str Nm.c.s), y15, y16, .oo (.k kabc [.lst (rowT L 7 .a), .lst (rowT L 7 .b), .lst (rowT L 7 .c)]), .no, .no, .no, .no, .no, .no]) (w2 := w3) (by
    have r := rows_on L hL .no (.d (.lst (A.map passD))) (.d (.lst (B.map passD))) (.d (optD (least (badW A B) (0 + 40)))) (z5) (y6) (.d (.str g.side)) (.d (.int g.many)) (.d (optD (least (badG g.many A B) (0 + 30)))) (.d .non) (y11) (.d (.str Nm.c.s)) (y15) (y16) .no .no .no .no .no .no .no w3
    unfold sSetN
    show (nRows _ _).bind _ = _
    rw [r]
    rfl)]
  show ∃ w', (sSeq _ _) [.no, .d .draw, .d (.lst (A.map passD)), .d (.lst (B.map passD)), .d (optD (least (badW A B) (0 + 40))), z5, y6, .d (.str g.side), .d (.int g.many), .d (optD (least (badG g.many A B) (0 + 30))), .d .non, y11, .d (.lst [.str Nm.a.s, .str Nm.b.s, .str Nm.c.s]), .d (l3D L), .d (.str Nm.c.s), y15, y16, .d (.dk kabc [.lst (rowT L 7 .a), .lst (rowT L 7 .b), .lst (rowT L 7 .c)]), .no, .no, .no, .no, .no, .no] w3 = _
  rw [sif_no (c15 L hL .no (.d (.lst (A.map passD))) (.d (.lst (B.map passD))) (.d (optD (least (badW A B) (0 + 40)))) (z5) (y6) (.d (.str g.side)) (.d (.int g.many)) (.d (optD (least (badG g.many A B) (0 + 30)))) (.d .non) (y11) (.d (.str Nm.c.s)) (y15) (y16) .no .no .no .no .no .no w3)]
  rw [seq_nx (ds2 := [.no, .d .draw, .d (.lst (A.map passD)), .d (.lst (B.map passD)), .d (optD (least (badW A B) (0 + 40))), z5, y6, .d (.str g.side), .d (.int g.many), .d (optD (least (badG g.many A B) (0 + 30))), .d .non, y11, .d (.lst [.str Nm.a.s, .str Nm.b.s, .str Nm.c.s]), .d (l3D L), .d (.str Nm.c.s), y15, y16, .d (.dk kabc [.lst (rowT L 7 .a), .lst (rowT L 7 .b), .lst (rowT L 7 .c)]), .own (([0] : List Int).map D.int), .no, .no, .no, .no, .no]) (w2 := w3) (by
    rw [sSetO.ap, fLst.ap]
    rfl)]
  obtain ⟨q11, e17⟩ := s17 L hL .no (.d (.lst (A.map passD))) (.d (.lst (B.map passD))) (.d (optD (least (badW A B) (0 + 40)))) (z5) (y6) (.d (.str g.side)) (.d (.int g.many)) (.d (optD (least (badG g.many A B) (0 + 30)))) (.d .non) (y11) (.d (.str Nm.c.s)) (y15) (y16) (.own (([0] : List Int).map D.int)) .no .no .no .no .no w3
  rw [seq_nx e17]
  rw [sif_no (c18 L hL .no (.d (.lst (A.map passD))) (.d (.lst (B.map passD))) (.d (optD (least (badW A B) (0 + 40)))) (z5) (y6) (.d (.str g.side)) (.d (.int g.many)) (.d (optD (least (badG g.many A B) (0 + 30)))) (.d .non) (q11) (.d (.str Nm.c.s)) (y15) (y16) (.own ((sorF [0] ((rowV L 7 .a).drop 1)).map D.int)) .no .no .no .no .no w3)]
  have ez := z_on L .no (.d (.lst (A.map passD))) (.d (.lst (B.map passD))) (.d (optD (least (badW A B) (0 + 40)))) (z5) (y6) (.d (.str g.side)) (.d (.int g.many)) (.d (optD (least (badG g.many A B) (0 + 30)))) (.d .non) (q11) (.d (.str Nm.c.s)) (y15) (y16) (.own ((sorF [0] ((rowV L 7 .a).drop 1)).map D.int)) .no .no .no .no .no w3
  rw [seq_nx (ds2 := [.no, .d .draw, .d (.lst (A.map passD)), .d (.lst (B.map passD)), .d (optD (least (badW A B) (0 + 40))), z5, y6, .d (.str g.side), .d (.int g.many), .d (optD (least (badG g.many A B) (0 + 30))), .d .non, q11, .d (.lst [.str Nm.a.s, .str Nm.b.s, .str Nm.c.s]), .d (l3D L), .d (.str Nm.c.s), y15, y16, .d (.dk kabc [.lst (rowT L 7 .a), .lst (rowT L 7 .b), .lst (rowT L 7 .c)]), .own ((sorF [0] ((rowV L 7 .a).drop 1)).map D.int), .own (((List.range 8).filter (badL L)).map natD), .no, .no, .no, .no]) (w2 := w3) (by
    rw [sSetO.ap]
    show set2 19 _ (lcZ _ _) = _
    rw [ez]
    rfl)]
  show ∃ w', (sSeq _ _) [.no, .d .draw, .d (.lst (A.map passD)), .d (.lst (B.map passD)), .d (optD (least (badW A B) (0 + 40))), z5, y6, .d (.str g.side), .d (.int g.many), .d (optD (least (badG g.many A B) (0 + 30))), .d .non, q11, .d (.lst [.str Nm.a.s, .str Nm.b.s, .str Nm.c.s]), .d (l3D L), .d (.str Nm.c.s), y15, y16, .d (.dk kabc [.lst (rowT L 7 .a), .lst (rowT L 7 .b), .lst (rowT L 7 .c)]), .own ((sorF [0] ((rowV L 7 .a).drop 1)).map D.int), .d (.lst (((List.range 8).filter (badL L)).map natD)), .no, .no, .no, .no] w3 = _
  have er := ret_on L hL .no (.d (.lst (A.map passD))) (.d (.lst (B.map passD))) (.d (optD (least (badW A B) (0 + 40)))) (z5) (y6) (.d (.str g.side)) (.d (.int g.many)) (.d (optD (least (badG g.many A B) (0 + 30)))) (.d .non) (q11) (.d (.str Nm.c.s)) (y15) (y16) (.own ((sorF [0] ((rowV L 7 .a).drop 1)).map D.int)) (.d (.lst (((List.range 8).filter (badL L)).map natD))) .no .no .no .no w3
  refine ⟨w3, seq_rt ?_⟩
  rw [sRet.ap, er]
  rfl
end K12
namespace K12
open PySem PyProof.Rows L2 J
theorem all_mk {l : PySem.W.OpenLaw} {w : World} {K : PySem.W.Frag} {h : Heap} {mg : Str → Option Value} {fa f_is_whole f_is_title f_is_step f_is_call f_is_loom f_check_looms f_check_name f_is_word f_is_pass f_check_passes f_exchanges f_check_growing f_ends_of f_grown_net f_check_size f_pass_number f_number_at f_common f_period_of f_unlike_width f_grown_number f_unlike_growth f_own_number f_check_doublings f_loom_numbers f_sorter_numbers f_unlike_doubling f__law_cell_at f__law_draw f__law_number f__law_next f__law_pick f__law_pass f__law_number_of f__law_numbers f_law : Addr} (X : K.In h) (G : h.Ns mainGlobals mg) (hfa : mg "law" = some (.ref fa))
    {od_is_whole an_is_whole od_is_title an_is_title od_is_step an_is_step od_is_call an_is_call od_is_loom an_is_loom od_check_looms an_check_looms od_check_name an_check_name od_is_word an_is_word od_is_pass an_is_pass od_check_passes an_check_passes od_exchanges an_exchanges od_check_growing an_check_growing od_ends_of an_ends_of od_grown_net an_grown_net od_check_size an_check_size od_pass_number an_pass_number od_number_at an_number_at od_common an_common od_period_of an_period_of od_unlike_width an_unlike_width od_grown_number an_grown_number od_unlike_growth an_unlike_growth od_own_number an_own_number od_check_doublings an_check_doublings od_loom_numbers an_loom_numbers od_sorter_numbers an_sorter_numbers od_unlike_doubling an_unlike_doubling od__law_cell_at an__law_cell_at od__law_draw an__law_draw od__law_number an__law_number od__law_next an__law_next od__law_pick an__law_pick od__law_pass an__law_pass od__law_number_of an__law_number_of od__law_numbers an__law_numbers od_law an_law : Option Addr} {sl_is_whole sl_is_title sl_is_step sl_is_call sl_is_loom sl_check_looms sl_check_name sl_is_word sl_is_pass sl_check_passes sl_exchanges sl_check_growing sl_ends_of sl_grown_net sl_check_size sl_pass_number sl_number_at sl_common sl_period_of sl_unlike_width sl_grown_number sl_unlike_growth sl_own_number sl_check_doublings sl_loom_numbers sl_sorter_numbers sl_unlike_doubling sl__law_cell_at sl__law_draw sl__law_number sl__law_next sl__law_pick sl__law_pass sl__law_number_of sl__law_numbers sl_law : Array (Option Value)} {oc_is_whole kV_is_whole dc_is_whole pm_is_whole cd_is_whole ct_is_whole oc_is_title kV_is_title dc_is_title pm_is_title cd_is_title ct_is_title oc_is_step kV_is_step dc_is_step pm_is_step cd_is_step ct_is_step oc_is_call kV_is_call dc_is_call pm_is_call cd_is_call ct_is_call oc_is_loom kV_is_loom dc_is_loom pm_is_loom cd_is_loom ct_is_loom oc_check_looms kV_check_looms dc_check_looms pm_check_looms cd_check_looms ct_check_looms oc_check_name kV_check_name dc_check_name pm_check_name cd_check_name ct_check_name oc_is_word kV_is_word dc_is_word pm_is_word cd_is_word ct_is_word oc_is_pass kV_is_pass dc_is_pass pm_is_pass cd_is_pass ct_is_pass oc_check_passes kV_check_passes dc_check_passes pm_check_passes cd_check_passes ct_check_passes oc_exchanges kV_exchanges dc_exchanges pm_exchanges cd_exchanges ct_exchanges oc_check_growing kV_check_growing dc_check_growing pm_check_growing cd_check_growing ct_check_growing oc_ends_of kV_ends_of dc_ends_of pm_ends_of cd_ends_of ct_ends_of oc_grown_net kV_grown_net dc_grown_net pm_grown_net cd_grown_net ct_grown_net oc_check_size kV_check_size dc_check_size pm_check_size cd_check_size ct_check_size oc_pass_number kV_pass_number dc_pass_number pm_pass_number cd_pass_number ct_pass_number oc_number_at kV_number_at dc_number_at pm_number_at cd_number_at ct_number_at oc_common kV_common dc_common pm_common cd_common ct_common oc_period_of kV_period_of dc_period_of pm_period_of cd_period_of ct_period_of oc_unlike_width kV_unlike_width dc_unlike_width pm_unlike_width cd_unlike_width ct_unlike_width oc_grown_number kV_grown_number dc_grown_number pm_grown_number cd_grown_number ct_grown_number oc_unlike_growth kV_unlike_growth dc_unlike_growth pm_unlike_growth cd_unlike_growth ct_unlike_growth oc_own_number kV_own_number dc_own_number pm_own_number cd_own_number ct_own_number oc_check_doublings kV_check_doublings dc_check_doublings pm_check_doublings cd_check_doublings ct_check_doublings oc_loom_numbers kV_loom_numbers dc_loom_numbers pm_loom_numbers cd_loom_numbers ct_loom_numbers oc_sorter_numbers kV_sorter_numbers dc_sorter_numbers pm_sorter_numbers cd_sorter_numbers ct_sorter_numbers oc_unlike_doubling kV_unlike_doubling dc_unlike_doubling pm_unlike_doubling cd_unlike_doubling ct_unlike_doubling oc__law_cell_at kV__law_cell_at dc__law_cell_at pm__law_cell_at cd__law_cell_at ct__law_cell_at oc__law_draw kV__law_draw dc__law_draw pm__law_draw cd__law_draw ct__law_draw oc__law_number kV__law_number dc__law_number pm__law_number cd__law_number ct__law_number oc__law_next kV__law_next dc__law_next pm__law_next cd__law_next ct__law_next oc__law_pick kV__law_pick dc__law_pick pm__law_pick cd__law_pick ct__law_pick oc__law_pass kV__law_pass dc__law_pass pm__law_pass cd__law_pass ct__law_pass oc__law_number_of kV__law_number_of dc__law_number_of pm__law_number_of cd__law_number_of ct__law_number_of oc__law_numbers kV__law_numbers dc__law_numbers pm__law_numbers cd__law_numbers ct__law_numbers oc_law kV_law dc_law pm_law cd_law ct_law : Value}
    (a_is_whole : PySem.W.nsIn K mainGlobals "is_whole" = some (some (.ref f_is_whole))) (l_is_whole : K.lookup f_is_whole = some ⟨oc_is_whole, od_is_whole, .func (PySem.W.fnOf "is_whole" "is_whole" (defArgs s_is_whole) (defBody s_is_whole) (defScope s_is_whole) .none kV_is_whole dc_is_whole pm_is_whole an_is_whole cd_is_whole ct_is_whole), sl_is_whole⟩) (c_is_whole : PySem.W.codeIn K cd_is_whole "is_whole" = true) (k_is_whole : PySem.W.keepIn K (.ref f_is_whole) = true)
    (a_is_title : PySem.W.nsIn K mainGlobals "is_title" = some (some (.ref f_is_title))) (l_is_title : K.lookup f_is_title = some ⟨oc_is_title, od_is_title, .func (PySem.W.fnOf "is_title" "is_title" (defArgs s_is_title) (defBody s_is_title) (defScope s_is_title) .none kV_is_title dc_is_title pm_is_title an_is_title cd_is_title ct_is_title), sl_is_title⟩) (c_is_title : PySem.W.codeIn K cd_is_title "is_title" = true) (k_is_title : PySem.W.keepIn K (.ref f_is_title) = true)
    (a_is_step : PySem.W.nsIn K mainGlobals "is_step" = some (some (.ref f_is_step))) (l_is_step : K.lookup f_is_step = some ⟨oc_is_step, od_is_step, .func (PySem.W.fnOf "is_step" "is_step" (defArgs s_is_step) (defBody s_is_step) (defScope s_is_step) .none kV_is_step dc_is_step pm_is_step an_is_step cd_is_step ct_is_step), sl_is_step⟩) (c_is_step : PySem.W.codeIn K cd_is_step "is_step" = true) (k_is_step : PySem.W.keepIn K (.ref f_is_step) = true)
    (a_is_call : PySem.W.nsIn K mainGlobals "is_call" = some (some (.ref f_is_call))) (l_is_call : K.lookup f_is_call = some ⟨oc_is_call, od_is_call, .func (PySem.W.fnOf "is_call" "is_call" (defArgs s_is_call) (defBody s_is_call) (defScope s_is_call) .none kV_is_call dc_is_call pm_is_call an_is_call cd_is_call ct_is_call), sl_is_call⟩) (c_is_call : PySem.W.codeIn K cd_is_call "is_call" = true) (k_is_call : PySem.W.keepIn K (.ref f_is_call) = true)
    (a_is_loom : PySem.W.nsIn K mainGlobals "is_loom" = some (some (.ref f_is_loom))) (l_is_loom : K.lookup f_is_loom = some ⟨oc_is_loom, od_is_loom, .func (PySem.W.fnOf "is_loom" "is_loom" (defArgs s_is_loom) (defBody s_is_loom) (defScope s_is_loom) .none kV_is_loom dc_is_loom pm_is_loom an_is_loom cd_is_loom ct_is_loom), sl_is_loom⟩) (c_is_loom : PySem.W.codeIn K cd_is_loom "is_loom" = true) (k_is_loom : PySem.W.keepIn K (.ref f_is_loom) = true)
    (a_check_looms : PySem.W.nsIn K mainGlobals "check_looms" = some (some (.ref f_check_looms))) (l_check_looms : K.lookup f_check_looms = some ⟨oc_check_looms, od_check_looms, .func (PySem.W.fnOf "check_looms" "check_looms" (defArgs s_check_looms) (defBody s_check_looms) (defScope s_check_looms) .none kV_check_looms dc_check_looms pm_check_looms an_check_looms cd_check_looms ct_check_looms), sl_check_looms⟩) (c_check_looms : PySem.W.codeIn K cd_check_looms "check_looms" = true) (k_check_looms : PySem.W.keepIn K (.ref f_check_looms) = true)
    (a_check_name : PySem.W.nsIn K mainGlobals "check_name" = some (some (.ref f_check_name))) (l_check_name : K.lookup f_check_name = some ⟨oc_check_name, od_check_name, .func (PySem.W.fnOf "check_name" "check_name" (defArgs s_check_name) (defBody s_check_name) (defScope s_check_name) .none kV_check_name dc_check_name pm_check_name an_check_name cd_check_name ct_check_name), sl_check_name⟩) (c_check_name : PySem.W.codeIn K cd_check_name "check_name" = true) (k_check_name : PySem.W.keepIn K (.ref f_check_name) = true)
    (a_is_word : PySem.W.nsIn K mainGlobals "is_word" = some (some (.ref f_is_word))) (l_is_word : K.lookup f_is_word = some ⟨oc_is_word, od_is_word, .func (PySem.W.fnOf "is_word" "is_word" (defArgs s_is_word) (defBody s_is_word) (defScope s_is_word) .none kV_is_word dc_is_word pm_is_word an_is_word cd_is_word ct_is_word), sl_is_word⟩) (c_is_word : PySem.W.codeIn K cd_is_word "is_word" = true) (k_is_word : PySem.W.keepIn K (.ref f_is_word) = true)
    (a_is_pass : PySem.W.nsIn K mainGlobals "is_pass" = some (some (.ref f_is_pass))) (l_is_pass : K.lookup f_is_pass = some ⟨oc_is_pass, od_is_pass, .func (PySem.W.fnOf "is_pass" "is_pass" (defArgs s_is_pass) (defBody s_is_pass) (defScope s_is_pass) .none kV_is_pass dc_is_pass pm_is_pass an_is_pass cd_is_pass ct_is_pass), sl_is_pass⟩) (c_is_pass : PySem.W.codeIn K cd_is_pass "is_pass" = true) (k_is_pass : PySem.W.keepIn K (.ref f_is_pass) = true)
    (a_check_passes : PySem.W.nsIn K mainGlobals "check_passes" = some (some (.ref f_check_passes))) (l_check_passes : K.lookup f_check_passes = some ⟨oc_check_passes, od_check_passes, .func (PySem.W.fnOf "check_passes" "check_passes" (defArgs s_check_passes) (defBody s_check_passes) (defScope s_check_passes) .none kV_check_passes dc_check_passes pm_check_passes an_check_passes cd_check_passes ct_check_passes), sl_check_passes⟩) (c_check_passes : PySem.W.codeIn K cd_check_passes "check_passes" = true) (k_check_passes : PySem.W.keepIn K (.ref f_check_passes) = true)
    (a_exchanges : PySem.W.nsIn K mainGlobals "exchanges" = some (some (.ref f_exchanges))) (l_exchanges : K.lookup f_exchanges = some ⟨oc_exchanges, od_exchanges, .func (PySem.W.fnOf "exchanges" "exchanges" (defArgs s_exchanges) (defBody s_exchanges) (defScope s_exchanges) .none kV_exchanges dc_exchanges pm_exchanges an_exchanges cd_exchanges ct_exchanges), sl_exchanges⟩) (c_exchanges : PySem.W.codeIn K cd_exchanges "exchanges" = true) (k_exchanges : PySem.W.keepIn K (.ref f_exchanges) = true)
    (a_check_growing : PySem.W.nsIn K mainGlobals "check_growing" = some (some (.ref f_check_growing))) (l_check_growing : K.lookup f_check_growing = some ⟨oc_check_growing, od_check_growing, .func (PySem.W.fnOf "check_growing" "check_growing" (defArgs s_check_growing) (defBody s_check_growing) (defScope s_check_growing) .none kV_check_growing dc_check_growing pm_check_growing an_check_growing cd_check_growing ct_check_growing), sl_check_growing⟩) (c_check_growing : PySem.W.codeIn K cd_check_growing "check_growing" = true) (k_check_growing : PySem.W.keepIn K (.ref f_check_growing) = true)
    (a_ends_of : PySem.W.nsIn K mainGlobals "ends_of" = some (some (.ref f_ends_of))) (l_ends_of : K.lookup f_ends_of = some ⟨oc_ends_of, od_ends_of, .func (PySem.W.fnOf "ends_of" "ends_of" (defArgs s_ends_of) (defBody s_ends_of) (defScope s_ends_of) .none kV_ends_of dc_ends_of pm_ends_of an_ends_of cd_ends_of ct_ends_of), sl_ends_of⟩) (c_ends_of : PySem.W.codeIn K cd_ends_of "ends_of" = true) (k_ends_of : PySem.W.keepIn K (.ref f_ends_of) = true)
    (a_grown_net : PySem.W.nsIn K mainGlobals "grown_net" = some (some (.ref f_grown_net))) (l_grown_net : K.lookup f_grown_net = some ⟨oc_grown_net, od_grown_net, .func (PySem.W.fnOf "grown_net" "grown_net" (defArgs s_grown_net) (defBody s_grown_net) (defScope s_grown_net) .none kV_grown_net dc_grown_net pm_grown_net an_grown_net cd_grown_net ct_grown_net), sl_grown_net⟩) (c_grown_net : PySem.W.codeIn K cd_grown_net "grown_net" = true) (k_grown_net : PySem.W.keepIn K (.ref f_grown_net) = true)
    (a_check_size : PySem.W.nsIn K mainGlobals "check_size" = some (some (.ref f_check_size))) (l_check_size : K.lookup f_check_size = some ⟨oc_check_size, od_check_size, .func (PySem.W.fnOf "check_size" "check_size" (defArgs s_check_size) (defBody s_check_size) (defScope s_check_size) .none kV_check_size dc_check_size pm_check_size an_check_size cd_check_size ct_check_size), sl_check_size⟩) (c_check_size : PySem.W.codeIn K cd_check_size "check_size" = true) (k_check_size : PySem.W.keepIn K (.ref f_check_size) = true)
    (a_pass_number : PySem.W.nsIn K mainGlobals "pass_number" = some (some (.ref f_pass_number))) (l_pass_number : K.lookup f_pass_number = some ⟨oc_pass_number, od_pass_number, .func (PySem.W.fnOf "pass_number" "pass_number" (defArgs s_pass_number) (defBody s_pass_number) (defScope s_pass_number) .none kV_pass_number dc_pass_number pm_pass_number an_pass_number cd_pass_number ct_pass_number), sl_pass_number⟩) (c_pass_number : PySem.W.codeIn K cd_pass_number "pass_number" = true) (k_pass_number : PySem.W.keepIn K (.ref f_pass_number) = true)
    (a_number_at : PySem.W.nsIn K mainGlobals "number_at" = some (some (.ref f_number_at))) (l_number_at : K.lookup f_number_at = some ⟨oc_number_at, od_number_at, .func (PySem.W.fnOf "number_at" "number_at" (defArgs s_number_at) (defBody s_number_at) (defScope s_number_at) .none kV_number_at dc_number_at pm_number_at an_number_at cd_number_at ct_number_at), sl_number_at⟩) (c_number_at : PySem.W.codeIn K cd_number_at "number_at" = true) (k_number_at : PySem.W.keepIn K (.ref f_number_at) = true)
    (a_common : PySem.W.nsIn K mainGlobals "common" = some (some (.ref f_common))) (l_common : K.lookup f_common = some ⟨oc_common, od_common, .func (PySem.W.fnOf "common" "common" (defArgs s_common) (defBody s_common) (defScope s_common) .none kV_common dc_common pm_common an_common cd_common ct_common), sl_common⟩) (c_common : PySem.W.codeIn K cd_common "common" = true) (k_common : PySem.W.keepIn K (.ref f_common) = true)
    (a_period_of : PySem.W.nsIn K mainGlobals "period_of" = some (some (.ref f_period_of))) (l_period_of : K.lookup f_period_of = some ⟨oc_period_of, od_period_of, .func (PySem.W.fnOf "period_of" "period_of" (defArgs s_period_of) (defBody s_period_of) (defScope s_period_of) .none kV_period_of dc_period_of pm_period_of an_period_of cd_period_of ct_period_of), sl_period_of⟩) (c_period_of : PySem.W.codeIn K cd_period_of "period_of" = true) (k_period_of : PySem.W.keepIn K (.ref f_period_of) = true)
    (a_unlike_width : PySem.W.nsIn K mainGlobals "unlike_width" = some (some (.ref f_unlike_width))) (l_unlike_width : K.lookup f_unlike_width = some ⟨oc_unlike_width, od_unlike_width, .func (PySem.W.fnOf "unlike_width" "unlike_width" (defArgs s_unlike_width) (defBody s_unlike_width) (defScope s_unlike_width) .none kV_unlike_width dc_unlike_width pm_unlike_width an_unlike_width cd_unlike_width ct_unlike_width), sl_unlike_width⟩) (c_unlike_width : PySem.W.codeIn K cd_unlike_width "unlike_width" = true) (k_unlike_width : PySem.W.keepIn K (.ref f_unlike_width) = true)
    (a_grown_number : PySem.W.nsIn K mainGlobals "grown_number" = some (some (.ref f_grown_number))) (l_grown_number : K.lookup f_grown_number = some ⟨oc_grown_number, od_grown_number, .func (PySem.W.fnOf "grown_number" "grown_number" (defArgs s_grown_number) (defBody s_grown_number) (defScope s_grown_number) .none kV_grown_number dc_grown_number pm_grown_number an_grown_number cd_grown_number ct_grown_number), sl_grown_number⟩) (c_grown_number : PySem.W.codeIn K cd_grown_number "grown_number" = true) (k_grown_number : PySem.W.keepIn K (.ref f_grown_number) = true)
    (a_unlike_growth : PySem.W.nsIn K mainGlobals "unlike_growth" = some (some (.ref f_unlike_growth))) (l_unlike_growth : K.lookup f_unlike_growth = some ⟨oc_unlike_growth, od_unlike_growth, .func (PySem.W.fnOf "unlike_growth" "unlike_growth" (defArgs s_unlike_growth) (defBody s_unlike_growth) (defScope s_unlike_growth) .none kV_unlike_growth dc_unlike_growth pm_unlike_growth an_unlike_growth cd_unlike_growth ct_unlike_growth), sl_unlike_growth⟩) (c_unlike_growth : PySem.W.codeIn K cd_unlike_growth "unlike_growth" = true) (k_unlike_growth : PySem.W.keepIn K (.ref f_unlike_growth) = true)
    (a_own_number : PySem.W.nsIn K mainGlobals "own_number" = some (some (.ref f_own_number))) (l_own_number : K.lookup f_own_number = some ⟨oc_own_number, od_own_number, .func (PySem.W.fnOf "own_number" "own_number" (defArgs s_own_number) (defBody s_own_number) (defScope s_own_number) .none kV_own_number dc_own_number pm_own_number an_own_number cd_own_number ct_own_number), sl_own_number⟩) (c_own_number : PySem.W.codeIn K cd_own_number "own_number" = true) (k_own_number : PySem.W.keepIn K (.ref f_own_number) = true)
    (a_check_doublings : PySem.W.nsIn K mainGlobals "check_doublings" = some (some (.ref f_check_doublings))) (l_check_doublings : K.lookup f_check_doublings = some ⟨oc_check_doublings, od_check_doublings, .func (PySem.W.fnOf "check_doublings" "check_doublings" (defArgs s_check_doublings) (defBody s_check_doublings) (defScope s_check_doublings) .none kV_check_doublings dc_check_doublings pm_check_doublings an_check_doublings cd_check_doublings ct_check_doublings), sl_check_doublings⟩) (c_check_doublings : PySem.W.codeIn K cd_check_doublings "check_doublings" = true) (k_check_doublings : PySem.W.keepIn K (.ref f_check_doublings) = true)
    (a_loom_numbers : PySem.W.nsIn K mainGlobals "loom_numbers" = some (some (.ref f_loom_numbers))) (l_loom_numbers : K.lookup f_loom_numbers = some ⟨oc_loom_numbers, od_loom_numbers, .func (PySem.W.fnOf "loom_numbers" "loom_numbers" (defArgs s_loom_numbers) (defBody s_loom_numbers) (defScope s_loom_numbers) .none kV_loom_numbers dc_loom_numbers pm_loom_numbers an_loom_numbers cd_loom_numbers ct_loom_numbers), sl_loom_numbers⟩) (c_loom_numbers : PySem.W.codeIn K cd_loom_numbers "loom_numbers" = true) (k_loom_numbers : PySem.W.keepIn K (.ref f_loom_numbers) = true)
    (a_sorter_numbers : PySem.W.nsIn K mainGlobals "sorter_numbers" = some (some (.ref f_sorter_numbers))) (l_sorter_numbers : K.lookup f_sorter_numbers = some ⟨oc_sorter_numbers, od_sorter_numbers, .func (PySem.W.fnOf "sorter_numbers" "sorter_numbers" (defArgs s_sorter_numbers) (defBody s_sorter_numbers) (defScope s_sorter_numbers) .none kV_sorter_numbers dc_sorter_numbers pm_sorter_numbers an_sorter_numbers cd_sorter_numbers ct_sorter_numbers), sl_sorter_numbers⟩) (c_sorter_numbers : PySem.W.codeIn K cd_sorter_numbers "sorter_numbers" = true) (k_sorter_numbers : PySem.W.keepIn K (.ref f_sorter_numbers) = true)
    (a_unlike_doubling : PySem.W.nsIn K mainGlobals "unlike_doubling" = some (some (.ref f_unlike_doubling))) (l_unlike_doubling : K.lookup f_unlike_doubling = some ⟨oc_unlike_doubling, od_unlike_doubling, .func (PySem.W.fnOf "unlike_doubling" "unlike_doubling" (defArgs s_unlike_doubling) (defBody s_unlike_doubling) (defScope s_unlike_doubling) .none kV_unlike_doubling dc_unlike_doubling pm_unlike_doubling an_unlike_doubling cd_unlike_doubling ct_unlike_doubling), sl_unlike_doubling⟩) (c_unlike_doubling : PySem.W.codeIn K cd_unlike_doubling "unlike_doubling" = true) (k_unlike_doubling : PySem.W.keepIn K (.ref f_unlike_doubling) = true)
    (a__law_cell_at : PySem.W.nsIn K mainGlobals "_law_cell_at" = some (some (.ref f__law_cell_at))) (l__law_cell_at : K.lookup f__law_cell_at = some ⟨oc__law_cell_at, od__law_cell_at, .func (PySem.W.fnOf "_law_cell_at" "_law_cell_at" (defArgs s__law_cell_at) (defBody s__law_cell_at) (defScope s__law_cell_at) .none kV__law_cell_at dc__law_cell_at pm__law_cell_at an__law_cell_at cd__law_cell_at ct__law_cell_at), sl__law_cell_at⟩) (c__law_cell_at : PySem.W.codeIn K cd__law_cell_at "_law_cell_at" = true) (k__law_cell_at : PySem.W.keepIn K (.ref f__law_cell_at) = true)
    (a__law_draw : PySem.W.nsIn K mainGlobals "_law_draw" = some (some (.ref f__law_draw))) (l__law_draw : K.lookup f__law_draw = some ⟨oc__law_draw, od__law_draw, .func (PySem.W.fnOf "_law_draw" "_law_draw" (defArgs s__law_draw) (defBody s__law_draw) (defScope s__law_draw) .none kV__law_draw dc__law_draw pm__law_draw an__law_draw cd__law_draw ct__law_draw), sl__law_draw⟩) (c__law_draw : PySem.W.codeIn K cd__law_draw "_law_draw" = true) (k__law_draw : PySem.W.keepIn K (.ref f__law_draw) = true)
    (a__law_number : PySem.W.nsIn K mainGlobals "_law_number" = some (some (.ref f__law_number))) (l__law_number : K.lookup f__law_number = some ⟨oc__law_number, od__law_number, .func (PySem.W.fnOf "_law_number" "_law_number" (defArgs s__law_number) (defBody s__law_number) (defScope s__law_number) .none kV__law_number dc__law_number pm__law_number an__law_number cd__law_number ct__law_number), sl__law_number⟩) (c__law_number : PySem.W.codeIn K cd__law_number "_law_number" = true) (k__law_number : PySem.W.keepIn K (.ref f__law_number) = true)
    (a__law_next : PySem.W.nsIn K mainGlobals "_law_next" = some (some (.ref f__law_next))) (l__law_next : K.lookup f__law_next = some ⟨oc__law_next, od__law_next, .func (PySem.W.fnOf "_law_next" "_law_next" (defArgs s__law_next) (defBody s__law_next) (defScope s__law_next) .none kV__law_next dc__law_next pm__law_next an__law_next cd__law_next ct__law_next), sl__law_next⟩) (c__law_next : PySem.W.codeIn K cd__law_next "_law_next" = true) (k__law_next : PySem.W.keepIn K (.ref f__law_next) = true)
    (a__law_pick : PySem.W.nsIn K mainGlobals "_law_pick" = some (some (.ref f__law_pick))) (l__law_pick : K.lookup f__law_pick = some ⟨oc__law_pick, od__law_pick, .func (PySem.W.fnOf "_law_pick" "_law_pick" (defArgs s__law_pick) (defBody s__law_pick) (defScope s__law_pick) .none kV__law_pick dc__law_pick pm__law_pick an__law_pick cd__law_pick ct__law_pick), sl__law_pick⟩) (c__law_pick : PySem.W.codeIn K cd__law_pick "_law_pick" = true) (k__law_pick : PySem.W.keepIn K (.ref f__law_pick) = true)
    (a__law_pass : PySem.W.nsIn K mainGlobals "_law_pass" = some (some (.ref f__law_pass))) (l__law_pass : K.lookup f__law_pass = some ⟨oc__law_pass, od__law_pass, .func (PySem.W.fnOf "_law_pass" "_law_pass" (defArgs s__law_pass) (defBody s__law_pass) (defScope s__law_pass) .none kV__law_pass dc__law_pass pm__law_pass an__law_pass cd__law_pass ct__law_pass), sl__law_pass⟩) (c__law_pass : PySem.W.codeIn K cd__law_pass "_law_pass" = true) (k__law_pass : PySem.W.keepIn K (.ref f__law_pass) = true)
    (a__law_number_of : PySem.W.nsIn K mainGlobals "_law_number_of" = some (some (.ref f__law_number_of))) (l__law_number_of : K.lookup f__law_number_of = some ⟨oc__law_number_of, od__law_number_of, .func (PySem.W.fnOf "_law_number_of" "_law_number_of" (defArgs s__law_number_of) (defBody s__law_number_of) (defScope s__law_number_of) .none kV__law_number_of dc__law_number_of pm__law_number_of an__law_number_of cd__law_number_of ct__law_number_of), sl__law_number_of⟩) (c__law_number_of : PySem.W.codeIn K cd__law_number_of "_law_number_of" = true) (k__law_number_of : PySem.W.keepIn K (.ref f__law_number_of) = true)
    (a__law_numbers : PySem.W.nsIn K mainGlobals "_law_numbers" = some (some (.ref f__law_numbers))) (l__law_numbers : K.lookup f__law_numbers = some ⟨oc__law_numbers, od__law_numbers, .func (PySem.W.fnOf "_law_numbers" "_law_numbers" (defArgs s__law_numbers) (defBody s__law_numbers) (defScope s__law_numbers) .none kV__law_numbers dc__law_numbers pm__law_numbers an__law_numbers cd__law_numbers ct__law_numbers), sl__law_numbers⟩) (c__law_numbers : PySem.W.codeIn K cd__law_numbers "_law_numbers" = true) (k__law_numbers : PySem.W.keepIn K (.ref f__law_numbers) = true)
    (a_law : PySem.W.nsIn K mainGlobals "law" = some (some (.ref f_law))) (l_law : K.lookup f_law = some ⟨oc_law, od_law, .func (PySem.W.fnOf "law" "law" (defArgs s_law) (defBody s_law) (defScope s_law) .none kV_law dc_law pm_law an_law cd_law ct_law), sl_law⟩) (c_law : PySem.W.codeIn K cd_law "law" = true) (k_law : PySem.W.keepIn K (.ref f_law) = true)
    (z_all : PySem.W.nsIn K mainGlobals "all" = some none)
    (z_any : PySem.W.nsIn K mainGlobals "any" = some none)
    (z_bool : PySem.W.nsIn K mainGlobals "bool" = some none)
    (z_dict : PySem.W.nsIn K mainGlobals "dict" = some none)
    (z_enumerate : PySem.W.nsIn K mainGlobals "enumerate" = some none)
    (z_int : PySem.W.nsIn K mainGlobals "int" = some none)
    (z_isinstance : PySem.W.nsIn K mainGlobals "isinstance" = some none)
    (z_len : PySem.W.nsIn K mainGlobals "len" = some none)
    (z_list : PySem.W.nsIn K mainGlobals "list" = some none)
    (z_max : PySem.W.nsIn K mainGlobals "max" = some none)
    (z_range : PySem.W.nsIn K mainGlobals "range" = some none)
    (z_sorted : PySem.W.nsIn K mainGlobals "sorted" = some none)
    (z_str : PySem.W.nsIn K mainGlobals "str" = some none)
    (z_sum : PySem.W.nsIn K mainGlobals "sum" = some none)
    (z_tuple : PySem.W.nsIn K mainGlobals "tuple" = some none)
    (z_zip : PySem.W.nsIn K mainGlobals "zip" = some none)
    {t0 : Tok} (y_LETTERS : PySem.W.nsIn K mainGlobals "LETTERS" = some (some (.str "abcdefghijklmnopqrstuvwxyz" t0)))
    {t1 : Tok} (y_MOST_GROWN : PySem.W.nsIn K mainGlobals "MOST_GROWN" = some (some (.int 2000 t1)))
    {t2 : Tok} (y_MOST_LOOMS : PySem.W.nsIn K mainGlobals "MOST_LOOMS" = some (some (.int 8 t2)))
    {t3 : Tok} (y_MOST_SIZE : PySem.W.nsIn K mainGlobals "MOST_SIZE" = some (some (.int 1000000 t3)))
    {t4 : Tok} (y_MOST_STEP : PySem.W.nsIn K mainGlobals "MOST_STEP" = some (some (.int 6 t4)))
    {t5 : Tok} (y_MOST_STEPS : PySem.W.nsIn K mainGlobals "MOST_STEPS" = some (some (.int 12 t5)))
    {t6 : Tok} (y_MOST_WIDTH : PySem.W.nsIn K mainGlobals "MOST_WIDTH" = some (some (.int 300 t6)))
    {t8 t9 : Tok} {r7 : Addr} {ro7 : Option Addr} {rs7 : Array (Option Value)} {rn7 : Nat} (y_ORDERS_doubles : PySem.W.nsIn K mainGlobals "ORDERS_doubles" = some (some (.ref r7)))
    (u7 : K.lookup r7 = some ⟨.type "tuple", ro7, .seq #[(.str "up" t8 : Value), (.str "down" t9 : Value)] rn7, rs7⟩)
    {t11 t12 : Tok} {r10 : Addr} {ro10 : Option Addr} {rs10 : Array (Option Value)} {rn10 : Nat} (y_ORDERS_passes : PySem.W.nsIn K mainGlobals "ORDERS_passes" = some (some (.ref r10)))
    (u10 : K.lookup r10 = some ⟨.type "tuple", ro10, .seq #[(.str "up" t11 : Value), (.str "down" t12 : Value)] rn10, rs10⟩)
    {t14 t15 t16 t17 : Tok} {r13 : Addr} {ro13 : Option Addr} {rs13 : Array (Option Value)} {rn13 : Nat} (y_SIDES_doubles : PySem.W.nsIn K mainGlobals "SIDES_doubles" = some (some (.ref r13)))
    (u13 : K.lookup r13 = some ⟨.type "tuple", ro13, .seq #[(.str "left" t14 : Value), (.str "right" t15 : Value), (.str "both" t16 : Value), (.str "all" t17 : Value)] rn13, rs13⟩)
    {t19 t20 t21 : Tok} {r18 : Addr} {ro18 : Option Addr} {rs18 : Array (Option Value)} {rn18 : Nat} (y_SIDES_growing : PySem.W.nsIn K mainGlobals "SIDES_growing" = some (some (.ref r18)))
    (u18 : K.lookup r18 = some ⟨.type "tuple", ro18, .seq #[(.str "right" t19 : Value), (.str "left" t20 : Value), (.str "both" t21 : Value)] rn18, rs18⟩)
    {t23 t24 : Tok} {r22 : Addr} {ro22 : Option Addr} {rs22 : Array (Option Value)} {rn22 : Nat} (y_WAYS : PySem.W.nsIn K mainGlobals "WAYS" = some (some (.ref r22)))
    (u22 : K.lookup r22 = some ⟨.type "tuple", ro22, .seq #[(.str "right" t23 : Value), (.str "left" t24 : Value)] rn22, rs22⟩)
    : ∃ fd : FuncData, (∀ (s : Shared) (v : Value), BindsTo s fd ⟨[v], []⟩ [("_law_script", v)]) ∧ ∀ base : Heap, K.In base → base.Ns mainGlobals mg → FnOk l.prog w K mg base CX0 13 fa fd ["_law_script"] (spLaw K) := by
  have e := hfa.symm.trans (PySem.W.mg_of X G a_law)
  cases e
  have T : Txt K mg := ⟨PySem.W.mg_none_of X G z_all, PySem.W.mg_none_of X G z_any, PySem.W.mg_none_of X G z_bool, PySem.W.mg_none_of X G z_dict, PySem.W.mg_none_of X G z_enumerate, PySem.W.mg_none_of X G z_int, PySem.W.mg_none_of X G z_isinstance, PySem.W.mg_none_of X G z_len, PySem.W.mg_none_of X G z_list, PySem.W.mg_none_of X G z_max, PySem.W.mg_none_of X G z_range, PySem.W.mg_none_of X G z_sorted, PySem.W.mg_none_of X G z_str, PySem.W.mg_none_of X G z_sum, PySem.W.mg_none_of X G z_tuple, PySem.W.mg_none_of X G z_zip, ⟨V.str "abcdefghijklmnopqrstuvwxyz", _, PySem.W.mg_of X G y_LETTERS, ⟨t0, rfl⟩, fun p F => rfl⟩, ⟨V.int 2000, _, PySem.W.mg_of X G y_MOST_GROWN, ⟨t1, rfl⟩, fun p F => rfl⟩, ⟨V.int 8, _, PySem.W.mg_of X G y_MOST_LOOMS, ⟨t2, rfl⟩, fun p F => rfl⟩, ⟨V.int 1000000, _, PySem.W.mg_of X G y_MOST_SIZE, ⟨t3, rfl⟩, fun p F => rfl⟩, ⟨V.int 6, _, PySem.W.mg_of X G y_MOST_STEP, ⟨t4, rfl⟩, fun p F => rfl⟩, ⟨V.int 12, _, PySem.W.mg_of X G y_MOST_STEPS, ⟨t5, rfl⟩, fun p F => rfl⟩, ⟨V.int 300, _, PySem.W.mg_of X G y_MOST_WIDTH, ⟨t6, rfl⟩, fun p F => rfl⟩, ⟨V.ref r7, _, PySem.W.mg_of X G y_ORDERS_doubles, rfl, fun p F => ⟨r7, [V.str "up", V.str "down"], rfl, .inr (.inr ⟨_, _, _, u7, rfl, rfl, (show (2 : Nat) ≤ sizeLine by decide), (.cons (⟨t8, rfl⟩) (.cons (⟨t9, rfl⟩) .nil))⟩), ⟨_, _, rfl, rfl, ⟨_, _, rfl, rfl, rfl⟩⟩⟩⟩, ⟨V.ref r10, _, PySem.W.mg_of X G y_ORDERS_passes, rfl, fun p F => ⟨r10, [V.str "up", V.str "down"], rfl, .inr (.inr ⟨_, _, _, u10, rfl, rfl, (show (2 : Nat) ≤ sizeLine by decide), (.cons (⟨t11, rfl⟩) (.cons (⟨t12, rfl⟩) .nil))⟩), ⟨_, _, rfl, rfl, ⟨_, _, rfl, rfl, rfl⟩⟩⟩⟩, ⟨V.ref r13, _, PySem.W.mg_of X G y_SIDES_doubles, rfl, fun p F => ⟨r13, [V.str "left", V.str "right", V.str "both", V.str "all"], rfl, .inr (.inr ⟨_, _, _, u13, rfl, rfl, (show (4 : Nat) ≤ sizeLine by decide), (.cons (⟨t14, rfl⟩) (.cons (⟨t15, rfl⟩) (.cons (⟨t16, rfl⟩) (.cons (⟨t17, rfl⟩) .nil))))⟩), ⟨_, _, rfl, rfl, ⟨_, _, rfl, rfl, ⟨_, _, rfl, rfl, ⟨_, _, rfl, rfl, rfl⟩⟩⟩⟩⟩⟩, ⟨V.ref r18, _, PySem.W.mg_of X G y_SIDES_growing, rfl, fun p F => ⟨r18, [V.str "right", V.str "left", V.str "both"], rfl, .inr (.inr ⟨_, _, _, u18, rfl, rfl, (show (3 : Nat) ≤ sizeLine by decide), (.cons (⟨t19, rfl⟩) (.cons (⟨t20, rfl⟩) (.cons (⟨t21, rfl⟩) .nil)))⟩), ⟨_, _, rfl, rfl, ⟨_, _, rfl, rfl, ⟨_, _, rfl, rfl, rfl⟩⟩⟩⟩⟩, ⟨V.ref r22, _, PySem.W.mg_of X G y_WAYS, rfl, fun p F => ⟨r22, [V.str "right", V.str "left"], rfl, .inr (.inr ⟨_, _, _, u22, rfl, rfl, (show (2 : Nat) ≤ sizeLine by decide), (.cons (⟨t23, rfl⟩) (.cons (⟨t24, rfl⟩) .nil))⟩), ⟨_, _, rfl, rfl, ⟨_, _, rfl, rfl, rfl⟩⟩⟩⟩⟩
  have F_is_whole := fun_mk (st := s_is_whole) l_is_whole c_is_whole k_is_whole
  have b_is_whole := F_is_whole.binds (ps := ["thing"]) fun _ _ _ _ _ _ us hl => match us, hl with | [_], _ => rfl
  have m_is_whole := PySem.W.mg_of X G a_is_whole
  have F_is_title := fun_mk (st := s_is_title) l_is_title c_is_title k_is_title
  have b_is_title := F_is_title.binds (ps := ["thing"]) fun _ _ _ _ _ _ us hl => match us, hl with | [_], _ => rfl
  have m_is_title := PySem.W.mg_of X G a_is_title
  have F_is_step := fun_mk (st := s_is_step) l_is_step c_is_step k_is_step
  have b_is_step := F_is_step.binds (ps := ["thing"]) fun _ _ _ _ _ _ us hl => match us, hl with | [_], _ => rfl
  have m_is_step := PySem.W.mg_of X G a_is_step
  have F_is_call := fun_mk (st := s_is_call) l_is_call c_is_call k_is_call
  have b_is_call := F_is_call.binds (ps := ["thing", "looms"]) fun _ _ _ _ _ _ us hl => match us, hl with | [_, _], _ => rfl
  have m_is_call := PySem.W.mg_of X G a_is_call
  have F_is_loom := fun_mk (st := s_is_loom) l_is_loom c_is_loom k_is_loom
  have b_is_loom := F_is_loom.binds (ps := ["thing", "looms"]) fun _ _ _ _ _ _ us hl => match us, hl with | [_, _], _ => rfl
  have m_is_loom := PySem.W.mg_of X G a_is_loom
  have F_check_looms := fun_mk (st := s_check_looms) l_check_looms c_check_looms k_check_looms
  have b_check_looms := F_check_looms.binds (ps := ["looms"]) fun _ _ _ _ _ _ us hl => match us, hl with | [_], _ => rfl
  have m_check_looms := PySem.W.mg_of X G a_check_looms
  have F_check_name := fun_mk (st := s_check_name) l_check_name c_check_name k_check_name
  have b_check_name := F_check_name.binds (ps := ["looms", "name"]) fun _ _ _ _ _ _ us hl => match us, hl with | [_, _], _ => rfl
  have m_check_name := PySem.W.mg_of X G a_check_name
  have F_is_word := fun_mk (st := s_is_word) l_is_word c_is_word k_is_word
  have b_is_word := F_is_word.binds (ps := ["thing", "words"]) fun _ _ _ _ _ _ us hl => match us, hl with | [_, _], _ => rfl
  have m_is_word := PySem.W.mg_of X G a_is_word
  have F_is_pass := fun_mk (st := s_is_pass) l_is_pass c_is_pass k_is_pass
  have b_is_pass := F_is_pass.binds (ps := ["thing"]) fun _ _ _ _ _ _ us hl => match us, hl with | [_], _ => rfl
  have m_is_pass := PySem.W.mg_of X G a_is_pass
  have F_check_passes := fun_mk (st := s_check_passes) l_check_passes c_check_passes k_check_passes
  have b_check_passes := F_check_passes.binds (ps := ["passes"]) fun _ _ _ _ _ _ us hl => match us, hl with | [_], _ => rfl
  have m_check_passes := PySem.W.mg_of X G a_check_passes
  have F_exchanges := fun_mk (st := s_exchanges) l_exchanges c_exchanges k_exchanges
  have b_exchanges := F_exchanges.binds (ps := ["one", "width"]) fun _ _ _ _ _ _ us hl => match us, hl with | [_, _], _ => rfl
  have m_exchanges := PySem.W.mg_of X G a_exchanges
  have F_check_growing := fun_mk (st := s_check_growing) l_check_growing c_check_growing k_check_growing
  have b_check_growing := F_check_growing.binds (ps := ["passes", "side", "many"]) fun _ _ _ _ _ _ us hl => match us, hl with | [_, _, _], _ => rfl
  have m_check_growing := PySem.W.mg_of X G a_check_growing
  have F_ends_of := fun_mk (st := s_ends_of) l_ends_of c_ends_of k_ends_of
  have b_ends_of := F_ends_of.binds (ps := ["side", "many"]) fun _ _ _ _ _ _ us hl => match us, hl with | [_, _], _ => rfl
  have m_ends_of := PySem.W.mg_of X G a_ends_of
  have F_grown_net := fun_mk (st := s_grown_net) l_grown_net c_grown_net k_grown_net
  have b_grown_net := fun_kb (ps := ["passes", "width", "side", "many"]) (n := 2) (ks := ["side", "many"]) F_grown_net fun _ _ _ _ _ _ us ws h1 h2 => match us, ws, h1, h2 with | [_, _], [_, _], _, _ => rfl
  have m_grown_net := PySem.W.mg_of X G a_grown_net
  have F_check_size := fun_mk (st := s_check_size) l_check_size c_check_size k_check_size
  have b_check_size := F_check_size.binds (ps := ["size"]) fun _ _ _ _ _ _ us hl => match us, hl with | [_], _ => rfl
  have m_check_size := PySem.W.mg_of X G a_check_size
  have F_pass_number := fun_mk (st := s_pass_number) l_pass_number c_pass_number k_pass_number
  have b_pass_number := F_pass_number.binds (ps := ["one", "width"]) fun _ _ _ _ _ _ us hl => match us, hl with | [_, _], _ => rfl
  have m_pass_number := PySem.W.mg_of X G a_pass_number
  have F_number_at := fun_mk (st := s_number_at) l_number_at c_number_at k_number_at
  have b_number_at := F_number_at.binds (ps := ["passes", "width"]) fun _ _ _ _ _ _ us hl => match us, hl with | [_, _], _ => rfl
  have m_number_at := PySem.W.mg_of X G a_number_at
  have F_common := fun_mk (st := s_common) l_common c_common k_common
  have b_common := F_common.binds (ps := ["one", "other"]) fun _ _ _ _ _ _ us hl => match us, hl with | [_, _], _ => rfl
  have m_common := PySem.W.mg_of X G a_common
  have F_period_of := fun_mk (st := s_period_of) l_period_of c_period_of k_period_of
  have b_period_of := F_period_of.binds (ps := ["passes"]) fun _ _ _ _ _ _ us hl => match us, hl with | [_], _ => rfl
  have m_period_of := PySem.W.mg_of X G a_period_of
  have F_unlike_width := fun_mk (st := s_unlike_width) l_unlike_width c_unlike_width k_unlike_width
  have b_unlike_width := F_unlike_width.binds (ps := ["one", "other"]) fun _ _ _ _ _ _ us hl => match us, hl with | [_, _], _ => rfl
  have m_unlike_width := PySem.W.mg_of X G a_unlike_width
  have F_grown_number := fun_mk (st := s_grown_number) l_grown_number c_grown_number k_grown_number
  have b_grown_number := fun_kb (ps := ["passes", "width", "side", "many"]) (n := 2) (ks := ["side", "many"]) F_grown_number fun _ _ _ _ _ _ us ws h1 h2 => match us, ws, h1, h2 with | [_, _], [_, _], _, _ => rfl
  have m_grown_number := PySem.W.mg_of X G a_grown_number
  have F_unlike_growth := fun_mk (st := s_unlike_growth) l_unlike_growth c_unlike_growth k_unlike_growth
  have b_unlike_growth := fun_kb (ps := ["one", "other", "side", "many"]) (n := 2) (ks := ["side", "many"]) F_unlike_growth fun _ _ _ _ _ _ us ws h1 h2 => match us, ws, h1, h2 with | [_, _], [_, _], _, _ => rfl
  have m_unlike_growth := PySem.W.mg_of X G a_unlike_growth
  have F_own_number := fun_mk (st := s_own_number) l_own_number c_own_number k_own_number
  have b_own_number := F_own_number.binds (ps := ["loom", "half"]) fun _ _ _ _ _ _ us hl => match us, hl with | [_, _], _ => rfl
  have m_own_number := PySem.W.mg_of X G a_own_number
  have F_check_doublings := fun_mk (st := s_check_doublings) l_check_doublings c_check_doublings k_check_doublings
  have b_check_doublings := F_check_doublings.binds (ps := ["most"]) fun _ _ _ _ _ _ us hl => match us, hl with | [_], _ => rfl
  have m_check_doublings := PySem.W.mg_of X G a_check_doublings
  have F_loom_numbers := fun_mk (st := s_loom_numbers) l_loom_numbers c_loom_numbers k_loom_numbers
  have b_loom_numbers := F_loom_numbers.binds (ps := ["looms", "name", "most"]) fun _ _ _ _ _ _ us hl => match us, hl with | [_, _, _], _ => rfl
  have m_loom_numbers := PySem.W.mg_of X G a_loom_numbers
  have F_sorter_numbers := fun_mk (st := s_sorter_numbers) l_sorter_numbers c_sorter_numbers k_sorter_numbers
  have b_sorter_numbers := F_sorter_numbers.binds (ps := ["looms", "name", "most"]) fun _ _ _ _ _ _ us hl => match us, hl with | [_, _, _], _ => rfl
  have m_sorter_numbers := PySem.W.mg_of X G a_sorter_numbers
  have F_unlike_doubling := fun_mk (st := s_unlike_doubling) l_unlike_doubling c_unlike_doubling k_unlike_doubling
  have b_unlike_doubling := F_unlike_doubling.binds (ps := ["looms", "one", "other"]) fun _ _ _ _ _ _ us hl => match us, hl with | [_, _, _], _ => rfl
  have m_unlike_doubling := PySem.W.mg_of X G a_unlike_doubling
  have F__law_cell_at := fun_mk (st := s__law_cell_at) l__law_cell_at c__law_cell_at k__law_cell_at
  have b__law_cell_at := F__law_cell_at.binds (ps := ["_law_script", "_law_k"]) fun _ _ _ _ _ _ us hl => match us, hl with | [_, _], _ => rfl
  have m__law_cell_at := PySem.W.mg_of X G a__law_cell_at
  have F__law_draw := fun_mk (st := s__law_draw) l__law_draw c__law_draw k__law_draw
  have b__law_draw := F__law_draw.binds (ps := ["_law_cell", "_law_k", "_law_bound"]) fun _ _ _ _ _ _ us hl => match us, hl with | [_, _, _], _ => rfl
  have m__law_draw := PySem.W.mg_of X G a__law_draw
  have F__law_number := fun_mk (st := s__law_number) l__law_number c__law_number k__law_number
  have b__law_number := F__law_number.binds (ps := ["_law_cell", "_law_k", "_law_bound"]) fun _ _ _ _ _ _ us hl => match us, hl with | [_, _, _], _ => rfl
  have m__law_number := PySem.W.mg_of X G a__law_number
  have F__law_next := fun_mk (st := s__law_next) l__law_next c__law_next k__law_next
  have b__law_next := F__law_next.binds (ps := ["_law_draw_here", "_law_bound"]) fun _ _ _ _ _ _ us hl => match us, hl with | [_, _], _ => rfl
  have m__law_next := PySem.W.mg_of X G a__law_next
  have F__law_pick := fun_mk (st := s__law_pick) l__law_pick c__law_pick k__law_pick
  have b__law_pick := F__law_pick.binds (ps := ["_law_draw_here", "_law_things"]) fun _ _ _ _ _ _ us hl => match us, hl with | [_, _], _ => rfl
  have m__law_pick := PySem.W.mg_of X G a__law_pick
  have F__law_pass := fun_mk (st := s__law_pass) l__law_pass c__law_pass k__law_pass
  have b__law_pass := F__law_pass.binds (ps := ["_law_draw_here"]) fun _ _ _ _ _ _ us hl => match us, hl with | [_], _ => rfl
  have m__law_pass := PySem.W.mg_of X G a__law_pass
  have F__law_number_of := fun_mk (st := s__law_number_of) l__law_number_of c__law_number_of k__law_number_of
  have b__law_number_of := F__law_number_of.binds (ps := ["_law_looms", "_law_name", "_law_turn"]) fun _ _ _ _ _ _ us hl => match us, hl with | [_, _, _], _ => rfl
  have m__law_number_of := PySem.W.mg_of X G a__law_number_of
  have F__law_numbers := fun_mk (st := s__law_numbers) l__law_numbers c__law_numbers k__law_numbers
  have b__law_numbers := F__law_numbers.binds (ps := ["_law_looms", "_law_name", "_law_most"]) fun _ _ _ _ _ _ us hl => match us, hl with | [_, _, _], _ => rfl
  have m__law_numbers := PySem.W.mg_of X G a__law_numbers
  refine ⟨PySem.W.fnOf "law" "law" (defArgs s_law) (defBody s_law) (defScope s_law) .none kV_law dc_law pm_law an_law cd_law ct_law, fun s v => .of_eq rfl, fun base _ _ => ?_⟩
  have C_is_whole := j_is_whole (P := l.prog) (wd := w) (base := base) T  F_is_whole m_is_whole b_is_whole
  have C_is_title := j_is_title (P := l.prog) (wd := w) (base := base) T  F_is_title m_is_title b_is_title
  have C_is_step := j_is_step (P := l.prog) (wd := w) (base := base) T  F_is_step m_is_step b_is_step
  have C_is_call := j_is_call (P := l.prog) (wd := w) (base := base) T  F_is_call m_is_call b_is_call
  have C_is_loom := j_is_loom (P := l.prog) (wd := w) (base := base) T C_is_step C_is_call F_is_loom m_is_loom b_is_loom
  have C_check_looms := j_check_looms (P := l.prog) (wd := w) (base := base) T C_is_title C_is_loom F_check_looms m_check_looms b_check_looms
  have C_check_name := j_check_name (P := l.prog) (wd := w) (base := base) T C_check_looms F_check_name m_check_name b_check_name
  have C_is_word := j_is_word (P := l.prog) (wd := w) (base := base) T  F_is_word m_is_word b_is_word
  have C_is_pass := j_is_pass (P := l.prog) (wd := w) (base := base) T C_is_whole C_is_word F_is_pass m_is_pass b_is_pass
  have C_check_passes := j_check_passes (P := l.prog) (wd := w) (base := base) T C_is_pass F_check_passes m_check_passes b_check_passes
  have C_exchanges := j_exchanges (P := l.prog) (wd := w) (base := base) T  F_exchanges m_exchanges b_exchanges
  have C_check_growing := j_check_growing (P := l.prog) (wd := w) (base := base) T C_is_whole C_check_passes F_check_growing m_check_growing b_check_growing
  have C_ends_of := j_ends_of (P := l.prog) (wd := w) (base := base) T  F_ends_of m_ends_of b_ends_of
  have C_grown_net := j_grown_net (P := l.prog) (wd := w) (base := base) T C_is_whole C_exchanges C_check_growing C_ends_of F_grown_net m_grown_net b_grown_net
  have C_check_size := j_check_size (P := l.prog) (wd := w) (base := base) T C_is_whole F_check_size m_check_size b_check_size
  have C_pass_number := j_pass_number (P := l.prog) (wd := w) (base := base) T  F_pass_number m_pass_number b_pass_number
  have C_number_at := j_number_at (P := l.prog) (wd := w) (base := base) T C_check_passes C_check_size C_pass_number F_number_at m_number_at b_number_at
  have C_common := j_common (P := l.prog) (wd := w) (base := base) T  F_common m_common b_common
  have C_period_of := j_period_of (P := l.prog) (wd := w) (base := base) T C_common F_period_of m_period_of b_period_of
  have C_unlike_width := j_unlike_width (P := l.prog) (wd := w) (base := base) T C_check_passes C_number_at C_period_of F_unlike_width m_unlike_width b_unlike_width
  have C_grown_number := j_grown_number (P := l.prog) (wd := w) (base := base) T C_is_whole C_check_growing C_number_at F_grown_number m_grown_number b_grown_number
  have C_unlike_growth := j_unlike_growth (P := l.prog) (wd := w) (base := base) T C_check_growing C_period_of C_grown_number F_unlike_growth m_unlike_growth b_unlike_growth
  have C_own_number := j_own_number (P := l.prog) (wd := w) (base := base) T  F_own_number m_own_number b_own_number
  have C_check_doublings := j_check_doublings (P := l.prog) (wd := w) (base := base) T C_is_whole F_check_doublings m_check_doublings b_check_doublings
  have C_loom_numbers := j_loom_numbers (P := l.prog) (wd := w) (base := base) T C_check_name C_own_number C_check_doublings F_loom_numbers m_loom_numbers b_loom_numbers
  have C_sorter_numbers := j_sorter_numbers (P := l.prog) (wd := w) (base := base) T C_loom_numbers F_sorter_numbers m_sorter_numbers b_sorter_numbers
  have C_unlike_doubling := j_unlike_doubling (P := l.prog) (wd := w) (base := base) T C_check_name C_loom_numbers F_unlike_doubling m_unlike_doubling b_unlike_doubling
  have C__law_cell_at := j__law_cell_at (P := l.prog) (wd := w) (base := base) T  F__law_cell_at m__law_cell_at b__law_cell_at
  have C__law_draw := j__law_draw (P := l.prog) (wd := w) (base := base) T  F__law_draw m__law_draw b__law_draw
  have C__law_number := j__law_number (P := l.prog) (wd := w) (base := base) T C__law_draw F__law_number m__law_number b__law_number
  have C__law_next := j__law_next (P := l.prog) (wd := w) (base := base) T C__law_cell_at C__law_number F__law_next m__law_next b__law_next
  have C__law_pick := j__law_pick (P := l.prog) (wd := w) (base := base) T C__law_next F__law_pick m__law_pick b__law_pick
  have C__law_pass := j__law_pass (P := l.prog) (wd := w) (base := base) T C__law_next C__law_pick F__law_pass m__law_pass b__law_pass
  have C__law_number_of := j__law_number_of (P := l.prog) (wd := w) (base := base) T  F__law_number_of m__law_number_of b__law_number_of
  have C__law_numbers := j__law_numbers (P := l.prog) (wd := w) (base := base) T C__law_number_of F__law_numbers m__law_numbers b__law_numbers
  exact law_J (k := 12) (fun_mk (st := s_law) l_law c_law k_law) rfl sc_law rfl (by first | exact .inl rfl | exact .inr (.inl rfl) | exact .inr (.inr rfl)) (by first | exact .inl rfl | exact .inr rfl) (by decide) (by decide) (fun _ _ _ _ _ _ => rfl) (fun cdv A outer s H E hr => j_law_body T C_exchanges C_grown_net C_number_at C_unlike_width C_grown_number C_unlike_growth C_loom_numbers C_sorter_numbers C_unlike_doubling C__law_next C__law_pick C__law_pass C__law_numbers cdv A outer s H E hr) law_on
theorem walk {l : PySem.W.OpenLaw} {q : Program} {loose : List Str} {XP : (Str → Option Value) → Heap → Prop} {YP : World → Heap → Prop} {d : DefRec} {K : Params → PySem.W.Frag} (hn : l.most = some 63) (hdf : d.params.defaults = [])
    (hY : ∀ (w : World) (h : Heap), YP w h → (K w.params).In h)
    (Fa : ∀ (w : World) (mg : Str → Option Value) (fa : Addr) (h : Heap), (K w.params).In h → h.Ns mainGlobals mg → mg d.name = some (.ref fa) →
      ∃ fd : FuncData, (∀ (s : Shared) (u : Value), BindsTo s fd ⟨[u], []⟩ [("_law_script", u)]) ∧ ∀ base : Heap, (K w.params).In base → base.Ns mainGlobals mg → FnOk l.prog w (K w.params) mg base CX0 13 fa fd ["_law_script"] (spLaw (K w.params))) :
    PySem.W.WalkO q loose XP YP l.row.toRowW d [] (fun f vs => PySem.call f vs) :=
  L2.walk_of (n := 63) (k := 13) (x := "_law_script") (CX := fun _ => CX0) (sp := fun w => spLaw (K w.params)) hn (by decide) hdf ⟨rfl, by decide, by decide⟩ hY Fa (fun _ _ a ns hl _ hS => ⟨a, ns, rfl, hS, hl, fun _ => rfl⟩) fun _ _ _ _ _ z => z
end K12
open PySem PySem.W PyProof.Rows in
set_option maxRecDepth 100000 in
set_option maxHeartbeats 0 in
theorem PySem.Challenge.cw_strandloom_k12_whole_numbers_holds : PySem.Challenge.rw_strandloom_k12_whole_numbers.Holds := by
  w_on; o_law; k_head; (case hw => w_witness2)
  k_fill
  refine K12.walk (l := PySem.Challenge.rw_strandloom_k12_whole_numbers) rfl rfl (fun w h Y => PySem.W.kIn_of Y) ?G0
  case G0 =>
    intro w mg fa h KX G hmg
    refine' K12.all_mk KX G hmg ?a_is_whole ?l_is_whole ?c_is_whole ?k_is_whole ?a_is_title ?l_is_title ?c_is_title ?k_is_title ?a_is_step ?l_is_step ?c_is_step ?k_is_step ?a_is_call ?l_is_call ?c_is_call ?k_is_call ?a_is_loom ?l_is_loom ?c_is_loom ?k_is_loom ?a_check_looms ?l_check_looms ?c_check_looms ?k_check_looms ?a_check_name ?l_check_name ?c_check_name ?k_check_name ?a_is_word ?l_is_word ?c_is_word ?k_is_word ?a_is_pass ?l_is_pass ?c_is_pass ?k_is_pass ?a_check_passes ?l_check_passes ?c_check_passes ?k_check_passes ?a_exchanges ?l_exchanges ?c_exchanges ?k_exchanges ?a_check_growing ?l_check_growing ?c_check_growing ?k_check_growing ?a_ends_of ?l_ends_of ?c_ends_of ?k_ends_of ?a_grown_net ?l_grown_net ?c_grown_net ?k_grown_net ?a_check_size ?l_check_size ?c_check_size ?k_check_size ?a_pass_number ?l_pass_number ?c_pass_number ?k_pass_number ?a_number_at ?l_number_at ?c_number_at ?k_number_at ?a_common ?l_common ?c_common ?k_common ?a_period_of ?l_period_of ?c_period_of ?k_period_of ?a_unlike_width ?l_unlike_width ?c_unlike_width ?k_unlike_width ?a_grown_number ?l_grown_number ?c_grown_number ?k_grown_number ?a_unlike_growth ?l_unlike_growth ?c_unlike_growth ?k_unlike_growth ?a_own_number ?l_own_number ?c_own_number ?k_own_number ?a_check_doublings ?l_check_doublings ?c_check_doublings ?k_check_doublings ?a_loom_numbers ?l_loom_numbers ?c_loom_numbers ?k_loom_numbers ?a_sorter_numbers ?l_sorter_numbers ?c_sorter_numbers ?k_sorter_numbers ?a_unlike_doubling ?l_unlike_doubling ?c_unlike_doubling ?k_unlike_doubling ?a__law_cell_at ?l__law_cell_at ?c__law_cell_at ?k__law_cell_at ?a__law_draw ?l__law_draw ?c__law_draw ?k__law_draw ?a__law_number ?l__law_number ?c__law_number ?k__law_number ?a__law_next ?l__law_next ?c__law_next ?k__law_next ?a__law_pick ?l__law_pick ?c__law_pick ?k__law_pick ?a__law_pass ?l__law_pass ?c__law_pass ?k__law_pass ?a__law_number_of ?l__law_number_of ?c__law_number_of ?k__law_number_of ?a__law_numbers ?l__law_numbers ?c__law_numbers ?k__law_numbers ?a_law ?l_law ?c_law ?k_law ?z_all ?z_any ?z_bool ?z_dict ?z_enumerate ?z_int ?z_isinstance ?z_len ?z_list ?z_max ?z_range ?z_sorted ?z_str ?z_sum ?z_tuple ?z_zip ?y_LETTERS ?y_MOST_GROWN ?y_MOST_LOOMS ?y_MOST_SIZE ?y_MOST_STEP ?y_MOST_STEPS ?y_MOST_WIDTH ?y_ORDERS_doubles ?u7 ?y_ORDERS_passes ?u10 ?y_SIDES_doubles ?u13 ?y_SIDES_growing ?u18 ?y_WAYS ?u22
    (case a_is_whole => k_is)
    (case l_is_whole => k_is)
    (case c_is_whole => k_is)
    (case k_is_whole => k_is)
    (case a_is_title => k_is)
    (case l_is_title => k_is)
    (case c_is_title => k_is)
    (case k_is_title => k_is)
    (case a_is_step => k_is)
    (case l_is_step => k_is)
    (case c_is_step => k_is)
    (case k_is_step => k_is)
    (case a_is_call => k_is)
    (case l_is_call => k_is)
    (case c_is_call => k_is)
    (case k_is_call => k_is)
    (case a_is_loom => k_is)
    (case l_is_loom => k_is)
    (case c_is_loom => k_is)
    (case k_is_loom => k_is)
    (case a_check_looms => k_is)
    (case l_check_looms => k_is)
    (case c_check_looms => k_is)
    (case k_check_looms => k_is)
    (case a_check_name => k_is)
    (case l_check_name => k_is)
    (case c_check_name => k_is)
    (case k_check_name => k_is)
    (case a_is_word => k_is)
    (case l_is_word => k_is)
    (case c_is_word => k_is)
    (case k_is_word => k_is)
    (case a_is_pass => k_is)
    (case l_is_pass => k_is)
    (case c_is_pass => k_is)
    (case k_is_pass => k_is)
    (case a_check_passes => k_is)
    (case l_check_passes => k_is)
    (case c_check_passes => k_is)
    (case k_check_passes => k_is)
    (case a_exchanges => k_is)
    (case l_exchanges => k_is)
    (case c_exchanges => k_is)
    (case k_exchanges => k_is)
    (case a_check_growing => k_is)
    (case l_check_growing => k_is)
    (case c_check_growing => k_is)
    (case k_check_growing => k_is)
    (case a_ends_of => k_is)
    (case l_ends_of => k_is)
    (case c_ends_of => k_is)
    (case k_ends_of => k_is)
    (case a_grown_net => k_is)
    (case l_grown_net => k_is)
    (case c_grown_net => k_is)
    (case k_grown_net => k_is)
    (case a_check_size => k_is)
    (case l_check_size => k_is)
    (case c_check_size => k_is)
    (case k_check_size => k_is)
    (case a_pass_number => k_is)
    (case l_pass_number => k_is)
    (case c_pass_number => k_is)
    (case k_pass_number => k_is)
    (case a_number_at => k_is)
    (case l_number_at => k_is)
    (case c_number_at => k_is)
    (case k_number_at => k_is)
    (case a_common => k_is)
    (case l_common => k_is)
    (case c_common => k_is)
    (case k_common => k_is)
    (case a_period_of => k_is)
    (case l_period_of => k_is)
    (case c_period_of => k_is)
    (case k_period_of => k_is)
    (case a_unlike_width => k_is)
    (case l_unlike_width => k_is)
    (case c_unlike_width => k_is)
    (case k_unlike_width => k_is)
    (case a_grown_number => k_is)
    (case l_grown_number => k_is)
    (case c_grown_number => k_is)
    (case k_grown_number => k_is)
    (case a_unlike_growth => k_is)
    (case l_unlike_growth => k_is)
    (case c_unlike_growth => k_is)
    (case k_unlike_growth => k_is)
    (case a_own_number => k_is)
    (case l_own_number => k_is)
    (case c_own_number => k_is)
    (case k_own_number => k_is)
    (case a_check_doublings => k_is)
    (case l_check_doublings => k_is)
    (case c_check_doublings => k_is)
    (case k_check_doublings => k_is)
    (case a_loom_numbers => k_is)
    (case l_loom_numbers => k_is)
    (case c_loom_numbers => k_is)
    (case k_loom_numbers => k_is)
    (case a_sorter_numbers => k_is)
    (case l_sorter_numbers => k_is)
    (case c_sorter_numbers => k_is)
    (case k_sorter_numbers => k_is)
    (case a_unlike_doubling => k_is)
    (case l_unlike_doubling => k_is)
    (case c_unlike_doubling => k_is)
    (case k_unlike_doubling => k_is)
    (case a__law_cell_at => k_is)
    (case l__law_cell_at => k_is)
    (case c__law_cell_at => k_is)
    (case k__law_cell_at => k_is)
    (case a__law_draw => k_is)
    (case l__law_draw => k_is)
    (case c__law_draw => k_is)
    (case k__law_draw => k_is)
    (case a__law_number => k_is)
    (case l__law_number => k_is)
    (case c__law_number => k_is)
    (case k__law_number => k_is)
    (case a__law_next => k_is)
    (case l__law_next => k_is)
    (case c__law_next => k_is)
    (case k__law_next => k_is)
    (case a__law_pick => k_is)
    (case l__law_pick => k_is)
    (case c__law_pick => k_is)
    (case k__law_pick => k_is)
    (case a__law_pass => k_is)
    (case l__law_pass => k_is)
    (case c__law_pass => k_is)
    (case k__law_pass => k_is)
    (case a__law_number_of => k_is)
    (case l__law_number_of => k_is)
    (case c__law_number_of => k_is)
    (case k__law_number_of => k_is)
    (case a__law_numbers => k_is)
    (case l__law_numbers => k_is)
    (case c__law_numbers => k_is)
    (case k__law_numbers => k_is)
    (case a_law => k_is)
    (case l_law => k_is)
    (case c_law => k_is)
    (case k_law => k_is)
    (case z_all => k_is)
    (case z_any => k_is)
    (case z_bool => k_is)
    (case z_dict => k_is)
    (case z_enumerate => k_is)
    (case z_int => k_is)
    (case z_isinstance => k_is)
    (case z_len => k_is)
    (case z_list => k_is)
    (case z_max => k_is)
    (case z_range => k_is)
    (case z_sorted => k_is)
    (case z_str => k_is)
    (case z_sum => k_is)
    (case z_tuple => k_is)
    (case z_zip => k_is)
    (case y_LETTERS => k_is)
    (case y_MOST_GROWN => k_is)
    (case y_MOST_LOOMS => k_is)
    (case y_MOST_SIZE => k_is)
    (case y_MOST_STEP => k_is)
    (case y_MOST_STEPS => k_is)
    (case y_MOST_WIDTH => k_is)
    (case y_ORDERS_doubles => k_is)
    (case u7 => k_is)
    (case y_ORDERS_passes => k_is)
    (case u10 => k_is)
    (case y_SIDES_doubles => k_is)
    (case u13 => k_is)
    (case y_SIDES_growing => k_is)
    (case u18 => k_is)
    (case y_WAYS => k_is)
    (case u22 => k_is)
