import PyProof.Rows.All
import Wide.All
import OpenK.AllK
import Wide.FinOn
import HandS.ForMost
import HandS.EndBits
import HandS.IsInst
import HandS.Wide
import HandS.SortInts
import HandS.Star
import HandS.Flow
import HandS.Zip
import HandS.TupAny
import HandS.Deep
import HandS.Style
import HandS.Conv
import KE.GoesMore
import KE.GoesEnum
import HandS.Walk
import KE.KTupSum
import HandS.TupSets
import HandS.TupMul
import HandS.Codes
import HandS.OwnEq
import PySem.Challenge.RW_strandloom_k60_whole_fewest
set_option Elab.async false
set_option linter.all false
set_option maxRecDepth 100000
set_option maxHeartbeats 4100000
/-! J: readings as functions on data. A value's data (D), what a name holds (Sl), the state (R), expressions, tests, statements as partial functions. -/
namespace J
open PySem L2
inductive D where
  | non | bl (b : Bool) | int (i : Int) | str (s : Str) | ty (n : String) | draw | tup (ds : List D) | lst (ds : List D) | obj (n : Str) (ks : List Str) (ds : List D)
structure Wd where
  ns : List Int
  c : Int
inductive Sl where
  | no | d (x : D) | own (xs : List D) | mu (k : Nat) (xs : List D)
def Sl.ow : Sl → Bool
  | .own _ => true
  | .mu _ _ => true
  | _ => false
structure Cfg where
  p : Addr
  M : List Addr
  F0 : Hp
  H0 : Hp
/-- a tuple: tracked, or one of the written part -/
def SqU (K : PySem.W.Frag) (F : Hp) (a : Addr) (vs : List V) : Prop := F a = some (.tup vs) ∨ SqT K (fun _ => none) a vs
/-- the class of that name -/
def clsA (K : PySem.W.Frag) (n : Str) : Addr := match PySem.W.nsIn K mainGlobals n with
  | some (some (.ref a)) => a
  | _ => 0
mutual
def Den (K : PySem.W.Frag) (p : Addr) (F : Hp) : D → V → Prop
  | .non, v => v = .non
  | .bl b, v => v = .bl b
  | .int i, v => v = .int i
  | .str s, v => v = .str s
  | .ty n, v => v = .ty n
  | .draw, v => v = .ref p
  | .tup ds, v => ∃ a vs, v = .ref a ∧ SqU K F a vs ∧ Dens K p F ds vs
  | .lst ds, v => ∃ a vs, v = .ref a ∧ F a = some (.lst vs) ∧ Dens K p F ds vs
  | .obj n ks ds, v => ∃ a dx vs, v = .ref a ∧ F a = some (.ins (clsA K n) dx (ks.zip vs)) ∧ Dens K p F ds vs
def Dens (K : PySem.W.Frag) (p : Addr) (F : Hp) : List D → List V → Prop
  | [], vs => vs = []
  | d :: ds, vs => ∃ v r, vs = v :: r ∧ Den K p F d v ∧ Dens K p F ds r
end
section
variable {K : PySem.W.Frag} {p : Addr} {F F' H H' : Hp}
theorem sqU_mono {a : Addr} {xs : List V} (e : Same F F') (h : SqU K F a xs) : SqU K F' a xs := by
  rcases h with h | h
  · exact .inl (e _ _ h)
  · exact .inr h
theorem SqU.t {a : Addr} {xs : List V} (h : SqU K F a xs) : SqT K F a xs := by
  rcases h with h | h | h
  · exact .inl (.inl h)
  · rcases h with h | ⟨o, h⟩ <;> cases h
  · exact .inr h
mutual
theorem Den.mono (e : Same F F') : ∀ (d : D) (v : V), Den K p F d v → Den K p F' d v
  | .non, v, h => by unfold Den at h ⊢; exact h
  | .bl b, v, h => by unfold Den at h ⊢; exact h
  | .int i, v, h => by unfold Den at h ⊢; exact h
  | .str s, v, h => by unfold Den at h ⊢; exact h
  | .ty n, v, h => by unfold Den at h ⊢; exact h
  | .draw, v, h => by unfold Den at h ⊢; exact h
  | .tup ds, v, h => by
    unfold Den at h ⊢
    obtain ⟨a, vs, q, s, r⟩ := h
    exact ⟨a, vs, q, sqU_mono e s, Dens.mono e ds vs r⟩
  | .lst ds, v, h => by
    unfold Den at h ⊢
    obtain ⟨a, vs, q, s, r⟩ := h
    exact ⟨a, vs, q, e _ _ s, Dens.mono e ds vs r⟩
  | .obj n ks ds, v, h => by
    unfold Den at h ⊢
    obtain ⟨a, dx, vs, q, s, r⟩ := h
    exact ⟨a, dx, vs, q, e _ _ s, Dens.mono e ds vs r⟩
theorem Dens.mono (e : Same F F') : ∀ (ds : List D) (vs : List V), Dens K p F ds vs → Dens K p F' ds vs
  | [], vs, h => by unfold Dens at h ⊢; exact h
  | d :: ds, vs, h => by
    unfold Dens at h ⊢
    obtain ⟨v, r, q, a, b⟩ := h
    exact ⟨v, r, q, Den.mono e d v a, Dens.mono e ds r b⟩
end
theorem dens_nil : Dens K p F [] [] := by unfold Dens; rfl
theorem dens_cons {d : D} {ds : List D} {v : V} {vs : List V} (h : Den K p F d v) (r : Dens K p F ds vs) : Dens K p F (d :: ds) (v :: vs) := by unfold Dens; exact ⟨v, vs, rfl, h, r⟩
theorem Dens.len : ∀ {ds : List D} {vs : List V}, Dens K p F ds vs → vs.length = ds.length
  | [], vs, h => by unfold Dens at h; rw [h]; rfl
  | d :: ds, vs, h => by
    unfold Dens at h
    obtain ⟨v, r, q, a, b⟩ := h
    rw [q, List.length_cons, List.length_cons, Dens.len b]
theorem Dens.get : ∀ {ds : List D} {vs : List V} {i : Nat} {d : D}, Dens K p F ds vs → ds[i]? = some d → ∃ v, vs[i]? = some v ∧ Den K p F d v
  | [], vs, i, d, h, e => by simp at e
  | d :: ds, vs, 0, d', h, e => by
    unfold Dens at h
    obtain ⟨v, r, q, a, b⟩ := h
    simp at e
    subst e
    exact ⟨v, by rw [q]; rfl, a⟩
  | d :: ds, vs, i + 1, d', h, e => by
    unfold Dens at h
    obtain ⟨v, r, q, a, b⟩ := h
    simp at e
    obtain ⟨u, h1, h2⟩ := Dens.get (i := i) b e
    exact ⟨u, by rw [q]; simpa using h1, h2⟩
theorem Dens.get' : ∀ {ds : List D} {vs : List V} {i : Nat} {v : V}, Dens K p F ds vs → vs[i]? = some v → ∃ d, ds[i]? = some d ∧ Den K p F d v
  | [], vs, i, v, h, e => by
    unfold Dens at h
    rw [h] at e
    simp at e
  | d :: ds, vs, 0, v', h, e => by
    unfold Dens at h
    obtain ⟨v, r, q, a, b⟩ := h
    rw [q] at e
    simp at e
    subst e
    exact ⟨d, rfl, a⟩
  | d :: ds, vs, i + 1, v', h, e => by
    unfold Dens at h
    obtain ⟨v, r, q, a, b⟩ := h
    rw [q] at e
    simp at e
    obtain ⟨u, h1, h2⟩ := Dens.get' (i := i) b e
    exact ⟨u, by simpa using h1, h2⟩
theorem Dens.append : ∀ {ds es : List D} {vs us : List V}, Dens K p F ds vs → Dens K p F es us → Dens K p F (ds ++ es) (vs ++ us)
  | [], es, vs, us, h, g => by unfold Dens at h; subst h; exact g
  | d :: ds, es, vs, us, h, g => by
    unfold Dens at h
    obtain ⟨v, r, q, a, b⟩ := h
    subst q
    exact dens_cons a (Dens.append b g)
theorem Dens.set : ∀ {ds : List D} {vs : List V} {d : D} {v : V} (i : Nat), Dens K p F ds vs → Den K p F d v → Dens K p F (ds.set i d) (vs.set i v)
  | [], vs, d, v, i, h, g => by unfold Dens at h; subst h; exact dens_nil
  | e :: ds, vs, d, v, 0, h, g => by
    unfold Dens at h
    obtain ⟨u, r, q, a, b⟩ := h
    subst q
    exact dens_cons g b
  | e :: ds, vs, d, v, i + 1, h, g => by
    unfold Dens at h
    obtain ⟨u, r, q, a, b⟩ := h
    subst q
    exact dens_cons a (Dens.set i b g)
theorem Dens.take : ∀ {ds : List D} {vs : List V} (n : Nat), Dens K p F ds vs → Dens K p F (ds.take n) (vs.take n)
  | [], vs, n, h => by unfold Dens at h; subst h; rw [List.take_nil, List.take_nil]; exact dens_nil
  | d :: ds, vs, 0, h => by rw [List.take_zero, List.take_zero]; exact dens_nil
  | d :: ds, vs, n + 1, h => by
    unfold Dens at h
    obtain ⟨v, r, q, a, b⟩ := h
    subst q
    exact dens_cons a (Dens.take n b)
theorem Dens.drop : ∀ {ds : List D} {vs : List V} (n : Nat), Dens K p F ds vs → Dens K p F (ds.drop n) (vs.drop n)
  | [], vs, n, h => by unfold Dens at h; subst h; rw [List.drop_nil, List.drop_nil]; exact dens_nil
  | d :: ds, vs, 0, h => h
  | d :: ds, vs, n + 1, h => by
    unfold Dens at h
    obtain ⟨v, r, q, a, b⟩ := h
    subst q
    exact Dens.drop n b
theorem Dens.rev : ∀ {ds : List D} {vs : List V}, Dens K p F ds vs → Dens K p F ds.reverse vs.reverse
  | [], vs, h => by unfold Dens at h; subst h; exact dens_nil
  | d :: ds, vs, h => by
    unfold Dens at h
    obtain ⟨v, r, q, a, b⟩ := h
    subst q
    rw [List.reverse_cons, List.reverse_cons]
    exact Dens.append (Dens.rev b) (dens_cons a dens_nil)
theorem Dens.ints : ∀ (ns : List Int), Dens K p F (ns.map D.int) (ns.map V.int)
  | [] => dens_nil
  | n :: ns => dens_cons (by unfold Den; rfl) (Dens.ints ns)
theorem Dens.ints' : ∀ {ns : List Int} {vs : List V}, Dens K p F (ns.map D.int) vs → vs = ns.map V.int
  | [], vs, h => by unfold Dens at h; exact h
  | n :: ns, vs, h => by
    obtain ⟨v, r, q, a, b⟩ := (show ∃ v r, vs = v :: r ∧ Den K p F (.int n) v ∧ Dens K p F (ns.map D.int) r by
      have h' := h
      rw [List.map_cons] at h'
      unfold Dens at h'
      exact h')
    unfold Den at a
    rw [q, a, Dens.ints' b]
    rfl
theorem Dens.bls : ∀ (ns : List Bool), Dens K p F (ns.map D.bl) (ns.map V.bl)
  | [] => dens_nil
  | n :: ns => dens_cons (by unfold Den; rfl) (Dens.bls ns)
theorem Dens.bls' : ∀ {ns : List Bool} {vs : List V}, Dens K p F (ns.map D.bl) vs → vs = ns.map V.bl
  | [], vs, h => by unfold Dens at h; exact h
  | n :: ns, vs, h => by
    obtain ⟨v, r, q, a, b⟩ := (show ∃ v r, vs = v :: r ∧ Den K p F (.bl n) v ∧ Dens K p F (ns.map D.bl) r by
      have h' := h
      rw [List.map_cons] at h'
      unfold Dens at h'
      exact h')
    unfold Den at a
    rw [q, a, Dens.bls' b]
    rfl
end
/-- the drawn list stands at p -/
def Dr (p : Addr) (F H : Hp) (w : Wd) : Prop := ∃ a, H p = some (.lst [.ref a, .int 0, .int w.c]) ∧ F a = some (.lst (w.ns.map V.int))
/-- a list of one's own: not known to others -/
def OwnL (K : PySem.W.Frag) (p : Addr) (F H : Hp) (a : Addr) (xs : List D) : Prop := ∃ vs, H a = some (.lst vs) ∧ F a = none ∧ a ≠ p ∧ Dens K p F xs vs
def SlR (K : PySem.W.Frag) (Z : Cfg) (F H : Hp) (a : Addr) (σ : St) (i : Nat) : Sl → Prop
  | .no => True
  | .d x => ∃ u, σ[i]? = some (some u) ∧ Den K Z.p F x u
  | .own xs => σ[i]? = some (some (.ref a)) ∧ OwnL K Z.p F H a xs ∧ Z.H0 a = none
  | .mu k xs => σ[i]? = some (some (.ref a)) ∧ OwnL K Z.p F H a xs ∧ Z.M[k]? = some a
def isOwn (ds : List Sl) (i : Nat) : Prop := ∃ s, ds[i]? = some s ∧ s.ow = true
structure R (K : PySem.W.Frag) (Z : Cfg) (F H : Hp) (σ : St) (ds : List Sl) (w : Wd) : Prop where
  ex : Same F H
  fp : F Z.p = none
  dr : Dr Z.p F H w
  pm : Z.p ∉ Z.M
  hm : ∀ b ∈ Z.M, (∃ o, H b = some o) ∧ F b = none
  m0 : ∀ b ∈ Z.M, ∃ o, Z.H0 b = some o
  keep : ∀ b o, b ≠ Z.p → b ∉ Z.M → Z.H0 b = some o → H b = some o
  nw : ∀ b o, F b = some o → Z.F0 b = some o ∨ Z.H0 b = none
  f0 : Same Z.F0 F
  len : σ.length = ds.length
  env : ∃ α : Nat → Addr, (∀ i j, isOwn ds i → isOwn ds j → α i = α j → i = j) ∧ ∀ i s, ds[i]? = some s → SlR K Z F H (α i) σ i s
structure Stp (p : Addr) (F H F' H' : Hp) : Prop where
  f : Same F F'
  h : ∀ b o, b ≠ p → H b = some o → H' b = some o
  e : Same F' H'
  n : ∀ b o, F' b = some o → F b = some o ∨ H b = none
  fp : F' p = none
section
variable {K : PySem.W.Frag} {Z : Cfg} {p a : Addr} {F H F' H' F2 H2 : Hp} {σ : St} {ds : List Sl} {w w' : Wd} {xs : List D} {d : D} {v : V}
theorem Stp.refl (h : Same F H) (hp : F p = none) : Stp p F H F H := ⟨Same.refl _, fun _ _ _ e => e, h, fun _ _ e => .inl e, hp⟩
theorem Stp.trans (x : Stp p F H F' H') (y : Stp p F' H' F2 H2) : Stp p F H F2 H2 := by
  refine ⟨x.f.trans y.f, fun b o n e => y.h b o n (x.h b o n e), y.e, fun b o e => ?_, y.fp⟩
  have hb : b ≠ p := by
    rintro rfl
    rw [y.fp] at e
    cases e
  rcases y.n b o e with q | q
  · exact x.n b o q
  · right
    cases k : H b with
    | none => rfl
    | some u =>
      rw [x.h b u hb k] at q
      cases q
theorem OwnL.step (x : OwnL K p F H a xs) (y : Stp p F H F' H') : OwnL K p F' H' a xs := by
  obtain ⟨vs, h1, h2, h3, h4⟩ := x
  refine ⟨vs, y.h a _ h3 h1, ?_, h3, h4.mono y.f⟩
  cases k : F' a with
  | none => rfl
  | some o =>
    rcases y.n a o k with q | q
    · rw [h2] at q
      cases q
    · rw [h1] at q
      cases q
theorem R.step (r : R K Z F H σ ds w) (y : Stp Z.p F H F' H') (dr : Dr Z.p F' H' w') : R K Z F' H' σ ds w' := by
  refine ⟨y.e, y.fp, dr, r.pm, fun b hb => ?_, r.m0, fun b o n m e => y.h b o n (r.keep b o n m e), fun b o e => ?_, r.f0.trans y.f, r.len, ?_⟩
  · obtain ⟨⟨o, ho⟩, hf⟩ := r.hm b hb
    have hbp : b ≠ Z.p := by
      rintro rfl
      exact r.pm hb
    refine ⟨⟨o, y.h b o hbp ho⟩, ?_⟩
    cases k : F' b with
    | none => rfl
    | some u =>
      rcases y.n b u k with q | q
      · rw [hf] at q
        cases q
      · rw [ho] at q
        cases q
  · rcases y.n b o e with q | q
    · exact r.nw b o q
    · right
      have hbp : b ≠ Z.p := by
        rintro rfl
        rw [y.fp] at e
        cases e
      cases k : Z.H0 b with
      | none => rfl
      | some u =>
        by_cases hm : b ∈ Z.M
        · obtain ⟨⟨o', ho'⟩, _⟩ := r.hm b hm
          rw [q] at ho'
          cases ho'
        · rw [r.keep b u hbp hm k] at q
          cases q
  · obtain ⟨α, inj, hs⟩ := r.env
    refine ⟨α, inj, fun i s e => ?_⟩
    have h := hs i s e
    cases s with
    | no => trivial
    | d x =>
      obtain ⟨u, h1, h2⟩ := h
      exact ⟨u, h1, Den.mono y.f x u h2⟩
    | own xs =>
      obtain ⟨h1, h2, h3⟩ := h
      exact ⟨h1, h2.step y, h3⟩
    | mu k xs =>
      obtain ⟨h1, h2, h3⟩ := h
      exact ⟨h1, h2.step y, h3⟩
theorem R.stp (r : R K Z F H σ ds w) : Stp Z.p F H F H := Stp.refl r.ex r.fp
theorem R.np (r : R K Z F H σ ds w) {q : Addr} (h : H q = none) : q ≠ Z.p := by
  rintro rfl
  obtain ⟨a, h1, _⟩ := r.dr
  rw [h] at h1
  cases h1
/-- a new object, known to all -/
theorem R.new (r : R K Z F H σ ds w) {q : Addr} {o : HO} (h : H q = none) : Stp Z.p F H (upd F q o) (upd H q o) ∧ Dr Z.p (upd F q o) (upd H q o) w := by
  have hp := r.np h
  have hf : F q = none := r.ex.free h
  have s1 : Same F (upd F q o) := fun b u e => by rw [upd_ne (ne_of_none e hf)]; exact e
  refine ⟨⟨s1, fun b u _ e => by rw [upd_ne (ne_of_none e h)]; exact e, fun b u e => ?_, fun b u e => ?_, by rw [upd_ne (Ne.symm hp)]; exact r.fp⟩, ?_⟩
  · by_cases hb : b = q
    · subst hb
      rw [upd_same] at e ⊢
      exact e
    · rw [upd_ne hb] at e ⊢
      exact r.ex b u e
  · by_cases hb : b = q
    · subst hb
      exact .inr h
    · rw [upd_ne hb] at e
      exact .inl e
  · obtain ⟨a, h1, h2⟩ := r.dr
    exact ⟨a, by rw [upd_ne (Ne.symm hp)]; exact h1, s1 _ _ h2⟩
/-- a new object, one's own -/
theorem R.newO (r : R K Z F H σ ds w) {q : Addr} {o : HO} (h : H q = none) : Stp Z.p F H F (upd H q o) ∧ Dr Z.p F (upd H q o) w := by
  have hp := r.np h
  refine ⟨⟨Same.refl _, fun b u _ e => by rw [upd_ne (ne_of_none e h)]; exact e, fun b u e => ?_, fun b u e => .inl e, r.fp⟩, ?_⟩
  · rw [upd_ne (ne_of_none (r.ex b u e) h)]
    exact r.ex b u e
  · obtain ⟨a, h1, h2⟩ := r.dr
    exact ⟨a, by rw [upd_ne (Ne.symm hp)]; exact h1, h2⟩
/-- what is one's own is told to all -/
theorem Stp.tell (y : Stp p F H F' H') {q : Addr} {o : HO} (h : H' q = some o) (hq : H q = none) (hp : q ≠ p) : Stp p F H (upd F' q o) H' := by
  refine ⟨fun b u e => ?_, y.h, fun b u e => ?_, fun b u e => ?_, by rw [upd_ne (Ne.symm hp)]; exact y.fp⟩
  · by_cases hb : b = q
    · subst hb
      rw [upd_same]
      have := y.e _ _ (y.f _ _ e)
      rw [h] at this
      exact this
    · rw [upd_ne hb]
      exact y.f _ _ e
  · by_cases hb : b = q
    · subst hb
      rw [upd_same] at e
      rw [← e]
      exact h
    · rw [upd_ne hb] at e
      exact y.e b u e
  · by_cases hb : b = q
    · subst hb
      exact .inr hq
    · rw [upd_ne hb] at e
      exact y.n b u e
theorem Dr.tell {q : Addr} {o : HO} (x : Dr p F' H' w) (f : F' q = none) : Dr p (upd F' q o) H' w := by
  obtain ⟨a, h1, h2⟩ := x
  exact ⟨a, h1, by rw [upd_ne (ne_of_none h2 f)]; exact h2⟩
theorem same_tell {q : Addr} {o : HO} (f : F' q = none) : Same F' (upd F' q o) := fun b u e => by rw [upd_ne (ne_of_none e f)]; exact e
/-- a value that is read, not kept: also a list of one's own -/
def DenB (K : PySem.W.Frag) (p : Addr) (F H : Hp) (d : D) (v : V) : Prop := Den K p F d v ∨ ∃ a xs, d = .lst xs ∧ v = .ref a ∧ OwnL K p F H a xs
theorem DenB.step (x : DenB K p F H d v) (y : Stp p F H F' H') : DenB K p F' H' d v := by
  rcases x with x | ⟨a, xs, e1, e2, o⟩
  · exact .inl (x.mono y.f)
  · exact .inr ⟨a, xs, e1, e2, o.step y⟩
theorem DenB.lst (x : DenB K p F H (.lst xs) v) (e : Same F H) : ∃ a vs, v = .ref a ∧ H a = some (.lst vs) ∧ Dens K p F xs vs := by
  rcases x with x | ⟨a, ys, e1, e2, o⟩
  · unfold Den at x
    obtain ⟨a, vs, h1, h2, h3⟩ := x
    exact ⟨a, vs, h1, e _ _ h2, h3⟩
  · cases e1
    obtain ⟨vs, h1, h2, h3, h4⟩ := o
    exact ⟨a, vs, e2, h1, h4⟩
theorem DenB.tup (x : DenB K p F H (.tup xs) v) : ∃ a vs, v = .ref a ∧ SqU K F a vs ∧ Dens K p F xs vs := by
  rcases x with x | ⟨a, ys, e1, e2, o⟩
  · unfold Den at x
    exact x
  · cases e1
theorem DenB.int {i : Int} (x : DenB K p F H (.int i) v) : v = .int i := by
  rcases x with x | ⟨a, ys, e1, e2, o⟩
  · unfold Den at x
    exact x
  · cases e1
theorem DenB.str {i : Str} (x : DenB K p F H (.str i) v) : v = .str i := by
  rcases x with x | ⟨a, ys, e1, e2, o⟩
  · unfold Den at x
    exact x
  · cases e1
theorem DenB.bl {i : Bool} (x : DenB K p F H (.bl i) v) : v = .bl i := by
  rcases x with x | ⟨a, ys, e1, e2, o⟩
  · unfold Den at x
    exact x
  · cases e1
theorem DenB.non (x : DenB K p F H .non v) : v = .non := by
  rcases x with x | ⟨a, ys, e1, e2, o⟩
  · unfold Den at x
    exact x
  · cases e1
theorem den_int {i : Int} : Den K p F (.int i) (.int i) := by unfold Den; rfl
theorem den_str {i : Str} : Den K p F (.str i) (.str i) := by unfold Den; rfl
theorem den_bl {i : Bool} : Den K p F (.bl i) (.bl i) := by unfold Den; rfl
theorem den_non : Den K p F .non .non := by unfold Den; rfl
theorem den_lst {vs : List V} (h : F a = some (.lst vs)) (r : Dens K p F xs vs) : Den K p F (.lst xs) (.ref a) := by unfold Den; exact ⟨a, vs, rfl, h, r⟩
theorem den_tup {vs : List V} (h : SqU K F a vs) (r : Dens K p F xs vs) : Den K p F (.tup xs) (.ref a) := by unfold Den; exact ⟨a, vs, rfl, h, r⟩
end
/-! ### what expressions are -/
abbrev Ev := List Sl → Wd → Option (D × Wd)
abbrev Ef := List Sl → Wd → Option (List D × Wd)
abbrev Et := List Sl → Wd → Option (Bool × Wd)
/-- what follows, if a value with the data d comes -/
def KD (K : PySem.W.Frag) (p : Addr) (F H : Hp) (w' : Wd) (d : D) (Q : VK) : Prop := ∀ v F' H', Stp p F H F' H' → Dr p F' H' w' → Den K p F' d v → Q v H'
def KB (K : PySem.W.Frag) (p : Addr) (F H : Hp) (w' : Wd) (d : D) (Q : VK) : Prop := ∀ v F' H', Stp p F H F' H' → Dr p F' H' w' → DenB K p F' H' d v → Q v H'
/-- .. a new list, one's own -/
def KF (K : PySem.W.Frag) (p : Addr) (F H : Hp) (w' : Wd) (xs : List D) (Q : VK) : Prop := ∀ q vs F' H', Stp p F H F' H' → Dr p F' H' w' → H' q = some (.lst vs) → H q = none → F' q = none → q ≠ p → Dens K p F' xs vs → Q (.ref q) H'
def KT (p : Addr) (F H : Hp) (w' : Wd) (b : Bool) (Q : Bool → Hp → Prop) : Prop := ∀ F' H', Stp p F H F' H' → Dr p F' H' w' → Q b H'
def KA (K : PySem.W.Frag) (p : Addr) (F H : Hp) (w' : Wd) (xs : List D) (Q : List V → Hp → Prop) : Prop := ∀ vs F' H', Stp p F H F' H' → Dr p F' H' w' → Dens K p F' xs vs → Q vs H'
def canE (K : PySem.W.Frag) (f : Ev) : TE := fun σ H Q => ∃ Z F ds w d w', R K Z F H σ ds w ∧ f ds w = some (d, w') ∧ KD K Z.p F H w' d Q
def canB (K : PySem.W.Frag) (f : Ev) : TE := fun σ H Q => ∃ Z F ds w d w', R K Z F H σ ds w ∧ f ds w = some (d, w') ∧ KB K Z.p F H w' d Q
def canF (K : PySem.W.Frag) (f : Ef) : TE := fun σ H Q => ∃ Z F ds w d w', R K Z F H σ ds w ∧ f ds w = some (d, w') ∧ KF K Z.p F H w' d Q
def canT (K : PySem.W.Frag) (f : Et) : TT := fun σ H Q => ∃ Z F ds w d w', R K Z F H σ ds w ∧ f ds w = some (d, w') ∧ KT Z.p F H w' d Q
def canA (K : PySem.W.Frag) (f : Ef) : TA := fun σ H Q => ∃ Z F ds w d w', R K Z F H σ ds w ∧ f ds w = some (d, w') ∧ KA K Z.p F H w' d Q
structure JE (X : Cx) (e : Expr) (f : Ev) : Prop where run : PE X e (canE X.K f)
structure JB (X : Cx) (e : Expr) (f : Ev) : Prop where run : PE X e (canB X.K f)
structure JF (X : Cx) (e : Expr) (f : Ef) : Prop where run : PE X e (canF X.K f)
structure JT (X : Cx) (e : Expr) (f : Et) : Prop where run : PT X e (canT X.K f)
structure JW (X : Cx) (e : Expr) (f : Et) : Prop where run : PW X e (canT X.K f)
structure JA (X : Cx) (es : List Expr) (f : Ef) : Prop where run : PA X es (canA X.K f)
theorem pe_weak {X : Cx} {e : Expr} {t t' : TE} (h : PE X e t) (s : ∀ σ H Q, t' σ H Q → t σ H Q) : PE X e t' := ⟨fun pins s' σ H Q I q => h.run pins s' σ H Q I (s σ H Q q)⟩
theorem pt_weak {X : Cx} {e : Expr} {t t' : TT} (h : PT X e t) (s : ∀ σ H Q, t' σ H Q → t σ H Q) : PT X e t' := ⟨fun pins s' σ H Q I q => h.run pins s' σ H Q I (s σ H Q q)⟩
theorem pw_weak {X : Cx} {e : Expr} {t t' : TT} (h : PW X e t) (s : ∀ σ H Q, t' σ H Q → t σ H Q) : PW X e t' := ⟨fun wh pins s' σ H Q I q => h.run wh pins s' σ H Q I (s σ H Q q)⟩
theorem pa_weak {X : Cx} {e : List Expr} {t t' : TA} (h : PA X e t) (s : ∀ σ H Q, t' σ H Q → t σ H Q) : PA X e t' := ⟨fun pos pins s' σ H Q I q => h.run pos pins s' σ H Q I (s σ H Q q)⟩
section
variable {K : PySem.W.Frag} {p : Addr} {F H F' H' : Hp} {w w' : Wd} {d : D} {xs : List D} {Q : VK}
theorem KD.go (k : KD K p F H w' d Q) (s : Stp p F H F' H') : KD K p F' H' w' d Q := fun v F2 H2 s2 => k v F2 H2 (s.trans s2)
theorem KB.go (k : KB K p F H w' d Q) (s : Stp p F H F' H') : KB K p F' H' w' d Q := fun v F2 H2 s2 => k v F2 H2 (s.trans s2)
theorem KT.go {b : Bool} {Q : Bool → Hp → Prop} (k : KT p F H w' b Q) (s : Stp p F H F' H') : KT p F' H' w' b Q := fun F2 H2 s2 => k F2 H2 (s.trans s2)
theorem KA.go {Q : List V → Hp → Prop} (k : KA K p F H w' xs Q) (s : Stp p F H F' H') : KA K p F' H' w' xs Q := fun v F2 H2 s2 => k v F2 H2 (s.trans s2)
theorem KF.go (k : KF K p F H w' xs Q) (s : Stp p F H F' H') (np : H p ≠ none) : KF K p F' H' w' xs Q := fun q vs F2 H2 s2 dr h1 h2 h3 h4 h5 => by
  refine k q vs F2 H2 (s.trans s2) dr h1 ?_ h3 h4 h5
  cases e : H q with
  | none => rfl
  | some o =>
    rw [s.h q o h4 e] at h2
    cases h2
theorem KB.toD (k : KB K p F H w' d Q) : KD K p F H w' d Q := fun v F2 H2 s dr h => k v F2 H2 s dr (.inl h)
/-- a new list that is told to all -/
theorem KD.toF (k : KD K p F H w' (.lst xs) Q) : KF K p F H w' xs Q := fun q vs F2 H2 s dr h1 h2 h3 h4 h5 =>
  k (.ref q) (upd F2 q (.lst vs)) H2 (s.tell h1 h2 h4) (dr.tell h3) (den_lst upd_same (h5.mono (same_tell h3)))
end
section
variable {X : Cx} {e : Expr} {f : Ev}
theorem JE.toB (h : JE X e f) : JB X e f := ⟨pe_weak h.run fun σ H Q ⟨Z, F, ds, w, d, w', r, hf, k⟩ => ⟨Z, F, ds, w, d, w', r, hf, k.toD⟩⟩
def eL (f : Ef) : Ev := fun ds w => (f ds w).bind fun r => some (.lst r.1, r.2)
theorem JF.toE {f : Ef} (h : JF X e f) : JE X e (eL f) := ⟨pe_weak h.run fun σ H Q ⟨Z, F, ds, w, d, w', r, hf, k⟩ => by
  unfold eL at hf
  cases q : f ds w with
  | none =>
    rw [q] at hf
    cases hf
  | some y =>
    rw [q] at hf
    cases hf
    exact ⟨Z, F, ds, w, _, _, r, q, k.toF⟩⟩
theorem JF.toB {f : Ef} (h : JF X e f) : JB X e (eL f) := h.toE.toB
end
end J
namespace J
open PySem L2
section
variable {X : Cx} {K : PySem.W.Frag}
theorem bind2 {α β : Type} {x : Option α} {f : α → Option β} {r : β} (h : x.bind f = some r) : ∃ a, x = some a ∧ f a = some r := by
  cases x with
  | none => cases h
  | some a => exact ⟨a, rfl, h⟩
/-! ### names, constants -/
def eVar (i : Nat) : Ev := fun ds w => match ds[i]? with | some (.d x) => some (x, w) | _ => none
def eBor (i : Nat) : Ev := fun ds w => match ds[i]? with | some (.d x) => some (x, w) | some (.own xs) => some (.lst xs, w) | some (.mu _ xs) => some (.lst xs, w) | _ => none
def eC (d : D) : Ev := fun _ w => some (d, w)
theorem je_var (i : Nat) {x : Str} {pos : Pos} (hN : X.N[i]? = some x := by rfl) (hv : Vis X.env.scope x := by first | exact Or.inl rfl | exact Or.inr (Or.inl rfl) | exact Or.inr (Or.inr rfl)) (hd : (x == ("__debug__" : Str)) = false := by decide)
    (hcd : (x == ("__classdict__" : Str)) = false := by decide) : JE X (.Name x pos) (eVar i) := ⟨pe_weak (pe_var hN hv hd hcd) fun σ H Q ⟨Z, F, ds, w, d, w', r, hf, k⟩ => by
  unfold eVar at hf
  split at hf
  · rename_i x' e
    cases hf
    obtain ⟨α, _, hs⟩ := r.env
    obtain ⟨u, h1, h2⟩ := hs i _ e
    exact ⟨u, h1, k u F H r.stp r.dr h2⟩
  · cases hf⟩
theorem jb_var (i : Nat) {x : Str} {pos : Pos} (hN : X.N[i]? = some x := by rfl) (hv : Vis X.env.scope x := by first | exact Or.inl rfl | exact Or.inr (Or.inl rfl) | exact Or.inr (Or.inr rfl)) (hd : (x == ("__debug__" : Str)) = false := by decide)
    (hcd : (x == ("__classdict__" : Str)) = false := by decide) : JB X (.Name x pos) (eBor i) := ⟨pe_weak (pe_var hN hv hd hcd) fun σ H Q ⟨Z, F, ds, w, d, w', r, hf, k⟩ => by
  obtain ⟨α, _, hs⟩ := r.env
  unfold eBor at hf
  split at hf
  · rename_i x' e
    cases hf
    obtain ⟨u, h1, h2⟩ := hs i _ e
    exact ⟨u, h1, k u F H r.stp r.dr (.inl h2)⟩
  · rename_i xs e
    cases hf
    obtain ⟨h1, h2, _⟩ := hs i _ e
    exact ⟨_, h1, k _ F H r.stp r.dr (.inr ⟨_, _, rfl, rfl, h2⟩)⟩
  · rename_i xs e
    cases hf
    obtain ⟨h1, h2, _⟩ := hs i _ e
    exact ⟨_, h1, k _ F H r.stp r.dr (.inr ⟨_, _, rfl, rfl, h2⟩)⟩
  · cases hf⟩
theorem je_C {e : Expr} {v : V} {d : D} (h : PE X e (tC v)) (hd : ∀ p F, Den X.K p F d v) : JE X e (eC d) := ⟨pe_weak h fun σ H Q ⟨Z, F, ds, w, d', w', r, hf, k⟩ => by
  cases hf
  exact k v F H r.stp r.dr (hd _ _)⟩
theorem je_int {i j pos} : JE X (.Constant (.int i) j pos) (eC (.int i)) := je_C pe_int fun _ _ => den_int
theorem je_str {i j pos} : JE X (.Constant (.str i) j pos) (eC (.str i)) := je_C pe_str fun _ _ => den_str
theorem je_bl {i j pos} : JE X (.Constant (.bool i) j pos) (eC (.bl i)) := je_C pe_bl fun _ _ => den_bl
theorem je_non {j pos} : JE X (.Constant .none j pos) (eC .non) := je_C pe_non fun _ _ => den_non
theorem je_ty {x : Str} {n : String} {pos : Pos} (hg : Gl X x) (hm : X.mg x = none) (hv : bootBuiltins x = some (.type n)) (hn : x ≠ "__name__" := by decide) (hd : (x == ("__debug__" : Str)) = false := by decide) : JE X (.Name x pos) (eC (.ty n)) :=
  je_C (pe_bltn (v := .ty n) hg hm hv rfl hn hd) fun _ _ => by unfold Den; rfl
theorem je_glob {x : Str} {v : V} {u : Value} {d : D} {pos : Pos} (hg : Gl X x) (hm : X.mg x = some u) (r : RelV v u) (h : ∀ p F, Den X.K p F d v) (hd : (x == ("__debug__" : Str)) = false := by decide) : JE X (.Name x pos) (eC d) := je_C (pe_glob hg hm r hd) h
/-! ### two operands -/
def eBin (g : D → D → Option D) (fa fb : Ev) : Ev := fun ds w => (fa ds w).bind fun a => (fb ds a.2).bind fun b => (g a.1 b.1).bind fun d => some (d, b.2)
def OpS (K : PySem.W.Frag) (r : R2) (g : D → D → Option D) : Prop := ∀ (Z : Cfg) (F H : Hp) (σ : L2.St) (ds : List Sl) (w : Wd) (a b d : D) (x y : V) (Q : VK), R K Z F H σ ds w → DenB K Z.p F H a x → DenB K Z.p F H b y → g a b = some d → KD K Z.p F H w d Q → r x y H Q
theorem can2 {Z : Cfg} {F H : Hp} {σ : L2.St} {ds : List Sl} {w w1 w2 : Wd} {fa fb : Ev} {a b : D} {P : V → V → Hp → Prop} (r : R K Z F H σ ds w) (ha : fa ds w = some (a, w1)) (hb : fb ds w1 = some (b, w2))
    (k : ∀ x y F' H', Stp Z.p F H F' H' → R K Z F' H' σ ds w2 → DenB K Z.p F' H' a x → DenB K Z.p F' H' b y → P x y H') : canB K fa σ H fun x H1 => canB K fb σ H1 fun y H2 => P x y H2 :=
  ⟨Z, F, ds, w, a, w1, r, ha, fun x F1 H1 s1 d1 hx => ⟨Z, F1, ds, w1, b, w2, r.step s1 d1, hb, fun y F2 H2 s2 d2 hy => k x y F2 H2 (s1.trans s2) (r.step (s1.trans s2) d2) (hx.step s2) hy⟩⟩
theorem tOp_of {r : R2} {g : D → D → Option D} {fa fb : Ev} (hs : OpS K r g) (σ : L2.St) (H : Hp) (Q : VK) : canE K (eBin g fa fb) σ H Q → tOp r (canB K fa) (canB K fb) σ H Q := fun ⟨Z, F, ds, w, d, w', rr, hf, k⟩ => by
  obtain ⟨a, ha, hf⟩ := bind2 hf
  obtain ⟨b, hb, hf⟩ := bind2 hf
  obtain ⟨c, hc, hf⟩ := bind2 hf
  cases hf
  exact can2 rr ha hb fun x y F' H' s r' hx hy => hs Z F' H' σ ds _ _ _ _ x y Q r' hx hy hc (k.go s)
variable {a b c : Expr} {fa fb fc : Ev} {pos : Pos} {g g' : D → D → Option D} {r r' : R2}
theorem je_op {op} (ho : OpR X (binaryOp op) r) (hs : OpS X.K r g) (ha : JB X a fa) (hb : JB X b fb) : JE X (.BinOp a op b pos) (eBin g fa fb) := ⟨pe_weak (pe_op ho ha.run hb.run) (tOp_of hs)⟩
theorem je_cmpO {op} (ho : OpR X (compareOp op) r) (hs : OpS X.K r g) (ha : JB X a fa) (hb : JB X b fb) (hm : behindInMarks op b = false) : JE X (.Compare a [op] [b] pos) (eBin g fa fb) := ⟨pe_weak (pe_cmpR ho ha.run hb.run hm) (tOp_of hs)⟩
/-- a value of truth, as a test -/
def eTest (f : Ev) : Et := fun ds w => (f ds w).bind fun d => match d.1 with | .bl b => some (b, d.2) | _ => none
theorem test_of {f : Ev} {e : Expr} {t : TE} (σ : L2.St) (H : Hp) (Q : Bool → Hp → Prop) (h : ∀ Q, canE K f σ H Q → t σ H Q) : canT K (eTest f) σ H Q → t σ H fun x H1 => ∃ k, x = .bl k ∧ Q k H1 := fun ⟨Z, F, ds, w, d, w', rr, hf, k⟩ => by
  obtain ⟨x, hx, hf⟩ := bind2 hf
  obtain ⟨x, w1⟩ := x
  cases x with
  | bl b =>
    cases hf
    refine h _ ⟨Z, F, ds, w, _, _, rr, hx, fun v F' H' s dr hv => ?_⟩
    unfold Den at hv
    exact ⟨_, hv, k F' H' s dr⟩
  | _ => cases hf
theorem jt_cmpO {op} (ho : OpR X (compareOp op) r) (hs : OpS X.K r g) (ha : JB X a fa) (hb : JB X b fb) (hm : behindInMarks op b = false) : JT X (.Compare a [op] [b] pos) (eTest (eBin g fa fb)) :=
  ⟨pt_weak (pt_cmpR ho ha.run hb.run hm) fun σ H Q q => test_of (e := a) σ H Q (fun Q => tOp_of hs σ H Q) q⟩
theorem jt_val {e : Expr} {f : Ev} (h : JE X e f) (he : ∀ whole, isTrue e X.env whole = (do let v ← whole; standAt e.pos; holding [v] (truthy v)) := by intro _; rfl) : JT X e (eTest f) :=
  ⟨pt_weak (pt_val h.run he) fun σ H Q q => test_of (e := e) σ H Q (fun Q q => q) q⟩
/-! chains -/
def eChain (g g' : D → D → Option D) (fa fb fc : Ev) : Ev := fun ds w => (fa ds w).bind fun a => (fb ds a.2).bind fun b => match g a.1 b.1 with
  | some (.bl true) => (fc ds b.2).bind fun c => (g' b.1 c.1).bind fun d => some (d, c.2)
  | some (.bl false) => some (.bl false, b.2)
  | _ => none
theorem chain_of (hs : OpS K r g) (hs' : OpS K r' g') (σ : L2.St) (H : Hp) (Q : VK) : canE K (eChain g g' fa fb fc) σ H Q → tChain r r' (canB K fa) (canB K fb) (canB K fc) σ H Q := fun ⟨Z, F, ds, w, d, w', rr, hf, k⟩ => by
  obtain ⟨a, ha, hf⟩ := bind2 hf
  obtain ⟨b, hb, hf⟩ := bind2 hf
  refine can2 rr ha hb fun x y F' H' s r' hx hy => ?_
  split at hf
  · rename_i hg
    refine hs Z F' H' σ ds _ _ _ _ x y _ r' hx hy hg fun z F2 H2 s2 d2 hz => ?_
    unfold Den at hz
    refine ⟨true, hz, ?_⟩
    rw [if_pos rfl]
    obtain ⟨c, hc, hf⟩ := bind2 hf
    obtain ⟨d', hd, hf⟩ := bind2 hf
    cases hf
    refine ⟨Z, F2, ds, _, _, _, r'.step s2 d2, hc, fun v F3 H3 s3 d3 hv => ?_⟩
    exact hs' Z F3 H3 σ ds _ _ _ _ y v Q (r'.step (s2.trans s3) d3) ((hy.step s2).step s3) hv hd (k.go ((s.trans s2).trans s3))
  · rename_i hg
    cases hf
    refine hs Z F' H' σ ds _ _ _ _ x y _ r' hx hy hg fun z F2 H2 s2 d2 hz => ?_
    unfold Den at hz
    refine ⟨false, hz, ?_⟩
    rw [if_neg Bool.false_ne_true]
    exact k _ F2 H2 (s.trans s2) d2 den_bl
  · cases hf
theorem je_chainO {op op'} (ho : OpR X (compareOp op) r) (hs : OpS X.K r g) (ho' : OpR X (compareOp op') r') (hs' : OpS X.K r' g') (ha : JB X a fa) (hb : JB X b fb) (hc : JB X c fc)
    (hm : lastMarks [op, op'] [b, c] = false := by with_unfolding_all rfl) : JE X (.Compare a [op, op'] [b, c] pos) (eChain g g' fa fb fc) := ⟨pe_weak (pe_chain ho ho' ha.run hb.run hc.run hm) (chain_of hs hs')⟩
theorem jt_chainO {op op'} (ho : OpR X (compareOp op) r) (hs : OpS X.K r g) (ho' : OpR X (compareOp op') r') (hs' : OpS X.K r' g') (ha : JB X a fa) (hb : JB X b fb) (hc : JB X c fc)
    (hm : lastMarks [op, op'] [b, c] = false := by with_unfolding_all rfl) : JT X (.Compare a [op, op'] [b, c] pos) (eTest (eChain g g' fa fb fc)) :=
  ⟨pt_weak (pt_chain ho ho' ha.run hb.run hc.run hm) fun σ H Q q => test_of (e := a) σ H Q (fun Q => chain_of hs hs' σ H Q) q⟩
/-! ### and, or, not, if -/
variable {rest : List Expr} {ta tb tc : Et}
def tAndJ (a b : Et) : Et := fun ds w => (a ds w).bind fun r => if r.1 = true then b ds r.2 else some (false, r.2)
def tOrJ (a b : Et) : Et := fun ds w => (a ds w).bind fun r => if r.1 = true then some (true, r.2) else b ds r.2
def tNotJ (a : Et) : Et := fun ds w => (a ds w).bind fun r => some (!r.1, r.2)
theorem and_of (σ : L2.St) (H : Hp) (Q : Bool → Hp → Prop) : canT K (tAndJ ta tb) σ H Q → tAnd (canT K ta) (canT K tb) σ H Q := fun ⟨Z, F, ds, w, d, w', rr, hf, k⟩ => by
  obtain ⟨a, ha, hf⟩ := bind2 hf
  refine ⟨Z, F, ds, w, _, _, rr, ha, fun F1 H1 s1 d1 => ?_⟩
  dsimp only
  split
  · rename_i h
    rw [if_pos h] at hf
    exact ⟨Z, F1, ds, _, _, _, rr.step s1 d1, hf, k.go s1⟩
  · rename_i h
    rw [if_neg h] at hf
    cases hf
    exact k F1 H1 s1 d1
theorem or_of (σ : L2.St) (H : Hp) (Q : Bool → Hp → Prop) : canT K (tOrJ ta tb) σ H Q → tOr (canT K ta) (canT K tb) σ H Q := fun ⟨Z, F, ds, w, d, w', rr, hf, k⟩ => by
  obtain ⟨a, ha, hf⟩ := bind2 hf
  refine ⟨Z, F, ds, w, _, _, rr, ha, fun F1 H1 s1 d1 => ?_⟩
  dsimp only
  split
  · rename_i h
    rw [if_pos h] at hf
    cases hf
    exact k F1 H1 s1 d1
  · rename_i h
    rw [if_neg h] at hf
    exact ⟨Z, F1, ds, _, _, _, rr.step s1 d1, hf, k.go s1⟩
theorem jw_and1 (ha : JT X a ta) : JW X (.BoolOp .And [a] pos) ta := ⟨pw_and1 ha.run⟩
theorem jw_or1 (ha : JT X a ta) : JW X (.BoolOp .Or [a] pos) ta := ⟨pw_or1 ha.run⟩
theorem jw_and (ha : JT X a ta) (hb : JW X (.BoolOp .And (b :: rest) pos) tb) : JW X (.BoolOp .And (a :: b :: rest) pos) (tAndJ ta tb) := ⟨pw_weak (pw_and ha.run hb.run) and_of⟩
theorem jw_or (ha : JT X a ta) (hb : JW X (.BoolOp .Or (b :: rest) pos) tb) : JW X (.BoolOp .Or (a :: b :: rest) pos) (tOrJ ta tb) := ⟨pw_weak (pw_or ha.run hb.run) or_of⟩
theorem JW.t {e : Expr} (h : JW X e ta) : JT X e ta := ⟨h.run.pt⟩
theorem jt_not (ha : JT X a ta) : JT X (.UnaryOp .Not a pos) (tNotJ ta) := ⟨pt_weak (pt_not ha.run) fun σ H Q ⟨Z, F, ds, w, d, w', rr, hf, k⟩ => by
  obtain ⟨a, ha, hf⟩ := bind2 hf
  cases hf
  exact ⟨Z, F, ds, w, _, _, rr, ha, fun F1 H1 s1 d1 => k F1 H1 s1 d1⟩⟩
/-! as values of truth -/
def eAnd (a b : Ev) : Ev := fun ds w => (a ds w).bind fun r => match r.1 with | .bl true => b ds r.2 | .bl false => some (.bl false, r.2) | _ => none
def eOr (a b : Ev) : Ev := fun ds w => (a ds w).bind fun r => match r.1 with | .bl true => some (.bl true, r.2) | .bl false => b ds r.2 | _ => none
def eNot (a : Ev) : Ev := fun ds w => (a ds w).bind fun r => match r.1 with | .bl b => some (.bl (!b), r.2) | _ => none
theorem je_one {op} {f : Ev} (h : JE X a f) : JE X (.BoolOp op [a] pos) f := ⟨pe_one h.run⟩
theorem je_and (ha : JE X a fa) (hb : JE X (.BoolOp .And (b :: rest) pos) fb) : JE X (.BoolOp .And (a :: b :: rest) pos) (eAnd fa fb) := ⟨pe_weak (pe_and ha.run hb.run) fun σ H Q ⟨Z, F, ds, w, d, w', rr, hf, k⟩ => by
  obtain ⟨⟨x, w1⟩, ha, hf⟩ := bind2 hf
  refine ⟨Z, F, ds, w, _, _, rr, ha, fun v F1 H1 s1 d1 hv => ?_⟩
  cases x with
  | bl c =>
    unfold Den at hv
    refine ⟨c, hv, ?_⟩
    cases c with
    | true =>
      rw [if_pos rfl]
      exact ⟨Z, F1, ds, _, _, _, rr.step s1 d1, hf, k.go s1⟩
    | false =>
      rw [if_neg Bool.false_ne_true]
      cases hf
      exact k _ F1 H1 s1 d1 den_bl
  | _ => cases hf⟩
theorem je_or (ha : JE X a fa) (hb : JE X (.BoolOp .Or (b :: rest) pos) fb) : JE X (.BoolOp .Or (a :: b :: rest) pos) (eOr fa fb) := ⟨pe_weak (pe_or ha.run hb.run) fun σ H Q ⟨Z, F, ds, w, d, w', rr, hf, k⟩ => by
  obtain ⟨⟨x, w1⟩, ha, hf⟩ := bind2 hf
  refine ⟨Z, F, ds, w, _, _, rr, ha, fun v F1 H1 s1 d1 hv => ?_⟩
  cases x with
  | bl c =>
    unfold Den at hv
    refine ⟨c, hv, ?_⟩
    cases c with
    | true =>
      rw [if_pos rfl]
      cases hf
      exact k _ F1 H1 s1 d1 den_bl
    | false =>
      rw [if_neg Bool.false_ne_true]
      exact ⟨Z, F1, ds, _, _, _, rr.step s1 d1, hf, k.go s1⟩
  | _ => cases hf⟩
theorem je_not (ha : JE X a fa) : JE X (.UnaryOp .Not a pos) (eNot fa) := ⟨pe_weak (pe_not ha.run) fun σ H Q ⟨Z, F, ds, w, d, w', rr, hf, k⟩ => by
  obtain ⟨⟨x, w1⟩, ha, hf⟩ := bind2 hf
  refine ⟨Z, F, ds, w, _, _, rr, ha, fun v F1 H1 s1 d1 hv => ?_⟩
  cases x with
  | bl c =>
    unfold Den at hv
    cases hf
    exact ⟨c, hv, k _ F1 H1 s1 d1 den_bl⟩
  | _ => cases hf⟩
def eIf (t : Et) (a b : Ev) : Ev := fun ds w => (t ds w).bind fun r => if r.1 = true then a ds r.2 else b ds r.2
theorem je_if (hc : JT X c tc) (ha : JE X a fa) (hb : JE X b fb) : JE X (.IfExp c a b pos) (eIf tc fa fb) := ⟨pe_weak (pe_ifExp hc.run ha.run hb.run) fun σ H Q ⟨Z, F, ds, w, d, w', rr, hf, k⟩ => by
  obtain ⟨x, hx, hf⟩ := bind2 hf
  refine ⟨Z, F, ds, w, _, _, rr, hx, fun F1 H1 s1 d1 => ?_⟩
  dsimp only
  split
  · rename_i h
    rw [if_pos h] at hf
    exact ⟨Z, F1, ds, _, _, _, rr.step s1 d1, hf, k.go s1⟩
  · rename_i h
    rw [if_neg h] at hf
    exact ⟨Z, F1, ds, _, _, _, rr.step s1 d1, hf, k.go s1⟩⟩
theorem jb_if (hc : JT X c tc) (ha : JB X a fa) (hb : JB X b fb) : JB X (.IfExp c a b pos) (eIf tc fa fb) := ⟨pe_weak (pe_ifExp hc.run ha.run hb.run) fun σ H Q ⟨Z, F, ds, w, d, w', rr, hf, k⟩ => by
  obtain ⟨x, hx, hf⟩ := bind2 hf
  refine ⟨Z, F, ds, w, _, _, rr, hx, fun F1 H1 s1 d1 => ?_⟩
  dsimp only
  split
  · rename_i h
    rw [if_pos h] at hf
    exact ⟨Z, F1, ds, _, _, _, rr.step s1 d1, hf, k.go s1⟩
  · rename_i h
    rw [if_neg h] at hf
    exact ⟨Z, F1, ds, _, _, _, rr.step s1 d1, hf, k.go s1⟩⟩
end
/-! ### lists of arguments -/
def DensB (K : PySem.W.Frag) (p : Addr) (F H : Hp) : List D → List V → Prop
  | [], vs => vs = []
  | d :: ds, vs => ∃ v r, vs = v :: r ∧ DenB K p F H d v ∧ DensB K p F H ds r
theorem DensB.step {K : PySem.W.Frag} {p : Addr} {F H F' H' : Hp} (y : Stp p F H F' H') : ∀ {ds : List D} {vs : List V}, DensB K p F H ds vs → DensB K p F' H' ds vs
  | [], _, h => h
  | _ :: _, _, ⟨v, r, e, a, b⟩ => ⟨v, r, e, a.step y, DensB.step y b⟩
def canR (K : PySem.W.Frag) (f : Ef) : TA := fun σ H Q => ∃ Z F ds w d w', R K Z F H σ ds w ∧ f ds w = some (d, w') ∧ ∀ vs F' H', Stp Z.p F H F' H' → Dr Z.p F' H' w' → DensB K Z.p F' H' d vs → Q vs H'
structure JR (X : Cx) (es : List Expr) (f : Ef) : Prop where run : PA X es (canR X.K f)
section
variable {X : Cx} {K : PySem.W.Frag} {e : Expr} {es : List Expr} {f : Ev} {fs : Ef} {pos : Pos}
def aNil : Ef := fun _ w => some ([], w)
def aCons (f : Ev) (g : Ef) : Ef := fun ds w => (f ds w).bind fun a => (g ds a.2).bind fun b => some (a.1 :: b.1, b.2)
/-- *e -/
def aStar (f : Ev) (g : Ef) : Ef := fun ds w => (f ds w).bind fun a => (g ds a.2).bind fun b => match a.1 with | .lst xs => some (xs ++ b.1, b.2) | .tup xs => some (xs ++ b.1, b.2) | _ => none
theorem ja_nil : JA X [] aNil := ⟨pa_weak pa_nil fun σ H Q ⟨Z, F, ds, w, d, w', rr, hf, k⟩ => by cases hf; exact k [] F H rr.stp rr.dr dens_nil⟩
theorem jr_nil : JR X [] aNil := ⟨pa_weak pa_nil fun σ H Q ⟨Z, F, ds, w, d, w', rr, hf, k⟩ => by cases hf; exact k [] F H rr.stp rr.dr rfl⟩
theorem ja_cons (h : JE X e f) (hr : JA X es fs) (hs : starEach (e :: es) X.env = (false, eval e X.env) :: starEach es X.env := by rfl) : JA X (e :: es) (aCons f fs) := ⟨pa_weak (pa_cons h.run hr.run hs) fun σ H Q ⟨Z, F, ds, w, d, w', rr, hf, k⟩ => by
  obtain ⟨a, ha, hf⟩ := bind2 hf
  obtain ⟨b, hb, hf⟩ := bind2 hf
  cases hf
  exact ⟨Z, F, ds, w, _, _, rr, ha, fun v F1 H1 s1 d1 hv => ⟨Z, F1, ds, _, _, _, rr.step s1 d1, hb, fun vs F2 H2 s2 d2 hvs => k _ F2 H2 (s1.trans s2) d2 (dens_cons (hv.mono s2.f) hvs)⟩⟩⟩
theorem jr_cons (h : JB X e f) (hr : JR X es fs) (hs : starEach (e :: es) X.env = (false, eval e X.env) :: starEach es X.env := by rfl) : JR X (e :: es) (aCons f fs) := ⟨pa_weak (pa_cons h.run hr.run hs) fun σ H Q ⟨Z, F, ds, w, d, w', rr, hf, k⟩ => by
  obtain ⟨a, ha, hf⟩ := bind2 hf
  obtain ⟨b, hb, hf⟩ := bind2 hf
  cases hf
  exact ⟨Z, F, ds, w, _, _, rr, ha, fun v F1 H1 s1 d1 hv => ⟨Z, F1, ds, _, _, _, rr.step s1 d1, hb, fun vs F2 H2 s2 d2 hvs => k _ F2 H2 (s1.trans s2) d2 ⟨_, _, rfl, hv.step s2, hvs⟩⟩⟩⟩
theorem ja_star {p : Pos} (h : JB X e f) (hr : JA X es fs) (hs : starEach (.Starred e p :: es) X.env = (true, eval e X.env) :: starEach es X.env := by rfl) : JA X (.Starred e p :: es) (aStar f fs) := ⟨pa_weak (StX.pa_star h.run hr.run hs) fun σ H Q ⟨Z, F, ds, w, d, w', rr, hf, k⟩ => by
  obtain ⟨⟨a, w1⟩, ha, hf⟩ := bind2 hf
  obtain ⟨b, hb, hf⟩ := bind2 hf
  refine ⟨Z, F, ds, w, _, _, rr, ha, fun v F1 H1 s1 d1 hv => ?_⟩
  cases a with
  | lst xs =>
    cases hf
    obtain ⟨q, vs, e1, e2, e3⟩ := hv.lst s1.e
    exact ⟨q, vs, e1, .inr (.of e2), Z, F1, ds, _, _, _, rr.step s1 d1, hb, fun us F2 H2 s2 d2 hvs => k _ F2 H2 (s1.trans s2) d2 ((e3.mono s2.f).append hvs)⟩
  | tup xs =>
    cases hf
    obtain ⟨q, vs, e1, e2, e3⟩ := hv.tup
    exact ⟨q, vs, e1, .inl (sqU_mono s1.e e2).t, Z, F1, ds, _, _, _, rr.step s1 d1, hb, fun us F2 H2 s2 d2 hvs => k _ F2 H2 (s1.trans s2) d2 ((e3.mono s2.f).append hvs)⟩
  | _ => cases hf⟩
/-- sizes that are met here -/
def line : Nat := 100000
theorem sz_of {n : Nat} (h : n ≤ line) : n ≤ sizeLine := Nat.le_trans h (by decide)
theorem sz_lt {n : Nat} (h : n < line) : n < sizeLine := Nat.lt_of_lt_of_le h (by decide)
def eTup (f : Ef) : Ev := fun ds w => (f ds w).bind fun a => if a.1.length ≤ line then some (.tup a.1, a.2) else none
def fLst (f : Ef) : Ef := fun ds w => (f ds w).bind fun a => if a.1.length ≤ line then some a else none
theorem je_tup {x1} (h : JA X es fs) : JE X (.Tuple es x1 pos) (eTup fs) := ⟨pe_weak (pe_tup h.run) fun σ H Q ⟨Z, F, ds, w, d, w', rr, hf, k⟩ => by
  obtain ⟨a, ha, hf⟩ := bind2 hf
  split at hf
  · rename_i hl
    cases hf
    refine ⟨Z, F, ds, w, _, _, rr, ha, fun vs F1 H1 s1 d1 hv => ⟨by rw [hv.len]; exact sz_of hl, fun q hq => ?_⟩⟩
    obtain ⟨s2, d2⟩ := (rr.step s1 d1).new (o := .tup vs) hq
    exact k _ _ _ (s1.trans s2) d2 (den_tup (.inl upd_same) (hv.mono s2.f))
  · cases hf⟩
/-- a new list as an answer -/
theorem KF.new {Z : Cfg} {F H : Hp} {σ : L2.St} {ds : List Sl} {w : Wd} {xs : List D} {vs : List V} {Q : VK} (k : KF K Z.p F H w xs Q) (r : R K Z F H σ ds w) (h : Dens K Z.p F xs vs) : ∀ q, H q = none → Q (.ref q) (upd H q (.lst vs)) := fun q hq => by
  obtain ⟨s2, d2⟩ := r.newO (o := .lst vs) hq
  exact k q vs F _ s2 d2 upd_same hq (r.ex.free hq) (r.np hq) h
theorem R.pn {Z : Cfg} {F H : Hp} {σ : L2.St} {ds : List Sl} {w : Wd} (r : R K Z F H σ ds w) : H Z.p ≠ none := by
  obtain ⟨a, h, _⟩ := r.dr
  rw [h]
  exact fun q => nomatch q
theorem jf_lst (h : JA X es fs) : JF X (.List es pos) (fLst fs) := ⟨pe_weak (pe_lst h.run) fun σ H Q ⟨Z, F, ds, w, d, w', rr, hf, k⟩ => by
  obtain ⟨a, ha, hf⟩ := bind2 hf
  split at hf
  · rename_i hl
    cases hf
    exact ⟨Z, F, ds, w, _, _, rr, ha, fun vs F1 H1 s1 d1 hv => ⟨by rw [hv.len]; exact sz_of hl, (k.go s1 rr.pn).new (rr.step s1 d1) hv⟩⟩
  · cases hf⟩
end
end J
namespace J
open PySem L2
theorem same_t {K : PySem.W.Frag} {F H : Hp} {a : Addr} {vs : List V} (h : SqU K F a vs) (e : Same F H) : SqT K H a vs := (sqU_mono e h).t
/-! ### data that may be compared -/
mutual
def py : D → PyData
  | .non => .none | .bl b => .bool b | .int i => .int i | .str s => .str s | .ty _ => .none | .draw => .none
  | .tup ds => .tuple (pys ds) | .lst ds => .list (pys ds) | .obj _ _ _ => .none
def pys : List D → List PyData
  | [] => []
  | d :: ds => py d :: pys ds
end
mutual
def pok : D → Bool
  | .ty _ => false | .draw => false | .obj _ _ _ => false | .tup ds => poks ds | .lst ds => poks ds | _ => true
def poks : List D → Bool
  | [] => true
  | d :: ds => pok d && poks ds
end
theorem pys_map : ∀ ds : List D, pys ds = ds.map py
  | [] => rfl
  | d :: ds => by unfold pys; rw [pys_map ds]; rfl
theorem poks_all : ∀ ds : List D, poks ds = ds.all pok
  | [] => rfl
  | d :: ds => by unfold poks; rw [poks_all ds]; rfl
section
variable {K : PySem.W.Frag} {p : Addr} {F H : Hp}
mutual
theorem dp_of (e : Same F H) : ∀ (d : D) (v : V), pok d = true → Den K p F d v → Dp K H v (py d)
  | .non, v, _, h => by unfold Den at h; subst h; exact .non
  | .bl b, v, _, h => by unfold Den at h; subst h; exact .bl b
  | .int i, v, _, h => by unfold Den at h; subst h; exact .int i
  | .str s, v, _, h => by unfold Den at h; subst h; exact .str s
  | .ty n, v, k, h => by cases k
  | .draw, v, k, h => by cases k
  | .obj _ _ _, v, k, h => by cases k
  | .tup ds, v, k, h => by
    unfold Den at h
    obtain ⟨a, vs, rfl, h1, h2⟩ := h
    unfold pok at k
    unfold py
    exact .tup (same_t h1 e) (dps_of e ds vs k h2)
  | .lst ds, v, k, h => by
    unfold Den at h
    obtain ⟨a, vs, rfl, h1, h2⟩ := h
    unfold pok at k
    unfold py
    exact .lst (.of (e _ _ h1)) (dps_of e ds vs k h2)
theorem dps_of (e : Same F H) : ∀ (ds : List D) (vs : List V), poks ds = true → Dens K p F ds vs → DpAll K H vs (pys ds)
  | [], vs, _, h => by unfold Dens at h; subst h; exact .nil
  | d :: ds, vs, k, h => by
    unfold Dens at h
    obtain ⟨v, r, rfl, h1, h2⟩ := h
    unfold poks at k
    have k' := Bool.and_eq_true_iff.mp k
    unfold pys
    exact .cons (dp_of e d v k'.1 h1) (dps_of e ds r k'.2 h2)
end
theorem dpB_of (e : Same F H) {d : D} {v : V} (k : pok d = true) (h : DenB K p F H d v) : Dp K H v (py d) := by
  rcases h with h | ⟨a, xs, rfl, rfl, vs, h1, h2, h3, h4⟩
  · exact dp_of e d v k h
  · unfold pok at k
    unfold py
    exact .lst (.of h1) (dps_of e xs vs k h4)
end
def lay (d : D) : Bool := pok d && SeqAt.shaped (py d)
def eqD (a b : D) : Option D := if lay a && lay b then some (.bl (PyData.eqv (py a) (py b))) else none
def neD (a b : D) : Option D := if lay a && lay b then some (.bl (!PyData.eqv (py a) (py b))) else none
section
variable {X : Cx} {K : PySem.W.Frag} {a b c : Expr} {fa fb fc : Ev} {pos : Pos} {k : Nat}
theorem s_eqD : OpS K (rEqD K) eqD := fun Z F H σ ds w a b d x y Q r hx hy hg k => by
  unfold eqD at hg
  split at hg
  · rename_i h
    cases hg
    have h' := Bool.and_eq_true_iff.mp h
    have ha := Bool.and_eq_true_iff.mp h'.1
    have hb := Bool.and_eq_true_iff.mp h'.2
    exact ⟨_, _, dpB_of r.ex ha.1 hx, dpB_of r.ex hb.1 hy, ha.2, hb.2, k _ F H r.stp r.dr den_bl⟩
  · cases hg
theorem s_neD : OpS K (rNeD K) neD := fun Z F H σ ds w a b d x y Q r hx hy hg k => by
  unfold neD at hg
  split at hg
  · rename_i h
    cases hg
    have h' := Bool.and_eq_true_iff.mp h
    have ha := Bool.and_eq_true_iff.mp h'.1
    have hb := Bool.and_eq_true_iff.mp h'.2
    exact ⟨_, _, dpB_of r.ex ha.1 hx, dpB_of r.ex hb.1 hy, ha.2, hb.2, k _ F H r.stp r.dr den_bl⟩
  · cases hg
def eEq := eBin eqD
def eNe := eBin neD
theorem je_eq (hr : Room k X.A) (ha : JB X a fa) (hb : JB X b fb) : JE X (.Compare a [.Eq] [b] pos) (eEq fa fb) := je_cmpO (op_eqD hr.units) s_eqD ha hb (nobehind _ (by decide) (by decide))
theorem je_ne (hr : Room k X.A) (ha : JB X a fa) (hb : JB X b fb) : JE X (.Compare a [.NotEq] [b] pos) (eNe fa fb) := je_cmpO (op_neD hr.units) s_neD ha hb (nobehind _ (by decide) (by decide))
theorem jt_eq (hr : Room k X.A) (ha : JB X a fa) (hb : JB X b fb) : JT X (.Compare a [.Eq] [b] pos) (eTest (eEq fa fb)) := jt_cmpO (op_eqD hr.units) s_eqD ha hb (nobehind _ (by decide) (by decide))
theorem jt_ne (hr : Room k X.A) (ha : JB X a fa) (hb : JB X b fb) : JT X (.Compare a [.NotEq] [b] pos) (eTest (eNe fa fb)) := jt_cmpO (op_neD hr.units) s_neD ha hb (nobehind _ (by decide) (by decide))
/-! order of ints -/
def g2B (p : Int → Int → Bool) : D → D → Option D | .int i, .int j => some (.bl (p i j)) | _, _ => none
theorem s_B (p : Int → Int → Bool) : OpS K (rI0 fun i j => .bl (p i j)) (g2B p) := fun Z F H σ ds w a b d x y Q r hx hy hg k => by
  cases a <;> cases b <;> first | cases hg | skip
  exact ⟨_, _, hx.int, hy.int, k _ F H r.stp r.dr den_bl⟩
def pLt (i j : Int) : Bool := decide (i < j)
def pLe (i j : Int) : Bool := decide (i ≤ j)
def pGt (i j : Int) : Bool := decide (j < i)
def pGe (i j : Int) : Bool := decide (j ≤ i)
def eLt := eBin (g2B pLt)
def eLe := eBin (g2B pLe)
def eGt := eBin (g2B pGt)
def eGe := eBin (g2B pGe)
theorem je_lt (ha : JB X a fa) (hb : JB X b fb) : JE X (.Compare a [.Lt] [b] pos) (eLt fa fb) := je_cmpO op_lt (s_B pLt) ha hb (nobehind _ (by decide) (by decide))
theorem je_le (ha : JB X a fa) (hb : JB X b fb) : JE X (.Compare a [.LtE] [b] pos) (eLe fa fb) := je_cmpO op_le (s_B pLe) ha hb (nobehind _ (by decide) (by decide))
theorem je_gt (ha : JB X a fa) (hb : JB X b fb) : JE X (.Compare a [.Gt] [b] pos) (eGt fa fb) := je_cmpO op_gt (s_B pGt) ha hb (nobehind _ (by decide) (by decide))
theorem je_ge (ha : JB X a fa) (hb : JB X b fb) : JE X (.Compare a [.GtE] [b] pos) (eGe fa fb) := je_cmpO op_ge (s_B pGe) ha hb (nobehind _ (by decide) (by decide))
theorem jt_lt (ha : JB X a fa) (hb : JB X b fb) : JT X (.Compare a [.Lt] [b] pos) (eTest (eLt fa fb)) := jt_cmpO op_lt (s_B pLt) ha hb (nobehind _ (by decide) (by decide))
theorem jt_le (ha : JB X a fa) (hb : JB X b fb) : JT X (.Compare a [.LtE] [b] pos) (eTest (eLe fa fb)) := jt_cmpO op_le (s_B pLe) ha hb (nobehind _ (by decide) (by decide))
theorem jt_gt (ha : JB X a fa) (hb : JB X b fb) : JT X (.Compare a [.Gt] [b] pos) (eTest (eGt fa fb)) := jt_cmpO op_gt (s_B pGt) ha hb (nobehind _ (by decide) (by decide))
theorem jt_ge (ha : JB X a fa) (hb : JB X b fb) : JT X (.Compare a [.GtE] [b] pos) (eTest (eGe fa fb)) := jt_cmpO op_ge (s_B pGe) ha hb (nobehind _ (by decide) (by decide))
/-! a chain of two: lt, le -/
theorem je_lele (ha : JB X a fa) (hb : JB X b fb) (hc : JB X c fc) (hm : lastMarks [.LtE, .LtE] [b, c] = false := by with_unfolding_all rfl) : JE X (.Compare a [.LtE, .LtE] [b, c] pos) (eChain (g2B pLe) (g2B pLe) fa fb fc) := je_chainO op_le (s_B pLe) op_le (s_B pLe) ha hb hc hm
theorem je_lelt (ha : JB X a fa) (hb : JB X b fb) (hc : JB X c fc) (hm : lastMarks [.LtE, .Lt] [b, c] = false := by with_unfolding_all rfl) : JE X (.Compare a [.LtE, .Lt] [b, c] pos) (eChain (g2B pLe) (g2B pLt) fa fb fc) := je_chainO op_le (s_B pLe) op_lt (s_B pLt) ha hb hc hm
theorem jt_lele (ha : JB X a fa) (hb : JB X b fb) (hc : JB X c fc) (hm : lastMarks [.LtE, .LtE] [b, c] = false := by with_unfolding_all rfl) : JT X (.Compare a [.LtE, .LtE] [b, c] pos) (eTest (eChain (g2B pLe) (g2B pLe) fa fb fc)) := jt_chainO op_le (s_B pLe) op_le (s_B pLe) ha hb hc hm
theorem jt_lelt (ha : JB X a fa) (hb : JB X b fb) (hc : JB X c fc) (hm : lastMarks [.LtE, .Lt] [b, c] = false := by with_unfolding_all rfl) : JT X (.Compare a [.LtE, .Lt] [b, c] pos) (eTest (eChain (g2B pLe) (g2B pLt) fa fb fc)) := jt_chainO op_le (s_B pLe) op_lt (s_B pLt) ha hb hc hm
/-! is None -/
def isN (a b : D) : Option D := match a, b with | .non, .non => some (.bl true) | .bl _, .non => some (.bl false) | .int _, .non => some (.bl false) | .str _, .non => some (.bl false) | .tup _, .non => some (.bl false) | .lst _, .non => some (.bl false) | .obj _ _ _, .non => some (.bl false) | _, _ => none
def notN (a b : D) : Option D := match a, b with | .non, .non => some (.bl false) | .bl _, .non => some (.bl true) | .int _, .non => some (.bl true) | .str _, .non => some (.bl true) | .tup _, .non => some (.bl true) | .lst _, .non => some (.bl true) | .obj _ _ _, .non => some (.bl true) | _, _ => none
theorem isN_of {p : Addr} {F H : Hp} {a : D} {x : V} {r : D} (h : DenB K p F H a x) (hg : isN a .non = some r) : r = .bl (decide (x = .non)) := by
  cases a with
  | non => cases hg; rw [h.non]; rfl
  | bl b => cases hg; rw [h.bl]; rfl
  | int b => cases hg; rw [h.int]; rfl
  | str b => cases hg; rw [h.str]; rfl
  | tup b => cases hg; obtain ⟨_, _, rfl, _⟩ := h.tup; rfl
  | lst b =>
    cases hg
    rcases h with h | ⟨_, _, _, rfl, _⟩
    · unfold Den at h
      obtain ⟨_, _, rfl, _⟩ := h
      rfl
    · rfl
  | obj n ks ds =>
    cases hg
    rcases h with h | ⟨_, _, e, _⟩
    · unfold Den at h
      obtain ⟨_, _, _, rfl, _⟩ := h
      rfl
    · cases e
  | ty n => cases hg
  | draw => cases hg
theorem s_isN : OpS K (fun x y H Q => y = .non ∧ Q (.bl (decide (x = .non))) H) isN := fun Z F H σ ds w a b d x y Q r hx hy hg k => by
  have hb : b = .non := by cases b <;> first | rfl | (cases a <;> cases hg)
  subst hb
  refine ⟨hy.non, k _ F H r.stp r.dr ?_⟩
  rw [isN_of hx hg]
  exact den_bl
theorem s_notN : OpS K (fun x y H Q => y = .non ∧ Q (.bl (!decide (x = .non))) H) notN := fun Z F H σ ds w a b d x y Q r hx hy hg k => by
  have hb : b = .non := by cases b <;> first | rfl | (cases a <;> cases hg)
  subst hb
  refine ⟨hy.non, k _ F H r.stp r.dr ?_⟩
  have e : ∃ r', isN a .non = some r' ∧ d = (match r' with | .bl c => .bl (!c) | z => z) := by
    cases a <;> first | (cases hg; exact ⟨_, rfl, rfl⟩) | cases hg
  obtain ⟨r', e1, e2⟩ := e
  have e3 := isN_of hx e1
  subst e3
  rw [e2]
  exact den_bl
def eIs := eBin isN
def eIsNot := eBin notN
theorem je_is (ha : JB X a fa) (hb : JB X b fb) : JE X (.Compare a [.Is] [b] pos) (eIs fa fb) := je_cmpO op_isN s_isN ha hb (nobehind _ (by decide) (by decide))
theorem je_isnot (ha : JB X a fa) (hb : JB X b fb) : JE X (.Compare a [.IsNot] [b] pos) (eIsNot fa fb) := je_cmpO op_notN s_notN ha hb (nobehind _ (by decide) (by decide))
theorem jt_is (ha : JB X a fa) (hb : JB X b fb) : JT X (.Compare a [.Is] [b] pos) (eTest (eIs fa fb)) := jt_cmpO op_isN s_isN ha hb (nobehind _ (by decide) (by decide))
theorem jt_isnot (ha : JB X a fa) (hb : JB X b fb) : JT X (.Compare a [.IsNot] [b] pos) (eTest (eIsNot fa fb)) := jt_cmpO op_notN s_notN ha hb (nobehind _ (by decide) (by decide))
/-! ### in -/
def flatD : D → Bool | .non => true | .bl _ => true | .int _ => true | .str _ => true | _ => false
def eqF : D → D → Bool
  | .non, .non => true
  | .bl a, .bl b => a == b
  | .bl a, .int b => (if a then 1 else 0) == b
  | .int a, .bl b => a == (if b then 1 else 0)
  | .int a, .int b => a == b
  | .str a, .str b => a == b
  | _, _ => false
theorem flat_of {p : Addr} {F : Hp} {d : D} {v : V} (h : Den K p F d v) (f : flatD d = true) : flatV v = true := by
  cases d <;> first | (unfold Den at h; subst h; rfl) | cases f
theorem eqF_of {p : Addr} {F : Hp} {d e : D} {v u : V} (h : Den K p F d v) (h' : Den K p F e u) (f : flatD d = true) (f' : flatD e = true) : eqV v u = eqF d e := by
  cases d with
  | tup _ => cases f
  | lst _ => cases f
  | ty _ => cases f
  | draw => cases f
  | obj _ _ _ => cases f
  | _ =>
    unfold Den at h
    subst h
    cases e <;> first | (unfold Den at h'; subst h'; rfl) | cases f'
theorem any_of {p : Addr} {F : Hp} {e : D} {u : V} (h' : Den K p F e u) (f' : flatD e = true) : ∀ {ds : List D} {vs : List V}, Dens K p F ds vs → ds.all flatD = true → vs.all flatV = true ∧ vs.any (fun y => eqV y u) = ds.any (fun y => eqF y e)
  | [], vs, h, _ => by unfold Dens at h; subst h; exact ⟨rfl, rfl⟩
  | d :: ds, vs, h, f => by
    unfold Dens at h
    obtain ⟨v, r, rfl, h1, h2⟩ := h
    rw [List.all_cons, Bool.and_eq_true] at f
    obtain ⟨i1, i2⟩ := any_of h' f' h2 f.2
    refine ⟨?_, ?_⟩
    · rw [List.all_cons, flat_of h1 f.1, i1]; rfl
    · rw [List.any_cons, List.any_cons, eqF_of h1 h' f.1 f', i2]
def rInDT (K : PySem.W.Frag) (neg : Bool) : R2 := fun x y H Q => ∃ d es, Dp K H x d ∧ Dp K H y (.tuple es) ∧ SeqAt.shaped d = true ∧ SeqAt.shaped (.tuple es) = true ∧ Q (.bl (if neg then !es.any (fun z => PyData.eqv z d) else es.any fun z => PyData.eqv z d)) H
theorem op_inDT {X : Cx} (hu : X.A.units + 65 < cLine) : OpR X (compareOp .In) (rInDT X.K false) := by
  intro pins s σ H x y v u Q I rx ry h
  obtain ⟨d, es, hd, he, sd, se, q⟩ := h
  obtain ⟨as, r1⟩ := L2.Dp.reads I d x v hd rx
  obtain ⟨bs, r2⟩ := L2.Dp.reads I (.tuple es) y u he ry
  exact SeqAt.in_tuple_reads r2 r1 (SeqAt.canLay_of_shaped se) (SeqAt.canLay_of_shaped sd) (PyProof.Rows.room_in_shaped sd hu) ⟨.bl _, H, I, rfl, q⟩
theorem op_notInDT {X : Cx} (hu : X.A.units + 65 < cLine) : OpR X (compareOp .NotIn) (rInDT X.K true) := by
  intro pins s σ H x y v u Q I rx ry h
  obtain ⟨d, es, hd, he, sd, se, q⟩ := h
  obtain ⟨as, r1⟩ := L2.Dp.reads I d x v hd rx
  obtain ⟨bs, r2⟩ := L2.Dp.reads I (.tuple es) y u he ry
  exact SeqAt.notIn_tuple_reads r2 r1 (SeqAt.canLay_of_shaped se) (SeqAt.canLay_of_shaped sd) (PyProof.Rows.room_in_shaped sd hu) ⟨.bl _, H, I, rfl, q⟩
def inD (neg : Bool) (a b : D) : Option D := match b with
  | .tup ys => if flatD a && ys.all flatD then some (.bl (if neg then !ys.any (fun y => eqF y a) else ys.any fun y => eqF y a)) else if lay a && lay (.tup ys) then some (.bl (if neg then !(pys ys).any (fun z => PyData.eqv z (py a)) else (pys ys).any fun z => PyData.eqv z (py a))) else none
  | .lst ys => if lay a && lay (.lst ys) then some (.bl (if neg then !(pys ys).any (fun z => PyData.eqv z (py a)) else (pys ys).any fun z => PyData.eqv z (py a))) else none
  | _ => none
theorem flatB {p : Addr} {F H : Hp} {a : D} {x : V} (h : DenB K p F H a x) (f : flatD a = true) : Den K p F a x := by
  rcases h with h | ⟨_, _, rfl, _⟩
  · exact h
  · cases f
theorem s_in : OpS K (fun x y H Q => rIn K false x y H Q ∨ (rInD K x y H Q ∨ rInDT K false x y H Q)) (inD false) := fun Z F H σ ds w a b d x y Q r hx hy hg k => by
  cases b with
  | tup ys =>
    unfold inD at hg
    dsimp only at hg
    split at hg
    · rename_i h
      have h' := Bool.and_eq_true_iff.mp h
      cases hg
      obtain ⟨q, vs, rfl, h1, h2⟩ := hy.tup
      obtain ⟨i1, i2⟩ := any_of (flatB hx h'.1) h'.1 h2 h'.2
      refine .inl ⟨q, vs, rfl, .inr (same_t h1 r.ex), flat_of (flatB hx h'.1) h'.1, i1, k _ F H r.stp r.dr ?_⟩
      show Den _ _ _ (.bl (if false = true then _ else _)) (V.bl (if false = true then _ else inV x vs))
      rw [if_neg Bool.false_ne_true, if_neg Bool.false_ne_true]
      unfold inV
      rw [i2]
      exact den_bl
    · split at hg
      · rename_i h
        have h' := Bool.and_eq_true_iff.mp h
        have ha := Bool.and_eq_true_iff.mp h'.1
        have hb := Bool.and_eq_true_iff.mp h'.2
        cases hg
        refine .inr (.inr ⟨_, pys ys, dpB_of r.ex ha.1 hx, ?_, ha.2, ?_, k _ F H r.stp r.dr den_bl⟩)
        · have := dpB_of r.ex hb.1 hy
          unfold py at this
          exact this
        · have := hb.2
          unfold py at this
          exact this
      · cases hg
  | lst ys =>
    unfold inD at hg
    dsimp only at hg
    split at hg
    · rename_i h
      have h' := Bool.and_eq_true_iff.mp h
      have ha := Bool.and_eq_true_iff.mp h'.1
      have hb := Bool.and_eq_true_iff.mp h'.2
      cases hg
      refine .inr (.inl ⟨_, pys ys, dpB_of r.ex ha.1 hx, ?_, ha.2, ?_, k _ F H r.stp r.dr den_bl⟩)
      · have := dpB_of r.ex hb.1 hy
        unfold py at this
        exact this
      · have := hb.2
        unfold py at this
        exact this
    · cases hg
  | _ => cases hg
theorem s_notin : OpS K (fun x y H Q => rIn K true x y H Q ∨ (rNotInD K x y H Q ∨ rInDT K true x y H Q)) (inD true) := fun Z F H σ ds w a b d x y Q r hx hy hg k => by
  cases b with
  | tup ys =>
    unfold inD at hg
    dsimp only at hg
    split at hg
    · rename_i h
      have h' := Bool.and_eq_true_iff.mp h
      cases hg
      obtain ⟨q, vs, rfl, h1, h2⟩ := hy.tup
      obtain ⟨i1, i2⟩ := any_of (flatB hx h'.1) h'.1 h2 h'.2
      refine .inl ⟨q, vs, rfl, .inr (same_t h1 r.ex), flat_of (flatB hx h'.1) h'.1, i1, k _ F H r.stp r.dr ?_⟩
      show Den _ _ _ (.bl (if true = true then _ else _)) (V.bl (if true = true then !inV x vs else _))
      rw [if_pos rfl, if_pos rfl]
      unfold inV
      rw [i2]
      exact den_bl
    · split at hg
      · rename_i h
        have h' := Bool.and_eq_true_iff.mp h
        have ha := Bool.and_eq_true_iff.mp h'.1
        have hb := Bool.and_eq_true_iff.mp h'.2
        cases hg
        refine .inr (.inr ⟨_, pys ys, dpB_of r.ex ha.1 hx, ?_, ha.2, ?_, k _ F H r.stp r.dr den_bl⟩)
        · have := dpB_of r.ex hb.1 hy
          unfold py at this
          exact this
        · have := hb.2
          unfold py at this
          exact this
      · cases hg
  | lst ys =>
    unfold inD at hg
    dsimp only at hg
    split at hg
    · rename_i h
      have h' := Bool.and_eq_true_iff.mp h
      have ha := Bool.and_eq_true_iff.mp h'.1
      have hb := Bool.and_eq_true_iff.mp h'.2
      cases hg
      refine .inr (.inl ⟨_, pys ys, dpB_of r.ex ha.1 hx, ?_, ha.2, ?_, k _ F H r.stp r.dr den_bl⟩)
      · have := dpB_of r.ex hb.1 hy
        unfold py at this
        exact this
      · have := hb.2
        unfold py at this
        exact this
    · cases hg
  | _ => cases hg
theorem hu65 (hr : Room k X.A) : X.A.units + 65 < cLine := by have := hr.un; omega
def eIn := eBin (inD false)
def eNotIn := eBin (inD true)
theorem je_in (hr : Room k X.A) (ha : JB X a fa) (hb : JB X b fb) (hm : behindInMarks .In b = false := by rfl) : JE X (.Compare a [.In] [b] pos) (eIn fa fb) := je_cmpO (op_in_seq.or ((op_inD (hu65 hr)).or (op_inDT (hu65 hr)))) s_in ha hb hm
theorem je_notin (hr : Room k X.A) (ha : JB X a fa) (hb : JB X b fb) (hm : behindInMarks .NotIn b = false := by rfl) : JE X (.Compare a [.NotIn] [b] pos) (eNotIn fa fb) := je_cmpO (op_notIn_seq.or ((op_notInD (hu65 hr)).or (op_notInDT (hu65 hr)))) s_notin ha hb hm
theorem jt_in (hr : Room k X.A) (ha : JB X a fa) (hb : JB X b fb) (hm : behindInMarks .In b = false := by rfl) : JT X (.Compare a [.In] [b] pos) (eTest (eIn fa fb)) := jt_cmpO (op_in_seq.or ((op_inD (hu65 hr)).or (op_inDT (hu65 hr)))) s_in ha hb hm
theorem jt_notin (hr : Room k X.A) (ha : JB X a fa) (hb : JB X b fb) (hm : behindInMarks .NotIn b = false := by rfl) : JT X (.Compare a [.NotIn] [b] pos) (eTest (eNotIn fa fb)) := jt_cmpO (op_notIn_seq.or ((op_notInD (hu65 hr)).or (op_notInDT (hu65 hr)))) s_notin ha hb hm
/-! ### arithmetic -/
def addD : D → D → Option D
  | .int i, .int j => some (.int (i + j))
  | .str s, .str t => if s.length + t.length ≤ line then some (.str (s ++ t)) else none
  | .lst xs, .lst ys => if xs.length + ys.length ≤ line then some (.lst (xs ++ ys)) else none
  | .tup xs, .tup ys => if xs.length + ys.length ≤ line then some (.tup (xs ++ ys)) else none
  | _, _ => none
def rAddJ (K : PySem.W.Frag) : R2 := fun x y H Q => rI0 (fun i j => .int (i + j)) x y H Q ∨ (fun x y H Q => (∃ i j, x = .str i ∧ y = .str j ∧ i.length + j.length ≤ sizeLine ∧ Q (.str (i ++ j)) H) ∨ (fun x y H Q => rCat x y H Q ∨ rCatA K x y H Q) x y H Q) x y H Q
theorem op_addJ : OpR X (binaryOp .Add) (rAddJ X.K) := OpR.or op_add (OpR.or op_add_str (OpR.or op_cat op_catA))
theorem s_add : OpS K (rAddJ K) addD := fun Z F H σ ds w a b d x y Q r hx hy hg k => by
  cases a <;> cases b <;> first | cases hg | skip
  · exact .inl ⟨_, _, hx.int, hy.int, k _ F H r.stp r.dr den_int⟩
  · unfold addD at hg
    dsimp only at hg
    split at hg
    · rename_i h
      cases hg
      exact .inr (.inl ⟨_, _, hx.str, hy.str, sz_of h, k _ F H r.stp r.dr den_str⟩)
    · cases hg
  · unfold addD at hg
    dsimp only at hg
    split at hg
    · rename_i h
      cases hg
      obtain ⟨q, vs, rfl, h1, h2⟩ := hx.tup
      obtain ⟨q', us, rfl, h3, h4⟩ := hy.tup
      refine .inr (.inr (.inr ⟨q, q', vs, us, rfl, rfl, same_t h1 r.ex, same_t h3 r.ex, by rw [h2.len, h4.len]; exact sz_of h, fun e => ?_, fun _ e => ?_, fun _ _ t ht => ?_⟩))
      · have h5 := h2.append h4
        rw [e] at h5
        exact k _ F H r.stp r.dr (den_tup h3 (by simpa using h5))
      · have h5 := h2.append h4
        rw [e, List.append_nil] at h5
        exact k _ F H r.stp r.dr (den_tup h1 h5)
      · obtain ⟨s2, d2⟩ := r.new (o := .tup (vs ++ us)) ht
        exact k _ _ _ s2 d2 (den_tup (.inl upd_same) ((h2.append h4).mono s2.f))
    · cases hg
  · unfold addD at hg
    dsimp only at hg
    split at hg
    · rename_i h
      cases hg
      obtain ⟨q, vs, rfl, h1, h2⟩ := hx.lst r.ex
      obtain ⟨q', us, rfl, h3, h4⟩ := hy.lst r.ex
      refine .inr (.inr (.inl ⟨q, q', vs, us, rfl, rfl, h1, h3, by rw [h2.len, h4.len]; exact sz_of h, fun t ht => ?_⟩))
      obtain ⟨s2, d2⟩ := r.new (o := .lst (vs ++ us)) ht
      exact k _ _ _ s2 d2 (den_lst upd_same ((h2.append h4).mono s2.f))
    · cases hg
def eAdd := eBin addD
theorem je_add (ha : JB X a fa) (hb : JB X b fb) : JE X (.BinOp a .Add b pos) (eAdd fa fb) := je_op op_addJ s_add ha hb
def g2I (C : Int → Int → Bool) (f : Int → Int → Int) : D → D → Option D | .int i, .int j => if C i j then some (.int (f i j)) else none | _, _ => none
theorem s_I {C : Int → Int → Prop} (C' : Int → Int → Bool) (f : Int → Int → Int) (h : ∀ i j, C' i j = true → C i j) : OpS K (rI C fun i j => .int (f i j)) (g2I C' f) := fun Z F H σ ds w a b d x y Q r hx hy hg k => by
  cases a <;> cases b <;> first | cases hg | skip
  unfold g2I at hg
  dsimp only at hg
  split at hg
  · rename_i hc
    cases hg
    exact ⟨_, _, hx.int, hy.int, h _ _ hc, k _ F H r.stp r.dr den_int⟩
  · cases hg
theorem s_I0 (f : Int → Int → Int) : OpS K (rI0 fun i j => .int (f i j)) (g2I (fun _ _ => true) f) := fun Z F H σ ds w a b d x y Q r hx hy hg k => by
  cases a <;> cases b <;> first | cases hg | skip
  exact ⟨_, _, hx.int, hy.int, k _ F H r.stp r.dr den_int⟩
def subD := g2I (fun _ _ => true) (fun i j => i - j)
def okMul (i j : Int) : Bool := decide (-(2 ^ 64) < i ∧ i < 2 ^ 64) || decide (-(2 ^ 64) < j ∧ j < 2 ^ 64)
def mulD0 := g2I okMul (fun i j => i * j)
def okDiv (_ j : Int) : Bool := decide (0 < j) && decide (j.natAbs.log2 < 9000)
def divD := g2I okDiv (fun i j => i / j)
def okMod (_ j : Int) : Bool := decide (0 < j)
def modD := g2I okMod (fun i j => i % j)
def okPow (i j : Int) : Bool := decide (0 ≤ j ∧ j ≤ 1000000 ∧ i.natAbs < 2 ^ 64)
def powD := g2I okPow (fun i j => i ^ j.toNat)
def eSub := eBin subD
def eDiv := eBin divD
def eMod := eBin modD
def ePow := eBin powD
theorem je_sub (ha : JB X a fa) (hb : JB X b fb) : JE X (.BinOp a .Sub b pos) (eSub fa fb) := je_op op_sub (s_I0 _) ha hb
theorem je_div (ha : JB X a fa) (hb : JB X b fb) : JE X (.BinOp a .FloorDiv b pos) (eDiv fa fb) := je_op op_fdivW (s_I okDiv _ fun i j h => by
  have h' := Bool.and_eq_true_iff.mp h
  exact ⟨of_decide_eq_true h'.1, of_decide_eq_true h'.2⟩) ha hb
theorem je_mod (ha : JB X a fa) (hb : JB X b fb) : JE X (.BinOp a .Mod b pos) (eMod fa fb) := je_op op_mod (s_I okMod _ fun i j h => of_decide_eq_true h) ha hb
theorem je_pow (ha : JB X a fa) (hb : JB X b fb) : JE X (.BinOp a .Pow b pos) (ePow fa fb) := je_op op_pow (s_I okPow _ fun i j h => by unfold okPow at h; exact (of_decide_eq_true h : 0 ≤ j ∧ j ≤ 1000000 ∧ i.natAbs < 2 ^ 64)) ha hb
/-- int * int, list * int -/
def mulD : D → D → Option D
  | .int i, .int j => if okMul i j then some (.int (i * j)) else none
  | .lst xs, .int j => if -(2 ^ 63) ≤ j ∧ j < 2 ^ 63 ∧ xs.length * j.toNat ≤ line then some (.lst (List.replicate j.toNat xs).flatten) else none
  | _, _ => none
theorem Dens.rep {p : Addr} {F : Hp} {ds : List D} {vs : List V} (h : Dens K p F ds vs) : ∀ n : Nat, Dens K p F (List.replicate n ds).flatten (List.replicate n vs).flatten
  | 0 => dens_nil
  | n + 1 => by
    rw [List.replicate_succ, List.replicate_succ, List.flatten_cons, List.flatten_cons]
    exact h.append (Dens.rep h n)
theorem s_mul : OpS K (fun x y H Q => rI CMul (fun i j => .int (i * j)) x y H Q ∨ rRep x y H Q) mulD := fun Z F H σ ds w a b d x y Q r hx hy hg k => by
  cases a <;> cases b <;> first | cases hg | skip
  · unfold mulD at hg
    dsimp only at hg
    split at hg
    · rename_i hc
      cases hg
      refine .inl ⟨_, _, hx.int, hy.int, ?_, k _ F H r.stp r.dr den_int⟩
      unfold okMul at hc
      rcases Bool.or_eq_true_iff.mp hc with h | h
      · exact .inl (of_decide_eq_true h)
      · exact .inr (of_decide_eq_true h)
    · cases hg
  · unfold mulD at hg
    dsimp only at hg
    split at hg
    · rename_i hc
      cases hg
      obtain ⟨q, vs, rfl, h1, h2⟩ := hx.lst r.ex
      refine .inr ⟨q, _, vs, rfl, hy.int, h1, hc.1, hc.2.1, by rw [h2.len]; exact sz_of hc.2.2, fun t ht => ?_⟩
      obtain ⟨s2, d2⟩ := r.new (o := .lst (List.replicate _ vs).flatten) ht
      exact k _ _ _ s2 d2 (den_lst upd_same ((h2.rep _).mono s2.f))
    · cases hg
def eMul := eBin mulD
theorem je_mul (ha : JB X a fa) (hb : JB X b fb) : JE X (.BinOp a .Mult b pos) (eMul fa fb) := je_op (OpR.or op_mul op_rep) s_mul ha hb
def eNeg (f : Ev) : Ev := fun ds w => (f ds w).bind fun a => match a.1 with | .int i => some (.int (-i), a.2) | _ => none
theorem je_neg (ha : JB X a fa) : JE X (.UnaryOp .USub a pos) (eNeg fa) := ⟨pe_weak (pe_un un_neg ha.run) fun σ H Q ⟨Z, F, ds, w, d, w', rr, hf, k⟩ => by
  obtain ⟨⟨x, w1⟩, hx, hf⟩ := bind2 hf
  refine ⟨Z, F, ds, w, _, _, rr, hx, fun v F1 H1 s1 d1 hv => ?_⟩
  cases x with
  | int i =>
    cases hf
    exact ⟨i, hv.int, k _ F1 H1 s1 d1 den_int⟩
  | _ => cases hf⟩
/-! ### items -/
def idxD : D → D → Option D
  | .lst xs, .int i => atI xs i
  | .tup xs, .int i => atI xs i
  | _, _ => none
theorem atI_of {p : Addr} {F : Hp} {xs : List D} {vs : List V} {i : Int} {d : D} (h : Dens K p F xs vs) (e : atI xs i = some d) : ∃ v, atI vs i = some v ∧ Den K p F d v := by
  unfold atI at e ⊢
  rw [h.len]
  obtain ⟨j, h1, h2⟩ := bind2 e
  obtain ⟨v, h3, h4⟩ := h.get h2
  exact ⟨v, by rw [h1]; exact h3, h4⟩
theorem s_idx : OpS K (rIx K) idxD := fun Z F H σ ds w a b d x y Q r hx hy hg k => by
  cases a <;> cases b <;> first | cases hg | skip
  · obtain ⟨q, vs, rfl, h1, h2⟩ := hx.tup
    obtain ⟨v, e, hv⟩ := atI_of h2 hg
    exact .inr (.inl ⟨q, vs, _, v, rfl, hy.int, same_t h1 r.ex, e, k v F H r.stp r.dr hv⟩)
  · obtain ⟨q, vs, rfl, h1, h2⟩ := hx.lst r.ex
    obtain ⟨v, e, hv⟩ := atI_of h2 hg
    exact .inl ⟨q, vs, _, v, rfl, hy.int, .of h1, e, k v F H r.stp r.dr hv⟩
def eIx := eBin idxD
theorem je_ix (ha : JB X a fa) (hb : JB X b fb) (hs : PlainIx b := by exact fun _ _ => rfl) : JE X (.Subscript a b pos) (eIx fa fb) := ⟨pe_weak (pe_ix ix_seq ha.run hb.run hs) (tOp_of s_idx)⟩
/-! ### slices -/
abbrev Eo := List Sl → Wd → Option (Option Int × Wd)
def canO (K : PySem.W.Frag) (f : Eo) : TO := fun σ H Q => ∃ Z F ds w d w', R K Z F H σ ds w ∧ f ds w = some (d, w') ∧ ∀ F' H', Stp Z.p F H F' H' → Dr Z.p F' H' w' → Q d H'
structure JO (X : Cx) (e : Option Expr) (f : Eo) : Prop where run : PO X e (canO X.K f)
theorem po_weak {e : Option Expr} {t t' : TO} (h : PO X e t) (s : ∀ σ H Q, t' σ H Q → t σ H Q) : PO X e t' := ⟨fun pins s' σ H Q I q => h.run pins s' σ H Q I (s σ H Q q)⟩
def oNo : Eo := fun _ w => some (none, w)
def oSo (f : Ev) : Eo := fun ds w => (f ds w).bind fun a => match a.1 with | .int i => some (some i, a.2) | _ => none
theorem jo_no : JO X none oNo := ⟨po_weak po_none fun σ H Q ⟨Z, F, ds, w, d, w', rr, hf, k⟩ => by cases hf; exact k F H rr.stp rr.dr⟩
theorem jo_so (h : JB X a fa) : JO X (some a) (oSo fa) := ⟨po_weak (po_some h.run) fun σ H Q ⟨Z, F, ds, w, d, w', rr, hf, k⟩ => by
  obtain ⟨⟨x, w1⟩, hx, hf⟩ := bind2 hf
  refine ⟨Z, F, ds, w, _, _, rr, hx, fun v F1 H1 s1 d1 hv => ?_⟩
  cases x with
  | int i =>
    cases hf
    exact ⟨i, hv.int, k F1 H1 s1 d1⟩
  | _ => cases hf⟩
def cutD (xs : List D) (lo hi : Option Int) : List D := (xs.drop (HT.sIx xs.length 0 lo)).take (HT.sIx xs.length xs.length hi - HT.sIx xs.length 0 lo)
theorem cut_of {p : Addr} {F : Hp} {xs : List D} {vs : List V} (h : Dens K p F xs vs) (lo hi : Option Int) : Dens K p F (cutD xs lo hi) (cutV vs lo hi) := by
  unfold cutD cutV
  rw [h.len]
  exact (h.drop _).take _
def fSl (f : Ev) (l h : Eo) : Ef := fun ds w => (f ds w).bind fun a => (l ds a.2).bind fun lo => (h ds lo.2).bind fun hi => match a.1 with | .lst xs => some (cutD xs lo.1 hi.1, hi.2) | _ => none
/-- the same of a tuple -/
def eSlT (f : Ev) (l h : Eo) : Ev := fun ds w => (f ds w).bind fun a => (l ds a.2).bind fun lo => (h ds lo.2).bind fun hi => match a.1 with | .tup xs => some (.tup (cutD xs lo.1 hi.1), hi.2) | _ => none
theorem cutD_whole {xs : List D} {lo hi : Option Int} (h : HT.sIx xs.length 0 lo = 0 ∧ HT.sIx xs.length xs.length hi = xs.length) : cutD xs lo hi = xs := by
  unfold cutD
  rw [h.1, h.2]
  simp
theorem jf_slice {lo hi : Option Expr} {l h : Eo} {p2 : Pos} (ha : JB X a fa) (hl : JO X lo l) (hh : JO X hi h) : JF X (.Subscript a (.Slice lo hi none p2) pos) (fSl fa l h) := ⟨pe_weak (pe_slice sl_list ha.run hl.run hh.run) fun σ H Q ⟨Z, F, ds, w, d, w', rr, hf, k⟩ => by
  obtain ⟨⟨x, w1⟩, hx, hf⟩ := bind2 hf
  obtain ⟨⟨lo, w2⟩, hlo, hf⟩ := bind2 hf
  obtain ⟨⟨hi, w3⟩, hhi, hf⟩ := bind2 hf
  refine ⟨Z, F, ds, w, _, _, rr, hx, fun v F1 H1 s1 d1 hv => ⟨Z, F1, ds, _, _, _, rr.step s1 d1, hlo, fun F2 H2 s2 d2 => ⟨Z, F2, ds, _, _, _, (rr.step s1 d1).step s2 d2, hhi, fun F3 H3 s3 d3 => ?_⟩⟩⟩
  cases x with
  | lst xs =>
    cases hf
    have s13 := s2.trans s3
    obtain ⟨q, vs, rfl, h1, h2⟩ := (hv.step s13).lst s3.e
    exact ⟨q, vs, rfl, .of h1, (k.go (s1.trans s13) rr.pn).new (rr.step (s1.trans s13) d3) (cut_of h2 lo hi)⟩
  | _ => cases hf⟩
theorem je_sliceT {lo hi : Option Expr} {l h : Eo} {p2 : Pos} (ha : JB X a fa) (hl : JO X lo l) (hh : JO X hi h) : JE X (.Subscript a (.Slice lo hi none p2) pos) (eSlT fa l h) := ⟨pe_weak (pe_slice sl_tupA ha.run hl.run hh.run) fun σ H Q ⟨Z, F, ds, w, d, w', rr, hf, k⟩ => by
  obtain ⟨⟨x, w1⟩, hx, hf⟩ := bind2 hf
  obtain ⟨⟨lo, w2⟩, hlo, hf⟩ := bind2 hf
  obtain ⟨⟨hi, w3⟩, hhi, hf⟩ := bind2 hf
  refine ⟨Z, F, ds, w, _, _, rr, hx, fun v F1 H1 s1 d1 hv => ⟨Z, F1, ds, _, _, _, rr.step s1 d1, hlo, fun F2 H2 s2 d2 => ⟨Z, F2, ds, _, _, _, (rr.step s1 d1).step s2 d2, hhi, fun F3 H3 s3 d3 => ?_⟩⟩⟩
  cases x with
  | tup xs =>
    cases hf
    have s13 := s2.trans s3
    have r3 := rr.step (s1.trans s13) d3
    obtain ⟨q, vs, rfl, h1, h2⟩ := (hv.step s13).tup
    refine ⟨q, vs, rfl, same_t h1 r3.ex, fun e => ?_, fun _ t ht => ?_⟩
    · rw [h2.len] at e
      rw [cutD_whole e] at k
      exact k _ F3 H3 (s1.trans s13) d3 (den_tup h1 h2)
    · obtain ⟨s4, d4⟩ := r3.new (o := .tup (cutV vs lo hi)) ht
      exact k _ _ _ ((s1.trans s13).trans s4) d4 (den_tup (.inl upd_same) ((cut_of h2 lo hi).mono s4.f))
  | _ => cases hf⟩
def fRev (f : Ev) : Ef := fun ds w => (f ds w).bind fun a => match a.1 with | .lst xs => some (xs.reverse, a.2) | _ => none
theorem jf_rev {n : Nat} {p1 p2 p3 : Pos} (ha : JB X a fa) : JF X (.Subscript a (.Slice none none (some (.UnaryOp .USub (.Constant (.int 1) n p1) p2)) p3) pos) (fRev fa) := ⟨pe_weak (pe_revL ha.run) fun σ H Q ⟨Z, F, ds, w, d, w', rr, hf, k⟩ => by
  obtain ⟨⟨x, w1⟩, hx, hf⟩ := bind2 hf
  refine ⟨Z, F, ds, w, _, _, rr, hx, fun v F1 H1 s1 d1 hv => ?_⟩
  cases x with
  | lst xs =>
    cases hf
    obtain ⟨q, vs, rfl, h1, h2⟩ := hv.lst s1.e
    exact ⟨q, vs, rfl, .of h1, (k.go s1 rr.pn).new (rr.step s1 d1) h2.rev⟩
  | _ => cases hf⟩
end
end J
namespace J
open PySem L2
/-! ### calls of built-ins: what they read is not kept -/
def CalS (K : PySem.W.Frag) (r : List V → Hp → VK → Prop) (g : List D → Option D) : Prop := ∀ (Z : Cfg) (F H : Hp) (σ : L2.St) (ds : List Sl) (w : Wd) (as : List D) (d : D) (vs : List V) (Q : VK), R K Z F H σ ds w → DensB K Z.p F H as vs → g as = some d → KD K Z.p F H w d Q → r vs H Q
def CalF (K : PySem.W.Frag) (r : List V → Hp → VK → Prop) (g : List D → Option (List D)) : Prop := ∀ (Z : Cfg) (F H : Hp) (σ : L2.St) (ds : List Sl) (w : Wd) (as xs : List D) (vs : List V) (Q : VK), R K Z F H σ ds w → DensB K Z.p F H as vs → g as = some xs → KF K Z.p F H w xs Q → r vs H Q
def eCal (g : List D → Option D) (f : Ef) : Ev := fun ds w => (f ds w).bind fun a => (g a.1).bind fun d => some (d, a.2)
def fCal (g : List D → Option (List D)) (f : Ef) : Ef := fun ds w => (f ds w).bind fun a => (g a.1).bind fun d => some (d, a.2)
section
variable {X : Cx} {K : PySem.W.Frag} {x : Str} {e : Expr} {es : List Expr} {fs : Ef} {p pos : Pos} {id T : String} {r : List V → Hp → VK → Prop} {g : List D → Option D} {gf : List D → Option (List D)}
theorem cb_of (hs : CalS K r g) (σ : L2.St) (H : Hp) (Q : VK) : canE K (eCal g fs) σ H Q → tCB r (canR K fs) σ H Q := fun ⟨Z, F, ds, w, d, w', rr, hf, k⟩ => by
  obtain ⟨a, ha, hf⟩ := bind2 hf
  obtain ⟨c, hc, hf⟩ := bind2 hf
  cases hf
  exact ⟨Z, F, ds, w, _, _, rr, ha, fun vs F1 H1 s1 d1 hv => hs Z F1 H1 σ ds _ _ _ vs Q (rr.step s1 d1) hv hc (k.go s1)⟩
theorem cbF_of (hs : CalF K r gf) (σ : L2.St) (H : Hp) (Q : VK) : canF K (fCal gf fs) σ H Q → tCB r (canR K fs) σ H Q := fun ⟨Z, F, ds, w, d, w', rr, hf, k⟩ => by
  obtain ⟨a, ha, hf⟩ := bind2 hf
  obtain ⟨c, hc, hf⟩ := bind2 hf
  cases hf
  exact ⟨Z, F, ds, w, _, _, rr, ha, fun vs F1 H1 s1 d1 hv => hs Z F1 H1 σ ds _ _ _ vs Q (rr.step s1 d1) hv hc (k.go s1 rr.pn)⟩
theorem je_bltO (hc : CallR X (.builtin id) r) (hs : CalS X.K r g) (hg : Gl X x) (hm : X.mg x = none) (hv : bootBuiltins x = some (.builtin id)) (ha : JR X (e :: es) fs) (hn : x ≠ "__name__" := by decide) (hdb : (x == ("__debug__" : Str)) = false := by decide)
    (he : starEach (e :: es) X.env = (false, eval e X.env) :: starEach es X.env := by rfl) (hpl : (backTo pos (starEach es X.env)).any (·.1) = false := by rfl) : JE X (.Call (.Name x p) (e :: es) [] pos) (eCal g fs) :=
  ⟨pe_weak (pe_callB hc hg hm hv ha.run hn hdb he hpl) (cb_of hs)⟩
theorem je_typO (hc : CallR X (.type T) r) (hs : CalS X.K r g) (hg : Gl X x) (hm : X.mg x = none) (hv : bootBuiltins x = some (.type T)) (ha : JR X (e :: es) fs) (hn : x ≠ "__name__" := by decide) (hdb : (x == ("__debug__" : Str)) = false := by decide)
    (he : starEach (e :: es) X.env = (false, eval e X.env) :: starEach es X.env := by rfl) (hpl : (backTo pos (starEach es X.env)).any (·.1) = false := by rfl) : JE X (.Call (.Name x p) (e :: es) [] pos) (eCal g fs) :=
  ⟨pe_weak (pe_callTy hc hg hm hv ha.run hn hdb he hpl) (cb_of hs)⟩
theorem jf_bltO (hc : CallR X (.builtin id) r) (hs : CalF X.K r gf) (hg : Gl X x) (hm : X.mg x = none) (hv : bootBuiltins x = some (.builtin id)) (ha : JR X (e :: es) fs) (hn : x ≠ "__name__" := by decide) (hdb : (x == ("__debug__" : Str)) = false := by decide)
    (he : starEach (e :: es) X.env = (false, eval e X.env) :: starEach es X.env := by rfl) (hpl : (backTo pos (starEach es X.env)).any (·.1) = false := by rfl) : JF X (.Call (.Name x p) (e :: es) [] pos) (fCal gf fs) :=
  ⟨pe_weak (pe_callB hc hg hm hv ha.run hn hdb he hpl) (cbF_of hs)⟩
theorem jf_typO (hc : CallR X (.type T) r) (hs : CalF X.K r gf) (hg : Gl X x) (hm : X.mg x = none) (hv : bootBuiltins x = some (.type T)) (ha : JR X (e :: es) fs) (hn : x ≠ "__name__" := by decide) (hdb : (x == ("__debug__" : Str)) = false := by decide)
    (he : starEach (e :: es) X.env = (false, eval e X.env) :: starEach es X.env := by rfl) (hpl : (backTo pos (starEach es X.env)).any (·.1) = false := by rfl) : JF X (.Call (.Name x p) (e :: es) [] pos) (fCal gf fs) :=
  ⟨pe_weak (pe_callTy hc hg hm hv ha.run hn hdb he hpl) (cbF_of hs)⟩
end
/-! ### the built-ins -/
theorem densB1 {K : PySem.W.Frag} {p : Addr} {F H : Hp} {d : D} {vs : List V} (h : DensB K p F H [d] vs) : ∃ v, vs = [v] ∧ DenB K p F H d v := by
  obtain ⟨v, r, rfl, h1, h2⟩ := h
  cases (show r = [] from h2)
  exact ⟨v, rfl, h1⟩
theorem densB2 {K : PySem.W.Frag} {p : Addr} {F H : Hp} {d e : D} {vs : List V} (h : DensB K p F H [d, e] vs) : ∃ v u, vs = [v, u] ∧ DenB K p F H d v ∧ DenB K p F H e u := by
  obtain ⟨v, r, rfl, h1, h2⟩ := h
  obtain ⟨u, rfl, h3⟩ := densB1 h2
  exact ⟨v, u, rfl, h1, h3⟩
def gLen : List D → Option D
  | [.lst xs] => some (.int (xs.length : Int))
  | [.tup xs] => some (.int (xs.length : Int))
  | [.str s] => if s.length ≤ line then some (.int (s.length : Int)) else none
  | _ => none
def rLenJ (K : PySem.W.Frag) : List V → Hp → VK → Prop := fun xs H Q => (∃ p ys, xs = [.ref p] ∧ (SqL K H p ys ∨ SqT K H p ys) ∧ Q (.int ys.length) H) ∨ (∃ z, xs = [.str z] ∧ z.length ≤ sizeLine ∧ Q (.int z.length) H)
section
variable {K : PySem.W.Frag}
theorem s_len : CalS K (rLenJ K) gLen := fun Z F H σ ds w as d vs Q r h hg k => by
  unfold gLen at hg
  split at hg
  · cases hg
    obtain ⟨v, rfl, hv⟩ := densB1 h
    obtain ⟨q, us, rfl, h1, h2⟩ := hv.lst r.ex
    exact .inl ⟨q, us, rfl, .inl (.of h1), by rw [h2.len]; exact k _ F H r.stp r.dr den_int⟩
  · cases hg
    obtain ⟨v, rfl, hv⟩ := densB1 h
    obtain ⟨q, us, rfl, h1, h2⟩ := hv.tup
    exact .inl ⟨q, us, rfl, .inr (same_t h1 r.ex), by rw [h2.len]; exact k _ F H r.stp r.dr den_int⟩
  · split at hg
    · rename_i hl
      cases hg
      obtain ⟨v, rfl, hv⟩ := densB1 h
      cases hv.str
      exact .inr ⟨_, rfl, sz_of hl, k _ F H r.stp r.dr den_int⟩
    · cases hg
  · cases hg
def gInt2 (f : Int → Int → Int) : List D → Option D
  | [.int i, .int j] => some (.int (f i j))
  | _ => none
theorem s_int2 (f : Int → Int → Int) : CalS K (fun xs H Q => ∃ i j, xs = [.int i, .int j] ∧ Q (.int (f i j)) H) (gInt2 f) := fun Z F H σ ds w as d vs Q r h hg k => by
  unfold gInt2 at hg
  split at hg
  · cases hg
    obtain ⟨v, u, rfl, h1, h2⟩ := densB2 h
    cases h1.int
    cases h2.int
    exact ⟨_, _, rfl, k _ F H r.stp r.dr den_int⟩
  · cases hg
def gInt : List D → Option D
  | [.int i] => some (.int i)
  | [.bl b] => some (.int (if b then 1 else 0))
  | _ => none
theorem s_int : CalS K (fun xs H Q => (∃ i, xs = [.int i] ∧ Q (.int i) H) ∨ ∃ k, xs = [.bl k] ∧ Q (.int (if k then 1 else 0)) H) gInt := fun Z F H σ ds w as d vs Q r h hg k => by
  unfold gInt at hg
  split at hg
  · cases hg
    obtain ⟨v, rfl, h1⟩ := densB1 h
    cases h1.int
    exact .inl ⟨_, rfl, k _ F H r.stp r.dr den_int⟩
  · cases hg
    obtain ⟨v, rfl, h1⟩ := densB1 h
    cases h1.bl
    exact .inr ⟨_, rfl, k _ F H r.stp r.dr den_int⟩
  · cases hg
/-! lists of ints, of truths -/
def intsOf : List D → Option (List Int)
  | [] => some []
  | .int i :: r => (intsOf r).bind fun l => some (i :: l)
  | _ :: _ => none
def blsOf : List D → Option (List Bool)
  | [] => some []
  | .bl i :: r => (blsOf r).bind fun l => some (i :: l)
  | _ :: _ => none
theorem intsOf_eq : ∀ {ds : List D} {ns : List Int}, intsOf ds = some ns → ds = ns.map D.int
  | [], ns, h => by cases h; rfl
  | .int i :: r, ns, h => by
    obtain ⟨l, h1, h2⟩ := bind2 (show (intsOf r).bind _ = _ from h)
    cases h2
    rw [List.map_cons, intsOf_eq h1]
  | .non :: r, ns, h => by cases h
  | .bl _ :: r, ns, h => by cases h
  | .str _ :: r, ns, h => by cases h
  | .ty _ :: r, ns, h => by cases h
  | .draw :: r, ns, h => by cases h
  | .tup _ :: r, ns, h => by cases h
  | .lst _ :: r, ns, h => by cases h
theorem intsOf_map : ∀ ns : List Int, intsOf (ns.map D.int) = some ns
  | [] => rfl
  | n :: ns => by
    show (intsOf (ns.map D.int)).bind _ = _
    rw [intsOf_map ns]
    rfl
theorem blsOf_eq : ∀ {ds : List D} {ns : List Bool}, blsOf ds = some ns → ds = ns.map D.bl
  | [], ns, h => by cases h; rfl
  | .bl i :: r, ns, h => by
    obtain ⟨l, h1, h2⟩ := bind2 (show (blsOf r).bind _ = _ from h)
    cases h2
    rw [List.map_cons, blsOf_eq h1]
  | .non :: r, ns, h => by cases h
  | .int _ :: r, ns, h => by cases h
  | .str _ :: r, ns, h => by cases h
  | .ty _ :: r, ns, h => by cases h
  | .draw :: r, ns, h => by cases h
  | .tup _ :: r, ns, h => by cases h
  | .lst _ :: r, ns, h => by cases h
theorem blsOf_map : ∀ ns : List Bool, blsOf (ns.map D.bl) = some ns
  | [] => rfl
  | n :: ns => by
    show (blsOf (ns.map D.bl)).bind _ = _
    rw [blsOf_map ns]
    rfl
theorem lstInts {p : Addr} {F H : Hp} {xs : List D} {ns : List Int} {v : V} (h : DenB K p F H (.lst xs) v) (e : Same F H) (hi : intsOf xs = some ns) : ∃ a, v = .ref a ∧ SqL K H a (ns.map V.int) := by
  obtain ⟨q, us, rfl, h1, h2⟩ := h.lst e
  rw [intsOf_eq hi] at h2
  rw [h2.ints'] at h1
  exact ⟨q, rfl, .of h1⟩
theorem lstBls {p : Addr} {F H : Hp} {xs : List D} {ns : List Bool} {v : V} (h : DenB K p F H (.lst xs) v) (e : Same F H) (hi : blsOf xs = some ns) : ∃ a, v = .ref a ∧ SqL K H a (ns.map V.bl) := by
  obtain ⟨q, us, rfl, h1, h2⟩ := h.lst e
  rw [blsOf_eq hi] at h2
  rw [h2.bls'] at h1
  exact ⟨q, rfl, .of h1⟩
def gSum : List D → Option D
  | [.lst xs] => (intsOf xs).bind fun ns => some (.int ns.sum)
  | _ => none
theorem s_sum : CalS K (rSum K) gSum := fun Z F H σ ds w as d vs Q r h hg k => by
  unfold gSum at hg
  split at hg
  · obtain ⟨ns, h1, h2⟩ := bind2 hg
    cases h2
    obtain ⟨v, rfl, hv⟩ := densB1 h
    obtain ⟨a, rfl, h3⟩ := lstInts hv r.ex h1
    exact ⟨a, ns, rfl, h3, k _ F H r.stp r.dr den_int⟩
  · cases hg
def gAll : List D → Option D
  | [.lst xs] => (blsOf xs).bind fun ns => some (.bl (ns.all id))
  | _ => none
def gAny : List D → Option D
  | [.lst xs] => (blsOf xs).bind fun ns => some (.bl (ns.any id))
  | _ => none
theorem s_all : CalS K (rAll K) gAll := fun Z F H σ ds w as d vs Q r h hg k => by
  unfold gAll at hg
  split at hg
  · obtain ⟨ns, h1, h2⟩ := bind2 hg
    cases h2
    obtain ⟨v, rfl, hv⟩ := densB1 h
    obtain ⟨a, rfl, h3⟩ := lstBls hv r.ex h1
    exact ⟨a, ns, rfl, h3, k _ F H r.stp r.dr den_bl⟩
  · cases hg
theorem s_any : CalS K (rAny K) gAny := fun Z F H σ ds w as d vs Q r h hg k => by
  unfold gAny at hg
  split at hg
  · obtain ⟨ns, h1, h2⟩ := bind2 hg
    cases h2
    obtain ⟨v, rfl, hv⟩ := densB1 h
    obtain ⟨a, rfl, h3⟩ := lstBls hv r.ex h1
    exact ⟨a, ns, rfl, h3, k _ F H r.stp r.dr den_bl⟩
  · cases hg
/-- the greatest, the least of some ints -/
def maxI : List Int → Int
  | [] => 0
  | n :: ns => ns.foldl max n
def minI : List Int → Int
  | [] => 0
  | n :: ns => ns.foldl min n
theorem maxI_spec : ∀ (ns : List Int) (n : Int), (ns.foldl max n ∈ n :: ns) ∧ ∀ y ∈ n :: ns, y ≤ ns.foldl max n
  | [], n => ⟨by simp, by simp⟩
  | m :: ns, n => by
    obtain ⟨h1, h2⟩ := maxI_spec ns (max n m)
    rw [List.foldl_cons]
    refine ⟨?_, fun y hy => ?_⟩
    · rcases List.mem_cons.mp h1 with e | e
      · rw [e]
        rcases Int.le_total n m with h | h
        · rw [Int.max_eq_right h]; simp
        · rw [Int.max_eq_left h]; simp
      · exact List.mem_cons_of_mem _ (List.mem_cons_of_mem _ e)
    · have h3 := h2 (max n m) (by simp)
      rcases List.mem_cons.mp hy with e | e
      · subst e; omega
      · rcases List.mem_cons.mp e with e | e
        · subst e; omega
        · exact h2 y (List.mem_cons_of_mem _ e)
theorem minI_spec : ∀ (ns : List Int) (n : Int), (ns.foldl min n ∈ n :: ns) ∧ ∀ y ∈ n :: ns, ns.foldl min n ≤ y
  | [], n => ⟨by simp, by simp⟩
  | m :: ns, n => by
    obtain ⟨h1, h2⟩ := minI_spec ns (min n m)
    rw [List.foldl_cons]
    refine ⟨?_, fun y hy => ?_⟩
    · rcases List.mem_cons.mp h1 with e | e
      · rw [e]
        rcases Int.le_total n m with h | h
        · rw [Int.min_eq_left h]; simp
        · rw [Int.min_eq_right h]; simp
      · exact List.mem_cons_of_mem _ (List.mem_cons_of_mem _ e)
    · have h3 := h2 (min n m) (by simp)
      rcases List.mem_cons.mp hy with e | e
      · subst e; omega
      · rcases List.mem_cons.mp e with e | e
        · subst e; omega
        · exact h2 y (List.mem_cons_of_mem _ e)
theorem maxI_eq {ns : List Int} {m : Int} (h : m ∈ ns) (hm : ∀ y ∈ ns, y ≤ m) : m = maxI ns := by
  cases ns with
  | nil => cases h
  | cons n ns =>
    obtain ⟨h1, h2⟩ := maxI_spec ns n
    exact Int.le_antisymm (h2 m h) (hm _ h1)
theorem minI_eq {ns : List Int} {m : Int} (h : m ∈ ns) (hm : ∀ y ∈ ns, m ≤ y) : m = minI ns := by
  cases ns with
  | nil => cases h
  | cons n ns =>
    obtain ⟨h1, h2⟩ := minI_spec ns n
    exact Int.le_antisymm (hm _ h1) (h2 m h)
def gMaxL : List D → Option D
  | [.lst xs] => (intsOf xs).bind fun ns => if 0 < ns.length then some (.int (maxI ns)) else none
  | _ => none
def gMinL : List D → Option D
  | [.lst xs] => (intsOf xs).bind fun ns => if 0 < ns.length then some (.int (minI ns)) else none
  | _ => none
theorem s_maxL : CalS K (rMax K) gMaxL := fun Z F H σ ds w as d vs Q r h hg k => by
  unfold gMaxL at hg
  split at hg
  · obtain ⟨ns, h1, h2⟩ := bind2 hg
    split at h2
    · rename_i hp
      cases h2
      obtain ⟨v, rfl, hv⟩ := densB1 h
      obtain ⟨a, rfl, h3⟩ := lstInts hv r.ex h1
      exact ⟨a, ns, rfl, h3, hp, fun m hm hy => by rw [maxI_eq hm hy]; exact k _ F H r.stp r.dr den_int⟩
    · cases h2
  · cases hg
theorem s_minL : CalS K (rMin K) gMinL := fun Z F H σ ds w as d vs Q r h hg k => by
  unfold gMinL at hg
  split at hg
  · obtain ⟨ns, h1, h2⟩ := bind2 hg
    split at h2
    · rename_i hp
      cases h2
      obtain ⟨v, rfl, hv⟩ := densB1 h
      obtain ⟨a, rfl, h3⟩ := lstInts hv r.ex h1
      exact ⟨a, ns, rfl, h3, hp, fun m hm hy => by rw [minI_eq hm hy]; exact k _ F H r.stp r.dr den_int⟩
    · cases h2
  · cases hg
def f2max (i j : Int) : Int := if j > i then j else i
def f2min (i j : Int) : Int := if j < i then j else i
def gMax : List D → Option D
  | [.int i, .int j] => some (.int (f2max i j))
  | as => gMaxL as
def gMin : List D → Option D
  | [.int i, .int j] => some (.int (f2min i j))
  | as => gMinL as
theorem s_max : CalS K (fun xs H Q => (∃ i j, xs = [.int i, .int j] ∧ Q (.int (f2max i j)) H) ∨ rMax K xs H Q) gMax := fun Z F H σ ds w as d vs Q r h hg k => by
  unfold gMax at hg
  split at hg
  · cases hg
    exact .inl (s_int2 f2max Z F H σ ds w _ _ vs Q r h rfl k)
  · exact .inr (s_maxL Z F H σ ds w _ _ vs Q r h hg k)
theorem s_min : CalS K (fun xs H Q => (∃ i j, xs = [.int i, .int j] ∧ Q (.int (f2min i j)) H) ∨ rMin K xs H Q) gMin := fun Z F H σ ds w as d vs Q r h hg k => by
  unfold gMin at hg
  split at hg
  · cases hg
    exact .inl (s_int2 f2min Z F H σ ds w _ _ vs Q r h rfl k)
  · exact .inr (s_minL Z F H σ ds w _ _ vs Q r h hg k)
/-- list(x), tuple(x) -/
def gfList : List D → Option (List D)
  | [.lst xs] => some xs
  | [.tup xs] => some xs
  | _ => none
theorem s_list : CalF K (fun xs H Q => ∃ p ys, xs = [.ref p] ∧ (SqL K H p ys ∨ SqT K H p ys) ∧ ∀ l, H l = none → Q (.ref l) (upd H l (.lst ys))) gfList := fun Z F H σ ds w as xs vs Q r h hg k => by
  unfold gfList at hg
  split at hg
  · cases hg
    obtain ⟨v, rfl, hv⟩ := densB1 h
    obtain ⟨q, us, rfl, h1, h2⟩ := hv.lst r.ex
    exact ⟨q, us, rfl, .inl (.of h1), k.new r h2⟩
  · cases hg
    obtain ⟨v, rfl, hv⟩ := densB1 h
    obtain ⟨q, us, rfl, h1, h2⟩ := hv.tup
    exact ⟨q, us, rfl, .inr (same_t h1 r.ex), k.new r h2⟩
  · cases hg
def gTuple : List D → Option D
  | [.lst xs] => some (.tup xs)
  | [.tup xs] => some (.tup xs)
  | _ => none
theorem s_tuple : CalS K (fun xs H Q => ∃ p ys, xs = [.ref p] ∧ ((SqL K H p ys ∧ ∀ l, H l = none → Q (.ref l) (upd H l (.tup ys))) ∨ (SqT K H p ys ∧ Q (.ref p) H))) gTuple := fun Z F H σ ds w as d vs Q r h hg k => by
  unfold gTuple at hg
  split at hg
  · cases hg
    obtain ⟨v, rfl, hv⟩ := densB1 h
    obtain ⟨q, us, rfl, h1, h2⟩ := hv.lst r.ex
    refine ⟨q, us, rfl, .inl ⟨.of h1, fun t ht => ?_⟩⟩
    obtain ⟨s4, d4⟩ := r.new (o := .tup us) ht
    exact k _ _ _ s4 d4 (den_tup (.inl upd_same) (h2.mono s4.f))
  · cases hg
    obtain ⟨v, rfl, hv⟩ := densB1 h
    obtain ⟨q, us, rfl, h1, h2⟩ := hv.tup
    exact ⟨q, us, rfl, .inr ⟨same_t h1 r.ex, k _ F H r.stp r.dr (den_tup h1 h2)⟩⟩
  · cases hg
/-- sorted(x) of ints -/
def sortI (ns : List Int) : List Int := ns.mergeSort (fun a b => decide (a ≤ b))
theorem sortI_perm (ns : List Int) : (sortI ns).Perm ns := List.mergeSort_perm ns _
theorem sortI_pair (ns : List Int) : (sortI ns).Pairwise (· ≤ ·) := by
  have h := List.pairwise_mergeSort (le := fun a b : Int => decide (a ≤ b)) (fun a b c h1 h2 => by simp at h1 h2 ⊢; omega) (fun a b => by simp; omega) ns
  exact h.imp fun h => of_decide_eq_true h
def gfSorted : List D → Option (List D)
  | [.lst xs] => (intsOf xs).bind fun ns => some ((sortI ns).map D.int)
  | _ => none
theorem s_sorted : CalF K (rSortedI K) gfSorted := fun Z F H σ ds w as xs vs Q r h hg k => by
  unfold gfSorted at hg
  split at hg
  · obtain ⟨ns, h1, h2⟩ := bind2 hg
    cases h2
    obtain ⟨v, rfl, hv⟩ := densB1 h
    obtain ⟨a, rfl, h3⟩ := lstInts hv r.ex h1
    refine ⟨a, ns, rfl, h3, fun ns' p hp hs hn => ?_⟩
    have e : ns' = sortI ns := PySem.W.ksm_same (hp.trans (sortI_perm ns).symm) hs (sortI_pair ns)
    rw [e]
    exact k.new r (Dens.ints _) p hn
  · cases hg
/-! isinstance -/
def tyName : D → Option String
  | .non => some "NoneType" | .bl _ => some "bool" | .int _ => some "int" | .str _ => some "str" | .tup _ => some "tuple" | .lst _ => some "list" | _ => none
def isiD (d : D) (n : String) : Option Bool := (tyName d).bind fun t => kitB t n
theorem tyx_of {p : Addr} {F H : Hp} {d : D} {v : V} {t : String} (h : DenB K p F H d v) (e : Same F H) (ht : tyName d = some t) : TyX K H v (.type t) := by
  cases d with
  | non => cases ht; rw [h.non]; exact .base .non
  | bl b => cases ht; rw [h.bl]; exact .base (.bl b)
  | int b => cases ht; rw [h.int]; exact .base (.int b)
  | str b => cases ht; rw [h.str]; exact .base (.str b)
  | tup b =>
    cases ht
    obtain ⟨q, us, rfl, h1, h2⟩ := h.tup
    rcases h1 with h1 | h1 | ⟨o, its, n, h1, h3, _⟩
    · exact .base (.tup (e _ _ h1))
    · rcases h1 with h1 | ⟨o, h1⟩ <;> cases h1
    · exact .kTuple h1 h3
  | lst b =>
    cases ht
    obtain ⟨q, us, rfl, h1, h2⟩ := h.lst e
    exact .base (.lst h1)
  | ty _ => cases ht
  | draw => cases ht
  | obj _ _ _ => cases ht
def gIsi : List D → Option D
  | [d, .ty n] => (isiD d n).bind fun b => some (.bl b)
  | _ => none
theorem s_isi : CalS K (rIsi K) gIsi := fun Z F H σ ds w as d vs Q r h hg k => by
  unfold gIsi at hg
  split at hg
  · rename_i d0 n0
    obtain ⟨b, h1, h2⟩ := bind2 hg
    cases h2
    obtain ⟨t, h3, h4⟩ := bind2 h1
    obtain ⟨v, u, rfl, hv, hu⟩ := densB2 h
    have hu' : u = .ty n0 := by
      rcases hu with hu | ⟨_, _, q, _⟩
      · unfold Den at hu
        exact hu
      · cases q
    subst hu'
    exact ⟨v, _, _, _, b, rfl, .ty n0, tyx_of hv r.ex h3, kit_ty h4, k _ F H r.stp r.dr den_bl⟩
  · cases hg
end
section
variable {X : Cx} {K : PySem.W.Frag} {e : Expr} {es : List Expr} {fs : Ef} {p pos : Pos} {f : Ev}
def eLen := eCal gLen
theorem je_len (hm : X.mg "len" = none) (hg : Gl X "len") (ha : JR X [e] fs) (he : starEach [e] X.env = (false, eval e X.env) :: starEach [] X.env := by rfl) : JE X (.Call (.Name "len" p) [e] [] pos) (eLen fs) := je_bltO (CallR.or call_len_seq call_len_str) s_len hg hm boot_len ha (by decide) (by decide) he rfl
def eMin := eCal gMin
def eMax := eCal gMax
theorem je_min (hc : X.calm = true) (hm : X.mg "min" = none) (hg : Gl X "min") (ha : JR X (e :: es) fs) (he : starEach (e :: es) X.env = (false, eval e X.env) :: starEach es X.env := by rfl) (hpl : (backTo pos (starEach es X.env)).any (·.1) = false := by rfl) : JE X (.Call (.Name "min" p) (e :: es) [] pos) (eMin fs) := je_bltO (CallR.or (call_min2 hc) (cr_min hc)) s_min hg hm (by decide +kernel) ha (by decide) (by decide) he hpl
theorem je_max (hc : X.calm = true) (hm : X.mg "max" = none) (hg : Gl X "max") (ha : JR X (e :: es) fs) (he : starEach (e :: es) X.env = (false, eval e X.env) :: starEach es X.env := by rfl) (hpl : (backTo pos (starEach es X.env)).any (·.1) = false := by rfl) : JE X (.Call (.Name "max" p) (e :: es) [] pos) (eMax fs) := je_bltO (CallR.or (call_max2 hc) (cr_max hc)) s_max hg hm (by decide +kernel) ha (by decide) (by decide) he hpl
def eInt := eCal gInt
theorem je_intc (hm : X.mg "int" = none) (hg : Gl X "int") (ha : JR X [e] fs) (he : starEach [e] X.env = (false, eval e X.env) :: starEach [] X.env := by rfl) : JE X (.Call (.Name "int" p) [e] [] pos) (eInt fs) := je_typO call_int1 s_int hg hm (by decide +kernel) ha (by decide) (by decide) he rfl
def eSum := eCal gSum
theorem je_sum (hc : X.calm = true) (hm : X.mg "sum" = none) (hg : Gl X "sum") (ha : JR X [e] fs) (he : starEach [e] X.env = (false, eval e X.env) :: starEach [] X.env := by rfl) : JE X (.Call (.Name "sum" p) [e] [] pos) (eSum fs) := je_bltO (cr_sum hc) s_sum hg hm (by decide +kernel) ha (by decide) (by decide) he rfl
def eAll := eCal gAll
theorem je_all (hc : X.calm = true) (hm : X.mg "all" = none) (hg : Gl X "all") (ha : JR X [e] fs) (he : starEach [e] X.env = (false, eval e X.env) :: starEach [] X.env := by rfl) : JE X (.Call (.Name "all" p) [e] [] pos) (eAll fs) := je_bltO (cr_all hc) s_all hg hm (by decide +kernel) ha (by decide) (by decide) he rfl
def eAny := eCal gAny
theorem je_any (hc : X.calm = true) (hm : X.mg "any" = none) (hg : Gl X "any") (ha : JR X [e] fs) (he : starEach [e] X.env = (false, eval e X.env) :: starEach [] X.env := by rfl) : JE X (.Call (.Name "any" p) [e] [] pos) (eAny fs) := je_bltO (cr_any hc) s_any hg hm (by decide +kernel) ha (by decide) (by decide) he rfl
def fList := fCal gfList
theorem jf_list (hm : X.mg "list" = none) (hg : Gl X "list") (ha : JR X [e] fs) (he : starEach [e] X.env = (false, eval e X.env) :: starEach [] X.env := by rfl) : JF X (.Call (.Name "list" p) [e] [] pos) (fList fs) := jf_typO call_list_of s_list hg hm PyProof.Rows.boot_list ha (by decide) (by decide) he rfl
def eTuple := eCal gTuple
theorem je_tuple (hm : X.mg "tuple" = none) (hg : Gl X "tuple") (ha : JR X [e] fs) (he : starEach [e] X.env = (false, eval e X.env) :: starEach [] X.env := by rfl) : JE X (.Call (.Name "tuple" p) [e] [] pos) (eTuple fs) := je_typO call_tuple_of s_tuple hg hm PyProof.Rows.boot_tuple ha (by decide) (by decide) he rfl
def fSorted := fCal gfSorted
theorem jf_sorted (hm : X.mg "sorted" = none) (hg : Gl X "sorted") (ha : JR X [e] fs) (he : starEach [e] X.env = (false, eval e X.env) :: starEach [] X.env := by rfl) : JF X (.Call (.Name "sorted" p) [e] [] pos) (fSorted fs) := jf_bltO cr_sortedI s_sorted hg hm (by decide +kernel) ha (by decide) (by decide) he rfl
def eIsi := eCal gIsi
theorem je_isi {c : Expr} (hm : X.mg "isinstance" = none) (hg : Gl X "isinstance") (ha : JR X [e, c] fs) (he : starEach [e, c] X.env = (false, eval e X.env) :: starEach [c] X.env := by rfl) (hpl : (backTo pos (starEach [c] X.env)).any (·.1) = false := by rfl) : JE X (.Call (.Name "isinstance" p) [e, c] [] pos) (eIsi fs) := je_bltO call_isi s_isi hg hm (by decide +kernel) ha (by decide) (by decide) he hpl
/-- isinstance(x, (T, U)) -/
def eIsi2 (f : Ev) (n m : String) : Ev := fun ds w => (f ds w).bind fun a => (isiD a.1 n).bind fun b => (isiD a.1 m).bind fun c => some (.bl (b || c), a.2)
theorem je_isi2 {c1 c2 : Expr} {n m : String} {kt : Nat} {pt : Pos} (hm : X.mg "isinstance" = none) (hg : Gl X "isinstance") (ha : JB X e f) (h1 : PE X c1 (tC (.ty n))) (h2 : PE X c2 (tC (.ty m)))
    (he : starEach [e, .Tuple [c1, c2] kt pt] X.env = (false, eval e X.env) :: starEach [.Tuple [c1, c2] kt pt] X.env := by rfl) (he2 : starEach [.Tuple [c1, c2] kt pt] X.env = (false, eval (.Tuple [c1, c2] kt pt) X.env) :: starEach [] X.env := by rfl)
    (hc1 : starEach [c1, c2] X.env = (false, eval c1 X.env) :: starEach [c2] X.env := by rfl) (hc2 : starEach [c2] X.env = (false, eval c2 X.env) :: starEach [] X.env := by rfl)
    (hpl : (backTo pos (starEach [.Tuple [c1, c2] kt pt] X.env)).any (·.1) = false := by rfl) : JE X (.Call (.Name "isinstance" p) [e, .Tuple [c1, c2] kt pt] [] pos) (eIsi2 f n m) :=
  ⟨pe_weak (pe_callB call_isiT hg hm (by decide +kernel) (pa_cons ha.run (pa_cons (pe_tup (pa_cons h1 (pa_cons h2 pa_nil hc2) hc1)) pa_nil he2) he) (by decide) (by decide) he hpl) fun σ H Q ⟨Z, F, ds, w, d, w', rr, hf, k⟩ => by
    obtain ⟨⟨a, w1⟩, ha, hf⟩ := bind2 hf
    obtain ⟨b, hb, hf⟩ := bind2 hf
    obtain ⟨c, hc, hf⟩ := bind2 hf
    cases hf
    refine ⟨Z, F, ds, w, _, _, rr, ha, fun v F1 H1 s1 d1 hv => ⟨by show 2 ≤ sizeLine; decide, fun t ht => ?_⟩⟩
    obtain ⟨t1, hb1, hb2⟩ := bind2 hb
    obtain ⟨t2, hc1, hc2⟩ := bind2 hc
    obtain ⟨s2, d2⟩ := (rr.step s1 d1).new (o := .tup [.ty n, .ty m]) ht
    rw [hb1] at hc1
    cases hc1
    refine ⟨v, t, [.ty n, .ty m], _, [.type n, .type m], b || c, rfl, upd_same, .cons (.ty n) (.cons (.ty m) .nil), tyx_of (hv.step s2) s2.e hb1, ?_, k _ _ _ (s1.trans s2) d2 den_bl⟩
    exact kitAny_cons (kit_ty hb2) (fun hbf => by rw [hbf]; exact kitAny_cons (kit_ty hc2) (fun hcf => by rw [hcf]; rfl) (fun hct => by rw [hct]; rfl)) (fun hbt => by rw [hbt]; rfl)⟩
/-! ### list(range(a, b, c)) -/
def rgD (a c : Int) (n : Nat) : List D := (List.range n).map fun i => D.int (a + (i : Nat) * c)
def rgVc (a c : Int) (n : Nat) : List V := (List.range n).map fun i => V.int (a + (i : Nat) * c)
theorem dens_rg {p : Addr} {F : Hp} (a c : Int) (n : Nat) : Dens K p F (rgD a c n) (rgVc a c n) := by
  have h := Dens.ints (K := K) (p := p) (F := F) ((List.range n).map fun i => a + (i : Nat) * c)
  rw [List.map_map, List.map_map] at h
  exact h
theorem vals_rgc {a c : Int} {n : Nat} {acc : Array Value} (h : ItemsOf (fun i v => ∃ t, v = .int (a + i * c) t) acc n) : Vals (rgVc a c n) acc.toList := by
  have e : acc.toList.length = n := by rw [Array.length_toList]; exact h.1
  unfold rgVc
  rw [← e]
  refine vals_of_get acc.toList _ fun j u hj => ?_
  obtain ⟨t, rfl⟩ := h.2 j u (by rw [← hj, Array.getElem?_toList])
  exact ⟨t, rfl⟩
/-- how many there are: of a range with a step above 0 -/
def rgN (a b c : Int) : Nat := (Builtin.Range.rangeSize a b c).toNat
theorem rgN_one (a b : Int) : rgN a b 1 = (b - a).toNat := by
  unfold rgN
  rw [rangeSize_one]
  split <;> omega
def small2 (a b c : Int) : Bool := decide (0 < c ∧ c < 1073741824) && Builtin.Range.small a b c && decide (rgN a b c ≤ line)
theorem rangeSize_nn {a b c : Int} (h : 0 < c) : Builtin.Range.rangeSize a b c = (rgN a b c : Nat) := by
  unfold rgN
  have : 0 ≤ Builtin.Range.rangeSize a b c := by
    unfold Builtin.Range.rangeSize
    rw [if_pos h]
    split
    · have := Int.ediv_nonneg (show 0 ≤ b - a - 1 by omega) (show 0 ≤ c by omega)
      omega
    · omega
  omega
theorem small2_one {a b : Int} (ha : -(2 ^ 62) ≤ a) (ha' : a < 2 ^ 62) (hb : -(2 ^ 62) ≤ b) (hb' : b < 2 ^ 62) (hl : (b - a).toNat ≤ line) : small2 a b 1 = true := by
  unfold small2
  rw [rgN_one, PySem.small_one ha ha' hb hb', decide_eq_true hl]
  rfl
def fRg (fa fb fc : Ev) : Ef := fun ds w => (fa ds w).bind fun a => (fb ds a.2).bind fun b => (fc ds b.2).bind fun c => match a.1, b.1, c.1 with
  | .int i, .int j, .int k => if small2 i j k then some (rgD i k (rgN i j k), c.2) else none
  | _, _, _ => none
/-- a range object's numbers -/
structure PRc (X : Cx) (e : Expr) (f : Ef) : Prop where
  run : ∀ (pins : List (Addr × Obj)) (s : Shared) (σ : L2.St) (H : Hp) (Q : Int → Int → Int → Hp → Prop), Inv X pins σ H s →
    (∃ Z F ds w xs w', R X.K Z F H σ ds w ∧ f ds w = some (xs, w') ∧ ∀ i j k F' H', Stp Z.p F H F' H' → Dr Z.p F' H' w' → small2 i j k = true → xs = rgD i k (rgN i j k) → Q i j k H') →
    wpAny (model X.prog X.w) X.A (eval e X.env) (fun x s' => ∃ r a b c t u v H', x = .ref r ∧ IsRange s'.heap r a b c t u v ∧ Inv X pins σ H' s' ∧ Q a b c H') X.xe s
section
variable {X : Cx} {a b c e : Expr} {fa fb fc : Ev} {f : Ef} {p pos : Pos}
theorem prc_3 (hg : Gl X "range") (hm : X.mg "range" = none) (ha : JB X a fa) (hb : JB X b fb) (hc : JB X c fc)
    (na : starEach [a, b, c] X.env = (false, eval a X.env) :: starEach [b, c] X.env := by rfl) (nb : starEach [b, c] X.env = (false, eval b X.env) :: starEach [c] X.env := by rfl) (nc : starEach [c] X.env = (false, eval c X.env) :: starEach [] X.env := by rfl)
    (hpl : (backTo pos (starEach [b, c] X.env)).any (·.1) = false := by rfl) : PRc X (.Call (.Name "range" p) [a, b, c] [] pos) (fRg fa fb fc) := ⟨by
  rintro pins s σ H Q I ⟨Z, F, ds, w, xs, w', rr, hf, k⟩
  obtain ⟨⟨x, w1⟩, hx, hf⟩ := bind2 hf
  obtain ⟨⟨y, w2⟩, hy, hf⟩ := bind2 hf
  obtain ⟨⟨z, w3⟩, hz, hf⟩ := bind2 hf
  refine PyProof.Rows.Call_ (ld_blt I hg hm PyProof.Rows.boot_range (PyProof.Rows.callWith_type1 (thn ((pa_cons ha.run (pa_cons hb.run (pa_cons hc.run pa_nil nc) nb) na).run pos pins s σ H (fun vs H1 => ∃ i j l, vs = [.int i, .int j, .int l] ∧ small2 i j l = true ∧ Q i j l H1) I ?_) fun us s1 ⟨vs, H1, I1, r1, q1⟩ => ?_) na hpl))
  · refine ⟨Z, F, ds, w, _, _, rr, hx, fun v F1 H1 s1 d1 hv => ⟨Z, F1, ds, _, _, _, rr.step s1 d1, hy, fun u F2 H2 s2 d2 hu => ⟨Z, F2, ds, _, _, _, (rr.step s1 d1).step s2 d2, hz, fun t F3 H3 s3 d3 ht => ?_⟩⟩⟩
    cases x <;> first | cases hf | skip
    cases y <;> first | cases hf | skip
    cases z <;> first | cases hf | skip
    dsimp only at hf
    split at hf
    · rename_i hs
      cases hf
      exact ⟨_, _, _, by rw [hv.int, hu.int, ht.int], hs, k _ _ _ F3 H3 ((s1.trans s2).trans s3) d3 hs rfl⟩
    · cases hf
  · obtain ⟨i, j, l, rfl, hs, q⟩ := q1
    have h0 := Bool.and_eq_true_iff.mp (Bool.and_eq_true_iff.mp hs).1
    have h1 : 0 < l ∧ l < 1073741824 := of_decide_eq_true h0.1
    cases r1 with
    | cons r rr =>
      cases rr with
      | cons r' rr =>
        cases rr with
        | cons r'' rr =>
          cases rr
          obtain ⟨t, rfl⟩ := r
          obtain ⟨t', rfl⟩ := r'
          obtain ⟨t'', rfl⟩ := r''
          exact PySem.call_range_3 (by omega) ⟨_, i, j, l, _, _, _, H1, rfl, IsRange.new _ _ _ _ _ _ _, I1.kept (t' := s1.toks) fun b u e => Heap.get?_push_of_some _ e, q⟩ (.inl (PyProof.noPylong_small (by omega)))⟩
theorem prc_2 (hg : Gl X "range") (hm : X.mg "range" = none) (ha : JB X a fa) (hb : JB X b fb)
    (na : starEach [a, b] X.env = (false, eval a X.env) :: starEach [b] X.env := by rfl) (nb : starEach [b] X.env = (false, eval b X.env) :: starEach [] X.env := by rfl)
    (hpl : (backTo pos (starEach [b] X.env)).any (·.1) = false := by rfl) : PRc X (.Call (.Name "range" p) [a, b] [] pos) (fRg fa fb (eC (.int 1))) := ⟨by
  rintro pins s σ H Q I ⟨Z, F, ds, w, xs, w', rr, hf, k⟩
  obtain ⟨⟨x, w1⟩, hx, hf⟩ := bind2 hf
  obtain ⟨⟨y, w2⟩, hy, hf⟩ := bind2 hf
  obtain ⟨⟨z, w3⟩, hz, hf⟩ := bind2 hf
  cases hz
  refine thn (prg_2 hg hm ha.run hb.run na nb hpl pins s σ H (fun i j H1 => Q i j 1 H1) I ?_) fun x s' ⟨r, a, b, t, u, v, H', h1, h2, h3, h4⟩ => ⟨r, a, b, 1, t, u, v, H', h1, h2, h3, h4⟩
  refine ⟨Z, F, ds, w, _, _, rr, hx, fun v F1 H1 s1 d1 hv => ⟨Z, F1, ds, _, _, _, rr.step s1 d1, hy, fun u F2 H2 s2 d2 hu => ?_⟩⟩
  cases x <;> first | cases hf | skip
  cases y <;> first | cases hf | skip
  dsimp only at hf
  split at hf
  · rename_i hs
    cases hf
    exact ⟨_, _, hv.int, hu.int, k _ _ _ F2 H2 (s1.trans s2) d2 hs rfl⟩
  · cases hf⟩
theorem prc_1 (hg : Gl X "range") (hm : X.mg "range" = none) (hb : JB X b fb)
    (nb : starEach [b] X.env = (false, eval b X.env) :: starEach [] X.env := by rfl) : PRc X (.Call (.Name "range" p) [b] [] pos) (fRg (eC (.int 0)) fb (eC (.int 1))) := ⟨by
  rintro pins s σ H Q I ⟨Z, F, ds, w, xs, w', rr, hf, k⟩
  obtain ⟨⟨x, w1⟩, hx, hf⟩ := bind2 hf
  obtain ⟨⟨y, w2⟩, hy, hf⟩ := bind2 hf
  obtain ⟨⟨z, w3⟩, hz, hf⟩ := bind2 hf
  cases hx
  cases hz
  refine thn (prg_1 hg hm hb.run nb pins s σ H (fun i j H1 => Q i j 1 H1) I ?_) fun x s' ⟨r, a, b, t, u, v, H', h1, h2, h3, h4⟩ => ⟨r, a, b, 1, t, u, v, H', h1, h2, h3, h4⟩
  refine ⟨Z, F, ds, _, _, _, rr, hy, fun u F2 H2 s2 d2 hu => ?_⟩
  cases y <;> first | cases hf | skip
  dsimp only at hf
  split at hf
  · rename_i hs
    cases hf
    exact ⟨_, hu.int, k _ _ _ F2 H2 s2 d2 hs rfl⟩
  · cases hf⟩
theorem jf_listrg (hc : X.calm = true) (hg : Gl X "list") (hm : X.mg "list" = none) (he : PRc X e f) (na : starEach [e] X.env = (false, eval e X.env) :: starEach [] X.env := by rfl) : JF X (.Call (.Name "list" p) [e] [] pos) f := ⟨⟨fun pins s σ H Q I ⟨Z, F, ds, w, xs, w', rr, hf, k⟩ => by
  refine PyProof.Rows.Call_ (ld_blt I hg hm PyProof.Rows.boot_list (PyProof.Rows.callWith_type1 (PyProof.Rows.args_cons (thn (he.run pins s σ H (fun i j l H1 => small2 i j l = true ∧ ∀ q, H1 q = none → Q (.ref q) (upd H1 q (.lst (rgVc i l (rgN i j l))))) I ⟨Z, F, ds, w, xs, w', rr, hf, fun i j l F1 H1 s1 d1 hs hx => ⟨hs, ?_⟩⟩) fun x s1 ⟨r, a, b, c, t, u, v, H1, ex, hr, I1, ok, q⟩ => PyProof.Rows.args_nil ?_) na) na))
  · subst hx
    exact (k.go s1 rr.pn).new (rr.step s1 d1) (dens_rg _ _ _)
  · subst ex
    have h0 := Bool.and_eq_true_iff.mp ok
    have h1 := Bool.and_eq_true_iff.mp h0.1
    have h2 : 0 < c ∧ c < 1073741824 := of_decide_eq_true h1.1
    have h3 : rgN a b c ≤ line := of_decide_eq_true h0.2
    refine PySem.call_list_range (n := rgN a b c) (I1.ok.hd hc) hr h1.2 (rangeSize_nn h2.1) (Nat.le_trans h3 (by decide)) fun h' tk acc c' hk e' hi => ?_
    refine ⟨.ref s1.heap.objs.size, upd H1 s1.heap.objs.size (.lst (rgVc a c (rgN a b c))), I1.laid hk (Nat.le_refl _) (show ObjOk X.prog X.w _ _ _ (.lst (rgVc a c (rgN a b c))) from ⟨?_, acc.toList, c', vals_rgc hi, ?_⟩), rfl, q _ (I1.hok.fresh (Nat.le_refl _))⟩
    · unfold rgVc; rw [List.length_map, List.length_range]; exact sz_of h3
    · rw [Array.toArray_toList]; exact e'⟩⟩
end
end
end J
namespace JT
open PySem PyProof.Rows L2
/-! enumerate of a tuple -/
theorem enumT_new (q : Addr) (zs : Array Value) (n : Nat) (dd : Option Addr) (sv : Array (Option Value)) :
    Meets (Builtin.«enumerate.__new__» ⟨[.type "enumerate", .ref q], []⟩) (fun _ Z s => s.heap.get? q = some { cls := .type "tuple", dict := dd, data := .seq zs n, slots := sv } ∧
      Z (.ok (.ret (.ref (s.heap.push { cls := .type "tuple_iterator", data := .fields #[.ref q, .int 0 0] }).objs.size)))
        { s with heap := (s.heap.push { cls := .type "tuple_iterator", data := .fields #[.ref q, .int 0 0] }).push { cls := .type "enumerate", data := .fields #[.none, .bool false, .ref s.heap.objs.size, rawInt 0, .none, .none] } }) :=
  .of_wp fun prog w A Z s hz => by
    obtain ⟨hp0, g0, d0, t0, os0⟩ := s
    obtain ⟨hq, hz⟩ := hz
    have hsub0 := sub_enumerate
    have hT0 : Heap.IsTuple (Shared.heap ⟨hp0, g0, d0, t0, os0⟩) q zs := ⟨_, hq, rfl, n, rfl⟩
    wp_walk using AutoSeq1.wpAny_loadPart' hq
    refine wpAny_stack_any fun st => wpAny_pure ?_
    split
    · rename_i c0 _ _ _ _ _
      cases (c0 == Value.type "enumerate")
      · wp_walk using AutoSeq1.wpAny_loadPart' hq, wpAny_pyIter_tuple hT0
        exact ⟨_, rfl, hz⟩
      · wp_walk using AutoSeq1.wpAny_loadPart' hq, wpAny_pyIter_tuple hT0
        exact ⟨_, rfl, hz⟩
    · wp_walk using AutoSeq1.wpAny_loadPart' hq, wpAny_pyIter_tuple hT0
      exact ⟨_, rfl, hz⟩
section
variable {prog : Program} {w : World} {A : Around} {E : Value → Shared → Prop} {s : Shared}
theorem call_enumT {q : Addr} {zs : Array Value} {Q : Value → Shared → Prop} (hL : s.heap.IsTuple q zs)
    (h : ∀ h', IsEnum h' (s.heap.objs.size + 1) s.heap.objs.size 0 .none → h'.IsTupleIter s.heap.objs.size q 0 → h'.objs.size = s.heap.objs.size + 2 →
      (∀ b o, s.heap.get? b = some o → h'.get? b = some o) → Q (.ref (s.heap.objs.size + 1)) { s with heap := h' }) : wpAny (model prog w) A (call (.type "enumerate") [.ref q]) Q E s := by
  obtain ⟨⟨c0, dd, dt, sv⟩, hq, hc0, n, hd0⟩ := hL
  replace hc0 : c0 = .type "tuple" := hc0
  replace hd0 : dt = .seq zs n := hd0
  subst hc0 hd0
  refine callType_new F.called_enumerate (by decide) (F.typeCall_enumerate_1 _) (F.newCall_enumerate_1 _) (fun o0 => F.args_object_init_2 o0 _) F.entry_enumerate_new (enumT_new q zs n dd sv) ⟨hq, ?_⟩
  have hz0 : (s.heap.push { cls := .type "tuple_iterator", data := .fields #[.ref q, .int 0 0] }).objs.size = s.heap.objs.size + 1 := Heap.size_push ..
  show _ ∧ _
  rw [hz0]
  have he0 : IsEnum ((s.heap.push { cls := .type "tuple_iterator", data := .fields #[.ref q, .int 0 0] }).push { cls := .type "enumerate", data := .fields #[.none, .bool false, .ref s.heap.objs.size, rawInt 0, .none, .none] }) (s.heap.objs.size + 1) s.heap.objs.size 0 .none := by
    have z := Heap.get?_push_size (s.heap.push { cls := .type "tuple_iterator", data := .fields #[.ref q, .int 0 0] }) (o := { cls := .type "enumerate", data := .fields #[.none, .bool false, .ref s.heap.objs.size, rawInt 0, .none, .none] }) rfl
    rw [hz0] at z
    exact z
  exact ⟨⟨_, he0, rfl⟩, h _ he0 ⟨_, Heap.get?_push_of_some _ (Heap.get?_push_size _ rfl), rfl, rfl⟩ (by rw [Heap.size_push, hz0]) fun b o x => Heap.get?_push_of_some _ (Heap.get?_push_of_some _ x)⟩
theorem pyNext_enum_endT {e it t : Addr} {i : Nat} {zs : Array Value} {old : Value} {Q : Option Value → Shared → Prop} (hh : A.handled = none) (he : IsEnum s.heap e it i old) (hit : s.heap.IsTupleIter it t i) (hl : s.heap.IsTuple t zs) (hx : zs[i]? = none)
    (hQ : ∀ h', Heap.ExtBut it s.heap h' → Q none { s with heap := h' }) : wpAny (model prog w) A (pyNext (.ref e)) Q E s := by
  have hTy : s.TypeIs (.ref e) "enumerate" := ⟨_, he, rfl⟩
  unfold pyNext
  refine wpAny_bind (wpAny_attempt (wpAny_callSpecial?_slot (name := Str.ofString "__next__") hTy F.slot_enumerate_next (wpAny_call_entry F.slot_enumerate_next hTy F.entry_enumerate_next ?_ (F.args_enumerate_next_1 _))))
  show wpAny _ _ (field (.ref e) 2 >>= _) _ _ _
  refine wpAny_bind (wpAny_field he rfl (x := .ref it) rfl (wpAny_bind (wpAny_nextOf_tuple_end hh hit hl hx fun h' x he' hx' => ?_)))
  obtain ⟨o, ho, hc⟩ := hx'
  exact wpAny_bind (wpAny_isInstance (T := "StopIteration") (b := true) ⟨o, ho, hc⟩ isSubtype_stop (wpAny_pure (hQ _ he')))
end
def IteT (K : PySem.W.Frag) (a : Addr) : It :=
  ⟨fun i H => ∃ (vs : List V) (v : V), SqT K H a vs ∧ vs[i]? = some v, fun i H v H' => ∃ T x, v = .ref T ∧ H T = none ∧ H' = upd H T (.tup [.int (i : Nat), x]) ∧ ∀ vs, SqT K H a vs → vs[i]? = some x, fun i H => ∃ vs : List V, SqT K H a vs ∧ vs.length ≤ i⟩
theorem turn_enumT {P : Program} {w : World} {K : PySem.W.Frag} {elts : List Expr} {kk : Nat} {tpos : Pos} (a e it : Addr) :
    Turn P w K (.Tuple elts kk tpos) (IteT K a) [e, it] e (fun i h => (∃ old, IsEnum h e it ((i : Nat) : Int) old) ∧ h.IsTupleIter it a i ∧ e ≠ it ∧ a ≠ it ∧ e ≠ a) where
  mem := by simp
  obj := fun i h st b hb => by
    obtain ⟨⟨o0, he⟩, ⟨o, ho, hc, hd⟩, _⟩ := st
    have eb : b = e ∨ b = it := by simpa using hb
    rcases eb with z | z
    · rw [z]
      exact ⟨_, he, fun v q => nomatch q⟩
    · rw [z]
      exact ⟨o, ho, fun v q => by rw [hd] at q; cases q⟩
  keep := fun i h h' st k => let ⟨⟨o0, he⟩, hi, hn⟩ := st; ⟨⟨o0, k e (by simp) _ he⟩, hi.at fun o q => k it (by simp) o q, hn⟩
  item := by
    intro X hP hw hK hc i pins s σ H E I hf st hg
    subst hP hw hK
    obtain ⟨⟨o0, he⟩, hit, hne, hna, hea⟩ := st
    obtain ⟨vs, x, hq, hx⟩ := hg
    obtain ⟨its, rv, p, hz⟩ := I.tuple hq
    obtain ⟨u, hu, ru⟩ := rv.get hx
    have hel : e < s.heap.objs.size := Heap.lt_size he
    have hil : it < s.heap.objs.size := by obtain ⟨_, q, _⟩ := hit; exact Heap.lt_size q
    have hilt : i < its.toArray.size := by
      rw [List.size_toArray]
      exact (List.getElem?_eq_some_iff.mp hu).1
    refine wpAny_pyNext_enum_itemD (Draws.tuple (A := X.A.in1) (show X.A.in1.handled = none from I.ok.hd hc) it a hna its.toArray) he ⟨hit, p⟩ hilt hne (by simp [hne, hea]) fun y h' tk hy ho hst hT hsz hk => ?_
    have ey : y = u := by
      have hy' : its.toArray[i]? = some y := hy
      rw [List.getElem?_toArray, hu] at hy'
      exact (Option.some.inj hy').symm
    subst ey
    refine ⟨_, rfl, wpAny_letOwnedTupleGo_enum (s := { s with heap := h', toks := tk + 1 }) ho fun h'' he' sb => ?_⟩
    have hT2 := (sb.2 _ (Nat.ne_of_gt hel)).trans hT
    have new : ObjOk X.prog X.w (upd H s.heap.objs.size (.tup [.int (i : Nat), x])) h'' s.heap.objs.size (.tup [.int (i : Nat), x]) :=
      ⟨by show 2 ≤ sizeLine; decide, [.int i tk, y], .cons ⟨_, rfl⟩ (.cons ru .nil), ⟨_, hT2, rfl, _, rfl⟩⟩
    have I1 : Inv X pins σ (upd H s.heap.objs.size (.tup [.int (i : Nat), x])) { s with heap := h'', toks := tk + 1 } :=
      I.turnedNew (ch := [e, it]) (fun b ob hb q => (sb.2 b (fun z => hb (by simp [z]))).trans (hk b ob (fun z => hb (by simp [z])) (fun z => hb (by simp [z])) q)) hf (Nat.le_refl _) new
    refine ⟨.ref s.heap.objs.size, _, I1, rfl, ⟨_, x, rfl, I.hok.fresh (Nat.le_refl _), rfl, fun ys hy => by rw [I.tuple_inj hy hq]; exact hx⟩, ⟨⟨y, ?_⟩, hst.1.at fun o q => (sb.2 it (Ne.symm hne)).trans q, hne, hna, hea⟩, fun b hb => ?_⟩
    · have e1 : ((i + 1 : Nat) : Int) = (i : Int) + 1 := by omega
      rw [e1]
      exact he'
    · have hb' : b < s.heap.objs.size := by
        have eb : b = e ∨ b = it := by simpa using hb
        rcases eb with z | z
        · rw [z]
          exact hel
        · rw [z]
          exact hil
      rw [upd_ne (Nat.ne_of_lt hb')]
      exact (hf b hb).1
  done := by
    intro X hP hw hK hc i pins s σ H E I hf st hg
    subst hP hw hK
    obtain ⟨⟨o0, he⟩, hit, hne, hna, hea⟩ := st
    obtain ⟨vs, hq, hx⟩ := hg
    obtain ⟨its, rv, p, hz⟩ := I.tuple hq
    obtain ⟨f0, f1, f2, f3, f4, f5⟩ := hf it (by simp)
    have hl := rv.length
    refine pyNext_enum_endT (I.ok.hd hc) he hit p (by rw [Array.getElem?_eq_none]; rw [List.size_toArray]; omega) fun h' eb => ⟨rfl, I.turned (t' := s.toks) (fun b o hb q => eb b o hb q) f0 f1 f3 f4 f5⟩
  self := fun A i s Q E st h => let ⟨⟨_, he⟩, _⟩ := st; wpAny_pyIter_enum he h
end JT
namespace J
open PySem PyProof.Rows L2
/-! ### what a loop walks -/
/-- J gives the data xs, one a turn, while what stands at A stays -/
def Src (K : PySem.W.Frag) (p : Addr) (T : It) (F' H' : Hp) (A : List (Addr × HO)) (xs : List D) : Prop :=
  (∀ q ∈ A, H' q.1 = some q.2 ∧ q.1 ≠ p) ∧
  ∀ F2 H2, (∀ q ∈ A, H2 q.1 = some q.2) → Same F' F2 → Same F2 H2 → F2 p = none → (∃ o, H2 p = some o) → ∀ i,
    (xs.length ≤ i → T.stop i H2) ∧ (∀ d, xs[i]? = some d → T.go i H2 ∧ ∀ x H3, T.yld i H2 x H3 → Same H2 H3 ∧ ∃ F3, Stp p F2 H2 F3 H3 ∧ Den K p F3 d x)
def canI (K : PySem.W.Frag) (b : Bool) (f : Ef) : TI := fun σ H Rk => ∃ Z F ds w xs w', R K Z F H σ ds w ∧ f ds w = some (xs, w') ∧ ∀ T F' H' A, Stp Z.p F H F' H' → Dr Z.p F' H' w' → (b = false → A = []) → Src K Z.p T F' H' A xs → Rk T H'
structure JI (X : Cx) (tg iter : Expr) (b : Bool) (f : Ef) : Prop where run : PI X tg iter (canI X.K b f)
theorem pi_weak {X : Cx} {tg e : Expr} {t t' : TI} (h : PI X tg e t) (s : ∀ σ H Q, t' σ H Q → t σ H Q) : PI X tg e t' := ⟨fun pins s' σ H Q I q => h.run pins s' σ H Q I (s σ H Q q)⟩
section
variable {K : PySem.W.Frag} {p : Addr} {F H : Hp} {xs : List D} {vs : List V} {a : Addr}
theorem src_list (h : H a = some (.lst vs)) (n : a ≠ p) (d : Dens K p F xs vs) : Src K p (Itl K a) F H [(a, .lst vs)] xs := by
  refine ⟨fun q hq => ?_, fun F2 H2 hA e1 e2 hp _ i => ⟨fun hi => ⟨vs, .of (hA _ (List.Mem.head _)), by rw [d.len]; exact hi⟩, fun x hx => ?_⟩⟩
  · cases List.mem_singleton.mp hq
    exact ⟨h, n⟩
  · obtain ⟨v, h1, h2⟩ := d.get hx
    have hv : SqL K H2 a vs := .of (hA _ (List.Mem.head _))
    refine ⟨⟨vs, v, hv, h1⟩, fun y H3 ⟨e3, hy⟩ => ?_⟩
    subst e3
    have := hy vs hv
    rw [h1] at this
    cases this
    exact ⟨Same.refl _, F2, Stp.refl e2 hp, Den.mono e1 _ _ h2⟩
theorem src_listF (h : F a = some (.lst vs)) (d : Dens K p F xs vs) : Src K p (Itl K a) F H [] xs := by
  refine ⟨fun q hq => (nomatch hq), fun F2 H2 hA e1 e2 hp _ i => ⟨fun hi => ⟨vs, .of (e2 _ _ (e1 _ _ h)), by rw [d.len]; exact hi⟩, fun x hx => ?_⟩⟩
  obtain ⟨v, h1, h2⟩ := d.get hx
  have hv : SqL K H2 a vs := .of (e2 _ _ (e1 _ _ h))
  refine ⟨⟨vs, v, hv, h1⟩, fun y H3 ⟨e3, hy⟩ => ?_⟩
  subst e3
  have := hy vs hv
  rw [h1] at this
  cases this
  exact ⟨Same.refl _, F2, Stp.refl e2 hp, Den.mono e1 _ _ h2⟩
theorem src_tup (h : SqU K F a vs) (d : Dens K p F xs vs) : Src K p (Itt K a) F H [] xs := by
  refine ⟨fun q hq => (nomatch hq), fun F2 H2 hA e1 e2 hp _ i => ⟨fun hi => ⟨vs, same_t h (e1.trans e2), by rw [d.len]; exact hi⟩, fun x hx => ?_⟩⟩
  obtain ⟨v, h1, h2⟩ := d.get hx
  have hv : SqT K H2 a vs := same_t h (e1.trans e2)
  refine ⟨⟨vs, v, hv, h1⟩, fun y H3 ⟨e3, hy⟩ => ?_⟩
  subst e3
  have := hy vs hv
  rw [h1] at this
  cases this
  exact ⟨Same.refl _, F2, Stp.refl e2 hp, Den.mono e1 _ _ h2⟩
/-- the step to a new pair -/
theorem stp_new {F2 H2 : Hp} {q : Addr} {o : HO} (e : Same F2 H2) (hp : F2 p = none) (hp2 : ∃ o, H2 p = some o) (hq : H2 q = none) : Stp p F2 H2 (upd F2 q o) (upd H2 q o) := by
  have hf : F2 q = none := e.free hq
  have hne : q ≠ p := by
    rintro rfl
    obtain ⟨o, h⟩ := hp2
    rw [hq] at h
    cases h
  refine ⟨same_tell hf, fun b u _ z => by rw [upd_ne (ne_of_none z hq)]; exact z, fun b u z => ?_, fun b u z => ?_, by rw [upd_ne (Ne.symm hne)]; exact hp⟩
  · by_cases hb : b = q
    · subst hb
      rw [upd_same] at z ⊢
      exact z
    · rw [upd_ne hb] at z ⊢
      exact e _ _ z
  · by_cases hb : b = q
    · subst hb
      exact .inr hq
    · rw [upd_ne hb] at z
      exact .inl z
theorem same_new {H2 : Hp} {q : Addr} {o : HO} (hq : H2 q = none) : Same H2 (upd H2 q o) := fun b u z => by rw [upd_ne (ne_of_none z hq)]; exact z
theorem den_pair {F2 : Hp} {q : Addr} {a b : D} {x y : V} (hf : F2 q = none) (h1 : Den K p F2 a x) (h2 : Den K p F2 b y) : Den K p (upd F2 q (.tup [x, y])) (.tup [a, b]) (.ref q) :=
  den_tup (.inl upd_same) (dens_cons (h1.mono (same_tell hf)) (dens_cons (h2.mono (same_tell hf)) dens_nil))
/-- the places beside the things -/
def enumD : Nat → List D → List D
  | _, [] => []
  | n, d :: ds => .tup [.int (n : Int), d] :: enumD (n + 1) ds
theorem enumD_len : ∀ (n : Nat) (ds : List D), (enumD n ds).length = ds.length
  | _, [] => rfl
  | n, d :: ds => by
    show (enumD (n + 1) ds).length + 1 = _
    rw [enumD_len (n + 1) ds]
    rfl
theorem enumD_get : ∀ (n : Nat) (ds : List D) (i : Nat) (d : D), (enumD n ds)[i]? = some d → ∃ e, ds[i]? = some e ∧ d = .tup [.int ((n + i : Nat) : Int), e]
  | _, [], i, d, h => by cases i <;> cases h
  | n, e :: ds, 0, d, h => by
    cases h
    exact ⟨e, rfl, rfl⟩
  | n, e :: ds, i + 1, d, h => by
    obtain ⟨u, h1, h2⟩ := enumD_get (n + 1) ds i d h
    refine ⟨u, h1, ?_⟩
    rw [h2]
    have : n + 1 + i = n + (i + 1) := by omega
    rw [this]
theorem src_enum (h : H a = some (.lst vs)) (n : a ≠ p) (d : Dens K p F xs vs) : Src K p (Ite K a) F H [(a, .lst vs)] (enumD 0 xs) := by
  refine ⟨fun q hq => ?_, fun F2 H2 hA e1 e2 hp hp2 i => ⟨fun hi => ⟨vs, .of (hA _ (List.Mem.head _)), by rw [d.len]; rw [enumD_len] at hi; exact hi⟩, fun x hx => ?_⟩⟩
  · cases List.mem_singleton.mp hq
    exact ⟨h, n⟩
  · obtain ⟨e, g1, g2⟩ := enumD_get 0 xs i x hx
    subst g2
    obtain ⟨v, h1, h2⟩ := d.get g1
    have hv : SqL K H2 a vs := .of (hA _ (List.Mem.head _))
    refine ⟨⟨vs, v, hv, h1⟩, fun y H3 ⟨T, z, e3, e4, e5, hy⟩ => ?_⟩
    subst e3 e5
    have := hy vs hv
    rw [h1] at this
    cases this
    refine ⟨same_new e4, _, stp_new e2 hp hp2 e4, ?_⟩
    rw [Nat.zero_add]
    exact den_pair (e2.free e4) den_int (Den.mono e1 _ _ h2)
theorem src_enumF (h : F a = some (.lst vs)) (d : Dens K p F xs vs) : Src K p (Ite K a) F H [] (enumD 0 xs) := by
  refine ⟨fun q hq => (nomatch hq), fun F2 H2 hA e1 e2 hp hp2 i => ⟨fun hi => ⟨vs, .of (e2 _ _ (e1 _ _ h)), by rw [d.len]; rw [enumD_len] at hi; exact hi⟩, fun x hx => ?_⟩⟩
  obtain ⟨e, g1, g2⟩ := enumD_get 0 xs i x hx
  subst g2
  obtain ⟨v, h1, h2⟩ := d.get g1
  have hv : SqL K H2 a vs := .of (e2 _ _ (e1 _ _ h))
  refine ⟨⟨vs, v, hv, h1⟩, fun y H3 ⟨T, z, e3, e4, e5, hy⟩ => ?_⟩
  subst e3 e5
  have := hy vs hv
  rw [h1] at this
  cases this
  refine ⟨same_new e4, _, stp_new e2 hp hp2 e4, ?_⟩
  rw [Nat.zero_add]
  exact den_pair (e2.free e4) den_int (Den.mono e1 _ _ h2)
theorem src_enumT (h : SqU K F a vs) (d : Dens K p F xs vs) : Src K p (JT.IteT K a) F H [] (enumD 0 xs) := by
  refine ⟨fun q hq => (nomatch hq), fun F2 H2 hA e1 e2 hp hp2 i => ⟨fun hi => ⟨vs, same_t h (e1.trans e2), by rw [d.len]; rw [enumD_len] at hi; exact hi⟩, fun x hx => ?_⟩⟩
  obtain ⟨e, g1, g2⟩ := enumD_get 0 xs i x hx
  subst g2
  obtain ⟨v, h1, h2⟩ := d.get g1
  have hv : SqT K H2 a vs := same_t h (e1.trans e2)
  refine ⟨⟨vs, v, hv, h1⟩, fun y H3 ⟨T, z, e3, e4, e5, hy⟩ => ?_⟩
  subst e3 e5
  have := hy vs hv
  rw [h1] at this
  cases this
  refine ⟨same_new e4, _, stp_new e2 hp hp2 e4, ?_⟩
  rw [Nat.zero_add]
  exact den_pair (e2.free e4) den_int (Den.mono e1 _ _ h2)
theorem src_range {lo : Int} {n : Nat} : Src K p (Itr lo n) F H [] (rgD lo 1 n) := by
  refine ⟨fun q hq => (nomatch hq), fun F2 H2 hA e1 e2 hp hp2 i => ⟨fun hi => ?_, fun x hx => ?_⟩⟩
  · unfold rgD at hi
    rw [List.length_map, List.length_range] at hi
    exact hi
  · unfold rgD at hx
    rw [List.getElem?_map] at hx
    obtain ⟨j, h1, h2⟩ := Option.map_eq_some_iff.mp hx
    obtain ⟨hj, h3⟩ := List.getElem?_eq_some_iff.mp h1
    rw [List.length_range] at hj
    rw [List.getElem_range] at h3
    subst h3 h2
    refine ⟨hj, fun y H3 ⟨e3, e4⟩ => ?_⟩
    subst e3 e4
    refine ⟨Same.refl _, F2, Stp.refl e2 hp, ?_⟩
    rw [Int.mul_one]
    exact den_int
theorem src_rangeC {lo c : Int} {n : Nat} : Src K p (Itc lo c n) F H [] (rgD lo c n) := by
  refine ⟨fun q hq => (nomatch hq), fun F2 H2 hA e1 e2 hp hp2 i => ⟨fun hi => ?_, fun x hx => ?_⟩⟩
  · unfold rgD at hi
    rw [List.length_map, List.length_range] at hi
    exact hi
  · unfold rgD at hx
    rw [List.getElem?_map] at hx
    obtain ⟨j, h1, h2⟩ := Option.map_eq_some_iff.mp hx
    obtain ⟨hj, h3⟩ := List.getElem?_eq_some_iff.mp h1
    rw [List.length_range] at hj
    rw [List.getElem_range] at h3
    subst h3 h2
    refine ⟨hj, fun y H3 ⟨e3, e4⟩ => ?_⟩
    subst e3 e4
    exact ⟨Same.refl _, F2, Stp.refl e2 hp, den_int⟩
/-- pairs of two lists -/
def zipD : List D → List D → List D
  | x :: xs, y :: ys => .tup [x, y] :: zipD xs ys
  | _, _ => []
theorem zipD_get : ∀ (xs ys : List D) (i : Nat) (d : D), (zipD xs ys)[i]? = some d → ∃ a b, xs[i]? = some a ∧ ys[i]? = some b ∧ d = .tup [a, b]
  | [], ys, i, d, h => by cases i <;> cases h
  | x :: xs, [], i, d, h => by cases i <;> cases h
  | x :: xs, y :: ys, 0, d, h => by
    cases h
    exact ⟨x, y, rfl, rfl, rfl⟩
  | x :: xs, y :: ys, i + 1, d, h => zipD_get xs ys i d h
theorem zipD_stop : ∀ (xs ys : List D) (i : Nat), (zipD xs ys).length ≤ i → xs.length ≤ i ∨ ys.length ≤ i
  | [], ys, i, h => .inl (Nat.zero_le _)
  | x :: xs, [], i, h => .inr (Nat.zero_le _)
  | x :: xs, y :: ys, 0, h => by cases h
  | x :: xs, y :: ys, i + 1, h => by
    rcases zipD_stop xs ys i (Nat.le_of_succ_le_succ h) with z | z
    · exact .inl (Nat.succ_le_succ z)
    · exact .inr (Nat.succ_le_succ z)
variable {ys : List D} {us : List V} {b : Addr}
theorem src_zip (h : H a = some (.lst vs)) (n : a ≠ p) (d : Dens K p F xs vs) (h' : H b = some (.lst us)) (n' : b ≠ p) (d' : Dens K p F ys us) : Src K p (Itz K a b) F H [(a, .lst vs), (b, .lst us)] (zipD xs ys) := by
  refine ⟨fun q hq => ?_, fun F2 H2 hA e1 e2 hp hp2 i => ⟨fun hi => ⟨vs, us, .of (hA _ (List.Mem.head _)), .of (hA _ (List.Mem.tail _ (List.Mem.head _))), by rw [d.len, d'.len]; exact zipD_stop _ _ _ hi⟩, fun x hx => ?_⟩⟩
  · rcases List.mem_cons.mp hq with q1 | q1
    · subst q1
      exact ⟨h, n⟩
    · cases List.mem_singleton.mp q1
      exact ⟨h', n'⟩
  · obtain ⟨e, e', g1, g2, g3⟩ := zipD_get xs ys i x hx
    subst g3
    obtain ⟨v, h1, h2⟩ := d.get g1
    obtain ⟨u, h3, h4⟩ := d'.get g2
    have hv : SqL K H2 a vs := .of (hA _ (List.Mem.head _))
    have hu : SqL K H2 b us := .of (hA _ (List.Mem.tail _ (List.Mem.head _)))
    refine ⟨⟨vs, us, v, u, hv, hu, h1, h3⟩, fun y H3 ⟨T, z, z', e3, e4, e5, hy, hy'⟩ => ?_⟩
    subst e3 e5
    have q1 := hy vs hv
    rw [h1] at q1
    cases q1
    have q2 := hy' us hu
    rw [h3] at q2
    cases q2
    exact ⟨same_new e4, _, stp_new e2 hp hp2 e4, den_pair (e2.free e4) (Den.mono e1 _ _ h2) (Den.mono e1 _ _ h4)⟩
theorem src_zipF (h : F a = some (.lst vs)) (d : Dens K p F xs vs) (h' : F b = some (.lst us)) (d' : Dens K p F ys us) : Src K p (Itz K a b) F H [] (zipD xs ys) := by
  refine ⟨fun q hq => (nomatch hq), fun F2 H2 hA e1 e2 hp hp2 i => ⟨fun hi => ⟨vs, us, .of (e2 _ _ (e1 _ _ h)), .of (e2 _ _ (e1 _ _ h')), by rw [d.len, d'.len]; exact zipD_stop _ _ _ hi⟩, fun x hx => ?_⟩⟩
  obtain ⟨e, e', g1, g2, g3⟩ := zipD_get xs ys i x hx
  subst g3
  obtain ⟨v, h1, h2⟩ := d.get g1
  obtain ⟨u, h3, h4⟩ := d'.get g2
  have hv : SqL K H2 a vs := .of (e2 _ _ (e1 _ _ h))
  have hu : SqL K H2 b us := .of (e2 _ _ (e1 _ _ h'))
  refine ⟨⟨vs, us, v, u, hv, hu, h1, h3⟩, fun y H3 ⟨T, z, z', e3, e4, e5, hy, hy'⟩ => ?_⟩
  subst e3 e5
  have q1 := hy vs hv
  rw [h1] at q1
  cases q1
  have q2 := hy' us hu
  rw [h3] at q2
  cases q2
  exact ⟨same_new e4, _, stp_new e2 hp hp2 e4, den_pair (e2.free e4) (Den.mono e1 _ _ h2) (Den.mono e1 _ _ h4)⟩
theorem src_zipT (h : SqU K F a vs) (d : Dens K p F xs vs) (h' : SqU K F b us) (d' : Dens K p F ys us) : Src K p (RZ.ItzT K a b) F H [] (zipD xs ys) := by
  refine ⟨fun q hq => (nomatch hq), fun F2 H2 hA e1 e2 hp hp2 i => ⟨fun hi => ⟨vs, us, same_t h (e1.trans e2), same_t h' (e1.trans e2), by rw [d.len, d'.len]; exact zipD_stop _ _ _ hi⟩, fun x hx => ?_⟩⟩
  obtain ⟨e, e', g1, g2, g3⟩ := zipD_get xs ys i x hx
  subst g3
  obtain ⟨v, h1, h2⟩ := d.get g1
  obtain ⟨u, h3, h4⟩ := d'.get g2
  have hv : SqT K H2 a vs := same_t h (e1.trans e2)
  have hu : SqT K H2 b us := same_t h' (e1.trans e2)
  refine ⟨⟨vs, us, v, u, hv, hu, h1, h3⟩, fun y H3 ⟨T, z, z', e3, e4, e5, hy, hy'⟩ => ?_⟩
  subst e3 e5
  have q1 := hy vs hv
  rw [h1] at q1
  cases q1
  have q2 := hy' us hu
  rw [h3] at q2
  cases q2
  exact ⟨same_new e4, _, stp_new e2 hp hp2 e4, den_pair (e2.free e4) (Den.mono e1 _ _ h2) (Den.mono e1 _ _ h4)⟩
end
section
variable {X : Cx} {tg : Expr}
/-- a list or a tuple that is walked -/
def iSeq (K : PySem.W.Frag) (tl : TE) : TI := fun σ H Rk => tl σ H fun x H1 => (∃ a vs, x = .ref a ∧ SqL K H1 a vs ∧ Rk (Itl K a) H1) ∨ ∃ a vs, x = .ref a ∧ SqT K H1 a vs ∧ Rk (Itt K a) H1
theorem pi_seq {l : Expr} {tl : TE} (hl : PE X l tl) : PI X tg l (iSeq X.K tl) := ⟨fun pins s σ H Rk I h => by
  refine thn (hl.run pins s σ H _ I h) fun v s1 ⟨x, H1, I1, r1, q1⟩ => ?_
  rcases q1 with ⟨a, vs, ex, hq, q⟩ | ⟨a, vs, ex, hq, q⟩
  · subst ex
    cases r1
    obtain ⟨its, rv, pl, hz⟩ := I1.list hq
    have J1 := I1.kept (t' := s1.toks) (h' := s1.heap.push { cls := .type "list_iterator", data := .fields #[.ref a, .int 0 0] }) fun b o e => Heap.get?_push_of_some _ e
    exact wpAny_pyIter_list pl.isList ⟨s1.heap.objs.size, [s1.heap.objs.size], _, _, H1, rfl, J1, turn_list a _, ⟨_, Heap.get?_push_size _ rfl, rfl, rfl⟩, fun b hb => by
      cases List.mem_singleton.mp hb
      exact I1.fpOk (Nat.le_refl _) (I1.hok.fresh (Nat.le_refl _)), q⟩
  · subst ex
    cases r1
    obtain ⟨its, rv, pl, hz⟩ := I1.tuple hq
    have J1 := I1.kept (t' := s1.toks) (h' := s1.heap.push { cls := .type "tuple_iterator", data := .fields #[.ref a, .int 0 0] }) fun b o e => Heap.get?_push_of_some _ e
    exact wpAny_pyIter_tuple pl ⟨s1.heap.objs.size, [s1.heap.objs.size], _, _, H1, rfl, J1, turn_tuple a _, ⟨_, Heap.get?_push_size _ rfl, rfl, rfl⟩, fun b hb => by
      cases List.mem_singleton.mp hb
      exact I1.fpOk (Nat.le_refl _) (I1.hok.fresh (Nat.le_refl _)), q⟩⟩
def iEnumS (K : PySem.W.Frag) (ta : TA) : TI := fun σ H Rk => ta σ H fun us H1 => (∃ a vs, us = [.ref a] ∧ SqL K H1 a vs ∧ Rk (Ite K a) H1) ∨ ∃ a vs, us = [.ref a] ∧ SqT K H1 a vs ∧ Rk (JT.IteT K a) H1
theorem pi_enumS {e : Expr} {ta : TA} {p pos tpos : Pos} {elts : List Expr} {kk : Nat} (hg : Gl X "enumerate") (hm : X.mg "enumerate" = none) (ha : PA X [e] ta) (hs : starEach [e] X.env = [(false, eval e X.env)] := by rfl) :
    PI X (.Tuple elts kk tpos) (.Call (.Name "enumerate" p) [e] [] pos) (iEnumS X.K ta) := ⟨fun pins s σ H Rk I h => by
  refine Call_ (ld_blt I hg hm boot_enumerate (callWith_type1 (thn (ha.run pos pins s σ H _ I h) fun us s1 ⟨zs, H1, I1, r1, q1⟩ => ?_) hs rfl))
  have sized : ∀ {b : Addr}, b ∈ [s1.heap.objs.size + 1, s1.heap.objs.size] → FpOk X pins H1 b := fun {b} hb => by
    have hle : s1.heap.objs.size ≤ b := by
      rcases List.mem_cons.mp hb with z | z
      · rw [z]
        exact Nat.le_succ _
      · rw [List.mem_singleton.mp z]
        exact Nat.le_refl _
    exact I1.fpOk hle (I1.hok.fresh hle)
  rcases q1 with ⟨a, vs, ex, hq, q⟩ | ⟨a, vs, ex, hq, q⟩
  · subst ex
    obtain ⟨u, rfl, ru⟩ := vals1 r1
    cases ru
    obtain ⟨its, rv, pl, hz⟩ := I1.list hq
    exact call_enumerate_list pl.isList fun h' he hit hsz hk => wpAny_pyIter_enum he ⟨s1.heap.objs.size + 1, [s1.heap.objs.size + 1, s1.heap.objs.size], _, _, H1, rfl, I1.kept (t' := s1.toks) hk, turn_enum a _ _, ⟨⟨.none, he⟩, hit, Nat.succ_ne_self _⟩, fun b hb => sized hb, q⟩
  · subst ex
    obtain ⟨u, rfl, ru⟩ := vals1 r1
    cases ru
    obtain ⟨its, rv, pl, hz⟩ := I1.tuple hq
    have la : a < s1.heap.objs.size := pl.lt
    exact JT.call_enumT pl fun h' he hit hsz hk => wpAny_pyIter_enum he ⟨s1.heap.objs.size + 1, [s1.heap.objs.size + 1, s1.heap.objs.size], _, _, H1, rfl, I1.kept (t' := s1.toks) hk, JT.turn_enumT a _ _, ⟨⟨.none, he⟩, hit, Nat.succ_ne_self _, Nat.ne_of_lt la, Nat.ne_of_gt (Nat.lt_succ_of_lt la)⟩, fun b hb => sized hb, q⟩⟩
/-! ### sources -/
def iItems (f : Ev) : Ef := fun ds w => (f ds w).bind fun a => match a.1 with | .lst xs => some (xs, a.2) | .tup xs => some (xs, a.2) | _ => none
variable {e e2 : Expr} {f g : Ev} {fs : Ef} {p pos tpos : Pos} {elts : List Expr} {kk : Nat}
theorem ji_seq (h : JE X e f) : JI X tg e false (iItems f) := ⟨pi_weak (pi_seq h.run) fun σ H Rk ⟨Z, F, ds, w, xs, w', rr, hf, k⟩ => by
  obtain ⟨⟨a, w1⟩, ha, hf⟩ := bind2 hf
  refine ⟨Z, F, ds, w, _, _, rr, ha, fun v F1 H1 s1 d1 hv => ?_⟩
  cases a with
  | lst ys =>
    cases hf
    unfold Den at hv
    obtain ⟨q, vs, rfl, h1, h2⟩ := hv
    exact .inl ⟨q, vs, rfl, .of (s1.e _ _ h1), k _ F1 H1 [] s1 d1 (fun _ => rfl) (src_listF h1 h2)⟩
  | tup ys =>
    cases hf
    unfold Den at hv
    obtain ⟨q, vs, rfl, h1, h2⟩ := hv
    exact .inr ⟨q, vs, rfl, same_t h1 s1.e, k _ F1 H1 [] s1 d1 (fun _ => rfl) (src_tup h1 h2)⟩
  | _ => cases hf⟩
theorem ownp {K : PySem.W.Frag} {p : Addr} {F H : Hp} {xs : List D} {v : V} (h : DenB K p F H (.lst xs) v) (e : Same F H) (hp : F p = none) : ∃ a vs, v = .ref a ∧ H a = some (.lst vs) ∧ a ≠ p ∧ Dens K p F xs vs := by
  rcases h with h | ⟨a, ys, e1, e2, vs, h1, h2, h3, h4⟩
  · unfold Den at h
    obtain ⟨a, vs, rfl, h1, h2⟩ := h
    exact ⟨a, vs, rfl, e _ _ h1, ne_of_none h1 hp, h2⟩
  · cases e1
    exact ⟨a, vs, e2, h1, h3, h4⟩
theorem jib_seq (h : JB X e f) : JI X tg e true (iItems f) := ⟨pi_weak (pi_seq h.run) fun σ H Rk ⟨Z, F, ds, w, xs, w', rr, hf, k⟩ => by
  obtain ⟨⟨a, w1⟩, ha, hf⟩ := bind2 hf
  refine ⟨Z, F, ds, w, _, _, rr, ha, fun v F1 H1 s1 d1 hv => ?_⟩
  cases a with
  | lst ys =>
    cases hf
    obtain ⟨q, vs, rfl, h1, h2, h3⟩ := ownp hv s1.e s1.fp
    exact .inl ⟨q, vs, rfl, .of h1, k _ F1 H1 _ s1 d1 (fun z => nomatch z) (src_list h1 h2 h3)⟩
  | tup ys =>
    cases hf
    obtain ⟨q, vs, rfl, h1, h2⟩ := hv.tup
    exact .inr ⟨q, vs, rfl, same_t h1 s1.e, k _ F1 H1 [] s1 d1 (fun _ => rfl) (src_tup h1 h2)⟩
  | _ => cases hf⟩
def iEnumJ (f : Ef) : Ef := fun ds w => (f ds w).bind fun a => match a.1 with | [.lst xs] => some (enumD 0 xs, a.2) | [.tup xs] => some (enumD 0 xs, a.2) | _ => none
theorem ji_enum (hg : Gl X "enumerate") (hm : X.mg "enumerate" = none) (ha : JA X [e] fs) (hs : starEach [e] X.env = [(false, eval e X.env)] := by rfl) : JI X (.Tuple elts kk tpos) (.Call (.Name "enumerate" p) [e] [] pos) false (iEnumJ fs) := ⟨pi_weak (pi_enumS hg hm ha.run hs) fun σ H Rk ⟨Z, F, ds, w, xs, w', rr, hf, k⟩ => by
  obtain ⟨⟨a, w1⟩, ha, hf⟩ := bind2 hf
  refine ⟨Z, F, ds, w, _, _, rr, ha, fun us F1 H1 s1 d1 hv => ?_⟩
  dsimp only at hf
  split at hf
  · cases hf
    unfold Dens at hv
    obtain ⟨v, r, rfl, hv, hr⟩ := hv
    unfold Dens at hr
    subst hr
    unfold Den at hv
    obtain ⟨q, vs, rfl, h1, h2⟩ := hv
    exact .inl ⟨q, vs, rfl, .of (s1.e _ _ h1), k _ F1 H1 [] s1 d1 (fun _ => rfl) (src_enumF h1 h2)⟩
  · cases hf
    unfold Dens at hv
    obtain ⟨v, r, rfl, hv, hr⟩ := hv
    unfold Dens at hr
    subst hr
    unfold Den at hv
    obtain ⟨q, vs, rfl, h1, h2⟩ := hv
    exact .inr ⟨q, vs, rfl, same_t h1 s1.e, k _ F1 H1 [] s1 d1 (fun _ => rfl) (src_enumT h1 h2)⟩
  · cases hf⟩
theorem jib_enum (hg : Gl X "enumerate") (hm : X.mg "enumerate" = none) (ha : JR X [e] fs) (hs : starEach [e] X.env = [(false, eval e X.env)] := by rfl) : JI X (.Tuple elts kk tpos) (.Call (.Name "enumerate" p) [e] [] pos) true (iEnumJ fs) := ⟨pi_weak (pi_enumS hg hm ha.run hs) fun σ H Rk ⟨Z, F, ds, w, xs, w', rr, hf, k⟩ => by
  obtain ⟨⟨a, w1⟩, ha, hf⟩ := bind2 hf
  refine ⟨Z, F, ds, w, _, _, rr, ha, fun us F1 H1 s1 d1 hv => ?_⟩
  dsimp only at hf
  split at hf
  · cases hf
    obtain ⟨v, rfl, hw⟩ := densB1 hv
    obtain ⟨q, vs, rfl, h1, h2, h3⟩ := ownp hw s1.e s1.fp
    exact .inl ⟨q, vs, rfl, .of h1, k _ F1 H1 _ s1 d1 (fun z => nomatch z) (src_enum h1 h2 h3)⟩
  · cases hf
    obtain ⟨v, rfl, hw⟩ := densB1 hv
    obtain ⟨q, vs, rfl, h1, h2⟩ := hw.tup
    exact .inr ⟨q, vs, rfl, same_t h1 s1.e, k _ F1 H1 [] s1 d1 (fun _ => rfl) (src_enumT h1 h2)⟩
  · cases hf⟩
def iZipJ (f : Ef) : Ef := fun ds w => (f ds w).bind fun a => match a.1 with | [.lst xs, .lst ys] => some (zipD xs ys, a.2) | [.tup xs, .tup ys] => some (zipD xs ys, a.2) | _ => none
theorem dens2 {K : PySem.W.Frag} {q : Addr} {F : Hp} {a b : D} {us : List V} (h : Dens K q F [a, b] us) : ∃ v u, us = [v, u] ∧ Den K q F a v ∧ Den K q F b u := by
  unfold Dens at h
  obtain ⟨v, r, rfl, hv, hr⟩ := h
  unfold Dens at hr
  obtain ⟨u, r, rfl, hu, hr⟩ := hr
  unfold Dens at hr
  subst hr
  exact ⟨v, u, rfl, hv, hu⟩
theorem ji_zip (hg : Gl X "zip") (hm : X.mg "zip" = none) (ha : JA X [e, e2] fs) (hs : starEach [e, e2] X.env = (false, eval e X.env) :: starEach [e2] X.env := by rfl) (hpl : (backTo pos (starEach [e2] X.env)).any (·.1) = false := by rfl) : JI X (.Tuple elts kk tpos) (.Call (.Name "zip" p) [e, e2] [] pos) false (iZipJ fs) := ⟨pi_weak (RZ.pi_zipA hg hm ha.run hs hpl) fun σ H Rk ⟨Z, F, ds, w, xs, w', rr, hf, k⟩ => by
  obtain ⟨⟨a, w1⟩, ha, hf⟩ := bind2 hf
  refine ⟨Z, F, ds, w, _, _, rr, ha, fun us F1 H1 s1 d1 hv => ?_⟩
  dsimp only at hf
  split at hf
  · cases hf
    obtain ⟨v, u, rfl, hw, hu⟩ := dens2 hv
    unfold Den at hw hu
    obtain ⟨q, vs, rfl, h1, h2⟩ := hw
    obtain ⟨q', vs', rfl, h1', h2'⟩ := hu
    exact ⟨q, q', vs, vs', rfl, .inl ⟨.of (s1.e _ _ h1), .of (s1.e _ _ h1'), k _ F1 H1 [] s1 d1 (fun _ => rfl) (src_zipF h1 h2 h1' h2')⟩⟩
  · cases hf
    obtain ⟨v, u, rfl, hw, hu⟩ := dens2 hv
    unfold Den at hw hu
    obtain ⟨q, vs, rfl, h1, h2⟩ := hw
    obtain ⟨q', vs', rfl, h1', h2'⟩ := hu
    exact ⟨q, q', vs, vs', rfl, .inr ⟨same_t h1 s1.e, same_t h1' s1.e, k _ F1 H1 [] s1 d1 (fun _ => rfl) (src_zipT h1 h2 h1' h2')⟩⟩
  · cases hf⟩
theorem jib_zip (hg : Gl X "zip") (hm : X.mg "zip" = none) (ha : JR X [e, e2] fs) (hs : starEach [e, e2] X.env = (false, eval e X.env) :: starEach [e2] X.env := by rfl) (hpl : (backTo pos (starEach [e2] X.env)).any (·.1) = false := by rfl) : JI X (.Tuple elts kk tpos) (.Call (.Name "zip" p) [e, e2] [] pos) true (iZipJ fs) := ⟨pi_weak (RZ.pi_zipA hg hm ha.run hs hpl) fun σ H Rk ⟨Z, F, ds, w, xs, w', rr, hf, k⟩ => by
  obtain ⟨⟨a, w1⟩, ha, hf⟩ := bind2 hf
  refine ⟨Z, F, ds, w, _, _, rr, ha, fun us F1 H1 s1 d1 hv => ?_⟩
  dsimp only at hf
  split at hf
  · cases hf
    obtain ⟨v, u, rfl, hw, hu⟩ := densB2 hv
    obtain ⟨q, vs, rfl, h1, h2, h3⟩ := ownp hw s1.e s1.fp
    obtain ⟨q', vs', rfl, h1', h2', h3'⟩ := ownp hu s1.e s1.fp
    exact ⟨q, q', vs, vs', rfl, .inl ⟨.of h1, .of h1', k _ F1 H1 _ s1 d1 (fun z => nomatch z) (src_zip h1 h2 h3 h1' h2' h3')⟩⟩
  · cases hf
    obtain ⟨v, u, rfl, hw, hu⟩ := densB2 hv
    obtain ⟨q, vs, rfl, h1, h2⟩ := hw.tup
    obtain ⟨q', vs', rfl, h1', h2'⟩ := hu.tup
    exact ⟨q, q', vs, vs', rfl, .inr ⟨same_t h1 s1.e, same_t h1' s1.e, k _ F1 H1 [] s1 d1 (fun _ => rfl) (src_zipT h1 h2 h1' h2')⟩⟩
  · cases hf⟩
/-- range(n), range(a, b) in a for -/
def iRg (fa fb : Ev) : Ef := fun ds w => (fa ds w).bind fun a => (fb ds a.2).bind fun b => match a.1, b.1 with
  | .int i, .int j => if -(2 ^ 62) ≤ i ∧ i < 2 ^ 62 ∧ -(2 ^ 62) ≤ j ∧ j < 2 ^ 62 then some (rgD i 1 (j - i).toNat, b.2) else none
  | _, _ => none
theorem ji_rg1 (hg : Gl X "range") (hm : X.mg "range" = none) (h : JB X e f) (na : starEach [e] X.env = (false, eval e X.env) :: starEach [] X.env := by rfl) (hs : starEach [e] X.env = [(false, eval e X.env)] := by rfl) : JI X tg (.Call (.Name "range" p) [e] [] pos) false (iRg (eC (.int 0)) f) := ⟨pi_weak (pi_range1 hg hm (pa_cons h.run pa_nil na) hs) fun σ H Rk ⟨Z, F, ds, w, xs, w', rr, hf, k⟩ => by
  obtain ⟨⟨a, w1⟩, ha, hf⟩ := bind2 hf
  obtain ⟨⟨b, w2⟩, hb, hf⟩ := bind2 hf
  cases ha
  refine ⟨Z, F, ds, w, _, _, rr, hb, fun v F1 H1 s1 d1 hv => ?_⟩
  cases b <;> first | cases hf | skip
  dsimp only at hf
  split at hf
  · rename_i hc
    cases hf
    refine ⟨_, by rw [hv.int], hc.2.2.1, hc.2.2.2, ?_⟩
    rw [Int.sub_zero] at k
    exact k _ F1 H1 [] s1 d1 (fun _ => rfl) src_range
  · cases hf⟩
theorem ji_rg2 (hg : Gl X "range") (hm : X.mg "range" = none) (h : JB X e f) (h2 : JB X e2 g) (na : starEach [e, e2] X.env = (false, eval e X.env) :: starEach [e2] X.env := by rfl) (nb : starEach [e2] X.env = (false, eval e2 X.env) :: starEach [] X.env := by rfl)
    (hs : starEach [e, e2] X.env = [(false, eval e X.env), (false, eval e2 X.env)] := by rfl) (hs2 : starEach [e2] X.env = [(false, eval e2 X.env)] := by rfl) : JI X tg (.Call (.Name "range" p) [e, e2] [] pos) false (iRg f g) := ⟨pi_weak (pi_range2 hg hm (pa_cons h.run (pa_cons h2.run pa_nil nb) na) hs hs2) fun σ H Rk ⟨Z, F, ds, w, xs, w', rr, hf, k⟩ => by
  obtain ⟨⟨a, w1⟩, ha, hf⟩ := bind2 hf
  obtain ⟨⟨b, w2⟩, hb, hf⟩ := bind2 hf
  refine ⟨Z, F, ds, w, _, _, rr, ha, fun v F1 H1 s1 d1 hv => ⟨Z, F1, ds, _, _, _, rr.step s1 d1, hb, fun u F2 H2 s2 d2 hu => ?_⟩⟩
  cases a <;> first | cases hf | skip
  cases b <;> first | cases hf | skip
  dsimp only at hf
  split at hf
  · rename_i hc
    cases hf
    exact ⟨_, _, by rw [hv.int, hu.int], ⟨hc.1, hc.2.1, hc.2.2.1, hc.2.2.2⟩, k _ F2 H2 [] (s1.trans s2) d2 (fun _ => rfl) src_range⟩
  · cases hf⟩
end
end J
namespace J
open PySem PyProof.Rows L2
section
variable {K : PySem.W.Frag} {Z : Cfg} {F H : Hp} {σ : L2.St} {ds : List Sl} {w : Wd}
theorem isOwn_set {ds : List Sl} {i j : Nat} {s : Sl} (hs : s.ow = false) (h : isOwn (ds.set i s) j) : isOwn ds j := by
  obtain ⟨t, h1, h2⟩ := h
  rw [List.getElem?_set] at h1
  split at h1
  · split at h1
    · cases h1
      rw [hs] at h2
      cases h2
    · cases h1
  · exact ⟨t, h1, h2⟩
/-- a name gets a value -/
theorem R.set (r : R K Z F H σ ds w) {i : Nat} {d : D} {v : V} (h : Den K Z.p F d v) : R K Z F H (σ.set i (some v)) (ds.set i (.d d)) w := by
  refine ⟨r.ex, r.fp, r.dr, r.pm, r.hm, r.m0, r.keep, r.nw, r.f0, by rw [List.length_set, List.length_set]; exact r.len, ?_⟩
  obtain ⟨α, inj, hs⟩ := r.env
  refine ⟨α, fun a b ha hb => inj a b (isOwn_set rfl ha) (isOwn_set rfl hb), fun j s e => ?_⟩
  rw [List.getElem?_set] at e
  by_cases hj : i = j
  · subst hj
    rw [if_pos rfl] at e
    split at e
    · rename_i hl
      cases e
      exact ⟨v, by rw [List.getElem?_set_self (by rw [r.len]; exact hl)], h⟩
    · cases e
  · rw [if_neg hj] at e
    have q := hs j s e
    have e2 : (σ.set i (some v))[j]? = σ[j]? := List.getElem?_set_ne hj
    cases s with
    | no => trivial
    | d x =>
      obtain ⟨u, h1, h2⟩ := q
      exact ⟨u, by rw [e2]; exact h1, h2⟩
    | own xs =>
      obtain ⟨h1, h2, h3⟩ := q
      exact ⟨by rw [e2]; exact h1, h2, h3⟩
    | mu k xs =>
      obtain ⟨h1, h2, h3⟩ := q
      exact ⟨by rw [e2]; exact h1, h2, h3⟩
/-- a name gets a list of its own -/
theorem R.setO (r : R K Z F H σ ds w) {i : Nat} {xs : List D} {q : Addr} {vs : List V} (h : H q = some (.lst vs)) (hf : F q = none) (hp : q ≠ Z.p) (h0 : Z.H0 q = none) (hm : q ∉ Z.M) (hn : ∀ (j : Nat) (a : Addr) (zs : List D), (ds[j]? = some (Sl.own zs) ∨ ∃ k, ds[j]? = some (Sl.mu k zs)) → σ[j]? = some (some (V.ref a)) → a ≠ q) (hd : Dens K Z.p F xs vs) :
    R K Z F H (σ.set i (some (.ref q))) (ds.set i (.own xs)) w := by
  refine ⟨r.ex, r.fp, r.dr, r.pm, r.hm, r.m0, r.keep, r.nw, r.f0, by rw [List.length_set, List.length_set]; exact r.len, ?_⟩
  obtain ⟨α, inj, hs⟩ := r.env
  have ne : ∀ j, i ≠ j → isOwn (ds.set i (.own xs)) j → isOwn ds j ∧ α j ≠ q := fun j hj ⟨t, h1, h2⟩ => by
    rw [List.getElem?_set_ne hj] at h1
    refine ⟨⟨t, h1, h2⟩, ?_⟩
    have z := hs j t h1
    cases t with
    | no => cases h2
    | d x => cases h2
    | own zs => exact hn j _ zs (.inl h1) z.1
    | mu k zs => exact hn j _ zs (.inr ⟨k, h1⟩) z.1
  refine ⟨fun j => if i = j then q else α j, fun a b ha hb e => ?_, fun j s e => ?_⟩
  · dsimp only at e
    by_cases h1 : i = a
    · by_cases h2 : i = b
      · rw [← h1, ← h2]
      · rw [if_pos h1, if_neg h2] at e
        exact absurd e.symm (ne b h2 hb).2
    · by_cases h2 : i = b
      · rw [if_neg h1, if_pos h2] at e
        exact absurd e (ne a h1 ha).2
      · rw [if_neg h1, if_neg h2] at e
        exact inj a b (ne a h1 ha).1 (ne b h2 hb).1 e
  · dsimp only
    rw [List.getElem?_set] at e
    by_cases hj : i = j
    · subst hj
      rw [if_pos rfl] at e ⊢
      split at e
      · rename_i hl
        cases e
        exact ⟨by rw [List.getElem?_set_self (by rw [r.len]; exact hl)], ⟨vs, h, hf, hp, hd⟩, h0⟩
      · cases e
    · rw [if_neg hj] at e ⊢
      have z := hs j s e
      have e2 : (σ.set i (some (V.ref q)))[j]? = σ[j]? := List.getElem?_set_ne hj
      cases s with
      | no => trivial
      | d x =>
        obtain ⟨u, h1, h2⟩ := z
        exact ⟨u, by rw [e2]; exact h1, h2⟩
      | own xs =>
        obtain ⟨h1, h2, h3⟩ := z
        exact ⟨by rw [e2]; exact h1, h2, h3⟩
      | mu k xs =>
        obtain ⟨h1, h2, h3⟩ := z
        exact ⟨by rw [e2]; exact h1, h2, h3⟩
/-- a list of one's own turns -/
theorem R.turn (r : R K Z F H σ ds w) {i : Nat} {s s' : Sl} {a : Addr} {xs ys : List D} {vs : List V} (hs : ds[i]? = some s) (ha : σ[i]? = some (some (.ref a))) (e : (s = .own xs ∧ s' = .own ys) ∨ ∃ k, s = .mu k xs ∧ s' = .mu k ys) (hd : Dens K Z.p F ys vs) :
    R K Z F (upd H a (.lst vs)) σ (ds.set i s') w := by
  obtain ⟨α, inj, hα⟩ := id r.env
  have hi := hα i s hs
  have hai : α i = a ∧ ∃ us, H a = some (.lst us) ∧ F a = none ∧ a ≠ Z.p ∧ (Z.H0 a = none ∨ a ∈ Z.M) := by
    rcases e with ⟨rfl, rfl⟩ | ⟨k, rfl, rfl⟩
    · obtain ⟨h1, ⟨us, h2, h3, h4, _⟩, h5⟩ := hi
      rw [ha] at h1
      cases h1
      exact ⟨rfl, us, h2, h3, h4, .inl h5⟩
    · obtain ⟨h1, ⟨us, h2, h3, h4, _⟩, h5⟩ := hi
      rw [ha] at h1
      cases h1
      exact ⟨rfl, us, h2, h3, h4, .inr (List.mem_of_getElem? h5)⟩
  obtain ⟨hai, us, h1, h2, h3, h4⟩ := hai
  have ow : s.ow = true ∧ s'.ow = true := by rcases e with ⟨rfl, rfl⟩ | ⟨k, rfl, rfl⟩ <;> exact ⟨rfl, rfl⟩
  refine ⟨fun b o z => ?_, r.fp, ?_, r.pm, fun b hb => ⟨?_, (r.hm b hb).2⟩, r.m0, fun b o hb hm z => ?_, r.nw, r.f0, by rw [List.length_set]; exact r.len, α, fun p q hp hq => ?_, fun j t ht => ?_⟩
  · rw [upd_ne (ne_of_none z h2)]
    exact r.ex b o z
  · obtain ⟨c, q1, q2⟩ := r.dr
    exact ⟨c, by rw [upd_ne (Ne.symm h3)]; exact q1, q2⟩
  · by_cases hba : b = a
    · subst hba
      exact ⟨_, upd_same⟩
    · obtain ⟨o, ho⟩ := (r.hm b hb).1
      exact ⟨o, by rw [upd_ne hba]; exact ho⟩
  · have hba : b ≠ a := by
      rintro rfl
      rcases h4 with q | q
      · rw [q] at z
        cases z
      · exact hm q
    rw [upd_ne hba]
    exact r.keep b o hb hm z
  · have back : ∀ p, isOwn (ds.set i s') p → isOwn ds p := fun p ⟨t, q1, q2⟩ => by
      rw [List.getElem?_set] at q1
      split at q1
      · rename_i hip
        subst hip
        exact ⟨s, hs, ow.1⟩
      · exact ⟨t, q1, q2⟩
    exact inj p q (back p hp) (back q hq)
  · rw [List.getElem?_set] at ht
    by_cases hj : i = j
    · subst hj
      rw [if_pos rfl] at ht
      split at ht
      · cases ht
        rcases e with ⟨rfl, rfl⟩ | ⟨k, rfl, rfl⟩
        · obtain ⟨q1, _, q5⟩ := hi
          exact ⟨q1, ⟨vs, by rw [hai]; exact upd_same, by rw [hai]; exact h2, by rw [hai]; exact h3, hd⟩, q5⟩
        · obtain ⟨q1, _, q5⟩ := hi
          exact ⟨q1, ⟨vs, by rw [hai]; exact upd_same, by rw [hai]; exact h2, by rw [hai]; exact h3, hd⟩, q5⟩
      · cases ht
    · rw [if_neg hj] at ht
      have z := hα j t ht
      have na : t.ow = true → α j ≠ a := fun ho q => hj (inj i j ⟨s, hs, ow.1⟩ ⟨t, ht, ho⟩ (by rw [hai, q]))
      cases t with
      | no => trivial
      | d x => exact z
      | own zs =>
        obtain ⟨q1, ⟨us', q2, q3⟩, q5⟩ := z
        exact ⟨q1, ⟨us', by rw [upd_ne (na rfl)]; exact q2, q3⟩, q5⟩
      | mu k zs =>
        obtain ⟨q1, ⟨us', q2, q3⟩, q5⟩ := z
        exact ⟨q1, ⟨us', by rw [upd_ne (na rfl)]; exact q2, q3⟩, q5⟩
/-- a list of one's own is told to all -/
theorem R.freeze (r : R K Z F H σ ds w) {i : Nat} {xs : List D} (hs : ds[i]? = some (.own xs)) : ∃ F', Same F F' ∧ R K Z F' H σ (ds.set i (.d (.lst xs))) w := by
  obtain ⟨α, inj, hα⟩ := id r.env
  obtain ⟨h1, ⟨vs, h2, h3, h4, h5⟩, h6⟩ := hα i _ hs
  have sf : Same F (upd F (α i) (.lst vs)) := same_tell h3
  have nm : α i ∉ Z.M := fun z => by
    obtain ⟨o, ho⟩ := r.m0 _ z
    rw [h6] at ho
    cases ho
  refine ⟨_, sf, fun b o z => ?_, by rw [upd_ne (Ne.symm h4)]; exact r.fp, ?_, r.pm, fun b hb => ⟨(r.hm b hb).1, by rw [upd_ne (fun q : b = α i => nm (q ▸ hb))]; exact (r.hm b hb).2⟩, r.m0, r.keep, fun b o z => ?_, r.f0.trans sf, by rw [List.length_set]; exact r.len, α, fun p q hp hq => inj p q (isOwn_set rfl hp) (isOwn_set rfl hq), fun j t ht => ?_⟩
  · by_cases hb : b = α i
    · subst hb
      rw [upd_same] at z
      rw [← z]
      exact h2
    · rw [upd_ne hb] at z
      exact r.ex b o z
  · obtain ⟨c, q1, q2⟩ := r.dr
    exact ⟨c, q1, sf _ _ q2⟩
  · by_cases hb : b = α i
    · subst hb
      exact .inr h6
    · rw [upd_ne hb] at z
      exact r.nw b o z
  · rw [List.getElem?_set] at ht
    by_cases hj : i = j
    · subst hj
      rw [if_pos rfl] at ht
      split at ht
      · cases ht
        exact ⟨_, h1, den_lst upd_same (h5.mono sf)⟩
      · cases ht
    · rw [if_neg hj] at ht
      have z := hα j t ht
      have na : t.ow = true → α j ≠ α i := fun ho q => hj (inj i j ⟨_, hs, rfl⟩ ⟨t, ht, ho⟩ q.symm)
      cases t with
      | no => trivial
      | d x =>
        obtain ⟨u, q1, q2⟩ := z
        exact ⟨u, q1, Den.mono sf x u q2⟩
      | own zs =>
        obtain ⟨q1, ⟨us', q2, q3, q4, q6⟩, q5⟩ := z
        exact ⟨q1, ⟨us', q2, by rw [upd_ne (na rfl)]; exact q3, q4, q6.mono sf⟩, q5⟩
      | mu k zs =>
        obtain ⟨q1, ⟨us', q2, q3, q4, q6⟩, q5⟩ := z
        exact ⟨q1, ⟨us', q2, by rw [upd_ne (na rfl)]; exact q3, q4, q6.mono sf⟩, q5⟩
end
/-! ### targets -/
abbrev Eg := List Sl → D → Option (List Sl)
def canG (K : PySem.W.Frag) (tg : Eg) (js : List Nat) : TG := fun v σ H Q => ∃ Z F ds w d ds', R K Z F H σ ds w ∧ Den K Z.p F d v ∧ tg ds d = some ds' ∧ ∀ σ', R K Z F H σ' ds' w → (∀ i, i ∉ js → σ'[i]? = σ[i]?) → σ'.length = σ.length → Q σ' H
abbrev Egs := List Sl → List D → Option (List Sl)
def canGs (K : PySem.W.Frag) (tg : Egs) (js : List Nat) : TGs := fun v σ H Q => ∃ Z F ds w d ds', R K Z F H σ ds w ∧ Dens K Z.p F d v ∧ tg ds d = some ds' ∧ ∀ σ', R K Z F H σ' ds' w → (∀ i, i ∉ js → σ'[i]? = σ[i]?) → σ'.length = σ.length → Q σ' H
structure JG (X : Cx) (tg : Expr) (f : Eg) (js : List Nat) : Prop where run : PG X tg (canG X.K f js)
structure JGs (X : Cx) (tg : List Expr) (f : Egs) (js : List Nat) : Prop where run : PGs X tg (canGs X.K f js)
theorem pg_weak {X : Cx} {tg : Expr} {t t' : TG} (h : PG X tg t) (s : ∀ v σ H Q, t' v σ H Q → t v σ H Q) : PG X tg t' := ⟨fun pins s' σ H v u Q I r q => h.run pins s' σ H v u Q I r (s v σ H Q q)⟩
theorem pgs_weak {X : Cx} {tg : List Expr} {t t' : TGs} (h : PGs X tg t) (s : ∀ v σ H Q, t' v σ H Q → t v σ H Q) : PGs X tg t' := ⟨fun pins s' σ H v u Q I r q => h.run pins s' σ H v u Q I r (s v σ H Q q)⟩
def gN (i : Nat) : Eg := fun ds d => some (ds.set i (.d d))
def gsNil : Egs := fun ds xs => match xs with | [] => some ds | _ => none
def gsCons (g : Eg) (h : Egs) : Egs := fun ds xs => match xs with | x :: r => (g ds x).bind fun ds1 => h ds1 r | _ => none
def gT (n : Nat) (h : Egs) : Eg := fun ds d => match d with | .tup xs => if xs.length = n then h ds xs else none | _ => none
section
variable {X : Cx} {pos : Pos} {e : Expr} {es : List Expr} {g : Eg} {h : Egs} {js js' : List Nat}
theorem jg_name (i : Nat) {x : Str} (hN : X.N.Nodup) (hi : X.N[i]? = some x := by rfl) (hx : Loc X.env.scope x := by first | exact Or.inl rfl | exact Or.inr rfl) (hf : X.fn x = true ∨ X.env.scope.names.lookup x = some .local := by first | exact .inl rfl | exact .inr rfl | assumption) : JG X (.Name x pos) (gN i) [i] :=
  ⟨pg_weak (pg_name hN hi hx hf) fun v σ H Q ⟨Z, F, ds, w, d, ds', rr, hd, hg, k⟩ => by
    cases hg
    exact k _ (rr.set hd) (fun j hj => List.getElem?_set_ne (fun z => hj (by rw [← z]; exact List.mem_singleton.mpr rfl))) (by rw [List.length_set])⟩
theorem jgs_nil : JGs X [] gsNil [] := ⟨pgs_weak pgs_nil fun v σ H Q ⟨Z, F, ds, w, d, ds', rr, hd, hg, k⟩ => by
  unfold gsNil at hg
  split at hg
  · cases hg
    unfold Dens at hd
    exact ⟨hd, k σ rr (fun _ _ => rfl) rfl⟩
  · cases hg⟩
theorem jgs_cons (h1 : JG X e g js) (h2 : JGs X es h js') (hs : (assignEach (e :: es) X.env).map (·.2) = assign e X.env :: (assignEach es X.env).map (·.2) := by rfl) : JGs X (e :: es) (gsCons g h) (js ++ js') := ⟨pgs_weak (pgs_cons h1.run h2.run hs) fun v σ H Q ⟨Z, F, ds, w, d, ds', rr, hd, hg, k⟩ => by
  unfold gsCons at hg
  split at hg
  · obtain ⟨ds1, g1, g2⟩ := bind2 hg
    unfold Dens at hd
    obtain ⟨u, r, rfl, d1, d2⟩ := hd
    exact ⟨u, r, rfl, Z, F, ds, w, _, _, rr, d1, g1, fun σ1 r1 s1 l1 => ⟨Z, F, ds1, w, _, _, r1, d2, g2, fun σ2 r2 s2 l2 => k σ2 r2 (fun i hi => (s2 i fun z => hi (List.mem_append_right _ z)).trans (s1 i fun z => hi (List.mem_append_left _ z))) (l2.trans l1)⟩⟩
  · cases hg⟩
theorem jg_tup {kk n : Nat} (hc : X.calm = true) (h1 : JGs X es h js) (hn : (assignEach es X.env).length = n := by rfl) (hst : (assignEach es X.env).findIdx? (·.1) = none := by rfl) : JG X (.Tuple es kk pos) (gT n h) js := ⟨pg_weak (pg_tup hc h1.run hn hst) fun v σ H Q ⟨Z, F, ds, w, d, ds', rr, hd, hg, k⟩ => by
  unfold gT at hg
  split at hg
  · split at hg
    · rename_i hl
      unfold Den at hd
      obtain ⟨a, vs, rfl, h1, h2⟩ := hd
      exact ⟨a, vs, rfl, same_t h1 rr.ex, by rw [h2.len]; exact hl, Z, F, ds, w, _, _, rr, h2, hg, k⟩
    · cases hg
  · cases hg⟩
end
end J
namespace J
open PySem PyProof.Rows L2
/-! ### comprehensions -/
def wipeS (ds : List Sl) : List Nat → List Sl
  | [] => ds
  | v :: vs => (wipeS ds vs).set v .no
section
variable {K : PySem.W.Frag} {Z : Cfg} {F H : Hp} {σ : L2.St} {ds : List Sl} {w : Wd}
theorem R.no (r : R K Z F H σ ds w) (i : Nat) : R K Z F H (σ.set i none) (ds.set i .no) w := by
  refine ⟨r.ex, r.fp, r.dr, r.pm, r.hm, r.m0, r.keep, r.nw, r.f0, by rw [List.length_set, List.length_set]; exact r.len, ?_⟩
  obtain ⟨α, inj, hs⟩ := r.env
  refine ⟨α, fun a b ha hb => inj a b (isOwn_set rfl ha) (isOwn_set rfl hb), fun j s e => ?_⟩
  rw [List.getElem?_set] at e
  by_cases hj : i = j
  · subst hj
    rw [if_pos rfl] at e
    split at e
    · cases e
      trivial
    · cases e
  · rw [if_neg hj] at e
    have q := hs j s e
    have e2 : (σ.set i none)[j]? = σ[j]? := List.getElem?_set_ne hj
    cases s with
    | no => trivial
    | d x =>
      obtain ⟨u, h1, h2⟩ := q
      exact ⟨u, by rw [e2]; exact h1, h2⟩
    | own xs =>
      obtain ⟨h1, h2, h3⟩ := q
      exact ⟨by rw [e2]; exact h1, h2, h3⟩
    | mu k xs =>
      obtain ⟨h1, h2, h3⟩ := q
      exact ⟨by rw [e2]; exact h1, h2, h3⟩
theorem R.wipe (r : R K Z F H σ ds w) : ∀ vs : List Nat, R K Z F H (wipe σ vs) (wipeS ds vs) w
  | [] => r
  | v :: vs => (R.wipe r vs).no v
theorem wipe_same {σ1 σ2 : L2.St} (hl : σ1.length = σ2.length) : ∀ {vs : List Nat}, (∀ i, i ∉ vs → σ1[i]? = σ2[i]?) → wipe σ1 vs = wipe σ2 vs := fun {vs} h => by
  refine List.ext_getElem? fun i => ?_
  by_cases hi : i ∈ vs
  · have gone : ∀ (σ : L2.St) (vs : List Nat), i ∈ vs → (L2.wipe σ vs)[i]? = if i < σ.length then some none else none := fun σ vs => by
      induction vs with
      | nil => intro h; cases h
      | cons v vs ih =>
        intro h
        show ((L2.wipe σ vs).set v none)[i]? = _
        rw [List.getElem?_set, wipe_length]
        by_cases hv : v = i
        · subst hv
          rw [if_pos rfl]
        · rw [if_neg hv]
          rcases List.mem_cons.mp h with z | z
          · exact absurd z.symm hv
          · exact ih z
    rw [gone σ1 vs hi, gone σ2 vs hi, hl]
  · have stays : ∀ (σ : L2.St) (vs : List Nat), i ∉ vs → (L2.wipe σ vs)[i]? = σ[i]? := fun σ vs => by
      induction vs with
      | nil => intro _; rfl
      | cons v vs ih =>
        intro h
        show ((L2.wipe σ vs).set v none)[i]? = _
        rw [List.getElem?_set_ne (fun z => h (by rw [z]; exact List.mem_cons_self))]
        exact ih fun z => h (List.mem_cons_of_mem _ z)
    rw [stays σ1 vs hi, stays σ2 vs hi, h i hi]
theorem wipe_wipe (σ : L2.St) (vs : List Nat) : wipe (wipe σ vs) vs = wipe σ vs := wipe_same (wipe_length σ vs) fun i hi => by
  have stays : ∀ (vs : List Nat), i ∉ vs → (L2.wipe σ vs)[i]? = σ[i]? := fun vs => by
    induction vs with
    | nil => intro _; rfl
    | cons v vs ih =>
      intro h
      show ((L2.wipe σ vs).set v none)[i]? = _
      rw [List.getElem?_set_ne (fun z => h (by rw [z]; exact List.mem_cons_self))]
      exact ih fun z => h (List.mem_cons_of_mem _ z)
  exact stays vs hi
end
def lcGo (tg : Eg) (c : Et) (e : Ev) (ds : List Sl) : List D → Wd → Option (List D × Wd)
  | [], w => some ([], w)
  | x :: xs, w => (tg ds x).bind fun ds1 => (c ds1 w).bind fun b => if b.1 = true then (e ds1 b.2).bind fun y => (lcGo tg c e ds xs y.2).bind fun r => some (y.1 :: r.1, r.2) else lcGo tg c e ds xs b.2
def fLc (src : Ef) (tg : Eg) (c : Et) (e : Ev) (vs : List Nat) : Ef := fun ds w => (src ds w).bind fun s => (lcGo tg c e (wipeS ds vs) s.1 s.2).bind fun r => if r.1.length ≤ line then some r else none
def tYesJ : Et := fun _ w => some (true, w)
structure JTs (X : Cx) (ifs : List Expr) (f : Et) : Prop where run : PTs X ifs (canT X.K f)
section
variable {X : Cx} {K : PySem.W.Frag} {c : Expr} {t : Et}
theorem jts_nil : JTs X [] tYesJ := ⟨⟨fun pins s σ H Q I ⟨Z, F, ds, w, d, w', rr, hf, k⟩ => by
  cases hf
  exact pts_nil.run pins s σ H Q I (k F H rr.stp rr.dr)⟩⟩
theorem jts_one (h : JT X c t) : JTs X [c] t := ⟨pts_one h.run⟩
theorem lc_of {b : Bool} {src : Ef} {tg : Eg} {c : Et} {e : Ev} {vs js : List Nat} (hj : ∀ i ∈ js, i ∈ vs) (σ : L2.St) (H : Hp) (Q : VK) : canF K (fLc src tg c e vs) σ H Q → tLc (canI K b src) (canG K tg js) (canT K c) (canE K e) vs σ H Q := fun ⟨Z, F, ds, w, ys, w', rr, hf, k⟩ => by
  obtain ⟨⟨xs, w1⟩, hs, hf⟩ := bind2 hf
  obtain ⟨⟨zs, w2⟩, hg, hf⟩ := bind2 hf
  split at hf
  · rename_i hl
    cases hf
    refine ⟨Z, F, ds, w, _, _, rr, hs, fun T F1 H1 A s1 d1 _ hS D hD => ?_⟩
    obtain ⟨hA, hT⟩ := hS
    have r1 := rr.step s1 d1
    have hDp : D ≠ Z.p := r1.np hD
    have hDF : F1 D = none := r1.ex.free hD
    refine ⟨fun i m H2 => m = xs.length - i ∧ i ≤ xs.length ∧ ∃ F2 acc us rest w3, Stp Z.p F1 H1 F2 H2 ∧ Dr Z.p F2 H2 w3 ∧ H2 D = some (.lst us) ∧ F2 D = none ∧ Dens K Z.p F2 acc us ∧ lcGo tg c e (wipeS ds vs) (xs.drop i) w3 = some (rest, w') ∧ acc ++ rest = ys, ⟨xs.length, rfl, Nat.zero_le _, F1, [], [], ys, w1, ?_⟩, fun i m H2 hw => ?_⟩
    · obtain ⟨s2, d2⟩ := r1.newO (o := .lst []) hD
      exact ⟨s2, d2, upd_same, hDF, dens_nil, hg, rfl⟩
    · obtain ⟨rfl, hi, F2, acc, us, rest, w3, s2, d2, hDl, hDn, hacc, hgo, hcat⟩ := hw
      have hA2 : ∀ q ∈ A, H2 q.1 = some q.2 := fun q hq => s2.h _ _ (hA q hq).2 (hA q hq).1
      obtain ⟨hstop, hgo'⟩ := hT F2 H2 hA2 s2.f s2.e s2.fp (let ⟨a, h, _⟩ := d2; ⟨_, h⟩) i
      by_cases hlt : i < xs.length
      · right
        have hx : xs[i]? = some xs[i] := List.getElem?_eq_getElem hlt
        obtain ⟨g1, g2⟩ := hgo' _ hx
        refine ⟨g1, fun H' => ∃ m', m' < xs.length - i ∧ (m' = xs.length - (i + 1) ∧ i + 1 ≤ xs.length ∧ ∃ F2 acc us rest w3, Stp Z.p F1 H1 F2 H' ∧ Dr Z.p F2 H' w3 ∧ H' D = some (.lst us) ∧ F2 D = none ∧ Dens K Z.p F2 acc us ∧ lcGo tg c e (wipeS ds vs) (xs.drop (i + 1)) w3 = some (rest, w') ∧ acc ++ rest = ys), fun H' z => z, fun x H3 hy => ?_⟩
        obtain ⟨sm, F3, s3, hden⟩ := g2 x H3 hy
        have d3 : Dr Z.p F3 H3 w3 := by
          obtain ⟨a, q1, q2⟩ := d2
          exact ⟨a, sm _ _ q1, s3.f _ _ q2⟩
        have s13 := s2.trans s3
        have r3 := r1.step s13 d3
        have hD3 : H3 D = some (.lst us) := sm _ _ hDl
        have hD3n : F3 D = none := by
          cases q : F3 D with
          | none => rfl
          | some o =>
            rcases s3.n D o q with z | z
            · rw [hDn] at z
              cases z
            · rw [hDl] at z
              cases z
        rw [List.drop_eq_getElem_cons hlt] at hgo
        obtain ⟨ds1, htg, hgo⟩ := bind2 (show (tg (wipeS ds vs) xs[i]).bind _ = _ from hgo)
        obtain ⟨⟨b, w4⟩, hc, hgo⟩ := bind2 hgo
        refine ⟨Z, F3, wipeS ds vs, w3, _, _, r3.wipe vs, hden, htg, fun σ2 r4 hsame hlen => ⟨?_, ?_⟩⟩
        · have e1 : L2.wipe σ2 vs = L2.wipe (L2.wipe σ vs) vs := wipe_same hlen fun i hi => hsame i fun z => hi (hj i z)
          rw [e1, wipe_wipe]
        · refine ⟨Z, F3, ds1, w3, _, _, r4, hc, fun F4 H4 s4 d4 => ?_⟩
          have lift : ∀ {F5 H5 : Hp} {w5 : Wd}, Stp Z.p F3 H3 F5 H5 → H5 D = some (.lst us) ∧ F5 D = none := fun {F5 H5 w5} s5 => by
            refine ⟨s5.h D _ hDp hD3, ?_⟩
            cases q : F5 D with
            | none => rfl
            | some o =>
              rcases s5.n D o q with z | z
              · rw [hD3n] at z
                cases z
              · rw [hD3] at z
                cases z
          dsimp only
          split
          · rename_i hb
            dsimp only at hgo
            rw [if_pos hb] at hgo
            obtain ⟨⟨y, w5⟩, he, hgo⟩ := bind2 hgo
            obtain ⟨⟨rest', w6⟩, hr, hgo⟩ := bind2 hgo
            cases hgo
            refine ⟨Z, F4, ds1, _, _, _, r4.step s4 d4, he, fun v F5 H5 s5 d5 hv => ?_⟩
            have s35 := s4.trans s5
            obtain ⟨hD5, hD5n⟩ := lift (w5 := w5) s35
            have hlen2 : us.length < sizeLine := by
              rw [hacc.len]
              refine sz_lt ?_
              have := congrArg List.length hcat
              rw [List.length_append, List.length_cons] at this
              have hl' : ys.length ≤ line := hl
              dsimp only at this
              omega
            refine ⟨us, hD5, hlen2, xs.length - (i + 1), by omega, rfl, by omega, F5, acc ++ [y], us ++ [v], rest', w5, ?_, ?_, upd_same, hD5n, (hacc.mono (s3.f.trans s35.f)).append (dens_cons hv dens_nil), hr, by rw [List.append_assoc]; exact hcat⟩
            · have s15 := s13.trans s35
              refine ⟨s15.f, fun b o hb hz => ?_, fun b o hz => ?_, s15.n, s15.fp⟩
              · have hbD : b ≠ D := ne_of_none hz hD
                rw [upd_ne hbD]
                exact s15.h b o hb hz
              · rw [upd_ne (ne_of_none hz hD5n)]
                exact s15.e b o hz
            · obtain ⟨a, q1, q2⟩ := d5
              exact ⟨a, by rw [upd_ne (Ne.symm hDp)]; exact q1, q2⟩
          · rename_i hb
            dsimp only at hgo
            rw [if_neg hb] at hgo
            obtain ⟨hD4, hD4n⟩ := lift (w5 := w4) s4
            exact ⟨xs.length - (i + 1), by omega, rfl, by omega, F4, acc, us, rest, w4, s13.trans s4, d4, hD4, hD4n, hacc.mono (s3.f.trans s4.f), hgo, hcat⟩
      · left
        refine ⟨hstop (by omega), ?_⟩
        have hnil : xs.drop i = [] := List.drop_eq_nil_of_le (by omega)
        rw [hnil] at hgo
        cases hgo
        rw [List.append_nil] at hcat
        subst hcat
        refine k D us F2 H2 (s1.trans s2) d2 hDl ?_ hDn hDp hacc
        cases q : H D with
        | none => rfl
        | some o =>
          have := s1.h D o hDp q
          rw [hD] at this
          cases this
  · cases hf
theorem jf_lc {elt tg iter : Expr} {ifs : List Expr} {scope : Scope} {own : List (Str × Nat)} {pos : Pos} {b : Bool} {src : Ef} {g : Eg} {c : Et} {e : Ev} {js : List Nat} (hc : X.calm = true) (hN : X.N.Nodup) (hi : JI X tg iter b src) (ok : BlkOk X.N X.env.scope scope own)
    (hg : ∀ (s : Shared) (H : Hp) (C : Addr) (cl : List (Str × Addr)) (fp : List Addr), JG (X.blk s H scope (compEnvC scope cl C X.env) fp) tg g js) (ht : ∀ (s : Shared) (H : Hp) (C : Addr) (cl : List (Str × Addr)) (fp : List Addr), JTs (X.blk s H scope (compEnvC scope cl C X.env) fp) ifs c)
    (he : ∀ (s : Shared) (H : Hp) (C : Addr) (cl : List (Str × Addr)) (fp : List Addr), JE (X.blk s H scope (compEnvC scope cl C X.env) fp) elt e) (hj : ∀ i ∈ js, i ∈ own.map (·.2) := by decide) (hs : ∀ x, foldedSetIterable iter X.env x = pure x := by intro _; rfl) :
    JF X (.ListComp elt [⟨tg, iter, ifs, 0⟩] scope pos) (fLc src g c e (own.map (·.2))) :=
  ⟨pe_weak (pe_lc hc hN hi.run ok (fun s H C cl fp => (hg s H C cl fp).run) (fun s H C cl fp => (ht s H C cl fp).run) (fun s H C cl fp => (he s H C cl fp).run) hs) (lc_of hj)⟩
end
/-! ### statements -/
inductive Out where
  | nx (ds : List Sl) (w : Wd) | rt (d : D) (w : Wd) | bk (ds : List Sl) (w : Wd) | ct (ds : List Sl) (w : Wd)
abbrev Es := List Sl → Wd → Option Out
def OutK (K : PySem.W.Frag) (Z : Cfg) (F : Hp) (o : Out) (D : Ends) : Prop := match o with
  | .nx ds w => ∀ σ' F' H', Same F F' → R K Z F' H' σ' ds w → D.nx σ' H'
  | .bk ds w => ∀ σ' F' H', Same F F' → R K Z F' H' σ' ds w → D.bk σ' H'
  | .ct ds w => ∀ σ' F' H', Same F F' → R K Z F' H' σ' ds w → D.ct σ' H'
  | .rt d w => ∀ v σ' ds' F' H', Same F F' → R K Z F' H' σ' ds' w → Den K Z.p F' d v → D.rt v H'
theorem OutK.go {K : PySem.W.Frag} {Z : Cfg} {F F' : Hp} {o : Out} {D : Ends} (k : OutK K Z F o D) (e : Same F F') : OutK K Z F' o D := by
  cases o with
  | nx ds w => exact fun σ' F2 H' s => k σ' F2 H' (e.trans s)
  | bk ds w => exact fun σ' F2 H' s => k σ' F2 H' (e.trans s)
  | ct ds w => exact fun σ' F2 H' s => k σ' F2 H' (e.trans s)
  | rt d w => exact fun v σ' ds' F2 H' s => k v σ' ds' F2 H' (e.trans s)
def canS (K : PySem.W.Frag) (f : Es) : TS := fun D σ H => ∃ Z F ds w o, R K Z F H σ ds w ∧ f ds w = some o ∧ OutK K Z F o D
structure JS (X : Cx) (st : Stmt) (f : Es) : Prop where run : PS X st (canS X.K f)
structure JSs (X : Cx) (st : List Stmt) (f : Es) : Prop where run : PSs X st (canS X.K f)
theorem ps_weak {X : Cx} {st : Stmt} {t t' : TS} (h : PS X st t) (s : ∀ D σ H, t' D σ H → t D σ H) : PS X st t' := ⟨fun pins s' σ H D I q => h.run pins s' σ H D I (s D σ H q)⟩
theorem pss_weak {X : Cx} {st : List Stmt} {t t' : TS} (h : PSs X st t) (s : ∀ D σ H, t' D σ H → t D σ H) : PSs X st t' := ⟨fun pins s' σ H D I q => h.run pins s' σ H D I (s D σ H q)⟩
def sNil : Es := fun ds w => some (.nx ds w)
def sSeq (f g : Es) : Es := fun ds w => (f ds w).bind fun o => match o with | .nx ds1 w1 => g ds1 w1 | z => some z
def sNone : Es := fun _ _ => none
section
variable {X : Cx} {st : Stmt} {rest : List Stmt} {f g : Es} {e : Expr} {fe : Ev} {pos : Pos}
theorem jss_nil : JSs X [] sNil := ⟨pss_weak pss_nil fun D σ H ⟨Z, F, ds, w, o, rr, hf, k⟩ => by
  cases hf
  exact k σ F H (Same.refl _) rr⟩
theorem jss_cons (h : JS X st f) (h2 : JSs X rest g) : JSs X (st :: rest) (sSeq f g) := ⟨pss_weak (pss_cons h.run h2.run) fun D σ H ⟨Z, F, ds, w, o, rr, hf, k⟩ => by
  obtain ⟨o1, h1, hf⟩ := bind2 hf
  refine ⟨Z, F, ds, w, o1, rr, h1, ?_⟩
  cases o1 with
  | nx ds1 w1 => exact fun σ' F' H' s r' => ⟨Z, F', ds1, w1, o, r', hf, k.go s⟩
  | rt d w1 =>
    cases hf
    exact k
  | bk ds1 w1 =>
    cases hf
    exact k
  | ct ds1 w1 =>
    cases hf
    exact k⟩
/-- what is never come to -/
theorem js_never : JS X st sNone := ⟨⟨fun pins s' σ H D I ⟨Z, F, ds, w, o, rr, hf, k⟩ => by cases hf⟩⟩
theorem jss_never {sts : List Stmt} : JSs X sts sNone := ⟨⟨fun pins s' σ H D I ⟨Z, F, ds, w, o, rr, hf, k⟩ => by cases hf⟩⟩
/-- a list of one's own is told to all from here on -/
def sFrz (i : Nat) (g : Es) : Es := fun ds w => match ds[i]? with | some (.own xs) => g (ds.set i (.d (.lst xs))) w | _ => g ds w
theorem jss_frz (i : Nat) (h : JSs X rest g) : JSs X rest (sFrz i g) := ⟨pss_weak h.run fun D σ H ⟨Z, F, ds, w, o, rr, hf, k⟩ => by
  unfold sFrz at hf
  split at hf
  · rename_i xs hx
    obtain ⟨F', s1, r1⟩ := rr.freeze hx
    exact ⟨Z, F', _, w, o, r1, hf, k.go s1⟩
  · exact ⟨Z, F, _, w, o, rr, hf, k⟩⟩
def sSet (i : Nat) (f : Ev) : Es := fun ds w => (f ds w).bind fun d => some (.nx (ds.set i (.d d.1)) d.2)
theorem js_set (i : Nat) {x : Str} {pos' : Pos} (hN : X.N.Nodup) (he : JE X e fe) (hi : X.N[i]? = some x := by rfl) (hx : Loc X.env.scope x := by first | exact Or.inl rfl | exact Or.inr rfl) (hs : swapsWith e (some (.Name x pos')) pos.line X.env = pure false := by rfl) (hf : X.fn x = true ∨ X.env.scope.names.lookup x = some .local := by first | exact .inl rfl | exact .inr rfl | assumption) :
    JS X (.Assign [.Name x pos'] e pos) (sSet i fe) := ⟨ps_weak (ps_set hN hi hx he.run hs hf) fun D σ H ⟨Z, F, ds, w, o, rr, hf, k⟩ => by
  obtain ⟨d, hd, hf⟩ := bind2 hf
  cases hf
  exact ⟨Z, F, ds, w, _, _, rr, hd, fun v F1 H1 s1 d1 hv => k _ F1 H1 s1.f ((rr.step s1 d1).set hv)⟩⟩
/-- .. to a list of its own -/
def sSetO (i : Nat) (f : Ef) : Es := fun ds w => (f ds w).bind fun d => some (.nx (ds.set i (.own d.1)) d.2)
theorem R.fresh {K : PySem.W.Frag} {Z : Cfg} {F H F1 H1 : Hp} {σ : L2.St} {ds : List Sl} {w w1 : Wd} {xs : List D} {q : Addr} {vs : List V} (i : Nat) (rr : R K Z F H σ ds w) (s1 : Stp Z.p F H F1 H1) (d1 : Dr Z.p F1 H1 w1) (h1 : H1 q = some (.lst vs)) (h2 : H q = none) (h3 : F1 q = none) (h4 : q ≠ Z.p) (h5 : Dens K Z.p F1 xs vs) : R K Z F1 H1 (σ.set i (some (.ref q))) (ds.set i (.own xs)) w1 := by
  have nm : q ∉ Z.M := fun z => by
    obtain ⟨⟨o, ho⟩, _⟩ := rr.hm _ z
    rw [h2] at ho
    cases ho
  refine (rr.step s1 d1).setO h1 h3 h4 ?_ nm (fun j a zs hz ha => ?_) h5
  · cases z : Z.H0 q with
    | none => rfl
    | some o =>
      have := rr.keep q o h4 nm z
      rw [h2] at this
      cases this
  · obtain ⟨α, inj, hα⟩ := rr.env
    rcases hz with hz | ⟨k, hz⟩
    · obtain ⟨g1, ⟨us, g2, _⟩, _⟩ := hα j _ hz
      rw [ha] at g1
      cases g1
      exact ne_of_none g2 h2
    · obtain ⟨g1, ⟨us, g2, _⟩, _⟩ := hα j _ hz
      rw [ha] at g1
      cases g1
      exact ne_of_none g2 h2
theorem js_setO (i : Nat) {fl : Ef} {x : Str} {pos' : Pos} (hN : X.N.Nodup) (he : JF X e fl) (hi : X.N[i]? = some x := by rfl) (hx : Loc X.env.scope x := by first | exact Or.inl rfl | exact Or.inr rfl) (hs : swapsWith e (some (.Name x pos')) pos.line X.env = pure false := by rfl) (hf : X.fn x = true ∨ X.env.scope.names.lookup x = some .local := by first | exact .inl rfl | exact .inr rfl | assumption) :
    JS X (.Assign [.Name x pos'] e pos) (sSetO i fl) := ⟨ps_weak (ps_set hN hi hx he.run hs hf) fun D σ H ⟨Z, F, ds, w, o, rr, hf, k⟩ => by
  obtain ⟨d, hd, hf⟩ := bind2 hf
  cases hf
  exact ⟨Z, F, ds, w, _, _, rr, hd, fun q vs F1 H1 s1 d1 h1 h2 h3 h4 h5 => k _ F1 H1 s1.f (R.fresh i rr s1 d1 h1 h2 h3 h4 h5)⟩⟩
section
variable {elt tg iter : Expr} {ifs : List Expr} {scope : Scope} {own : List (Str × Nat)} {pos' : Pos} {b : Bool} {src : Ef} {gg : Eg} {c : Et} {ee : Ev} {js : List Nat} {y : Str} {py : Pos}
/-- name = [.. for ..] -/
theorem js_setLc (i : Nat) (hc : X.calm = true) (hN : X.N.Nodup) (hsw : swapsWith (.ListComp elt [⟨tg, iter, ifs, 0⟩] scope pos') (some (.Name y py)) pos.line X.env = pure true) (hi : JI X tg iter b src) (ok : BlkOk X.N X.env.scope scope own)
    (hg : ∀ (s : Shared) (H : Hp) (C : Addr) (cl : List (Str × Addr)) (fp : List Addr), JG (X.blk s H scope (compEnvC scope cl C X.env) fp) tg gg js) (ht : ∀ (s : Shared) (H : Hp) (C : Addr) (cl : List (Str × Addr)) (fp : List Addr), JTs (X.blk s H scope (compEnvC scope cl C X.env) fp) ifs c)
    (he : ∀ (s : Shared) (H : Hp) (C : Addr) (cl : List (Str × Addr)) (fp : List Addr), JE (X.blk s H scope (compEnvC scope cl C X.env) fp) elt ee) (hy : X.N[i]? = some y := by rfl) (hyl : X.env.scope.names.lookup y = some .local := by rfl) (hj : ∀ i ∈ js, i ∈ own.map (·.2) := by decide) (hs : ∀ x, foldedSetIterable iter X.env x = pure x := by intro _; rfl) :
    JS X (.Assign [.Name y py] (.ListComp elt [⟨tg, iter, ifs, 0⟩] scope pos') pos) (sSetO i (fLc src gg c ee (own.map (·.2)))) :=
  ⟨ps_weak (ps_setLc hc hN hy hyl hsw hi.run ok (fun s H C cl fp => (hg s H C cl fp).run) (fun s H C cl fp => (ht s H C cl fp).run) (fun s H C cl fp => (he s H C cl fp).run) hs) fun D σ H ⟨Z, F, ds, w, o, rr, hf, k⟩ => by
    obtain ⟨d, hd, hf⟩ := bind2 hf
    cases hf
    exact lc_of hj σ H _ ⟨Z, F, ds, w, _, _, rr, hd, fun q vs F1 H1 s1 d1 h1 h2 h3 h4 h5 => k _ F1 H1 s1.f (R.fresh i rr s1 d1 h1 h2 h3 h4 h5)⟩⟩
end
def sRet (f : Ev) : Es := fun ds w => (f ds w).bind fun d => some (.rt d.1 d.2)
theorem js_ret (he : JE X e fe) : JS X (.Return (some e) pos) (sRet fe) := ⟨ps_weak (ps_ret he.run) fun D σ H ⟨Z, F, ds, w, o, rr, hf, k⟩ => by
  obtain ⟨d, hd, hf⟩ := bind2 hf
  cases hf
  exact ⟨Z, F, ds, w, _, _, rr, hd, fun v F1 H1 s1 d1 hv => k v _ _ F1 H1 s1.f (rr.step s1 d1) hv⟩⟩
theorem js_retN : JS X (.Return none pos) (sRet (eC .non)) := ⟨ps_weak ps_retN fun D σ H ⟨Z, F, ds, w, o, rr, hf, k⟩ => by
  cases hf
  exact k _ _ _ F H (Same.refl _) rr den_non⟩
def sDrop (f : Ev) : Es := fun ds w => (f ds w).bind fun d => some (.nx ds d.2)
theorem js_expr (he : JE X e fe) (hs : swapsWith e none pos.line X.env = pure false := by rfl) : JS X (.Expr e pos) (sDrop fe) := ⟨ps_weak (ps_expr he.run hs) fun D σ H ⟨Z, F, ds, w, o, rr, hf, k⟩ => by
  obtain ⟨d, hd, hf⟩ := bind2 hf
  cases hf
  exact ⟨Z, F, ds, w, _, _, rr, hd, fun v F1 H1 s1 d1 hv => k _ F1 H1 s1.f (rr.step s1 d1)⟩⟩
def sPass : Es := sNil
theorem js_pass : JS X (.Pass pos) sPass := ⟨ps_weak ps_pass fun D σ H ⟨Z, F, ds, w, o, rr, hf, k⟩ => by
  cases hf
  exact k σ F H (Same.refl _) rr⟩
def sBk : Es := fun ds w => some (.bk ds w)
def sCt : Es := fun ds w => some (.ct ds w)
theorem js_break : JS X (.Break pos) sBk := ⟨ps_weak ps_break fun D σ H ⟨Z, F, ds, w, o, rr, hf, k⟩ => by
  cases hf
  exact k σ F H (Same.refl _) rr⟩
theorem js_continue : JS X (.Continue pos) sCt := ⟨ps_weak ps_continue fun D σ H ⟨Z, F, ds, w, o, rr, hf, k⟩ => by
  cases hf
  exact k σ F H (Same.refl _) rr⟩
def sIf (t : Et) (a b : Es) : Es := fun ds w => (t ds w).bind fun r => if r.1 = true then a ds r.2 else b ds r.2
theorem js_if {c : Expr} {a b : List Stmt} {t : Et} {fa fb : Es} (hc : JT X c t) (ha : JSs X a fa) (hb : JSs X b fb) : JS X (.If c a b pos) (sIf t fa fb) := ⟨ps_weak (ps_if hc.run ha.run hb.run) fun D σ H ⟨Z, F, ds, w, o, rr, hf, k⟩ => by
  obtain ⟨r, hr, hf⟩ := bind2 hf
  refine ⟨Z, F, ds, w, _, _, rr, hr, fun F1 H1 s1 d1 => ?_⟩
  dsimp only
  split
  · rename_i h
    rw [if_pos h] at hf
    exact ⟨Z, F1, ds, _, o, rr.step s1 d1, hf, k.go s1.f⟩
  · rename_i h
    rw [if_neg h] at hf
    exact ⟨Z, F1, ds, _, o, rr.step s1 d1, hf, k.go s1.f⟩⟩
/-! loops -/
def forGo (tg : Eg) (body : Es) : List D → Es
  | [], ds, w => some (.nx ds w)
  | x :: xs, ds, w => (tg ds x).bind fun ds1 => (body ds1 w).bind fun o => match o with
    | .nx ds2 w2 => forGo tg body xs ds2 w2
    | .ct ds2 w2 => forGo tg body xs ds2 w2
    | .bk ds2 w2 => some (.nx ds2 w2)
    | .rt d w2 => some (.rt d w2)
def sFor (src : Ef) (tg : Eg) (body : Es) : Es := fun ds w => (src ds w).bind fun s => forGo tg body s.1 ds s.2
theorem js_for {tg iter : Expr} {body : List Stmt} {src : Ef} {gg : Eg} {fb : Es} {js : List Nat} (hp : PassesOwn (model X.prog X.w) X.A X.env X.xe) (hc : X.calm = true) (hi : JI X tg iter false src) (hg : JG X tg gg js) (hb : JSs X body fb) (hs : ∀ x, foldedSetIterable iter X.env x = pure x := by intro _; rfl) :
    JS X (.For tg iter body [] pos) (sFor src gg fb) := ⟨ps_weak (ps_for hp hc hi.run hg.run hb.run hs) fun D σ H ⟨Z, F, ds, w, o, rr, hf, k⟩ => by
  obtain ⟨⟨xs, w1⟩, hx, hf⟩ := bind2 hf
  refine ⟨Z, F, ds, w, _, _, rr, hx, fun T F1 H1 A s1 d1 hA hS => ?_⟩
  cases hA rfl
  obtain ⟨_, hT⟩ := hS
  refine ⟨fun i m σ2 H2 => m = xs.length - i ∧ i ≤ xs.length ∧ ∃ F2 ds2 w2, Same F1 F2 ∧ R X.K Z F2 H2 σ2 ds2 w2 ∧ forGo gg fb (xs.drop i) ds2 w2 = some o, ⟨xs.length, rfl, Nat.zero_le _, F1, ds, w1, Same.refl _, rr.step s1 d1, hf⟩, fun i m σ2 H2 hw => ?_⟩
  obtain ⟨rfl, hi, F2, ds2, w2, e2, r2, hgo⟩ := hw
  obtain ⟨hstop, hgo'⟩ := hT F2 H2 (fun _ z => nomatch z) e2 r2.ex r2.fp (let ⟨a, h, _⟩ := r2.dr; ⟨_, h⟩) i
  by_cases hlt : i < xs.length
  · right
    have hxi : xs[i]? = some xs[i] := List.getElem?_eq_getElem hlt
    obtain ⟨g1, g2⟩ := hgo' _ hxi
    refine ⟨g1, fun σ' H' => ∃ m', m' < xs.length - i ∧ (m' = xs.length - (i + 1) ∧ i + 1 ≤ xs.length ∧ ∃ F2 ds2 w2, Same F1 F2 ∧ R X.K Z F2 H' σ' ds2 w2 ∧ forGo gg fb (xs.drop (i + 1)) ds2 w2 = some o), fun _ _ z => z, fun x H3 hy => ?_⟩
    obtain ⟨sm, F3, s3, hden⟩ := g2 x H3 hy
    have d3 : Dr Z.p F3 H3 w2 := by
      obtain ⟨a, q1, q2⟩ := r2.dr
      exact ⟨a, sm _ _ q1, s3.f _ _ q2⟩
    rw [List.drop_eq_getElem_cons hlt] at hgo
    obtain ⟨ds1, htg, hgo⟩ := bind2 (show (gg ds2 xs[i]).bind _ = _ from hgo)
    obtain ⟨o1, hbd, hgo⟩ := bind2 hgo
    refine ⟨Z, F3, ds2, w2, _, _, r2.step s3 d3, hden, htg, fun σ4 r4 _ _ => ⟨Z, F3, ds1, w2, o1, r4, hbd, ?_⟩⟩
    cases o1 with
    | nx ds5 w5 => exact fun σ' F' H' e5 r5 => ⟨_, by omega, rfl, by omega, F', ds5, w5, (e2.trans s3.f).trans e5, r5, hgo⟩
    | ct ds5 w5 => exact fun σ' F' H' e5 r5 => ⟨_, by omega, rfl, by omega, F', ds5, w5, (e2.trans s3.f).trans e5, r5, hgo⟩
    | bk ds5 w5 =>
      cases hgo
      exact fun σ' F' H' e5 r5 => k σ' F' H' (((s1.f.trans e2).trans s3.f).trans e5) r5
    | rt d5 w5 =>
      cases hgo
      exact fun v σ' ds' F' H' e5 r5 hv => k v σ' ds' F' H' (((s1.f.trans e2).trans s3.f).trans e5) r5 hv
  · left
    refine ⟨hstop (by omega), ?_⟩
    rw [List.drop_eq_nil_of_le (by omega)] at hgo
    cases hgo
    exact k σ2 F2 H2 (s1.f.trans e2) r2⟩
def whileN (t : Et) (body : Es) : Nat → Es
  | 0, _, _ => none
  | n + 1, ds, w => (t ds w).bind fun b => if b.1 = true then (body ds b.2).bind fun o => match o with
    | .nx ds2 w2 => whileN t body n ds2 w2
    | .ct ds2 w2 => whileN t body n ds2 w2
    | .bk ds2 w2 => some (.nx ds2 w2)
    | .rt d w2 => some (.rt d w2) else some (.nx ds b.2)
theorem whileN_mono {t : Et} {body : Es} : ∀ {n m : Nat} {ds : List Sl} {w : Wd} {o : Out}, n ≤ m → whileN t body n ds w = some o → whileN t body m ds w = some o
  | 0, _, _, _, _, _, h => by cases h
  | n + 1, 0, _, _, _, hm, _ => absurd hm (Nat.not_succ_le_zero _)
  | n + 1, m + 1, ds, w, o, hm, h => by
    obtain ⟨b, h1, h2⟩ := bind2 (show (t ds w).bind _ = _ from h)
    show (t ds w).bind _ = _
    rw [h1]
    show (if b.1 = true then _ else _) = _
    split at h2
    · rename_i hb
      rw [if_pos hb]
      obtain ⟨o1, h3, h4⟩ := bind2 h2
      rw [h3]
      cases o1 with
      | nx ds2 w2 => exact whileN_mono (Nat.le_of_succ_le_succ hm) h4
      | ct ds2 w2 => exact whileN_mono (Nat.le_of_succ_le_succ hm) h4
      | bk ds2 w2 => exact h4
      | rt d w2 => exact h4
    · rename_i hb
      rw [if_neg hb]
      exact h2
open Classical in
noncomputable def sWhile (t : Et) (body : Es) : Es := fun ds w => if h : ∃ n o, whileN t body n ds w = some o then some (choose (choose_spec h)) else none
theorem sWhile_of {t : Et} {body : Es} {n : Nat} {ds : List Sl} {w : Wd} {o : Out} (h : whileN t body n ds w = some o) : sWhile t body ds w = some o := by
  have hx : ∃ n o, whileN t body n ds w = some o := ⟨n, o, h⟩
  unfold sWhile
  rw [dif_pos hx]
  have h2 := Classical.choose_spec (Classical.choose_spec hx)
  have a := whileN_mono (Nat.le_max_left n (Classical.choose hx)) h
  have b := whileN_mono (Nat.le_max_right n (Classical.choose hx)) h2
  rw [a] at b
  exact b.symm
theorem of_sWhile {t : Et} {body : Es} {ds : List Sl} {w : Wd} {o : Out} (h : sWhile t body ds w = some o) : ∃ n, whileN t body n ds w = some o := by
  unfold sWhile at h
  split at h
  · rename_i hx
    have h2 := Classical.choose_spec (Classical.choose_spec hx)
    rw [Option.some.inj h] at h2
    exact ⟨_, h2⟩
  · cases h
theorem js_while {c : Expr} {body : List Stmt} {t : Et} {fb : Es} (hp : PassesOwn (model X.prog X.w) X.A X.env X.xe) (hc : JT X c t) (hb : JSs X body fb) : JS X (.While c body [] pos) (sWhile t fb) := ⟨ps_weak (ps_while hp hc.run hb.run) fun D σ H ⟨Z, F, ds, w, o, rr, hf, k⟩ => by
  obtain ⟨n, hn⟩ := of_sWhile hf
  refine ⟨fun m σ2 H2 => ∃ F2 ds2 w2, Same F F2 ∧ R X.K Z F2 H2 σ2 ds2 w2 ∧ whileN t fb m ds2 w2 = some o, ⟨n, F, ds, w, Same.refl _, rr, hn⟩, fun m σ2 H2 hw => ?_⟩
  obtain ⟨F2, ds2, w2, e2, r2, hgo⟩ := hw
  cases m with
  | zero => cases hgo
  | succ m =>
    obtain ⟨b, h1, h2⟩ := bind2 (show (t ds2 w2).bind _ = _ from hgo)
    refine ⟨Z, F2, ds2, w2, _, _, r2, h1, fun F3 H3 s3 d3 => ?_⟩
    have r3 := r2.step s3 d3
    dsimp only
    split
    · rename_i hb
      rw [if_pos hb] at h2
      obtain ⟨o1, h3, h4⟩ := bind2 h2
      refine ⟨fun σ' H' => ∃ m', m' < m + 1 ∧ ∃ F2 ds2 w2, Same F F2 ∧ R X.K Z F2 H' σ' ds2 w2 ∧ whileN t fb m' ds2 w2 = some o, fun _ _ z => z, Z, F3, ds2, _, o1, r3, h3, ?_⟩
      cases o1 with
      | nx ds5 w5 => exact fun σ' F' H' e5 r5 => ⟨m, Nat.lt_succ_self _, F', ds5, w5, (e2.trans s3.f).trans e5, r5, h4⟩
      | ct ds5 w5 => exact fun σ' F' H' e5 r5 => ⟨m, Nat.lt_succ_self _, F', ds5, w5, (e2.trans s3.f).trans e5, r5, h4⟩
      | bk ds5 w5 =>
        cases h4
        exact fun σ' F' H' e5 r5 => k σ' F' H' ((e2.trans s3.f).trans e5) r5
      | rt d5 w5 =>
        cases h4
        exact fun v σ' ds' F' H' e5 r5 hv => k v σ' ds' F' H' ((e2.trans s3.f).trans e5) r5 hv
    · rename_i hb
      rw [if_neg hb] at h2
      cases h2
      exact k σ2 F3 H3 (e2.trans s3.f) r3⟩
end
end J
namespace J
open PySem PyProof.Rows L2
section
variable {X : Cx} {K : PySem.W.Frag} {Z : Cfg} {F H : Hp} {σ : L2.St} {ds : List Sl} {w : Wd}
theorem R.own1 (r : R K Z F H σ ds w) {i : Nat} {xs : List D} (h : ds[i]? = some (.own xs) ∨ ∃ k, ds[i]? = some (.mu k xs)) : ∃ a vs, σ[i]? = some (some (.ref a)) ∧ H a = some (.lst vs) ∧ F a = none ∧ a ≠ Z.p ∧ Dens K Z.p F xs vs := by
  obtain ⟨α, inj, hα⟩ := r.env
  rcases h with h | ⟨k, h⟩
  · obtain ⟨h1, ⟨vs, h2, h3, h4, h5⟩, _⟩ := hα i _ h
    exact ⟨_, vs, h1, h2, h3, h4, h5⟩
  · obtain ⟨h1, ⟨vs, h2, h3, h4, h5⟩, _⟩ := hα i _ h
    exact ⟨_, vs, h1, h2, h3, h4, h5⟩
/-- what a list of one's own becomes -/
def ownTo (ds : List Sl) (i : Nat) (f : List D → Option (List D)) : Option (List Sl) := match ds[i]? with
  | some (.own xs) => (f xs).bind fun ys => some (ds.set i (.own ys))
  | some (.mu k xs) => (f xs).bind fun ys => some (ds.set i (.mu k ys))
  | _ => none
theorem ownTo_spec {ds ds' : List Sl} {i : Nat} {f : List D → Option (List D)} (h : ownTo ds i f = some ds') : ∃ xs ys s s', ds[i]? = some s ∧ f xs = some ys ∧ ds' = ds.set i s' ∧ ((s = .own xs ∧ s' = .own ys) ∨ ∃ k, s = .mu k xs ∧ s' = .mu k ys) := by
  unfold ownTo at h
  split at h
  · rename_i xs hx
    obtain ⟨ys, h1, h2⟩ := bind2 h
    cases h2
    exact ⟨xs, ys, _, _, hx, h1, rfl, .inl ⟨rfl, rfl⟩⟩
  · rename_i k xs hx
    obtain ⟨ys, h1, h2⟩ := bind2 h
    cases h2
    exact ⟨xs, ys, _, _, hx, h1, rfl, .inr ⟨k, rfl, rfl⟩⟩
  · cases h
theorem own_or {ds : List Sl} {i : Nat} {xs ys : List D} {s s' : Sl} (h : ds[i]? = some s) (e : (s = .own xs ∧ s' = .own ys) ∨ ∃ k, s = .mu k xs ∧ s' = .mu k ys) : ds[i]? = some (.own xs) ∨ ∃ k, ds[i]? = some (.mu k xs) := by
  rcases e with ⟨rfl, _⟩ | ⟨k, rfl, _⟩
  · exact .inl h
  · exact .inr ⟨k, h⟩
/-! ### x.append(e) -/
variable {e : Expr} {fe : Ev} {pos : Pos}
def sApp (i : Nat) (f : Ev) : Es := fun ds w => (f ds w).bind fun d => (ownTo ds i fun xs => if xs.length < line then some (xs ++ [d.1]) else none).bind fun ds' => some (.nx ds' d.2)
theorem js_app (i : Nat) {x : Str} {p1 apos cpos : Pos} (he : JE X e fe) (hN : X.N[i]? = some x := by rfl) (hv : Vis X.env.scope x := by first | exact Or.inl rfl | exact Or.inr (Or.inl rfl) | exact Or.inr (Or.inr rfl)) (hd : (x == ("__debug__" : Str)) = false := by decide) (hcd : (x == ("__classdict__" : Str)) = false := by decide)
    (hbase : attributeBase (.Name x p1) "append" X.env (eval (.Name x p1) X.env) = eval (.Name x p1) X.env := by rfl)
    (hfew : ((backTo cpos (starEach (e :: []) X.env)).all (fun x => !x.1) && (backToKw cpos (keywordEach [] X.env)).all (fun x => x.1.isSome) && decide ((e :: []).length + ([] : List Keyword).length + (if ([] : List Keyword).isEmpty then 0 else 1) < 30)) = true := by rfl)
    (hline : (apos.endLine == cpos.line) = true := by rfl) (hs : starEach (e :: []) X.env = (false, eval e X.env) :: starEach [] X.env := by rfl) (hplain : (backTo cpos (starEach [] X.env)).any (·.1) = false := by rfl)
    (hsw : swapsWith (.Call (.Attribute (.Name x p1) "append" apos) [e] [] cpos) none pos.line X.env = pure false := by rfl) : JS X (.Expr (.Call (.Attribute (.Name x p1) "append" apos) [e] [] cpos) pos) (sApp i fe) :=
  ⟨ps_weak (ps_expr (pe_bm PySem.F.plainAttrs_list PySem.F.slot_list_append PySem.F.type_list_append mt_append (pe_var hN hv hd hcd) (pa_cons he.run pa_nil hs) hbase hfew hline hs hplain) hsw) fun D σ H ⟨Z, F, ds, w, o, rr, hf, k⟩ => by
    obtain ⟨d, hd, hf⟩ := bind2 hf
    obtain ⟨ds', ho, hf⟩ := bind2 hf
    cases hf
    obtain ⟨xs, ys, s, s', hi, hys, rfl, hss⟩ := ownTo_spec ho
    split at hys
    · rename_i hl
      cases hys
      obtain ⟨a, vs, h1, h2, h3, h4, h5⟩ := rr.own1 (own_or hi hss)
      refine ⟨.ref a, h1, .inl ⟨rfl, vs, .of h2⟩, Z, F, ds, w, _, _, rr, hd, fun v F1 H1 s1 d1 hv => ?_⟩
      have g2 := s1.h a _ h4 h2
      refine ⟨a, vs, v, rfl, rfl, g2, by rw [h5.len]; exact sz_lt hl, ?_⟩
      exact k σ F1 _ s1.f ((rr.step s1 d1).turn hi h1 hss ((h5.mono s1.f).append (dens_cons hv dens_nil)))
    · cases hys⟩
/-! ### targets that change lists of one's own -/
abbrev EgO := List Sl → Wd → D → Option (List Sl × Wd)
abbrev EgsO := List Sl → Wd → List D → Option (List Sl × Wd)
def canGO (K : PySem.W.Frag) (tg : EgO) : TG := fun v σ H Q => ∃ Z F ds w d ds' w', R K Z F H σ ds w ∧ Den K Z.p F d v ∧ tg ds w d = some (ds', w') ∧ ∀ σ' F' H', Same F F' → R K Z F' H' σ' ds' w' → Q σ' H'
def canGsO (K : PySem.W.Frag) (tg : EgsO) : TGs := fun v σ H Q => ∃ Z F ds w d ds' w', R K Z F H σ ds w ∧ Dens K Z.p F d v ∧ tg ds w d = some (ds', w') ∧ ∀ σ' F' H', Same F F' → R K Z F' H' σ' ds' w' → Q σ' H'
structure JGO (X : Cx) (tg : Expr) (f : EgO) : Prop where run : PG X tg (canGO X.K f)
structure JGsO (X : Cx) (tg : List Expr) (f : EgsO) : Prop where run : PGs X tg (canGsO X.K f)
def goN (g : Eg) : EgO := fun ds w d => (g ds d).bind fun ds' => some (ds', w)
def goSub (i : Nat) (f : Ev) : EgO := fun ds w d => (f ds w).bind fun z => match z.1 with
  | .int k => (ownTo ds i fun xs => (ixN xs.length k).bind fun j => some (xs.set j d)).bind fun ds' => some (ds', z.2)
  | _ => none
def gosNil : EgsO := fun ds w xs => match xs with | [] => some (ds, w) | _ => none
def gosCons (g : EgO) (h : EgsO) : EgsO := fun ds w xs => match xs with | x :: r => (g ds w x).bind fun p => h p.1 p.2 r | _ => none
def goT (n : Nat) (h : EgsO) : EgO := fun ds w d => match d with | .tup xs => if xs.length = n then h ds w xs else none | _ => none
variable {tg : Expr} {es : List Expr} {g : EgO} {h : EgsO}
theorem jgo_of {g : Eg} {js : List Nat} (h : JG X tg g js) : JGO X tg (goN g) := ⟨pg_weak h.run fun v σ H Q ⟨Z, F, ds, w, d, ds', w', rr, hd, hg, k⟩ => by
  obtain ⟨ds1, h1, h2⟩ := bind2 hg
  cases h2
  exact ⟨Z, F, ds, w, _, _, rr, hd, h1, fun σ' r _ _ => k σ' F H (Same.refl _) r⟩⟩
theorem jgo_sub (i : Nat) {x : Str} {p1 : Pos} {ix : Expr} {fi : Ev} (hi : JB X ix fi) (hN : X.N[i]? = some x := by rfl) (hv : Vis X.env.scope x := by first | exact Or.inl rfl | exact Or.inr (Or.inl rfl) | exact Or.inr (Or.inr rfl)) (hd : (x == ("__debug__" : Str)) = false := by decide) (hcd : (x == ("__classdict__" : Str)) = false := by decide)
    (ha : ∀ v, assign (.Subscript (.Name x p1) ix pos) X.env v = (do
      let ov ← holding [v] (eval (.Name x p1) X.env)
      let iv ← holding [v, ov] (eval ix X.env)
      standAt pos
      holding [v, ov, iv] (setItem ov iv v)
      release [v, ov, iv] []) := by intro _; rfl) : JGO X (.Subscript (.Name x p1) ix pos) (goSub i fi) := ⟨pg_weak (pg_sub (pe_var hN hv hd hcd) hi.run set_list ha) fun v σ H Q ⟨Z, F, ds, w, d, ds', w', rr, hden, hg, k⟩ => by
  obtain ⟨⟨z, w1⟩, hz, hg⟩ := bind2 hg
  cases z <;> first | cases hg | skip
  rename_i kk
  obtain ⟨ds1, ho, hg⟩ := bind2 hg
  cases hg
  obtain ⟨xs, ys, s, s', hs, hys, rfl, hss⟩ := ownTo_spec ho
  obtain ⟨j, hj, hys⟩ := bind2 hys
  cases hys
  obtain ⟨a, vs, h1, h2, h3, h4, h5⟩ := rr.own1 (own_or hs hss)
  refine ⟨.ref a, h1, Z, F, ds, w, _, _, rr, hz, fun u F1 H1 s1 d1 hu => ?_⟩
  refine ⟨a, vs, kk, j, rfl, hu.int, s1.h a _ h4 h2, by rw [h5.len]; exact hj, ?_⟩
  exact k σ F1 _ s1.f ((rr.step s1 d1).turn hs h1 hss ((h5.mono s1.f).set j (hden.mono s1.f)))⟩
theorem jgso_nil : JGsO X [] gosNil := ⟨pgs_weak pgs_nil fun v σ H Q ⟨Z, F, ds, w, d, ds', w', rr, hd, hg, k⟩ => by
  unfold gosNil at hg
  split at hg
  · cases hg
    unfold Dens at hd
    exact ⟨hd, k σ F H (Same.refl _) rr⟩
  · cases hg⟩
theorem jgso_cons (h1 : JGO X e g) (h2 : JGsO X es h) (hs : (assignEach (e :: es) X.env).map (·.2) = assign e X.env :: (assignEach es X.env).map (·.2) := by rfl) : JGsO X (e :: es) (gosCons g h) := ⟨pgs_weak (pgs_cons h1.run h2.run hs) fun v σ H Q ⟨Z, F, ds, w, d, ds', w', rr, hd, hg, k⟩ => by
  unfold gosCons at hg
  split at hg
  · obtain ⟨⟨ds1, w1⟩, g1, g2⟩ := bind2 hg
    unfold Dens at hd
    obtain ⟨u, r, rfl, d1, d2⟩ := hd
    exact ⟨u, r, rfl, Z, F, ds, w, _, _, _, rr, d1, g1, fun σ1 F1 H1 s1 r1 => ⟨Z, F1, ds1, w1, _, _, _, r1, d2.mono s1, g2, fun σ2 F2 H2 s2 r2 => k σ2 F2 H2 (s1.trans s2) r2⟩⟩
  · cases hg⟩
theorem jgo_tup {kk n : Nat} (hc : X.calm = true) (h1 : JGsO X es h) (hn : (assignEach es X.env).length = n := by rfl) (hst : (assignEach es X.env).findIdx? (·.1) = none := by rfl) : JGO X (.Tuple es kk pos) (goT n h) := ⟨pg_weak (pg_tup hc h1.run hn hst) fun v σ H Q ⟨Z, F, ds, w, d, ds', w', rr, hd, hg, k⟩ => by
  unfold goT at hg
  split at hg
  · split at hg
    · rename_i hl
      unfold Den at hd
      obtain ⟨a, vs, rfl, h1, h2⟩ := hd
      exact ⟨a, vs, rfl, same_t h1 rr.ex, by rw [h2.len]; exact hl, Z, F, ds, w, _, _, _, rr, h2, hg, k⟩
    · cases hg
  · cases hg⟩
def sAsg (f : Ev) (g : EgO) : Es := fun ds w => (f ds w).bind fun d => (g ds d.2 d.1).bind fun r => some (.nx r.1 r.2)
theorem js_asg (he : JE X e fe) (hg : JGO X tg g) (hs : swapsWithSole [tg] e pos.line X.env = pure false := by rfl) (hw : swappedStores [tg] e X.env = pure none := by rfl) (h1 : (assignEach [tg] X.env).map (·.2) = [assign tg X.env] := by rfl) : JS X (.Assign [tg] e pos) (sAsg fe g) := ⟨ps_weak (ps_asg he.run hg.run hs hw h1) fun D σ H ⟨Z, F, ds, w, o, rr, hf, k⟩ => by
  obtain ⟨d, hd, hf⟩ := bind2 hf
  obtain ⟨r, hr, hf⟩ := bind2 hf
  cases hf
  exact ⟨Z, F, ds, w, _, _, rr, hd, fun v F1 H1 s1 d1 hv => ⟨Z, F1, ds, _, _, _, _, rr.step s1 d1, hv, hr, fun σ2 F2 H2 s2 r2 => k σ2 F2 H2 (s1.f.trans s2) r2⟩⟩⟩
/-! ### several values to names at once: values, new lists -/
abbrev Ep := List Sl → Wd → Option (List Sl × Wd)
/-- the state with more slots behind -/
theorem R.front {τ : L2.St} {ts : List Sl} (r : R K Z F H (σ ++ τ) (ds ++ ts) w) (hl : σ.length = ds.length) : R K Z F H σ ds w := by
  refine ⟨r.ex, r.fp, r.dr, r.pm, r.hm, r.m0, r.keep, r.nw, r.f0, hl, ?_⟩
  obtain ⟨α, inj, hα⟩ := r.env
  have up : ∀ {i : Nat} {s : Sl}, ds[i]? = some s → (ds ++ ts)[i]? = some s := fun {i s} h => by
    rw [List.getElem?_append_left (List.getElem?_eq_some_iff.mp h).1]
    exact h
  refine ⟨α, fun i j ⟨s, h1, h2⟩ ⟨t, h3, h4⟩ => inj i j ⟨s, up h1, h2⟩ ⟨t, up h3, h4⟩, fun i s h => ?_⟩
  have hi := (List.getElem?_eq_some_iff.mp h).1
  have z := hα i s (up h)
  have e : (σ ++ τ)[i]? = σ[i]? := List.getElem?_append_left (by rw [hl]; exact hi)
  cases s with
  | no => trivial
  | d x => exact ⟨z.choose, by rw [← e]; exact z.choose_spec.1, z.choose_spec.2⟩
  | own xs => exact ⟨by rw [← e]; exact z.1, z.2⟩
  | mu k xs => exact ⟨by rw [← e]; exact z.1, z.2⟩
theorem R.none1 (r : R K Z F H σ ds w) : R K Z F H (σ ++ [none]) (ds ++ [.no]) w := by
  refine ⟨r.ex, r.fp, r.dr, r.pm, r.hm, r.m0, r.keep, r.nw, r.f0, by rw [List.length_append, List.length_append, r.len]; rfl, ?_⟩
  obtain ⟨α, inj, hα⟩ := r.env
  have back : ∀ {i : Nat} {s : Sl}, (ds ++ [.no])[i]? = some s → s ≠ .no → ds[i]? = some s := fun {i s} h hn => by
    by_cases hi : i < ds.length
    · rw [List.getElem?_append_left hi] at h
      exact h
    · rw [List.getElem?_append_right (by omega)] at h
      cases hk : i - ds.length with
      | zero =>
        rw [hk] at h
        cases h
        exact absurd rfl hn
      | succ n =>
        rw [hk] at h
        cases h
  refine ⟨α, fun i j ⟨s, h1, h2⟩ ⟨t, h3, h4⟩ => inj i j ⟨s, back h1 (by rintro rfl; cases h2), h2⟩ ⟨t, back h3 (by rintro rfl; cases h4), h4⟩, fun i s h => ?_⟩
  by_cases hs : s = .no
  · subst hs
    trivial
  · have h0 := back h hs
    have hi := (List.getElem?_eq_some_iff.mp h0).1
    have z := hα i s h0
    have e : (σ ++ [none])[i]? = σ[i]? := List.getElem?_append_left (by rw [r.len]; exact hi)
    cases s with
    | no => trivial
    | d x => exact ⟨z.choose, by rw [e]; exact z.choose_spec.1, z.choose_spec.2⟩
    | own xs => exact ⟨by rw [e]; exact z.1, z.2⟩
    | mu k xs => exact ⟨by rw [e]; exact z.1, z.2⟩
theorem set_last {α : Type} (l : List α) (a b : α) : (l ++ [a]).set l.length b = l ++ [b] := by
  rw [List.set_append_right _ _ (Nat.le_refl _), Nat.sub_self]
  rfl
end
end J
namespace J
open PySem PyProof.Rows L2
section
variable {X : Cx} {K : PySem.W.Frag} {Z : Cfg} {F H : Hp} {σ σ' : L2.St} {ds ds' : List Sl} {w : Wd}
theorem R.remap (r : R K Z F H σ ds w) (φ : Nat → Nat) (hl : σ'.length = ds'.length) (h : ∀ i s, ds'[i]? = some s → s = .no ∨ (ds[φ i]? = some s ∧ σ'[i]? = σ[φ i]?)) (inj : ∀ i j, i < ds'.length → j < ds'.length → φ i = φ j → i = j) : R K Z F H σ' ds' w := by
  refine ⟨r.ex, r.fp, r.dr, r.pm, r.hm, r.m0, r.keep, r.nw, r.f0, hl, ?_⟩
  obtain ⟨α, injα, hα⟩ := r.env
  have ow : ∀ i, isOwn ds' i → isOwn ds (φ i) ∧ i < ds'.length := fun i ⟨s, h1, h2⟩ => by
    refine ⟨?_, (List.getElem?_eq_some_iff.mp h1).1⟩
    rcases h i s h1 with rfl | ⟨h3, _⟩
    · cases h2
    · exact ⟨s, h3, h2⟩
  refine ⟨fun i => α (φ i), fun i j hi hj e => inj i j (ow i hi).2 (ow j hj).2 (injα _ _ (ow i hi).1 (ow j hj).1 e), fun i s hs => ?_⟩
  rcases h i s hs with rfl | ⟨h3, h4⟩
  · trivial
  · have z := hα (φ i) s h3
    cases s with
    | no => trivial
    | d x => exact ⟨z.choose, by rw [h4]; exact z.choose_spec.1, z.choose_spec.2⟩
    | own xs => exact ⟨by rw [h4]; exact z.1, z.2⟩
    | mu k xs => exact ⟨by rw [h4]; exact z.1, z.2⟩
/-! ### values at once -/
def canP (K : PySem.W.Frag) (f : Ep) : TA := fun σ H Q => ∃ Z F ds τ ts0 w ts w', σ.length = ds.length ∧ R K Z F H (σ ++ τ) (ds ++ ts0) w ∧ f ds w = some (ts, w') ∧ ∀ vs F' H', Same F F' → vs.length = ts.length → R K Z F' H' (σ ++ (τ ++ vs.map some)) (ds ++ (ts0 ++ ts)) w' → Q vs H'
structure JP (X : Cx) (es : List Expr) (f : Ep) : Prop where run : PA X es (canP X.K f)
def pNil : Ep := fun _ w => some ([], w)
def pD (f : Ev) (g : Ep) : Ep := fun ds w => (f ds w).bind fun d => (g ds d.2).bind fun r => some (.d d.1 :: r.1, r.2)
def pO (f : Ef) (g : Ep) : Ep := fun ds w => (f ds w).bind fun d => (g ds d.2).bind fun r => some (.own d.1 :: r.1, r.2)
variable {e : Expr} {es : List Expr} {f : Ev} {fl : Ef} {g : Ep} {pos : Pos}
theorem jp_nil : JP X [] pNil := ⟨pa_weak pa_nil fun σ H Q ⟨Z, F, ds, τ, ts0, w, ts, w', hl, rr, hf, k⟩ => by
  cases hf
  exact k [] F H (Same.refl _) rfl (by rw [List.map_nil, List.append_nil, List.append_nil]; exact rr)⟩
theorem R.push (r : R K Z F H σ ds w) {d : D} {v : V} (hd : Den K Z.p F d v) : R K Z F H (σ ++ [some v]) (ds ++ [.d d]) w := by
  have z := (r.none1).set (i := σ.length) hd
  rw [set_last, r.len, set_last] at z
  exact z
theorem jp_d (h : JE X e f) (hr : JP X es g) (hs : starEach (e :: es) X.env = (false, eval e X.env) :: starEach es X.env := by rfl) : JP X (e :: es) (pD f g) := ⟨pa_weak (pa_cons h.run hr.run hs) fun σ H Q ⟨Z, F, ds, τ, ts0, w, ts, w', hl, rr, hf, k⟩ => by
  obtain ⟨d, hd, hf⟩ := bind2 hf
  obtain ⟨r, hr, hf⟩ := bind2 hf
  cases hf
  refine ⟨Z, F, ds, w, _, _, rr.front hl, hd, fun v F1 H1 s1 d1 hv => ⟨Z, F1, ds, τ ++ [some v], ts0 ++ [.d d.1], _, _, _, hl, ?_, hr, fun vs F2 H2 s2 hlen r2 => k (v :: vs) F2 H2 (s1.f.trans s2) (by rw [List.length_cons, List.length_cons, hlen]) ?_⟩⟩
  · have z := (rr.step s1 d1).push hv
    rw [List.append_assoc, List.append_assoc] at z
    exact z
  · rw [List.append_assoc τ, List.append_assoc ts0] at r2
    exact r2⟩
theorem jp_o (h : JF X e fl) (hr : JP X es g) (hs : starEach (e :: es) X.env = (false, eval e X.env) :: starEach es X.env := by rfl) : JP X (e :: es) (pO fl g) := ⟨pa_weak (pa_cons h.run hr.run hs) fun σ H Q ⟨Z, F, ds, τ, ts0, w, ts, w', hl, rr, hf, k⟩ => by
  obtain ⟨d, hd, hf⟩ := bind2 hf
  obtain ⟨r, hr, hf⟩ := bind2 hf
  cases hf
  refine ⟨Z, F, ds, w, _, _, rr.front hl, hd, fun q us F1 H1 s1 d1 h1 h2 h3 h4 h5 => ⟨Z, F1, ds, τ ++ [some (.ref q)], ts0 ++ [.own d.1], _, _, _, hl, ?_, hr, fun vs F2 H2 s2 hlen r2 => k (.ref q :: vs) F2 H2 (s1.f.trans s2) (by rw [List.length_cons, List.length_cons, hlen]) ?_⟩⟩
  · have z := R.fresh (σ ++ τ).length (rr.none1) s1 d1 h1 h2 h3 h4 h5
    rw [set_last, rr.len, set_last, List.append_assoc, List.append_assoc] at z
    exact z
  · rw [List.append_assoc τ, List.append_assoc ts0] at r2
    exact r2⟩
def sPar2 (i j : Nat) (f : Ep) : Es := fun ds w => (f ds w).bind fun r => match r.1 with | [a, b] => some (.nx ((ds.set i a).set j b) r.2) | _ => none
theorem R.par2 {a b : Sl} {v u : V} {i j : Nat} (hij : i ≠ j) (hl : σ.length = ds.length) (r : R K Z F H (σ ++ [some v, some u]) (ds ++ [a, b]) w) : R K Z F H ((σ.set i (some v)).set j (some u)) ((ds.set i a).set j b) w := by
  refine r.remap (fun k => if k = j then ds.length + 1 else if k = i then ds.length else k) (by simp [hl]) (fun k s hk => .inr ?_) (fun k l hk hl' e => ?_)
  · have hkl : k < ds.length := by
      have := (List.getElem?_eq_some_iff.mp hk).1
      simpa using this
    try dsimp only
    by_cases h1 : k = j
    · subst h1
      rw [if_pos rfl]
      rw [List.getElem?_set_self (by simpa using hkl)] at hk
      cases hk
      rw [List.getElem?_set_self (by simp [hl]; exact hkl)]
      refine ⟨?_, ?_⟩
      · rw [List.getElem?_append_right (by omega)]
        have : ds.length + 1 - ds.length = 1 := by omega
        rw [this]
        rfl
      · rw [List.getElem?_append_right (by omega)]
        have : ds.length + 1 - σ.length = 1 := by omega
        rw [this]
        rfl
    · rw [if_neg h1]
      rw [List.getElem?_set_ne (Ne.symm h1)] at hk
      rw [List.getElem?_set_ne (Ne.symm h1)]
      by_cases h2 : k = i
      · subst h2
        rw [if_pos rfl]
        rw [List.getElem?_set_self hkl] at hk
        cases hk
        rw [List.getElem?_set_self (by rw [hl]; exact hkl)]
        refine ⟨?_, ?_⟩
        · rw [List.getElem?_append_right (by omega), Nat.sub_self]
          rfl
        · rw [List.getElem?_append_right (by omega)]
          have : ds.length - σ.length = 0 := by omega
          rw [this]
          rfl
      · rw [if_neg h2]
        rw [List.getElem?_set_ne (Ne.symm h2)] at hk
        rw [List.getElem?_set_ne (Ne.symm h2)]
        exact ⟨by rw [List.getElem?_append_left hkl]; exact hk, by rw [List.getElem?_append_left (by rw [hl]; exact hkl)]⟩
  · try dsimp only at e
    have hk' : k < ds.length := by simpa using hk
    have hl'' : l < ds.length := by simpa using hl'
    split at e <;> split at e <;> first | omega | (split at e <;> first | omega | (split at e <;> omega))
theorem js_par2 (i j : Nat) {x y : Str} {a b : Expr} {px py pt : Pos} {kt k2 : Nat} {pt2 : Pos} (hc : X.calm = true) (hN : X.N.Nodup) (ha : JP X [a, b] g) (hi : X.N[i]? = some x := by rfl) (hj : X.N[j]? = some y := by rfl) (hij : i ≠ j := by decide)
    (hx : X.env.scope.names.lookup x = some .local := by rfl) (hy : X.env.scope.names.lookup y = some .local := by rfl)
    (hw : swappedStores [.Tuple [.Name x px, .Name y py] kt pt] (.Tuple [a, b] k2 pt2) X.env = pure (some [x, y]) := by rfl)
    (hs : swapsWithSole [.Tuple [.Name x px, .Name y py] kt pt] (.Tuple [a, b] k2 pt2) pos.line X.env = pure false := by rfl) :
    JS X (.Assign [.Tuple [.Name x px, .Name y py] kt pt] (.Tuple [a, b] k2 pt2) pos) (sPar2 i j g) := ⟨ps_weak (ps_par hc hN hi hj hij hx hy ha.run hw hs) fun D σ H ⟨Z, F, ds, w, o, rr, hf, k⟩ => by
  obtain ⟨⟨ts, w1⟩, h1, hf⟩ := bind2 hf
  dsimp only at hf
  split at hf
  · cases hf
    refine ⟨Z, F, ds, [], [], w, _, _, rr.len, by rw [List.append_nil, List.append_nil]; exact rr, h1, fun vs F1 H1 s1 hlen r1 => ?_⟩
    match vs, hlen with
    | [v, u], _ => exact ⟨v, u, rfl, k _ F1 H1 s1 (R.par2 hij rr.len r1)⟩
  · cases hf⟩
def sPar3 (i j l : Nat) (f : Ep) : Es := fun ds w => (f ds w).bind fun r => match r.1 with | [a, b, c] => some (.nx (((ds.set i a).set j b).set l c) r.2) | _ => none
theorem R.par3 {a b c : Sl} {v u t : V} {i j m : Nat} (hij : i ≠ j) (him : i ≠ m) (hjm : j ≠ m) (hl : σ.length = ds.length) (r : R K Z F H (σ ++ [some v, some u, some t]) (ds ++ [a, b, c]) w) : R K Z F H (((σ.set i (some v)).set j (some u)).set m (some t)) (((ds.set i a).set j b).set m c) w := by
  refine r.remap (fun k => if k = m then ds.length + 2 else if k = j then ds.length + 1 else if k = i then ds.length else k) (by simp [hl]) (fun k s hk => .inr ?_) (fun k l hk hl' e => ?_)
  · have hkl : k < ds.length := by
      have := (List.getElem?_eq_some_iff.mp hk).1
      simpa using this
    try dsimp only
    by_cases h0 : k = m
    · subst h0
      rw [if_pos rfl]
      rw [List.getElem?_set_self (by simpa using hkl)] at hk
      cases hk
      rw [List.getElem?_set_self (by simp [hl]; exact hkl)]
      refine ⟨?_, ?_⟩
      · rw [List.getElem?_append_right (by omega)]
        have : ds.length + 2 - ds.length = 2 := by omega
        rw [this]
        rfl
      · rw [List.getElem?_append_right (by omega)]
        have : ds.length + 2 - σ.length = 2 := by omega
        rw [this]
        rfl
    rw [if_neg h0]
    rw [List.getElem?_set_ne (Ne.symm h0)] at hk
    rw [List.getElem?_set_ne (Ne.symm h0)]
    by_cases h1 : k = j
    · subst h1
      rw [if_pos rfl]
      rw [List.getElem?_set_self (by simpa using hkl)] at hk
      cases hk
      rw [List.getElem?_set_self (by simp [hl]; exact hkl)]
      refine ⟨?_, ?_⟩
      · rw [List.getElem?_append_right (by omega)]
        have : ds.length + 1 - ds.length = 1 := by omega
        rw [this]
        rfl
      · rw [List.getElem?_append_right (by omega)]
        have : ds.length + 1 - σ.length = 1 := by omega
        rw [this]
        rfl
    · rw [if_neg h1]
      rw [List.getElem?_set_ne (Ne.symm h1)] at hk
      rw [List.getElem?_set_ne (Ne.symm h1)]
      by_cases h2 : k = i
      · subst h2
        rw [if_pos rfl]
        rw [List.getElem?_set_self hkl] at hk
        cases hk
        rw [List.getElem?_set_self (by rw [hl]; exact hkl)]
        refine ⟨?_, ?_⟩
        · rw [List.getElem?_append_right (by omega), Nat.sub_self]
          rfl
        · rw [List.getElem?_append_right (by omega)]
          have : ds.length - σ.length = 0 := by omega
          rw [this]
          rfl
      · rw [if_neg h2]
        rw [List.getElem?_set_ne (Ne.symm h2)] at hk
        rw [List.getElem?_set_ne (Ne.symm h2)]
        exact ⟨by rw [List.getElem?_append_left hkl]; exact hk, by rw [List.getElem?_append_left (by rw [hl]; exact hkl)]⟩
  · try dsimp only at e
    have hk' : k < ds.length := by simpa using hk
    have hl'' : l < ds.length := by simpa using hl'
    repeat' split at e
    all_goals omega
theorem js_par3 (i j l : Nat) {x y z : Str} {a b c : Expr} {px py pz pt : Pos} {kt k2 : Nat} {pt2 : Pos} (hc : X.calm = true) (hN : X.N.Nodup) (ha : JP X [a, b, c] g) (hi : X.N[i]? = some x := by rfl) (hj : X.N[j]? = some y := by rfl) (hl : X.N[l]? = some z := by rfl) (hij : i ≠ j := by decide) (hil : i ≠ l := by decide) (hjl : j ≠ l := by decide)
    (hx : X.env.scope.names.lookup x = some .local := by rfl) (hy : X.env.scope.names.lookup y = some .local := by rfl) (hz : X.env.scope.names.lookup z = some .local := by rfl)
    (hw : swappedStores [.Tuple [.Name x px, .Name y py, .Name z pz] kt pt] (.Tuple [a, b, c] k2 pt2) X.env = pure (some [x, y, z]) := by rfl)
    (hs : swapsWithSole [.Tuple [.Name x px, .Name y py, .Name z pz] kt pt] (.Tuple [a, b, c] k2 pt2) pos.line X.env = pure false := by rfl) :
    JS X (.Assign [.Tuple [.Name x px, .Name y py, .Name z pz] kt pt] (.Tuple [a, b, c] k2 pt2) pos) (sPar3 i j l g) := ⟨ps_weak (ps_par3 hc hN hi hj hl hij hil hjl hx hy hz ha.run hw hs) fun D σ H ⟨Z, F, ds, w, o, rr, hf, k⟩ => by
  obtain ⟨⟨ts, w1⟩, h1, hf⟩ := bind2 hf
  dsimp only at hf
  split at hf
  · cases hf
    refine ⟨Z, F, ds, [], [], w, _, _, rr.len, by rw [List.append_nil, List.append_nil]; exact rr, h1, fun vs F1 H1 s1 hlen r1 => ?_⟩
    match vs, hlen with
    | [v, u, t], _ => exact ⟨v, u, t, rfl, k _ F1 H1 s1 (R.par3 hij hil hjl rr.len r1)⟩
  · cases hf⟩
/-! ### name op= e -/
def addI : D → D → Option D
  | .int i, .int j => some (.int (i + j))
  | .str s, .str t => if s.length + t.length ≤ line then some (.str (s ++ t)) else none
  | _, _ => none
theorem s_addI : OpS K (fun x y H Q => rI0 (fun i j => .int (i + j)) x y H Q ∨ ∃ i j, x = .str i ∧ y = .str j ∧ i.length + j.length ≤ sizeLine ∧ Q (.str (i ++ j)) H) addI := fun Z F H σ ds w a b d x y Q r hx hy hg k => by
  cases a <;> cases b <;> first | cases hg | skip
  · exact .inl ⟨_, _, hx.int, hy.int, k _ F H r.stp r.dr den_int⟩
  · unfold addI at hg
    dsimp only at hg
    split at hg
    · rename_i h
      cases hg
      exact .inr ⟨_, _, hx.str, hy.str, sz_of h, k _ F H r.stp r.dr den_str⟩
    · cases hg
def sAug (i : Nat) (g : D → D → Option D) (f : Ev) : Es := fun ds w => match ds[i]? with
  | some (.d x) => (f ds w).bind fun d => (g x d.1).bind fun z => some (.nx (ds.set i (.d z)) d.2)
  | _ => none
theorem js_augO (i : Nat) {x : Str} {op : Operator} {r : R2} {gg : D → D → Option D} {pos' : Pos} (ho : OpR X (inplaceOp op) r) (hs : OpS X.K r gg) (hN : X.N.Nodup) (he : JB X e f) (hi : X.N[i]? = some x) (hx : Loc X.env.scope x) (hf : X.fn x = true ∨ X.env.scope.names.lookup x = some .local) :
    JS X (.AugAssign (.Name x pos') op e pos) (sAug i gg f) := ⟨ps_weak (ps_aug hN hi hx he.run ho hf) fun D σ H ⟨Z, F, ds, w, o, rr, hf, k⟩ => by
  unfold sAug at hf
  split at hf
  · rename_i x0 hx0
    obtain ⟨d, hd, hf⟩ := bind2 hf
    obtain ⟨z, hz, hf⟩ := bind2 hf
    cases hf
    obtain ⟨α, _, hα⟩ := rr.env
    obtain ⟨u, h1, h2⟩ := hα i _ hx0
    refine ⟨u, h1, Z, F, ds, w, _, _, rr, hd, fun v F1 H1 s1 d1 hv => ?_⟩
    have r1 := rr.step s1 d1
    exact hs Z F1 H1 σ ds _ _ _ _ u v _ r1 (.inl (Den.mono s1.f _ _ h2)) hv hz fun t F2 H2 s2 d2 ht => k _ F2 H2 (s1.f.trans s2.f) ((r1.step s2 d2).set ht)
  · cases hf⟩
theorem js_augAdd (i : Nat) {x : Str} {pos' : Pos} (hN : X.N.Nodup) (he : JB X e f) (hi : X.N[i]? = some x := by rfl) (hx : Loc X.env.scope x := by first | exact Or.inl rfl | exact Or.inr rfl) (hf : X.fn x = true ∨ X.env.scope.names.lookup x = some .local := by first | exact .inl rfl | exact .inr rfl | assumption) : JS X (.AugAssign (.Name x pos') .Add e pos) (sAug i addI f) := js_augO i (OpR.or iop_add iop_add_str) s_addI hN he hi hx hf
theorem js_augSub (i : Nat) {x : Str} {pos' : Pos} (hN : X.N.Nodup) (he : JB X e f) (hi : X.N[i]? = some x := by rfl) (hx : Loc X.env.scope x := by first | exact Or.inl rfl | exact Or.inr rfl) (hf : X.fn x = true ∨ X.env.scope.names.lookup x = some .local := by first | exact .inl rfl | exact .inr rfl | assumption) : JS X (.AugAssign (.Name x pos') .Sub e pos) (sAug i subD f) := js_augO i iop_sub (s_I0 _) hN he hi hx hf
theorem js_augMul (i : Nat) {x : Str} {pos' : Pos} (hN : X.N.Nodup) (he : JB X e f) (hi : X.N[i]? = some x := by rfl) (hx : Loc X.env.scope x := by first | exact Or.inl rfl | exact Or.inr rfl) (hf : X.fn x = true ∨ X.env.scope.names.lookup x = some .local := by first | exact .inl rfl | exact .inr rfl | assumption) : JS X (.AugAssign (.Name x pos') .Mult e pos) (sAug i mulD0 f) := js_augO i iop_mul (s_I okMul _ fun a b h => by
  unfold okMul at h
  rcases Bool.or_eq_true_iff.mp h with h | h
  · exact .inl (of_decide_eq_true h)
  · exact .inr (of_decide_eq_true h)) hN he hi hx hf
def okDivS (_ j : Int) : Bool := decide (0 < j ∧ j < 1073741824)
def divDS := g2I okDivS (fun i j => i / j)
theorem js_augDiv (i : Nat) {x : Str} {pos' : Pos} (hN : X.N.Nodup) (he : JB X e f) (hi : X.N[i]? = some x := by rfl) (hx : Loc X.env.scope x := by first | exact Or.inl rfl | exact Or.inr rfl) (hf : X.fn x = true ∨ X.env.scope.names.lookup x = some .local := by first | exact .inl rfl | exact .inr rfl | assumption) : JS X (.AugAssign (.Name x pos') .FloorDiv e pos) (sAug i divDS f) := js_augO i iop_fdiv (s_I okDivS _ fun a b h => by unfold okDivS at h; exact (of_decide_eq_true h : 0 < b ∧ b < 1073741824)) hN he hi hx hf
/-! ### the drawn list -/
def eDrIx (f g : Ev) : Ev := fun ds w => (f ds w).bind fun a => (g ds a.2).bind fun b => match a.1, b.1 with
  | .draw, .int 0 => some (.lst (b.2.ns.map D.int), b.2)
  | .draw, .int 1 => some (.int 0, b.2)
  | .draw, .int 2 => some (.int b.2.c, b.2)
  | _, _ => none
variable {a b : Expr} {fa fb : Ev}
theorem je_drix (ha : JE X a fa) (hb : JE X b fb) (hs : PlainIx b := by exact fun _ _ => rfl) : JE X (.Subscript a b pos) (eDrIx fa fb) := ⟨pe_weak (pe_ix ix_list ha.run hb.run hs) fun σ H Q ⟨Z, F, ds, w, d, w', rr, hf, k⟩ => by
  obtain ⟨⟨x, w1⟩, hx, hf⟩ := bind2 hf
  obtain ⟨⟨y, w2⟩, hy, hf⟩ := bind2 hf
  refine ⟨Z, F, ds, w, _, _, rr, hx, fun v F1 H1 s1 d1 hv => ⟨Z, F1, ds, _, _, _, rr.step s1 d1, hy, fun u F2 H2 s2 d2 hu => ?_⟩⟩
  have s12 := s1.trans s2
  obtain ⟨q, h1, h2⟩ := id d2
  dsimp only at hf
  split at hf
  · cases hf
    unfold Den at hv hu
    exact ⟨_, _, 0, _, hv, hu, .of h1, rfl, k _ F2 H2 s12 d2 (den_lst h2 (Dens.ints _))⟩
  · cases hf
    unfold Den at hv hu
    exact ⟨_, _, 1, _, hv, hu, .of h1, rfl, k _ F2 H2 s12 d2 den_int⟩
  · cases hf
    unfold Den at hv hu
    exact ⟨_, _, 2, _, hv, hu, .of h1, rfl, k _ F2 H2 s12 d2 den_int⟩
  · cases hf⟩
theorem R.count (r : R K Z F H σ ds w) (c : Int) {q : Addr} (h : H Z.p = some (.lst [.ref q, .int 0, .int w.c])) (hq : F q = some (.lst (w.ns.map V.int))) : R K Z F (upd H Z.p (.lst [.ref q, .int 0, .int c])) σ ds ⟨w.ns, c⟩ := by
  refine ⟨fun b o z => ?_, r.fp, ⟨q, upd_same, hq⟩, r.pm, fun b hb => ⟨?_, (r.hm b hb).2⟩, r.m0, fun b o hb hm z => ?_, r.nw, r.f0, r.len, ?_⟩
  · rw [upd_ne (ne_of_none z r.fp)]
    exact r.ex b o z
  · obtain ⟨o, ho⟩ := (r.hm b hb).1
    exact ⟨o, by rw [upd_ne (fun z : b = Z.p => r.pm (z ▸ hb))]; exact ho⟩
  · rw [upd_ne hb]
    exact r.keep b o hb hm z
  · obtain ⟨α, inj, hα⟩ := r.env
    refine ⟨α, inj, fun i s hs => ?_⟩
    have z := hα i s hs
    cases s with
    | no => trivial
    | d x => exact z
    | own xs =>
      obtain ⟨h1, ⟨us, h2, h3, h4, h5⟩, h6⟩ := z
      exact ⟨h1, ⟨us, by rw [upd_ne h4]; exact h2, h3, h4, h5⟩, h6⟩
    | mu k xs =>
      obtain ⟨h1, ⟨us, h2, h3, h4, h5⟩, h6⟩ := z
      exact ⟨h1, ⟨us, by rw [upd_ne h4]; exact h2, h3, h4, h5⟩, h6⟩
/-- draw[2] = e -/
def goDr (fa fb : Ev) : EgO := fun ds w d => (fa ds w).bind fun a => (fb ds a.2).bind fun b => match a.1, b.1, d with
  | .draw, .int 2, .int c => some (ds, ⟨b.2.ns, c⟩)
  | _, _, _ => none
theorem jgo_dr (h1 : JE X a fa) (h2 : JE X b fb)
    (ha : ∀ v, assign (.Subscript a b pos) X.env v = (do
      let ov ← holding [v] (eval a X.env)
      let iv ← holding [v, ov] (eval b X.env)
      standAt pos
      holding [v, ov, iv] (setItem ov iv v)
      release [v, ov, iv] []) := by intro _; rfl) : JGO X (.Subscript a b pos) (goDr fa fb) := ⟨pg_weak (pg_sub h1.run h2.run set_list ha) fun v σ H Q ⟨Z, F, ds, w, d, ds', w', rr, hden, hg, k⟩ => by
  obtain ⟨⟨x, w1⟩, hx, hg⟩ := bind2 hg
  obtain ⟨⟨y, w2⟩, hy, hg⟩ := bind2 hg
  refine ⟨Z, F, ds, w, _, _, rr, hx, fun o F1 H1 s1 d1 ho => ⟨Z, F1, ds, _, _, _, rr.step s1 d1, hy, fun i F2 H2 s2 d2 hi => ?_⟩⟩
  dsimp only at hg
  split at hg
  · cases hg
    unfold Den at ho hi hden
    subst hden
    obtain ⟨q, q1, q2⟩ := id d2
    exact ⟨_, _, 2, 2, ho, hi, q1, rfl, k σ F2 _ (s1.f.trans s2.f) ((rr.step (s1.trans s2) d2).count _ q1 q2)⟩
  · cases hg⟩
end
end J
namespace J
open PySem PyProof.Rows L2
/-! ### defs -/
abbrev Fn := List D → Wd → Option (D × Wd)
def spJ (K : PySem.W.Frag) (n : Nat) (G : Fn) : Sp := fun vs H Q _ => vs.length = n ∧ ∃ Z F ds w d w', R K Z F H [] [] w ∧ Dens K Z.p F ds vs ∧ G ds w = some (d, w') ∧ KD K Z.p F H w' d Q
structure CalJ (P : Program) (w : World) (K : PySem.W.Frag) (mg : Str → Option Value) (base : Heap) (k : Nat) (x : Str) (n : Nat) (G : Fn) : Prop where
  ex : ∃ (f : Addr) (fd : FuncData) (ps : List Str), FnOk P w K mg base CX0 k f fd ps (spJ K n G) ∧ mg x = some (.ref f) ∧ PySem.W.keepIn K (.ref f) = true ∧ Binds K fd ps []
section
variable {K : PySem.W.Frag} {Z : Cfg} {F H : Hp} {σ : L2.St} {ds : List Sl} {w : Wd}
theorem R.nil (r : R K Z F H σ ds w) : R K Z F H [] [] w := ⟨r.ex, r.fp, r.dr, r.pm, r.hm, r.m0, r.keep, r.nw, r.f0, rfl, fun _ => 0, fun i j ⟨s, h, _⟩ => (by cases h), fun i s h => (by cases h)⟩
def eCall (n : Nat) (G : Fn) (fs : Ef) : Ev := fun ds w => (fs ds w).bind fun a => if a.1.length = n then G a.1 a.2 else none
variable {X : Cx} {x : Str} {e : Expr} {es : List Expr} {fs : Ef} {p pos : Pos} {k j n : Nat} {G : Fn}
theorem je_call (c : CalJ X.prog X.w X.K X.mg X.base k x n G) (hr : Room j X.A) (hk : k ≤ j) (hg : Gl X x) (ha : JA X (e :: es) fs) (hdb : (x == ("__debug__" : Str)) = false := by decide) (he : starEach (e :: es) X.env = (false, eval e X.env) :: starEach es X.env := by rfl) (hpl : (backTo pos (starEach es X.env)).any (·.1) = false := by rfl) :
    JE X (.Call (.Name x p) (e :: es) [] pos) (eCall n G fs) := ⟨by
  obtain ⟨f, fd, ps, F, hm, kp, b⟩ := c.ex
  refine pe_weak (pe_call F (hr.mono hk) hg hm kp b .nil pass0 ha.run hdb he hpl) fun σ H Q ⟨Z, F, ds, w, d, w', rr, hf, k⟩ => ?_
  obtain ⟨a, ha, hf⟩ := bind2 hf
  split at hf
  · rename_i hl
    refine ⟨Z, F, ds, w, _, _, rr, ha, fun vs F1 H1 s1 d1 hv => ?_⟩
    show spJ X.K n G (vs ++ []) H1 Q E0
    rw [List.append_nil]
    exact ⟨by rw [hv.len]; exact hl, Z, F1, _, _, d, w', (rr.step s1 d1).nil, hv, hf, k.go s1⟩
  · cases hf⟩
theorem je_call0 (c : CalJ X.prog X.w X.K X.mg X.base k x 0 G) (hr : Room j X.A) (hk : k ≤ j) (hg : Gl X x) (hdb : (x == ("__debug__" : Str)) = false := by decide) : JE X (.Call (.Name x p) [] [] pos) (eCall 0 G aNil) := ⟨by
  obtain ⟨f, fd, ps, F, hm, kp, b⟩ := c.ex
  refine pe_weak (pe_call0 F (hr.mono hk) hg hm kp b .nil pass0 hdb) fun σ H Q ⟨Z, F, ds, w, d, w', rr, hf, k⟩ => ?_
  obtain ⟨a, ha, hf⟩ := bind2 hf
  cases ha
  have hf2 : G [] w = some (d, w') := hf
  exact ⟨rfl, Z, F, _, _, d, w', rr.nil, dens_nil, hf2, k⟩⟩
/-- the slots at the entry -/
def startS (m : Nat) (ds : List D) : List Sl := ds.map Sl.d ++ List.replicate (m - ds.length) .no
def fin (o : Option Out) : Option (D × Wd) := match o with
  | some (.rt d w) => some (d, w)
  | some (.nx _ w) => some (.non, w)
  | _ => none
def callS (m : Nat) (g : Es) : Fn := fun ds w => fin (g (startS m ds) w)
theorem start_env {N : List Str} {ds : List D} {vs : List V} (h : Dens K Z.p F ds vs) (i : Nat) (s : Sl) (hs : (startS N.length ds)[i]? = some s) : s = .no ∨ ∃ d u, s = .d d ∧ (L2.start N vs)[i]? = some (some u) ∧ Den K Z.p F d u := by
  unfold startS at hs
  by_cases hi : i < ds.length
  · rw [List.getElem?_append_left (by rw [List.length_map]; exact hi), List.getElem?_map] at hs
    obtain ⟨d, h1, h2⟩ := Option.map_eq_some_iff.mp hs
    obtain ⟨u, h3, h4⟩ := h.get h1
    refine .inr ⟨d, u, h2.symm, ?_, h4⟩
    unfold L2.start
    rw [List.getElem?_append_left (by rw [List.length_map, h.len]; exact hi), List.getElem?_map, h3]
    rfl
  · rw [List.getElem?_append_right (by rw [List.length_map]; omega)] at hs
    rw [List.getElem?_replicate] at hs
    split at hs
    · cases hs
      exact .inl rfl
    · cases hs
theorem start_len {N : List Str} {ds : List D} {vs : List V} (h : vs.length = ds.length) : (L2.start N vs).length = (startS N.length ds).length := by
  unfold L2.start startS
  rw [List.length_append, List.length_append, List.length_map, List.length_map, List.length_replicate, List.length_replicate, h]
/-- the entry of a def that keeps nothing -/
theorem R.entry {N : List Str} {es : List D} {vs : List V} (r : R K Z F H σ ds w) (h : Dens K Z.p F es vs) : R K ⟨Z.p, [], F, H⟩ F H (L2.start N vs) (startS N.length es) w := by
  have no : ∀ i, ¬ isOwn (startS N.length es) i := fun i ⟨s, h1, h2⟩ => by
    rcases start_env h i s h1 with rfl | ⟨d, u, rfl, _⟩ <;> cases h2
  refine ⟨r.ex, r.fp, r.dr, List.not_mem_nil, fun b hb => (nomatch hb), fun b hb => (nomatch hb), fun b o _ _ z => z, fun b o z => .inl z, Same.refl _, start_len h.len, fun _ => 0, fun i j hi => absurd hi (no i), fun i s hs => ?_⟩
  rcases start_env h i s hs with rfl | ⟨d, u, rfl, h1, h2⟩
  · trivial
  · exact ⟨u, h1, h2⟩
theorem R.out {F' H' : Hp} {σ' : L2.St} {ds' : List Sl} {w' : Wd} {q : Addr} (r : R K ⟨q, [], F, H⟩ F' H' σ' ds' w') (e : Same F F') : Stp q F H F' H' :=
  ⟨e, fun b o hb z => r.keep b o hb List.not_mem_nil z, r.ex, r.nw, r.fp⟩
variable {P : Program} {wd : World} {mg : Str → Option Value} {base : Heap} {qual : Str} {st : Stmt} {f : Addr} {fd : FuncData} {N ps : List Str} {g : Es}
theorem fn_J (F : Fun K x qual st f fd) (S : FnScope N ps (defScope st))
    (hbody : ∀ (cdv : Value) (A : Around) (outer : List Env) (s : Shared) (H : Hp) (E : XK), Room k (A.deeper (envOfC qual (defScope st) s.heap.objs.size f cdv)) → JSs (cxOf CX0 P wd K mg base N qual (defScope st) f cdv A outer s H E).nox (defBody st) g) :
    FnOk P wd K mg base CX0 (k + 1) f fd ps (spJ K ps.length (callS N.length g)) := by
  refine F.ok S (fun vs H Q E h => h.1) (fun cdv A outer s H vs Q E hr h => ⟨_, (hbody cdv A outer s H E hr).run, ?_⟩)
  obtain ⟨_, Z, F, ds, w, d, w', rr, hv, hG, k⟩ := h
  unfold callS at hG
  refine ⟨⟨Z.p, [], F, H⟩, F, startS N.length ds, w, ?_⟩
  cases ho : g (startS N.length ds) w with
  | none =>
    rw [ho] at hG
    cases hG
  | some o =>
    rw [ho] at hG
    refine ⟨o, rr.entry hv, rfl, ?_⟩
    cases o with
    | nx ds2 w2 =>
      cases hG
      exact fun σ' F' H' e r' => k .non F' H' (r'.out e) r'.dr den_non
    | rt d2 w2 =>
      cases hG
      exact fun v σ' ds' F' H' e r' hv => k v F' H' (r'.out e) r'.dr hv
    | bk ds2 w2 => cases hG
    | ct ds2 w2 => cases hG
theorem cal_J (F : Fun K x x st f fd) (hm : mg x = some (.ref f)) (b : Binds K fd ps []) (S : FnScope N ps (defScope st))
    (hbody : ∀ (cdv : Value) (A : Around) (outer : List Env) (s : Shared) (H : Hp) (E : XK), Room k (A.deeper (envOfC x (defScope st) s.heap.objs.size f cdv)) → JSs (cxOf CX0 P wd K mg base N x (defScope st) f cdv A outer s H E).nox (defBody st) g) :
    CalJ P wd K mg base (k + 1) x ps.length (callS N.length g) := ⟨f, fd, ps, fn_J F S hbody, hm, F.kp, b⟩
/-! ### defs that change the list that is given first -/
abbrev Fm := List D → List D → Wd → Option (List D × Wd)
def spM (K : PySem.W.Frag) (n : Nat) (G : Fm) : Sp := fun vs H Q _ => vs.length = n ∧ ∃ Z F a us xs rest ds w ys w', vs = .ref a :: rest ∧ R K Z F H [] [] w ∧ H a = some (.lst us) ∧ F a = none ∧ a ≠ Z.p ∧ Dens K Z.p F xs us ∧ Dens K Z.p F ds rest ∧ G xs ds w = some (ys, w') ∧
  ∀ F' H' us', Same F F' → (∀ b o, b ≠ Z.p → b ≠ a → H b = some o → H' b = some o) → Same F' H' → (∀ b o, F' b = some o → F b = some o ∨ H b = none) → F' Z.p = none → Dr Z.p F' H' w' → H' a = some (.lst us') → F' a = none → Dens K Z.p F' ys us' → Q .non H'
structure CalM (P : Program) (w : World) (K : PySem.W.Frag) (mg : Str → Option Value) (base : Heap) (k : Nat) (x : Str) (n : Nat) (G : Fm) : Prop where
  ex : ∃ (f : Addr) (fd : FuncData) (ps : List Str), FnOk P w K mg base CX0 k f fd ps (spM K n G) ∧ mg x = some (.ref f) ∧ PySem.W.keepIn K (.ref f) = true ∧ Binds K fd ps []
def callM (m : Nat) (g : Es) : Fm := fun xs ds w => match g (.mu 0 xs :: startS (m - 1) ds) w with
  | some (.nx ds' w') => match (ds'[0]? : Option Sl) with | some (Sl.mu 0 ys) => some (ys, w') | _ => none
  | _ => none
theorem fn_M {y : Str} {N' : List Str} (F : Fun K x qual st f fd) (S : FnScope (y :: N') ps (defScope st))
    (hbody : ∀ (cdv : Value) (A : Around) (outer : List Env) (s : Shared) (H : Hp) (E : XK), Room k (A.deeper (envOfC qual (defScope st) s.heap.objs.size f cdv)) → JSs (cxOf CX0 P wd K mg base (y :: N') qual (defScope st) f cdv A outer s H E).nox (defBody st) g) :
    FnOk P wd K mg base CX0 (k + 1) f fd ps (spM K ps.length (callM (y :: N').length g)) := by
  refine F.ok S (fun vs H Q E h => h.1) (fun cdv A outer s H vs Q E hr h => ⟨_, (hbody cdv A outer s H E hr).run, ?_⟩)
  obtain ⟨_, Z, F, a, us, xs, rest, ds, w, ys, w', rfl, rr, ha, hfa, hap, hxs, hv, hG, k⟩ := h
  unfold callM at hG
  have es : L2.start (y :: N') (.ref a :: rest) = some (.ref a) :: L2.start N' rest := by
    unfold L2.start
    rw [List.length_cons, List.length_cons, Nat.add_sub_add_right]
    rfl
  have r0 : R K ⟨Z.p, [a], F, H⟩ F H (L2.start (y :: N') (.ref a :: rest)) (.mu 0 xs :: startS ((y :: N').length - 1) ds) w := by
    rw [es]
    have e1 : (y :: N').length - 1 = N'.length := rfl
    rw [e1]
    refine ⟨rr.ex, rr.fp, rr.dr, fun z => hap (List.mem_singleton.mp z).symm, fun b hb => ?_, fun b hb => ?_, fun b o _ _ z => z, fun b o z => .inl z, Same.refl _, ?_, fun _ => a, fun i j hi hj _ => ?_, fun i s hs => ?_⟩
    · rw [List.mem_singleton.mp hb]
      exact ⟨⟨_, ha⟩, hfa⟩
    · rw [List.mem_singleton.mp hb]
      exact ⟨_, ha⟩
    · rw [List.length_cons, List.length_cons, start_len hv.len]
    · have z : ∀ i, isOwn (Sl.mu 0 xs :: startS N'.length ds) i → i = 0 := fun i ⟨s, h1, h2⟩ => by
        cases i with
        | zero => rfl
        | succ i =>
          rcases start_env hv i s (by simpa using h1) with rfl | ⟨d, u, rfl, _⟩ <;> cases h2
      rw [z i hi, z j hj]
    · cases i with
      | zero =>
        cases hs
        exact ⟨rfl, ⟨us, ha, hfa, hap, hxs⟩, rfl⟩
      | succ i =>
        rcases start_env hv i s (by simpa using hs) with rfl | ⟨d, u, rfl, h1, h2⟩
        · trivial
        · exact ⟨u, by simpa using h1, h2⟩
  split at hG
  · rename_i ds2 w2 ho
    split at hG
    · rename_i ys2 h0
      cases hG
      refine ⟨⟨Z.p, [a], F, H⟩, F, _, w, _, r0, ho, fun σ' F' H' e r' => ?_⟩
      obtain ⟨α, _, hα⟩ := r'.env
      obtain ⟨_, ⟨us', q1, q2, q3, q4⟩, q5⟩ := hα 0 _ h0
      have e5 : α 0 = a := (Option.some.inj q5).symm
      rw [e5] at q1 q2
      exact k F' H' us' e (fun b o hb hba z => r'.keep b o hb (fun z => hba (List.mem_singleton.mp z)) z) r'.ex r'.nw r'.fp r'.dr q1 q2 q4
    · cases hG
  · cases hG
theorem cal_M {y : Str} {N' : List Str} (F : Fun K x x st f fd) (hm : mg x = some (.ref f)) (b : Binds K fd ps []) (S : FnScope (y :: N') ps (defScope st))
    (hbody : ∀ (cdv : Value) (A : Around) (outer : List Env) (s : Shared) (H : Hp) (E : XK), Room k (A.deeper (envOfC x (defScope st) s.heap.objs.size f cdv)) → JSs (cxOf CX0 P wd K mg base (y :: N') x (defScope st) f cdv A outer s H E).nox (defBody st) g) :
    CalM P wd K mg base (k + 1) x ps.length (callM (y :: N').length g) := ⟨f, fd, ps, fn_M F S hbody, hm, F.kp, b⟩
/-- f(x, e, ..) as a statement, x a list of one's own -/
def sCallM (i n : Nat) (G : Fm) (fs : Ef) : Es := fun ds w => (fs ds w).bind fun a => match ds[i]? with
  | some (.own xs) => if a.1.length + 1 = n then (G xs a.1 a.2).bind fun r => some (.nx (ds.set i (.own r.1)) r.2) else none
  | some (.mu k xs) => if a.1.length + 1 = n then (G xs a.1 a.2).bind fun r => some (.nx (ds.set i (.mu k r.1)) r.2) else none
  | _ => none
theorem js_callM (i : Nat) {G : Fm} {z : Str} {pz cpos : Pos} (c : CalM X.prog X.w X.K X.mg X.base k x n G) (hr : Room j X.A) (hk : k ≤ j) (hg : Gl X x) (ha : JA X es fs) (hN : X.N[i]? = some z := by rfl) (hv : Vis X.env.scope z := by first | exact Or.inl rfl | exact Or.inr (Or.inl rfl) | exact Or.inr (Or.inr rfl)) (hd : (z == ("__debug__" : Str)) = false := by decide) (hcd : (z == ("__classdict__" : Str)) = false := by decide)
    (hdb : (x == ("__debug__" : Str)) = false := by decide) (he : starEach (.Name z pz :: es) X.env = (false, eval (.Name z pz) X.env) :: starEach es X.env := by rfl) (hpl : (backTo cpos (starEach es X.env)).any (·.1) = false := by rfl)
    (hs : swapsWith (.Call (.Name x p) (.Name z pz :: es) [] cpos) none pos.line X.env = pure false := by rfl) : JS X (.Expr (.Call (.Name x p) (.Name z pz :: es) [] cpos) pos) (sCallM i n G fs) := ⟨by
  obtain ⟨f, fd, ps, Fk, hm, kp, b⟩ := c.ex
  refine ps_weak (ps_expr (pe_call Fk (hr.mono hk) hg hm kp b .nil pass0 (pa_cons (pe_var hN hv hd hcd) ha.run he) hdb he hpl) hs) fun D σ H ⟨Z, F, ds, w, o, rr, hf, k⟩ => ?_
  obtain ⟨a, ha, hf⟩ := bind2 hf
  have key : ∃ xs s s' r, ds[i]? = some s ∧ a.1.length + 1 = n ∧ G xs a.1 a.2 = some r ∧ o = .nx (ds.set i s') r.2 ∧ ((s = .own xs ∧ s' = .own r.1) ∨ ∃ m, s = .mu m xs ∧ s' = .mu m r.1) := by
    split at hf
    · rename_i xs hx
      split at hf
      · rename_i hl
        obtain ⟨r, h1, h2⟩ := bind2 hf
        cases h2
        exact ⟨xs, _, _, r, hx, hl, h1, rfl, .inl ⟨rfl, rfl⟩⟩
      · cases hf
    · rename_i m xs hx
      split at hf
      · rename_i hl
        obtain ⟨r, h1, h2⟩ := bind2 hf
        cases h2
        exact ⟨xs, _, _, r, hx, hl, h1, rfl, .inr ⟨m, rfl, rfl⟩⟩
      · cases hf
    · cases hf
  obtain ⟨xs, s, s', r, hi, hl, hG, rfl, hss⟩ := key
  obtain ⟨q, us, h1, h2, h3, h4, h5⟩ := rr.own1 (own_or hi hss)
  refine ⟨.ref q, h1, Z, F, ds, w, _, _, rr, ha, fun vs F1 H1 s1 d1 hv => ?_⟩
  have r1 := rr.step s1 d1
  have g2 := s1.h q _ h4 h2
  have g3 : F1 q = none := by
    obtain ⟨q', us', e1, e2, e3, e4, e5⟩ := r1.own1 (own_or hi hss)
    rw [h1] at e1
    cases e1
    exact e3
  show spM X.K n G ((V.ref q :: vs) ++ []) H1 (fun x H1 => D.nx σ H1) E0
  rw [List.append_nil]
  refine ⟨by rw [List.length_cons, hv.len]; exact hl, Z, F1, q, us, xs, vs, a.1, a.2, r.1, r.2, rfl, r1.nil, g2, g3, h4, h5.mono s1.f, hv, hG, fun F2 H2 us' e1 e2 e3 e4 e5 e6 e7 e8 e9 => ?_⟩
  have hH : upd (upd H2 q (.lst us)) q (.lst us') = H2 := by
    funext b
    by_cases hb : b = q
    · subst hb
      rw [upd_same, e7]
    · rw [upd_ne hb, upd_ne hb]
  have st : Stp Z.p F1 H1 F2 (upd H2 q (.lst us)) := ⟨e1, fun b o hb z => by
    by_cases hq : b = q
    · subst hq
      rw [g2] at z
      rw [upd_same]
      exact z
    · rw [upd_ne hq]
      exact e2 b o hb hq z, fun b o z => by
    rw [upd_ne (ne_of_none z e8)]
    exact e3 b o z, e4, e5⟩
  have dr : Dr Z.p F2 (upd H2 q (.lst us)) r.2 := by
    obtain ⟨t, t1, t2⟩ := e6
    exact ⟨t, by rw [upd_ne (Ne.symm h4)]; exact t1, t2⟩
  have r3 := (r1.step st dr).turn hi h1 hss e9
  rw [hH] at r3
  exact k σ F2 H2 (s1.f.trans e1) r3⟩
/-! ### match of texts -/
def MC (X : Cx) (cs : List MatchCase) (f : D → Es) : Prop := ∀ (first : Bool) (pins : List (Addr × Obj)) (s : Shared) (σ : L2.St) (H : Hp) (D : Ends) (v : V) (u : Value), Inv X pins σ H s → RelV v u →
  (∃ Z F ds w d o, R X.K Z F H σ ds w ∧ DenB X.K Z.p F H d v ∧ f d ds w = some o ∧ OutK X.K Z F o D) → wpAny (model X.prog X.w) X.A (matchCases cs X.env u first) (SP X pins D) X.xe s
/-- a pattern of written texts -/
def JPat (X : Cx) (p : Pattern) (xs : List Str) : Prop := ∀ (pins : List (Addr × Obj)) (s : Shared) (σ : L2.St) (H : Hp) (z : Str) (t : Tok) (Q : Option (List (Str × Value)) → Shared → Prop), Inv X pins σ H s →
  (∀ s', Inv X pins σ H s' → Q (if z ∈ xs then some [] else none) s') → wpAny (model X.prog X.w) X.A (matchPattern p X.env (.str z t)) Q X.xe s
theorem jp_one {c : Str} {kd : Nat} {p1 p2 : Pos} : JPat X (.MatchValue (.Constant (.str c) kd p1) p2) [c] := fun pins s σ H z t Q I h => by
  refine wpAny_matchPattern_Value (thn ((pe_str (X := X)).run pins s σ H (fun y H' => y = .str c ∧ H' = H) I ⟨rfl, rfl⟩) fun u s1 ⟨y, H1, I1, r1, e1, e2⟩ => ?_)
  subst e1 e2
  refine thn (op_eq (X := X) pins s1 σ H1 (.str z) (.str c) (.str z t) u (fun y H' => y = .bl (decide (V.str z = V.str c)) ∧ H' = H1) I1 ⟨t, rfl⟩ r1 ⟨rfl, rfl, rfl⟩) fun b s2 ⟨y, H2, I2, r2, e1, e2⟩ => ?_
  subst e1 e2
  cases r2
  refine wpAny_truthy_bool ?_
  have hd : decide (V.str z = V.str c) = decide (z ∈ [c]) := by
    by_cases hz : z = c
    · subst hz
      rw [decide_eq_true rfl, decide_eq_true (List.mem_singleton.mpr rfl)]
    · rw [decide_eq_false (fun q => hz (V.str.inj q)), decide_eq_false (fun q => hz (List.mem_singleton.mp q))]
  have := h s2 I2
  rw [hd]
  by_cases hz : z ∈ [c]
  · rw [if_pos hz] at this
    rw [decide_eq_true hz]
    exact this
  · rw [if_neg hz] at this
    rw [decide_eq_false hz]
    exact this
def JFst (X : Cx) (ps : List Pattern) (xs : List Str) : Prop := ∀ (pins : List (Addr × Obj)) (s : Shared) (σ : L2.St) (H : Hp) (z : Str) (t : Tok) (Q : Option (List (Str × Value)) → Shared → Prop), Inv X pins σ H s →
  (∀ s', Inv X pins σ H s' → Q (if z ∈ xs then some [] else none) s') → wpAny (model X.prog X.w) X.A (matchFirst ps X.env (.str z t)) Q X.xe s
theorem jfst_nil : JFst X [] [] := fun pins s σ H z t Q I h => wpAny_matchFirst_nil (h s I)
theorem jfst_cons {p : Pattern} {ps : List Pattern} {xs ys : List Str} (h1 : JPat X p xs) (h2 : JFst X ps ys) : JFst X (p :: ps) (xs ++ ys) := fun pins s σ H z t Q I h => by
  refine wpAny_matchFirst_cons (h1 pins s σ H z t _ I fun s' I' => ?_)
  by_cases hz : z ∈ xs
  · rw [if_pos hz]
    have := h s' I'
    rw [if_pos (List.mem_append_left _ hz)] at this
    exact this
  · rw [if_neg hz]
    refine h2 pins s' σ H z t Q I' fun s2 I2 => ?_
    have := h s2 I2
    by_cases hy : z ∈ ys
    · rw [if_pos (List.mem_append_right _ hy)] at this
      rw [if_pos hy]
      exact this
    · rw [if_neg (fun q => (List.mem_append.mp q).elim hz hy)] at this
      rw [if_neg hy]
      exact this
theorem jp_or {p : Pattern} {ps : List Pattern} {xs : List Str} {p1 : Pos} (h : JFst X (p :: ps) xs) (hn : namesOfAll ((p :: ps).take 1) = [] := by rfl) : JPat X (.MatchOr (p :: ps) p1) xs := fun pins s σ H z t Q I k => by
  refine wpAny_matchPattern_Or (h pins s σ H z t _ I fun s' I' => ?_)
  have := k s' I'
  by_cases hz : z ∈ xs
  · rw [if_pos hz] at this ⊢
    rw [hn]
    exact this
  · rw [if_neg hz] at this ⊢
    exact this
def mcNil : D → Es := fun _ => sNil
def mcCons (xs : List Str) (fb : Es) (rest : D → Es) : D → Es := fun d ds w => match d with | .str z => if z ∈ xs then fb ds w else rest d ds w | _ => none
def mcAll (fb : Es) : D → Es := fun _ => fb
theorem mc_nil : MC X [] mcNil := fun first pins s σ H D v u I r ⟨Z, F, ds, w, d, o, rr, hd, hf, k⟩ => by
  cases hf
  exact wpAny_matchCases_nil ⟨σ, H, I, k σ F H (Same.refl _) rr⟩
theorem mc_cons {pt : Pattern} {body : List Stmt} {rest : List MatchCase} {xs : List Str} {fb : Es} {fr : D → Es} (h1 : JPat X pt xs) (h2 : JSs X body fb) (h3 : MC X rest fr) : MC X (⟨pt, none, body⟩ :: rest) (mcCons xs fb fr) := fun first pins s σ H D v u I r ⟨Z, F, ds, w, d, o, rr, hd, hf, k⟩ => by
  unfold mcCons at hf
  split at hf
  · rename_i z
    have hv := hd.str
    subst hv
    obtain ⟨t, rfl⟩ := r
    refine wpAny_matchCases_cons (h1 pins s σ H z t _ I fun s' I' => ?_)
    split at hf
    · rename_i hz
      rw [if_pos hz]
      refine wpAny_assignInOrder_none (h2.run.run pins s' σ H D I' ⟨Z, F, ds, w, o, rr, hf, k⟩)
    · rename_i hz
      rw [if_neg hz]
      exact h3 false pins s' σ H D (.str z) (.str z t) I' ⟨t, rfl⟩ ⟨Z, F, ds, w, _, o, rr, hd, hf, k⟩
  · cases hf
/-- case _ -/
theorem mc_all {body : List Stmt} {fb : Es} {p1 : Pos} (h2 : JSs X body fb) : MC X [⟨.MatchAs none none p1, none, body⟩] (mcAll fb) := fun first pins s σ H D v u I r ⟨Z, F, ds, w, d, o, rr, hd, hf, k⟩ => by
  refine wpAny_matchCases_cons (wpAny_matchPattern_Capture ?_)
  exact wpAny_assignInOrder_none (h2.run.run pins s σ H D I ⟨Z, F, ds, w, o, rr, hf, k⟩)
def sMatch (f : Ev) (g : D → Es) : Es := fun ds w => (f ds w).bind fun d => g d.1 ds d.2
theorem js_match {fe : Ev} {cs : List MatchCase} {fc : D → Es} (h1 : JE X e fe) (h2 : MC X cs fc) : JS X (.Match e cs pos) (sMatch fe fc) := ⟨⟨fun pins s σ H D I ⟨Z, F, ds, w, o, rr, hf, k⟩ => by
  obtain ⟨d, hd, hf⟩ := bind2 hf
  refine wpAny_Match (thn (h1.run.run pins s σ H (fun v H1 => ∃ F1, Stp Z.p F H F1 H1 ∧ Dr Z.p F1 H1 d.2 ∧ Den X.K Z.p F1 d.1 v) I ⟨Z, F, ds, w, _, _, rr, hd, fun v F1 H1 s1 d1 hv => ⟨F1, s1, d1, hv⟩⟩) fun u s1 ⟨v, H1, I1, r1, F1, q1, q2, q3⟩ => ?_)
  exact h2 true pins s1 σ H1 D v u I1 r1 ⟨Z, F1, ds, d.2, d.1, o, rr.step q1 q2, .inl q3, hf, k.go q1.f⟩⟩⟩
/-! ### a law -/
def spLaw (K : PySem.W.Frag) : Sp := fun vs H Q _ => ∃ (a : Addr) (ns : List Int), vs = [.ref a] ∧ SqL K H a (ns.map V.int) ∧ ns.length ≤ 63 ∧ ∀ H', Q (.bl true) H'
theorem law_J {N' : List Str} {rest : List Stmt} {y z : Str} {py px p1 p2 p3 p4 p5 p6 p7 : Pos} {j1 j2 j3 : Nat} (F : Fun K x qual st f fd) (hN : N = z :: y :: N') (S : FnScope N [z] (defScope st)) (hbd : defBody st = .Assign [.Name y py] (.List [.Subscript (.Name z px) (.Slice none (some (.Constant (.int 63) j1 p1)) none p2) p3, .Constant (.int 0) j2 p4, .Constant (.int 0) j3 p5] p6) p7 :: rest)
    (vz : Vis (defScope st) z) (ly : Loc (defScope st) y) (dz : (z == ("__debug__" : Str)) = false) (cz : (z == ("__classdict__" : Str)) = false)
    (hsw : ∀ (cdv : Value) (A : Around) (outer : List Env) (s : Shared) (H : Hp) (E : XK), swapsWith (.List [.Subscript (.Name z px) (.Slice none (some (.Constant (.int 63) j1 p1)) none p2) p3, .Constant (.int 0) j2 p4, .Constant (.int 0) j3 p5] p6) (some (.Name y py)) p7.line (cxOf CX0 P wd K mg base N qual (defScope st) f cdv A outer s H E).nox.env = pure false)
    (hbody : ∀ (cdv : Value) (A : Around) (outer : List Env) (s : Shared) (H : Hp) (E : XK), Room k (A.deeper (envOfC qual (defScope st) s.heap.objs.size f cdv)) → JSs (cxOf CX0 P wd K mg base N qual (defScope st) f cdv A outer s H E).nox rest g)
    (hg : ∀ ns : List Int, ns.length ≤ 63 → ∃ w', g (.no :: .d .draw :: List.replicate N'.length .no) ⟨ns, 0⟩ = some (.rt (.bl true) w')) : FnOk P wd K mg base CX0 (k + 1) f fd [z] (spLaw K) := by
  refine F.ok S (fun vs H Q E h => ?_) (fun cdv A outer s H vs Q E hr h => ?_)
  · obtain ⟨a, ns, rfl, _⟩ := h
    rfl
  obtain ⟨a, ns, rfl, hS, hlen, k⟩ := h
  rw [hbd]
  refine ⟨_, pss_cons (ps_set (i := 1) S.nd (by subst hN; rfl) ly (pe_lst (pa_cons (pe_slice sl_list (pe_var (i := 0) (by subst hN; rfl) vz dz cz) po_none (po_some pe_int)) (pa_cons pe_int (pa_cons pe_int pa_nil)))) (hsw cdv A outer s H E)) (hbody cdv A outer s H E hr).run, ?_⟩
  have hst : L2.start N [V.ref a] = some (.ref a) :: none :: List.replicate N'.length none := by
    subst hN
    rfl
  rw [hst]
  refine ⟨.ref a, rfl, 63, rfl, a, _, rfl, hS, fun q hq => ⟨by show 3 ≤ sizeLine; decide, fun p hp => ?_⟩⟩
  obtain ⟨w', hgo⟩ := hg ns hlen
  have hqp : p ≠ q := by
    rintro rfl
    rw [upd_same] at hp
    cases hp
  have ecut : cutV (ns.map V.int) none (some 63) = ns.map V.int := by
    unfold cutV
    have e1 : HT.sIx (ns.map V.int).length 0 none = 0 := rfl
    have e2 : HT.sIx (ns.map V.int).length (ns.map V.int).length (some 63) = (ns.map V.int).length := by
      have h3 := HT.sIx_nat (ns.map V.int).length (ns.map V.int).length 63
      rw [List.length_map] at h3 ⊢
      have e3 : ((63 : Nat) : Int) = 63 := rfl
      rw [e3] at h3
      rw [h3]
      omega
    rw [e1, e2]
    show ((ns.map V.int).drop 0).take ((ns.map V.int).length - 0) = ns.map V.int
    rw [List.drop_zero, Nat.sub_zero, List.take_length]
  rw [ecut] at hp ⊢
  refine ⟨⟨p, [], upd (fun _ => none) q (.lst (ns.map V.int)), fun _ => none⟩, upd (fun _ => none) q (.lst (ns.map V.int)), .no :: .d .draw :: List.replicate N'.length .no, ⟨ns, 0⟩, _, ?_, hgo, fun v σ' ds' F' H' _ _ hv => by
    unfold Den at hv
    subst hv
    exact k H'⟩
  refine ⟨fun b o z => ?_, by rw [upd_ne hqp], ⟨q, upd_same, upd_same⟩, List.not_mem_nil, fun b hb => (nomatch hb), fun b hb => (nomatch hb), fun b o _ _ z => (nomatch z), fun b o z => .inl z, Same.refl _, ?_, fun _ => 0, fun i j ⟨s, h1, h2⟩ => ?_, fun i s hs => ?_⟩
  · by_cases hb : b = q
    · subst hb
      rw [upd_same] at z
      rw [upd_ne (Ne.symm hqp), upd_same]
      exact z
    · rw [upd_ne hb] at z
      cases z
  · show (List.set (some (V.ref a) :: none :: List.replicate N'.length none) 1 (some (V.ref p))).length = _
    simp
  · exfalso
    match i, h1 with
    | 0, h1 =>
      cases h1
      cases h2
    | 1, h1 =>
      cases h1
      cases h2
    | i + 2, h1 =>
      have h1' : (List.replicate N'.length Sl.no)[i]? = some s := h1
      rw [List.getElem?_replicate] at h1'
      split at h1'
      · cases h1'
        cases h2
      · cases h1'
  · match i, hs with
    | 0, hs =>
      cases hs
      trivial
    | 1, hs =>
      cases hs
      exact ⟨.ref p, rfl, by unfold Den; rfl⟩
    | i + 2, hs =>
      have h1' : (List.replicate N'.length Sl.no)[i]? = some s := hs
      rw [List.getElem?_replicate] at h1'
      split at h1'
      · cases h1'
        trivial
      · cases h1'
end
end J
namespace J
open PySem PyProof.Rows L2
/-! ### what comes of it: lemmas about the meanings -/
theorem eqv_int (a b : Int) : PyData.eqv (.int a) (.int b) = decide (a = b) := by
  simp [PyData.eqv]
  rfl
theorem eqv_str (a b : Str) : PyData.eqv (.str a) (.str b) = decide (a = b) := by
  simp [PyData.eqv]
  rfl
theorem lay_int (i : Int) : lay (.int i) = true := rfl
theorem lay_bl (i : Bool) : lay (.bl i) = true := rfl
theorem lay_non : lay .non = true := rfl
theorem eqD_int (a b : Int) : eqD (.int a) (.int b) = some (.bl (decide (a = b))) := by
  unfold eqD
  rw [lay_int, lay_int]
  show some (D.bl (PyData.eqv (.int a) (.int b))) = _
  rw [eqv_int]
theorem neD_int (a b : Int) : neD (.int a) (.int b) = some (.bl (!decide (a = b))) := by
  unfold neD
  rw [lay_int, lay_int]
  show some (D.bl (!PyData.eqv (.int a) (.int b))) = _
  rw [eqv_int]
theorem eqD_bl (a b : Bool) : eqD (.bl a) (.bl b) = some (.bl (a == b)) := rfl
theorem neD_bl (a b : Bool) : neD (.bl a) (.bl b) = some (.bl (!(a == b))) := rfl
theorem canLay_ints : ∀ ns : List Int, PyData.canLayAll0 (pys (ns.map D.int)) = true ∧ PyData.depthAll (pys (ns.map D.int)) ≤ 1
  | [] => ⟨rfl, Nat.zero_le _⟩
  | n :: ns => by
    obtain ⟨h1, h2⟩ := canLay_ints ns
    refine ⟨?_, ?_⟩
    · show (PyData.canLay0 (.int n) && PyData.canLayAll0 (pys (ns.map D.int))) = true
      rw [h1]
      rfl
    · show max (PyData.depth (.int n)) (PyData.depthAll (pys (ns.map D.int))) ≤ 1
      have : PyData.depth (.int n) ≤ 1 := by
        simp [PyData.depth]
      omega
theorem poks_ints (ns : List Int) : poks (ns.map D.int) = true := by
  rw [poks_all, List.all_eq_true]
  intro d hd
  obtain ⟨n, _, rfl⟩ := List.mem_map.mp hd
  rfl
theorem lay_ints (ns : List Int) : lay (.lst (ns.map D.int)) = true := by
  obtain ⟨h1, h2⟩ := canLay_ints ns
  unfold lay pok
  rw [poks_ints]
  unfold SeqAt.shaped
  show (true && (PyData.canLay0 (.list (pys (ns.map D.int))) && decide (PyData.depth (.list (pys (ns.map D.int))) ≤ 64))) = true
  have e : PyData.canLay0 (.list (pys (ns.map D.int))) = true := by
    unfold PyData.canLay0
    exact h1
  rw [e]
  have : PyData.depth (.list (pys (ns.map D.int))) ≤ 64 := by
    unfold PyData.depth
    omega
  rw [decide_eq_true this]
  rfl
theorem eqvAll_ints : ∀ ns ms : List Int, PyData.eqvAll (pys (ns.map D.int)) (pys (ms.map D.int)) = decide (ns = ms)
  | [], [] => rfl
  | [], m :: ms => rfl
  | n :: ns, [] => rfl
  | n :: ns, m :: ms => by
    show (PyData.eqv (.int n) (.int m) && PyData.eqvAll (pys (ns.map D.int)) (pys (ms.map D.int))) = _
    rw [eqv_int, eqvAll_ints ns ms, Bool.eq_iff_iff]
    simp
theorem eqv_ints (ns ms : List Int) : PyData.eqv (.list (pys (ns.map D.int))) (.list (pys (ms.map D.int))) = decide (ns = ms) := by
  unfold PyData.eqv
  exact eqvAll_ints ns ms
theorem eqD_ints (ns ms : List Int) : eqD (.lst (ns.map D.int)) (.lst (ms.map D.int)) = some (.bl (decide (ns = ms))) := by
  unfold eqD
  rw [lay_ints, lay_ints]
  show some (D.bl (PyData.eqv (.list (pys (ns.map D.int))) (.list (pys (ms.map D.int))))) = _
  rw [eqv_ints]
theorem neD_ints (ns ms : List Int) : neD (.lst (ns.map D.int)) (.lst (ms.map D.int)) = some (.bl (!decide (ns = ms))) := by
  unfold neD
  rw [lay_ints, lay_ints]
  show some (D.bl (!PyData.eqv (.list (pys (ns.map D.int))) (.list (pys (ms.map D.int))))) = _
  rw [eqv_ints]
/-- a for by what holds of the slots behind each turn -/
theorem forGo_inv {α : Type} (enc : α → D) {tg : Eg} {body : Es} (I : List α → List Sl → Wd → Prop) : ∀ (pre xs : List α) (ds : List Sl) (w : Wd), I pre ds w →
    (∀ (p : List α) (a : α) (q : List α) (ds : List Sl) (w : Wd), pre ++ xs = p ++ a :: q → I p ds w → ∃ ds1 ds2 w2, tg ds (enc a) = some ds1 ∧ (body ds1 w = some (.nx ds2 w2) ∨ body ds1 w = some (.ct ds2 w2)) ∧ I (p ++ [a]) ds2 w2) → ∃ ds' w', forGo tg body (xs.map enc) ds w = some (.nx ds' w') ∧ I (pre ++ xs) ds' w'
  | pre, [], ds, w, h, _ => ⟨ds, w, rfl, by rw [List.append_nil]; exact h⟩
  | pre, a :: xs, ds, w, h, hs => by
    obtain ⟨ds1, ds2, w2, h1, h2, h3⟩ := hs pre a xs ds w rfl h
    obtain ⟨ds', w', h4, h5⟩ := forGo_inv enc I (pre ++ [a]) xs ds2 w2 h3 (fun p b q ds w e hi => hs p b q ds w (by rw [← e, List.append_assoc]; rfl) hi)
    refine ⟨ds', w', ?_, by rw [List.append_assoc] at h5; exact h5⟩
    show (tg ds (enc a)).bind _ = _
    rw [h1]
    show (body ds1 w).bind _ = _
    rcases h2 with h2 | h2
    · rw [h2]
      exact h4
    · rw [h2]
      exact h4
/-- .. whose turns all do f to the slots -/
theorem forGo_fold {α β : Type} (enc : α → D) {tg : Eg} {body : Es} {w : Wd} (env : β → List Sl → Prop) (f : β → α → β) : ∀ (xs : List α) (b : β) (ds : List Sl), env b ds →
    (∀ (b : β) (a : α) (ds : List Sl), a ∈ xs → env b ds → ∃ ds1 ds2, tg ds (enc a) = some ds1 ∧ body ds1 w = some (.nx ds2 w) ∧ env (f b a) ds2) → ∃ ds', forGo tg body (xs.map enc) ds w = some (.nx ds' w) ∧ env (xs.foldl f b) ds'
  | [], b, ds, h, _ => ⟨ds, rfl, h⟩
  | a :: xs, b, ds, h, hs => by
    obtain ⟨ds1, ds2, h1, h2, h3⟩ := hs b a ds List.mem_cons_self h
    obtain ⟨ds', h4, h5⟩ := forGo_fold enc env f xs (f b a) ds2 h3 (fun b' a' ds' hm => hs b' a' ds' (List.mem_cons_of_mem _ hm))
    refine ⟨ds', ?_, h5⟩
    show (tg ds (enc a)).bind _ = _
    rw [h1]
    show (body ds1 w).bind _ = _
    rw [h2]
    exact h4
theorem lcGo_yes {tg : Eg} {e : Ev} {ds ds1 : List Sl} {x : D} {xs : List D} {w : Wd} {y : D × Wd} (h1 : tg ds x = some ds1) (h2 : e ds1 w = some y) : lcGo tg tYesJ e ds (x :: xs) w = (lcGo tg tYesJ e ds xs y.2).bind fun r => some (y.1 :: r.1, r.2) := by
  conv => lhs; unfold lcGo
  rw [h1]
  simp only [Option.bind_some, tYesJ, if_true, h2]
theorem lcGo_test {tg : Eg} {c : Et} {e : Ev} {ds ds1 : List Sl} {x : D} {xs : List D} {w : Wd} {b : Bool × Wd} (h1 : tg ds x = some ds1) (h2 : c ds1 w = some b) : lcGo tg c e ds (x :: xs) w = if b.1 = true then (e ds1 b.2).bind fun y => (lcGo tg c e ds xs y.2).bind fun r => some (y.1 :: r.1, r.2) else lcGo tg c e ds xs b.2 := by
  conv => lhs; unfold lcGo
  rw [h1]
  simp only [Option.bind_some, h2]
/-- a comprehension that takes all -/
theorem lcGo_map {α : Type} (enc : α → D) {tg : Eg} {e : Ev} {ds : List Sl} {w : Wd} (f : α → D) : ∀ xs : List α, (∀ a ∈ xs, ∃ ds1, tg ds (enc a) = some ds1 ∧ e ds1 w = some (f a, w)) → lcGo tg tYesJ e ds (xs.map enc) w = some (xs.map f, w)
  | [], _ => rfl
  | a :: xs, h => by
    obtain ⟨ds1, h1, h2⟩ := h a List.mem_cons_self
    rw [List.map_cons, lcGo_yes h1 h2, lcGo_map enc f xs fun b hb => h b (List.mem_cons_of_mem _ hb)]
    rfl
/-- .. that takes some -/
theorem lcGo_filter {α : Type} (enc : α → D) {tg : Eg} {c : Et} {e : Ev} {ds : List Sl} {w : Wd} (p : α → Bool) (f : α → D) : ∀ xs : List α, (∀ a ∈ xs, ∃ ds1, tg ds (enc a) = some ds1 ∧ c ds1 w = some (p a, w) ∧ (p a = true → e ds1 w = some (f a, w))) → lcGo tg c e ds (xs.map enc) w = some ((xs.filter p).map f, w)
  | [], _ => rfl
  | a :: xs, h => by
    obtain ⟨ds1, h1, h2, h3⟩ := h a List.mem_cons_self
    have ih := lcGo_filter enc p f xs fun b hb => h b (List.mem_cons_of_mem _ hb)
    rw [List.map_cons, lcGo_test h1 h2]
    dsimp only
    by_cases hp : p a = true
    · rw [if_pos hp, h3 hp, List.filter_cons_of_pos hp]
      simp only [Option.bind_some, ih]
      rfl
    · rw [if_neg hp, List.filter_cons_of_neg hp]
      exact ih
/-- .. whose items are drawn: each by what holds of the state ahead of it -/
theorem lcGo_draw {α β : Type} (enc : α → D) (out : β → D) {tg : Eg} {e : Ev} {ds : List Sl} (ok : α → β → Prop) (I : Wd → Prop) : ∀ (xs : List α) (w : Wd), I w → (∀ a ∈ xs, ∀ w, I w → ∃ ds1 b w', tg ds (enc a) = some ds1 ∧ e ds1 w = some (out b, w') ∧ ok a b ∧ I w') →
    ∃ (bs : List β) (w' : Wd), lcGo tg tYesJ e ds (xs.map enc) w = some (bs.map out, w') ∧ bs.length = xs.length ∧ (∀ b ∈ bs, ∃ a ∈ xs, ok a b) ∧ I w'
  | [], w, hw, _ => ⟨[], w, rfl, rfl, fun _ h => (nomatch h), hw⟩
  | a :: xs, w, hw, h => by
    obtain ⟨ds1, b, w1, h1, h2, h3, h4⟩ := h a List.mem_cons_self w hw
    obtain ⟨bs, w', ih, hl, hm, hI⟩ := lcGo_draw enc out ok I xs w1 h4 fun c hc => h c (List.mem_cons_of_mem _ hc)
    refine ⟨b :: bs, w', ?_, by rw [List.length_cons, List.length_cons, hl], fun c hc => ?_, hI⟩
    · rw [List.map_cons, lcGo_yes h1 h2]
      simp only [ih, Option.bind_some]
      rfl
    · rcases List.mem_cons.mp hc with q | q
      · subst q
        exact ⟨a, List.mem_cons_self, h3⟩
      · obtain ⟨a', q1, q2⟩ := hm c q
        exact ⟨a', List.mem_cons_of_mem _ q1, q2⟩
theorem rgD_map (a c : Int) (n : Nat) : rgD a c n = ((List.range n).map fun i : Nat => a + (i : Int) * c).map D.int := by
  unfold rgD
  rw [List.map_map]
  rfl
theorem fLc_ok {src : Ef} {tg : Eg} {c : Et} {e : Ev} {vs : List Nat} {ds : List Sl} {w w1 w2 : Wd} {xs ys : List D} (h1 : src ds w = some (xs, w1)) (h2 : lcGo tg c e (wipeS ds vs) xs w1 = some (ys, w2)) (h3 : ys.length ≤ line) : fLc src tg c e vs ds w = some (ys, w2) := by
  show (src ds w).bind _ = _
  rw [h1]
  show (lcGo tg c e (wipeS ds vs) xs w1).bind _ = _
  rw [h2]
  show (if ys.length ≤ line then _ else _) = _
  rw [if_pos h3]
/-! sorted lists stay as they are -/
theorem sortI_of {ns ms : List Int} (h : ms.Perm ns) (hs : ms.Pairwise (· ≤ ·)) : sortI ns = ms := PySem.W.ksm_same ((sortI_perm ns).trans h.symm) (sortI_pair ns) hs
theorem sortI_id {ns : List Int} (hs : ns.Pairwise (· ≤ ·)) : sortI ns = ns := sortI_of (List.Perm.refl _) hs
theorem atI_map {α β : Type} (f : α → β) (xs : List α) (i : Int) : atI (xs.map f) i = (atI xs i).map f := by
  unfold atI
  rw [List.length_map]
  cases ixN xs.length i with
  | none => rfl
  | some j => exact List.getElem?_map
theorem ixN_nat {n i : Nat} (h : i < n) : ixN n (i : Int) = some i := by
  unfold ixN
  rw [if_pos (by omega), if_pos (by omega)]
  rfl
end J
namespace J
open PySem PyProof.Rows L2
/-! ### the meanings, applied -/
def pv (w : Wd) : Option Sl → Option (D × Wd)
  | some (.d x) => some (x, w)
  | _ => none
@[simp] theorem pv.on (w : Wd) (x : D) : pv w (some (.d x)) = some (x, w) := rfl
@[simp] theorem eVar.ap (i : Nat) (ds : List Sl) (w : Wd) : eVar i ds w = pv w ds[i]? := by
  unfold eVar pv
  rcases ds[i]? with _ | s
  · rfl
  · cases s <;> rfl
def pw (w : Wd) : Option Sl → Option (D × Wd)
  | some (.d x) => some (x, w)
  | some (.own xs) => some (.lst xs, w)
  | some (.mu _ xs) => some (.lst xs, w)
  | _ => none
@[simp] theorem pw.on1 (w : Wd) (x : D) : pw w (some (.d x)) = some (x, w) := rfl
@[simp] theorem pw.on2 (w : Wd) (x : List D) : pw w (some (.own x)) = some (.lst x, w) := rfl
@[simp] theorem pw.on3 (w : Wd) (k : Nat) (x : List D) : pw w (some (.mu k x)) = some (.lst x, w) := rfl
@[simp] theorem eBor.ap (i : Nat) (ds : List Sl) (w : Wd) : eBor i ds w = pw w ds[i]? := by
  unfold eBor pw
  rcases ds[i]? with _ | s
  · rfl
  · cases s <;> rfl
@[simp] theorem eC.ap (d : D) (ds : List Sl) (w : Wd) : eC d ds w = some (d, w) := rfl
def vD (w : Wd) : Option D → Option (D × Wd)
  | some d => some (d, w)
  | none => none
@[simp] theorem vD.on (w : Wd) (d : D) : vD w (some d) = some (d, w) := rfl
def vLs (w : Wd) : Option (List D) → Option (List D × Wd)
  | some d => some (d, w)
  | none => none
@[simp] theorem vLs.on (w : Wd) (d : List D) : vLs w (some d) = some (d, w) := rfl
def kL  : Option (List D × Wd) → Option (D × Wd)
  | some (xs, w1) => some (.lst xs, w1)
  | none => none
@[simp] theorem kL.on   (xs : List D) (w1 : Wd) : kL  (some (xs, w1)) = some (.lst xs, w1) := rfl
@[simp] theorem eL.ap (f : Ef) (ds : List Sl) (w : Wd) : eL f ds w = kL (f ds w) := by
  unfold eL
  rcases f ds w with _ | ⟨x, y⟩ <;> rfl
def bin2 (g : D → D → Option D) (a : D) : Option (D × Wd) → Option (D × Wd)
  | some (b, w2) => vD w2 (g a b)
  | none => none
@[simp] theorem bin2.on (g : D → D → Option D) (a : D)  (b : D) (w2 : Wd) : bin2 g a (some (b, w2)) = vD w2 (g a b) := rfl
def bin1 (g : D → D → Option D) (fb : Ev) (ds : List Sl) : Option (D × Wd) → Option (D × Wd)
  | some (a, w1) => bin2 g a (fb ds w1)
  | none => none
@[simp] theorem bin1.on (g : D → D → Option D) (fb : Ev) (ds : List Sl)  (a : D) (w1 : Wd) : bin1 g fb ds (some (a, w1)) = bin2 g a (fb ds w1) := rfl
theorem eBin.ap (g : D → D → Option D) (fa fb : Ev) (ds : List Sl) (w : Wd) : eBin g fa fb ds w = bin1 g fb ds (fa ds w) := by
  unfold eBin
  rcases fa ds w with _ | ⟨a, w1⟩
  · rfl
  · show (fb ds w1).bind _ = bin2 g a (fb ds w1)
    rcases fb ds w1 with _ | ⟨b, w2⟩
    · rfl
    · show (g a b).bind _ = vD w2 (g a b)
      rcases g a b with _ | d <;> rfl
@[simp] theorem eEq.ap (fa fb : Ev) (ds : List Sl) (w : Wd) : eEq fa fb ds w = bin1 eqD fb ds (fa ds w) := eBin.ap eqD fa fb ds w
@[simp] theorem eNe.ap (fa fb : Ev) (ds : List Sl) (w : Wd) : eNe fa fb ds w = bin1 neD fb ds (fa ds w) := eBin.ap neD fa fb ds w
@[simp] theorem eLt.ap (fa fb : Ev) (ds : List Sl) (w : Wd) : eLt fa fb ds w = bin1 (g2B pLt) fb ds (fa ds w) := eBin.ap (g2B pLt) fa fb ds w
@[simp] theorem eLe.ap (fa fb : Ev) (ds : List Sl) (w : Wd) : eLe fa fb ds w = bin1 (g2B pLe) fb ds (fa ds w) := eBin.ap (g2B pLe) fa fb ds w
@[simp] theorem eGt.ap (fa fb : Ev) (ds : List Sl) (w : Wd) : eGt fa fb ds w = bin1 (g2B pGt) fb ds (fa ds w) := eBin.ap (g2B pGt) fa fb ds w
@[simp] theorem eGe.ap (fa fb : Ev) (ds : List Sl) (w : Wd) : eGe fa fb ds w = bin1 (g2B pGe) fb ds (fa ds w) := eBin.ap (g2B pGe) fa fb ds w
@[simp] theorem eIs.ap (fa fb : Ev) (ds : List Sl) (w : Wd) : eIs fa fb ds w = bin1 isN fb ds (fa ds w) := eBin.ap isN fa fb ds w
@[simp] theorem eIsNot.ap (fa fb : Ev) (ds : List Sl) (w : Wd) : eIsNot fa fb ds w = bin1 notN fb ds (fa ds w) := eBin.ap notN fa fb ds w
@[simp] theorem eIn.ap (fa fb : Ev) (ds : List Sl) (w : Wd) : eIn fa fb ds w = bin1 (inD false) fb ds (fa ds w) := eBin.ap (inD false) fa fb ds w
@[simp] theorem eNotIn.ap (fa fb : Ev) (ds : List Sl) (w : Wd) : eNotIn fa fb ds w = bin1 (inD true) fb ds (fa ds w) := eBin.ap (inD true) fa fb ds w
@[simp] theorem eAdd.ap (fa fb : Ev) (ds : List Sl) (w : Wd) : eAdd fa fb ds w = bin1 addD fb ds (fa ds w) := eBin.ap addD fa fb ds w
@[simp] theorem eSub.ap (fa fb : Ev) (ds : List Sl) (w : Wd) : eSub fa fb ds w = bin1 subD fb ds (fa ds w) := eBin.ap subD fa fb ds w
@[simp] theorem eDiv.ap (fa fb : Ev) (ds : List Sl) (w : Wd) : eDiv fa fb ds w = bin1 divD fb ds (fa ds w) := eBin.ap divD fa fb ds w
@[simp] theorem eMod.ap (fa fb : Ev) (ds : List Sl) (w : Wd) : eMod fa fb ds w = bin1 modD fb ds (fa ds w) := eBin.ap modD fa fb ds w
@[simp] theorem ePow.ap (fa fb : Ev) (ds : List Sl) (w : Wd) : ePow fa fb ds w = bin1 powD fb ds (fa ds w) := eBin.ap powD fa fb ds w
@[simp] theorem eMul.ap (fa fb : Ev) (ds : List Sl) (w : Wd) : eMul fa fb ds w = bin1 mulD fb ds (fa ds w) := eBin.ap mulD fa fb ds w
@[simp] theorem eIx.ap (fa fb : Ev) (ds : List Sl) (w : Wd) : eIx fa fb ds w = bin1 idxD fb ds (fa ds w) := eBin.ap idxD fa fb ds w
def kT : Option (D × Wd) → Option (Bool × Wd)
  | some (.bl p, w1) => some (p, w1)
  | _ => none
@[simp] theorem kT.on (p : Bool) (w1 : Wd) : kT (some (.bl p, w1)) = some (p, w1) := rfl
@[simp] theorem eTest.ap (f : Ev) (ds : List Sl) (w : Wd) : eTest f ds w = kT (f ds w) := by
  unfold eTest
  rcases f ds w with _ | ⟨x, y⟩
  · rfl
  · cases x <;> rfl
def ch4 (g' : D → D → Option D) (b : D) : Option (D × Wd) → Option (D × Wd)
  | some (c, w3) => vD w3 (g' b c)
  | none => none
@[simp] theorem ch4.on (g' : D → D → Option D) (b : D)  (c : D) (w3 : Wd) : ch4 g' b (some (c, w3)) = vD w3 (g' b c) := rfl
def ch3 (g' : D → D → Option D) (b : D) (fc : Ev) (ds : List Sl) (w : Wd) : Option D → Option (D × Wd)
  | some (.bl p) => if p = true then ch4 g' b (fc ds w) else some (.bl false, w)
  | _ => none
@[simp] theorem ch3.on (g' : D → D → Option D) (b : D) (fc : Ev) (ds : List Sl) (w : Wd) (p : Bool) : ch3 g' b fc ds w (some (.bl p)) = if p = true then ch4 g' b (fc ds w) else some (.bl false, w) := rfl
def ch2 (g g' : D → D → Option D) (a : D) (fc : Ev) (ds : List Sl) : Option (D × Wd) → Option (D × Wd)
  | some (b, w2) => ch3 g' b fc ds w2 (g a b)
  | none => none
@[simp] theorem ch2.on (g g' : D → D → Option D) (a : D) (fc : Ev) (ds : List Sl)  (b : D) (w2 : Wd) : ch2 g g' a fc ds (some (b, w2)) = ch3 g' b fc ds w2 (g a b) := rfl
def ch1 (g g' : D → D → Option D) (fb fc : Ev) (ds : List Sl) : Option (D × Wd) → Option (D × Wd)
  | some (a, w1) => ch2 g g' a fc ds (fb ds w1)
  | none => none
@[simp] theorem ch1.on (g g' : D → D → Option D) (fb fc : Ev) (ds : List Sl)  (a : D) (w1 : Wd) : ch1 g g' fb fc ds (some (a, w1)) = ch2 g g' a fc ds (fb ds w1) := rfl
@[simp] theorem eChain.ap (g g' : D → D → Option D) (fa fb fc : Ev) (ds : List Sl) (w : Wd) : eChain g g' fa fb fc ds w = ch1 g g' fb fc ds (fa ds w) := by
  unfold eChain
  rcases fa ds w with _ | ⟨a, w1⟩
  · rfl
  · show (fb ds w1).bind _ = ch2 g g' a fc ds (fb ds w1)
    rcases fb ds w1 with _ | ⟨b, w2⟩
    · rfl
    · show (match g a b with | some (.bl true) => _ | some (.bl false) => _ | _ => none) = ch3 g' b fc ds w2 (g a b)
      rcases g a b with _ | d
      · rfl
      · cases d <;> try rfl
        rename_i p
        cases p
        · rfl
        · show (fc ds w2).bind _ = ch4 g' b (fc ds w2)
          rcases fc ds w2 with _ | ⟨c, w3⟩
          · rfl
          · show (g' b c).bind _ = vD w3 (g' b c)
            rcases g' b c with _ | d <;> rfl
def ta1 (b : Et) (ds : List Sl) : Option (Bool × Wd) → Option (Bool × Wd)
  | some (p, w1) => if p = true then b ds w1 else some (false, w1)
  | none => none
@[simp] theorem ta1.on (b : Et) (ds : List Sl)  (p : Bool) (w1 : Wd) : ta1 b ds (some (p, w1)) = if p = true then b ds w1 else some (false, w1) := rfl
@[simp] theorem tAndJ.ap (a b : Et) (ds : List Sl) (w : Wd) : tAndJ a b ds w = ta1 b ds (a ds w) := by
  unfold tAndJ
  rcases a ds w with _ | ⟨x, y⟩ <;> rfl
def to1 (b : Et) (ds : List Sl) : Option (Bool × Wd) → Option (Bool × Wd)
  | some (p, w1) => if p = true then some (true, w1) else b ds w1
  | none => none
@[simp] theorem to1.on (b : Et) (ds : List Sl)  (p : Bool) (w1 : Wd) : to1 b ds (some (p, w1)) = if p = true then some (true, w1) else b ds w1 := rfl
@[simp] theorem tOrJ.ap (a b : Et) (ds : List Sl) (w : Wd) : tOrJ a b ds w = to1 b ds (a ds w) := by
  unfold tOrJ
  rcases a ds w with _ | ⟨x, y⟩ <;> rfl
def tn1  : Option (Bool × Wd) → Option (Bool × Wd)
  | some (p, w1) => some (!p, w1)
  | none => none
@[simp] theorem tn1.on   (p : Bool) (w1 : Wd) : tn1  (some (p, w1)) = some (!p, w1) := rfl
@[simp] theorem tNotJ.ap (a : Et) (ds : List Sl) (w : Wd) : tNotJ a ds w = tn1 (a ds w) := by
  unfold tNotJ
  rcases a ds w with _ | ⟨x, y⟩ <;> rfl
def ea1 (b : Ev) (ds : List Sl) : Option (D × Wd) → Option (D × Wd)
  | some (.bl p, w1) => if p = true then b ds w1 else some (.bl false, w1)
  | _ => none
@[simp] theorem ea1.on (b : Ev) (ds : List Sl) (p : Bool) (w1 : Wd) : ea1 b ds (some (.bl p, w1)) = if p = true then b ds w1 else some (.bl false, w1) := rfl
@[simp] theorem eAnd.ap (a b : Ev) (ds : List Sl) (w : Wd) : eAnd a b ds w = ea1 b ds (a ds w) := by
  unfold eAnd
  rcases a ds w with _ | ⟨x, y⟩
  · rfl
  · cases x <;> try rfl
    rename_i p
    cases p <;> rfl
def eo1 (b : Ev) (ds : List Sl) : Option (D × Wd) → Option (D × Wd)
  | some (.bl p, w1) => if p = true then some (.bl true, w1) else b ds w1
  | _ => none
@[simp] theorem eo1.on (b : Ev) (ds : List Sl) (p : Bool) (w1 : Wd) : eo1 b ds (some (.bl p, w1)) = if p = true then some (.bl true, w1) else b ds w1 := rfl
@[simp] theorem eOr.ap (a b : Ev) (ds : List Sl) (w : Wd) : eOr a b ds w = eo1 b ds (a ds w) := by
  unfold eOr
  rcases a ds w with _ | ⟨x, y⟩
  · rfl
  · cases x <;> try rfl
    rename_i p
    cases p <;> rfl
def en1 : Option (D × Wd) → Option (D × Wd)
  | some (.bl p, w1) => some (.bl (!p), w1)
  | _ => none
@[simp] theorem en1.on (p : Bool) (w1 : Wd) : en1 (some (.bl p, w1)) = some (.bl (!p), w1) := rfl
@[simp] theorem eNot.ap (a : Ev) (ds : List Sl) (w : Wd) : eNot a ds w = en1 (a ds w) := by
  unfold eNot
  rcases a ds w with _ | ⟨x, y⟩
  · rfl
  · cases x <;> rfl
def eg1 : Option (D × Wd) → Option (D × Wd)
  | some (.int i, w1) => some (.int (-i), w1)
  | _ => none
@[simp] theorem eg1.on (i : Int) (w1 : Wd) : eg1 (some (.int i, w1)) = some (.int (-i), w1) := rfl
@[simp] theorem eNeg.ap (a : Ev) (ds : List Sl) (w : Wd) : eNeg a ds w = eg1 (a ds w) := by
  unfold eNeg
  rcases a ds w with _ | ⟨x, y⟩
  · rfl
  · cases x <;> rfl
def os1 : Option (D × Wd) → Option (Option Int × Wd)
  | some (.int i, w1) => some (some i, w1)
  | _ => none
@[simp] theorem os1.on (i : Int) (w1 : Wd) : os1 (some (.int i, w1)) = some (some i, w1) := rfl
@[simp] theorem oSo.ap (a : Ev) (ds : List Sl) (w : Wd) : oSo a ds w = os1 (a ds w) := by
  unfold oSo
  rcases a ds w with _ | ⟨x, y⟩
  · rfl
  · cases x <;> rfl
@[simp] theorem oNo.ap (ds : List Sl) (w : Wd) : oNo ds w = some (none, w) := rfl
def if1 {α : Type} (a b : List Sl → Wd → Option α) (ds : List Sl) : Option (Bool × Wd) → Option α
  | some (p, w1) => if p = true then a ds w1 else b ds w1
  | none => none
@[simp] theorem if1.on {α : Type} (a b : List Sl → Wd → Option α) (ds : List Sl) (p : Bool) (w1 : Wd) : if1 a b ds (some (p, w1)) = if p = true then a ds w1 else b ds w1 := rfl
@[simp] theorem eIf.ap (t : Et) (a b : Ev) (ds : List Sl) (w : Wd) : eIf t a b ds w = if1 a b ds (t ds w) := by
  unfold eIf
  rcases t ds w with _ | ⟨x, y⟩ <;> rfl
@[simp] theorem sIf.ap (t : Et) (a b : Es) (ds : List Sl) (w : Wd) : sIf t a b ds w = if1 a b ds (t ds w) := by
  unfold sIf
  rcases t ds w with _ | ⟨x, y⟩ <;> rfl
@[simp] theorem aNil.ap (ds : List Sl) (w : Wd) : aNil ds w = some ([], w) := rfl
def ac2 (a : D) : Option (List D × Wd) → Option (List D × Wd)
  | some (xs, w2) => some (a :: xs, w2)
  | none => none
@[simp] theorem ac2.on (a : D)  (xs : List D) (w2 : Wd) : ac2 a (some (xs, w2)) = some (a :: xs, w2) := rfl
def ac1 (g : Ef) (ds : List Sl) : Option (D × Wd) → Option (List D × Wd)
  | some (a, w1) => ac2 a (g ds w1)
  | none => none
@[simp] theorem ac1.on (g : Ef) (ds : List Sl)  (a : D) (w1 : Wd) : ac1 g ds (some (a, w1)) = ac2 a (g ds w1) := rfl
@[simp] theorem aCons.ap (f : Ev) (g : Ef) (ds : List Sl) (w : Wd) : aCons f g ds w = ac1 g ds (f ds w) := by
  unfold aCons
  rcases f ds w with _ | ⟨a, w1⟩
  · rfl
  · show (g ds w1).bind _ = ac2 a (g ds w1)
    rcases g ds w1 with _ | ⟨b, w2⟩ <;> rfl
def st2 : D → Option (List D × Wd) → Option (List D × Wd)
  | .lst xs, some (ys, w2) => some (xs ++ ys, w2)
  | .tup xs, some (ys, w2) => some (xs ++ ys, w2)
  | _, _ => none
@[simp] theorem st2.on1 (xs ys : List D) (w2 : Wd) : st2 (.lst xs) (some (ys, w2)) = some (xs ++ ys, w2) := rfl
@[simp] theorem st2.on2 (xs ys : List D) (w2 : Wd) : st2 (.tup xs) (some (ys, w2)) = some (xs ++ ys, w2) := rfl
def st1 (g : Ef) (ds : List Sl) : Option (D × Wd) → Option (List D × Wd)
  | some (a, w1) => st2 a (g ds w1)
  | none => none
@[simp] theorem st1.on (g : Ef) (ds : List Sl)  (a : D) (w1 : Wd) : st1 g ds (some (a, w1)) = st2 a (g ds w1) := rfl
@[simp] theorem aStar.ap (f : Ev) (g : Ef) (ds : List Sl) (w : Wd) : aStar f g ds w = st1 g ds (f ds w) := by
  unfold aStar
  rcases f ds w with _ | ⟨a, w1⟩
  · rfl
  · show (g ds w1).bind _ = st2 a (g ds w1)
    rcases g ds w1 with _ | ⟨b, w2⟩ <;> cases a <;> rfl
def tp1  : Option (List D × Wd) → Option (D × Wd)
  | some (xs, w1) => if xs.length ≤ line then some (.tup xs, w1) else none
  | none => none
@[simp] theorem tp1.on   (xs : List D) (w1 : Wd) : tp1  (some (xs, w1)) = if xs.length ≤ line then some (.tup xs, w1) else none := rfl
@[simp] theorem eTup.ap (f : Ef) (ds : List Sl) (w : Wd) : eTup f ds w = tp1 (f ds w) := by
  unfold eTup
  rcases f ds w with _ | ⟨a, w1⟩ <;> rfl
def ls1  : Option (List D × Wd) → Option (List D × Wd)
  | some (xs, w1) => if xs.length ≤ line then some (xs, w1) else none
  | none => none
@[simp] theorem ls1.on   (xs : List D) (w1 : Wd) : ls1  (some (xs, w1)) = if xs.length ≤ line then some (xs, w1) else none := rfl
@[simp] theorem fLst.ap (f : Ef) (ds : List Sl) (w : Wd) : fLst f ds w = ls1 (f ds w) := by
  unfold fLst
  rcases f ds w with _ | ⟨a, w1⟩ <;> rfl
def sl3 : D → Option Int → Option (Option Int × Wd) → Option (List D × Wd)
  | .lst xs, lo, some (hi, w) => some (cutD xs lo hi, w)
  | _, _, _ => none
@[simp] theorem sl3.on (xs : List D) (lo hi : Option Int) (w : Wd) : sl3 (.lst xs) lo (some (hi, w)) = some (cutD xs lo hi, w) := rfl
def sl2 (a : D) (h : Eo) (ds : List Sl) : Option (Option Int × Wd) → Option (List D × Wd)
  | some (lo, w) => sl3 a lo (h ds w)
  | none => none
@[simp] theorem sl2.on (a : D) (h : Eo) (ds : List Sl) (lo : Option Int) (w : Wd) : sl2 a h ds (some (lo, w)) = sl3 a lo (h ds w) := rfl
def sl1 (l h : Eo) (ds : List Sl) : Option (D × Wd) → Option (List D × Wd)
  | some (a, w1) => sl2 a h ds (l ds w1)
  | none => none
@[simp] theorem sl1.on (l h : Eo) (ds : List Sl)  (a : D) (w1 : Wd) : sl1 l h ds (some (a, w1)) = sl2 a h ds (l ds w1) := rfl
@[simp] theorem fSl.ap (f : Ev) (l h : Eo) (ds : List Sl) (w : Wd) : fSl f l h ds w = sl1 l h ds (f ds w) := by
  unfold fSl
  rcases f ds w with _ | ⟨a, w1⟩
  · rfl
  · show (l ds w1).bind _ = sl2 a h ds (l ds w1)
    rcases l ds w1 with _ | ⟨b, w2⟩
    · rfl
    · show (h ds w2).bind _ = sl3 a b (h ds w2)
      rcases h ds w2 with _ | ⟨c, w3⟩ <;> cases a <;> rfl
def su3 : D → Option Int → Option (Option Int × Wd) → Option (D × Wd)
  | .tup xs, lo, some (hi, w) => some (.tup (cutD xs lo hi), w)
  | _, _, _ => none
@[simp] theorem su3.on (xs : List D) (lo hi : Option Int) (w : Wd) : su3 (.tup xs) lo (some (hi, w)) = some (.tup (cutD xs lo hi), w) := rfl
def su2 (a : D) (h : Eo) (ds : List Sl) : Option (Option Int × Wd) → Option (D × Wd)
  | some (lo, w) => su3 a lo (h ds w)
  | none => none
@[simp] theorem su2.on (a : D) (h : Eo) (ds : List Sl) (lo : Option Int) (w : Wd) : su2 a h ds (some (lo, w)) = su3 a lo (h ds w) := rfl
def su1 (l h : Eo) (ds : List Sl) : Option (D × Wd) → Option (D × Wd)
  | some (a, w1) => su2 a h ds (l ds w1)
  | none => none
@[simp] theorem su1.on (l h : Eo) (ds : List Sl)  (a : D) (w1 : Wd) : su1 l h ds (some (a, w1)) = su2 a h ds (l ds w1) := rfl
@[simp] theorem eSlT.ap (f : Ev) (l h : Eo) (ds : List Sl) (w : Wd) : eSlT f l h ds w = su1 l h ds (f ds w) := by
  unfold eSlT
  rcases f ds w with _ | ⟨a, w1⟩
  · rfl
  · show (l ds w1).bind _ = su2 a h ds (l ds w1)
    rcases l ds w1 with _ | ⟨b, w2⟩
    · rfl
    · show (h ds w2).bind _ = su3 a b (h ds w2)
      rcases h ds w2 with _ | ⟨c, w3⟩ <;> cases a <;> rfl
def rv1 : Option (D × Wd) → Option (List D × Wd)
  | some (.lst xs, w1) => some (xs.reverse, w1)
  | _ => none
@[simp] theorem rv1.on0 (xs : List D) (w1 : Wd) : rv1 (some (.lst xs, w1)) = some (xs.reverse, w1) := rfl
@[simp] theorem fRev.ap (f : Ev) (ds : List Sl) (w : Wd) : fRev f ds w = rv1 (f ds w) := by
  unfold fRev
  rcases f ds w with _ | ⟨x, y⟩
  · rfl
  · cases x <;> rfl
def it1 : Option (D × Wd) → Option (List D × Wd)
  | some (.lst xs, w1) => some (xs, w1)
  | some (.tup xs, w1) => some (xs, w1)
  | _ => none
@[simp] theorem it1.on0 (xs : List D) (w1 : Wd) : it1 (some (.lst xs, w1)) = some (xs, w1) := rfl
@[simp] theorem it1.on1 (xs : List D) (w1 : Wd) : it1 (some (.tup xs, w1)) = some (xs, w1) := rfl
@[simp] theorem iItems.ap (f : Ev) (ds : List Sl) (w : Wd) : iItems f ds w = it1 (f ds w) := by
  unfold iItems
  rcases f ds w with _ | ⟨x, y⟩
  · rfl
  · cases x <;> rfl
def ie1 : Option (List D × Wd) → Option (List D × Wd)
  | some ([.lst xs], w1) => some (enumD 0 xs, w1)
  | some ([.tup xs], w1) => some (enumD 0 xs, w1)
  | _ => none
@[simp] theorem ie1.on0 (xs : List D) (w1 : Wd) : ie1 (some ([.lst xs], w1)) = some (enumD 0 xs, w1) := rfl
@[simp] theorem ie1.on1 (xs : List D) (w1 : Wd) : ie1 (some ([.tup xs], w1)) = some (enumD 0 xs, w1) := rfl
@[simp] theorem iEnumJ.ap (f : Ef) (ds : List Sl) (w : Wd) : iEnumJ f ds w = ie1 (f ds w) := by
  unfold iEnumJ
  rcases f ds w with _ | ⟨x, y⟩
  · rfl
  · unfold ie1
    dsimp only [Option.bind_some]
    split <;> first | rfl | (rename_i h1 h2; split <;> first | rfl | (exfalso; simp_all))
def iz1 : Option (List D × Wd) → Option (List D × Wd)
  | some ([.lst xs, .lst ys], w1) => some (zipD xs ys, w1)
  | some ([.tup xs, .tup ys], w1) => some (zipD xs ys, w1)
  | _ => none
@[simp] theorem iz1.on0 (xs ys : List D) (w1 : Wd) : iz1 (some ([.lst xs, .lst ys], w1)) = some (zipD xs ys, w1) := rfl
@[simp] theorem iz1.on1 (xs ys : List D) (w1 : Wd) : iz1 (some ([.tup xs, .tup ys], w1)) = some (zipD xs ys, w1) := rfl
@[simp] theorem iZipJ.ap (f : Ef) (ds : List Sl) (w : Wd) : iZipJ f ds w = iz1 (f ds w) := by
  unfold iZipJ
  rcases f ds w with _ | ⟨x, y⟩
  · rfl
  · unfold iz1
    dsimp only [Option.bind_some]
    split <;> first | rfl | (rename_i h1 h2; split <;> first | rfl | (exfalso; simp_all))
def ca1 (g : List D → Option D) : Option (List D × Wd) → Option (D × Wd)
  | some (xs, w1) => vD w1 (g xs)
  | none => none
@[simp] theorem ca1.on (g : List D → Option D)  (xs : List D) (w1 : Wd) : ca1 g (some (xs, w1)) = vD w1 (g xs) := rfl
@[simp] theorem eCal.ap (g : List D → Option D) (f : Ef) (ds : List Sl) (w : Wd) : eCal g f ds w = ca1 g (f ds w) := by
  unfold eCal
  rcases f ds w with _ | ⟨a, w1⟩
  · rfl
  · show (g a).bind _ = vD w1 (g a)
    rcases g a with _ | b <;> rfl
def cl1 (g : List D → Option (List D)) : Option (List D × Wd) → Option (List D × Wd)
  | some (xs, w1) => vLs w1 (g xs)
  | none => none
@[simp] theorem cl1.on (g : List D → Option (List D))  (xs : List D) (w1 : Wd) : cl1 g (some (xs, w1)) = vLs w1 (g xs) := rfl
@[simp] theorem fCal.ap (g : List D → Option (List D)) (f : Ef) (ds : List Sl) (w : Wd) : fCal g f ds w = cl1 g (f ds w) := by
  unfold fCal
  rcases f ds w with _ | ⟨a, w1⟩
  · rfl
  · show (g a).bind _ = vLs w1 (g a)
    rcases g a with _ | b <;> rfl
@[simp] theorem eLen.ap (f : Ef) (ds : List Sl) (w : Wd) : eLen f ds w = ca1 gLen (f ds w) := eCal.ap gLen f ds w
@[simp] theorem eMin.ap (f : Ef) (ds : List Sl) (w : Wd) : eMin f ds w = ca1 gMin (f ds w) := eCal.ap gMin f ds w
@[simp] theorem eMax.ap (f : Ef) (ds : List Sl) (w : Wd) : eMax f ds w = ca1 gMax (f ds w) := eCal.ap gMax f ds w
@[simp] theorem eInt.ap (f : Ef) (ds : List Sl) (w : Wd) : eInt f ds w = ca1 gInt (f ds w) := eCal.ap gInt f ds w
@[simp] theorem eSum.ap (f : Ef) (ds : List Sl) (w : Wd) : eSum f ds w = ca1 gSum (f ds w) := eCal.ap gSum f ds w
@[simp] theorem eAll.ap (f : Ef) (ds : List Sl) (w : Wd) : eAll f ds w = ca1 gAll (f ds w) := eCal.ap gAll f ds w
@[simp] theorem eAny.ap (f : Ef) (ds : List Sl) (w : Wd) : eAny f ds w = ca1 gAny (f ds w) := eCal.ap gAny f ds w
@[simp] theorem eTuple.ap (f : Ef) (ds : List Sl) (w : Wd) : eTuple f ds w = ca1 gTuple (f ds w) := eCal.ap gTuple f ds w
@[simp] theorem eIsi.ap (f : Ef) (ds : List Sl) (w : Wd) : eIsi f ds w = ca1 gIsi (f ds w) := eCal.ap gIsi f ds w
@[simp] theorem fList.ap (f : Ef) (ds : List Sl) (w : Wd) : fList f ds w = cl1 gfList (f ds w) := fCal.ap gfList f ds w
@[simp] theorem fSorted.ap (f : Ef) (ds : List Sl) (w : Wd) : fSorted f ds w = cl1 gfSorted (f ds w) := fCal.ap gfSorted f ds w
def rgF (a b c : D) (w : Wd) : Option (List D × Wd) := match a, b, c with
  | .int i, .int j, .int k => if small2 i j k then some (rgD i k (rgN i j k), w) else none
  | _, _, _ => none
@[simp] theorem rgF.on (i j k : Int) (w : Wd) : rgF (.int i) (.int j) (.int k) w = if small2 i j k then some (rgD i k (rgN i j k), w) else none := rfl
def rg3 (a b : D) : Option (D × Wd) → Option (List D × Wd)
  | some (c, w3) => rgF a b c w3
  | none => none
@[simp] theorem rg3.on (a b : D)  (c : D) (w3 : Wd) : rg3 a b (some (c, w3)) = rgF a b c w3 := rfl
def rg2 (a : D) (fc : Ev) (ds : List Sl) : Option (D × Wd) → Option (List D × Wd)
  | some (b, w2) => rg3 a b (fc ds w2)
  | none => none
@[simp] theorem rg2.on (a : D) (fc : Ev) (ds : List Sl)  (b : D) (w2 : Wd) : rg2 a fc ds (some (b, w2)) = rg3 a b (fc ds w2) := rfl
def rg1 (fb fc : Ev) (ds : List Sl) : Option (D × Wd) → Option (List D × Wd)
  | some (a, w1) => rg2 a fc ds (fb ds w1)
  | none => none
@[simp] theorem rg1.on (fb fc : Ev) (ds : List Sl)  (a : D) (w1 : Wd) : rg1 fb fc ds (some (a, w1)) = rg2 a fc ds (fb ds w1) := rfl
@[simp] theorem fRg.ap (fa fb fc : Ev) (ds : List Sl) (w : Wd) : fRg fa fb fc ds w = rg1 fb fc ds (fa ds w) := by
  unfold fRg
  rcases fa ds w with _ | ⟨a, w1⟩
  · rfl
  · show (fb ds w1).bind _ = rg2 a fc ds (fb ds w1)
    rcases fb ds w1 with _ | ⟨b, w2⟩
    · rfl
    · show (fc ds w2).bind _ = rg3 a b (fc ds w2)
      rcases fc ds w2 with _ | ⟨c, w3⟩ <;> rfl
def irF (a b : D) (w : Wd) : Option (List D × Wd) := match a, b with
  | .int i, .int j => if -(2 ^ 62) ≤ i ∧ i < 2 ^ 62 ∧ -(2 ^ 62) ≤ j ∧ j < 2 ^ 62 then some (rgD i 1 (j - i).toNat, w) else none
  | _, _ => none
theorem irF.on (i j : Int) (w : Wd) (h : -(2 ^ 62) ≤ i ∧ i < 2 ^ 62 ∧ -(2 ^ 62) ≤ j ∧ j < 2 ^ 62) : irF (.int i) (.int j) w = some (rgD i 1 (j - i).toNat, w) := if_pos h
def ir2 (a : D) : Option (D × Wd) → Option (List D × Wd)
  | some (b, w2) => irF a b w2
  | none => none
@[simp] theorem ir2.on (a : D)  (b : D) (w2 : Wd) : ir2 a (some (b, w2)) = irF a b w2 := rfl
def ir1 (fb : Ev) (ds : List Sl) : Option (D × Wd) → Option (List D × Wd)
  | some (a, w1) => ir2 a (fb ds w1)
  | none => none
@[simp] theorem ir1.on (fb : Ev) (ds : List Sl)  (a : D) (w1 : Wd) : ir1 fb ds (some (a, w1)) = ir2 a (fb ds w1) := rfl
@[simp] theorem iRg.ap (fa fb : Ev) (ds : List Sl) (w : Wd) : iRg fa fb ds w = ir1 fb ds (fa ds w) := by
  unfold iRg
  rcases fa ds w with _ | ⟨a, w1⟩
  · rfl
  · show (fb ds w1).bind _ = ir2 a (fb ds w1)
    rcases fb ds w1 with _ | ⟨b, w2⟩ <;> rfl
def isi3 (w : Wd) : Option Bool → Option Bool → Option (D × Wd)
  | some p, some q => some (.bl (p || q), w)
  | _, _ => none
@[simp] theorem isi3.on (w : Wd) (p q : Bool) : isi3 w (some p) (some q) = some (.bl (p || q), w) := rfl
def isi1 (n m : String) : Option (D × Wd) → Option (D × Wd)
  | some (a, w1) => isi3 w1 (isiD a n) (isiD a m)
  | none => none
@[simp] theorem isi1.on (n m : String)  (a : D) (w1 : Wd) : isi1 n m (some (a, w1)) = isi3 w1 (isiD a n) (isiD a m) := rfl
@[simp] theorem eIsi2.ap (f : Ev) (n m : String) (ds : List Sl) (w : Wd) : eIsi2 f n m ds w = isi1 n m (f ds w) := by
  unfold eIsi2
  rcases f ds w with _ | ⟨a, w1⟩
  · rfl
  · show (isiD a n).bind _ = isi3 w1 (isiD a n) (isiD a m)
    rcases isiD a n with _ | b <;> rcases isiD a m with _ | c <;> rfl
@[simp] theorem gN.ap (i : Nat) (ds : List Sl) (d : D) : gN i ds d = some (ds.set i (.d d)) := rfl
@[simp] theorem gsNil.ap (ds : List Sl) : gsNil ds [] = some ds := rfl
def gs1 (h : Egs) (r : List D) : Option (List Sl) → Option (List Sl)
  | some ds1 => h ds1 r
  | none => none
@[simp] theorem gs1.on (h : Egs) (r : List D) (ds1 : List Sl) : gs1 h r (some ds1) = h ds1 r := rfl
@[simp] theorem gsCons.ap (g : Eg) (h : Egs) (ds : List Sl) (x : D) (r : List D) : gsCons g h ds (x :: r) = gs1 h r (g ds x) := by
  show (g ds x).bind _ = _
  rcases g ds x with _ | y <;> rfl
@[simp] theorem gT.ap (n : Nat) (h : Egs) (ds : List Sl) (xs : List D) : gT n h ds (.tup xs) = if xs.length = n then h ds xs else none := rfl
def lc2 : Option (List D × Wd) → Option (List D × Wd)
  | some (xs, w1) => if xs.length ≤ line then some (xs, w1) else none
  | none => none
@[simp] theorem lc2.on (xs : List D) (w1 : Wd) : lc2 (some (xs, w1)) = if xs.length ≤ line then some (xs, w1) else none := rfl
def lc1 (tg : Eg) (c : Et) (e : Ev) (ds : List Sl) : Option (List D × Wd) → Option (List D × Wd)
  | some (xs, w1) => lc2 (lcGo tg c e ds xs w1)
  | none => none
@[simp] theorem lc1.on (tg : Eg) (c : Et) (e : Ev) (ds : List Sl) (xs : List D) (w1 : Wd) : lc1 tg c e ds (some (xs, w1)) = lc2 (lcGo tg c e ds xs w1) := rfl
@[simp] theorem fLc.ap (src : Ef) (tg : Eg) (c : Et) (e : Ev) (vs : List Nat) (ds : List Sl) (w : Wd) : fLc src tg c e vs ds w = lc1 tg c e (wipeS ds vs) (src ds w) := by
  unfold fLc
  rcases src ds w with _ | ⟨xs, w1⟩
  · rfl
  · show (lcGo tg c e (wipeS ds vs) xs w1).bind _ = lc2 (lcGo tg c e (wipeS ds vs) xs w1)
    rcases lcGo tg c e (wipeS ds vs) xs w1 with _ | ⟨b, w2⟩ <;> rfl
@[simp] theorem wipeS_nil (ds : List Sl) : wipeS ds [] = ds := rfl
@[simp] theorem wipeS_cons (ds : List Sl) (v : Nat) (vs : List Nat) : wipeS ds (v :: vs) = (wipeS ds vs).set v .no := rfl
@[simp] theorem tYesJ.ap (ds : List Sl) (w : Wd) : tYesJ ds w = some (true, w) := rfl
@[simp] theorem sNil.ap (ds : List Sl) (w : Wd) : sNil ds w = some (.nx ds w) := rfl
@[simp] theorem sPass.ap (ds : List Sl) (w : Wd) : sPass ds w = some (.nx ds w) := rfl
@[simp] theorem sBk.ap (ds : List Sl) (w : Wd) : sBk ds w = some (.bk ds w) := rfl
@[simp] theorem sCt.ap (ds : List Sl) (w : Wd) : sCt ds w = some (.ct ds w) := rfl
def sq1 (g : Es) : Option Out → Option Out
  | some (.nx ds w) => g ds w
  | some (.rt d w) => some (.rt d w)
  | some (.bk ds w) => some (.bk ds w)
  | some (.ct ds w) => some (.ct ds w)
  | none => none
@[simp] theorem sq1.on1 (g : Es) (ds : List Sl) (w : Wd) : sq1 g (some (.nx ds w)) = g ds w := rfl
@[simp] theorem sq1.on2 (g : Es) (d : D) (w : Wd) : sq1 g (some (.rt d w)) = some (.rt d w) := rfl
@[simp] theorem sq1.on3 (g : Es) (ds : List Sl) (w : Wd) : sq1 g (some (.bk ds w)) = some (.bk ds w) := rfl
@[simp] theorem sq1.on4 (g : Es) (ds : List Sl) (w : Wd) : sq1 g (some (.ct ds w)) = some (.ct ds w) := rfl
@[simp] theorem sSeq.ap (f g : Es) (ds : List Sl) (w : Wd) : sSeq f g ds w = sq1 g (f ds w) := by
  unfold sSeq
  rcases f ds w with _ | o
  · rfl
  · cases o <;> rfl
def fz1 (i : Nat) (g : Es) (ds : List Sl) (w : Wd) : Option Sl → Option Out
  | some (.own xs) => g (ds.set i (.d (.lst xs))) w
  | _ => g ds w
@[simp] theorem fz1.on1 (i : Nat) (g : Es) (ds : List Sl) (w : Wd) (xs : List D) : fz1 i g ds w (some (.own xs)) = g (ds.set i (.d (.lst xs))) w := rfl
@[simp] theorem fz1.on2 (i : Nat) (g : Es) (ds : List Sl) (w : Wd) (x : D) : fz1 i g ds w (some (.d x)) = g ds w := rfl
@[simp] theorem fz1.on3 (i : Nat) (g : Es) (ds : List Sl) (w : Wd) : fz1 i g ds w (some .no) = g ds w := rfl
@[simp] theorem sFrz.ap (i : Nat) (g : Es) (ds : List Sl) (w : Wd) : sFrz i g ds w = fz1 i g ds w ds[i]? := by
  unfold sFrz fz1
  rcases ds[i]? with _ | s
  · rfl
  · cases s <;> rfl
def set1 (i : Nat) (ds : List Sl) : Option (D × Wd) → Option Out
  | some (d, w1) => some (.nx (ds.set i (.d d)) w1)
  | none => none
@[simp] theorem set1.on (i : Nat) (ds : List Sl) (d : D) (w1 : Wd) : set1 i ds (some (d, w1)) = some (.nx (ds.set i (.d d)) w1) := rfl
@[simp] theorem sSet.ap (i : Nat) (f : Ev) (ds : List Sl) (w : Wd) : sSet i f ds w = set1 i ds (f ds w) := by
  unfold sSet
  rcases f ds w with _ | ⟨d, w1⟩ <;> rfl
def set2 (i : Nat) (ds : List Sl) : Option (List D × Wd) → Option Out
  | some (d, w1) => some (.nx (ds.set i (.own d)) w1)
  | none => none
@[simp] theorem set2.on (i : Nat) (ds : List Sl) (d : List D) (w1 : Wd) : set2 i ds (some (d, w1)) = some (.nx (ds.set i (.own d)) w1) := rfl
@[simp] theorem sSetO.ap (i : Nat) (f : Ef) (ds : List Sl) (w : Wd) : sSetO i f ds w = set2 i ds (f ds w) := by
  unfold sSetO
  rcases f ds w with _ | ⟨d, w1⟩ <;> rfl
def rt1 : Option (D × Wd) → Option Out
  | some (d, w1) => some (.rt d w1)
  | none => none
@[simp] theorem rt1.on (d : D) (w1 : Wd) : rt1 (some (d, w1)) = some (.rt d w1) := rfl
@[simp] theorem sRet.ap (f : Ev) (ds : List Sl) (w : Wd) : sRet f ds w = rt1 (f ds w) := by
  unfold sRet
  rcases f ds w with _ | ⟨d, w1⟩ <;> rfl
def dr1 (ds : List Sl) : Option (D × Wd) → Option Out
  | some (_, w1) => some (.nx ds w1)
  | none => none
@[simp] theorem dr1.on (ds : List Sl) (d : D) (w1 : Wd) : dr1 ds (some (d, w1)) = some (.nx ds w1) := rfl
@[simp] theorem sDrop.ap (f : Ev) (ds : List Sl) (w : Wd) : sDrop f ds w = dr1 ds (f ds w) := by
  unfold sDrop
  rcases f ds w with _ | ⟨d, w1⟩ <;> rfl
def fo1 (tg : Eg) (body : Es) (ds : List Sl) : Option (List D × Wd) → Option Out
  | some (xs, w1) => forGo tg body xs ds w1
  | none => none
@[simp] theorem fo1.on (tg : Eg) (body : Es) (ds : List Sl) (xs : List D) (w1 : Wd) : fo1 tg body ds (some (xs, w1)) = forGo tg body xs ds w1 := rfl
@[simp] theorem sFor.ap (src : Ef) (tg : Eg) (body : Es) (ds : List Sl) (w : Wd) : sFor src tg body ds w = fo1 tg body ds (src ds w) := by
  unfold sFor
  rcases src ds w with _ | ⟨d, w1⟩ <;> rfl
def owT (ds : List Sl) (i : Nat) (f : List D → Option (List D)) : Option Sl → Option (List Sl)
  | some (.own xs) => (f xs).bind fun ys => some (ds.set i (.own ys))
  | some (.mu k xs) => (f xs).bind fun ys => some (ds.set i (.mu k ys))
  | _ => none
def nx1 (w : Wd) : Option (List Sl) → Option Out
  | some ds => some (.nx ds w)
  | none => none
@[simp] theorem nx1.on (w : Wd) (ds : List Sl) : nx1 w (some ds) = some (.nx ds w) := rfl
def stO (ds : List Sl) (i : Nat) : Option (List D) → Option (List Sl)
  | some xs => some (ds.set i (.own xs))
  | none => none
@[simp] theorem stO.on (ds : List Sl) (i : Nat) (xs : List D) : stO ds i (some xs) = some (ds.set i (.own xs)) := rfl
def stM (ds : List Sl) (i k : Nat) : Option (List D) → Option (List Sl)
  | some xs => some (ds.set i (.mu k xs))
  | none => none
@[simp] theorem stM.on (ds : List Sl) (i k : Nat) (xs : List D) : stM ds i k (some xs) = some (ds.set i (.mu k xs)) := rfl
def apO (ds : List Sl) (i : Nat) (d : D) : Option Sl → Option (List Sl)
  | some (.own xs) => stO ds i (if xs.length < line then some (xs ++ [d]) else none)
  | some (.mu k xs) => stM ds i k (if xs.length < line then some (xs ++ [d]) else none)
  | _ => none
@[simp] theorem apO.on1 (ds : List Sl) (i : Nat) (d : D) (xs : List D) : apO ds i d (some (.own xs)) = stO ds i (if xs.length < line then some (xs ++ [d]) else none) := rfl
@[simp] theorem apO.on2 (ds : List Sl) (i : Nat) (d : D) (k : Nat) (xs : List D) : apO ds i d (some (.mu k xs)) = stM ds i k (if xs.length < line then some (xs ++ [d]) else none) := rfl
def ap1 (i : Nat) (ds : List Sl) : Option (D × Wd) → Option Out
  | some (d, w1) => nx1 w1 (apO ds i d ds[i]?)
  | none => none
@[simp] theorem ap1.on (i : Nat) (ds : List Sl) (d : D) (w1 : Wd) : ap1 i ds (some (d, w1)) = nx1 w1 (apO ds i d ds[i]?) := rfl
theorem ownTo_eq (ds : List Sl) (i : Nat) (d : D) : (ownTo ds i fun xs => if xs.length < line then some (xs ++ [d]) else none) = apO ds i d ds[i]? := by
  unfold ownTo apO
  rcases ds[i]? with _ | s
  · rfl
  · cases s <;> try rfl
    · rename_i xs
      dsimp only
      by_cases h : xs.length < line
      · rw [if_pos h]; rfl
      · rw [if_neg h]; rfl
    · rename_i k xs
      dsimp only
      by_cases h : xs.length < line
      · rw [if_pos h]; rfl
      · rw [if_neg h]; rfl
@[simp] theorem sApp.ap (i : Nat) (f : Ev) (ds : List Sl) (w : Wd) : sApp i f ds w = ap1 i ds (f ds w) := by
  unfold sApp
  rcases f ds w with _ | ⟨d, w1⟩
  · rfl
  · show (ownTo ds i fun xs => if xs.length < line then some (xs ++ [d]) else none).bind _ = nx1 w1 (apO ds i d ds[i]?)
    rw [ownTo_eq]
    rcases apO ds i d ds[i]? with _ | y <;> rfl
def gn1 (w : Wd) : Option (List Sl) → Option (List Sl × Wd)
  | some ds => some (ds, w)
  | none => none
@[simp] theorem gn1.on (w : Wd) (ds : List Sl) : gn1 w (some ds) = some (ds, w) := rfl
@[simp] theorem goN.ap (g : Eg) (ds : List Sl) (w : Wd) (d : D) : goN g ds w d = gn1 w (g ds d) := by
  unfold goN
  rcases g ds d with _ | y <;> rfl
def putI (xs : List D) (d : D) : Option Nat → Option (List D)
  | some j => some (xs.set j d)
  | none => none
@[simp] theorem putI.on (xs : List D) (d : D) (j : Nat) : putI xs d (some j) = some (xs.set j d) := rfl
def suO (ds : List Sl) (i : Nat) (k : Int) (d : D) : Option Sl → Option (List Sl)
  | some (.own xs) => stO ds i (putI xs d (ixN xs.length k))
  | some (.mu m xs) => stM ds i m (putI xs d (ixN xs.length k))
  | _ => none
@[simp] theorem suO.on1 (ds : List Sl) (i : Nat) (k : Int) (d : D) (xs : List D) : suO ds i k d (some (.own xs)) = stO ds i (putI xs d (ixN xs.length k)) := rfl
@[simp] theorem suO.on2 (ds : List Sl) (i : Nat) (k : Int) (d : D) (m : Nat) (xs : List D) : suO ds i k d (some (.mu m xs)) = stM ds i m (putI xs d (ixN xs.length k)) := rfl
def sb1 (i : Nat) (ds : List Sl) (d : D) : Option (D × Wd) → Option (List Sl × Wd)
  | some (.int k, w1) => gn1 w1 (suO ds i k d ds[i]?)
  | _ => none
@[simp] theorem sb1.on (i : Nat) (ds : List Sl) (d : D) (k : Int) (w1 : Wd) : sb1 i ds d (some (.int k, w1)) = gn1 w1 (suO ds i k d ds[i]?) := rfl
theorem ownTo_eq2 (ds : List Sl) (i : Nat) (k : Int) (d : D) : (ownTo ds i fun xs => (ixN xs.length k).bind fun j => some (xs.set j d)) = suO ds i k d ds[i]? := by
  unfold ownTo suO
  rcases ds[i]? with _ | s
  · rfl
  · cases s <;> try rfl
    · rename_i xs
      dsimp only
      rcases ixN xs.length k with _ | j <;> rfl
    · rename_i m xs
      dsimp only
      rcases ixN xs.length k with _ | j <;> rfl
@[simp] theorem goSub.ap (i : Nat) (f : Ev) (ds : List Sl) (w : Wd) (d : D) : goSub i f ds w d = sb1 i ds d (f ds w) := by
  unfold goSub
  rcases f ds w with _ | ⟨x, w1⟩
  · rfl
  · cases x <;> try rfl
    rename_i k
    show (ownTo ds i fun xs => (ixN xs.length k).bind fun j => some (xs.set j d)).bind _ = gn1 w1 (suO ds i k d ds[i]?)
    rw [ownTo_eq2]
    rcases suO ds i k d ds[i]? with _ | y <;> rfl
@[simp] theorem gosNil.ap (ds : List Sl) (w : Wd) : gosNil ds w [] = some (ds, w) := rfl
def go1 (h : EgsO) (r : List D) : Option (List Sl × Wd) → Option (List Sl × Wd)
  | some (ds1, w1) => h ds1 w1 r
  | none => none
@[simp] theorem go1.on (h : EgsO) (r : List D) (ds1 : List Sl) (w1 : Wd) : go1 h r (some (ds1, w1)) = h ds1 w1 r := rfl
@[simp] theorem gosCons.ap (g : EgO) (h : EgsO) (ds : List Sl) (w : Wd) (x : D) (r : List D) : gosCons g h ds w (x :: r) = go1 h r (g ds w x) := by
  show (g ds w x).bind _ = _
  rcases g ds w x with _ | ⟨y, z⟩ <;> rfl
@[simp] theorem goT.ap (n : Nat) (h : EgsO) (ds : List Sl) (w : Wd) (xs : List D) : goT n h ds w (.tup xs) = if xs.length = n then h ds w xs else none := rfl
def ag2 : Option (List Sl × Wd) → Option Out
  | some (ds, w) => some (.nx ds w)
  | none => none
@[simp] theorem ag2.on (ds : List Sl) (w : Wd) : ag2 (some (ds, w)) = some (.nx ds w) := rfl
def ag1 (g : EgO) (ds : List Sl) : Option (D × Wd) → Option Out
  | some (d, w1) => ag2 (g ds w1 d)
  | none => none
@[simp] theorem ag1.on (g : EgO) (ds : List Sl) (d : D) (w1 : Wd) : ag1 g ds (some (d, w1)) = ag2 (g ds w1 d) := rfl
@[simp] theorem sAsg.ap (f : Ev) (g : EgO) (ds : List Sl) (w : Wd) : sAsg f g ds w = ag1 g ds (f ds w) := by
  unfold sAsg
  rcases f ds w with _ | ⟨d, w1⟩
  · rfl
  · show (g ds w1 d).bind _ = ag2 (g ds w1 d)
    rcases g ds w1 d with _ | ⟨y, z⟩ <;> rfl
@[simp] theorem pNil.ap (ds : List Sl) (w : Wd) : pNil ds w = some ([], w) := rfl
def pc2 (u : Sl) : Option (List Sl × Wd) → Option (List Sl × Wd)
  | some (ts, w) => some (u :: ts, w)
  | none => none
@[simp] theorem pc2.on (u : Sl) (ts : List Sl) (w : Wd) : pc2 u (some (ts, w)) = some (u :: ts, w) := rfl
def pd1 (g : Ep) (ds : List Sl) : Option (D × Wd) → Option (List Sl × Wd)
  | some (d, w1) => pc2 (.d d) (g ds w1)
  | none => none
@[simp] theorem pd1.on (g : Ep) (ds : List Sl) (d : D) (w1 : Wd) : pd1 g ds (some (d, w1)) = pc2 (.d d) (g ds w1) := rfl
@[simp] theorem pD.ap (f : Ev) (g : Ep) (ds : List Sl) (w : Wd) : pD f g ds w = pd1 g ds (f ds w) := by
  unfold pD
  rcases f ds w with _ | ⟨d, w1⟩
  · rfl
  · show (g ds w1).bind _ = pc2 (.d d) (g ds w1)
    rcases g ds w1 with _ | ⟨y, z⟩ <;> rfl
def po1 (g : Ep) (ds : List Sl) : Option (List D × Wd) → Option (List Sl × Wd)
  | some (d, w1) => pc2 (.own d) (g ds w1)
  | none => none
@[simp] theorem po1.on (g : Ep) (ds : List Sl) (d : List D) (w1 : Wd) : po1 g ds (some (d, w1)) = pc2 (.own d) (g ds w1) := rfl
@[simp] theorem pO.ap (f : Ef) (g : Ep) (ds : List Sl) (w : Wd) : pO f g ds w = po1 g ds (f ds w) := by
  unfold pO
  rcases f ds w with _ | ⟨d, w1⟩
  · rfl
  · show (g ds w1).bind _ = pc2 (.own d) (g ds w1)
    rcases g ds w1 with _ | ⟨y, z⟩ <;> rfl
def pr2 (i j : Nat) (ds : List Sl) : Option (List Sl × Wd) → Option Out
  | some ([a, b], w) => some (.nx ((ds.set i a).set j b) w)
  | _ => none
@[simp] theorem pr2.on (i j : Nat) (ds : List Sl) (a b : Sl) (w : Wd) : pr2 i j ds (some ([a, b], w)) = some (.nx ((ds.set i a).set j b) w) := rfl
@[simp] theorem sPar2.ap (i j : Nat) (f : Ep) (ds : List Sl) (w : Wd) : sPar2 i j f ds w = pr2 i j ds (f ds w) := by
  unfold sPar2
  rcases f ds w with _ | ⟨ts, w1⟩
  · rfl
  · rcases ts with _ | ⟨a, _ | ⟨b, _ | ⟨c, r⟩⟩⟩ <;> rfl
def pr3 (i j l : Nat) (ds : List Sl) : Option (List Sl × Wd) → Option Out
  | some ([a, b, c], w) => some (.nx (((ds.set i a).set j b).set l c) w)
  | _ => none
@[simp] theorem pr3.on (i j l : Nat) (ds : List Sl) (a b c : Sl) (w : Wd) : pr3 i j l ds (some ([a, b, c], w)) = some (.nx (((ds.set i a).set j b).set l c) w) := rfl
@[simp] theorem sPar3.ap (i j l : Nat) (f : Ep) (ds : List Sl) (w : Wd) : sPar3 i j l f ds w = pr3 i j l ds (f ds w) := by
  unfold sPar3
  rcases f ds w with _ | ⟨ts, w1⟩
  · rfl
  · rcases ts with _ | ⟨a, _ | ⟨b, _ | ⟨c, _ | ⟨d, r⟩⟩⟩⟩ <;> rfl
def au3 (i : Nat) (ds : List Sl) (w : Wd) : Option D → Option Out
  | some z => some (.nx (ds.set i (.d z)) w)
  | none => none
@[simp] theorem au3.on (i : Nat) (ds : List Sl) (w : Wd) (z : D) : au3 i ds w (some z) = some (.nx (ds.set i (.d z)) w) := rfl
def au2 (i : Nat) (g : D → D → Option D) (ds : List Sl) (x : D) : Option (D × Wd) → Option Out
  | some (d, w1) => au3 i ds w1 (g x d)
  | none => none
@[simp] theorem au2.on (i : Nat) (g : D → D → Option D) (ds : List Sl) (x d : D) (w1 : Wd) : au2 i g ds x (some (d, w1)) = au3 i ds w1 (g x d) := rfl
def au1 (i : Nat) (g : D → D → Option D) (f : Ev) (ds : List Sl) (w : Wd) : Option Sl → Option Out
  | some (.d x) => au2 i g ds x (f ds w)
  | _ => none
@[simp] theorem au1.on (i : Nat) (g : D → D → Option D) (f : Ev) (ds : List Sl) (w : Wd) (x : D) : au1 i g f ds w (some (.d x)) = au2 i g ds x (f ds w) := rfl
@[simp] theorem sAug.ap (i : Nat) (g : D → D → Option D) (f : Ev) (ds : List Sl) (w : Wd) : sAug i g f ds w = au1 i g f ds w ds[i]? := by
  unfold sAug au1
  rcases ds[i]? with _ | s
  · rfl
  · cases s <;> try rfl
    rename_i x
    dsimp only
    rcases f ds w with _ | ⟨d, w1⟩
    · rfl
    · show (g x d).bind _ = au3 i ds w1 (g x d)
      rcases g x d with _ | z <;> rfl
def di3 (w : Wd) : D → D → Option (D × Wd)
  | .draw, .int 0 => some (.lst (w.ns.map D.int), w)
  | .draw, .int 1 => some (.int 0, w)
  | .draw, .int 2 => some (.int w.c, w)
  | _, _ => none
@[simp] theorem di3.on0 (w : Wd) : di3 w .draw (.int 0) = some (.lst (w.ns.map D.int), w) := rfl
@[simp] theorem di3.on1 (w : Wd) : di3 w .draw (.int 1) = some (.int 0, w) := rfl
@[simp] theorem di3.on2 (w : Wd) : di3 w .draw (.int 2) = some (.int w.c, w) := rfl
def di2 (a : D) : Option (D × Wd) → Option (D × Wd)
  | some (b, w2) => di3 w2 a b
  | none => none
@[simp] theorem di2.on (a b : D) (w2 : Wd) : di2 a (some (b, w2)) = di3 w2 a b := rfl
def di1 (g : Ev) (ds : List Sl) : Option (D × Wd) → Option (D × Wd)
  | some (a, w1) => di2 a (g ds w1)
  | none => none
@[simp] theorem di1.on (g : Ev) (ds : List Sl) (a : D) (w1 : Wd) : di1 g ds (some (a, w1)) = di2 a (g ds w1) := rfl
@[simp] theorem eDrIx.ap (f g : Ev) (ds : List Sl) (w : Wd) : eDrIx f g ds w = di1 g ds (f ds w) := by
  unfold eDrIx
  rcases f ds w with _ | ⟨a, w1⟩
  · rfl
  · show (g ds w1).bind _ = di2 a (g ds w1)
    rcases g ds w1 with _ | ⟨b, w2⟩
    · rfl
    · rfl
def gd3 (ds : List Sl) (w : Wd) : D → D → D → Option (List Sl × Wd)
  | .draw, .int 2, .int c => some (ds, ⟨w.ns, c⟩)
  | _, _, _ => none
@[simp] theorem gd3.on (ds : List Sl) (w : Wd) (c : Int) : gd3 ds w .draw (.int 2) (.int c) = some (ds, ⟨w.ns, c⟩) := rfl
def gd2 (ds : List Sl) (d a : D) : Option (D × Wd) → Option (List Sl × Wd)
  | some (b, w2) => gd3 ds w2 a b d
  | none => none
@[simp] theorem gd2.on (ds : List Sl) (d a b : D) (w2 : Wd) : gd2 ds d a (some (b, w2)) = gd3 ds w2 a b d := rfl
def gd1 (g : Ev) (ds : List Sl) (d : D) : Option (D × Wd) → Option (List Sl × Wd)
  | some (a, w1) => gd2 ds d a (g ds w1)
  | none => none
@[simp] theorem gd1.on (g : Ev) (ds : List Sl) (d a : D) (w1 : Wd) : gd1 g ds d (some (a, w1)) = gd2 ds d a (g ds w1) := rfl
@[simp] theorem goDr.ap (f g : Ev) (ds : List Sl) (w : Wd) (d : D) : goDr f g ds w d = gd1 g ds d (f ds w) := by
  unfold goDr
  rcases f ds w with _ | ⟨a, w1⟩
  · rfl
  · show (g ds w1).bind _ = gd2 ds d a (g ds w1)
    rcases g ds w1 with _ | ⟨b, w2⟩
    · rfl
    · rfl
def ec1 (n : Nat) (G : Fn) : Option (List D × Wd) → Option (D × Wd)
  | some (xs, w1) => if xs.length = n then G xs w1 else none
  | none => none
@[simp] theorem ec1.on (n : Nat) (G : Fn) (xs : List D) (w1 : Wd) : ec1 n G (some (xs, w1)) = if xs.length = n then G xs w1 else none := rfl
@[simp] theorem eCall.ap (n : Nat) (G : Fn) (fs : Ef) (ds : List Sl) (w : Wd) : eCall n G fs ds w = ec1 n G (fs ds w) := by
  unfold eCall
  rcases fs ds w with _ | ⟨a, w1⟩ <;> rfl
def mt1 (g : D → Es) (ds : List Sl) : Option (D × Wd) → Option Out
  | some (d, w1) => g d ds w1
  | none => none
@[simp] theorem mt1.on (g : D → Es) (ds : List Sl) (d : D) (w1 : Wd) : mt1 g ds (some (d, w1)) = g d ds w1 := rfl
@[simp] theorem sMatch.ap (f : Ev) (g : D → Es) (ds : List Sl) (w : Wd) : sMatch f g ds w = mt1 g ds (f ds w) := by
  unfold sMatch
  rcases f ds w with _ | ⟨a, w1⟩ <;> rfl
@[simp] theorem mcCons.ap (xs : List Str) (fb : Es) (rest : D → Es) (z : Str) (ds : List Sl) (w : Wd) : mcCons xs fb rest (.str z) ds w = if z ∈ xs then fb ds w else rest (.str z) ds w := rfl
@[simp] theorem mcNil.ap (d : D) (ds : List Sl) (w : Wd) : mcNil d ds w = some (.nx ds w) := rfl
@[simp] theorem mcAll.ap (fb : Es) (d : D) (ds : List Sl) (w : Wd) : mcAll fb d ds w = fb ds w := rfl
def cmO (ds : List Sl) (i : Nat) : Option (List D × Wd) → Option Out
  | some (xs, w) => some (.nx (ds.set i (.own xs)) w)
  | none => none
@[simp] theorem cmO.on (ds : List Sl) (i : Nat) (xs : List D) (w : Wd) : cmO ds i (some (xs, w)) = some (.nx (ds.set i (.own xs)) w) := rfl
def cmM (ds : List Sl) (i k : Nat) : Option (List D × Wd) → Option Out
  | some (xs, w) => some (.nx (ds.set i (.mu k xs)) w)
  | none => none
@[simp] theorem cmM.on (ds : List Sl) (i k : Nat) (xs : List D) (w : Wd) : cmM ds i k (some (xs, w)) = some (.nx (ds.set i (.mu k xs)) w) := rfl
def cm2 (i n : Nat) (G : Fm) (ds : List Sl) (as : List D) (w : Wd) : Option Sl → Option Out
  | some (.own xs) => if as.length + 1 = n then cmO ds i (G xs as w) else none
  | some (.mu k xs) => if as.length + 1 = n then cmM ds i k (G xs as w) else none
  | _ => none
@[simp] theorem cm2.on1 (i n : Nat) (G : Fm) (ds : List Sl) (as : List D) (w : Wd) (xs : List D) : cm2 i n G ds as w (some (.own xs)) = if as.length + 1 = n then cmO ds i (G xs as w) else none := rfl
@[simp] theorem cm2.on2 (i n : Nat) (G : Fm) (ds : List Sl) (as : List D) (w : Wd) (k : Nat) (xs : List D) : cm2 i n G ds as w (some (.mu k xs)) = if as.length + 1 = n then cmM ds i k (G xs as w) else none := rfl
def cm1 (i n : Nat) (G : Fm) (ds : List Sl) : Option (List D × Wd) → Option Out
  | some (as, w1) => cm2 i n G ds as w1 ds[i]?
  | none => none
@[simp] theorem cm1.on (i n : Nat) (G : Fm) (ds : List Sl) (as : List D) (w1 : Wd) : cm1 i n G ds (some (as, w1)) = cm2 i n G ds as w1 ds[i]? := rfl
@[simp] theorem sCallM.ap (i n : Nat) (G : Fm) (fs : Ef) (ds : List Sl) (w : Wd) : sCallM i n G fs ds w = cm1 i n G ds (fs ds w) := by
  unfold sCallM
  rcases fs ds w with _ | ⟨as, w1⟩
  · rfl
  · show (match ds[i]? with | some (.own xs) => _ | some (.mu k xs) => _ | _ => none) = cm2 i n G ds as w1 ds[i]?
    unfold cm2
    rcases ds[i]? with _ | s
    · rfl
    · cases s <;> try rfl
      · rename_i xs
        dsimp only
        by_cases h : as.length + 1 = n
        · rw [if_pos h, if_pos h]
          rcases G xs as w1 with _ | ⟨y, z⟩ <;> rfl
        · rw [if_neg h, if_neg h]
      · rename_i k xs
        dsimp only
        by_cases h : as.length + 1 = n
        · rw [if_pos h, if_pos h]
          rcases G xs as w1 with _ | ⟨y, z⟩ <;> rfl
        · rw [if_neg h, if_neg h]
@[simp] theorem fin_rt (d : D) (w : Wd) : fin (some (.rt d w)) = some (d, w) := rfl
@[simp] theorem fin_nx (ds : List Sl) (w : Wd) : fin (some (.nx ds w)) = some (.non, w) := rfl
@[simp] theorem v_idxL (xs : List D) (i : Int) : idxD (.lst xs) (.int i) = atI xs i := rfl
@[simp] theorem v_idxT (xs : List D) (i : Int) : idxD (.tup xs) (.int i) = atI xs i := rfl
theorem atI_of_nat {α : Type} (xs : List α) {i : Nat} (h : i < xs.length) : atI xs (i : Int) = xs[i]? := by
  unfold atI
  rw [ixN_nat h]
  rfl
@[simp] theorem atI_0 {α : Type} (a : α) (l : List α) : atI (a :: l) 0 = some a := by
  rw [show (0 : Int) = ((0 : Nat) : Int) from rfl, atI_of_nat _ (by simp)]
  rfl
@[simp] theorem atI_1 {α : Type} (a b : α) (l : List α) : atI (a :: b :: l) 1 = some b := by
  rw [show (1 : Int) = ((1 : Nat) : Int) from rfl, atI_of_nat _ (by simp)]
  rfl
@[simp] theorem atI_2 {α : Type} (a b c : α) (l : List α) : atI (a :: b :: c :: l) 2 = some c := by
  rw [show (2 : Int) = ((2 : Nat) : Int) from rfl, atI_of_nat _ (by simp)]
  rfl
@[simp] theorem atI_3 {α : Type} (a b c d : α) (l : List α) : atI (a :: b :: c :: d :: l) 3 = some d := by
  rw [show (3 : Int) = ((3 : Nat) : Int) from rfl, atI_of_nat _ (by simp)]
  rfl
@[simp] theorem atI_4 {α : Type} (a b c d e : α) (l : List α) : atI (a :: b :: c :: d :: e :: l) 4 = some e := by
  rw [show (4 : Int) = ((4 : Nat) : Int) from rfl, atI_of_nat _ (by simp)]
  rfl
@[simp] theorem v_eq_int (a b : Int) : eqD (.int a) (.int b) = some (.bl (decide (a = b))) := eqD_int a b
@[simp] theorem v_ne_int (a b : Int) : neD (.int a) (.int b) = some (.bl (!decide (a = b))) := neD_int a b
@[simp] theorem v_eq_bl (a b : Bool) : eqD (.bl a) (.bl b) = some (.bl (a == b)) := eqD_bl a b
@[simp] theorem v_ne_bl (a b : Bool) : neD (.bl a) (.bl b) = some (.bl (!(a == b))) := neD_bl a b
@[simp] theorem v_eq_str (a b : Str) (ha : lay (.str a) = true) (hb : lay (.str b) = true) : eqD (.str a) (.str b) = some (.bl (decide (a = b))) := by
  unfold eqD
  rw [ha, hb]
  show some (D.bl (PyData.eqv (.str a) (.str b))) = _
  rw [eqv_str]
@[simp] theorem v_ne_str (a b : Str) (ha : lay (.str a) = true) (hb : lay (.str b) = true) : neD (.str a) (.str b) = some (.bl (!decide (a = b))) := by
  unfold neD
  rw [ha, hb]
  show some (D.bl (!PyData.eqv (.str a) (.str b))) = _
  rw [eqv_str]
@[simp] theorem v_eq_ints (ns ms : List Int) : eqD (.lst (ns.map D.int)) (.lst (ms.map D.int)) = some (.bl (decide (ns = ms))) := eqD_ints ns ms
@[simp] theorem v_ne_ints (ns ms : List Int) : neD (.lst (ns.map D.int)) (.lst (ms.map D.int)) = some (.bl (!decide (ns = ms))) := neD_ints ns ms
@[simp] theorem v_ne_ints0 (ns : List Int) : neD (.lst (ns.map D.int)) (.lst []) = some (.bl (!decide (ns = []))) := neD_ints ns []
@[simp] theorem v_eq_ints0 (ns : List Int) : eqD (.lst (ns.map D.int)) (.lst []) = some (.bl (decide (ns = []))) := eqD_ints ns []
@[simp] theorem v_lt (i j : Int) : g2B pLt (.int i) (.int j) = some (.bl (decide (i < j))) := rfl
@[simp] theorem v_le (i j : Int) : g2B pLe (.int i) (.int j) = some (.bl (decide (i ≤ j))) := rfl
@[simp] theorem v_gt (i j : Int) : g2B pGt (.int i) (.int j) = some (.bl (decide (j < i))) := rfl
@[simp] theorem v_ge (i j : Int) : g2B pGe (.int i) (.int j) = some (.bl (decide (j ≤ i))) := rfl
@[simp] theorem v_add (i j : Int) : addD (.int i) (.int j) = some (.int (i + j)) := rfl
@[simp] theorem v_sub (i j : Int) : subD (.int i) (.int j) = some (.int (i - j)) := rfl
theorem v_mul {i j : Int} (h : okMul i j = true) : mulD (.int i) (.int j) = some (.int (i * j)) := by
  show (if okMul i j then _ else _) = _
  rw [if_pos h]
theorem okMul_r {i j : Int} (h1 : -(2 ^ 64) < j) (h2 : j < 2 ^ 64) : okMul i j = true := by
  unfold okMul
  rw [decide_eq_true (And.intro h1 h2), Bool.or_true]
theorem okMul_l {i j : Int} (h1 : -(2 ^ 64) < i) (h2 : i < 2 ^ 64) : okMul i j = true := by
  unfold okMul
  rw [decide_eq_true (And.intro h1 h2), Bool.true_or]
theorem v_mod {i j : Int} (h : 0 < j) : modD (.int i) (.int j) = some (.int (i % j)) := by
  show (if okMod i j then _ else _) = _
  rw [if_pos (show okMod i j = true from decide_eq_true h)]
theorem v_div {i j : Int} (h : okDiv i j = true) : divD (.int i) (.int j) = some (.int (i / j)) := by
  show (if okDiv i j then _ else _) = _
  rw [if_pos h]
@[simp] theorem v_addL (xs ys : List D) : addD (.lst xs) (.lst ys) = if xs.length + ys.length ≤ line then some (.lst (xs ++ ys)) else none := rfl
@[simp] theorem v_lenL (xs : List D) : gLen [.lst xs] = some (.int (xs.length : Int)) := rfl
@[simp] theorem v_lenT (xs : List D) : gLen [.tup xs] = some (.int (xs.length : Int)) := rfl
@[simp] theorem v_int (i : Int) : gInt [.int i] = some (.int i) := rfl
@[simp] theorem v_min2 (i j : Int) : gMin [.int i, .int j] = some (.int (f2min i j)) := rfl
@[simp] theorem v_max2 (i j : Int) : gMax [.int i, .int j] = some (.int (f2max i j)) := rfl
@[simp] theorem v_listL (xs : List D) : gfList [.lst xs] = some xs := rfl
@[simp] theorem v_listT (xs : List D) : gfList [.tup xs] = some xs := rfl
@[simp] theorem v_tupL (xs : List D) : gTuple [.lst xs] = some (.tup xs) := rfl
@[simp] theorem v_tupT (xs : List D) : gTuple [.tup xs] = some (.tup xs) := rfl
@[simp] theorem v_sum (ns : List Int) : gSum [.lst (ns.map D.int)] = some (.int ns.sum) := by
  show (intsOf (ns.map D.int)).bind _ = _
  rw [intsOf_map]
  rfl
@[simp] theorem v_all (ns : List Bool) : gAll [.lst (ns.map D.bl)] = some (.bl (ns.all id)) := by
  show (blsOf (ns.map D.bl)).bind _ = _
  rw [blsOf_map]
  rfl
@[simp] theorem v_any (ns : List Bool) : gAny [.lst (ns.map D.bl)] = some (.bl (ns.any id)) := by
  show (blsOf (ns.map D.bl)).bind _ = _
  rw [blsOf_map]
  rfl
@[simp] theorem v_sorted (ns : List Int) : gfSorted [.lst (ns.map D.int)] = some ((sortI ns).map D.int) := by
  show (intsOf (ns.map D.int)).bind _ = _
  rw [intsOf_map]
  rfl
@[simp] theorem v_isi_tup_tuple (xs : List D) : gIsi [.tup xs, .ty "tuple"] = some (.bl true) := rfl
@[simp] theorem v_isD_tup_tuple (xs : List D) : isiD (.tup xs) "tuple" = some true := rfl
@[simp] theorem v_isi_tup_list (xs : List D) : gIsi [.tup xs, .ty "list"] = some (.bl false) := rfl
@[simp] theorem v_isD_tup_list (xs : List D) : isiD (.tup xs) "list" = some false := rfl
@[simp] theorem v_isi_tup_int (xs : List D) : gIsi [.tup xs, .ty "int"] = some (.bl false) := rfl
@[simp] theorem v_isD_tup_int (xs : List D) : isiD (.tup xs) "int" = some false := rfl
@[simp] theorem v_isi_tup_str (xs : List D) : gIsi [.tup xs, .ty "str"] = some (.bl false) := rfl
@[simp] theorem v_isD_tup_str (xs : List D) : isiD (.tup xs) "str" = some false := rfl
@[simp] theorem v_isi_tup_bool (xs : List D) : gIsi [.tup xs, .ty "bool"] = some (.bl false) := rfl
@[simp] theorem v_isD_tup_bool (xs : List D) : isiD (.tup xs) "bool" = some false := rfl
@[simp] theorem v_isi_lst_tuple (xs : List D) : gIsi [.lst xs, .ty "tuple"] = some (.bl false) := rfl
@[simp] theorem v_isD_lst_tuple (xs : List D) : isiD (.lst xs) "tuple" = some false := rfl
@[simp] theorem v_isi_lst_list (xs : List D) : gIsi [.lst xs, .ty "list"] = some (.bl true) := rfl
@[simp] theorem v_isD_lst_list (xs : List D) : isiD (.lst xs) "list" = some true := rfl
@[simp] theorem v_isi_lst_int (xs : List D) : gIsi [.lst xs, .ty "int"] = some (.bl false) := rfl
@[simp] theorem v_isD_lst_int (xs : List D) : isiD (.lst xs) "int" = some false := rfl
@[simp] theorem v_isi_lst_str (xs : List D) : gIsi [.lst xs, .ty "str"] = some (.bl false) := rfl
@[simp] theorem v_isD_lst_str (xs : List D) : isiD (.lst xs) "str" = some false := rfl
@[simp] theorem v_isi_lst_bool (xs : List D) : gIsi [.lst xs, .ty "bool"] = some (.bl false) := rfl
@[simp] theorem v_isD_lst_bool (xs : List D) : isiD (.lst xs) "bool" = some false := rfl
@[simp] theorem v_isi_int_tuple (i : Int) : gIsi [.int i, .ty "tuple"] = some (.bl false) := rfl
@[simp] theorem v_isD_int_tuple (i : Int) : isiD (.int i) "tuple" = some false := rfl
@[simp] theorem v_isi_int_list (i : Int) : gIsi [.int i, .ty "list"] = some (.bl false) := rfl
@[simp] theorem v_isD_int_list (i : Int) : isiD (.int i) "list" = some false := rfl
@[simp] theorem v_isi_int_int (i : Int) : gIsi [.int i, .ty "int"] = some (.bl true) := rfl
@[simp] theorem v_isD_int_int (i : Int) : isiD (.int i) "int" = some true := rfl
@[simp] theorem v_isi_int_str (i : Int) : gIsi [.int i, .ty "str"] = some (.bl false) := rfl
@[simp] theorem v_isD_int_str (i : Int) : isiD (.int i) "str" = some false := rfl
@[simp] theorem v_isi_int_bool (i : Int) : gIsi [.int i, .ty "bool"] = some (.bl false) := rfl
@[simp] theorem v_isD_int_bool (i : Int) : isiD (.int i) "bool" = some false := rfl
@[simp] theorem v_isi_str_tuple (z : Str) : gIsi [.str z, .ty "tuple"] = some (.bl false) := rfl
@[simp] theorem v_isD_str_tuple (z : Str) : isiD (.str z) "tuple" = some false := rfl
@[simp] theorem v_isi_str_list (z : Str) : gIsi [.str z, .ty "list"] = some (.bl false) := rfl
@[simp] theorem v_isD_str_list (z : Str) : isiD (.str z) "list" = some false := rfl
@[simp] theorem v_isi_str_int (z : Str) : gIsi [.str z, .ty "int"] = some (.bl false) := rfl
@[simp] theorem v_isD_str_int (z : Str) : isiD (.str z) "int" = some false := rfl
@[simp] theorem v_isi_str_str (z : Str) : gIsi [.str z, .ty "str"] = some (.bl true) := rfl
@[simp] theorem v_isD_str_str (z : Str) : isiD (.str z) "str" = some true := rfl
@[simp] theorem v_isi_str_bool (z : Str) : gIsi [.str z, .ty "bool"] = some (.bl false) := rfl
@[simp] theorem v_isD_str_bool (z : Str) : isiD (.str z) "bool" = some false := rfl
@[simp] theorem v_isi_bl_tuple (p : Bool) : gIsi [.bl p, .ty "tuple"] = some (.bl false) := rfl
@[simp] theorem v_isD_bl_tuple (p : Bool) : isiD (.bl p) "tuple" = some false := rfl
@[simp] theorem v_isi_bl_list (p : Bool) : gIsi [.bl p, .ty "list"] = some (.bl false) := rfl
@[simp] theorem v_isD_bl_list (p : Bool) : isiD (.bl p) "list" = some false := rfl
@[simp] theorem v_isi_bl_int (p : Bool) : gIsi [.bl p, .ty "int"] = some (.bl true) := rfl
@[simp] theorem v_isD_bl_int (p : Bool) : isiD (.bl p) "int" = some true := rfl
@[simp] theorem v_isi_bl_str (p : Bool) : gIsi [.bl p, .ty "str"] = some (.bl false) := rfl
@[simp] theorem v_isD_bl_str (p : Bool) : isiD (.bl p) "str" = some false := rfl
@[simp] theorem v_isi_bl_bool (p : Bool) : gIsi [.bl p, .ty "bool"] = some (.bl true) := rfl
@[simp] theorem v_isD_bl_bool (p : Bool) : isiD (.bl p) "bool" = some true := rfl
@[simp] theorem v_isi_non_tuple  : gIsi [.non, .ty "tuple"] = some (.bl false) := rfl
@[simp] theorem v_isD_non_tuple  : isiD (.non) "tuple" = some false := rfl
@[simp] theorem v_isi_non_list  : gIsi [.non, .ty "list"] = some (.bl false) := rfl
@[simp] theorem v_isD_non_list  : isiD (.non) "list" = some false := rfl
@[simp] theorem v_isi_non_int  : gIsi [.non, .ty "int"] = some (.bl false) := rfl
@[simp] theorem v_isD_non_int  : isiD (.non) "int" = some false := rfl
@[simp] theorem v_isi_non_str  : gIsi [.non, .ty "str"] = some (.bl false) := rfl
@[simp] theorem v_isD_non_str  : isiD (.non) "str" = some false := rfl
@[simp] theorem v_isi_non_bool  : gIsi [.non, .ty "bool"] = some (.bl false) := rfl
@[simp] theorem v_isD_non_bool  : isiD (.non) "bool" = some false := rfl
theorem line_eq : line = 100000 := rfl
/-! conditions of symbolic truths -/
@[simp] theorem z_and (c : Prop) [Decidable c] (q : Bool) (w : Wd) : (if c then some (q, w) else some (false, w)) = some (decide c && q, w) := by
  by_cases h : c <;> simp [h]
@[simp] theorem z_or (c : Prop) [Decidable c] (q : Bool) (w : Wd) : (if c then some (true, w) else some (q, w)) = some (decide c || q, w) := by
  by_cases h : c <;> simp [h]
@[simp] theorem z_andD (c : Prop) [Decidable c] (q : Bool) (w : Wd) : (if c then some (D.bl q, w) else some (.bl false, w)) = some (.bl (decide c && q), w) := by
  by_cases h : c <;> simp [h]
@[simp] theorem z_orD (c : Prop) [Decidable c] (q : Bool) (w : Wd) : (if c then some (D.bl true, w) else some (.bl q, w)) = some (.bl (decide c || q), w) := by
  by_cases h : c <;> simp [h]
end J
namespace J
open PySem PyProof.Rows L2
/-! ### drawing: what every law draws by -/
noncomputable def g_cellat : Es :=
 (sSeq (sIf (eTest (eLt (eBor 1) (eLen (aCons (eBor 0) aNil)))) (sSeq (sRet (eIx (eBor 0) (eBor 1)))
 sNil) sNil)
 (sSeq (sRet (eC (.int 0)))
 sNil))
noncomputable def G_cellat : Fn := callS 2 g_cellat
noncomputable def g_drawn : Es :=
 (sSeq (sSet 3 (eTup (aCons (eC (.int 1000003)) (aCons (eC (.int 1000033)) (aCons (eC (.int 1000037)) (aCons (eC (.int 1000039)) (aCons (eC (.int 1000081)) (aCons (eC (.int 1000099)) (aCons (eC (.int 1000117)) (aCons (eC (.int 1000121)) (aCons (eC (.int 1000133)) (aCons (eC (.int 1000151)) (aCons (eC (.int 1000159)) (aCons (eC (.int 1000171)) (aCons (eC (.int 1000183)) (aCons (eC (.int 1000187)) (aCons (eC (.int 1000193)) (aCons (eC (.int 1000199)) aNil))))))))))))))))))
 (sSeq (sRet (eMod (eMod (eInt (aCons (eAdd (eMul (eBor 0) (eC (.int 48271))) (eMul (eBor 1) (eC (.int 69621)))) aNil)) (eIx (eBor 3) (eMod (eInt (aCons (eBor 1) aNil)) (eC (.int 16))))) (eBor 2)))
 sNil))
noncomputable def G_drawn : Fn := callS 4 g_drawn
noncomputable def g_numb : Es :=
 (sSeq (sSet 3 (eC (.int 1)))
 (sSeq (sFor (iRg (eC (.int 0)) (eMod (eInt (aCons (eBor 1) aNil)) (eC (.int 24)))) (gN 4) (sSeq (sSet 3 (eMul (eBor 3) (eC (.int 1009))))
 sNil))
 (sSeq (sSet 5 (eDiv (eSub (eBor 0) (ePow (eC (.int 10)) (eC (.int 18)))) (eBor 3)))
 (sSeq (sIf (eTest (eGt (eBor 5) (eC (.int 0)))) (sSeq (sRet (eMod (eMod (eInt (aCons (eBor 5) aNil)) (eC (.int 1009))) (eBor 2)))
 sNil) sNil)
 (sSeq (sSet 6 (eMod (eInt (aCons (eBor 0) aNil)) (eC (.int 1000003))))
 (sSeq (sRet (eMod (eCall 3 G_drawn (aCons (eMul (eAdd (eBor 6) (eMul (eC (.int 977)) (eBor 1))) (eAdd (eAdd (eBor 6) (eMul (eC (.int 31)) (eBor 1))) (eC (.int 5)))) (aCons (eAdd (eMod (eInt (aCons (eBor 1) aNil)) (eC (.int 9))) (eC (.int 1))) (aCons (eC (.int 999983)) aNil)))) (eBor 2)))
 sNil))))))
noncomputable def G_numb : Fn := callS 7 g_numb
noncomputable def g_next : Es :=
 (sSeq (sAsg (eAdd (eDrIx (eVar 0) (eC (.int 2))) (eC (.int 1))) (goDr (eVar 0) (eC (.int 2))))
 (sSeq (sSet 2 (eDiv (eDrIx (eVar 0) (eC (.int 2))) (eC (.int 12))))
 (sSeq (sSet 3 (eAdd (eCall 2 G_cellat (aCons (eDrIx (eVar 0) (eC (.int 0))) (aCons (eAdd (eDrIx (eVar 0) (eC (.int 1))) (eBor 2)) aNil))) (eMul (eC (.int 31)) (eBor 2))))
 (sSeq (sRet (eCall 3 G_numb (aCons (eVar 3) (aCons (eAdd (eMod (eInt (aCons (eDrIx (eVar 0) (eC (.int 2))) aNil)) (eC (.int 12))) (eC (.int 1))) (aCons (eVar 1) aNil)))))
 sNil))))
noncomputable def G_next : Fn := callS 4 g_next
theorem ap_cellat (a b : D) (w : Wd) : G_cellat [a, b] w = fin (g_cellat [.d a, .d b] w) := rfl
theorem ap_drawn (a b c : D) (w : Wd) : G_drawn [a, b, c] w = fin (g_drawn [.d a, .d b, .d c, .no] w) := rfl
theorem ap_numb (a b c : D) (w : Wd) : G_numb [a, b, c] w = fin (g_numb [.d a, .d b, .d c, .no, .no, .no, .no] w) := rfl
theorem ap_next (a b : D) (w : Wd) : G_next [a, b] w = fin (g_next [.d a, .d b, .no, .no] w) := rfl
theorem cellat_on (ns : List Int) (k : Int) (hk : 0 ≤ k) (w : Wd) : ∃ v, G_cellat [.lst (ns.map D.int), .int k] w = some (.int v, w) := by
  rw [ap_cellat]
  unfold g_cellat
  by_cases h : k < (ns.length : Int)
  · obtain ⟨n, rfl⟩ := Int.eq_ofNat_of_zero_le hk
    have h' : n < ns.length := by omega
    refine ⟨ns[n], ?_⟩
    simp [h', atI_of_nat]
  · refine ⟨0, ?_⟩
    simp [h]
theorem atI_lit {α : Type} (xs : List α) (k : Int) (h0 : 0 ≤ k) (h1 : k < (xs.length : Int)) : ∃ x, x ∈ xs ∧ atI xs k = some x := by
  obtain ⟨n, rfl⟩ := Int.eq_ofNat_of_zero_le h0
  have h' : n < xs.length := by omega
  exact ⟨xs[n], List.getElem_mem h', by rw [atI_of_nat _ h', List.getElem?_eq_getElem h']⟩
theorem drawn_on (a k b : Int) (hb : 0 < b) (w : Wd) : ∃ v, 0 ≤ v ∧ v < b ∧ G_drawn [.int a, .int k, .int b] w = some (.int v, w) := by
  have hm : (0 : Int) ≤ k % 16 ∧ k % 16 < 16 := ⟨Int.emod_nonneg _ (by decide), Int.emod_lt_of_pos _ (by decide)⟩
  obtain ⟨x, hx, ex⟩ := atI_lit ([.int 1000003, .int 1000033, .int 1000037, .int 1000039, .int 1000081, .int 1000099, .int 1000117, .int 1000121, .int 1000133, .int 1000151, .int 1000159, .int 1000171, .int 1000183, .int 1000187, .int 1000193, .int 1000199] : List D) (k % 16) hm.1 hm.2
  have hp : ∃ p : Int, x = .int p ∧ 0 < p := by
    simp only [List.mem_cons, List.not_mem_nil, or_false] at hx
    rcases hx with rfl | rfl | rfl | rfl | rfl | rfl | rfl | rfl | rfl | rfl | rfl | rfl | rfl | rfl | rfl | rfl <;> exact ⟨_, rfl, by decide⟩
  obtain ⟨p, rfl, hp⟩ := hp
  refine ⟨(a * 48271 + k * 69621) % p % b, Int.emod_nonneg _ (by omega), Int.emod_lt_of_pos _ hb, ?_⟩
  rw [ap_drawn]
  unfold g_drawn
  simp [line_eq, v_mul (okMul_r (i := a) (j := 48271) (by decide) (by decide)), v_mul (okMul_r (i := k) (j := 69621) (by decide) (by decide)), v_mod (i := k) (j := 16) (by decide), ex, v_mod (i := a * 48271 + k * 69621) hp, v_mod (j := b) hb]
theorem forGo_nx {tg : Eg} {body : Es} {x : D} {xs : List D} {ds ds1 ds2 : List Sl} {w w2 : Wd} (h1 : tg ds x = some ds1) (h2 : body ds1 w = some (.nx ds2 w2)) : forGo tg body (x :: xs) ds w = forGo tg body xs ds2 w2 := by
  show (tg ds x).bind _ = _
  rw [h1]
  show (body ds1 w).bind _ = _
  rw [h2]
  rfl
theorem numb_loop (a k b q : Int) (h1 : -(2 ^ 64) < q) (h2 : q < 2 ^ 64) (w : Wd) : ∀ (l : List Nat) (p : Int) (z : Sl), ∃ z', forGo (gN 4) (sSeq (sSet 3 (eMul (eBor 3) (eC (.int q)))) sNil) (l.map fun i : Nat => D.int (i : Int)) [.d (.int a), .d (.int k), .d (.int b), .d (.int p), z, .no, .no] w = some (.nx [.d (.int a), .d (.int k), .d (.int b), .d (.int (p * q ^ l.length)), z', .no, .no] w)
  | [], p, z => ⟨z, by rw [List.length_nil, Int.pow_zero, Int.mul_one]; rfl⟩
  | j :: l, p, z => by
    obtain ⟨z', h'⟩ := numb_loop a k b q h1 h2 w l (p * q) (.d (.int (j : Int)))
    refine ⟨z', ?_⟩
    have e : (sSeq (sSet 3 (eMul (eBor 3) (eC (.int q)))) sNil) [.d (.int a), .d (.int k), .d (.int b), .d (.int p), .d (.int (j : Int)), .no, .no] w = some (.nx [.d (.int a), .d (.int k), .d (.int b), .d (.int (p * q)), .d (.int (j : Int)), .no, .no] w) := by
      simp [v_mul (okMul_r (i := p) h1 h2)]
    rw [List.map_cons, forGo_nx (ds1 := [.d (.int a), .d (.int k), .d (.int b), .d (.int p), .d (.int (j : Int)), .no, .no]) rfl e, h', List.length_cons, Int.pow_succ, Int.mul_assoc, Int.mul_comm q]
theorem rgD_range (n : Nat) : rgD 0 1 n = (List.range' 0 n).map fun i : Nat => D.int (i : Int) := by
  unfold rgD
  rw [List.range_eq_range']
  apply List.map_congr_left
  intro i _
  simp
theorem okDiv_pow (i : Int) : ∀ j : Nat, j ≤ 24 → okDiv i (1009 ^ j) = true := by
  intro j hj
  have h : ∀ j : Nat, j < 25 → (decide ((0 : Int) < 1009 ^ j) && decide (((1009 : Int) ^ j).natAbs.log2 < 9000)) = true := by decide +kernel
  exact h j (by omega)
theorem numb_on (a k b : Int) (hk : 1 ≤ k) (hk2 : k ≤ 12) (hb : 0 < b) (w : Wd) : ∃ v, 0 ≤ v ∧ v < b ∧ G_numb [.int a, .int k, .int b] w = some (.int v, w) := by
  rw [ap_numb]
  unfold g_numb
  have em : k % 24 = k := Int.emod_eq_of_lt (by omega) (by omega)
  obtain ⟨z, hl⟩ := numb_loop a k b 1009 (by decide) (by decide) w (List.range' 0 k.toNat) 1 .no
  rw [List.length_range', Int.one_mul] at hl
  have hr := irF.on 0 k w ⟨by decide, by decide, by omega, by omega⟩
  rw [Int.sub_zero, rgD_range] at hr
  have hpow : powD (.int 10) (.int 18) = some (.int 1000000000000000000) := by
    show (if okPow 10 18 then some (D.int (10 ^ 18)) else none) = _
    rw [if_pos (by decide)]
    rfl
  have hdv := v_div (i := a - 1000000000000000000) (okDiv_pow (a - 1000000000000000000) k.toNat (by omega))
  by_cases hp : 0 < (a - 1000000000000000000) / 1009 ^ k.toNat
  · refine ⟨((a - 1000000000000000000) / 1009 ^ k.toNat) % 1009 % b, Int.emod_nonneg _ (by omega), Int.emod_lt_of_pos _ hb, ?_⟩
    simp [v_mod (i := k) (j := 24) (by decide), em, hr, hl, hpow, hdv, hp, v_mod (i := (a - 1000000000000000000) / 1009 ^ k.toNat) (j := 1009) (by decide), v_mod (i := ((a - 1000000000000000000) / 1009 ^ k.toNat) % 1009) hb]
  · have hs1 : 0 ≤ a % 1000003 := Int.emod_nonneg _ (by decide)
    have hs2 : a % 1000003 < 1000003 := Int.emod_lt_of_pos _ (by decide)
    obtain ⟨v, h1, h2, h3⟩ := drawn_on ((a % 1000003 + 977 * k) * (a % 1000003 + 31 * k + 5)) (k % 9 + 1) 999983 (by decide) w
    refine ⟨v % b, Int.emod_nonneg _ (by omega), Int.emod_lt_of_pos _ hb, ?_⟩
    simp [v_mod (i := k) (j := 24) (by decide), em, hr, hl, hpow, hdv, hp, v_mod (i := a) (j := 1000003) (by decide), v_mod (i := k) (j := 9) (by decide), v_mul (okMul_l (i := 977) (j := k) (by decide) (by decide)), v_mul (okMul_l (i := 31) (j := k) (by decide) (by decide)),
      v_mul (okMul_l (i := a % 1000003 + 977 * k) (j := a % 1000003 + 31 * k + 5) (by omega) (by omega)), h3, v_mod (i := v) hb]
/-- one drawing: a number below the bound; the counter goes on by one -/
theorem next_on (b : Int) (hb : 0 < b) (w : Wd) (hc : 0 ≤ w.c) : ∃ v, 0 ≤ v ∧ v < b ∧ G_next [.draw, .int b] w = some (.int v, ⟨w.ns, w.c + 1⟩) := by
  have hq : 0 ≤ (w.c + 1) / 12 := Int.ediv_nonneg (by omega) (by decide)
  obtain ⟨x, hx⟩ := cellat_on w.ns ((w.c + 1) / 12) hq ⟨w.ns, w.c + 1⟩
  have m1 : 0 ≤ (w.c + 1) % 12 := Int.emod_nonneg _ (by decide)
  have m2 : (w.c + 1) % 12 < 12 := Int.emod_lt_of_pos _ (by decide)
  obtain ⟨v, h1, h2, h3⟩ := numb_on (x + 31 * ((w.c + 1) / 12)) ((w.c + 1) % 12 + 1) b (by omega) (by omega) hb ⟨w.ns, w.c + 1⟩
  refine ⟨v, h1, h2, ?_⟩
  rw [ap_next]
  unfold g_next
  simp [v_div (i := w.c + 1) (j := 12) (by unfold okDiv; decide), hx, v_mul (okMul_l (i := 31) (j := (w.c + 1) / 12) (by decide) (by decide)), v_mod (i := w.c + 1) (j := 12) (by decide), h3]
end J
namespace J
open PySem PyProof.Rows L2
/-! ### comprehensions of two clauses: the list that is being made is hidden from the state -/
def hid (B : Addr) (H : Hp) : Hp := fun b => if b = B then none else H b
section
variable {K : PySem.W.Frag} {Z : Cfg} {p B : Addr} {F F' H H' : Hp} {σ : L2.St} {ds : List Sl} {w w' : Wd} {o : HO}
theorem hid_at : hid B H B = none := if_pos rfl
theorem hid_ne {b : Addr} (h : b ≠ B) : hid B H b = H b := if_neg h
theorem hid_none (h : H B = none) : hid B H = H := by
  funext b
  by_cases e : b = B
  · subst e
    rw [hid_at, h]
  · exact hid_ne e
theorem hid_upd : hid B (upd H B o) = hid B H := by
  funext b
  by_cases e : b = B
  · subst e
    rw [hid_at, hid_at]
  · rw [hid_ne e, hid_ne e, upd_ne e]
theorem upd_hid (h : H B = some o) : upd (hid B H) B o = H := by
  funext b
  by_cases e : b = B
  · subst e
    rw [upd_same, h]
  · rw [upd_ne e, hid_ne e]
theorem hid_stp (hF : F' B = none) (s : Stp p F H F' H') : Stp p F (hid B H) F' (hid B H') := by
  refine ⟨s.f, fun b o n e => ?_, fun b o e => ?_, fun b o e => ?_, s.fp⟩
  · by_cases q : b = B
    · rw [q, hid_at] at e
      cases e
    · rw [hid_ne q] at e ⊢
      exact s.h b o n e
  · by_cases q : b = B
    · rw [q, hF] at e
      cases e
    · rw [hid_ne q]
      exact s.e b o e
  · by_cases q : b = B
    · exact .inr (by rw [q, hid_at])
    · rw [hid_ne q]
      exact s.n b o e
theorem R.shown (r : R K Z F (hid B H) σ ds w) (h : H B = some o) : R K Z F H σ ds w := by
  obtain ⟨s, d⟩ := r.newO (o := o) (hid_at (B := B) (H := H))
  rw [upd_hid h] at s d
  exact r.step s d
/-- B stays out of what is known -/
theorem Stp.out (s : Stp p F H F' H') (hp : B ≠ p) (h : H B = some o) (hF : F B = none) : H' B = some o ∧ F' B = none := by
  refine ⟨s.h B o hp h, ?_⟩
  cases q : F' B with
  | none => rfl
  | some u =>
    rcases s.n B u q with z | z
    · rw [hF] at z
      cases z
    · rw [h] at z
      cases z
theorem Dr.hid (hp : B ≠ p) (d : Dr p F H w) : Dr p F (hid B H) w := by
  obtain ⟨a, h1, h2⟩ := d
  exact ⟨a, by rw [hid_ne (Ne.symm hp)]; exact h1, h2⟩
/-- the state behind a step, B hidden -/
theorem R.hidden (r : R K Z F (hid B H) σ ds w) (hp : B ≠ Z.p) (h : H B = some o) (hF : F B = none) (s : Stp Z.p F H F' H') (d : Dr Z.p F' H' w') : R K Z F' (hid B H') σ ds w' :=
  r.step (hid_stp (s.out hp h hF).2 s) (d.hid hp)
/-- .. shown again behind a change of B -/
theorem R.rehid (r : R K Z F (hid B H) σ ds w) (o : HO) : R K Z F (hid B (upd H B o)) σ ds w := by rw [hid_upd]; exact r
theorem Dr.shown (d : Dr p F (J.hid B H) w) (h : H B = some o) (hp : B ≠ p) : Dr p F H w := by
  obtain ⟨a, h1, h2⟩ := d
  exact ⟨a, by rw [hid_ne (Ne.symm hp)] at h1; exact h1, h2⟩
theorem stp_shown (hD : H B = none) (hF : F' B = none) (s : Stp p F H F' (hid B H')) : Stp p F H F' H' := by
  refine ⟨s.f, fun b o n e => ?_, fun b o e => ?_, s.n, s.fp⟩
  · have q : b ≠ B := ne_of_none e hD
    have := s.h b o n e
    rw [hid_ne q] at this
    exact this
  · have q : b ≠ B := ne_of_none e hF
    have := s.e b o e
    rw [hid_ne q] at this
    exact this
theorem R.hide {σ2 σ1 : L2.St} {ds1 ds0 : List Sl} {w0 : Wd} (r : R K Z F H σ2 ds1 w) (r0 : R K Z F (J.hid B H) σ1 ds0 w0) (hp : B ≠ Z.p) (hk : ∀ (i : Nat) (s : Sl), ds1[i]? = some s → s.ow = true → ds0[i]? = some s ∧ σ2[i]? = σ1[i]?) : R K Z F (J.hid B H) σ2 ds1 w := by
  obtain ⟨α, ha, he⟩ := r.env
  obtain ⟨α0, ha0, he0⟩ := r0.env
  refine ⟨r0.ex, r.fp, r.dr.hid hp, r.pm, r0.hm, r.m0, r0.keep, r.nw, r.f0, r.len, α, ha, fun i s hi => ?_⟩
  have h1 := he i s hi
  cases s with
  | no => trivial
  | d x => exact h1
  | own xs =>
    obtain ⟨q1, q2⟩ := hk i _ hi rfl
    have h2 := he0 i _ q1
    obtain ⟨e1, _, e3⟩ := h1
    obtain ⟨f1, f2, f3⟩ := h2
    have e : α i = α0 i := by
      rw [q2, f1] at e1
      exact (V.ref.inj (Option.some.inj (Option.some.inj e1))).symm
    exact ⟨e1, by rw [e]; exact f2, e3⟩
  | mu k xs =>
    obtain ⟨q1, q2⟩ := hk i _ hi rfl
    have h2 := he0 i _ q1
    obtain ⟨e1, _, e3⟩ := h1
    obtain ⟨f1, f2, f3⟩ := h2
    have e : α i = α0 i := by
      rw [q2, f1] at e1
      exact (V.ref.inj (Option.some.inj (Option.some.inj e1))).symm
    exact ⟨e1, by rw [e]; exact f2, e3⟩
/-- targets leave lists of one's own alone -/
def GOk (tg : Eg) (js : List Nat) : Prop := ∀ ds x ds1, tg ds x = some ds1 → ∀ (i : Nat) (s : Sl), ds1[i]? = some s → s.ow = true → i ∉ js ∧ ds[i]? = some s
def GsOk (tg : Egs) (js : List Nat) : Prop := ∀ ds x ds1, tg ds x = some ds1 → ∀ (i : Nat) (s : Sl), ds1[i]? = some s → s.ow = true → i ∉ js ∧ ds[i]? = some s
theorem gok_name (i : Nat) : GOk (gN i) [i] := fun ds x ds1 h j s hj ho => by
  cases h
  by_cases e : i = j
  · subst e
    rw [List.getElem?_set] at hj
    split at hj
    · split at hj
      · cases hj
        cases ho
      · cases hj
    · rename_i z
      exact absurd rfl z
  · rw [List.getElem?_set_ne e] at hj
    exact ⟨by simpa using Ne.symm e, hj⟩
theorem gsok_nil : GsOk gsNil [] := fun ds x ds1 h j s hj ho => by
  unfold gsNil at h
  split at h
  · cases h
    exact ⟨by simp, hj⟩
  · cases h
theorem gsok_cons {g : Eg} {h : Egs} {js js' : List Nat} (a : GOk g js) (b : GsOk h js') : GsOk (gsCons g h) (js ++ js') := fun ds x ds1 e j s hj ho => by
  unfold gsCons at e
  split at e
  · obtain ⟨ds2, e1, e2⟩ := bind2 e
    obtain ⟨n1, q1⟩ := b _ _ _ e2 j s hj ho
    obtain ⟨n2, q2⟩ := a _ _ _ e1 j s q1 ho
    exact ⟨fun z => (List.mem_append.mp z).elim n2 n1, q2⟩
  · cases e
theorem gok_tup {n : Nat} {h : Egs} {js : List Nat} (b : GsOk h js) : GOk (gT n h) js := fun ds x ds1 e j s hj ho => by
  unfold gT at e
  split at e
  · split at e
    · exact b _ _ _ e j s hj ho
    · cases e
  · cases e
/-- the inner walk -/
theorem lc_inner {T : It} {xs ys acc : List D} {us : List V} {tg : Eg} {c : Et} {e : Ev} {vs js : List Nat} (hj : ∀ i ∈ js, i ∈ vs) {Nx : Hp → Prop} (rr : R K Z F (J.hid B H) σ ds w) (hp : B ≠ Z.p) (hD : H B = some (.lst us)) (hF : F B = none) (hacc : Dens K Z.p F acc us) (hS : Src K Z.p T F H [] xs)
    (hgo : lcGo tg c e (wipeS ds vs) xs w = some (ys, w')) (hl : acc.length + ys.length ≤ line)
    (hN : ∀ F' H' us', Stp Z.p F (J.hid B H) F' (J.hid B H') → R K Z F' (J.hid B H') (L2.wipe σ vs) (wipeS ds vs) w' → H' B = some (.lst us') → F' B = none → Dens K Z.p F' (acc ++ ys) us' → Nx H') :
    ∃ W1 : Nat → Nat → Hp → Prop, (∃ m, W1 0 m H) ∧ ∀ j k H2, W1 j k H2 → (T.stop j H2 ∧ Nx H2) ∨ (T.go j H2 ∧ ∃ Nx1 : Hp → Prop, (∀ H', Nx1 H' → ∃ k', k' < k ∧ W1 (j + 1) k' H') ∧ ∀ x H', T.yld j H2 x H' →
      canG K tg js x (L2.wipe σ vs) H' fun σ3 H5 => L2.wipe σ3 vs = L2.wipe σ vs ∧ canT K c σ3 H5 fun b H6 => if b = true then canE K e σ3 H6 fun y H7 => ∃ acc, H7 B = some (.lst acc) ∧ acc.length < sizeLine ∧ Nx1 (upd H7 B (.lst (acc ++ [y]))) else Nx1 H6) := by
  obtain ⟨_, hT⟩ := hS
  let W : Nat → Nat → Hp → Prop := fun i m H2 => m = xs.length - i ∧ i ≤ xs.length ∧ ∃ F2 acc2 us2 rest w3, Stp Z.p F (J.hid B H) F2 (J.hid B H2) ∧ R K Z F2 (J.hid B H2) σ ds w3 ∧ H2 B = some (.lst us2) ∧ F2 B = none ∧ Dens K Z.p F2 acc2 us2 ∧ lcGo tg c e (wipeS ds vs) (xs.drop i) w3 = some (rest, w') ∧ acc2 ++ rest = acc ++ ys
  refine ⟨W, ⟨xs.length, rfl, Nat.zero_le _, F, acc, us, ys, w, rr.stp, rr, hD, hF, hacc, hgo, rfl⟩, fun i m H2 hw => ?_⟩
  obtain ⟨rfl, hi, F2, acc2, us2, rest, w3, s2, r2, hD2, hF2, hacc2, hgo2, hcat⟩ := hw
  have hR2 := r2.shown hD2
  obtain ⟨hstop, hgo'⟩ := hT F2 H2 (fun q hq => nomatch hq) s2.f hR2.ex hR2.fp (let ⟨a, h, _⟩ := hR2.dr; ⟨_, h⟩) i
  by_cases hlt : i < xs.length
  · right
    have hx : xs[i]? = some xs[i] := List.getElem?_eq_getElem hlt
    obtain ⟨g1, g2⟩ := hgo' _ hx
    refine ⟨g1, fun H' => W (i + 1) (xs.length - (i + 1)) H', fun H' z => ⟨_, by omega, z⟩, fun x H3 hy => ?_⟩
    obtain ⟨sm, F3, s3, hden⟩ := g2 x H3 hy
    have d3 : Dr Z.p F3 H3 w3 := by
      obtain ⟨a, q1, q2⟩ := hR2.dr
      exact ⟨a, sm _ _ q1, s3.f _ _ q2⟩
    obtain ⟨hD3, hF3⟩ := s3.out hp hD2 hF2
    have r3 := r2.hidden hp hD2 hF2 s3 d3
    have hs3 := hid_stp hF3 s3
    rw [List.drop_eq_getElem_cons hlt] at hgo2
    obtain ⟨ds1, htg, hgo2⟩ := bind2 (show (tg (wipeS ds vs) xs[i]).bind _ = _ from hgo2)
    obtain ⟨⟨b, w4⟩, hc, hgo2⟩ := bind2 hgo2
    refine ⟨Z, F3, wipeS ds vs, w3, _, _, (r3.shown hD3).wipe vs, hden, htg, fun σ2 r4 hsame hlen => ⟨?_, ?_⟩⟩
    · have e1 : L2.wipe σ2 vs = L2.wipe (L2.wipe σ vs) vs := wipe_same hlen fun i hi => hsame i fun z => hi (hj i z)
      rw [e1, wipe_wipe]
    · refine ⟨Z, F3, ds1, w3, _, _, r4, hc, fun F4 H4 s4 d4 => ?_⟩
      obtain ⟨hD4, hF4⟩ := s4.out hp hD3 hF3
      have hs4 := hid_stp hF4 s4
      dsimp only
      split
      · rename_i hb
        dsimp only at hgo2
        rw [if_pos hb] at hgo2
        obtain ⟨⟨y, w5⟩, he, hgo2⟩ := bind2 hgo2
        obtain ⟨⟨rest', w6⟩, hr, hgo2⟩ := bind2 hgo2
        cases hgo2
        refine ⟨Z, F4, ds1, _, _, _, r4.step s4 d4, he, fun v F5 H5 s5 d5 hv => ?_⟩
        obtain ⟨hD5, hF5⟩ := s5.out hp hD4 hF4
        have hs5 := hid_stp hF5 s5
        have hlen2 : us2.length < sizeLine := by
          rw [hacc2.len]
          refine sz_lt ?_
          have := congrArg List.length hcat
          rw [List.length_append, List.length_cons, List.length_append] at this
          have hl' : acc.length + ys.length ≤ 100000 := hl
          show acc2.length < 100000
          dsimp only at this
          omega
        have st : Stp Z.p F (J.hid B H) F5 (J.hid B H5) := ((s2.trans hs3).trans hs4).trans hs5
        refine ⟨us2, hD5, hlen2, rfl, by omega, F5, acc2 ++ [y], us2 ++ [v], rest', w5, ?_, ?_, upd_same, hF5, (hacc2.mono (s3.f.trans (s4.f.trans s5.f))).append (dens_cons hv dens_nil), hr, by rw [List.append_assoc]; exact hcat⟩
        · rw [hid_upd]
          exact st
        · rw [hid_upd]
          exact r3.step (hs4.trans hs5) (d5.hid hp)
      · rename_i hb
        dsimp only at hgo2
        rw [if_neg hb] at hgo2
        exact ⟨rfl, by omega, F4, acc2, us2, rest, w4, (s2.trans hs3).trans hs4, r3.step hs4 (d4.hid hp), hD4, hF4, hacc2.mono (s3.f.trans s4.f), hgo2, hcat⟩
  · left
    refine ⟨hstop (by omega), ?_⟩
    have hnil : xs.drop i = [] := List.drop_eq_nil_of_le (by omega)
    rw [hnil] at hgo2
    cases hgo2
    rw [List.append_nil] at hcat
    subst hcat
    exact hN F2 H2 us2 s2 (r2.wipe vs) hD2 hF2 hacc2
def lcGo2 (tg : Eg) (c : Et) (src1 : Ef) (tg1 : Eg) (c1 : Et) (e : Ev) (vs1 : List Nat) (ds : List Sl) : List D → Wd → Option (List D × Wd)
  | [], w => some ([], w)
  | x :: xs, w => (tg ds x).bind fun ds1 => (c ds1 w).bind fun b => if b.1 = true then (src1 ds1 b.2).bind fun s => (lcGo tg1 c1 e (wipeS ds1 vs1) s.1 s.2).bind fun r1 => (lcGo2 tg c src1 tg1 c1 e vs1 ds xs r1.2).bind fun r => some (r1.1 ++ r.1, r.2) else lcGo2 tg c src1 tg1 c1 e vs1 ds xs b.2
def fLc2 (src : Ef) (tg : Eg) (c : Et) (src1 : Ef) (tg1 : Eg) (c1 : Et) (e : Ev) (vs vs1 : List Nat) : Ef := fun ds w => (src ds w).bind fun s => (lcGo2 tg c src1 tg1 c1 e vs1 (wipeS ds vs) s.1 s.2).bind fun r => if r.1.length ≤ line then some r else none
theorem wipe_sub {σ2 σ : L2.St} {vs1 vs : List Nat} (hv : ∀ i ∈ vs1, i ∈ vs) (hl : σ2.length = σ.length) (h : ∀ i, i ∉ vs → σ2[i]? = σ[i]?) : L2.wipe σ2 vs = L2.wipe σ vs := wipe_same hl h
theorem lc2_of {b : Bool} {src src1 : Ef} {tg tg1 : Eg} {c c1 : Et} {e : Ev} {vs vs1 js js1 : List Nat} (hj : ∀ i ∈ js, i ∈ vs) (hj1 : ∀ i ∈ js1, i ∈ vs1) (hv : ∀ i ∈ vs1, i ∈ vs) (hgo : GOk tg js) (σ : L2.St) (H : Hp) (Q : VK) : canF K (fLc2 src tg c src1 tg1 c1 e vs vs1) σ H Q →
    tLc2 (canI K b src) (canG K tg js) (canT K c) (canI K false src1) (canG K tg1 js1) (canT K c1) (canE K e) vs vs1 σ H Q := fun ⟨Z, F, ds, w, ys, w', rr, hf, k⟩ => by
  obtain ⟨⟨xs, w1⟩, hs, hf⟩ := bind2 hf
  obtain ⟨⟨zs, w2⟩, hg, hf⟩ := bind2 hf
  split at hf
  · rename_i hl
    cases hf
    refine ⟨Z, F, ds, w, _, _, rr, hs, fun T F1 H1 A s1 d1 _ hS D hD => ?_⟩
    obtain ⟨hA, hT⟩ := hS
    have r1 := rr.step s1 d1
    have hp : D ≠ Z.p := r1.np hD
    have hDF : F1 D = none := r1.ex.free hD
    let W : Nat → Nat → Hp → Prop := fun i m H2 => m = xs.length - i ∧ i ≤ xs.length ∧ ∃ F2 acc2 us2 rest w3, Stp Z.p F1 H1 F2 (J.hid D H2) ∧ R K Z F2 (J.hid D H2) σ ds w3 ∧ H2 D = some (.lst us2) ∧ F2 D = none ∧ Dens K Z.p F2 acc2 us2 ∧ lcGo2 tg c src1 tg1 c1 e vs1 (wipeS ds vs) (xs.drop i) w3 = some (rest, w') ∧ acc2 ++ rest = ys
    have hid1 : J.hid D (upd H1 D (.lst [])) = H1 := by rw [hid_upd, hid_none hD]
    refine ⟨W, ⟨xs.length, rfl, Nat.zero_le _, F1, [], [], ys, w1, by rw [hid1]; exact r1.stp, by rw [hid1]; exact r1, upd_same, hDF, dens_nil, hg, rfl⟩, fun i m H2 hw => ?_⟩
    obtain ⟨rfl, hi, F2, acc2, us2, rest, w3, s2, r2, hD2, hF2, hacc2, hgo2, hcat⟩ := hw
    have hR2 := r2.shown hD2
    have hA2 : ∀ q ∈ A, H2 q.1 = some q.2 := fun q hq => by
      have h1 := s2.h _ _ (hA q hq).2 (hA q hq).1
      by_cases z : q.1 = D
      · rw [z, hid_at] at h1
        cases h1
      · rw [hid_ne z] at h1
        exact h1
    obtain ⟨hstop, hgo'⟩ := hT F2 H2 hA2 s2.f hR2.ex hR2.fp (let ⟨a, h, _⟩ := hR2.dr; ⟨_, h⟩) i
    by_cases hlt : i < xs.length
    · right
      have hx : xs[i]? = some xs[i] := List.getElem?_eq_getElem hlt
      obtain ⟨g1, g2⟩ := hgo' _ hx
      refine ⟨g1, fun H' => W (i + 1) (xs.length - (i + 1)) H', fun H' z => ⟨_, by omega, z⟩, fun x H3 hy => ?_⟩
      obtain ⟨sm, F3, s3, hden⟩ := g2 x H3 hy
      have d3 : Dr Z.p F3 H3 w3 := by
        obtain ⟨a, q1, q2⟩ := hR2.dr
        exact ⟨a, sm _ _ q1, s3.f _ _ q2⟩
      obtain ⟨hD3, hF3⟩ := s3.out hp hD2 hF2
      have r3 := r2.hidden hp hD2 hF2 s3 d3
      have hs3 := hid_stp hF3 s3
      rw [List.drop_eq_getElem_cons hlt] at hgo2
      obtain ⟨ds1, htg, hgo2⟩ := bind2 (show (tg (wipeS ds vs) xs[i]).bind _ = _ from hgo2)
      obtain ⟨⟨b', w4⟩, hc, hgo2⟩ := bind2 hgo2
      refine ⟨Z, F3, wipeS ds vs, w3, _, _, (r3.shown hD3).wipe vs, hden, htg, fun σ2 r4 hsame hlen => ⟨?_, ?_⟩⟩
      · have e1 : L2.wipe σ2 vs = L2.wipe (L2.wipe σ vs) vs := wipe_same hlen fun i hi => hsame i fun z => hi (hj i z)
        rw [e1, wipe_wipe]
      · refine ⟨Z, F3, ds1, w3, _, _, r4, hc, fun F4 H4 s4 d4 => ?_⟩
        obtain ⟨hD4, hF4⟩ := s4.out hp hD3 hF3
        have hs4 := hid_stp hF4 s4
        dsimp only
        split
        · rename_i hb
          dsimp only at hgo2
          rw [if_pos hb] at hgo2
          obtain ⟨⟨zs1, w5⟩, hs1, hgo2⟩ := bind2 hgo2
          obtain ⟨⟨ys1, w6⟩, hg1, hgo2⟩ := bind2 hgo2
          obtain ⟨⟨rest', w7⟩, hr, hgo2⟩ := bind2 hgo2
          cases hgo2
          refine ⟨Z, F4, ds1, _, _, _, r4.step s4 d4, hs1, fun T1 F5 H5 A1 s5 d5 hA1 hS1 => ?_⟩
          obtain ⟨hD5, hF5⟩ := s5.out hp hD4 hF4
          have hs5 := hid_stp hF5 s5
          have hS1' : Src K Z.p T1 F5 H5 [] zs1 := by rw [← hA1 rfl]; exact hS1
          have hlen2 : acc2.length + ys1.length ≤ line := by
            have := congrArg List.length hcat
            rw [List.length_append, List.length_append] at this
            have hl' : ys.length ≤ 100000 := hl
            show _ ≤ 100000
            dsimp only at this
            omega
          have r3w := r3.wipe vs
          have r4h : R K Z F3 (J.hid D H3) σ2 ds1 w3 := r4.hide r3w hp fun i s hi ho => by
            obtain ⟨q1, q2⟩ := hgo _ _ _ htg i s hi ho
            exact ⟨q2, hsame i q1⟩
          have r5h : R K Z F5 (J.hid D H5) σ2 ds1 w5 := r4h.step (hs4.trans hs5) (d5.hid hp)
          refine lc_inner hj1 r5h hp hD5 hF5 (hacc2.mono (s3.f.trans (s4.f.trans s5.f))) hS1' hg1 hlen2 fun F6 H6 us6 s6 r6 hD6 hF6 hacc6 => ?_
          have st : Stp Z.p F1 H1 F6 (J.hid D H6) := (((s2.trans hs3).trans hs4).trans hs5).trans s6
          exact ⟨rfl, by omega, F6, acc2 ++ ys1, us6, rest', w6, st, r3.step ((hs4.trans hs5).trans s6) r6.dr, hD6, hF6, hacc6, hr, by rw [List.append_assoc]; exact hcat⟩
        · rename_i hb
          dsimp only at hgo2
          rw [if_neg hb] at hgo2
          exact ⟨rfl, by omega, F4, acc2, us2, rest, w4, (s2.trans hs3).trans hs4, r3.step hs4 (d4.hid hp), hD4, hF4, hacc2.mono (s3.f.trans s4.f), hgo2, hcat⟩
    · left
      refine ⟨hstop (by omega), ?_⟩
      have hnil : xs.drop i = [] := List.drop_eq_nil_of_le (by omega)
      rw [hnil] at hgo2
      cases hgo2
      rw [List.append_nil] at hcat
      subst hcat
      have st := stp_shown hD hF2 s2
      refine k D us2 F2 H2 (s1.trans st) hR2.dr hD2 ?_ hF2 hp hacc2
      cases q : H D with
      | none => rfl
      | some o =>
        have := s1.h D o hp q
        rw [hD] at this
        cases this
  · cases hf
end
abbrev Blk (X : Cx) (scope : Scope) (P : Cx → Prop) : Prop := ∀ (s : Shared) (H : Hp) (C : Addr) (cl : List (Str × Addr)) (fp : List Addr), P (X.blk s H scope (compEnvC scope cl C X.env) fp)
section
variable {X : Cx} {elt tg iter tg1 iter1 : Expr} {ifs ifs1 : List Expr} {scope : Scope} {own : List (Str × Nat)} {vs1 : List Nat} {b : Bool} {src src1 : Ef} {g g1 : Eg} {c c1 : Et} {e : Ev} {js js1 : List Nat}
theorem jf_lc2 {pos : Pos} (hc : X.calm = true) (hN : X.N.Nodup) (hi : JI X tg iter b src) (ok : BlkOk X.N X.env.scope scope own) (hg : Blk X scope fun Y => JG Y tg g js) (ht : Blk X scope fun Y => JTs Y ifs c)
    (hi1 : Blk X scope fun Y => JI Y tg1 iter1 false src1) (hg1 : Blk X scope fun Y => JG Y tg1 g1 js1) (ht1 : Blk X scope fun Y => JTs Y ifs1 c1) (he : Blk X scope fun Y => JE Y elt e) (hk : GOk g js)
    (hv : ∀ i ∈ vs1, i ∈ own.map (·.2) := by decide) (hj : ∀ i ∈ js, i ∈ own.map (·.2) := by decide) (hj1 : ∀ i ∈ js1, i ∈ vs1 := by decide) (hs : ∀ x, foldedSetIterable iter X.env x = pure x := by intro _; rfl) (hs1 : ∀ env x, foldedSetIterable iter1 env x = pure x := by intro _ _; rfl) :
    JF X (.ListComp elt [⟨tg, iter, ifs, 0⟩, ⟨tg1, iter1, ifs1, 0⟩] scope pos) (fLc2 src g c src1 g1 c1 e (own.map (·.2)) vs1) :=
  ⟨pe_weak (pe_lc2 hc hN hi.run ok hv (fun s H C cl fp => (hg s H C cl fp).run) (fun s H C cl fp => (ht s H C cl fp).run) (fun s H C cl fp => (hi1 s H C cl fp).run) (fun s H C cl fp => (hg1 s H C cl fp).run) (fun s H C cl fp => (ht1 s H C cl fp).run) (fun s H C cl fp => (he s H C cl fp).run) hs hs1) (lc2_of hj hj1 hv hk)⟩
theorem js_setLc2 {y : Str} {py pos pos' : Pos} (i : Nat) (hc : X.calm = true) (hN : X.N.Nodup) (hsw : swapsWith (.ListComp elt [⟨tg, iter, ifs, 0⟩, ⟨tg1, iter1, ifs1, 0⟩] scope pos') (some (.Name y py)) pos.line X.env = pure true) (hi : JI X tg iter b src) (ok : BlkOk X.N X.env.scope scope own) (hg : Blk X scope fun Y => JG Y tg g js) (ht : Blk X scope fun Y => JTs Y ifs c)
    (hi1 : Blk X scope fun Y => JI Y tg1 iter1 false src1) (hg1 : Blk X scope fun Y => JG Y tg1 g1 js1) (ht1 : Blk X scope fun Y => JTs Y ifs1 c1) (he : Blk X scope fun Y => JE Y elt e) (hk : GOk g js) (hy : X.N[i]? = some y := by rfl) (hyl : X.env.scope.names.lookup y = some .local := by rfl)
    (hv : ∀ i ∈ vs1, i ∈ own.map (·.2) := by decide) (hj : ∀ i ∈ js, i ∈ own.map (·.2) := by decide) (hj1 : ∀ i ∈ js1, i ∈ vs1 := by decide) (hs : ∀ x, foldedSetIterable iter X.env x = pure x := by intro _; rfl) (hs1 : ∀ env x, foldedSetIterable iter1 env x = pure x := by intro _ _; rfl) :
    JS X (.Assign [.Name y py] (.ListComp elt [⟨tg, iter, ifs, 0⟩, ⟨tg1, iter1, ifs1, 0⟩] scope pos') pos) (sSetO i (fLc2 src g c src1 g1 c1 e (own.map (·.2)) vs1)) :=
  ⟨ps_weak (ps_setLc2 hc hN hy hyl hsw hi.run ok hv (fun s H C cl fp => (hg s H C cl fp).run) (fun s H C cl fp => (ht s H C cl fp).run) (fun s H C cl fp => (hi1 s H C cl fp).run) (fun s H C cl fp => (hg1 s H C cl fp).run) (fun s H C cl fp => (ht1 s H C cl fp).run) (fun s H C cl fp => (he s H C cl fp).run) hs hs1) fun D σ H ⟨Z, F, ds, w, o, rr, hf, k⟩ => by
    obtain ⟨d, hd, hf⟩ := bind2 hf
    cases hf
    exact lc2_of hj hj1 hv hk σ H _ ⟨Z, F, ds, w, _, _, rr, hd, fun q vs F1 H1 s1 d1 h1 h2 h3 h4 h5 => k _ F1 H1 s1.f (R.fresh i rr s1 d1 h1 h2 h3 h4 h5)⟩⟩
end
/-! the meanings of these, applied -/
@[simp] theorem lcGo2_nil (tg : Eg) (c : Et) (src1 : Ef) (tg1 : Eg) (c1 : Et) (e : Ev) (vs1 : List Nat) (ds : List Sl) (w : Wd) : lcGo2 tg c src1 tg1 c1 e vs1 ds [] w = some ([], w) := rfl
theorem lcGo2_yes {tg : Eg} {src1 : Ef} {tg1 : Eg} {c1 : Et} {e : Ev} {vs1 : List Nat} {ds ds1 : List Sl} {x : D} {xs zs : List D} {w w1 : Wd} {ys : List D × Wd} (h1 : tg ds x = some ds1) (h2 : src1 ds1 w = some (zs, w1)) (h3 : lcGo tg1 c1 e (wipeS ds1 vs1) zs w1 = some ys) :
    lcGo2 tg tYesJ src1 tg1 c1 e vs1 ds (x :: xs) w = (lcGo2 tg tYesJ src1 tg1 c1 e vs1 ds xs ys.2).bind fun r => some (ys.1 ++ r.1, r.2) := by
  conv => lhs; unfold lcGo2
  rw [h1]
  simp only [Option.bind_some, tYesJ, if_true, h2, h3]
/-- two clauses without tests whose parts draw nothing -/
theorem lcGo2_map {α β : Type} (enc : α → D) (out : β → D) {tg : Eg} {src1 : Ef} {tg1 : Eg} {c1 : Et} {e : Ev} {vs1 : List Nat} {ds : List Sl} {w : Wd} (f : α → List β) : ∀ xs : List α, (∀ a ∈ xs, ∃ ds1 zs, tg ds (enc a) = some ds1 ∧ src1 ds1 w = some (zs, w) ∧ lcGo tg1 c1 e (wipeS ds1 vs1) zs w = some ((f a).map out, w)) →
    lcGo2 tg tYesJ src1 tg1 c1 e vs1 ds (xs.map enc) w = some ((xs.flatMap f).map out, w)
  | [], _ => rfl
  | a :: xs, h => by
    obtain ⟨ds1, zs, h1, h2, h3⟩ := h a List.mem_cons_self
    rw [List.map_cons, lcGo2_yes h1 h2 h3, lcGo2_map enc out f xs fun b hb => h b (List.mem_cons_of_mem _ hb)]
    simp
def l2c1 (tg : Eg) (c : Et) (src1 : Ef) (tg1 : Eg) (c1 : Et) (e : Ev) (vs1 : List Nat) (ds : List Sl) : Option (List D × Wd) → Option (List D × Wd)
  | some (xs, w1) => lc2 (lcGo2 tg c src1 tg1 c1 e vs1 ds xs w1)
  | none => none
@[simp] theorem l2c1.on (tg : Eg) (c : Et) (src1 : Ef) (tg1 : Eg) (c1 : Et) (e : Ev) (vs1 : List Nat) (ds : List Sl) (xs : List D) (w1 : Wd) : l2c1 tg c src1 tg1 c1 e vs1 ds (some (xs, w1)) = lc2 (lcGo2 tg c src1 tg1 c1 e vs1 ds xs w1) := rfl
@[simp] theorem fLc2.ap (src : Ef) (tg : Eg) (c : Et) (src1 : Ef) (tg1 : Eg) (c1 : Et) (e : Ev) (vs vs1 : List Nat) (ds : List Sl) (w : Wd) : fLc2 src tg c src1 tg1 c1 e vs vs1 ds w = l2c1 tg c src1 tg1 c1 e vs1 (wipeS ds vs) (src ds w) := by
  unfold fLc2
  rcases src ds w with _ | ⟨xs, w1⟩
  · rfl
  · show (lcGo2 tg c src1 tg1 c1 e vs1 (wipeS ds vs) xs w1).bind _ = lc2 (lcGo2 tg c src1 tg1 c1 e vs1 (wipeS ds vs) xs w1)
    rcases lcGo2 tg c src1 tg1 c1 e vs1 (wipeS ds vs) xs w1 with _ | ⟨b, w2⟩ <;> rfl
end J
namespace J
open PySem PyProof.Rows L2
/-! ### sorted, sum of a tuple -/
section
variable {prog : Program} {w : World} {A : Around} {E : Value → Shared → Prop} {s : Shared}
theorem coll_tup {t : Addr} {its : List Value} {Q : List Value → Shared → Prop} (ht : s.heap.IsTuple t its.toArray) (hn : its.length ≤ sizeLine)
    (q : Q its { s with heap := (s.heap.push (seqObj "list" #[] 0)).update s.heap.objs.size (Obj.mapSeq fun z => z ++ its.toArray) }) : wpAny (model prog w) A (collect (.ref t)) Q E s := by
  obtain ⟨ob, e1, e2, c, e3⟩ := id ht
  unfold collect
  refine wpAny_bind (wpAny_runValue (codeAny_builtin entry_proto_collect' ?_))
  show wpAny (model prog w) _ (newList [] >>= fun v => again (.builtin "list.__iadd__" ⟨[v, .ref t], []⟩)) _ _ s
  refine wpAny_bind (wpAny_newList (wpAny_pure ⟨Code.quiet_builtin _ (by decide +kernel), codeAny_builtin entry_list_iadd' ?_⟩))
  show wpAny (model prog w) _ (Builtin.List.listExtendWith (.ref s.heap.objs.size) (.ref t) (.ref s.heap.objs.size)) _ _ _
  unfold Builtin.List.listExtendWith
  have e1' : (s.heap.push (seqObj "list" #[] 0)).get? t = some ob := Heap.get?_push_of_some _ e1
  refine wpAny_bind (wpAny_typeOf (T := "tuple") ⟨ob, e1', e2⟩ ?_)
  have k : (Value.type "tuple" == Value.type "tuple") = true := by rfl
  rw [if_pos (by rw [k, Bool.or_true])]
  refine wpAny_bind (listItems_at e1' e3 ?_)
  refine wpAny_bind (listItems_at (Heap.get?_push_size _ rfl) rfl ?_)
  rw [if_neg (by simp)]
  refine wpAny_bind (listUpdate_at (Heap.get?_push_size _ rfl) rfl ?_ (Nat.zero_le _) (by
    show (#[] ++ its.toArray).size ≤ sizeLine + 1
    simp only [Array.size_append, List.size_toArray, List.length_nil]
    omega))
  refine wpAny_pure ?_
  show wpAny (model prog w) A (load s.heap.objs.size >>= fun o => match o.data with
    | .seq z _ => pure z.toList
    | _ => unsupported "internal:collect") Q E _
  refine wpAny_bind (wpAny_load (get?_update_seq (Heap.get?_push_size _ rfl) _) ?_)
  show wpAny (model prog w) A (pure (#[] ++ its.toArray : Array Value).toList) Q E _
  rw [show (#[] ++ its.toArray : Array Value).toList = its by simp]
  exact wpAny_pure q
/-- sorted(t): as of a list -/
theorem sorted_tup {t : Addr} {its : List Value} {ltv : Value → Value → Bool} {Q : Value → Shared → Prop} (O : SrtO.Swo ltv) (ht : s.heap.IsTuple t its.toArray) (hn : its.length ≤ sizeLine)
    (hS : 2 ≤ its.length → ∀ (g : Heap) (a : Addr), g.get? a = some (seqObj "list" its.toArray 0) → (∀ b o, s.heap.get? b = some o → b ≠ a ∧ g.get? b = some o) → SrtO.SortableO prog w A.in1.in1 { s with heap := g } a its ltv)
    (q : ∀ out : List Value, SrtO.Srtd ltv out → SrtO.Stb ltv out its → Q (.ref (s.heap.objs.size + 1)) { s with heap := sortedAll s.heap its out.toArray }) : wpAny (model prog w) A (call (.builtin "sorted") [.ref t]) Q E s := by
  refine Calls.call_function_entry kind_sorted plain_sorted entry_sorted (args_sorted1 _) ?_
  unfold Builtin.«sorted»
  refine wpAny_bind (m := checkCount "sorted" 1 1 _) (wpAny_pure (wpAny_bind (coll_tup ht hn (wpAny_bind (wpAny_newList ?_ hn)))))
  let g := (s.heap.push (seqObj "list" #[] 0)).update s.heap.objs.size (Obj.mapSeq fun z => z ++ its.toArray)
  have gs : g.objs.size = s.heap.objs.size + 1 := (Heap.size_update ..).trans (size_push' ..)
  have gl : (g.push (seqObj "list" its.toArray 0)).get? (s.heap.objs.size + 1) = some (seqObj "list" its.toArray 0) := by
    rw [← gs]
    exact Heap.get?_push_size _ rfl
  have gk : ∀ b o, s.heap.get? b = some o → b ≠ s.heap.objs.size + 1 ∧ (g.push (seqObj "list" its.toArray 0)).get? b = some o := fun b o e => by
    have lt := Heap.lt_size e
    exact ⟨Nat.ne_of_lt (Nat.lt_succ_of_lt lt), Heap.get?_push_of_some _ ((Heap.get?_update_ne _ _ _ _ (Nat.ne_of_lt lt)).trans (Heap.get?_push_of_some _ e))⟩
  show wpAny (model prog w) _ _ _ _ { s with heap := g.push (seqObj "list" its.toArray 0) }
  rw [show ((s.heap.push (seqObj "list" #[] 0)).update s.heap.objs.size (Obj.mapSeq fun z => z ++ its.toArray)).objs.size = s.heap.objs.size + 1 from gs]
  refine wpAny_bind (wpAny_holding (wpAny_call_entry slot_list_sort ⟨_, gl, rfl⟩ entry_list_sort (SrtO.list_sort_ord O gl hn (fun h2 => hS h2 _ _ gl gk) fun out a b => ⟨_, rfl, ?_⟩) (args_list_sort _)))
  exact wpAny_pure ⟨_, rfl, q out a b⟩
end
section
variable {X : Cx}
def rSortedIT (K : PySem.W.Frag) : List V → Hp → VK → Prop := fun vs H Q => ∃ (a : Addr) (ns : List Int), vs = [V.ref a] ∧ SqT K H a (ns.map V.int) ∧ ∀ (ns' : List Int) (p : Addr), ns'.Perm ns → ns'.Pairwise (· ≤ ·) → H p = none → Q (.ref p) (upd H p (.lst (ns'.map V.int)))
theorem cr_sortedIT : CallR X (.builtin "sorted") (rSortedIT X.K) := by
  intro pins s σ H vs us Q I r h
  obtain ⟨a, ns, rfl, hs, q⟩ := h
  obtain ⟨its, rv, hl, hz⟩ := I.tuple hs
  rw [Vals.ref1 r]
  have hi := rv.ints
  refine sorted_tup SrtO.swo_int hl (by rw [← rv.length]; exact hz) (fun h2 _ _ _ _ => SrtO.ints_sortable hi h2) fun out h1 h2 => ?_
  obtain ⟨k1, k2, k3⟩ := SrtO.ints_out hi h1 h2
  obtain ⟨ep, he'⟩ := PyProof.Rows.sortedAll_at s.heap its out.toArray
  have hlen : ((out.map SrtO.iv).map V.int).length ≤ sizeLine := by
    rw [List.length_map, k2.length_eq]
    rwa [List.length_map] at hz
  exact ⟨.ref _, upd H (s.heap.objs.size + 1) (.lst ((out.map SrtO.iv).map V.int)), I.laid (t' := s.toks) (fun _ _ => PyProof.Rows.sortedAll_old) (Nat.le_succ _) ⟨hlen, out, ep, vals_of_ints k1, he'⟩, rfl, q _ _ k2 k3 (I.hok.fresh (Nat.le_succ _))⟩
def rSumT (K : PySem.W.Frag) : List V → Hp → VK → Prop := fun vs H Q => ∃ (a : Addr) (ns : List Int), vs = [V.ref a] ∧ SqT K H a (ns.map V.int) ∧ Q (.int ns.sum) H
theorem cr_sumT (hc : X.calm = true) : CallR X (.builtin "sum") (rSumT X.K) := by
  intro pins s σ H vs us Q I r h
  obtain ⟨a, ns, rfl, hs, q⟩ := h
  obtain ⟨its, rv, hl, _⟩ := I.tuple hs
  rw [Vals.ref1 r]
  have hi := rv.ints
  obtain ⟨xs, e⟩ := hi.allInts.items
  have hn : numsOf (intItems xs).toList = ns := by rw [← e]; exact hi.numsOf
  rw [nums_intItems] at hn
  rw [e] at hl
  refine PySem.W.ktm_sumG (I.ok.hd hc) hl fun h' tk t' hk => ⟨.int _, H, I.kept hk, ⟨t', ?_⟩, q⟩
  rw [preSum_eq, List.take_of_length_le (by simp), hn]
end
/-! ### lists of tuples of ints, in order -/
def llt : List Int → List Int → Bool
  | [], [] => false
  | [], _ :: _ => true
  | _ :: _, [] => false
  | a :: r, b :: q => decide (a < b) || (decide (a = b) && llt r q)
def insL (x : List Int) : List (List Int) → List (List Int)
  | [] => [x]
  | y :: l => if llt y x then y :: insL x l else x :: y :: l
def isort (l : List (List Int)) : List (List Int) := l.foldr insL []
theorem insL_perm (x : List Int) : ∀ l : List (List Int), (insL x l).Perm (x :: l)
  | [] => List.Perm.refl _
  | y :: l => by
    unfold insL
    split
    · exact ((insL_perm x l).cons y).trans (List.Perm.swap x y l)
    · exact List.Perm.refl _
theorem isort_perm : ∀ l : List (List Int), (isort l).Perm l
  | [] => List.Perm.refl _
  | x :: l => (insL_perm x (isort l)).trans ((isort_perm l).cons x)
def Bd1 (ns : List Int) : Prop := TS.Bd 1000 ns
theorem llt_code : ∀ (a b : List Int), a.length = b.length → Bd1 a → Bd1 b → llt a b = decide (TS.code 1000 a < TS.code 1000 b)
  | [], [], _, _, _ => rfl
  | [], _ :: _, h, _, _ => by cases h
  | _ :: _, [], h, _, _ => by cases h
  | x :: r, y :: q, h, ha, hb => by
    have hl : r.length = q.length := by simpa using h
    unfold llt
    rcases Int.lt_trichotomy x y with z | z | z
    · rw [decide_eq_true z, Bool.true_or, decide_eq_true (TS.code_lt hl ha.tail hb.tail z)]
    · subst z
      rw [decide_eq_false (Int.lt_irrefl x), Bool.false_or, decide_eq_true rfl, Bool.true_and, llt_code r q hl ha.tail hb.tail]
      exact decide_eq_decide.mpr (TS.code_same hl).symm
    · have k := TS.code_lt hl.symm hb.tail ha.tail z
      rw [decide_eq_false (by omega), decide_eq_false (by omega), Bool.false_or, Bool.false_and, decide_eq_false (by omega)]
theorem code_inj : ∀ (a b : List Int), a.length = b.length → Bd1 a → Bd1 b → TS.code 1000 a = TS.code 1000 b → a = b
  | [], [], _, _, _, _ => rfl
  | [], _ :: _, h, _, _, _ => by cases h
  | _ :: _, [], h, _, _, _ => by cases h
  | x :: r, y :: q, h, ha, hb, e => by
    have hl : r.length = q.length := by simpa using h
    rcases Int.lt_trichotomy x y with z | z | z
    · have k := TS.code_lt hl ha.tail hb.tail z
      omega
    · subst z
      have k1 := TS.code_same (B := 1000) (d := x) hl
      have k2 := TS.code_same (B := 1000) (d := x) hl.symm
      rw [code_inj r q hl ha.tail hb.tail (by
        have a1 : ¬TS.code 1000 r < TS.code 1000 q := fun z => by
          have := k1.mpr z
          omega
        have a2 : ¬TS.code 1000 q < TS.code 1000 r := fun z => by
          have := k2.mpr z
          omega
        omega)]
    · have k := TS.code_lt hl.symm hb.tail ha.tail z
      omega
/-- bounded, of one length -/
def Alike (d : Nat) (l : List (List Int)) : Prop := ∀ ns ∈ l, ns.length = d ∧ Bd1 ns
theorem insL_pair {d : Nat} {x : List Int} (hx : x.length = d ∧ Bd1 x) : ∀ {l : List (List Int)}, Alike d l → l.Pairwise (fun a b => TS.code 1000 a ≤ TS.code 1000 b) → (insL x l).Pairwise (fun a b => TS.code 1000 a ≤ TS.code 1000 b)
  | [], _, _ => List.pairwise_singleton _ _
  | y :: l, hl, hp => by
    have hy := hl y List.mem_cons_self
    have hl' : Alike d l := fun z hz => hl z (List.mem_cons_of_mem _ hz)
    have q := llt_code y x (hy.1.trans hx.1.symm) hy.2 hx.2
    obtain ⟨p1, p2⟩ := List.pairwise_cons.mp hp
    unfold insL
    split
    · rename_i h
      rw [q] at h
      have h' := of_decide_eq_true h
      refine List.pairwise_cons.mpr ⟨fun z hz => ?_, insL_pair hx hl' p2⟩
      rcases List.mem_cons.mp ((insL_perm x l).mem_iff.mp hz) with e | e
      · subst e
        omega
      · exact p1 z e
    · rename_i h
      rw [q] at h
      have h' : ¬TS.code 1000 y < TS.code 1000 x := fun z => h (decide_eq_true z)
      refine List.pairwise_cons.mpr ⟨fun z hz => ?_, hp⟩
      rcases List.mem_cons.mp hz with e | e
      · subst e
        omega
      · have := p1 z e
        omega
theorem isort_pair {d : Nat} : ∀ {l : List (List Int)}, Alike d l → (isort l).Pairwise (fun a b => TS.code 1000 a ≤ TS.code 1000 b)
  | [], _ => List.Pairwise.nil
  | x :: l, h => by
    have hl : Alike d l := fun z hz => h z (List.mem_cons_of_mem _ hz)
    exact insL_pair (h x List.mem_cons_self) (fun z hz => hl z ((isort_perm l).mem_iff.mp hz)) (isort_pair hl)
theorem map_inj_on {α β : Type} (f : α → β) : ∀ (l m : List α), (∀ a ∈ l, ∀ b ∈ m, f a = f b → a = b) → l.map f = m.map f → l = m
  | [], [], _, _ => rfl
  | [], _ :: _, _, e => by cases e
  | _ :: _, [], _, e => by cases e
  | a :: l, b :: m, h, e => by
    rw [List.map_cons, List.map_cons] at e
    injection e with e1 e2
    rw [h a List.mem_cons_self b List.mem_cons_self e1, map_inj_on f l m (fun x hx y hy => h x (List.mem_cons_of_mem _ hx) y (List.mem_cons_of_mem _ hy)) e2]
theorem isort_uniq {d : Nat} {l m : List (List Int)} (hl : Alike d l) (hp : m.Perm l) (hs : m.Pairwise (fun a b => TS.code 1000 a ≤ TS.code 1000 b)) : m = isort l := by
  have e := PySem.W.ksm_same ((hp.trans (isort_perm l).symm).map (TS.code 1000)) (List.pairwise_map.mpr hs) (List.pairwise_map.mpr (isort_pair hl))
  refine map_inj_on _ _ _ (fun a ha b hb h => ?_) e
  have h1 := hl a (hp.mem_iff.mp ha)
  have h2 := hl b ((isort_perm l).mem_iff.mp hb)
  exact code_inj a b (h1.1.trans h2.1.symm) h1.2 h2.2 h
theorem perm_map_back {α β : Type} (f : α → β) {ys xs : List β} (p : ys.Perm xs) : ∀ zs : List α, xs = zs.map f → ∃ zs' : List α, zs'.Perm zs ∧ ys = zs'.map f := by
  induction p with
  | nil =>
    intro zs e
    have : zs = [] := List.map_eq_nil_iff.mp e.symm
    subst this
    exact ⟨[], List.Perm.refl _, rfl⟩
  | cons x _ ih =>
    intro zs e
    cases zs with
    | nil => cases e
    | cons z zs =>
      rw [List.map_cons] at e
      injection e with e1 e2
      obtain ⟨zs', h1, h2⟩ := ih zs e2
      exact ⟨z :: zs', h1.cons z, by rw [e1, h2]; rfl⟩
  | swap x y l =>
    intro zs e
    match zs, e with
    | [], e => cases e
    | [_], e => cases e
    | a :: b :: zs, e =>
      rw [List.map_cons, List.map_cons] at e
      injection e with e1 e2
      injection e2 with e2 e3
      exact ⟨b :: a :: zs, List.Perm.swap _ _ _, by rw [e1, e2, e3]; rfl⟩
  | trans _ _ ih1 ih2 =>
    intro zs e
    obtain ⟨zs', h1, h2⟩ := ih2 zs e
    obtain ⟨zs2, h3, h4⟩ := ih1 zs' h2
    exact ⟨zs2, h3.trans h1, h4⟩
def tupD (ns : List Int) : D := .tup (ns.map D.int)
def tupsOf : List D → Option (List (List Int))
  | [] => some []
  | .tup ds :: r => (intsOf ds).bind fun ns => (tupsOf r).bind fun l => some (ns :: l)
  | _ :: _ => none
theorem tupsOf_map : ∀ l : List (List Int), tupsOf (l.map tupD) = some l
  | [] => rfl
  | ns :: l => by
    show (intsOf (ns.map D.int)).bind _ = _
    rw [intsOf_map]
    show (tupsOf (l.map tupD)).bind _ = _
    rw [tupsOf_map l]
    rfl
theorem tupsOf_eq : ∀ (xs : List D) (l : List (List Int)), tupsOf xs = some l → xs = l.map tupD
  | [], l, h => by cases h; rfl
  | .tup ds :: r, l, h => by
    obtain ⟨ns, h1, h⟩ := bind2 (show (intsOf ds).bind _ = _ from h)
    obtain ⟨l', h2, h⟩ := bind2 h
    cases h
    rw [tupsOf_eq r l' h2, intsOf_eq h1]
    rfl
  | .non :: _, l, h => by cases h
  | .bl _ :: _, l, h => by cases h
  | .int _ :: _, l, h => by cases h
  | .str _ :: _, l, h => by cases h
  | .ty _ :: _, l, h => by cases h
  | .draw :: _, l, h => by cases h
  | .lst _ :: _, l, h => by cases h
  | .obj _ _ _ :: _, l, h => by cases h
def okTs (l : List (List Int)) : Bool := decide (l.length < 64) && l.all fun ns => decide (ns.length = (l.headD [0]).length) && (decide (0 < ns.length) && ns.all fun m => decide (0 ≤ m) && decide (m < 1000))
theorem okTs_on {l : List (List Int)} (h : okTs l = true) : l.length < 64 ∧ ∃ d, 1 ≤ d ∧ Alike d l := by
  unfold okTs at h
  simp only [Bool.and_eq_true, decide_eq_true_eq, List.all_eq_true] at h
  refine ⟨h.1, ?_⟩
  cases l with
  | nil => exact ⟨1, Nat.le_refl 1, fun _ z => nomatch z⟩
  | cons a l => exact ⟨a.length, (h.2 a List.mem_cons_self).2.1, fun ns hn => ⟨(h.2 ns hn).1, fun m hm => (h.2 ns hn).2.2 m hm⟩⟩
theorem dens_tups {K : PySem.W.Frag} {p : Addr} {F : Hp} : ∀ {l : List (List Int)} {us : List V}, Dens K p F (l.map tupD) us → ∃ ks : List (Addr × List Int), us = ks.map (fun q => V.ref q.1) ∧ ks.map (fun q => q.2) = l ∧ ∀ q ∈ ks, SqU K F q.1 (q.2.map V.int)
  | [], us, h => by
    unfold List.map Dens at h
    exact ⟨[], h, rfl, fun _ z => nomatch z⟩
  | ns :: l, us, h => by
    rw [List.map_cons] at h
    unfold Dens at h
    obtain ⟨v, r, rfl, h1, h2⟩ := h
    unfold tupD Den at h1
    obtain ⟨a, vs, rfl, h3, h4⟩ := h1
    rw [h4.ints'] at h3
    obtain ⟨ks, e1, e2, e3⟩ := dens_tups h2
    refine ⟨(a, ns) :: ks, by rw [e1]; rfl, by rw [List.map_cons, e2], fun q hq => ?_⟩
    rcases List.mem_cons.mp hq with e | e
    · subst e
      exact h3
    · exact e3 q e
theorem tups_dens {K : PySem.W.Frag} {p : Addr} {F : Hp} : ∀ (ks : List (Addr × List Int)), (∀ q ∈ ks, SqU K F q.1 (q.2.map V.int)) → Dens K p F ((ks.map fun q => q.2).map tupD) (ks.map fun q => V.ref q.1)
  | [], _ => dens_nil
  | q :: ks, h => by
    refine dens_cons ?_ (tups_dens ks fun z hz => h z (List.mem_cons_of_mem _ hz))
    unfold tupD Den
    exact ⟨q.1, _, rfl, h q List.mem_cons_self, Dens.ints _⟩
def gfSort : List D → Option (List D)
  | [.lst xs] => match intsOf xs with
    | some ns => some ((sortI ns).map D.int)
    | none => (tupsOf xs).bind fun l => if okTs l then some ((isort l).map tupD) else none
  | [.tup xs] => (intsOf xs).bind fun ns => some ((sortI ns).map D.int)
  | _ => none
def rSortU' (K : PySem.W.Frag) : List V → Hp → VK → Prop := fun vs H Q => ∃ d, 1 ≤ d ∧ rSortU K d 1000 vs H Q
theorem cr_sortU {X : Cx} : CallR X (.builtin "sorted") (rSortU' X.K) := fun pins s σ H vs us Q I r h => let ⟨_, hd, h⟩ := h; cr_sortT hd pins s σ H vs us Q I r h
theorem s_sort2 {K : PySem.W.Frag} : CalF K (fun vs H Q => rSortedI K vs H Q ∨ (rSortedIT K vs H Q ∨ rSortU' K vs H Q)) gfSort := fun Z F H σ ds w as xs vs Q r h hg k => by
  unfold gfSort at hg
  split at hg
  · obtain ⟨v, rfl, hv⟩ := densB1 h
    split at hg
    · rename_i ns h1
      cases hg
      obtain ⟨a, rfl, h3⟩ := lstInts hv r.ex h1
      refine .inl ⟨a, ns, rfl, h3, fun ns' p hp hs hn => ?_⟩
      have e : ns' = sortI ns := PySem.W.ksm_same (hp.trans (sortI_perm ns).symm) hs (sortI_pair ns)
      rw [e]
      exact k.new r (Dens.ints _) p hn
    · obtain ⟨l, h1, hg⟩ := bind2 hg
      split at hg
      · rename_i hok
        cases hg
        obtain ⟨h64, d, hd, hal⟩ := okTs_on hok
        obtain ⟨q, us, rfl, h2, h3⟩ := hv.lst r.ex
        rw [tupsOf_eq _ _ h1] at h3
        obtain ⟨ks, rfl, rfl, hks⟩ := dens_tups h3
        have inj : ∀ z ∈ ks, TupI K H (V.ref z.1) z.2 := fun z hz => ⟨z.1, rfl, same_t (hks z hz) r.ex⟩
        refine .inr (.inr ⟨d, hd, q, _, rfl, .of h2, by rw [List.length_map] at h64 ⊢; exact h64, fun x hx => ?_, fun ys p hp hs hn => ?_⟩)
        · obtain ⟨z, hz, rfl⟩ := List.mem_map.mp hx
          have := hal z.2 (List.mem_map_of_mem hz)
          exact ⟨z.2, inj z hz, this.1, this.2⟩
        · obtain ⟨zs, hz, rfl⟩ := perm_map_back (fun q : Addr × List Int => V.ref q.1) hp ks rfl
          have hzk : ∀ z ∈ zs, z ∈ ks := fun z m => hz.mem_iff.mp m
          have hpw : (zs.map fun q => q.2).Pairwise (fun a b => TS.code 1000 a ≤ TS.code 1000 b) := by
            refine List.pairwise_map.mpr ((List.pairwise_map.mp hs).imp_of_mem fun {a b} ha hb hab => ?_)
            exact hab a.2 b.2 (inj a (hzk a ha)) (inj b (hzk b hb))
          have e := isort_uniq hal (hz.map fun q => q.2) hpw
          rw [← e] at k
          exact k.new r (tups_dens zs fun z m => hks z (hzk z m)) p hn
      · cases hg
  · obtain ⟨ns, h1, hg⟩ := bind2 hg
    cases hg
    obtain ⟨v, rfl, hv⟩ := densB1 h
    obtain ⟨a, us, rfl, h2, h3⟩ := hv.tup
    rw [intsOf_eq h1] at h3
    rw [h3.ints'] at h2
    refine .inr (.inl ⟨a, ns, rfl, same_t h2 r.ex, fun ns' p hp hs hn => ?_⟩)
    have e : ns' = sortI ns := PySem.W.ksm_same (hp.trans (sortI_perm ns).symm) hs (sortI_pair ns)
    rw [e]
    exact k.new r (Dens.ints _) p hn
  · cases hg
def gSumB : List D → Option D
  | [.lst xs] => (intsOf xs).bind fun ns => some (.int ns.sum)
  | [.tup xs] => (intsOf xs).bind fun ns => some (.int ns.sum)
  | _ => none
theorem s_sumB {K : PySem.W.Frag} : CalS K (fun vs H Q => rSum K vs H Q ∨ rSumT K vs H Q) gSumB := fun Z F H σ ds w as d vs Q r h hg k => by
  unfold gSumB at hg
  split at hg
  · obtain ⟨ns, h1, h2⟩ := bind2 hg
    cases h2
    obtain ⟨v, rfl, hv⟩ := densB1 h
    obtain ⟨a, rfl, h3⟩ := lstInts hv r.ex h1
    exact .inl ⟨a, ns, rfl, h3, k _ F H r.stp r.dr den_int⟩
  · obtain ⟨ns, h1, h2⟩ := bind2 hg
    cases h2
    obtain ⟨v, rfl, hv⟩ := densB1 h
    obtain ⟨a, us, rfl, h2, h3⟩ := hv.tup
    rw [intsOf_eq h1] at h3
    rw [h3.ints'] at h2
    exact .inr ⟨a, ns, rfl, same_t h2 r.ex, k _ F H r.stp r.dr den_int⟩
  · cases hg
section
variable {X : Cx} {e : Expr} {fs : Ef} {f : Ev} {p p2 pos pos2 : Pos} {k : Nat}
def fSort := fCal gfSort
theorem jf_sort (hm : X.mg "sorted" = none) (hg : Gl X "sorted") (ha : JR X [e] fs) (he : starEach [e] X.env = (false, eval e X.env) :: starEach [] X.env := by rfl) : JF X (.Call (.Name "sorted" p) [e] [] pos) (fSort fs) := jf_bltO (CallR.or cr_sortedI (CallR.or cr_sortedIT cr_sortU)) s_sort2 hg hm (by decide +kernel) ha (by decide) (by decide) he rfl
def eSumB := eCal gSumB
theorem je_sumB (hc : X.calm = true) (hm : X.mg "sum" = none) (hg : Gl X "sum") (ha : JR X [e] fs) (he : starEach [e] X.env = (false, eval e X.env) :: starEach [] X.env := by rfl) : JE X (.Call (.Name "sum" p) [e] [] pos) (eSumB fs) := je_bltO (CallR.or (cr_sum hc) (cr_sumT hc)) s_sumB hg hm (by decide +kernel) ha (by decide) (by decide) he rfl
end
end J
namespace J
open PySem PyProof.Rows L2
section
variable {X : Cx} {K : PySem.W.Frag} {e o : Expr} {fe fo : Ev} {pos p p2 pos2 : Pos}
/-! ### xs.extend(e), e a list -/
def extD (d : D) (xs : List D) : Option (List D) := match d with
  | .lst zs => if xs.length + zs.length ≤ line then some (xs ++ zs) else none
  | _ => none
def sExt (i : Nat) (f : Ev) : Es := fun ds w => (f ds w).bind fun d => (ownTo ds i (extD d.1)).bind fun ds' => some (.nx ds' d.2)
theorem js_ext (i : Nat) {x : Str} {p1 apos cpos : Pos} (he : JE X e fe) (hN : X.N[i]? = some x := by rfl) (hv : Vis X.env.scope x := by first | exact Or.inl rfl | exact Or.inr (Or.inl rfl) | exact Or.inr (Or.inr rfl)) (hd : (x == ("__debug__" : Str)) = false := by decide) (hcd : (x == ("__classdict__" : Str)) = false := by decide)
    (hbase : attributeBase (.Name x p1) "extend" X.env (eval (.Name x p1) X.env) = eval (.Name x p1) X.env := by rfl)
    (hfew : ((backTo cpos (starEach (e :: []) X.env)).all (fun x => !x.1) && (backToKw cpos (keywordEach [] X.env)).all (fun x => x.1.isSome) && decide ((e :: []).length + ([] : List Keyword).length + (if ([] : List Keyword).isEmpty then 0 else 1) < 30)) = true := by rfl)
    (hline : (apos.endLine == cpos.line) = true := by rfl) (hs : starEach (e :: []) X.env = (false, eval e X.env) :: starEach [] X.env := by rfl) (hplain : (backTo cpos (starEach [] X.env)).any (·.1) = false := by rfl)
    (hsw : swapsWith (.Call (.Attribute (.Name x p1) "extend" apos) [e] [] cpos) none pos.line X.env = pure false := by rfl) : JS X (.Expr (.Call (.Attribute (.Name x p1) "extend" apos) [e] [] cpos) pos) (sExt i fe) :=
  ⟨ps_weak (ps_expr (pe_bm PySem.F.plainAttrs_list PySem.F.slot_list_extend PySem.F.type_list_extend mt_extend (pe_var hN hv hd hcd) (pa_cons he.run pa_nil hs) hbase hfew hline hs hplain) hsw) fun D σ H ⟨Z, F, ds, w, o, rr, hf, k⟩ => by
    obtain ⟨d, hd, hf⟩ := bind2 hf
    obtain ⟨ds', ho, hf⟩ := bind2 hf
    cases hf
    obtain ⟨xs, ys, s, s', hi, hys, rfl, hss⟩ := ownTo_spec ho
    unfold extD at hys
    split at hys
    · rename_i zs hz
      split at hys
      · rename_i hl
        cases hys
        obtain ⟨a, vs, h1, h2, h3, h4, h5⟩ := rr.own1 (own_or hi hss)
        refine ⟨.ref a, h1, .inl ⟨rfl, vs, .of h2⟩, Z, F, ds, w, _, _, rr, hd, fun v F1 H1 s1 d1 hv => ?_⟩
        have g2 := s1.h a _ h4 h2
        rw [hz] at hv
        unfold Den at hv
        obtain ⟨b, us, rfl, h6, h7⟩ := hv
        refine ⟨a, b, vs, us, rfl, rfl, g2, s1.e _ _ h6, ?_, ?_⟩
        · rw [h5.len, h7.len]
          exact Nat.le_trans hl (by decide)
        · exact k σ F1 _ s1.f ((rr.step s1 d1).turn hi h1 hss ((h5.mono s1.f).append h7))
      · cases hys
    · cases hys⟩
/-! ### xs.count(k), ints -/
def cntD : D → List D → Option D
  | .lst xs, [.int k] => (intsOf xs).bind fun ns => some (.int ((ns.count k : Nat) : Int))
  | _, _ => none
def eCount (f : Ev) (fs : Ef) : Ev := fun ds w => (f ds w).bind fun a => (fs ds a.2).bind fun b => (cntD a.1 b.1).bind fun d => some (d, b.2)
theorem je_count {fs : Ef} {apos cpos : Pos} (ho : JB X o fo) (ha : JR X [e] fs)
    (hbase : attributeBase o "count" X.env (eval o X.env) = eval o X.env := by rfl)
    (hfew : ((backTo cpos (starEach (e :: []) X.env)).all (fun x => !x.1) && (backToKw cpos (keywordEach [] X.env)).all (fun x => x.1.isSome) && decide ((e :: []).length + ([] : List Keyword).length + (if ([] : List Keyword).isEmpty then 0 else 1) < 30)) = true := by rfl)
    (hline : (apos.endLine == cpos.line) = true := by rfl) (hs : starEach (e :: []) X.env = (false, eval e X.env) :: starEach [] X.env := by rfl) (hplain : (backTo cpos (starEach [] X.env)).any (·.1) = false := by rfl) :
    JE X (.Call (.Attribute o "count" apos) [e] [] cpos) (eCount fo fs) :=
  ⟨pe_weak (pe_bm PySem.F.plainAttrs_list PySem.F.slot_list_count PySem.F.type_list_count mt_lcount ho.run ha.run hbase hfew hline hs hplain) fun σ H Q ⟨Z, F, ds, w, d, w', rr, hf, k⟩ => by
    obtain ⟨a, h1, hf⟩ := bind2 hf
    obtain ⟨b, h2, hf⟩ := bind2 hf
    obtain ⟨c, h3, hf⟩ := bind2 hf
    cases hf
    unfold cntD at h3
    split at h3
    · rename_i xs j ea eb
      obtain ⟨ns, h4, h3⟩ := bind2 h3
      cases h3
      refine ⟨Z, F, ds, w, _, _, rr, h1, fun v F1 H1 s1 d1 hv => ?_⟩
      rw [ea] at hv
      have r1 := rr.step s1 d1
      obtain ⟨q, us, rfl, h5, h6⟩ := hv.lst r1.ex
      rw [intsOf_eq h4] at h6
      rw [h6.ints'] at h5
      refine ⟨.inl ⟨rfl, _, .of h5⟩, Z, F1, ds, _, _, _, r1, h2, fun vs F2 H2 s2 d2 hvs => ?_⟩
      rw [eb] at hvs
      obtain ⟨u, rfl, hu⟩ := densB1 hvs
      cases hu.int
      have hq : q ≠ Z.p := by
        rintro rfl
        obtain ⟨z, hz, _⟩ := r1.dr
        rw [hz] at h5
        cases ns with
        | nil => cases h5
        | cons n ns => cases h5
      exact ⟨q, ns, j, rfl, rfl, .of (s2.h q _ hq h5), k _ F2 H2 (s1.trans s2) d2 den_int⟩
    · cases h3⟩
/-! ### sorted(set(e)), e a list of tuples of ints -/
def ddL : List (List Int) → List (List Int)
  | [] => []
  | x :: l => if l.contains x then ddL l else x :: ddL l
theorem ddL_mem (a : List Int) : ∀ l : List (List Int), a ∈ ddL l ↔ a ∈ l
  | [] => Iff.rfl
  | x :: l => by
    unfold ddL
    split
    · rename_i h
      have h' : x ∈ l := by simpa using h
      rw [ddL_mem a l, List.mem_cons]
      constructor
      · exact .inr
      · rintro (e | e)
        · rw [e]
          exact h'
        · exact e
    · rw [List.mem_cons, List.mem_cons, ddL_mem a l]
theorem ddL_nodup : ∀ l : List (List Int), (ddL l).Nodup
  | [] => List.nodup_nil
  | x :: l => by
    unfold ddL
    split
    · exact ddL_nodup l
    · rename_i h
      refine List.nodup_cons.mpr ⟨fun z => h ?_, ddL_nodup l⟩
      have := (ddL_mem x l).mp z
      simpa using this
theorem perm_of_nodup {α : Type} : ∀ {l m : List α}, l.Nodup → m.Nodup → (∀ a, a ∈ l ↔ a ∈ m) → l.Perm m := fun {l m} h1 h2 h => (List.perm_ext_iff_of_nodup h1 h2).mpr h
def sortSetD : D → Option (List D)
  | .lst xs => (tupsOf xs).bind fun l => if okTs l then some ((isort (ddL l)).map tupD) else none
  | _ => none
def fSortSet (f : Ev) : Ef := fun ds w => (f ds w).bind fun a => (sortSetD a.1).bind fun l => some (l, a.2)
theorem jf_sortset {k : Nat} (hc : X.calm = true) (hr : Room k X.A) (hm : X.mg "sorted" = none) (hm2 : X.mg "set" = none) (hg : Gl X "sorted") (hg2 : Gl X "set") (ha : JB X e fe)
    (he : starEach [.Call (.Name "set" p2) [e] [] pos2] X.env = (false, eval (.Call (.Name "set" p2) [e] [] pos2) X.env) :: starEach [] X.env := by rfl) (he2 : starEach [e] X.env = (false, eval e X.env) :: starEach [] X.env := by rfl) :
    JF X (.Call (.Name "sorted" p) [.Call (.Name "set" p2) [e] [] pos2] [] pos) (fSortSet fe) :=
  ⟨pe_weak (pe_callB (cr_sortedT hc) hg hm (by decide +kernel) (pa_cons (pe_callTy (cr_setOfT hc (by have := hr.un; omega)) hg2 hm2 (by decide +kernel) (pa_cons ha.run pa_nil he2) (by decide) (by decide) he2 rfl) pa_nil he) (by decide) (by decide) he rfl) fun σ H Q ⟨Z, F, ds, w, d, w', rr, hf, kk⟩ => by
    obtain ⟨a, h1, hf⟩ := bind2 hf
    obtain ⟨l0, h2, hf⟩ := bind2 hf
    cases hf
    unfold sortSetD at h2
    split at h2
    · rename_i xs ea
      obtain ⟨l, h3, h2⟩ := bind2 h2
      split at h2
      · rename_i hok
        cases h2
        obtain ⟨h64, d, hd, hal⟩ := okTs_on hok
        refine ⟨Z, F, ds, w, _, _, rr, h1, fun v F1 H1 s1 d1 hv => ?_⟩
        rw [ea] at hv
        have r1 := rr.step s1 d1
        obtain ⟨q, us, rfl, h5, h6⟩ := hv.lst r1.ex
        rw [tupsOf_eq _ _ h3] at h6
        obtain ⟨ks, rfl, rfl, hks⟩ := dens_tups h6
        rw [List.length_map] at h64
        refine ⟨q, ks, rfl, .of h5, fun z hz => same_t (hks z hz) r1.ex, h64, fun b L hb hsub hcov => ?_⟩
        obtain ⟨s2, d2⟩ := r1.newO (o := SetTO X.prog X.w b L) hb
        have r2 := r1.step s2 d2
        refine ⟨b, L, d, 1000, rfl, upd_same, fun z hz => same_t (hks z (hsub z hz)) r2.ex, hd, fun z hz => ?_, fun L' c hp hn h64' hpw hc => ?_⟩
        · exact hal z.2 (List.mem_map_of_mem (hsub z hz))
        · have hL : ∀ z ∈ L', z ∈ ks := fun z hz => hsub z (hp.mem_iff.mp hz)
          have e1 : L'.map (fun q => q.2) = isort (ddL (ks.map fun q => q.2)) := by
            refine isort_uniq (d := d) (fun ns hns => hal ns ((ddL_mem _ _).mp hns)) (perm_of_nodup hn (ddL_nodup _) fun ns => ?_) (List.pairwise_map.mpr hpw)
            rw [ddL_mem]
            constructor
            · intro h
              obtain ⟨z, hz, rfl⟩ := List.mem_map.mp h
              exact List.mem_map_of_mem (hL z hz)
            · intro h
              obtain ⟨z, hz, rfl⟩ := List.mem_map.mp h
              exact (hp.map fun q => q.2).mem_iff.mpr (hcov z hz)
          rw [← e1] at kk
          obtain ⟨s3, d3⟩ := r2.newO (o := .lst (L'.map fun q => V.ref q.1)) hc
          have hc0 : H c = none := by
            cases z : H c with
            | none => rfl
            | some o =>
              have k1 := s1.h c o (by rintro rfl; exact r2.pn hc) z
              have k2 := s2.h c o (by rintro rfl; exact r2.pn hc) k1
              rw [hc] at k2
              cases k2
          exact kk c _ F1 _ ((s1.trans s2).trans s3) d3 upd_same hc0 (r2.ex.free hc) (r2.np hc) (tups_dens L' fun z hz => hks z (hL z hz))
      · cases h2
    · cases h2⟩
end
end J
namespace J
open PySem PyProof.Rows L2
open AutoSeq1 (wpAny_loadPart')
theorem tmul1 (l : Addr) (items : Array Value) (n : Nat) (dd : Option Addr) (sl : Array (Option Value)) (u : Tok) :
    Meets (Builtin.«tuple.__mul__» ⟨[.ref l, .int 1 u], []⟩) (fun _ R s => s.heap.get? l = some { cls := .type "tuple", dict := dd, data := .seq items n, slots := sl } ∧ R (.ok (.ret (Value.ref l))) s) :=
  .of_wp fun prog w A R s h => by
    obtain ⟨hp, g, d, tk, os⟩ := s
    obtain ⟨hl, h⟩ := h
    have f1 := AutoSeq1.idx_int
    wp_walk using wpAny_loadPart' hl
    repeat (first
      | (refine wpAny_ite_false (by decide) ?_; wp_walk using wpAny_loadPart' hl)
      | (refine wpAny_ite_true (by simp) ?_; wp_walk using wpAny_loadPart' hl))
    exact ⟨_, rfl, h⟩
theorem tmul0 (l : Addr) (items : Array Value) (n : Nat) (dd : Option Addr) (sl : Array (Option Value)) (x : Int) (u : Tok) (c0 : (decide (x < -(2 ^ 63)) || decide (x ≥ 2 ^ 63)) = false) (c1 : (items.isEmpty || x == 1) = false) (c2 : (decide (x ≤ 0) || items.isEmpty) = true) :
    Meets (Builtin.«tuple.__mul__» ⟨[.ref l, .int x u], []⟩) (fun _ R s => s.heap.get? l = some { cls := .type "tuple", dict := dd, data := .seq items n, slots := sl } ∧
      R (.ok (.ret (Value.ref s.heap.objs.size))) { s with heap := s.heap.push { cls := Value.type "tuple", data := Data.seq #[] }, toks := s.toks }) :=
  .of_wp fun prog w A R s h => by
    obtain ⟨hp, g, d, tk, os⟩ := s
    obtain ⟨hl, h⟩ := h
    have f1 := AutoSeq1.idx_int
    wp_walk using wpAny_loadPart' hl
    repeat (first
      | (refine wpAny_ite_false (decide_eq_false (by rw [c0]; exact Bool.false_ne_true)) ?_; wp_walk using wpAny_loadPart' hl)
      | (refine wpAny_ite_false (decide_eq_false (by rw [c1]; exact Bool.false_ne_true)) ?_; wp_walk using wpAny_loadPart' hl)
      | (refine wpAny_ite_true (decide_eq_true c2) ?_; wp_walk using wpAny_loadPart' hl))
    exact ⟨_, rfl, h⟩
def rRepT2 (K : PySem.W.Frag) : R2 := fun x y H Q => ∃ l k xs, x = .ref l ∧ y = .int k ∧ SqT K H l xs ∧ xs ≠ [] ∧ -1000 ≤ k ∧ ((k = 1 ∧ Q (.ref l) H) ∨ (k ≤ 0 ∧ ∀ p, H p = none → Q (.ref p) (upd H p (.tup []))))
theorem op_repT2 {X : Cx} : OpR X (binaryOp .Mult) (rRepT2 X.K) := by
  intro pins s σ H x y v u Q I rx ry h
  obtain ⟨l, k, xs, rfl, rfl, hT, hne, hlo, hk⟩ := h
  cases rx
  obtain ⟨t, rfl⟩ := ry
  obtain ⟨its, r, ⟨⟨cls, dd, data, sl⟩, ho, hc, n, hd⟩, hs⟩ := I.tuple hT
  simp only at hc hd
  subst hc hd
  have hn : its ≠ [] := fun e => hne (List.eq_nil_of_length_eq_zero (by rw [r.length, e]; rfl))
  have hi : its.toArray.isEmpty = false := by
    cases its with
    | nil => exact absurd rfl hn
    | cons a b => rfl
  rcases hk with ⟨rfl, q⟩ | ⟨hk, q⟩
  · exact wpAny_binaryOp_repeat_ref (T := "tuple") (U := "int") (by decide) ⟨_, ho, rfl⟩ (fun s' => typeIs_int s' 1 t) noFill_tuple_mul F.fills_int_mul F.slot_int_rmul repeat_tuple F.slot_int_index.lookup
      (call_meets F.slot_int_rmul (typeIs_int s 1 t) F.entry_int_rmul (F.args_int_rmul_2 _ _) (int_rmul_tuple 1 t l its.toArray n dd sl)
        ⟨ho, rfl, ⟨_, ho, rfl⟩, call_meets F.slot_tuple_mul ⟨_, ho, rfl⟩ F.entry_tuple_mul (F.args_tuple_mul_2 _ _) (tmul1 l its.toArray n dd sl t) ⟨ho, ⟨.ref l, H, I, rfl, q⟩⟩⟩)
  · have c0 : (decide (k < -(2 ^ 63)) || decide (k ≥ 2 ^ 63)) = false := by
      rw [decide_eq_false (by omega), decide_eq_false (by omega)]
      rfl
    have c1 : (its.toArray.isEmpty || k == 1) = false := by
      rw [hi, Bool.false_or]
      exact beq_eq_false_iff_ne.mpr (by omega)
    have c2 : (decide (k ≤ 0) || its.toArray.isEmpty) = true := by rw [decide_eq_true hk, Bool.true_or]
    refine wpAny_binaryOp_repeat_ref (T := "tuple") (U := "int") (by decide) ⟨_, ho, rfl⟩ (fun s' => typeIs_int s' k t) noFill_tuple_mul F.fills_int_mul F.slot_int_rmul repeat_tuple F.slot_int_index.lookup
      (call_meets F.slot_int_rmul (typeIs_int s k t) F.entry_int_rmul (F.args_int_rmul_2 _ _) (int_rmul_tuple k t l its.toArray n dd sl)
        ⟨ho, rfl, ⟨_, ho, rfl⟩, call_meets F.slot_tuple_mul ⟨_, ho, rfl⟩ F.entry_tuple_mul (F.args_tuple_mul_2 _ _) (tmul0 l its.toArray n dd sl k t c0 c1 c2) ⟨ho, ?_⟩⟩)
    refine ⟨.ref s.heap.objs.size, _, I.laid (t' := s.toks) (o := .tup []) (fun b ob e => Heap.get?_push_of_some _ e) (Nat.le_refl _) ?_, rfl, q _ (I.hok.fresh (Nat.le_refl _))⟩
    exact ⟨Nat.zero_le _, [], .nil, IsTup.new _ _⟩
def mulT (a b : D) : Option D := match a, b with
  | .tup xs, .int j => if 0 < xs.length ∧ xs.length ≤ 1000 ∧ -1000 ≤ j ∧ j ≤ 1000 then some (.tup (List.replicate j.toNat xs).flatten) else none
  | a, b => mulD a b
theorem s_mulT {K : PySem.W.Frag} : OpS K (fun x y H Q => (rI CMul (fun i j => .int (i * j)) x y H Q ∨ rRep x y H Q) ∨ (rRepT K x y H Q ∨ rRepT2 K x y H Q)) mulT := fun Z F H σ ds w a b d x y Q r hx hy hg k => by
  unfold mulT at hg
  split at hg
  · rename_i xs j
    split at hg
    · rename_i hc
      obtain ⟨c1, c2, c3, c4⟩ := hc
      cases hg
      obtain ⟨q, vs, rfl, h1, h2⟩ := hx.tup
      have hl := h2.len
      have hne : vs ≠ [] := fun e => by
        rw [e] at hl
        have : xs.length = 0 := hl.symm
        omega
      right
      by_cases h2k : 2 ≤ j
      · refine .inl ⟨q, j, vs, rfl, hy.int, same_t h1 r.ex, hne, h2k, c4, by omega, fun t ht => ?_⟩
        obtain ⟨s2, d2⟩ := r.new (o := .tup (List.replicate j.toNat vs).flatten) ht
        exact k _ _ _ s2 d2 (den_tup (.inl upd_same) ((h2.rep _).mono s2.f))
      · refine .inr ⟨q, j, vs, rfl, hy.int, same_t h1 r.ex, hne, c3, ?_⟩
        by_cases h1k : j = 1
        · subst h1k
          refine .inl ⟨rfl, k _ F H r.stp r.dr ?_⟩
          have e : (List.replicate (1 : Int).toNat xs).flatten = xs := by simp
          rw [e]
          exact den_tup h1 h2
        · refine .inr ⟨by omega, fun t ht => ?_⟩
          obtain ⟨s2, d2⟩ := r.new (o := .tup []) ht
          refine k _ _ _ s2 d2 ?_
          have e : (List.replicate j.toNat xs).flatten = [] := by
            rw [show j.toNat = 0 by omega]
            rfl
          rw [e]
          exact den_tup (.inl upd_same) dens_nil
    · cases hg
  · exact .inl (s_mul Z F H σ ds w _ _ d x y Q r hx hy hg k)
def eMulT := eBin mulT
theorem je_mulT {X : Cx} {a b : Expr} {fa fb : Ev} {pos : Pos} (ha : JB X a fa) (hb : JB X b fb) : JE X (.BinOp a .Mult b pos) (eMulT fa fb) := je_op (OpR.or (OpR.or op_mul op_rep) (OpR.or op_repT op_repT2)) s_mulT ha hb
end J
namespace J
open PySem PyProof.Rows L2
/-! ### instances: attributes, methods -/
theorem zip_look {α : Type} (f : Str) : ∀ (ks : List Str) (xs : List α), f ∉ ks → (ks.zip xs).lookup f = none
  | [], _, _ => by simp
  | _ :: _, [], _ => by simp
  | k :: ks, x :: xs, h => by
    have h1 : ¬f = k := fun e => h (by rw [e]; exact List.mem_cons_self)
    have e : (f == k) = false := beq_eq_false_iff_ne.mpr h1
    rw [List.zip_cons_cons, List.lookup_cons, e]
    exact zip_look f ks xs fun z => h (List.mem_cons_of_mem _ z)
theorem zip_get {K : PySem.W.Frag} {p : Addr} {F : Hp} (f : Str) : ∀ (ks : List Str) (ds : List D) (vs : List V) (d : D), Dens K p F ds vs → (ks.zip ds).lookup f = some d → ∃ v, (ks.zip vs).lookup f = some v ∧ Den K p F d v
  | [], _, _, _, _, h => by simp at h
  | _ :: _, [], _, _, _, h => by simp at h
  | k :: ks, x :: ds, vs, d, hd, h => by
    unfold Dens at hd
    obtain ⟨v, r, rfl, h1, h2⟩ := hd
    rw [List.zip_cons_cons, List.lookup_cons] at h ⊢
    by_cases e : (f == k) = true
    · rw [e] at h ⊢
      cases h
      exact ⟨v, rfl, h1⟩
    · have e' : (f == k) = false := by simpa using e
      rw [e'] at h ⊢
      exact zip_get f ks ds r d h2 h
def attrD (n f : Str) : D → Option D
  | .obj m ks ds => if m = n then (ks.zip ds).lookup f else none
  | _ => none
def eAttr (n f : Str) (fo : Ev) : Ev := fun ds w => (fo ds w).bind fun o => (attrD n f o.1).bind fun d => some (d, o.2)
def clsOk (n m : Str) : D → Bool
  | .obj n' ks _ => decide (n' = n) && decide (m ∉ ks)
  | _ => false
def eMeth (n m : Str) (k : Nat) (G : Fn) (fo : Ev) (fs : Ef) : Ev := fun ds w => (fo ds w).bind fun o => (fs ds o.2).bind fun a => if clsOk n m o.1 = true ∧ a.1.length + 1 = k then G (o.1 :: a.1) a.2 else none
structure CalO (P : Program) (w : World) (K : PySem.W.Frag) (mg : Str → Option Value) (base : Heap) (k : Nat) (n m : Str) (a : Nat) (G : Fn) : Prop where
  ex : ∃ (f : Addr) (fd : FuncData) (ps : List Str), Cls K (clsA K n) ∧ Meth K (clsA K n) m f ∧ FnOk P w K mg base CX0 k f fd ps (spJ K a G) ∧ Binds K fd ps []
section
variable {X : Cx} {K : PySem.W.Frag} {o e : Expr} {es : List Expr} {fo : Ev} {fs : Ef} {pos apos : Pos} {n m : Str} {k j a : Nat} {G : Fn}
theorem je_attr (c : Cls X.K (clsA X.K n)) (na : NoAttr X.K (clsA X.K n) m) (ho : JB X o fo) (hb : attributeBase o m X.env (eval o X.env) = eval o X.env := by rfl) : JE X (.Attribute o m pos) (eAttr n m fo) :=
  ⟨pe_weak (pe_fld ho.run hb) fun σ H Q ⟨Z, F, ds, w, d, w', rr, hf, kk⟩ => by
    obtain ⟨x, h1, hf⟩ := bind2 hf
    obtain ⟨y, h2, hf⟩ := bind2 hf
    cases hf
    unfold attrD at h2
    split at h2
    · rename_i m' ks es ex
      split at h2
      · rename_i hm
        subst hm
        refine ⟨Z, F, ds, w, _, _, rr, h1, fun v F1 H1 s1 d1 hv => ?_⟩
        rw [ex] at hv
        rcases hv with hv | ⟨_, _, q, _⟩
        · unfold Den at hv
          obtain ⟨q, dx, vs, rfl, h3, h4⟩ := hv
          obtain ⟨u, h5, h6⟩ := zip_get _ ks es vs _ h4 h2
          exact ⟨q, _, dx, _, u, rfl, s1.e _ _ h3, c, na, h5, kk u F1 H1 s1 d1 h6⟩
        · cases q
      · cases h2
    · cases h2⟩
theorem je_meth (c : CalO X.prog X.w X.K X.mg X.base k n m a G) (hr : Room j X.A) (hk : k ≤ j) (ho : JE X o fo) (ha : JA X (e :: es) fs) (hst : starEach (e :: es) X.env = (false, eval e X.env) :: starEach es X.env := by rfl) (hpl : (backTo pos (starEach es X.env)).any (·.1) = false := by rfl)
    {pl : Sem Bool} (ht : eval (.Call (.Attribute o m apos) (e :: es) [] pos) X.env = (do
      let ov ← eval o X.env
      standAt apos.atName
      let (f, first) ← holding [ov] (getMethod ov m pl)
      callWith pos f first (backTo pos (starEach (e :: es) X.env)) (backToKw pos (keywordEach [] X.env))) := by rfl) :
    JE X (.Call (.Attribute o m apos) (e :: es) [] pos) (eMeth n m a G fo fs) := ⟨by
  obtain ⟨f, fd, ps, cl, me, F, b⟩ := c.ex
  refine pe_weak (pe_meth ho.run cl me F (hr.mono hk) b .nil pass0 ha.run hst hpl ht) fun σ H Q ⟨Z, F, ds, w, d, w', rr, hf, kk⟩ => ?_
  obtain ⟨x, h1, hf1⟩ := bind2 hf
  obtain ⟨y, h2, hf2⟩ := bind2 hf1
  split at hf2
  · rename_i hc
    refine ⟨Z, F, ds, w, _, _, rr, h1, fun v F1 H1 s1 d1 hv => ?_⟩
    have hv0 := hv
    obtain ⟨hc1, hc2⟩ := hc
    unfold clsOk at hc1
    split at hc1
    · rename_i n' ks es' ex
      rw [Bool.and_eq_true, decide_eq_true_eq, decide_eq_true_eq] at hc1
      obtain ⟨rfl, hm⟩ := hc1
      rw [ex] at hv
      unfold Den at hv
      obtain ⟨q, dx, vs, rfl, h3, h4⟩ := hv
      refine ⟨q, dx, _, rfl, s1.e _ _ h3, zip_look m ks vs hm, Z, F1, ds, _, _, _, rr.step s1 d1, h2, fun us F2 H2 s2 d2 hus => ?_⟩
      show spJ X.K a G (V.ref q :: (us ++ [])) H2 Q E0
      rw [List.append_nil]
      exact ⟨by rw [List.length_cons, hus.len]; exact hc2, Z, F2, _, _, d, w', ((rr.step s1 d1).step s2 d2).nil, dens_cons (hv0.mono s2.f) hus, hf2, kk.go (s1.trans s2)⟩
    · cases hc1
  · cases hf2⟩
end
end J
namespace J
open PySem PyProof.Rows L2
/-! ### instances made: an __init__ that stores attributes -/
def putD (f : Str) (d : D) : List (Str × D) → List (Str × D)
  | [] => [(f, d)]
  | (g, x) :: r => if g = f then (g, d) :: r else (g, x) :: putD f d r
abbrev Flds := List (Str × D)
def kys (fs : Flds) : List Str := fs.map fun q => q.1
def vls (fs : Flds) : List D := fs.map fun q => q.2
theorem put_zip {K : PySem.W.Frag} {p : Addr} {F : Hp} (f : Str) (d : D) (v : V) (hv : Den K p F d v) : ∀ (fs : Flds) (vs : List V), Dens K p F (vls fs) vs → ∃ us, putF f v ((kys fs).zip vs) = (kys (putD f d fs)).zip us ∧ Dens K p F (vls (putD f d fs)) us
  | [], vs, h => by
    have e : vs = [] := by
      unfold vls List.map Dens at h
      exact h
    subst e
    exact ⟨[v], rfl, dens_cons hv dens_nil⟩
  | (g, x) :: r, vs, h => by
    unfold vls List.map Dens at h
    obtain ⟨u, us, rfl, h1, h2⟩ := h
    unfold putD
    by_cases e : g = f
    · rw [if_pos e]
      refine ⟨v :: us, ?_, dens_cons hv h2⟩
      show putF f v ((g, u) :: (kys r).zip us) = _
      unfold putF
      rw [if_pos e]
      rfl
    · rw [if_neg e]
      obtain ⟨ws, h3, h4⟩ := put_zip f d v hv r us h2
      refine ⟨u :: ws, ?_, dens_cons h1 h4⟩
      show putF f v ((g, u) :: (kys r).zip us) = _
      unfold putF
      rw [if_neg e, h3]
      rfl
abbrev En := List Sl → Flds → Wd → Option (Flds × Wd)
def canN (K : PySem.W.Frag) (n : Str) (f : En) : TS := fun D σ H => ∃ x dx Z F ds fs vs w fs' w', σ[0]? = some (some (V.ref x)) ∧ R K Z F (hid x H) σ ds w ∧ x ≠ Z.p ∧ H x = some (.ins (clsA K n) dx ((kys fs).zip vs)) ∧ F x = none ∧ Dens K Z.p F (vls fs) vs ∧ fs.length < 100 ∧ f ds fs w = some (fs', w') ∧
  ∀ F' H' vs', Stp Z.p F (hid x H) F' (hid x H') → R K Z F' (hid x H') σ ds w' → H' x = some (.ins (clsA K n) dx ((kys fs').zip vs')) → F' x = none → Dens K Z.p F' (vls fs') vs' → D.nx σ H'
structure JNs (X : Cx) (n : Str) (st : List Stmt) (f : En) : Prop where run : PSs X st (canN X.K n f)
def nNil : En := fun _ fs w => some (fs, w)
def nAttr (f : Str) (fe : Ev) (g : En) : En := fun ds fs w => (fe ds w).bind fun d => if fs.length + 1 < 100 then g ds (putD f d.1 fs) d.2 else none
theorem putD_len (f : Str) (d : D) : ∀ fs : Flds, (putD f d fs).length ≤ fs.length + 1
  | [] => Nat.le_refl _
  | (g, x) :: r => by
    unfold putD
    split
    · simp
    · have := putD_len f d r
      rw [List.length_cons, List.length_cons]
      omega
section
variable {X : Cx} {K : PySem.W.Frag} {n : Str} {rest : List Stmt} {g : En} {value : Expr} {fe : Ev}
theorem jns_nil : JNs X n [] nNil := ⟨pss_weak pss_nil fun D σ H ⟨x, dx, Z, F, ds, fs, vs, w, fs', w', h0, rr, hp, hx, hF, hv, hl, hf, k⟩ => by
  cases hf
  exact k F H vs rr.stp rr hx hF hv⟩
theorem jns_attr {self f : Str} {sp p1 p2 : Pos} (c : Cls X.K (clsA X.K n)) (na : NoAttr X.K (clsA X.K n) f) (hv : JE X value fe) (hr : JNs X n rest g) (hN : X.N[0]? = some self := by rfl) (hvis : Vis X.env.scope self := by first | exact Or.inl rfl | exact Or.inr (Or.inl rfl) | exact Or.inr (Or.inr rfl))
    (hd : (self == ("__debug__" : Str)) = false := by decide) (hcd : (self == ("__classdict__" : Str)) = false := by decide) (hs : swapsWith value (some (.Attribute (.Name self sp) f p1)) p2.line X.env = pure false := by rfl) :
    JNs X n (.Assign [.Attribute (.Name self sp) f p1] value p2 :: rest) (nAttr f fe g) :=
  ⟨pss_weak (pss_cons (ps_fld (pe_var (i := 0) hN hvis hd hcd) hv.run hs) hr.run) fun D σ H ⟨x, dx, Z, F, ds, fs, vs, w, fs', w', h0, rr, hp, hx, hF, hvs, hl, hf, k⟩ => by
    obtain ⟨d, h1, hf2⟩ := bind2 hf
    split at hf2
    · rename_i hlen
      refine ⟨Z, F, ds, w, _, _, rr.shown hx, h1, fun v F1 H1 s1 d1 hden => ?_⟩
      obtain ⟨hx1, hF1⟩ := s1.out hp hx hF
      have r1 := rr.hidden hp hx hF s1 d1
      obtain ⟨us, e1, e2⟩ := put_zip f d.1 v hden fs vs (hvs.mono s1.f)
      have hz : ((kys fs).zip vs).length < 1000 := by
        rw [List.length_zip]
        unfold kys
        rw [List.length_map]
        omega
      refine ⟨V.ref x, h0, x, _, dx, _, rfl, hx1, c, na, hz, ?_⟩
      refine ⟨x, dx, Z, F1, ds, putD f d.1 fs, us, d.2, fs', w', h0, ?_, hp, ?_, hF1, e2, ?_, hf2, fun F2 H2 vs2 s2 r2 g1 g2 g3 => ?_⟩
      · rw [hid_upd]
        exact r1
      · rw [upd_same, e1]
      · have := putD_len f d.1 fs
        omega
      · rw [hid_upd] at s2
        exact k F2 H2 vs2 ((hid_stp hF1 s1).trans s2) r2 g1 g2 g3
    · cases hf2⟩
end
def spI (K : PySem.W.Frag) (n : Str) (a : Nat) (G : List D → Wd → Option (Flds × Wd)) : Sp := fun vs H Q _ => vs.length = a ∧ ∃ x dx Z F ds us w fs' w', vs = .ref x :: us ∧ R K Z F (hid x H) [] [] w ∧ x ≠ Z.p ∧ H x = some (.ins (clsA K n) dx []) ∧ F x = none ∧ Dens K Z.p F ds us ∧ G ds w = some (fs', w') ∧
  ∀ F' H' vs', Stp Z.p F (hid x H) F' (hid x H') → Dr Z.p F' (hid x H') w' → H' x = some (.ins (clsA K n) dx ((kys fs').zip vs')) → F' x = none → Dens K Z.p F' (vls fs') vs' → Q .non H'
def callI (m : Nat) (g : En) : List D → Wd → Option (Flds × Wd) := fun ds w => g (.no :: startS (m - 1) ds) [] w
section
variable {K : PySem.W.Frag} {Z : Cfg} {F H : Hp} {σ : L2.St} {ds : List Sl} {w : Wd}
theorem R.consNo (r : R K Z F H σ ds w) (u : Option V) : R K Z F H (u :: σ) (.no :: ds) w := by
  obtain ⟨α, h1, h2⟩ := r.env
  have sh : ∀ i, isOwn (Sl.no :: ds) i → ∃ j, i = j + 1 ∧ isOwn ds j := fun i ⟨s, h, ho⟩ => by
    cases i with
    | zero =>
      cases h
      cases ho
    | succ i => exact ⟨i, rfl, s, by simpa using h, ho⟩
  refine ⟨r.ex, r.fp, r.dr, r.pm, r.hm, r.m0, r.keep, r.nw, r.f0, by rw [List.length_cons, List.length_cons, r.len], fun i => α (i - 1), fun i j hi hj e => ?_, fun i s hs => ?_⟩
  · obtain ⟨i', rfl, hi'⟩ := sh i hi
    obtain ⟨j', rfl, hj'⟩ := sh j hj
    rw [h1 i' j' hi' hj' (by simpa using e)]
  · cases i with
    | zero =>
      cases hs
      trivial
    | succ i =>
      have := h2 i s (by simpa using hs)
      cases s <;> simpa [SlR] using this
variable {P : Program} {wd : World} {mg : Str → Option Value} {base : Heap} {x qual : Str} {st : Stmt} {f : Addr} {fd : FuncData} {ps : List Str} {k : Nat} {n : Str} {g : En}
theorem fn_I {y : Str} {N' : List Str} (F : Fun K x qual st f fd) (S : FnScope (y :: N') ps (defScope st))
    (hbody : ∀ (cdv : Value) (A : Around) (outer : List Env) (s : Shared) (H : Hp) (E : XK), Room k (A.deeper (envOfC qual (defScope st) s.heap.objs.size f cdv)) → JNs (cxOf CX0 P wd K mg base (y :: N') qual (defScope st) f cdv A outer s H E).nox n (defBody st) g) :
    FnOk P wd K mg base CX0 (k + 1) f fd ps (spI K n ps.length (callI (y :: N').length g)) := by
  refine F.ok S (fun vs H Q E h => h.1) (fun cdv A outer s H vs Q E hr h => ⟨_, (hbody cdv A outer s H E hr).run, ?_⟩)
  obtain ⟨_, a, dx, Z, F, ds, us, w, fs', w', rfl, rr, hp, hx, hF, hv, hG, kk⟩ := h
  have es : L2.start (y :: N') (.ref a :: us) = some (.ref a) :: L2.start N' us := by
    unfold L2.start
    rw [List.length_cons, List.length_cons, Nat.add_sub_add_right]
    rfl
  rw [es]
  refine ⟨a, dx, ⟨Z.p, [], F, hid a H⟩, F, .no :: startS N'.length ds, [], [], w, fs', w', rfl, (rr.entry hv).consNo _, hp, hx, hF, dens_nil, by decide, hG, fun F' H' vs' s' r' h1 h2 h3 => ?_⟩
  exact kk F' H' vs' s' r'.dr h1 h2 h3
end
/-- C(e, ..) -/
structure CalI (P : Program) (w : World) (K : PySem.W.Frag) (mg : Str → Option Value) (base : Heap) (k : Nat) (n : Str) (a : Nat) (G : List D → Wd → Option (Flds × Wd)) : Prop where
  ex : ∃ (f : Addr) (fd : FuncData) (ps : List Str), Mk K (clsA K n) f ∧ FnOk P w K mg base CX0 k f fd ps (spI K n a G) ∧ mg n = some (.ref (clsA K n)) ∧ Binds K fd ps []
def eMake (n : Str) (a : Nat) (G : List D → Wd → Option (Flds × Wd)) (fs : Ef) : Ev := fun ds w => (fs ds w).bind fun z => if z.1.length + 1 = a then (G z.1 z.2).bind fun r => some (.obj n (kys r.1) (vls r.1), r.2) else none
end J
namespace J
open PySem PyProof.Rows L2
theorem Stp.known {p q : Addr} {F H F' H' : Hp} {o : HO} (s : Stp p F H F' H') (hq : H q = none) (hF : F' q = none) (hH : H' q = some o) (hp : q ≠ p) : Stp p F H (upd F' q o) H' := by
  refine ⟨s.f.trans (same_tell hF), s.h, fun b u e => ?_, fun b u e => ?_, by rw [upd_ne (Ne.symm hp)]; exact s.fp⟩
  · by_cases z : b = q
    · subst z
      rw [upd_same] at e
      rw [← e]
      exact hH
    · rw [upd_ne z] at e
      exact s.e b u e
  · by_cases z : b = q
    · subst z
      exact .inr hq
    · rw [upd_ne z] at e
      exact s.n b u e
section
variable {X : Cx} {K : PySem.W.Frag} {o e : Expr} {es : List Expr} {fo : Ev} {fs : Ef} {p pos apos : Pos} {n m x : Str} {k j a : Nat} {G : List D → Wd → Option (Flds × Wd)}
theorem je_make (c : CalI X.prog X.w X.K X.mg X.base k n a G) (hr : Room j X.A) (hk : k + 1 ≤ j) (hg : Gl X n) (ha : JA X (e :: es) fs) (hdb : (n == ("__debug__" : Str)) = false := by decide) (he : starEach (e :: es) X.env = (false, eval e X.env) :: starEach es X.env := by rfl) (hpl : (backTo pos (starEach es X.env)).any (·.1) = false := by rfl) :
    JE X (.Call (.Name n p) (e :: es) [] pos) (eMake n a G fs) := ⟨by
  obtain ⟨f, fd, ps, M, F, hm, b⟩ := c.ex
  refine pe_weak (pe_make M F (hr.mono hk) hg hm b .nil pass0 ha.run hdb he hpl) fun σ H Q ⟨Z, F, ds, w, d, w', rr, hf, kk⟩ => ?_
  obtain ⟨z, h1, hf1⟩ := bind2 hf
  split at hf1
  · rename_i hl
    obtain ⟨r, h2, hf2⟩ := bind2 hf1
    cases hf2
    refine ⟨Z, F, ds, w, _, _, rr, h1, fun vs F1 H1 s1 d1 hvs x dx hx hdx hne => ?_⟩
    have r1 := rr.step s1 d1
    obtain ⟨s2, d2⟩ := r1.newO (o := .own x) hdx
    have r2 := r1.step s2 d2
    have hx2 : upd H1 dx (.own x) x = none := by
      rw [upd_ne (Ne.symm hne)]
      exact hx
    have eh : hid x (upd (upd H1 dx (.own x)) x (.ins (clsA X.K n) dx [])) = upd H1 dx (.own x) := by rw [hid_upd, hid_none hx2]
    have hp : x ≠ Z.p := r1.np hx
    show spI X.K n a G (V.ref x :: (vs ++ [])) _ _ E0
    rw [List.append_nil]
    refine ⟨by rw [List.length_cons, hvs.len]; exact hl, x, dx, Z, F1, z.1, vs, z.2, r.1, r.2, rfl, by rw [eh]; exact r2.nil, hp, upd_same, r1.ex.free hx, hvs, h2, fun F' H' vs' s' d' g1 g2 g3 => ⟨rfl, ?_⟩⟩
    rw [eh] at s'
    have hx0 : H x = none := by
      cases q : H x with
      | none => rfl
      | some u =>
        have := s1.h x u hp q
        rw [hx] at this
        cases this
    have S : Stp Z.p F H F' H' := stp_shown hx0 g2 ((s1.trans s2).trans s')
    refine kk (.ref x) (upd F' x _) H' (S.known hx0 g2 g1 hp) ?_ ?_
    · obtain ⟨q, q1, q2⟩ := d'.shown g1 hp
      exact ⟨q, q1, same_tell g2 _ _ q2⟩
    · unfold Den
      exact ⟨x, dx, vs', rfl, upd_same, g3.mono (same_tell g2)⟩
  · cases hf1⟩
/-! isinstance of an own class -/
def isC (n : Str) : D → Option D
  | .obj m _ _ => if m = n then some (.bl true) else none
  | _ => none
def eIsC (n : Str) (fo : Ev) : Ev := fun ds w => (fo ds w).bind fun d => (isC n d.1).bind fun b => some (b, d.2)
theorem je_isC {px : Pos} (c : C8.InsC X.K (clsA X.K n)) (hm : X.mg "isinstance" = none) (hn : X.mg n = some (.ref (clsA X.K n))) (hg : Gl X "isinstance") (hgn : Gl X n) (ho : JE X o fo) (hdb : (n == ("__debug__" : Str)) = false := by decide)
    (he : starEach [o, .Name n px] X.env = (false, eval o X.env) :: starEach [.Name n px] X.env := by rfl) (he2 : starEach [.Name n px] X.env = (false, eval (.Name n px) X.env) :: starEach [] X.env := by rfl) (hpl : (backTo pos (starEach [.Name n px] X.env)).any (·.1) = false := by rfl) :
    JE X (.Call (.Name "isinstance" p) [o, .Name n px] [] pos) (eIsC n fo) :=
  ⟨pe_weak (pe_callB (C8.call_isC c) hg hm (by decide +kernel) (pa_cons ho.run (pa_cons (pe_glob (v := .ref (clsA X.K n)) hgn hn rfl hdb) pa_nil he2) he) (by decide) (by decide) he hpl) fun σ H Q ⟨Z, F, ds, w, d, w', rr, hf, kk⟩ => by
    obtain ⟨z, h1, hf1⟩ := bind2 hf
    obtain ⟨y, h2, hf2⟩ := bind2 hf1
    cases hf2
    unfold isC at h2
    split at h2
    · rename_i m' ks es' ez
      split at h2
      · rename_i hm'
        subst hm'
        cases h2
        refine ⟨Z, F, ds, w, _, _, rr, h1, fun v F1 H1 s1 d1 hv => ?_⟩
        rw [ez] at hv
        unfold Den at hv
        obtain ⟨q, dx, vs, rfl, h3, h4⟩ := hv
        exact ⟨q, dx, _, rfl, s1.e _ _ h3, kk _ F1 H1 s1 d1 den_bl⟩
      · cases h2
    · cases h2⟩
end
end J
namespace J
open PySem PyProof.Rows L2
/-! ### == by an own __eq__, len by an own __len__ -/
section
variable {X : Cx} {k : Nat} {f C : Addr} {fd : FuncData} {ps : List Str} {sp : Sp}
def rOwnEq (C : Addr) (sp : Sp) : R2 := fun x y H Q => ∃ a b dx dy fs gs, x = .ref a ∧ y = .ref b ∧ H a = some (.ins C dx fs) ∧ H b = some (.ins C dy gs) ∧ sp [.ref a, .ref b] H (fun v H' => (∃ c, v = .bl c) ∧ Q v H') E0
theorem op_ownEq (F : FnOk X.prog X.w X.K X.mg X.base CX0 k f fd ps sp) (hr : Room k X.A) (hs : PySem.W.findIn X.K (.ref C) "__eq__" = some (some (.ref f))) (hf : PySem.W.isFn X.K (.ref f) = true) (hb : Binds X.K fd ps []) : OpR X (compareOp .Eq) (rOwnEq C sp) := by
  intro pins s σ H x y v u Q I rx ry h
  obtain ⟨a, b, dx, dy, fs, gs, rfl, rfl, ha, hb', hsp⟩ := h
  cases rx
  cases ry
  obtain ⟨mA, J, _⟩ := ins_get I.hok ha
  obtain ⟨mB, J', _⟩ := ins_get I.hok hb'
  obtain ⟨od, J, _⟩ := J.look
  obtain ⟨od', J', _⟩ := J'.look
  obtain ⟨m, hF⟩ := I.fr
  show wpAny (model X.prog X.w) X.A (richCompare .Eq (.ref a) (.ref b)) _ _ s
  refine PySem.W.cmp_K (op := .Eq) (tb := .ref C) hr.units0 hF I.ok.mod.kin J J'.type (by simp [PySem.W.notFirst]) hs hf ?_
  have hl := F.len _ _ _ _ hsp
  refine wpAny_call (codeAny_mono (F.run X.A X.stack s H ⟨[.ref a, .ref b], []⟩ [.ref a, .ref b] [.ref a, .ref b] _ E0 hr I.env0 (by
    have q := hb s [.ref a, .ref b] I.kIn (by simpa using hl)
    simpa using q) (.cons rfl (.cons rfl .nil)) hsp) fun r s' hq => ?_)
  cases r with
  | error e => exact pass0 pins σ H s e s' I hq
  | ok fl =>
    cases fl with
    | ret w =>
      obtain ⟨z, H', I', rz, ⟨c, rfl⟩, q⟩ := I.after hq
      cases rz
      exact ⟨.bl c, H', I', rfl, q⟩
    | next => exact False.elim hq
    | brk => exact False.elim hq
    | cont => exact False.elim hq
def rOwnLen (C : Addr) (sp : Sp) : List V → Hp → VK → Prop := fun vs H Q => ∃ a dx fs, vs = [.ref a] ∧ H a = some (.ins C dx fs) ∧ sp [.ref a] H (fun v H' => (∃ i : Int, v = .int i ∧ 0 ≤ i ∧ i < 2 ^ 63) ∧ Q v H') E0
theorem cr_ownLen (F : FnOk X.prog X.w X.K X.mg X.base CX0 k f fd ps sp) (hr : Room (k + 1) X.A) (hs : PySem.W.findIn X.K (.ref C) "__len__" = some (some (.ref f))) (hf : PySem.W.isFn X.K (.ref f) = true) (hb : Binds X.K fd ps []) : CallR X (.builtin "len") (rOwnLen C sp) := by
  intro pins s σ H vs us Q I r h
  obtain ⟨a, dx, fs, rfl, ha, hsp⟩ := h
  rw [Vals.ref1 r]
  obtain ⟨mA, J, _⟩ := ins_get I.hok ha
  obtain ⟨od, J, _⟩ := J.look
  obtain ⟨m, hF⟩ := I.fr
  refine PySem.W.len_K hF I.ok.mod.kin J hs hf ?_
  have hl := F.len _ _ _ _ hsp
  have e0 : Env0 X.prog X.w X.K X.mg X.base X.A.in1 X.stack s H := by
    have e := I.env0
    exact ⟨e.frames, e.mod, e.bs, e.bsz, e.funs, e.frf, e.hok, e.bare⟩
  refine wpAny_call (codeAny_mono (F.run X.A.in1 X.stack s H ⟨[.ref a], []⟩ [.ref a] [.ref a] _ E0 hr.in1 e0 (by
    have q := hb s [.ref a] I.kIn (by simpa using hl)
    simpa using q) (.cons rfl .nil) hsp) fun r s' hq => ?_)
  cases r with
  | error e => exact pass0 pins σ H s e s' I hq
  | ok fl =>
    cases fl with
    | ret w =>
      obtain ⟨z, H', I', rz, ⟨i, rfl, h0, h1⟩, q⟩ := I.after hq
      obtain ⟨t, rfl⟩ := rz
      exact ⟨⟨h0, h1⟩, ⟨.int i, H', I'.kept (fun _ _ z => z), ⟨_, rfl⟩, q⟩⟩
    | next => exact False.elim hq
    | brk => exact False.elim hq
    | cont => exact False.elim hq
end
def isObj (n : Str) : D → Bool
  | .obj m _ _ => decide (m = n)
  | _ => false
def blR (r : Option (D × Wd)) : Option (D × Wd) := match r with
  | some (.bl c, w) => some (.bl c, w)
  | _ => none
def lenR (r : Option (D × Wd)) : Option (D × Wd) := match r with
  | some (.int i, w) => if 0 ≤ i ∧ i < 2 ^ 63 then some (.int i, w) else none
  | _ => none
def eOwnEq (n : Str) (G : Fn) (fa fb : Ev) : Ev := fun ds w => (fa ds w).bind fun a => (fb ds a.2).bind fun b => if isObj n a.1 = true ∧ isObj n b.1 = true then blR (G [a.1, b.1] b.2) else none
def eOwnLen (n : Str) (G : Fn) (fo : Ev) : Ev := fun ds w => (fo ds w).bind fun a => if isObj n a.1 = true then lenR (G [a.1] a.2) else none
theorem denB_obj {K : PySem.W.Frag} {p : Addr} {F H : Hp} {n : Str} {d : D} {v : V} (h : DenB K p F H d v) (e : Same F H) (ho : isObj n d = true) : Den K p F d v ∧ ∃ a dx fs, v = .ref a ∧ H a = some (.ins (clsA K n) dx fs) := by
  cases d with
  | obj m ks es =>
    have hm : m = n := of_decide_eq_true ho
    subst hm
    rcases h with h | ⟨_, _, q, _⟩
    · refine ⟨h, ?_⟩
      unfold Den at h
      obtain ⟨a, dx, vs, rfl, h1, _⟩ := h
      exact ⟨a, dx, _, rfl, e _ _ h1⟩
    · cases q
  | _ => cases ho
section
variable {X : Cx} {o a b : Expr} {fo fa fb : Ev} {pos p : Pos} {n : Str} {k j : Nat} {G : Fn}
theorem ownEq_of {K : PySem.W.Frag} (σ : L2.St) (H : Hp) (Q : VK) : canE K (eOwnEq n G fa fb) σ H Q → tOp (rOwnEq (clsA K n) (spJ K 2 G)) (canB K fa) (canB K fb) σ H Q := fun ⟨Z, F, ds, w, d, w', rr, hf, kk⟩ => by
  obtain ⟨x, h1, hf1⟩ := bind2 hf
  obtain ⟨y, h2, hf2⟩ := bind2 hf1
  split at hf2
  · rename_i hc
    refine can2 rr h1 h2 fun u v F1 H1 s1 r1 hu hv => ?_
    obtain ⟨du, q, dx, fs, rfl, hq⟩ := denB_obj hu r1.ex hc.1
    obtain ⟨dv, q', dx', fs', rfl, hq'⟩ := denB_obj hv r1.ex hc.2
    unfold blR at hf2
    split at hf2
    · rename_i c w2 hG
      cases hf2
      refine ⟨q, q', dx, dx', fs, fs', rfl, rfl, hq, hq', rfl, Z, F1, _, _, _, _, r1.nil, dens_cons du (dens_cons dv dens_nil), hG, fun z F2 H2 s2 d2 hz => ?_⟩
      refine ⟨⟨c, ?_⟩, kk z F2 H2 (s1.trans s2) d2 hz⟩
      unfold Den at hz
      exact hz
    · cases hf2
  · cases hf2
theorem je_eqO (c : CalO X.prog X.w X.K X.mg X.base k n "__eq__" 2 G) (hr : Room j X.A) (hk : k ≤ j) (ha : JB X a fa) (hb : JB X b fb) : JE X (.Compare a [.Eq] [b] pos) (eOwnEq n G fa fb) := ⟨by
  obtain ⟨f, fd, ps, cl, me, F, bb⟩ := c.ex
  exact pe_weak (pe_cmpR (op_ownEq F (hr.mono hk) me.at_ me.fn bb) ha.run hb.run (nobehind _ (by decide) (by decide))) (ownEq_of (n := n) (G := G))⟩
theorem jt_eqO (c : CalO X.prog X.w X.K X.mg X.base k n "__eq__" 2 G) (hr : Room j X.A) (hk : k ≤ j) (ha : JB X a fa) (hb : JB X b fb) : JT X (.Compare a [.Eq] [b] pos) (eTest (eOwnEq n G fa fb)) := ⟨by
  obtain ⟨f, fd, ps, cl, me, F, bb⟩ := c.ex
  exact pt_weak (pt_cmpR (op_ownEq F (hr.mono hk) me.at_ me.fn bb) ha.run hb.run (nobehind _ (by decide) (by decide))) fun σ H Q q => test_of (e := a) σ H Q (fun Q => ownEq_of σ H Q) q⟩
theorem je_lenO (c : CalO X.prog X.w X.K X.mg X.base k n "__len__" 1 G) (hr : Room j X.A) (hk : k + 1 ≤ j) (hm : X.mg "len" = none) (hg : Gl X "len") (ho : JE X o fo) (he : starEach [o] X.env = (false, eval o X.env) :: starEach [] X.env := by rfl) : JE X (.Call (.Name "len" p) [o] [] pos) (eOwnLen n G fo) := ⟨by
  obtain ⟨f, fd, ps, cl, me, F, bb⟩ := c.ex
  refine pe_weak (pe_callB (cr_ownLen F (hr.mono hk) me.at_ me.fn bb) hg hm boot_len (pa_cons ho.run pa_nil he) (by decide) (by decide) he rfl) fun σ H Q ⟨Z, F, ds, w, d, w', rr, hf, kk⟩ => ?_
  obtain ⟨x, h1, hf1⟩ := bind2 hf
  split at hf1
  · rename_i hc
    refine ⟨Z, F, ds, w, _, _, rr, h1, fun v F1 H1 s1 d1 hv => ?_⟩
    have r1 := rr.step s1 d1
    obtain ⟨du, q, dx, fs, rfl, hq⟩ := denB_obj (.inl hv) r1.ex hc
    unfold lenR at hf1
    split at hf1
    · rename_i i w2 hG
      split at hf1
      · rename_i hi
        cases hf1
        refine ⟨q, dx, fs, rfl, hq, rfl, Z, F1, _, _, _, _, r1.nil, dens_cons du dens_nil, hG, fun z F2 H2 s2 d2 hz => ?_⟩
        refine ⟨⟨i, ?_, hi.1, hi.2⟩, kk z F2 H2 (s1.trans s2) d2 hz⟩
        unfold Den at hz
        exact hz
      · cases hf1
    · cases hf1
  · cases hf1⟩
end
end J
namespace J
open PySem PyProof.Rows L2
/-! ### the meanings of J16 to J22, applied -/
@[simp] theorem eMulT.ap (fa fb : Ev) (ds : List Sl) (w : Wd) : eMulT fa fb ds w = bin1 mulT fb ds (fa ds w) := eBin.ap mulT fa fb ds w
@[simp] theorem eSumB.ap (f : Ef) (ds : List Sl) (w : Wd) : eSumB f ds w = ca1 gSumB (f ds w) := eCal.ap gSumB f ds w
@[simp] theorem fSort.ap (f : Ef) (ds : List Sl) (w : Wd) : fSort f ds w = cl1 gfSort (f ds w) := fCal.ap gfSort f ds w
@[simp] theorem v_sumL (ns : List Int) : gSumB [.lst (ns.map D.int)] = some (.int ns.sum) := by
  show (intsOf (ns.map D.int)).bind _ = _
  rw [intsOf_map]
  rfl
@[simp] theorem v_sumT (ns : List Int) : gSumB [.tup (ns.map D.int)] = some (.int ns.sum) := by
  show (intsOf (ns.map D.int)).bind _ = _
  rw [intsOf_map]
  rfl
@[simp] theorem v_sortT (ns : List Int) : gfSort [.tup (ns.map D.int)] = some ((sortI ns).map D.int) := by
  show (intsOf (ns.map D.int)).bind _ = _
  rw [intsOf_map]
  rfl
@[simp] theorem v_sortL (ns : List Int) : gfSort [.lst (ns.map D.int)] = some ((sortI ns).map D.int) := by
  show (match intsOf (ns.map D.int) with | some ns => _ | none => _) = _
  rw [intsOf_map]
def ct2 (a : D) : Option (List D × Wd) → Option (D × Wd)
  | some (xs, w) => vD w (cntD a xs)
  | none => none
@[simp] theorem ct2.on (a : D) (xs : List D) (w : Wd) : ct2 a (some (xs, w)) = vD w (cntD a xs) := rfl
def ct1 (fs : Ef) (ds : List Sl) : Option (D × Wd) → Option (D × Wd)
  | some (a, w) => ct2 a (fs ds w)
  | none => none
@[simp] theorem ct1.on (fs : Ef) (ds : List Sl) (a : D) (w : Wd) : ct1 fs ds (some (a, w)) = ct2 a (fs ds w) := rfl
@[simp] theorem eCount.ap (f : Ev) (fs : Ef) (ds : List Sl) (w : Wd) : eCount f fs ds w = ct1 fs ds (f ds w) := by
  unfold eCount
  rcases f ds w with _ | ⟨a, w1⟩
  · rfl
  · show (fs ds w1).bind _ = ct2 a (fs ds w1)
    rcases fs ds w1 with _ | ⟨b, w2⟩
    · rfl
    · show (cntD a b).bind _ = vD w2 (cntD a b)
      rcases cntD a b with _ | c <;> rfl
@[simp] theorem v_cnt (ns : List Int) (k : Int) : cntD (.lst (ns.map D.int)) [.int k] = some (.int ((ns.count k : Nat) : Int)) := by
  show (intsOf (ns.map D.int)).bind _ = _
  rw [intsOf_map]
  rfl
def ss1 : Option (D × Wd) → Option (List D × Wd)
  | some (a, w) => vLs w (sortSetD a)
  | none => none
@[simp] theorem ss1.on (a : D) (w : Wd) : ss1 (some (a, w)) = vLs w (sortSetD a) := rfl
@[simp] theorem fSortSet.ap (f : Ev) (ds : List Sl) (w : Wd) : fSortSet f ds w = ss1 (f ds w) := by
  unfold fSortSet
  rcases f ds w with _ | ⟨a, w1⟩
  · rfl
  · show (sortSetD a).bind _ = vLs w1 (sortSetD a)
    rcases sortSetD a with _ | b <;> rfl
def exO (ds : List Sl) (i : Nat) (d : D) : Option Sl → Option (List Sl)
  | some (.own xs) => stO ds i (extD d xs)
  | some (.mu k xs) => stM ds i k (extD d xs)
  | _ => none
@[simp] theorem exO.on1 (ds : List Sl) (i : Nat) (d : D) (xs : List D) : exO ds i d (some (.own xs)) = stO ds i (extD d xs) := rfl
@[simp] theorem exO.on2 (ds : List Sl) (i : Nat) (d : D) (k : Nat) (xs : List D) : exO ds i d (some (.mu k xs)) = stM ds i k (extD d xs) := rfl
@[simp] theorem v_ext (xs zs : List D) : extD (.lst zs) xs = if xs.length + zs.length ≤ line then some (xs ++ zs) else none := rfl
def ex1 (i : Nat) (ds : List Sl) : Option (D × Wd) → Option Out
  | some (d, w1) => nx1 w1 (exO ds i d ds[i]?)
  | none => none
@[simp] theorem ex1.on (i : Nat) (ds : List Sl) (d : D) (w1 : Wd) : ex1 i ds (some (d, w1)) = nx1 w1 (exO ds i d ds[i]?) := rfl
theorem ownTo_eq3 (ds : List Sl) (i : Nat) (d : D) : ownTo ds i (extD d) = exO ds i d ds[i]? := by
  unfold ownTo exO
  rcases ds[i]? with _ | s
  · rfl
  · cases s <;> try rfl
    · rename_i xs
      dsimp only
      rcases extD d xs with _ | y <;> rfl
    · rename_i k xs
      dsimp only
      rcases extD d xs with _ | y <;> rfl
@[simp] theorem sExt.ap (i : Nat) (f : Ev) (ds : List Sl) (w : Wd) : sExt i f ds w = ex1 i ds (f ds w) := by
  unfold sExt
  rcases f ds w with _ | ⟨d, w1⟩
  · rfl
  · show (ownTo ds i (extD d)).bind _ = nx1 w1 (exO ds i d ds[i]?)
    rw [ownTo_eq3]
    rcases exO ds i d ds[i]? with _ | y <;> rfl
def at1 (n f : Str) : Option (D × Wd) → Option (D × Wd)
  | some (a, w) => vD w (attrD n f a)
  | none => none
@[simp] theorem at1.on (n f : Str) (a : D) (w : Wd) : at1 n f (some (a, w)) = vD w (attrD n f a) := rfl
@[simp] theorem eAttr.ap (n f : Str) (fo : Ev) (ds : List Sl) (w : Wd) : eAttr n f fo ds w = at1 n f (fo ds w) := by
  unfold eAttr
  rcases fo ds w with _ | ⟨a, w1⟩
  · rfl
  · show (attrD n f a).bind _ = vD w1 (attrD n f a)
    rcases attrD n f a with _ | b <;> rfl
def me2 (n m : Str) (k : Nat) (G : Fn) (o : D) : Option (List D × Wd) → Option (D × Wd)
  | some (xs, w) => if clsOk n m o = true ∧ xs.length + 1 = k then G (o :: xs) w else none
  | none => none
@[simp] theorem me2.on (n m : Str) (k : Nat) (G : Fn) (o : D) (xs : List D) (w : Wd) : me2 n m k G o (some (xs, w)) = if clsOk n m o = true ∧ xs.length + 1 = k then G (o :: xs) w else none := rfl
def me1 (n m : Str) (k : Nat) (G : Fn) (fs : Ef) (ds : List Sl) : Option (D × Wd) → Option (D × Wd)
  | some (o, w) => me2 n m k G o (fs ds w)
  | none => none
@[simp] theorem me1.on (n m : Str) (k : Nat) (G : Fn) (fs : Ef) (ds : List Sl) (o : D) (w : Wd) : me1 n m k G fs ds (some (o, w)) = me2 n m k G o (fs ds w) := rfl
@[simp] theorem eMeth.ap (n m : Str) (k : Nat) (G : Fn) (fo : Ev) (fs : Ef) (ds : List Sl) (w : Wd) : eMeth n m k G fo fs ds w = me1 n m k G fs ds (fo ds w) := by
  unfold eMeth
  rcases fo ds w with _ | ⟨o, w1⟩
  · rfl
  · show (fs ds w1).bind _ = me2 n m k G o (fs ds w1)
    rcases fs ds w1 with _ | ⟨a, w2⟩ <;> rfl
def mk2 (n : Str) : Option (Flds × Wd) → Option (D × Wd)
  | some (fs, w) => some (.obj n (kys fs) (vls fs), w)
  | none => none
@[simp] theorem mk2.on (n : Str) (fs : Flds) (w : Wd) : mk2 n (some (fs, w)) = some (.obj n (kys fs) (vls fs), w) := rfl
def mk1 (n : Str) (a : Nat) (G : List D → Wd → Option (Flds × Wd)) : Option (List D × Wd) → Option (D × Wd)
  | some (xs, w) => if xs.length + 1 = a then mk2 n (G xs w) else none
  | none => none
@[simp] theorem mk1.on (n : Str) (a : Nat) (G : List D → Wd → Option (Flds × Wd)) (xs : List D) (w : Wd) : mk1 n a G (some (xs, w)) = if xs.length + 1 = a then mk2 n (G xs w) else none := rfl
@[simp] theorem eMake.ap (n : Str) (a : Nat) (G : List D → Wd → Option (Flds × Wd)) (fs : Ef) (ds : List Sl) (w : Wd) : eMake n a G fs ds w = mk1 n a G (fs ds w) := by
  unfold eMake
  rcases fs ds w with _ | ⟨xs, w1⟩
  · rfl
  · show (if xs.length + 1 = a then _ else none) = if xs.length + 1 = a then mk2 n (G xs w1) else none
    by_cases h : xs.length + 1 = a
    · rw [if_pos h, if_pos h]
      rcases G xs w1 with _ | ⟨b, w2⟩ <;> rfl
    · rw [if_neg h, if_neg h]
def ic1 (n : Str) : Option (D × Wd) → Option (D × Wd)
  | some (a, w) => vD w (isC n a)
  | none => none
@[simp] theorem ic1.on (n : Str) (a : D) (w : Wd) : ic1 n (some (a, w)) = vD w (isC n a) := rfl
@[simp] theorem eIsC.ap (n : Str) (fo : Ev) (ds : List Sl) (w : Wd) : eIsC n fo ds w = ic1 n (fo ds w) := by
  unfold eIsC
  rcases fo ds w with _ | ⟨a, w1⟩
  · rfl
  · show (isC n a).bind _ = vD w1 (isC n a)
    rcases isC n a with _ | b <;> rfl
def oe2 (n : Str) (G : Fn) (a : D) : Option (D × Wd) → Option (D × Wd)
  | some (b, w) => if isObj n a = true ∧ isObj n b = true then blR (G [a, b] w) else none
  | none => none
@[simp] theorem oe2.on (n : Str) (G : Fn) (a b : D) (w : Wd) : oe2 n G a (some (b, w)) = if isObj n a = true ∧ isObj n b = true then blR (G [a, b] w) else none := rfl
def oe1 (n : Str) (G : Fn) (fb : Ev) (ds : List Sl) : Option (D × Wd) → Option (D × Wd)
  | some (a, w) => oe2 n G a (fb ds w)
  | none => none
@[simp] theorem oe1.on (n : Str) (G : Fn) (fb : Ev) (ds : List Sl) (a : D) (w : Wd) : oe1 n G fb ds (some (a, w)) = oe2 n G a (fb ds w) := rfl
@[simp] theorem eOwnEq.ap (n : Str) (G : Fn) (fa fb : Ev) (ds : List Sl) (w : Wd) : eOwnEq n G fa fb ds w = oe1 n G fb ds (fa ds w) := by
  unfold eOwnEq
  rcases fa ds w with _ | ⟨a, w1⟩
  · rfl
  · show (fb ds w1).bind _ = oe2 n G a (fb ds w1)
    rcases fb ds w1 with _ | ⟨b, w2⟩ <;> rfl
def ol1 (n : Str) (G : Fn) : Option (D × Wd) → Option (D × Wd)
  | some (a, w) => if isObj n a = true then lenR (G [a] w) else none
  | none => none
@[simp] theorem ol1.on (n : Str) (G : Fn) (a : D) (w : Wd) : ol1 n G (some (a, w)) = if isObj n a = true then lenR (G [a] w) else none := rfl
@[simp] theorem eOwnLen.ap (n : Str) (G : Fn) (fo : Ev) (ds : List Sl) (w : Wd) : eOwnLen n G fo ds w = ol1 n G (fo ds w) := by
  unfold eOwnLen
  rcases fo ds w with _ | ⟨a, w1⟩ <;> rfl
@[simp] theorem blR.on (c : Bool) (w : Wd) : blR (some (.bl c, w)) = some (.bl c, w) := rfl
@[simp] theorem lenR.on (i : Int) (w : Wd) : lenR (some (.int i, w)) = if 0 ≤ i ∧ i < 2 ^ 63 then some (.int i, w) else none := rfl
@[simp] theorem nNil.ap (ds : List Sl) (fs : Flds) (w : Wd) : nNil ds fs w = some (fs, w) := rfl
def na1 (f : Str) (g : En) (ds : List Sl) (fs : Flds) : Option (D × Wd) → Option (Flds × Wd)
  | some (d, w) => if fs.length + 1 < 100 then g ds (putD f d fs) w else none
  | none => none
@[simp] theorem na1.on (f : Str) (g : En) (ds : List Sl) (fs : Flds) (d : D) (w : Wd) : na1 f g ds fs (some (d, w)) = if fs.length + 1 < 100 then g ds (putD f d fs) w else none := rfl
@[simp] theorem nAttr.ap (f : Str) (fe : Ev) (g : En) (ds : List Sl) (fs : Flds) (w : Wd) : nAttr f fe g ds fs w = na1 f g ds fs (fe ds w) := by
  unfold nAttr
  rcases fe ds w with _ | ⟨d, w1⟩ <;> rfl
end J
namespace J
open PySem PyProof.Rows L2
/-! laid data of bounded depth, and equality of data told by an encoding -/
def La (k : Nat) (d : D) : Prop := pok d = true ∧ PyData.canLay0 (py d) = true ∧ PyData.depth (py d) ≤ k
theorem La.lay {k : Nat} {d : D} (h : La k d) (hk : k ≤ 64) : J.lay d = true := by
  unfold J.lay SeqAt.shaped
  rw [h.1, h.2.1, decide_eq_true (Nat.le_trans h.2.2 hk)]
  rfl
theorem La.of {d : D} (h : J.lay d = true) (k : Nat) (hd : PyData.depth (py d) ≤ k) : La k d := by
  unfold J.lay SeqAt.shaped at h
  have h1 := Bool.and_eq_true_iff.mp h
  exact ⟨h1.1, (Bool.and_eq_true_iff.mp h1.2).1, hd⟩
theorem la_int (i : Int) : La 1 (.int i) := ⟨rfl, rfl, by simp [py, PyData.depth]⟩
theorem la_all {k : Nat} : ∀ {ds : List D}, (∀ d ∈ ds, La k d) → poks ds = true ∧ PyData.canLayAll0 (pys ds) = true ∧ PyData.depthAll (pys ds) ≤ k
  | [], _ => ⟨rfl, rfl, Nat.zero_le _⟩
  | d :: ds, h => by
    obtain ⟨a1, a2, a3⟩ := h d List.mem_cons_self
    obtain ⟨b1, b2, b3⟩ := la_all fun e he => h e (List.mem_cons_of_mem _ he)
    refine ⟨?_, ?_, ?_⟩
    · show (pok d && poks ds) = true
      rw [a1, b1]; rfl
    · show (PyData.canLay0 (py d) && PyData.canLayAll0 (pys ds)) = true
      rw [a2, b2]; rfl
    · show max (PyData.depth (py d)) (PyData.depthAll (pys ds)) ≤ k
      omega
theorem la_lst {k : Nat} {ds : List D} (h : ∀ d ∈ ds, La k d) : La (k + 1) (.lst ds) := by
  obtain ⟨a1, a2, a3⟩ := la_all h
  refine ⟨a1, ?_, ?_⟩
  · show PyData.canLay0 (.list (pys ds)) = true
    unfold PyData.canLay0
    exact a2
  · show PyData.depth (.list (pys ds)) ≤ k + 1
    unfold PyData.depth
    omega
theorem la_tup {k : Nat} {ds : List D} (h : ∀ d ∈ ds, La k d) : La (k + 1) (.tup ds) := by
  obtain ⟨a1, a2, a3⟩ := la_all h
  refine ⟨a1, ?_, ?_⟩
  · show PyData.canLay0 (.tuple (pys ds)) = true
    unfold PyData.canLay0
    exact a2
  · show PyData.depth (.tuple (pys ds)) ≤ k + 1
    unfold PyData.depth
    omega
theorem la_lstM {α : Type} {k : Nat} {f : α → D} {l : List α} (h : ∀ a ∈ l, La k (f a)) : La (k + 1) (.lst (l.map f)) := la_lst fun d hd => by
  obtain ⟨a, ha, rfl⟩ := List.mem_map.mp hd
  exact h a ha
theorem la_tupM {α : Type} {k : Nat} {f : α → D} {l : List α} (h : ∀ a ∈ l, La k (f a)) : La (k + 1) (.tup (l.map f)) := la_tup fun d hd => by
  obtain ⟨a, ha, rfl⟩ := List.mem_map.mp hd
  exact h a ha
def Inj {α : Type} [DecidableEq α] (f : α → D) : Prop := ∀ a b, PyData.eqv (py (f a)) (py (f b)) = decide (a = b)
theorem inj_int : Inj D.int := eqv_int
theorem inj_str : Inj D.str := eqv_str
theorem inj_all {α : Type} [DecidableEq α] {f : α → D} (h : Inj f) : ∀ xs ys : List α, PyData.eqvAll (pys (xs.map f)) (pys (ys.map f)) = decide (xs = ys)
  | [], [] => rfl
  | [], y :: ys => rfl
  | x :: xs, [] => rfl
  | x :: xs, y :: ys => by
    show (PyData.eqv (py (f x)) (py (f y)) && PyData.eqvAll (pys (xs.map f)) (pys (ys.map f))) = _
    rw [h x y, inj_all h xs ys, Bool.eq_iff_iff]
    simp
theorem inj_lst {α : Type} [DecidableEq α] {f : α → D} (h : Inj f) : Inj fun l : List α => D.lst (l.map f) := fun a b => by
  show PyData.eqv (.list (pys (a.map f))) (.list (pys (b.map f))) = _
  unfold PyData.eqv
  exact inj_all h a b
theorem inj_tup {α : Type} [DecidableEq α] {f : α → D} (h : Inj f) : Inj fun l : List α => D.tup (l.map f) := fun a b => by
  show PyData.eqv (.tuple (pys (a.map f))) (.tuple (pys (b.map f))) = _
  unfold PyData.eqv
  exact inj_all h a b
theorem eq_on {α : Type} [DecidableEq α] {f : α → D} (h : Inj f) {a b : α} (ha : lay (f a) = true) (hb : lay (f b) = true) : eqD (f a) (f b) = some (.bl (decide (a = b))) := by
  unfold eqD
  rw [ha, hb, h a b]
  rfl
theorem ne_on {α : Type} [DecidableEq α] {f : α → D} (h : Inj f) {a b : α} (ha : lay (f a) = true) (hb : lay (f b) = true) : neD (f a) (f b) = some (.bl (!decide (a = b))) := by
  unfold neD
  rw [ha, hb, h a b]
  rfl
theorem any_py {α : Type} [DecidableEq α] {f : α → D} (h : Inj f) (a : α) (l : List α) : (pys (l.map f)).any (fun z => PyData.eqv z (py (f a))) = decide (a ∈ l) := by
  rw [pys_map, List.map_map, List.any_map, Bool.eq_iff_iff, List.any_eq_true, decide_eq_true_eq]
  constructor
  · intro ⟨x, hx, e⟩
    have e' : decide (x = a) = true := (h x a).symm.trans e
    rw [← of_decide_eq_true e']
    exact hx
  · intro ha
    exact ⟨a, ha, (h a a).trans (decide_eq_true rfl)⟩
theorem in_lst {α : Type} [DecidableEq α] {f : α → D} (h : Inj f) {a : α} {l : List α} (ha : lay (f a) = true) (hl : lay (.lst (l.map f)) = true) : inD false (f a) (.lst (l.map f)) = some (.bl (decide (a ∈ l))) := by
  unfold inD
  dsimp only
  rw [ha, hl, any_py h a l]
  rfl
theorem notin_lst {α : Type} [DecidableEq α] {f : α → D} (h : Inj f) {a : α} {l : List α} (ha : lay (f a) = true) (hl : lay (.lst (l.map f)) = true) : inD true (f a) (.lst (l.map f)) = some (.bl (!decide (a ∈ l))) := by
  unfold inD
  dsimp only
  rw [ha, hl, any_py h a l]
  rfl
theorem in_tup {α : Type} [DecidableEq α] {f : α → D} (h : Inj f) {a : α} {l : List α} (hf : flatD (f a) = false) (ha : lay (f a) = true) (hl : lay (.tup (l.map f)) = true) : inD false (f a) (.tup (l.map f)) = some (.bl (decide (a ∈ l))) := by
  unfold inD
  dsimp only
  rw [hf, ha, hl, any_py h a l]
  rfl
/-! a for whose turns go on, or return False at the first that is bad -/
theorem forGo_chk {α β : Type} (enc : α → D) {tg : Eg} {body : Es} {w : Wd} (env : β → List Sl → Prop) (f : β → α → β) (bad : α → Bool) : ∀ (xs : List α) (b : β) (ds : List Sl), env b ds →
    (∀ a ∈ xs, ∀ (b : β) (ds : List Sl), env b ds → ∃ ds1, tg ds (enc a) = some ds1 ∧ (bad a = true → body ds1 w = some (.rt (.bl false) w)) ∧ (bad a = false → ∃ ds2, body ds1 w = some (.nx ds2 w) ∧ env (f b a) ds2)) →
    (xs.any bad = true → forGo tg body (xs.map enc) ds w = some (.rt (.bl false) w)) ∧ (xs.any bad = false → ∃ ds', forGo tg body (xs.map enc) ds w = some (.nx ds' w) ∧ env (xs.foldl f b) ds')
  | [], b, ds, h, _ => ⟨fun z => (nomatch z), fun _ => ⟨ds, rfl, h⟩⟩
  | a :: xs, b, ds, h, hs => by
    obtain ⟨ds1, h1, h2, h3⟩ := hs a List.mem_cons_self b ds h
    rw [List.any_cons]
    cases hb : bad a with
    | true =>
      refine ⟨fun _ => ?_, fun z => (nomatch z)⟩
      show (tg ds (enc a)).bind _ = _
      rw [h1]
      show (body ds1 w).bind _ = _
      rw [h2 hb]
      rfl
    | false =>
      obtain ⟨ds2, h4, h5⟩ := h3 hb
      obtain ⟨i1, i2⟩ := forGo_chk enc env f bad xs (f b a) ds2 h5 fun a' ha' => hs a' (List.mem_cons_of_mem _ ha')
      have e : forGo tg body ((a :: xs).map enc) ds w = forGo tg body (xs.map enc) ds2 w := by
        show (tg ds (enc a)).bind _ = _
        rw [h1]
        show (body ds1 w).bind _ = _
        rw [h4]
        rfl
      rw [Bool.false_or, e]
      exact ⟨i1, i2⟩
/-- .. when nothing is kept -/
theorem forGo_bad {α : Type} (enc : α → D) {tg : Eg} {body : Es} {w : Wd} (env : List Sl → Prop) (bad : α → Bool) (xs : List α) (ds : List Sl) (h : env ds)
    (hs : ∀ a ∈ xs, ∀ (ds : List Sl), env ds → ∃ ds1, tg ds (enc a) = some ds1 ∧ (bad a = true → body ds1 w = some (.rt (.bl false) w)) ∧ (bad a = false → ∃ ds2, body ds1 w = some (.nx ds2 w) ∧ env ds2)) :
    (xs.any bad = true → forGo tg body (xs.map enc) ds w = some (.rt (.bl false) w)) ∧ (xs.any bad = false → ∃ ds', forGo tg body (xs.map enc) ds w = some (.nx ds' w) ∧ env ds') :=
  forGo_chk (β := Unit) enc (fun _ => env) (fun b _ => b) bad xs () ds h fun a ha _ => hs a ha
end J
namespace J
open PySem PyProof.Rows L2
theorem forGo_rt {tg : Eg} {body : Es} {x : D} {xs : List D} {ds ds1 : List Sl} {d : D} {w w2 : Wd} (h1 : tg ds x = some ds1) (h2 : body ds1 w = some (.rt d w2)) : forGo tg body (x :: xs) ds w = some (.rt d w2) := by
  show (tg ds x).bind _ = _
  rw [h1]
  show (body ds1 w).bind _ = _
  rw [h2]
  rfl
theorem cut_from (xs : List D) (k : Nat) : cutD xs (some (k : Int)) none = xs.drop k := by
  unfold cutD
  have e : HT.sIx xs.length 0 (some (k : Int)) = min k xs.length := HT.sIx_nat _ _ k
  rw [HT.sIx_none, e]
  rcases Nat.lt_or_ge k xs.length with h | h
  · rw [Nat.min_eq_left (by omega)]
    exact List.take_of_length_le (by simp)
  · rw [Nat.min_eq_right h, List.drop_eq_nil_of_le h]
    simp
theorem cut_to (xs : List D) (k : Nat) : cutD xs none (some (k : Int)) = xs.take k := by
  unfold cutD
  have e : HT.sIx xs.length xs.length (some (k : Int)) = min k xs.length := HT.sIx_nat _ _ k
  rw [HT.sIx_none, e, List.drop_zero, Nat.sub_zero]
  rcases Nat.lt_or_ge k xs.length with h | h
  · rw [Nat.min_eq_left (by omega)]
  · rw [Nat.min_eq_right h, List.take_length, List.take_of_length_le h]
theorem cut_from1 (xs : List D) : cutD xs (some 1) none = xs.drop 1 := cut_from xs 1
theorem cut_to1 (xs : List D) : cutD xs none (some 1) = xs.take 1 := cut_to xs 1
theorem cut_butlast (xs : List D) : cutD xs none (some (-1)) = xs.take (xs.length - 1) := by
  unfold cutD
  have e : HT.sIx xs.length xs.length (some (-1)) = xs.length - 1 := by
    show (if (-1 : Int) < 0 then (-1 + (xs.length : Int)).toNat else min (-1 : Int).toNat xs.length) = _
    rw [if_pos (by decide)]
    omega
  rw [HT.sIx_none, e, List.drop_zero, Nat.sub_zero]
theorem enumD_zip {α : Type} (f : α → D) : ∀ (xs : List α) (k : Nat), enumD k (xs.map f) = (xs.zipIdx k).map fun p => .tup [.int (p.2 : Int), f p.1]
  | [], _ => rfl
  | x :: xs, k => by
    show D.tup [.int (k : Int), f x] :: enumD (k + 1) (xs.map f) = _
    rw [enumD_zip f xs (k + 1)]
    rfl
/-! steps of a body -/
theorem seq_nx {f g : Es} {ds ds2 : List Sl} {w w2 : Wd} (h : f ds w = some (.nx ds2 w2)) : sSeq f g ds w = g ds2 w2 := by
  rw [sSeq.ap, h]
  rfl
theorem seq_rt {f g : Es} {ds : List Sl} {d : D} {w w2 : Wd} (h : f ds w = some (.rt d w2)) : sSeq f g ds w = some (.rt d w2) := by
  rw [sSeq.ap, h]
  rfl
theorem sif_no {t : Et} {a g : Es} {ds : List Sl} {w w2 : Wd} (h : t ds w = some (false, w2)) : sSeq (sIf t a sNil) g ds w = g ds w2 := by
  rw [sSeq.ap, sIf.ap, h]
  rfl
theorem sif_ret {t : Et} {g h : Es} {d : D} {ds : List Sl} {w w2 : Wd} (e : t ds w = some (true, w2)) : sSeq (sIf t (sSeq (sRet (eC d)) g) sNil) h ds w = some (.rt d w2) := by
  rw [sSeq.ap, sIf.ap, e]
  rfl
end J
namespace K60
open PySem PyProof.Rows L2 J
def topS (i : Nat) : Stmt := PySem.Challenge.pw_strandloom_k60_whole_fewest.main.body.getD i (.Pass ⟨0, 0, 0, 0⟩)
abbrev s_is_whole : Stmt := topS 4
abbrev N_is_whole : List Str := ["thing"]
theorem sc_is_whole : FnScope N_is_whole ["thing"] (defScope s_is_whole) := ⟨rfl, rfl, rfl, by decide +kernel, rfl, by decide +kernel, by decide +kernel⟩
noncomputable def g_is_whole : Es :=
 (sSeq (sRet (eAnd (eIsi (aCons (eBor 0) (aCons (eC (.ty "int")) aNil))) (eNot (eIsi (aCons (eBor 0) (aCons (eC (.ty "bool")) aNil))))))
 sNil)
noncomputable def G_is_whole : Fn := callS N_is_whole.length g_is_whole
abbrev s_led_through : Stmt := topS 6
abbrev N_led_through : List Str := ["net", "row", "late", "first", "second", "order"]
theorem sc_led_through : FnScope N_led_through ["net", "row"] (defScope s_led_through) := ⟨rfl, rfl, rfl, by decide +kernel, rfl, by decide +kernel, by decide +kernel⟩
noncomputable def g_led_through : Es :=
 (sSeq (sSetO 2 (fList (aCons (eBor 1) aNil)))
 (sSeq (sFor (iItems (eVar 0)) (gT 3 (gsCons (gN 3) (gsCons (gN 4) (gsCons (gN 5) gsNil)))) (sSeq (sIf (tAndJ (eTest (eNe (eIx (eBor 2) (eBor 3)) (eIx (eBor 2) (eBor 4)))) (eTest (eEq (eLt (eIx (eBor 2) (eBor 4)) (eIx (eBor 2) (eBor 3))) (eEq (eBor 5) (eC (.str "up")))))) (sSeq (sAsg (eTup (aCons (eIx (eBor 2) (eBor 4)) (aCons (eIx (eBor 2) (eBor 3)) aNil))) (goT 2 (gosCons (goSub 2 (eBor 3)) (gosCons (goSub 2 (eBor 4)) gosNil))))
 sNil) sNil)
 sNil))
 (sFrz 2 (sSeq (sRet (eVar 2))
 sNil))))
noncomputable def G_led_through : Fn := callS N_led_through.length g_led_through
abbrev s_check_parts : Stmt := topS 9
abbrev N_check_parts : List Str := ["parts", "one"]
theorem sc_check_parts : FnScope N_check_parts ["parts"] (defScope s_check_parts) := ⟨rfl, rfl, rfl, by decide +kernel, rfl, by decide +kernel, by decide +kernel⟩
noncomputable def g_check_parts : Es :=
 (sSeq (sIf (tOrJ (tNotJ (eTest (eIsi2 (eBor 0) "list" "tuple"))) (tNotJ (eTest (eAll (aCons (eL (fLc (iItems (eBor 0)) (gN 1) tYesJ (eAnd (eCall 1 G_is_whole (aCons (eVar 1) aNil)) (eGe (eBor 1) (eC (.int 1)))) [1])) aNil))))) (sSeq sNone
 sNil) sNil)
 (sSeq (sIf (tNotJ (eTest (eChain (g2B pLe) (g2B pLe) (eC (.int 1)) (eSumB (aCons (eBor 0) aNil)) (eC (.int 5))))) (sSeq sNone
 sNil) sNil)
 sNil))
noncomputable def G_check_parts : Fn := callS N_check_parts.length g_check_parts
abbrev s_rows_of : Stmt := topS 10
abbrev N_rows_of : List Str := ["parts", "found", "many", "row", "ones"]
theorem sc_rows_of : FnScope N_rows_of ["parts"] (defScope s_rows_of) := ⟨rfl, rfl, rfl, by decide +kernel, rfl, by decide +kernel, by decide +kernel⟩
noncomputable def g_rows_of : Es :=
 (sSeq (sSet 1 (eL (fLst (aCons (eTup aNil) aNil))))
 (sSeq (sFor (iItems (eVar 0)) (gN 2) (sSeq (sSetO 1 (fLc2 (iItems (eBor 1)) (gN 3) tYesJ (iRg (eC (.int 0)) (eAdd (eBor 2) (eC (.int 1)))) (gN 4) tYesJ (eTup (aStar (eBor 3) (aStar (eMulT (eL (fLst (aCons (eC (.int 0)) aNil))) (eSub (eBor 2) (eBor 4))) (aStar (eMulT (eL (fLst (aCons (eC (.int 1)) aNil))) (eBor 4)) aNil)))) [3, 4] [4]))
 (sFrz 1 sNil)))
 (sSeq (sRet (eTuple (aCons (eL (fSort (aCons (eBor 1) aNil))) aNil)))
 sNil)))
noncomputable def G_rows_of : Fn := callS N_rows_of.length g_rows_of
abbrev s_exchanges_of : Stmt := topS 11
abbrev N_exchanges_of : List Str := ["width", "second", "first"]
theorem sc_exchanges_of : FnScope N_exchanges_of ["width"] (defScope s_exchanges_of) := ⟨rfl, rfl, rfl, by decide +kernel, rfl, by decide +kernel, by decide +kernel⟩
noncomputable def g_exchanges_of : Es :=
 (sSeq (sRet (eL (fLc2 (iRg (eC (.int 0)) (eBor 0)) (gN 1) tYesJ (iRg (eC (.int 0)) (eBor 1)) (gN 2) tYesJ (eTup (aCons (eVar 2) (aCons (eVar 1) (aCons (eC (.str "up")) aNil)))) [1, 2] [2])))
 sNil)
noncomputable def G_exchanges_of : Fn := callS N_exchanges_of.length g_exchanges_of
abbrev s_behind : Stmt := topS 12
abbrev N_behind : List Str := ["rows", "net", "row"]
theorem sc_behind : FnScope N_behind ["rows", "net"] (defScope s_behind) := ⟨rfl, rfl, rfl, by decide +kernel, rfl, by decide +kernel, by decide +kernel⟩
noncomputable def g_behind : Es :=
 (sSeq (sRet (eTuple (aCons (eL (fSortSet (eL (fLc (iItems (eBor 0)) (gN 2) tYesJ (eTuple (aCons (eCall 2 G_led_through (aCons (eVar 1) (aCons (eVar 2) aNil))) aNil)) [2])))) aNil)))
 sNil)
noncomputable def G_behind : Fn := callS N_behind.length g_behind
abbrev s_are_ascending : Stmt := topS 13
abbrev N_are_ascending : List Str := ["rows", "row"]
theorem sc_are_ascending : FnScope N_are_ascending ["rows"] (defScope s_are_ascending) := ⟨rfl, rfl, rfl, by decide +kernel, rfl, by decide +kernel, by decide +kernel⟩
noncomputable def g_are_ascending : Es :=
 (sSeq (sRet (eAll (aCons (eL (fLc (iItems (eBor 0)) (gN 1) tYesJ (eEq (eL (fList (aCons (eBor 1) aNil))) (eL (fSort (aCons (eBor 1) aNil)))) [1])) aNil)))
 sNil)
noncomputable def G_are_ascending : Fn := callS N_are_ascending.length g_are_ascending
abbrev s_orders_of : Stmt := topS 14
abbrev N_orders_of : List Str := ["width", "found", "lane", "row", "at"]
theorem sc_orders_of : FnScope N_orders_of ["width"] (defScope s_orders_of) := ⟨rfl, rfl, rfl, by decide +kernel, rfl, by decide +kernel, by decide +kernel⟩
noncomputable def g_orders_of : Es :=
 (sSeq (sSet 1 (eL (fLst (aCons (eTup aNil) aNil))))
 (sSeq (sFor (iRg (eC (.int 0)) (eBor 0)) (gN 2) (sSeq (sSetO 1 (fLc2 (iItems (eBor 1)) (gN 3) tYesJ (iRg (eC (.int 0)) (eAdd (eLen (aCons (eBor 3) aNil)) (eC (.int 1)))) (gN 4) tYesJ (eTup (aStar (eSlT (eBor 3) oNo (oSo (eBor 4))) (aCons (eVar 2) (aStar (eSlT (eBor 3) (oSo (eBor 4)) oNo) aNil)))) [3, 4] [4]))
 (sFrz 1 sNil)))
 (sSeq (sRet (eVar 1))
 sNil)))
noncomputable def G_orders_of : Fn := callS N_orders_of.length g_orders_of
abbrev s_counts_of : Stmt := topS 15
abbrev N_counts_of : List Str := ["rows", "ones", "row", "number"]
theorem sc_counts_of : FnScope N_counts_of ["rows"] (defScope s_counts_of) := ⟨rfl, rfl, rfl, by decide +kernel, rfl, by decide +kernel, by decide +kernel⟩
noncomputable def g_counts_of : Es :=
 (sSeq (sSet 1 (eL (fLc (iItems (eBor 0)) (gN 2) tYesJ (eSumB (aCons (eBor 2) aNil)) [2])))
 (sSeq (sRet (eL (fLc (iRg (eC (.int 0)) (eAdd (eMax (aCons (eBor 1) aNil)) (eC (.int 1)))) (gN 3) tYesJ (eCount (eBor 1) (aCons (eBor 3) aNil)) [3])))
 sNil))
noncomputable def G_counts_of : Fn := callS N_counts_of.length g_counts_of
abbrev s_covers : Stmt := topS 16
abbrev N_covers : List Str := ["one", "other", "orders", "mine", "yours", "order", "row", "lane"]
theorem sc_covers : FnScope N_covers ["one", "other", "orders"] (defScope s_covers) := ⟨rfl, rfl, rfl, by decide +kernel, rfl, by decide +kernel, by decide +kernel⟩
noncomputable def g_covers : Es :=
 (sSeq (sIf (tOrJ (eTest (eGt (eLen (aCons (eBor 0) aNil)) (eLen (aCons (eBor 1) aNil)))) (eTest (eAny (aCons (eL (fLc (iZipJ (aCons (eCall 1 G_counts_of (aCons (eVar 0) aNil)) (aCons (eCall 1 G_counts_of (aCons (eVar 1) aNil)) aNil))) (gT 2 (gsCons (gN 3) (gsCons (gN 4) gsNil))) tYesJ (eGt (eBor 3) (eBor 4)) [3, 4])) aNil)))) (sSeq (sRet (eC (.bl false)))
 sNil) sNil)
 (sSeq (sRet (eAny (aCons (eL (fLc (iItems (eBor 2)) (gN 5) tYesJ (eAll (aCons (eL (fLc (iItems (eBor 0)) (gN 6) tYesJ (eIn (eTuple (aCons (eL (fLc (iItems (eBor 5)) (gN 7) tYesJ (eIx (eBor 6) (eBor 7)) [7])) aNil)) (eBor 1)) [6])) aNil)) [5])) aNil)))
 sNil))
noncomputable def G_covers : Fn := callS N_covers.length g_covers
abbrev s_next_layer : Stmt := topS 17
abbrev N_next_layer : List Str := ["layer", "width", "orders", "found", "net", "rows", "exchange", "late", "more", "other"]
theorem sc_next_layer : FnScope N_next_layer ["layer", "width", "orders"] (defScope s_next_layer) := ⟨rfl, rfl, rfl, by decide +kernel, rfl, by decide +kernel, by decide +kernel⟩
noncomputable def g_next_layer : Es :=
 (sSeq (sSetO 3 (fLst aNil))
 (sSeq (sFor (iItems (eVar 0)) (gT 2 (gsCons (gN 4) (gsCons (gN 5) gsNil))) (sSeq (sFor (iItems (eCall 1 G_exchanges_of (aCons (eVar 1) aNil))) (gN 6) (sSeq (sSet 7 (eCall 2 G_behind (aCons (eVar 5) (aCons (eL (fLst (aCons (eVar 6) aNil))) aNil))))
 (sSeq (sIf (tAndJ (eTest (eNe (eBor 7) (eBor 5))) (tNotJ (eTest (eAny (aCons (eL (fLc (iItems (eBor 3)) (gT 2 (gsCons (gN 8) (gsCons (gN 9) gsNil))) tYesJ (eCall 3 G_covers (aCons (eVar 9) (aCons (eVar 7) (aCons (eVar 2) aNil)))) [8, 9])) aNil))))) (sSeq (sSetO 3 (fLc (iItems (eBor 3)) (gT 2 (gsCons (gN 8) (gsCons (gN 9) gsNil))) (tNotJ (eTest (eCall 3 G_covers (aCons (eVar 7) (aCons (eVar 9) (aCons (eVar 2) aNil)))))) (eTup (aCons (eVar 8) (aCons (eVar 9) aNil))) [8, 9]))
 (sSeq (sApp 3 (eTup (aCons (eL (fLst (aStar (eBor 4) (aCons (eVar 6) aNil)))) (aCons (eVar 7) aNil))))
 sNil)) sNil)
 sNil)))
 sNil))
 (sFrz 3 (sSeq (sRet (eVar 3))
 sNil))))
noncomputable def G_next_layer : Fn := callS N_next_layer.length g_next_layer
abbrev s_is_covered : Stmt := topS 19
abbrev N_is_covered : List Str := ["one", "other", "exchanges", "orders", "rows", "exchange", "late", "less"]
theorem sc_is_covered : FnScope N_is_covered ["one", "other", "exchanges", "orders"] (defScope s_is_covered) := ⟨rfl, rfl, rfl, by decide +kernel, rfl, by decide +kernel, by decide +kernel⟩
noncomputable def g_is_covered : Es :=
 (sSeq (sFor (iItems (eVar 0)) (gN 4) (sSeq (sFor (iItems (eVar 2)) (gN 5) (sSeq (sSet 6 (eCall 2 G_behind (aCons (eVar 4) (aCons (eL (fLst (aCons (eVar 5) aNil))) aNil))))
 (sSeq (sIf (tAndJ (eTest (eNe (eBor 6) (eBor 4))) (tNotJ (eTest (eAny (aCons (eL (fLc (iItems (eBor 1)) (gN 7) tYesJ (eCall 3 G_covers (aCons (eVar 7) (aCons (eVar 6) (aCons (eVar 3) aNil)))) [7])) aNil))))) (sSeq (sRet (eC (.bl false)))
 sNil) sNil)
 sNil)))
 sNil))
 (sSeq (sRet (eC (.bl true)))
 sNil))
noncomputable def G_is_covered : Fn := callS N_is_covered.length g_is_covered
abbrev s_LeastNet___init__ : Stmt := inClass (topS 18) 0
abbrev N_LeastNet___init__ : List Str := ["self", "net", "layers", "layer", "other"]
theorem sc_LeastNet___init__ : FnScope N_LeastNet___init__ ["self", "net", "layers"] (defScope s_LeastNet___init__) := ⟨rfl, rfl, rfl, by decide +kernel, rfl, by decide +kernel, by decide +kernel⟩
noncomputable def g_LeastNet___init__ : En :=
 (nAttr "net" (eL (fList (aCons (eBor 1) aNil)))
 (nAttr "layers" (eL (fLc (iItems (eBor 2)) (gN 3) tYesJ (eL (fLc (iItems (eBor 3)) (gN 4) tYesJ (eL (fList (aCons (eBor 4) aNil))) [4])) [3]))
 nNil))
noncomputable def G_LeastNet___init__ : List D → Wd → Option (Flds × Wd) := callI N_LeastNet___init__.length g_LeastNet___init__
abbrev s_LeastNet___eq__ : Stmt := inClass (topS 18) 1
abbrev N_LeastNet___eq__ : List Str := ["self", "other"]
theorem sc_LeastNet___eq__ : FnScope N_LeastNet___eq__ ["self", "other"] (defScope s_LeastNet___eq__) := ⟨rfl, rfl, rfl, by decide +kernel, rfl, by decide +kernel, by decide +kernel⟩
noncomputable def g_LeastNet___eq__ : Es :=
 (sSeq (sRet (eAnd (eIsC "LeastNet" (eVar 1)) (eAnd (eEq (eAttr "LeastNet" "net" (eBor 0)) (eAttr "LeastNet" "net" (eBor 1))) (eEq (eAttr "LeastNet" "layers" (eBor 0)) (eAttr "LeastNet" "layers" (eBor 1))))))
 sNil)
noncomputable def G_LeastNet___eq__ : Fn := callS N_LeastNet___eq__.length g_LeastNet___eq__
abbrev s_LeastNet___len__ : Stmt := inClass (topS 18) 2
abbrev N_LeastNet___len__ : List Str := ["self"]
theorem sc_LeastNet___len__ : FnScope N_LeastNet___len__ ["self"] (defScope s_LeastNet___len__) := ⟨rfl, rfl, rfl, by decide +kernel, rfl, by decide +kernel, by decide +kernel⟩
noncomputable def g_LeastNet___len__ : Es :=
 (sSeq (sRet (eLen (aCons (eAttr "LeastNet" "net" (eBor 0)) aNil)))
 sNil)
noncomputable def G_LeastNet___len__ : Fn := callS N_LeastNet___len__.length g_LeastNet___len__
abbrev s_LeastNet_shows : Stmt := inClass (topS 18) 3
abbrev N_LeastNet_shows : List Str := ["self", "parts", "rows", "width", "exchanges", "sets", "many", "layer", "orders", "exchange", "net", "one", "late", "other"]
theorem sc_LeastNet_shows : FnScope N_LeastNet_shows ["self", "parts"] (defScope s_LeastNet_shows) := ⟨rfl, rfl, rfl, by decide +kernel, rfl, by decide +kernel, by decide +kernel⟩
noncomputable def g_LeastNet_shows : Es :=
 (sSeq (sDrop (eCall 1 G_check_parts (aCons (eVar 1) aNil)))
 (sSeq (sAsg (eTup (aCons (eCall 1 G_rows_of (aCons (eVar 1) aNil)) (aCons (eSumB (aCons (eBor 1) aNil)) aNil))) (goN (gT 2 (gsCons (gN 2) (gsCons (gN 3) gsNil)))))
 (sSeq (sSet 4 (eCall 1 G_exchanges_of (aCons (eVar 3) aNil)))
 (sSeq (sIf (tOrJ (tNotJ (eTest (eAll (aCons (eL (fLc (iItems (eAttr "LeastNet" "net" (eBor 0))) (gN 9) tYesJ (eIn (eBor 9) (eBor 4)) [9])) aNil)))) (tNotJ (eTest (eCall 1 G_are_ascending (aCons (eCall 2 G_behind (aCons (eVar 2) (aCons (eAttr "LeastNet" "net" (eBor 0)) aNil))) aNil))))) (sSeq (sRet (eC (.bl false)))
 sNil) sNil)
 (sSeq (sIf (eTest (eNe (eLen (aCons (eAttr "LeastNet" "layers" (eBor 0)) aNil)) (eLen (aCons (eAttr "LeastNet" "net" (eBor 0)) aNil)))) (sSeq (sRet (eC (.bl false)))
 sNil) sNil)
 (sSeq (sSetO 5 (fLst aNil))
 (sSeq (sFor (iEnumJ (aCons (eAttr "LeastNet" "layers" (eBor 0)) aNil)) (gT 2 (gsCons (gN 6) (gsCons (gN 7) gsNil))) (sSeq (sIf (tNotJ (eTest (eAll (aCons (eL (fLc (iItems (eBor 7)) (gN 10) tYesJ (eAnd (eEq (eLen (aCons (eBor 10) aNil)) (eBor 6)) (eAll (aCons (eL (fLc (iItems (eBor 10)) (gN 11) tYesJ (eIn (eBor 11) (eBor 4)) [11])) aNil))) [10])) aNil)))) (sSeq (sRet (eC (.bl false)))
 sNil) sNil)
 (sSeq (sApp 5 (eL (fLc (iItems (eBor 7)) (gN 10) tYesJ (eCall 2 G_behind (aCons (eVar 2) (aCons (eVar 10) aNil))) [10])))
 sNil)))
 (sSeq (sIf (tAndJ (eTest (eNe (eAttr "LeastNet" "layers" (eBor 0)) (eL (fLst aNil)))) (eTest (eNe (eIx (eAttr "LeastNet" "layers" (eBor 0)) (eC (.int 0))) (eL (fLst (aCons (eL (fLst aNil)) aNil)))))) (sSeq (sRet (eC (.bl false)))
 sNil) sNil)
 (sSeq (sIf (eTest (eAny (aCons (eL (fLc2 (iItems (eBor 5)) (gN 7) tYesJ (iItems (eVar 7)) (gN 12) tYesJ (eCall 1 G_are_ascending (aCons (eVar 12) aNil)) [7, 12] [12])) aNil))) (sSeq (sRet (eC (.bl false)))
 sNil) sNil)
 (sSeq (sSet 8 (eCall 1 G_orders_of (aCons (eVar 3) aNil)))
 (sSeq (sRet (eAll (aCons (eL (fLc (iZipJ (aCons (eBor 5) (aCons (eL (fSl (eBor 5) (oSo (eC (.int 1))) oNo)) aNil))) (gT 2 (gsCons (gN 11) (gsCons (gN 13) gsNil))) tYesJ (eCall 4 G_is_covered (aCons (eVar 11) (aCons (eVar 13) (aCons (eVar 4) (aCons (eVar 8) aNil))))) [11, 13])) aNil)))
 sNil)))))))))))
noncomputable def G_LeastNet_shows : Fn := callS N_LeastNet_shows.length g_LeastNet_shows
abbrev s_least_net : Stmt := topS 20
abbrev N_least_net : List Str := ["parts", "width", "layer", "layers", "orders", "net", "rows"]
theorem sc_least_net : FnScope N_least_net ["parts"] (defScope s_least_net) := ⟨rfl, rfl, rfl, by decide +kernel, rfl, by decide +kernel, by decide +kernel⟩
noncomputable def g_least_net : Es :=
 (sSeq (sDrop (eCall 1 G_check_parts (aCons (eVar 0) aNil)))
 (sSeq (sSet 1 (eSumB (aCons (eBor 0) aNil)))
 (sSeq (sPar3 2 3 4 (pD (eL (fLst (aCons (eTup (aCons (eL (fLst aNil)) (aCons (eCall 1 G_rows_of (aCons (eVar 0) aNil)) aNil))) aNil))) (pO (fLst aNil) (pD (eCall 1 G_orders_of (aCons (eVar 1) aNil)) pNil))))
 (sSeq (sWhile (tNotJ (eTest (eAny (aCons (eL (fLc (iItems (eBor 2)) (gT 2 (gsCons (gN 5) (gsCons (gN 6) gsNil))) tYesJ (eCall 1 G_are_ascending (aCons (eVar 6) aNil)) [5, 6])) aNil)))) (sSeq (sApp 3 (eL (fLc (iItems (eBor 2)) (gT 2 (gsCons (gN 5) (gsCons (gN 6) gsNil))) tYesJ (eVar 5) [5, 6])))
 (sSeq (sSet 2 (eCall 3 G_next_layer (aCons (eVar 2) (aCons (eVar 1) (aCons (eVar 4) aNil)))))
 sNil)))
 (sFrz 3 (sSeq (sRet (eMake "LeastNet" 3 G_LeastNet___init__ (aCons (eIx (eL (fLc (iItems (eBor 2)) (gT 2 (gsCons (gN 5) (gsCons (gN 6) gsNil))) (eTest (eCall 1 G_are_ascending (aCons (eVar 6) aNil))) (eVar 5) [5, 6])) (eC (.int 0))) (aCons (eVar 3) aNil))))
 sNil))))))
noncomputable def G_least_net : Fn := callS N_least_net.length g_least_net
abbrev s__law_cell_at : Stmt := topS 22
abbrev N__law_cell_at : List Str := ["_law_script", "_law_k"]
theorem sc__law_cell_at : FnScope N__law_cell_at ["_law_script", "_law_k"] (defScope s__law_cell_at) := ⟨rfl, rfl, rfl, by decide +kernel, rfl, by decide +kernel, by decide +kernel⟩
noncomputable def g__law_cell_at : Es :=
 (sSeq (sIf (eTest (eLt (eBor 1) (eLen (aCons (eBor 0) aNil)))) (sSeq (sRet (eIx (eBor 0) (eBor 1)))
 sNil) sNil)
 (sSeq (sRet (eC (.int 0)))
 sNil))
noncomputable def G__law_cell_at : Fn := callS N__law_cell_at.length g__law_cell_at
abbrev s__law_draw : Stmt := topS 23
abbrev N__law_draw : List Str := ["_law_cell", "_law_k", "_law_bound", "_law_primes"]
theorem sc__law_draw : FnScope N__law_draw ["_law_cell", "_law_k", "_law_bound"] (defScope s__law_draw) := ⟨rfl, rfl, rfl, by decide +kernel, rfl, by decide +kernel, by decide +kernel⟩
noncomputable def g__law_draw : Es :=
 (sSeq (sSet 3 (eTup (aCons (eC (.int 1000003)) (aCons (eC (.int 1000033)) (aCons (eC (.int 1000037)) (aCons (eC (.int 1000039)) (aCons (eC (.int 1000081)) (aCons (eC (.int 1000099)) (aCons (eC (.int 1000117)) (aCons (eC (.int 1000121)) (aCons (eC (.int 1000133)) (aCons (eC (.int 1000151)) (aCons (eC (.int 1000159)) (aCons (eC (.int 1000171)) (aCons (eC (.int 1000183)) (aCons (eC (.int 1000187)) (aCons (eC (.int 1000193)) (aCons (eC (.int 1000199)) aNil))))))))))))))))))
 (sSeq (sRet (eMod (eMod (eInt (aCons (eAdd (eMul (eBor 0) (eC (.int 48271))) (eMul (eBor 1) (eC (.int 69621)))) aNil)) (eIx (eBor 3) (eMod (eInt (aCons (eBor 1) aNil)) (eC (.int 16))))) (eBor 2)))
 sNil))
noncomputable def G__law_draw : Fn := callS N__law_draw.length g__law_draw
abbrev s__law_number : Stmt := topS 24
abbrev N__law_number : List Str := ["_law_cell", "_law_k", "_law_bound", "_law_power", "_law_lap", "_law_remains", "_law_small"]
theorem sc__law_number : FnScope N__law_number ["_law_cell", "_law_k", "_law_bound"] (defScope s__law_number) := ⟨rfl, rfl, rfl, by decide +kernel, rfl, by decide +kernel, by decide +kernel⟩
noncomputable def g__law_number : Es :=
 (sSeq (sSet 3 (eC (.int 1)))
 (sSeq (sFor (iRg (eC (.int 0)) (eMod (eInt (aCons (eBor 1) aNil)) (eC (.int 24)))) (gN 4) (sSeq (sSet 3 (eMul (eBor 3) (eC (.int 1009))))
 sNil))
 (sSeq (sSet 5 (eDiv (eSub (eBor 0) (ePow (eC (.int 10)) (eC (.int 18)))) (eBor 3)))
 (sSeq (sIf (eTest (eGt (eBor 5) (eC (.int 0)))) (sSeq (sRet (eMod (eMod (eInt (aCons (eBor 5) aNil)) (eC (.int 1009))) (eBor 2)))
 sNil) sNil)
 (sSeq (sSet 6 (eMod (eInt (aCons (eBor 0) aNil)) (eC (.int 1000003))))
 (sSeq (sRet (eMod (eCall 3 G__law_draw (aCons (eMul (eAdd (eBor 6) (eMul (eC (.int 977)) (eBor 1))) (eAdd (eAdd (eBor 6) (eMul (eC (.int 31)) (eBor 1))) (eC (.int 5)))) (aCons (eAdd (eMod (eInt (aCons (eBor 1) aNil)) (eC (.int 9))) (eC (.int 1))) (aCons (eC (.int 999983)) aNil)))) (eBor 2)))
 sNil))))))
noncomputable def G__law_number : Fn := callS N__law_number.length g__law_number
abbrev s__law_next : Stmt := topS 25
abbrev N__law_next : List Str := ["_law_draw_here", "_law_bound", "_law_at", "_law_cell"]
theorem sc__law_next : FnScope N__law_next ["_law_draw_here", "_law_bound"] (defScope s__law_next) := ⟨rfl, rfl, rfl, by decide +kernel, rfl, by decide +kernel, by decide +kernel⟩
noncomputable def g__law_next : Es :=
 (sSeq (sAsg (eAdd (eDrIx (eVar 0) (eC (.int 2))) (eC (.int 1))) (goDr (eVar 0) (eC (.int 2))))
 (sSeq (sSet 2 (eDiv (eDrIx (eVar 0) (eC (.int 2))) (eC (.int 12))))
 (sSeq (sSet 3 (eAdd (eCall 2 G__law_cell_at (aCons (eDrIx (eVar 0) (eC (.int 0))) (aCons (eAdd (eDrIx (eVar 0) (eC (.int 1))) (eBor 2)) aNil))) (eMul (eC (.int 31)) (eBor 2))))
 (sSeq (sRet (eCall 3 G__law_number (aCons (eVar 3) (aCons (eAdd (eMod (eInt (aCons (eDrIx (eVar 0) (eC (.int 2))) aNil)) (eC (.int 12))) (eC (.int 1))) (aCons (eVar 1) aNil)))))
 sNil))))
noncomputable def G__law_next : Fn := callS N__law_next.length g__law_next
abbrev s__law_pick : Stmt := topS 26
abbrev N__law_pick : List Str := ["_law_draw_here", "_law_things"]
theorem sc__law_pick : FnScope N__law_pick ["_law_draw_here", "_law_things"] (defScope s__law_pick) := ⟨rfl, rfl, rfl, by decide +kernel, rfl, by decide +kernel, by decide +kernel⟩
noncomputable def g__law_pick : Es :=
 (sSeq (sRet (eIx (eBor 1) (eCall 2 G__law_next (aCons (eVar 0) (aCons (eLen (aCons (eBor 1) aNil)) aNil)))))
 sNil)
noncomputable def G__law_pick : Fn := callS N__law_pick.length g__law_pick
abbrev s__law_parted : Stmt := topS 27
abbrev N__law_parted : List Str := ["_law_parts", "_law_rows", "_law_many", "_law_more", "_law_row", "_law_ones"]
theorem sc__law_parted : FnScope N__law_parted ["_law_parts"] (defScope s__law_parted) := ⟨rfl, rfl, rfl, by decide +kernel, rfl, by decide +kernel, by decide +kernel⟩
noncomputable def g__law_parted : Es :=
 (sSeq (sSet 1 (eL (fLst (aCons (eTup aNil) aNil))))
 (sSeq (sFor (iItems (eVar 0)) (gN 2) (sSeq (sSetO 3 (fLst aNil))
 (sSeq (sFor (iItems (eVar 1)) (gN 4) (sSeq (sExt 3 (eL (fLc (iRg (eC (.int 0)) (eAdd (eBor 2) (eC (.int 1)))) (gN 5) tYesJ (eAdd (eAdd (eBor 4) (eMulT (eTup (aCons (eC (.int 0)) aNil)) (eSub (eBor 2) (eBor 5)))) (eMulT (eTup (aCons (eC (.int 1)) aNil)) (eBor 5))) [5])))
 sNil))
 (sFrz 3 (sSeq (sSet 1 (eVar 3))
 sNil)))))
 (sSeq (sRet (eVar 1))
 sNil)))
noncomputable def G__law_parted : Fn := callS N__law_parted.length g__law_parted
abbrev s__law_led : Stmt := topS 28
abbrev N__law_led : List Str := ["_law_rows", "_law_net", "_law_found", "_law_row", "_law_late", "_law_first", "_law_second", "_law_order"]
theorem sc__law_led : FnScope N__law_led ["_law_rows", "_law_net"] (defScope s__law_led) := ⟨rfl, rfl, rfl, by decide +kernel, rfl, by decide +kernel, by decide +kernel⟩
noncomputable def g__law_led : Es :=
 (sSeq (sSetO 2 (fLst aNil))
 (sSeq (sFor (iItems (eVar 0)) (gN 3) (sSeq (sSetO 4 (fList (aCons (eBor 3) aNil)))
 (sSeq (sFor (iItems (eVar 1)) (gT 3 (gsCons (gN 5) (gsCons (gN 6) (gsCons (gN 7) gsNil)))) (sSeq (sIf (eTest (eGt (eIx (eBor 4) (eBor 5)) (eIx (eBor 4) (eBor 6)))) (sSeq (sAsg (eTup (aCons (eIx (eBor 4) (eBor 6)) (aCons (eIx (eBor 4) (eBor 5)) aNil))) (goT 2 (gosCons (goSub 4 (eBor 5)) (gosCons (goSub 4 (eBor 6)) gosNil))))
 sNil) sNil)
 sNil))
 (sSeq (sApp 2 (eTuple (aCons (eBor 4) aNil)))
 sNil))))
 (sSeq (sRet (eL (fSortSet (eBor 2))))
 sNil)))
noncomputable def G__law_led : Fn := callS N__law_led.length g__law_led
abbrev s__law_up : Stmt := topS 29
abbrev N__law_up : List Str := ["_law_rows", "_law_row"]
theorem sc__law_up : FnScope N__law_up ["_law_rows"] (defScope s__law_up) := ⟨rfl, rfl, rfl, by decide +kernel, rfl, by decide +kernel, by decide +kernel⟩
noncomputable def g__law_up : Es :=
 (sSeq (sRet (eAll (aCons (eL (fLc (iItems (eBor 0)) (gN 1) tYesJ (eEq (eL (fList (aCons (eBor 1) aNil))) (eL (fSort (aCons (eBor 1) aNil)))) [1])) aNil)))
 sNil)
noncomputable def G__law_up : Fn := callS N__law_up.length g__law_up
abbrev s__law_pairs : Stmt := topS 30
abbrev N__law_pairs : List Str := ["_law_width", "_law_found", "_law_second", "_law_first"]
theorem sc__law_pairs : FnScope N__law_pairs ["_law_width"] (defScope s__law_pairs) := ⟨rfl, rfl, rfl, by decide +kernel, rfl, by decide +kernel, by decide +kernel⟩
noncomputable def g__law_pairs : Es :=
 (sSeq (sSetO 1 (fLst aNil))
 (sSeq (sFor (iRg (eC (.int 0)) (eBor 0)) (gN 2) (sSeq (sExt 1 (eL (fLc (iRg (eC (.int 0)) (eBor 2)) (gN 3) tYesJ (eTup (aCons (eVar 3) (aCons (eVar 2) (aCons (eC (.str "up")) aNil)))) [3])))
 sNil))
 (sFrz 1 (sSeq (sRet (eVar 1))
 sNil))))
noncomputable def G__law_pairs : Fn := callS N__law_pairs.length g__law_pairs
abbrev s__law_orders : Stmt := topS 31
abbrev N__law_orders : List Str := ["_law_width", "_law_rows", "_law_lane", "_law_more", "_law_row", "_law_at"]
theorem sc__law_orders : FnScope N__law_orders ["_law_width"] (defScope s__law_orders) := ⟨rfl, rfl, rfl, by decide +kernel, rfl, by decide +kernel, by decide +kernel⟩
noncomputable def g__law_orders : Es :=
 (sSeq (sSet 1 (eL (fLst (aCons (eTup aNil) aNil))))
 (sSeq (sFor (iRg (eC (.int 0)) (eBor 0)) (gN 2) (sSeq (sSetO 3 (fLst aNil))
 (sSeq (sFor (iItems (eVar 1)) (gN 4) (sSeq (sExt 3 (eL (fLc (iRg (eC (.int 0)) (eAdd (eBor 2) (eC (.int 1)))) (gN 5) tYesJ (eAdd (eAdd (eSlT (eBor 4) oNo (oSo (eBor 5))) (eTup (aCons (eVar 2) aNil))) (eSlT (eBor 4) (oSo (eBor 5)) oNo)) [5])))
 sNil))
 (sFrz 3 (sSeq (sSet 1 (eVar 3))
 sNil)))))
 (sSeq (sRet (eVar 1))
 sNil)))
noncomputable def G__law_orders : Fn := callS N__law_orders.length g__law_orders
abbrev s__law_covers : Stmt := topS 32
abbrev N__law_covers : List Str := ["_law_less", "_law_more", "_law_orders_here", "_law_order", "_law_row", "_law_lane"]
theorem sc__law_covers : FnScope N__law_covers ["_law_less", "_law_more", "_law_orders_here"] (defScope s__law_covers) := ⟨rfl, rfl, rfl, by decide +kernel, rfl, by decide +kernel, by decide +kernel⟩
noncomputable def g__law_covers : Es :=
 (sSeq (sIf (eTest (eGt (eLen (aCons (eBor 0) aNil)) (eLen (aCons (eBor 1) aNil)))) (sSeq (sRet (eC (.bl false)))
 sNil) sNil)
 (sSeq (sRet (eAny (aCons (eL (fLc (iItems (eBor 2)) (gN 3) tYesJ (eAll (aCons (eL (fLc (iItems (eBor 0)) (gN 4) tYesJ (eIn (eTuple (aCons (eL (fLc (iItems (eBor 3)) (gN 5) tYesJ (eIx (eBor 4) (eBor 5)) [5])) aNil)) (eBor 1)) [4])) aNil)) [3])) aNil)))
 sNil))
noncomputable def G__law_covers : Fn := callS N__law_covers.length g__law_covers
abbrev s__law_least : Stmt := topS 33
abbrev N__law_least : List Str := ["_law_parts", "_law_rows", "_law_width", "_law_sets", "_law_many", "_law_more", "_law_one", "_law_pair", "_law_late"]
theorem sc__law_least : FnScope N__law_least ["_law_parts"] (defScope s__law_least) := ⟨rfl, rfl, rfl, by decide +kernel, rfl, by decide +kernel, by decide +kernel⟩
noncomputable def g__law_least : Es :=
 (sSeq (sPar2 1 2 (pD (eCall 1 G__law_parted (aCons (eVar 0) aNil)) (pD (eSumB (aCons (eBor 0) aNil)) pNil)))
 (sSeq (sPar2 3 4 (pD (eL (fLst (aCons (eCall 2 G__law_led (aCons (eVar 1) (aCons (eL (fLst aNil)) aNil))) aNil))) (pD (eC (.int 0)) pNil)))
 (sSeq (sWhile (tNotJ (eTest (eAny (aCons (eL (fLc (iItems (eBor 3)) (gN 6) tYesJ (eCall 1 G__law_up (aCons (eVar 6) aNil)) [6])) aNil)))) (sSeq (sSetO 5 (fLst aNil))
 (sSeq (sFor (iItems (eVar 3)) (gN 6) (sSeq (sFor (iItems (eCall 1 G__law_pairs (aCons (eVar 2) aNil))) (gN 7) (sSeq (sSet 8 (eCall 2 G__law_led (aCons (eVar 6) (aCons (eL (fLst (aCons (eVar 7) aNil))) aNil))))
 (sSeq (sIf (tAndJ (eTest (eNe (eBor 8) (eBor 6))) (eTest (eNotIn (eBor 8) (eBor 5)))) (sSeq (sApp 5 (eVar 8))
 sNil) sNil)
 sNil)))
 sNil))
 (sFrz 5 (sSeq (sPar2 3 4 (pD (eVar 5) (pD (eAdd (eBor 4) (eC (.int 1))) pNil)))
 sNil)))))
 (sSeq (sRet (eVar 4))
 sNil))))
noncomputable def G__law_least : Fn := callS N__law_least.length g__law_least
abbrev s__law_right : Stmt := topS 34
abbrev N__law_right : List Str := ["_law_parts", "_law_told", "_law_rows", "_law_width", "_law_pairs_here", "_law_orders_here", "_law_many", "_law_layer", "_law_net", "_law_after", "_law_sets", "_law_one", "_law_pair", "_law_late", "_law_less"]
theorem sc__law_right : FnScope N__law_right ["_law_parts", "_law_told"] (defScope s__law_right) := ⟨rfl, rfl, rfl, by decide +kernel, rfl, by decide +kernel, by decide +kernel⟩
noncomputable def g__law_right : Es :=
 (sSeq (sAsg (eTup (aCons (eCall 1 G__law_parted (aCons (eVar 0) aNil)) (aCons (eSumB (aCons (eBor 0) aNil)) aNil))) (goN (gT 2 (gsCons (gN 2) (gsCons (gN 3) gsNil)))))
 (sSeq (sAsg (eTup (aCons (eCall 1 G__law_pairs (aCons (eVar 3) aNil)) (aCons (eCall 1 G__law_orders (aCons (eVar 3) aNil)) aNil))) (goN (gT 2 (gsCons (gN 4) (gsCons (gN 5) gsNil)))))
 (sSeq (sIf (tOrJ (tNotJ (eTest (eAll (aCons (eL (fLc (iItems (eAttr "LeastNet" "net" (eBor 1))) (gN 11) tYesJ (eIn (eBor 11) (eBor 4)) [11])) aNil)))) (tOrJ (tNotJ (eTest (eCall 1 G__law_up (aCons (eCall 2 G__law_led (aCons (eVar 2) (aCons (eAttr "LeastNet" "net" (eBor 1)) aNil))) aNil)))) (eTest (eNe (eLen (aCons (eAttr "LeastNet" "layers" (eBor 1)) aNil)) (eLen (aCons (eAttr "LeastNet" "net" (eBor 1)) aNil)))))) (sSeq (sRet (eC (.bl false)))
 sNil) sNil)
 (sSeq (sFor (iEnumJ (aCons (eAttr "LeastNet" "layers" (eBor 1)) aNil)) (gT 2 (gsCons (gN 6) (gsCons (gN 7) gsNil))) (sSeq (sFor (iItems (eVar 7)) (gN 8) (sSeq (sIf (tOrJ (eTest (eNe (eLen (aCons (eBor 8) aNil)) (eBor 6))) (tOrJ (tNotJ (eTest (eAll (aCons (eL (fLc (iItems (eBor 8)) (gN 11) tYesJ (eIn (eBor 11) (eBor 4)) [11])) aNil)))) (eTest (eCall 1 G__law_up (aCons (eCall 2 G__law_led (aCons (eVar 2) (aCons (eVar 8) aNil))) aNil))))) (sSeq (sRet (eC (.bl false)))
 sNil) sNil)
 sNil))
 sNil))
 (sSeq (sIf (tAndJ (eTest (eNe (eAttr "LeastNet" "layers" (eBor 1)) (eL (fLst aNil)))) (eTest (eNe (eL (fLc (iItems (eIx (eAttr "LeastNet" "layers" (eBor 1)) (eC (.int 0)))) (gN 8) tYesJ (eL (fList (aCons (eBor 8) aNil))) [8])) (eL (fLst (aCons (eL (fLst aNil)) aNil)))))) (sSeq (sRet (eC (.bl false)))
 sNil) sNil)
 (sSeq (sFor (iZipJ (aCons (eAttr "LeastNet" "layers" (eBor 1)) (aCons (eL (fSl (eAttr "LeastNet" "layers" (eBor 1)) (oSo (eC (.int 1))) oNo)) aNil))) (gT 2 (gsCons (gN 7) (gsCons (gN 9) gsNil))) (sSeq (sSetO 10 (fLc (iItems (eBor 9)) (gN 8) tYesJ (eCall 2 G__law_led (aCons (eVar 2) (aCons (eVar 8) aNil))) [8]))
 (sFrz 10 (sSeq (sFor (iItems (eVar 7)) (gN 8) (sSeq (sSet 11 (eCall 2 G__law_led (aCons (eVar 2) (aCons (eVar 8) aNil))))
 (sSeq (sFor (iItems (eVar 4)) (gN 12) (sSeq (sSet 13 (eCall 2 G__law_led (aCons (eVar 11) (aCons (eL (fLst (aCons (eVar 12) aNil))) aNil))))
 (sSeq (sIf (tAndJ (eTest (eNe (eBor 13) (eBor 11))) (tNotJ (eTest (eAny (aCons (eL (fLc (iItems (eBor 10)) (gN 14) tYesJ (eCall 3 G__law_covers (aCons (eVar 14) (aCons (eVar 13) (aCons (eVar 5) aNil)))) [14])) aNil))))) (sSeq (sRet (eC (.bl false)))
 sNil) sNil)
 sNil)))
 sNil)))
 sNil))))
 (sSeq (sRet (eC (.bl true)))
 sNil)))))))
noncomputable def G__law_right : Fn := callS N__law_right.length g__law_right
abbrev s_law : Stmt := topS 35
abbrev N_law : List Str := ["_law_script", "_law_draw_here", "_law_parts", "_law_found", "_law_layers", "_law_at", "_law_net", "_law_bent", "_law_layer"]
theorem sc_law : FnScope N_law ["_law_script"] (defScope s_law) := ⟨rfl, rfl, rfl, by decide +kernel, rfl, by decide +kernel, by decide +kernel⟩
noncomputable def g_law : Es :=
 (sSeq (sSet 2 (eCall 2 G__law_pick (aCons (eVar 1) (aCons (eL (fLst (aCons (eL (fLst (aCons (eC (.int 1)) aNil))) (aCons (eL (fLst (aCons (eC (.int 2)) aNil))) (aCons (eL (fLst (aCons (eC (.int 1)) (aCons (eC (.int 1)) aNil)))) (aCons (eL (fLst (aCons (eC (.int 3)) aNil))) (aCons (eL (fLst (aCons (eC (.int 1)) (aCons (eC (.int 2)) aNil)))) (aCons (eL (fLst (aCons (eC (.int 2)) (aCons (eC (.int 1)) aNil)))) (aCons (eL (fLst (aCons (eC (.int 1)) (aCons (eC (.int 1)) (aCons (eC (.int 1)) aNil))))) (aCons (eL (fLst (aCons (eC (.int 4)) aNil))) (aCons (eL (fLst (aCons (eC (.int 2)) (aCons (eC (.int 2)) aNil)))) (aCons (eL (fLst (aCons (eC (.int 1)) (aCons (eC (.int 3)) aNil)))) (aCons (eL (fLst (aCons (eC (.int 3)) (aCons (eC (.int 1)) aNil)))) (aCons (eL (fLst (aCons (eC (.int 1)) (aCons (eC (.int 1)) (aCons (eC (.int 2)) aNil))))) (aCons (eL (fLst (aCons (eC (.int 2)) (aCons (eC (.int 1)) (aCons (eC (.int 1)) aNil))))) (aCons (eL (fLst (aCons (eC (.int 1)) (aCons (eC (.int 2)) (aCons (eC (.int 1)) aNil))))) (aCons (eL (fLst (aCons (eC (.int 1)) (aCons (eC (.int 1)) (aCons (eC (.int 1)) (aCons (eC (.int 1)) aNil)))))) aNil))))))))))))))))) aNil))))
 (sSeq (sSet 3 (eCall 1 G_least_net (aCons (eVar 2) aNil)))
 (sSeq (sIf (eTest (eGt (eSumB (aCons (eL (fLc (iItems (eAttr "LeastNet" "layers" (eBor 3))) (gN 8) tYesJ (eLen (aCons (eBor 8) aNil)) [8])) aNil)) (eC (.int 20)))) (sSeq (sRet (eAnd (eEq (eOwnLen "LeastNet" G_LeastNet___len__ (eVar 3)) (eCall 1 G__law_least (aCons (eVar 2) aNil))) (eMeth "LeastNet" "shows" 2 G_LeastNet_shows (eVar 3) (aCons (eVar 2) aNil))))
 sNil) sNil)
 (sSeq (sIf (tOrJ (eTest (eNe (eOwnLen "LeastNet" G_LeastNet___len__ (eVar 3)) (eCall 1 G__law_least (aCons (eVar 2) aNil)))) (tOrJ (eTest (eNe (eLen (aCons (eAttr "LeastNet" "net" (eBor 3)) aNil)) (eOwnLen "LeastNet" G_LeastNet___len__ (eVar 3)))) (tOrJ (tNotJ (eTest (eCall 2 G__law_right (aCons (eVar 2) (aCons (eVar 3) aNil))))) (tNotJ (eTest (eMeth "LeastNet" "shows" 2 G_LeastNet_shows (eVar 3) (aCons (eTuple (aCons (eBor 2) aNil)) aNil))))))) (sSeq (sRet (eC (.bl false)))
 sNil) sNil)
 (sSeq (sIf (eTest (eEq (eAttr "LeastNet" "net" (eBor 3)) (eL (fLst aNil)))) (sSeq (sRet (eAnd (eEq (eAttr "LeastNet" "layers" (eBor 3)) (eL (fLst aNil))) (eAnd (eOwnEq "LeastNet" G_LeastNet___eq__ (eMake "LeastNet" 3 G_LeastNet___init__ (aCons (eL (fLst aNil)) (aCons (eL (fLst aNil)) aNil))) (eBor 3)) (eNot (eMeth "LeastNet" "shows" 2 G_LeastNet_shows (eMake "LeastNet" 3 G_LeastNet___init__ (aCons (eL (fLst aNil)) (aCons (eL (fLst (aCons (eL (fLst (aCons (eL (fLst aNil)) aNil))) aNil))) aNil))) (aCons (eVar 2) aNil))))))
 sNil) sNil)
 (sSeq (sSetO 4 (fLc (iItems (eAttr "LeastNet" "layers" (eBor 3))) (gN 8) tYesJ (eL (fList (aCons (eBor 8) aNil))) [8]))
 (sSeq (sSet 5 (eCall 2 G__law_next (aCons (eVar 1) (aCons (eLen (aCons (eBor 4) aNil)) aNil))))
 (sSeq (sAsg (eIf (eTest (eEq (eCall 2 G__law_next (aCons (eVar 1) (aCons (eC (.int 2)) aNil))) (eC (.int 0)))) (eL (fSl (eIx (eBor 4) (eBor 5)) (oSo (eC (.int 1))) oNo)) (eAdd (eIx (eBor 4) (eBor 5)) (eL (fLst (aCons (eCall 2 G__law_pick (aCons (eVar 1) (aCons (eL (fLst (aCons (eL (fLst aNil)) (aCons (eAttr "LeastNet" "net" (eBor 3)) (aCons (eL (fSl (eAttr "LeastNet" "net" (eBor 3)) oNo (oSo (eBor 5)))) (aCons (eL (fSl (eL (fRev (eAttr "LeastNet" "net" (eBor 3)))) oNo (oSo (eBor 5)))) aNil)))))) aNil))) aNil))))) (goSub 4 (eBor 5)))
 (sSeq (sSet 6 (eCall 2 G__law_pick (aCons (eVar 1) (aCons (eL (fLst (aCons (eAttr "LeastNet" "net" (eBor 3)) (aCons (eL (fRev (eAttr "LeastNet" "net" (eBor 3)))) (aCons (eL (fSl (eAttr "LeastNet" "net" (eBor 3)) oNo (oSo (eNeg (eC (.int 1)))))) (aCons (eAdd (eAttr "LeastNet" "net" (eBor 3)) (eL (fSl (eAttr "LeastNet" "net" (eBor 3)) oNo (oSo (eC (.int 1)))))) aNil)))))) aNil))))
 (sFrz 4 (sSeq (sFor (iItems (eTup (aCons (eCall 2 G__law_pick (aCons (eVar 1) (aCons (eL (fLst (aCons (eMake "LeastNet" 3 G_LeastNet___init__ (aCons (eAttr "LeastNet" "net" (eBor 3)) (aCons (eVar 4) aNil))) (aCons (eMake "LeastNet" 3 G_LeastNet___init__ (aCons (eVar 6) (aCons (eAttr "LeastNet" "layers" (eBor 3)) aNil))) (aCons (eMake "LeastNet" 3 G_LeastNet___init__ (aCons (eVar 6) (aCons (eVar 4) aNil))) aNil))))) aNil))) aNil))) (gN 7) (sSeq (sIf (eTest (eNe (eMeth "LeastNet" "shows" 2 G_LeastNet_shows (eVar 7) (aCons (eVar 2) aNil)) (eCall 2 G__law_right (aCons (eVar 2) (aCons (eVar 7) aNil))))) (sSeq (sRet (eC (.bl false)))
 sNil) sNil)
 sNil))
 (sSeq (sRet (eAnd (eOwnEq "LeastNet" G_LeastNet___eq__ (eMake "LeastNet" 3 G_LeastNet___init__ (aCons (eTuple (aCons (eAttr "LeastNet" "net" (eBor 3)) aNil)) (aCons (eAttr "LeastNet" "layers" (eBor 3)) aNil))) (eBor 3)) (eMeth "LeastNet" "shows" 2 G_LeastNet_shows (eCall 1 G_least_net (aCons (eTuple (aCons (eBor 2) aNil)) aNil)) (aCons (eVar 2) aNil))))
 sNil))))))))))))
structure Txt (K : PySem.W.Frag) (mg : Str → Option Value) : Prop where
  n_all : mg "all" = none
  n_any : mg "any" = none
  n_bool : mg "bool" = none
  n_enumerate : mg "enumerate" = none
  n_int : mg "int" = none
  n_isinstance : mg "isinstance" = none
  n_len : mg "len" = none
  n_list : mg "list" = none
  n_max : mg "max" = none
  n_range : mg "range" = none
  n_set : mg "set" = none
  n_sorted : mg "sorted" = none
  n_sum : mg "sum" = none
  n_tuple : mg "tuple" = none
  n_zip : mg "zip" = none
  x_MOST_LANES : ∃ (v : V) (u : Value), mg "MOST_LANES" = some u ∧ RelV v u ∧ ∀ p F, Den K p F (.int 5) v
  c_LeastNet : Cls K (clsA K "LeastNet")
  m_LeastNet : mg "LeastNet" = some (.ref (clsA K "LeastNet"))
  i_LeastNet : C8.InsC K (clsA K "LeastNet")
  a_LeastNet_layers : NoAttr K (clsA K "LeastNet") "layers"
  a_LeastNet_net : NoAttr K (clsA K "LeastNet") "net"
theorem Txt.e_MOST_LANES {K : PySem.W.Frag} {mg : Str → Option Value} (T : Txt K mg) : ∃ (v : V) (u : Value), mg "MOST_LANES" = some u ∧ RelV v u ∧ ∀ p F, Den K p F (.int 5) v := T.x_MOST_LANES
theorem Txt.m_MOST_LANES {K : PySem.W.Frag} {mg : Str → Option Value} (T : Txt K mg) : mg "MOST_LANES" = some T.e_MOST_LANES.choose_spec.choose := T.e_MOST_LANES.choose_spec.choose_spec.1
theorem Txt.r_MOST_LANES {K : PySem.W.Frag} {mg : Str → Option Value} (T : Txt K mg) : RelV T.e_MOST_LANES.choose T.e_MOST_LANES.choose_spec.choose := T.e_MOST_LANES.choose_spec.choose_spec.2.1
theorem Txt.d_MOST_LANES {K : PySem.W.Frag} {mg : Str → Option Value} (T : Txt K mg) : ∀ p F, Den K p F (.int 5) T.e_MOST_LANES.choose := T.e_MOST_LANES.choose_spec.choose_spec.2.2
section
variable {P : Program} {wd : World} {K : PySem.W.Frag} {mg : Str → Option Value} {base : Heap}
theorem j_is_whole {f : Addr} {fd : FuncData} (T : Txt K mg) (F : Fun K "is_whole" "is_whole" s_is_whole f fd) (hm : mg "is_whole" = some (.ref f)) (b : Binds K fd ["thing"] []) : CalJ P wd K mg base 1 "is_whole" 1 G_is_whole :=
  cal_J (k := 0) (N := N_is_whole) F hm b sc_is_whole fun cdv A outer s H E hr =>
 (jss_cons (js_ret (je_and (je_isi T.n_isinstance rfl (jr_cons (jb_var 0) (jr_cons (JE.toB (je_ty rfl T.n_int PyProof.Rows.boot_int)) jr_nil))) (je_one (je_not (je_isi T.n_isinstance rfl (jr_cons (jb_var 0) (jr_cons (JE.toB (je_ty rfl T.n_bool PyProof.Rows.boot_bool)) jr_nil)))))))
 jss_nil)
theorem j_led_through {f : Addr} {fd : FuncData} (T : Txt K mg) (F : Fun K "led_through" "led_through" s_led_through f fd) (hm : mg "led_through" = some (.ref f)) (b : Binds K fd ["net", "row"] []) : CalJ P wd K mg base 1 "led_through" 2 G_led_through :=
  cal_J (k := 0) (N := N_led_through) F hm b sc_led_through fun cdv A outer s H E hr =>
 (jss_cons (js_setO 2 sc_led_through.nd (jf_list T.n_list rfl (jr_cons (jb_var 1) jr_nil)))
 (jss_cons (js_for PassesOwn.never rfl (ji_seq (je_var 0)) (jg_tup rfl (jgs_cons (jg_name 3 sc_led_through.nd) (jgs_cons (jg_name 4 sc_led_through.nd) (jgs_cons (jg_name 5 sc_led_through.nd) jgs_nil)))) (jss_cons (js_if (JW.t (jw_and (jt_ne hr (JE.toB (je_ix (jb_var 2) (jb_var 3))) (JE.toB (je_ix (jb_var 2) (jb_var 4)))) (jw_and1 (jt_eq hr (JE.toB (je_lt (JE.toB (je_ix (jb_var 2) (jb_var 4))) (JE.toB (je_ix (jb_var 2) (jb_var 3))))) (JE.toB (je_eq hr (jb_var 5) (JE.toB je_str))))))) (jss_cons (js_asg (je_tup (ja_cons (je_ix (jb_var 2) (jb_var 4)) (ja_cons (je_ix (jb_var 2) (jb_var 3)) ja_nil))) (jgo_tup rfl (jgso_cons (jgo_sub 2 (jb_var 3)) (jgso_cons (jgo_sub 2 (jb_var 4)) jgso_nil))))
 jss_nil) jss_nil)
 jss_nil))
 (jss_frz 2 (jss_cons (js_ret (je_var 2))
 jss_nil))))
theorem j_check_parts {f : Addr} {fd : FuncData} (T : Txt K mg) (c_is_whole : CalJ P wd K mg base 1 "is_whole" 1 G_is_whole) (F : Fun K "check_parts" "check_parts" s_check_parts f fd) (hm : mg "check_parts" = some (.ref f)) (b : Binds K fd ["parts"] []) : CalJ P wd K mg base 2 "check_parts" 1 G_check_parts :=
  cal_J (k := 1) (N := N_check_parts) F hm b sc_check_parts fun cdv A outer s H E hr =>
 (jss_cons (js_if (JW.t (jw_or (jt_not (jt_val (je_isi2 T.n_isinstance rfl (jb_var 0) (pe_bltn (v := .ty "list") rfl T.n_list PyProof.Rows.boot_list rfl) (pe_bltn (v := .ty "tuple") rfl T.n_tuple PyProof.Rows.boot_tuple rfl)))) (jw_or1 (jt_not (jt_val (je_all rfl T.n_all rfl (jr_cons (JE.toB (JF.toE (jf_lc (own := [("one", 1)]) rfl sc_check_parts.nd (jib_seq (jb_var 0)) (blkOk_by (own := [("one", 1)]) (N := N_check_parts) (sc := defScope s_check_parts) (by decide +kernel)) (fun _ _ _ _ _ => (jg_name 1 sc_check_parts.nd)) (fun _ _ _ _ _ => jts_nil) (fun _ _ _ _ _ => (je_and (je_call c_is_whole hr (by decide) rfl (ja_cons (je_var 1) ja_nil)) (je_one (je_ge (jb_var 1) (JE.toB je_int)))))))) jr_nil))))))) (jss_cons js_never
 jss_nil) jss_nil)
 (jss_cons (js_if (jt_not (jt_lele (JE.toB je_int) (JE.toB (je_sumB rfl T.n_sum rfl (jr_cons (jb_var 0) jr_nil))) (JE.toB (je_glob rfl T.m_MOST_LANES T.r_MOST_LANES T.d_MOST_LANES)))) (jss_cons js_never
 jss_nil) jss_nil)
 jss_nil))
theorem j_rows_of {f : Addr} {fd : FuncData} (T : Txt K mg) (F : Fun K "rows_of" "rows_of" s_rows_of f fd) (hm : mg "rows_of" = some (.ref f)) (b : Binds K fd ["parts"] []) : CalJ P wd K mg base 1 "rows_of" 1 G_rows_of :=
  cal_J (k := 0) (N := N_rows_of) F hm b sc_rows_of fun cdv A outer s H E hr =>
 (jss_cons (js_set 1 sc_rows_of.nd (JF.toE (jf_lst (ja_cons (je_tup ja_nil) ja_nil))))
 (jss_cons (js_for PassesOwn.never rfl (ji_seq (je_var 0)) (jg_name 2 sc_rows_of.nd) (jss_cons (js_setLc2 (vs1 := [4]) (own := [("row", 3), ("ones", 4)]) 1 rfl sc_rows_of.nd (sw_true rfl rfl rfl (by decide +kernel)) (jib_seq (jb_var 1)) (blkOk_by (own := [("row", 3), ("ones", 4)]) (N := N_rows_of) (sc := defScope s_rows_of) (by decide +kernel)) (fun _ _ _ _ _ => (jg_name 3 sc_rows_of.nd)) (fun _ _ _ _ _ => jts_nil) (fun _ _ _ _ _ => (ji_rg1 rfl T.n_range (JE.toB (je_add (jb_var 2) (JE.toB je_int))))) (fun _ _ _ _ _ => (jg_name 4 sc_rows_of.nd)) (fun _ _ _ _ _ => jts_nil) (fun _ _ _ _ _ => (je_tup (ja_star (jb_var 3) (ja_star (JE.toB (je_mulT (JE.toB (JF.toE (jf_lst (ja_cons je_int ja_nil)))) (JE.toB (je_sub (jb_var 2) (jb_var 4))))) (ja_star (JE.toB (je_mulT (JE.toB (JF.toE (jf_lst (ja_cons je_int ja_nil)))) (jb_var 4))) ja_nil))))) (gok_name 3))
 (jss_frz 1 jss_nil)))
 (jss_cons (js_ret (je_tuple T.n_tuple rfl (jr_cons (JE.toB (JF.toE (jf_sort T.n_sorted rfl (jr_cons (jb_var 1) jr_nil)))) jr_nil)))
 jss_nil)))
theorem j_exchanges_of {f : Addr} {fd : FuncData} (T : Txt K mg) (F : Fun K "exchanges_of" "exchanges_of" s_exchanges_of f fd) (hm : mg "exchanges_of" = some (.ref f)) (b : Binds K fd ["width"] []) : CalJ P wd K mg base 1 "exchanges_of" 1 G_exchanges_of :=
  cal_J (k := 0) (N := N_exchanges_of) F hm b sc_exchanges_of fun cdv A outer s H E hr =>
 (jss_cons (js_ret (JF.toE (jf_lc2 (vs1 := [2]) (own := [("second", 1), ("first", 2)]) rfl sc_exchanges_of.nd (ji_rg1 rfl T.n_range (jb_var 0)) (blkOk_by (own := [("second", 1), ("first", 2)]) (N := N_exchanges_of) (sc := defScope s_exchanges_of) (by decide +kernel)) (fun _ _ _ _ _ => (jg_name 1 sc_exchanges_of.nd)) (fun _ _ _ _ _ => jts_nil) (fun _ _ _ _ _ => (ji_rg1 rfl T.n_range (jb_var 1))) (fun _ _ _ _ _ => (jg_name 2 sc_exchanges_of.nd)) (fun _ _ _ _ _ => jts_nil) (fun _ _ _ _ _ => (je_tup (ja_cons (je_var 2) (ja_cons (je_var 1) (ja_cons je_str ja_nil))))) (gok_name 1))))
 jss_nil)
theorem j_behind {f : Addr} {fd : FuncData} (T : Txt K mg) (c_led_through : CalJ P wd K mg base 1 "led_through" 2 G_led_through) (F : Fun K "behind" "behind" s_behind f fd) (hm : mg "behind" = some (.ref f)) (b : Binds K fd ["rows", "net"] []) : CalJ P wd K mg base 2 "behind" 2 G_behind :=
  cal_J (k := 1) (N := N_behind) F hm b sc_behind fun cdv A outer s H E hr =>
 (jss_cons (js_ret (je_tuple T.n_tuple rfl (jr_cons (JE.toB (JF.toE (jf_sortset rfl hr T.n_sorted T.n_set rfl rfl (JE.toB (JF.toE (jf_lc (own := [("row", 2)]) rfl sc_behind.nd (jib_seq (jb_var 0)) (blkOk_by (own := [("row", 2)]) (N := N_behind) (sc := defScope s_behind) (by decide +kernel)) (fun _ _ _ _ _ => (jg_name 2 sc_behind.nd)) (fun _ _ _ _ _ => jts_nil) (fun _ _ _ _ _ => (je_tuple T.n_tuple rfl (jr_cons (JE.toB (je_call c_led_through hr (by decide) rfl (ja_cons (je_var 1) (ja_cons (je_var 2) ja_nil)))) jr_nil))))))))) jr_nil)))
 jss_nil)
theorem j_are_ascending {f : Addr} {fd : FuncData} (T : Txt K mg) (F : Fun K "are_ascending" "are_ascending" s_are_ascending f fd) (hm : mg "are_ascending" = some (.ref f)) (b : Binds K fd ["rows"] []) : CalJ P wd K mg base 1 "are_ascending" 1 G_are_ascending :=
  cal_J (k := 0) (N := N_are_ascending) F hm b sc_are_ascending fun cdv A outer s H E hr =>
 (jss_cons (js_ret (je_all rfl T.n_all rfl (jr_cons (JE.toB (JF.toE (jf_lc (own := [("row", 1)]) rfl sc_are_ascending.nd (jib_seq (jb_var 0)) (blkOk_by (own := [("row", 1)]) (N := N_are_ascending) (sc := defScope s_are_ascending) (by decide +kernel)) (fun _ _ _ _ _ => (jg_name 1 sc_are_ascending.nd)) (fun _ _ _ _ _ => jts_nil) (fun _ _ _ _ _ => (je_eq hr (JE.toB (JF.toE (jf_list T.n_list rfl (jr_cons (jb_var 1) jr_nil)))) (JE.toB (JF.toE (jf_sort T.n_sorted rfl (jr_cons (jb_var 1) jr_nil))))))))) jr_nil)))
 jss_nil)
theorem j_orders_of {f : Addr} {fd : FuncData} (T : Txt K mg) (F : Fun K "orders_of" "orders_of" s_orders_of f fd) (hm : mg "orders_of" = some (.ref f)) (b : Binds K fd ["width"] []) : CalJ P wd K mg base 1 "orders_of" 1 G_orders_of :=
  cal_J (k := 0) (N := N_orders_of) F hm b sc_orders_of fun cdv A outer s H E hr =>
 (jss_cons (js_set 1 sc_orders_of.nd (JF.toE (jf_lst (ja_cons (je_tup ja_nil) ja_nil))))
 (jss_cons (js_for PassesOwn.never rfl (ji_rg1 rfl T.n_range (jb_var 0)) (jg_name 2 sc_orders_of.nd) (jss_cons (js_setLc2 (vs1 := [4]) (own := [("row", 3), ("at", 4)]) 1 rfl sc_orders_of.nd (sw_true rfl rfl rfl (by decide +kernel)) (jib_seq (jb_var 1)) (blkOk_by (own := [("row", 3), ("at", 4)]) (N := N_orders_of) (sc := defScope s_orders_of) (by decide +kernel)) (fun _ _ _ _ _ => (jg_name 3 sc_orders_of.nd)) (fun _ _ _ _ _ => jts_nil) (fun _ _ _ _ _ => (ji_rg1 rfl T.n_range (JE.toB (je_add (JE.toB (je_len T.n_len rfl (jr_cons (jb_var 3) jr_nil))) (JE.toB je_int))))) (fun _ _ _ _ _ => (jg_name 4 sc_orders_of.nd)) (fun _ _ _ _ _ => jts_nil) (fun _ _ _ _ _ => (je_tup (ja_star (JE.toB (je_sliceT (jb_var 3) jo_no (jo_so (jb_var 4)))) (ja_cons (je_var 2) (ja_star (JE.toB (je_sliceT (jb_var 3) (jo_so (jb_var 4)) jo_no)) ja_nil))))) (gok_name 3))
 (jss_frz 1 jss_nil)))
 (jss_cons (js_ret (je_var 1))
 jss_nil)))
theorem j_counts_of {f : Addr} {fd : FuncData} (T : Txt K mg) (F : Fun K "counts_of" "counts_of" s_counts_of f fd) (hm : mg "counts_of" = some (.ref f)) (b : Binds K fd ["rows"] []) : CalJ P wd K mg base 1 "counts_of" 1 G_counts_of :=
  cal_J (k := 0) (N := N_counts_of) F hm b sc_counts_of fun cdv A outer s H E hr =>
 (jss_cons (js_set 1 sc_counts_of.nd (JF.toE (jf_lc (own := [("row", 2)]) rfl sc_counts_of.nd (jib_seq (jb_var 0)) (blkOk_by (own := [("row", 2)]) (N := N_counts_of) (sc := defScope s_counts_of) (by decide +kernel)) (fun _ _ _ _ _ => (jg_name 2 sc_counts_of.nd)) (fun _ _ _ _ _ => jts_nil) (fun _ _ _ _ _ => (je_sumB rfl T.n_sum rfl (jr_cons (jb_var 2) jr_nil))))))
 (jss_cons (js_ret (JF.toE (jf_lc (own := [("number", 3)]) rfl sc_counts_of.nd (ji_rg1 rfl T.n_range (JE.toB (je_add (JE.toB (je_max rfl T.n_max rfl (jr_cons (jb_var 1) jr_nil))) (JE.toB je_int)))) (blkOk_by (own := [("number", 3)]) (N := N_counts_of) (sc := defScope s_counts_of) (by decide +kernel)) (fun _ _ _ _ _ => (jg_name 3 sc_counts_of.nd)) (fun _ _ _ _ _ => jts_nil) (fun _ _ _ _ _ => (je_count (jb_var 1) (jr_cons (jb_var 3) jr_nil))))))
 jss_nil))
theorem j_covers {f : Addr} {fd : FuncData} (T : Txt K mg) (c_counts_of : CalJ P wd K mg base 1 "counts_of" 1 G_counts_of) (F : Fun K "covers" "covers" s_covers f fd) (hm : mg "covers" = some (.ref f)) (b : Binds K fd ["one", "other", "orders"] []) : CalJ P wd K mg base 2 "covers" 3 G_covers :=
  cal_J (k := 1) (N := N_covers) F hm b sc_covers fun cdv A outer s H E hr =>
 (jss_cons (js_if (JW.t (jw_or (jt_gt (JE.toB (je_len T.n_len rfl (jr_cons (jb_var 0) jr_nil))) (JE.toB (je_len T.n_len rfl (jr_cons (jb_var 1) jr_nil)))) (jw_or1 (jt_val (je_any rfl T.n_any rfl (jr_cons (JE.toB (JF.toE (jf_lc (own := [("mine", 3), ("yours", 4)]) rfl sc_covers.nd (jib_zip rfl T.n_zip (jr_cons (JE.toB (je_call c_counts_of hr (by decide) rfl (ja_cons (je_var 0) ja_nil))) (jr_cons (JE.toB (je_call c_counts_of hr (by decide) rfl (ja_cons (je_var 1) ja_nil))) jr_nil))) (blkOk_by (own := [("mine", 3), ("yours", 4)]) (N := N_covers) (sc := defScope s_covers) (by decide +kernel)) (fun _ _ _ _ _ => (jg_tup rfl (jgs_cons (jg_name 3 sc_covers.nd) (jgs_cons (jg_name 4 sc_covers.nd) jgs_nil)))) (fun _ _ _ _ _ => jts_nil) (fun _ _ _ _ _ => (je_gt (jb_var 3) (jb_var 4)))))) jr_nil)))))) (jss_cons (js_ret je_bl)
 jss_nil) jss_nil)
 (jss_cons (js_ret (je_any rfl T.n_any rfl (jr_cons (JE.toB (JF.toE (jf_lc (own := [("order", 5)]) rfl sc_covers.nd (jib_seq (jb_var 2)) (blkOk_by (own := [("order", 5)]) (N := N_covers) (sc := defScope s_covers) (by decide +kernel)) (fun _ _ _ _ _ => (jg_name 5 sc_covers.nd)) (fun _ _ _ _ _ => jts_nil) (fun _ _ _ _ _ => (je_all rfl T.n_all rfl (jr_cons (JE.toB (JF.toE (jf_lc (own := [("row", 6)]) rfl sc_covers.nd (jib_seq (jb_var 0)) (blkOk_by (own := [("row", 6)]) (N := N_covers) rfl) (fun _ _ _ _ _ => (jg_name 6 sc_covers.nd)) (fun _ _ _ _ _ => jts_nil) (fun _ _ _ _ _ => (je_in hr (JE.toB (je_tuple T.n_tuple rfl (jr_cons (JE.toB (JF.toE (jf_lc (own := [("lane", 7)]) rfl sc_covers.nd (jib_seq (jb_var 5)) (blkOk_by (own := [("lane", 7)]) (N := N_covers) rfl) (fun _ _ _ _ _ => (jg_name 7 sc_covers.nd)) (fun _ _ _ _ _ => jts_nil) (fun _ _ _ _ _ => (je_ix (jb_var 6) (jb_var 7)))))) jr_nil))) (jb_var 1)))))) jr_nil)))))) jr_nil)))
 jss_nil))
theorem j_next_layer {f : Addr} {fd : FuncData} (T : Txt K mg) (c_exchanges_of : CalJ P wd K mg base 1 "exchanges_of" 1 G_exchanges_of) (c_behind : CalJ P wd K mg base 2 "behind" 2 G_behind) (c_covers : CalJ P wd K mg base 2 "covers" 3 G_covers) (F : Fun K "next_layer" "next_layer" s_next_layer f fd) (hm : mg "next_layer" = some (.ref f)) (b : Binds K fd ["layer", "width", "orders"] []) : CalJ P wd K mg base 3 "next_layer" 3 G_next_layer :=
  cal_J (k := 2) (N := N_next_layer) F hm b sc_next_layer fun cdv A outer s H E hr =>
 (jss_cons (js_setO 3 sc_next_layer.nd (jf_lst ja_nil))
 (jss_cons (js_for PassesOwn.never rfl (ji_seq (je_var 0)) (jg_tup rfl (jgs_cons (jg_name 4 sc_next_layer.nd) (jgs_cons (jg_name 5 sc_next_layer.nd) jgs_nil))) (jss_cons (js_for PassesOwn.never rfl (ji_seq (je_call c_exchanges_of hr (by decide) rfl (ja_cons (je_var 1) ja_nil))) (jg_name 6 sc_next_layer.nd) (jss_cons (js_set 7 sc_next_layer.nd (je_call c_behind hr (by decide) rfl (ja_cons (je_var 5) (ja_cons (JF.toE (jf_lst (ja_cons (je_var 6) ja_nil))) ja_nil))))
 (jss_cons (js_if (JW.t (jw_and (jt_ne hr (jb_var 7) (jb_var 5)) (jw_and1 (jt_not (jt_val (je_any rfl T.n_any rfl (jr_cons (JE.toB (JF.toE (jf_lc (own := [("more", 8), ("other", 9)]) rfl sc_next_layer.nd (jib_seq (jb_var 3)) (blkOk_by (own := [("more", 8), ("other", 9)]) (N := N_next_layer) (sc := defScope s_next_layer) (by decide +kernel)) (fun _ _ _ _ _ => (jg_tup rfl (jgs_cons (jg_name 8 sc_next_layer.nd) (jgs_cons (jg_name 9 sc_next_layer.nd) jgs_nil)))) (fun _ _ _ _ _ => jts_nil) (fun _ _ _ _ _ => (je_call c_covers hr (by decide) rfl (ja_cons (je_var 9) (ja_cons (je_var 7) (ja_cons (je_var 2) ja_nil)))))))) jr_nil))))))) (jss_cons (js_setLc (own := [("more", 8), ("other", 9)]) 3 rfl sc_next_layer.nd (sw_true rfl rfl rfl (by decide +kernel)) (jib_seq (jb_var 3)) (blkOk_by (own := [("more", 8), ("other", 9)]) (N := N_next_layer) (sc := defScope s_next_layer) (by decide +kernel)) (fun _ _ _ _ _ => (jg_tup rfl (jgs_cons (jg_name 8 sc_next_layer.nd) (jgs_cons (jg_name 9 sc_next_layer.nd) jgs_nil)))) (fun _ _ _ _ _ => (jts_one (jt_not (jt_val (je_call c_covers hr (by decide) rfl (ja_cons (je_var 7) (ja_cons (je_var 9) (ja_cons (je_var 2) ja_nil)))))))) (fun _ _ _ _ _ => (je_tup (ja_cons (je_var 8) (ja_cons (je_var 9) ja_nil)))))
 (jss_cons (js_app 3 (je_tup (ja_cons (JF.toE (jf_lst (ja_star (jb_var 4) (ja_cons (je_var 6) ja_nil)))) (ja_cons (je_var 7) ja_nil))))
 jss_nil)) jss_nil)
 jss_nil)))
 jss_nil))
 (jss_frz 3 (jss_cons (js_ret (je_var 3))
 jss_nil))))
theorem j_is_covered {f : Addr} {fd : FuncData} (T : Txt K mg) (c_behind : CalJ P wd K mg base 2 "behind" 2 G_behind) (c_covers : CalJ P wd K mg base 2 "covers" 3 G_covers) (F : Fun K "is_covered" "is_covered" s_is_covered f fd) (hm : mg "is_covered" = some (.ref f)) (b : Binds K fd ["one", "other", "exchanges", "orders"] []) : CalJ P wd K mg base 3 "is_covered" 4 G_is_covered :=
  cal_J (k := 2) (N := N_is_covered) F hm b sc_is_covered fun cdv A outer s H E hr =>
 (jss_cons (js_for PassesOwn.never rfl (ji_seq (je_var 0)) (jg_name 4 sc_is_covered.nd) (jss_cons (js_for PassesOwn.never rfl (ji_seq (je_var 2)) (jg_name 5 sc_is_covered.nd) (jss_cons (js_set 6 sc_is_covered.nd (je_call c_behind hr (by decide) rfl (ja_cons (je_var 4) (ja_cons (JF.toE (jf_lst (ja_cons (je_var 5) ja_nil))) ja_nil))))
 (jss_cons (js_if (JW.t (jw_and (jt_ne hr (jb_var 6) (jb_var 4)) (jw_and1 (jt_not (jt_val (je_any rfl T.n_any rfl (jr_cons (JE.toB (JF.toE (jf_lc (own := [("less", 7)]) rfl sc_is_covered.nd (jib_seq (jb_var 1)) (blkOk_by (own := [("less", 7)]) (N := N_is_covered) (sc := defScope s_is_covered) (by decide +kernel)) (fun _ _ _ _ _ => (jg_name 7 sc_is_covered.nd)) (fun _ _ _ _ _ => jts_nil) (fun _ _ _ _ _ => (je_call c_covers hr (by decide) rfl (ja_cons (je_var 7) (ja_cons (je_var 6) (ja_cons (je_var 3) ja_nil)))))))) jr_nil))))))) (jss_cons (js_ret je_bl)
 jss_nil) jss_nil)
 jss_nil)))
 jss_nil))
 (jss_cons (js_ret je_bl)
 jss_nil))
theorem j_LeastNet___init__ {f : Addr} {fd : FuncData} (T : Txt K mg) (F : Fun K "__init__" "LeastNet.__init__" s_LeastNet___init__ f fd) (M : Mk K (clsA K "LeastNet") f) (b : Binds K fd ["self", "net", "layers"] []) : CalI P wd K mg base 1 "LeastNet" 3 G_LeastNet___init__ :=
  ⟨f, fd, _, M, fn_I (k := 0) (N' := ["net", "layers", "layer", "other"]) F sc_LeastNet___init__ fun cdv A outer s H E hr =>
 (jns_attr T.c_LeastNet T.a_LeastNet_net (JF.toE (jf_list T.n_list rfl (jr_cons (jb_var 1) jr_nil)))
 (jns_attr T.c_LeastNet T.a_LeastNet_layers (JF.toE (jf_lc (own := [("layer", 3)]) rfl sc_LeastNet___init__.nd (jib_seq (jb_var 2)) (blkOk_by (own := [("layer", 3)]) (N := N_LeastNet___init__) (sc := defScope s_LeastNet___init__) (by decide +kernel)) (fun _ _ _ _ _ => (jg_name 3 sc_LeastNet___init__.nd)) (fun _ _ _ _ _ => jts_nil) (fun _ _ _ _ _ => (JF.toE (jf_lc (own := [("other", 4)]) rfl sc_LeastNet___init__.nd (jib_seq (jb_var 3)) (blkOk_by (own := [("other", 4)]) (N := N_LeastNet___init__) rfl) (fun _ _ _ _ _ => (jg_name 4 sc_LeastNet___init__.nd)) (fun _ _ _ _ _ => jts_nil) (fun _ _ _ _ _ => (JF.toE (jf_list T.n_list rfl (jr_cons (jb_var 4) jr_nil)))))))))
 jns_nil)), T.m_LeastNet, b⟩
theorem j_LeastNet___eq__ {f : Addr} {fd : FuncData} (T : Txt K mg) (F : Fun K "__eq__" "LeastNet.__eq__" s_LeastNet___eq__ f fd) (me : Meth K (clsA K "LeastNet") "__eq__" f) (b : Binds K fd ["self", "other"] []) : CalO P wd K mg base 1 "LeastNet" "__eq__" 2 G_LeastNet___eq__ :=
  ⟨f, fd, _, T.c_LeastNet, me, fn_J (k := 0) (N := N_LeastNet___eq__) F sc_LeastNet___eq__ fun cdv A outer s H E hr =>
 (jss_cons (js_ret (je_and (je_isC T.i_LeastNet T.n_isinstance T.m_LeastNet rfl rfl (je_var 1)) (je_and (je_eq hr (JE.toB (je_attr T.c_LeastNet T.a_LeastNet_net (jb_var 0))) (JE.toB (je_attr T.c_LeastNet T.a_LeastNet_net (jb_var 1)))) (je_one (je_eq hr (JE.toB (je_attr T.c_LeastNet T.a_LeastNet_layers (jb_var 0))) (JE.toB (je_attr T.c_LeastNet T.a_LeastNet_layers (jb_var 1))))))))
 jss_nil), b⟩
theorem j_LeastNet___len__ {f : Addr} {fd : FuncData} (T : Txt K mg) (F : Fun K "__len__" "LeastNet.__len__" s_LeastNet___len__ f fd) (me : Meth K (clsA K "LeastNet") "__len__" f) (b : Binds K fd ["self"] []) : CalO P wd K mg base 1 "LeastNet" "__len__" 1 G_LeastNet___len__ :=
  ⟨f, fd, _, T.c_LeastNet, me, fn_J (k := 0) (N := N_LeastNet___len__) F sc_LeastNet___len__ fun cdv A outer s H E hr =>
 (jss_cons (js_ret (je_len T.n_len rfl (jr_cons (JE.toB (je_attr T.c_LeastNet T.a_LeastNet_net (jb_var 0))) jr_nil)))
 jss_nil), b⟩
theorem j_LeastNet_shows {f : Addr} {fd : FuncData} (T : Txt K mg) (c_check_parts : CalJ P wd K mg base 2 "check_parts" 1 G_check_parts) (c_rows_of : CalJ P wd K mg base 1 "rows_of" 1 G_rows_of) (c_exchanges_of : CalJ P wd K mg base 1 "exchanges_of" 1 G_exchanges_of) (c_behind : CalJ P wd K mg base 2 "behind" 2 G_behind) (c_are_ascending : CalJ P wd K mg base 1 "are_ascending" 1 G_are_ascending) (c_orders_of : CalJ P wd K mg base 1 "orders_of" 1 G_orders_of) (c_is_covered : CalJ P wd K mg base 3 "is_covered" 4 G_is_covered) (F : Fun K "shows" "LeastNet.shows" s_LeastNet_shows f fd) (me : Meth K (clsA K "LeastNet") "shows" f) (b : Binds K fd ["self", "parts"] []) : CalO P wd K mg base 4 "LeastNet" "shows" 2 G_LeastNet_shows :=
  ⟨f, fd, _, T.c_LeastNet, me, fn_J (k := 3) (N := N_LeastNet_shows) F sc_LeastNet_shows fun cdv A outer s H E hr =>
 (jss_cons (js_expr (je_call c_check_parts hr (by decide) rfl (ja_cons (je_var 1) ja_nil)))
 (jss_cons (js_asg (je_tup (ja_cons (je_call c_rows_of hr (by decide) rfl (ja_cons (je_var 1) ja_nil)) (ja_cons (je_sumB rfl T.n_sum rfl (jr_cons (jb_var 1) jr_nil)) ja_nil))) (jgo_of (jg_tup rfl (jgs_cons (jg_name 2 sc_LeastNet_shows.nd) (jgs_cons (jg_name 3 sc_LeastNet_shows.nd) jgs_nil)))))
 (jss_cons (js_set 4 sc_LeastNet_shows.nd (je_call c_exchanges_of hr (by decide) rfl (ja_cons (je_var 3) ja_nil)))
 (jss_cons (js_if (JW.t (jw_or (jt_not (jt_val (je_all rfl T.n_all rfl (jr_cons (JE.toB (JF.toE (jf_lc (own := [("exchange", 9)]) rfl sc_LeastNet_shows.nd (jib_seq (JE.toB (je_attr T.c_LeastNet T.a_LeastNet_net (jb_var 0)))) (blkOk_by (own := [("exchange", 9)]) (N := N_LeastNet_shows) (sc := defScope s_LeastNet_shows) (by decide +kernel)) (fun _ _ _ _ _ => (jg_name 9 sc_LeastNet_shows.nd)) (fun _ _ _ _ _ => jts_nil) (fun _ _ _ _ _ => (je_in hr (jb_var 9) (jb_var 4)))))) jr_nil)))) (jw_or1 (jt_not (jt_val (je_call c_are_ascending hr (by decide) rfl (ja_cons (je_call c_behind hr (by decide) rfl (ja_cons (je_var 2) (ja_cons (je_attr T.c_LeastNet T.a_LeastNet_net (jb_var 0)) ja_nil))) ja_nil))))))) (jss_cons (js_ret je_bl)
 jss_nil) jss_nil)
 (jss_cons (js_if (jt_ne hr (JE.toB (je_len T.n_len rfl (jr_cons (JE.toB (je_attr T.c_LeastNet T.a_LeastNet_layers (jb_var 0))) jr_nil))) (JE.toB (je_len T.n_len rfl (jr_cons (JE.toB (je_attr T.c_LeastNet T.a_LeastNet_net (jb_var 0))) jr_nil)))) (jss_cons (js_ret je_bl)
 jss_nil) jss_nil)
 (jss_cons (js_setO 5 sc_LeastNet_shows.nd (jf_lst ja_nil))
 (jss_cons (js_for PassesOwn.never rfl (ji_enum rfl T.n_enumerate (ja_cons (je_attr T.c_LeastNet T.a_LeastNet_layers (jb_var 0)) ja_nil)) (jg_tup rfl (jgs_cons (jg_name 6 sc_LeastNet_shows.nd) (jgs_cons (jg_name 7 sc_LeastNet_shows.nd) jgs_nil))) (jss_cons (js_if (jt_not (jt_val (je_all rfl T.n_all rfl (jr_cons (JE.toB (JF.toE (jf_lc (own := [("net", 10)]) rfl sc_LeastNet_shows.nd (jib_seq (jb_var 7)) (blkOk_by (own := [("net", 10)]) (N := N_LeastNet_shows) (sc := defScope s_LeastNet_shows) (by decide +kernel)) (fun _ _ _ _ _ => (jg_name 10 sc_LeastNet_shows.nd)) (fun _ _ _ _ _ => jts_nil) (fun _ _ _ _ _ => (je_and (je_eq hr (JE.toB (je_len T.n_len rfl (jr_cons (jb_var 10) jr_nil))) (jb_var 6)) (je_one (je_all rfl T.n_all rfl (jr_cons (JE.toB (JF.toE (jf_lc (own := [("one", 11)]) rfl sc_LeastNet_shows.nd (jib_seq (jb_var 10)) (blkOk_by (own := [("one", 11)]) (N := N_LeastNet_shows) rfl) (fun _ _ _ _ _ => (jg_name 11 sc_LeastNet_shows.nd)) (fun _ _ _ _ _ => jts_nil) (fun _ _ _ _ _ => (je_in hr (jb_var 11) (jb_var 4)))))) jr_nil)))))))) jr_nil)))) (jss_cons (js_ret je_bl)
 jss_nil) jss_nil)
 (jss_cons (js_app 5 (JF.toE (jf_lc (own := [("net", 10)]) rfl sc_LeastNet_shows.nd (jib_seq (jb_var 7)) (blkOk_by (own := [("net", 10)]) (N := N_LeastNet_shows) (sc := defScope s_LeastNet_shows) (by decide +kernel)) (fun _ _ _ _ _ => (jg_name 10 sc_LeastNet_shows.nd)) (fun _ _ _ _ _ => jts_nil) (fun _ _ _ _ _ => (je_call c_behind hr (by decide) rfl (ja_cons (je_var 2) (ja_cons (je_var 10) ja_nil)))))))
 jss_nil)))
 (jss_cons (js_if (JW.t (jw_and (jt_ne hr (JE.toB (je_attr T.c_LeastNet T.a_LeastNet_layers (jb_var 0))) (JE.toB (JF.toE (jf_lst ja_nil)))) (jw_and1 (jt_ne hr (JE.toB (je_ix (JE.toB (je_attr T.c_LeastNet T.a_LeastNet_layers (jb_var 0))) (JE.toB je_int))) (JE.toB (JF.toE (jf_lst (ja_cons (JF.toE (jf_lst ja_nil)) ja_nil)))))))) (jss_cons (js_ret je_bl)
 jss_nil) jss_nil)
 (jss_cons (js_if (jt_val (je_any rfl T.n_any rfl (jr_cons (JE.toB (JF.toE (jf_lc2 (vs1 := [12]) (own := [("layer", 7), ("late", 12)]) rfl sc_LeastNet_shows.nd (jib_seq (jb_var 5)) (blkOk_by (own := [("layer", 7), ("late", 12)]) (N := N_LeastNet_shows) (sc := defScope s_LeastNet_shows) (by decide +kernel)) (fun _ _ _ _ _ => (jg_name 7 sc_LeastNet_shows.nd)) (fun _ _ _ _ _ => jts_nil) (fun _ _ _ _ _ => (ji_seq (je_var 7))) (fun _ _ _ _ _ => (jg_name 12 sc_LeastNet_shows.nd)) (fun _ _ _ _ _ => jts_nil) (fun _ _ _ _ _ => (je_call c_are_ascending hr (by decide) rfl (ja_cons (je_var 12) ja_nil))) (gok_name 7)))) jr_nil))) (jss_cons (js_ret je_bl)
 jss_nil) jss_nil)
 (jss_cons (js_set 8 sc_LeastNet_shows.nd (je_call c_orders_of hr (by decide) rfl (ja_cons (je_var 3) ja_nil)))
 (jss_cons (js_ret (je_all rfl T.n_all rfl (jr_cons (JE.toB (JF.toE (jf_lc (own := [("one", 11), ("other", 13)]) rfl sc_LeastNet_shows.nd (jib_zip rfl T.n_zip (jr_cons (jb_var 5) (jr_cons (JE.toB (JF.toE (jf_slice (jb_var 5) (jo_so (JE.toB je_int)) jo_no))) jr_nil))) (blkOk_by (own := [("one", 11), ("other", 13)]) (N := N_LeastNet_shows) (sc := defScope s_LeastNet_shows) (by decide +kernel)) (fun _ _ _ _ _ => (jg_tup rfl (jgs_cons (jg_name 11 sc_LeastNet_shows.nd) (jgs_cons (jg_name 13 sc_LeastNet_shows.nd) jgs_nil)))) (fun _ _ _ _ _ => jts_nil) (fun _ _ _ _ _ => (je_call c_is_covered hr (by decide) rfl (ja_cons (je_var 11) (ja_cons (je_var 13) (ja_cons (je_var 4) (ja_cons (je_var 8) ja_nil))))))))) jr_nil)))
 jss_nil))))))))))), b⟩
theorem j_least_net {f : Addr} {fd : FuncData} (T : Txt K mg) (c_check_parts : CalJ P wd K mg base 2 "check_parts" 1 G_check_parts) (c_rows_of : CalJ P wd K mg base 1 "rows_of" 1 G_rows_of) (c_are_ascending : CalJ P wd K mg base 1 "are_ascending" 1 G_are_ascending) (c_orders_of : CalJ P wd K mg base 1 "orders_of" 1 G_orders_of) (c_next_layer : CalJ P wd K mg base 3 "next_layer" 3 G_next_layer) (c_LeastNet___init__ : CalI P wd K mg base 1 "LeastNet" 3 G_LeastNet___init__) (F : Fun K "least_net" "least_net" s_least_net f fd) (hm : mg "least_net" = some (.ref f)) (b : Binds K fd ["parts"] []) : CalJ P wd K mg base 4 "least_net" 1 G_least_net :=
  cal_J (k := 3) (N := N_least_net) F hm b sc_least_net fun cdv A outer s H E hr =>
 (jss_cons (js_expr (je_call c_check_parts hr (by decide) rfl (ja_cons (je_var 0) ja_nil)))
 (jss_cons (js_set 1 sc_least_net.nd (je_sumB rfl T.n_sum rfl (jr_cons (jb_var 0) jr_nil)))
 (jss_cons (js_par3 2 3 4 rfl sc_least_net.nd (jp_d (JF.toE (jf_lst (ja_cons (je_tup (ja_cons (JF.toE (jf_lst ja_nil)) (ja_cons (je_call c_rows_of hr (by decide) rfl (ja_cons (je_var 0) ja_nil)) ja_nil))) ja_nil))) (jp_o (jf_lst ja_nil) (jp_d (je_call c_orders_of hr (by decide) rfl (ja_cons (je_var 1) ja_nil)) jp_nil))))
 (jss_cons (js_while PassesOwn.never (jt_not (jt_val (je_any rfl T.n_any rfl (jr_cons (JE.toB (JF.toE (jf_lc (own := [("net", 5), ("rows", 6)]) rfl sc_least_net.nd (jib_seq (jb_var 2)) (blkOk_by (own := [("net", 5), ("rows", 6)]) (N := N_least_net) (sc := defScope s_least_net) (by decide +kernel)) (fun _ _ _ _ _ => (jg_tup rfl (jgs_cons (jg_name 5 sc_least_net.nd) (jgs_cons (jg_name 6 sc_least_net.nd) jgs_nil)))) (fun _ _ _ _ _ => jts_nil) (fun _ _ _ _ _ => (je_call c_are_ascending hr (by decide) rfl (ja_cons (je_var 6) ja_nil)))))) jr_nil)))) (jss_cons (js_app 3 (JF.toE (jf_lc (own := [("net", 5), ("rows", 6)]) rfl sc_least_net.nd (jib_seq (jb_var 2)) (blkOk_by (own := [("net", 5), ("rows", 6)]) (N := N_least_net) (sc := defScope s_least_net) (by decide +kernel)) (fun _ _ _ _ _ => (jg_tup rfl (jgs_cons (jg_name 5 sc_least_net.nd) (jgs_cons (jg_name 6 sc_least_net.nd) jgs_nil)))) (fun _ _ _ _ _ => jts_nil) (fun _ _ _ _ _ => (je_var 5)))))
 (jss_cons (js_set 2 sc_least_net.nd (je_call c_next_layer hr (by decide) rfl (ja_cons (je_var 2) (ja_cons (je_var 1) (ja_cons (je_var 4) ja_nil)))))
 jss_nil)))
 (jss_frz 3 (jss_cons (js_ret (je_make c_LeastNet___init__ hr (by decide) rfl (ja_cons (je_ix (JE.toB (JF.toE (jf_lc (own := [("net", 5), ("rows", 6)]) rfl sc_least_net.nd (jib_seq (jb_var 2)) (blkOk_by (own := [("net", 5), ("rows", 6)]) (N := N_least_net) (sc := defScope s_least_net) (by decide +kernel)) (fun _ _ _ _ _ => (jg_tup rfl (jgs_cons (jg_name 5 sc_least_net.nd) (jgs_cons (jg_name 6 sc_least_net.nd) jgs_nil)))) (fun _ _ _ _ _ => (jts_one (jt_val (je_call c_are_ascending hr (by decide) rfl (ja_cons (je_var 6) ja_nil))))) (fun _ _ _ _ _ => (je_var 5))))) (JE.toB je_int)) (ja_cons (je_var 3) ja_nil))))
 jss_nil))))))
theorem j__law_cell_at {f : Addr} {fd : FuncData} (T : Txt K mg) (F : Fun K "_law_cell_at" "_law_cell_at" s__law_cell_at f fd) (hm : mg "_law_cell_at" = some (.ref f)) (b : Binds K fd ["_law_script", "_law_k"] []) : CalJ P wd K mg base 1 "_law_cell_at" 2 G__law_cell_at :=
  cal_J (k := 0) (N := N__law_cell_at) F hm b sc__law_cell_at fun cdv A outer s H E hr =>
 (jss_cons (js_if (jt_lt (jb_var 1) (JE.toB (je_len T.n_len rfl (jr_cons (jb_var 0) jr_nil)))) (jss_cons (js_ret (je_ix (jb_var 0) (jb_var 1)))
 jss_nil) jss_nil)
 (jss_cons (js_ret je_int)
 jss_nil))
theorem j__law_draw {f : Addr} {fd : FuncData} (T : Txt K mg) (F : Fun K "_law_draw" "_law_draw" s__law_draw f fd) (hm : mg "_law_draw" = some (.ref f)) (b : Binds K fd ["_law_cell", "_law_k", "_law_bound"] []) : CalJ P wd K mg base 1 "_law_draw" 3 G__law_draw :=
  cal_J (k := 0) (N := N__law_draw) F hm b sc__law_draw fun cdv A outer s H E hr =>
 (jss_cons (js_set 3 sc__law_draw.nd (je_tup (ja_cons je_int (ja_cons je_int (ja_cons je_int (ja_cons je_int (ja_cons je_int (ja_cons je_int (ja_cons je_int (ja_cons je_int (ja_cons je_int (ja_cons je_int (ja_cons je_int (ja_cons je_int (ja_cons je_int (ja_cons je_int (ja_cons je_int (ja_cons je_int ja_nil))))))))))))))))))
 (jss_cons (js_ret (je_mod (JE.toB (je_mod (JE.toB (je_intc T.n_int rfl (jr_cons (JE.toB (je_add (JE.toB (je_mul (jb_var 0) (JE.toB je_int))) (JE.toB (je_mul (jb_var 1) (JE.toB je_int))))) jr_nil))) (JE.toB (je_ix (jb_var 3) (JE.toB (je_mod (JE.toB (je_intc T.n_int rfl (jr_cons (jb_var 1) jr_nil))) (JE.toB je_int))))))) (jb_var 2)))
 jss_nil))
theorem j__law_number {f : Addr} {fd : FuncData} (T : Txt K mg) (c__law_draw : CalJ P wd K mg base 1 "_law_draw" 3 G__law_draw) (F : Fun K "_law_number" "_law_number" s__law_number f fd) (hm : mg "_law_number" = some (.ref f)) (b : Binds K fd ["_law_cell", "_law_k", "_law_bound"] []) : CalJ P wd K mg base 2 "_law_number" 3 G__law_number :=
  cal_J (k := 1) (N := N__law_number) F hm b sc__law_number fun cdv A outer s H E hr =>
 (jss_cons (js_set 3 sc__law_number.nd je_int)
 (jss_cons (js_for PassesOwn.never rfl (ji_rg1 rfl T.n_range (JE.toB (je_mod (JE.toB (je_intc T.n_int rfl (jr_cons (jb_var 1) jr_nil))) (JE.toB je_int)))) (jg_name 4 sc__law_number.nd) (jss_cons (js_set 3 sc__law_number.nd (je_mul (jb_var 3) (JE.toB je_int)))
 jss_nil))
 (jss_cons (js_set 5 sc__law_number.nd (je_div (JE.toB (je_sub (jb_var 0) (JE.toB (je_pow (JE.toB je_int) (JE.toB je_int))))) (jb_var 3)))
 (jss_cons (js_if (jt_gt (jb_var 5) (JE.toB je_int)) (jss_cons (js_ret (je_mod (JE.toB (je_mod (JE.toB (je_intc T.n_int rfl (jr_cons (jb_var 5) jr_nil))) (JE.toB je_int))) (jb_var 2)))
 jss_nil) jss_nil)
 (jss_cons (js_set 6 sc__law_number.nd (je_mod (JE.toB (je_intc T.n_int rfl (jr_cons (jb_var 0) jr_nil))) (JE.toB je_int)))
 (jss_cons (js_ret (je_mod (JE.toB (je_call c__law_draw hr (by decide) rfl (ja_cons (je_mul (JE.toB (je_add (jb_var 6) (JE.toB (je_mul (JE.toB je_int) (jb_var 1))))) (JE.toB (je_add (JE.toB (je_add (jb_var 6) (JE.toB (je_mul (JE.toB je_int) (jb_var 1))))) (JE.toB je_int)))) (ja_cons (je_add (JE.toB (je_mod (JE.toB (je_intc T.n_int rfl (jr_cons (jb_var 1) jr_nil))) (JE.toB je_int))) (JE.toB je_int)) (ja_cons je_int ja_nil))))) (jb_var 2)))
 jss_nil))))))
theorem j__law_next {f : Addr} {fd : FuncData} (T : Txt K mg) (c__law_cell_at : CalJ P wd K mg base 1 "_law_cell_at" 2 G__law_cell_at) (c__law_number : CalJ P wd K mg base 2 "_law_number" 3 G__law_number) (F : Fun K "_law_next" "_law_next" s__law_next f fd) (hm : mg "_law_next" = some (.ref f)) (b : Binds K fd ["_law_draw_here", "_law_bound"] []) : CalJ P wd K mg base 3 "_law_next" 2 G__law_next :=
  cal_J (k := 2) (N := N__law_next) F hm b sc__law_next fun cdv A outer s H E hr =>
 (jss_cons (js_asg (je_add (JE.toB (je_drix (je_var 0) je_int)) (JE.toB je_int)) (jgo_dr (je_var 0) je_int))
 (jss_cons (js_set 2 sc__law_next.nd (je_div (JE.toB (je_drix (je_var 0) je_int)) (JE.toB je_int)))
 (jss_cons (js_set 3 sc__law_next.nd (je_add (JE.toB (je_call c__law_cell_at hr (by decide) rfl (ja_cons (je_drix (je_var 0) je_int) (ja_cons (je_add (JE.toB (je_drix (je_var 0) je_int)) (jb_var 2)) ja_nil)))) (JE.toB (je_mul (JE.toB je_int) (jb_var 2)))))
 (jss_cons (js_ret (je_call c__law_number hr (by decide) rfl (ja_cons (je_var 3) (ja_cons (je_add (JE.toB (je_mod (JE.toB (je_intc T.n_int rfl (jr_cons (JE.toB (je_drix (je_var 0) je_int)) jr_nil))) (JE.toB je_int))) (JE.toB je_int)) (ja_cons (je_var 1) ja_nil)))))
 jss_nil))))
theorem j__law_pick {f : Addr} {fd : FuncData} (T : Txt K mg) (c__law_next : CalJ P wd K mg base 3 "_law_next" 2 G__law_next) (F : Fun K "_law_pick" "_law_pick" s__law_pick f fd) (hm : mg "_law_pick" = some (.ref f)) (b : Binds K fd ["_law_draw_here", "_law_things"] []) : CalJ P wd K mg base 4 "_law_pick" 2 G__law_pick :=
  cal_J (k := 3) (N := N__law_pick) F hm b sc__law_pick fun cdv A outer s H E hr =>
 (jss_cons (js_ret (je_ix (jb_var 1) (JE.toB (je_call c__law_next hr (by decide) rfl (ja_cons (je_var 0) (ja_cons (je_len T.n_len rfl (jr_cons (jb_var 1) jr_nil)) ja_nil))))))
 jss_nil)
theorem j__law_parted {f : Addr} {fd : FuncData} (T : Txt K mg) (F : Fun K "_law_parted" "_law_parted" s__law_parted f fd) (hm : mg "_law_parted" = some (.ref f)) (b : Binds K fd ["_law_parts"] []) : CalJ P wd K mg base 1 "_law_parted" 1 G__law_parted :=
  cal_J (k := 0) (N := N__law_parted) F hm b sc__law_parted fun cdv A outer s H E hr =>
 (jss_cons (js_set 1 sc__law_parted.nd (JF.toE (jf_lst (ja_cons (je_tup ja_nil) ja_nil))))
 (jss_cons (js_for PassesOwn.never rfl (ji_seq (je_var 0)) (jg_name 2 sc__law_parted.nd) (jss_cons (js_setO 3 sc__law_parted.nd (jf_lst ja_nil))
 (jss_cons (js_for PassesOwn.never rfl (ji_seq (je_var 1)) (jg_name 4 sc__law_parted.nd) (jss_cons (js_ext 3 (JF.toE (jf_lc (own := [("_law_ones", 5)]) rfl sc__law_parted.nd (ji_rg1 rfl T.n_range (JE.toB (je_add (jb_var 2) (JE.toB je_int)))) (blkOk_by (own := [("_law_ones", 5)]) (N := N__law_parted) (sc := defScope s__law_parted) (by decide +kernel)) (fun _ _ _ _ _ => (jg_name 5 sc__law_parted.nd)) (fun _ _ _ _ _ => jts_nil) (fun _ _ _ _ _ => (je_add (JE.toB (je_add (jb_var 4) (JE.toB (je_mulT (JE.toB (je_tup (ja_cons je_int ja_nil))) (JE.toB (je_sub (jb_var 2) (jb_var 5))))))) (JE.toB (je_mulT (JE.toB (je_tup (ja_cons je_int ja_nil))) (jb_var 5))))))))
 jss_nil))
 (jss_frz 3 (jss_cons (js_set 1 sc__law_parted.nd (je_var 3))
 jss_nil)))))
 (jss_cons (js_ret (je_var 1))
 jss_nil)))
theorem j__law_led {f : Addr} {fd : FuncData} (T : Txt K mg) (F : Fun K "_law_led" "_law_led" s__law_led f fd) (hm : mg "_law_led" = some (.ref f)) (b : Binds K fd ["_law_rows", "_law_net"] []) : CalJ P wd K mg base 1 "_law_led" 2 G__law_led :=
  cal_J (k := 0) (N := N__law_led) F hm b sc__law_led fun cdv A outer s H E hr =>
 (jss_cons (js_setO 2 sc__law_led.nd (jf_lst ja_nil))
 (jss_cons (js_for PassesOwn.never rfl (ji_seq (je_var 0)) (jg_name 3 sc__law_led.nd) (jss_cons (js_setO 4 sc__law_led.nd (jf_list T.n_list rfl (jr_cons (jb_var 3) jr_nil)))
 (jss_cons (js_for PassesOwn.never rfl (ji_seq (je_var 1)) (jg_tup rfl (jgs_cons (jg_name 5 sc__law_led.nd) (jgs_cons (jg_name 6 sc__law_led.nd) (jgs_cons (jg_name 7 sc__law_led.nd) jgs_nil)))) (jss_cons (js_if (jt_gt (JE.toB (je_ix (jb_var 4) (jb_var 5))) (JE.toB (je_ix (jb_var 4) (jb_var 6)))) (jss_cons (js_asg (je_tup (ja_cons (je_ix (jb_var 4) (jb_var 6)) (ja_cons (je_ix (jb_var 4) (jb_var 5)) ja_nil))) (jgo_tup rfl (jgso_cons (jgo_sub 4 (jb_var 5)) (jgso_cons (jgo_sub 4 (jb_var 6)) jgso_nil))))
 jss_nil) jss_nil)
 jss_nil))
 (jss_cons (js_app 2 (je_tuple T.n_tuple rfl (jr_cons (jb_var 4) jr_nil)))
 jss_nil))))
 (jss_cons (js_ret (JF.toE (jf_sortset rfl hr T.n_sorted T.n_set rfl rfl (jb_var 2))))
 jss_nil)))
theorem j__law_up {f : Addr} {fd : FuncData} (T : Txt K mg) (F : Fun K "_law_up" "_law_up" s__law_up f fd) (hm : mg "_law_up" = some (.ref f)) (b : Binds K fd ["_law_rows"] []) : CalJ P wd K mg base 1 "_law_up" 1 G__law_up :=
  cal_J (k := 0) (N := N__law_up) F hm b sc__law_up fun cdv A outer s H E hr =>
 (jss_cons (js_ret (je_all rfl T.n_all rfl (jr_cons (JE.toB (JF.toE (jf_lc (own := [("_law_row", 1)]) rfl sc__law_up.nd (jib_seq (jb_var 0)) (blkOk_by (own := [("_law_row", 1)]) (N := N__law_up) (sc := defScope s__law_up) (by decide +kernel)) (fun _ _ _ _ _ => (jg_name 1 sc__law_up.nd)) (fun _ _ _ _ _ => jts_nil) (fun _ _ _ _ _ => (je_eq hr (JE.toB (JF.toE (jf_list T.n_list rfl (jr_cons (jb_var 1) jr_nil)))) (JE.toB (JF.toE (jf_sort T.n_sorted rfl (jr_cons (jb_var 1) jr_nil))))))))) jr_nil)))
 jss_nil)
theorem j__law_pairs {f : Addr} {fd : FuncData} (T : Txt K mg) (F : Fun K "_law_pairs" "_law_pairs" s__law_pairs f fd) (hm : mg "_law_pairs" = some (.ref f)) (b : Binds K fd ["_law_width"] []) : CalJ P wd K mg base 1 "_law_pairs" 1 G__law_pairs :=
  cal_J (k := 0) (N := N__law_pairs) F hm b sc__law_pairs fun cdv A outer s H E hr =>
 (jss_cons (js_setO 1 sc__law_pairs.nd (jf_lst ja_nil))
 (jss_cons (js_for PassesOwn.never rfl (ji_rg1 rfl T.n_range (jb_var 0)) (jg_name 2 sc__law_pairs.nd) (jss_cons (js_ext 1 (JF.toE (jf_lc (own := [("_law_first", 3)]) rfl sc__law_pairs.nd (ji_rg1 rfl T.n_range (jb_var 2)) (blkOk_by (own := [("_law_first", 3)]) (N := N__law_pairs) (sc := defScope s__law_pairs) (by decide +kernel)) (fun _ _ _ _ _ => (jg_name 3 sc__law_pairs.nd)) (fun _ _ _ _ _ => jts_nil) (fun _ _ _ _ _ => (je_tup (ja_cons (je_var 3) (ja_cons (je_var 2) (ja_cons je_str ja_nil))))))))
 jss_nil))
 (jss_frz 1 (jss_cons (js_ret (je_var 1))
 jss_nil))))
theorem j__law_orders {f : Addr} {fd : FuncData} (T : Txt K mg) (F : Fun K "_law_orders" "_law_orders" s__law_orders f fd) (hm : mg "_law_orders" = some (.ref f)) (b : Binds K fd ["_law_width"] []) : CalJ P wd K mg base 1 "_law_orders" 1 G__law_orders :=
  cal_J (k := 0) (N := N__law_orders) F hm b sc__law_orders fun cdv A outer s H E hr =>
 (jss_cons (js_set 1 sc__law_orders.nd (JF.toE (jf_lst (ja_cons (je_tup ja_nil) ja_nil))))
 (jss_cons (js_for PassesOwn.never rfl (ji_rg1 rfl T.n_range (jb_var 0)) (jg_name 2 sc__law_orders.nd) (jss_cons (js_setO 3 sc__law_orders.nd (jf_lst ja_nil))
 (jss_cons (js_for PassesOwn.never rfl (ji_seq (je_var 1)) (jg_name 4 sc__law_orders.nd) (jss_cons (js_ext 3 (JF.toE (jf_lc (own := [("_law_at", 5)]) rfl sc__law_orders.nd (ji_rg1 rfl T.n_range (JE.toB (je_add (jb_var 2) (JE.toB je_int)))) (blkOk_by (own := [("_law_at", 5)]) (N := N__law_orders) (sc := defScope s__law_orders) (by decide +kernel)) (fun _ _ _ _ _ => (jg_name 5 sc__law_orders.nd)) (fun _ _ _ _ _ => jts_nil) (fun _ _ _ _ _ => (je_add (JE.toB (je_add (JE.toB (je_sliceT (jb_var 4) jo_no (jo_so (jb_var 5)))) (JE.toB (je_tup (ja_cons (je_var 2) ja_nil))))) (JE.toB (je_sliceT (jb_var 4) (jo_so (jb_var 5)) jo_no)))))))
 jss_nil))
 (jss_frz 3 (jss_cons (js_set 1 sc__law_orders.nd (je_var 3))
 jss_nil)))))
 (jss_cons (js_ret (je_var 1))
 jss_nil)))
theorem j__law_covers {f : Addr} {fd : FuncData} (T : Txt K mg) (F : Fun K "_law_covers" "_law_covers" s__law_covers f fd) (hm : mg "_law_covers" = some (.ref f)) (b : Binds K fd ["_law_less", "_law_more", "_law_orders_here"] []) : CalJ P wd K mg base 1 "_law_covers" 3 G__law_covers :=
  cal_J (k := 0) (N := N__law_covers) F hm b sc__law_covers fun cdv A outer s H E hr =>
 (jss_cons (js_if (jt_gt (JE.toB (je_len T.n_len rfl (jr_cons (jb_var 0) jr_nil))) (JE.toB (je_len T.n_len rfl (jr_cons (jb_var 1) jr_nil)))) (jss_cons (js_ret je_bl)
 jss_nil) jss_nil)
 (jss_cons (js_ret (je_any rfl T.n_any rfl (jr_cons (JE.toB (JF.toE (jf_lc (own := [("_law_order", 3)]) rfl sc__law_covers.nd (jib_seq (jb_var 2)) (blkOk_by (own := [("_law_order", 3)]) (N := N__law_covers) (sc := defScope s__law_covers) (by decide +kernel)) (fun _ _ _ _ _ => (jg_name 3 sc__law_covers.nd)) (fun _ _ _ _ _ => jts_nil) (fun _ _ _ _ _ => (je_all rfl T.n_all rfl (jr_cons (JE.toB (JF.toE (jf_lc (own := [("_law_row", 4)]) rfl sc__law_covers.nd (jib_seq (jb_var 0)) (blkOk_by (own := [("_law_row", 4)]) (N := N__law_covers) rfl) (fun _ _ _ _ _ => (jg_name 4 sc__law_covers.nd)) (fun _ _ _ _ _ => jts_nil) (fun _ _ _ _ _ => (je_in hr (JE.toB (je_tuple T.n_tuple rfl (jr_cons (JE.toB (JF.toE (jf_lc (own := [("_law_lane", 5)]) rfl sc__law_covers.nd (jib_seq (jb_var 3)) (blkOk_by (own := [("_law_lane", 5)]) (N := N__law_covers) rfl) (fun _ _ _ _ _ => (jg_name 5 sc__law_covers.nd)) (fun _ _ _ _ _ => jts_nil) (fun _ _ _ _ _ => (je_ix (jb_var 4) (jb_var 5)))))) jr_nil))) (jb_var 1)))))) jr_nil)))))) jr_nil)))
 jss_nil))
theorem j__law_least {f : Addr} {fd : FuncData} (T : Txt K mg) (c__law_parted : CalJ P wd K mg base 1 "_law_parted" 1 G__law_parted) (c__law_led : CalJ P wd K mg base 1 "_law_led" 2 G__law_led) (c__law_up : CalJ P wd K mg base 1 "_law_up" 1 G__law_up) (c__law_pairs : CalJ P wd K mg base 1 "_law_pairs" 1 G__law_pairs) (F : Fun K "_law_least" "_law_least" s__law_least f fd) (hm : mg "_law_least" = some (.ref f)) (b : Binds K fd ["_law_parts"] []) : CalJ P wd K mg base 2 "_law_least" 1 G__law_least :=
  cal_J (k := 1) (N := N__law_least) F hm b sc__law_least fun cdv A outer s H E hr =>
 (jss_cons (js_par2 1 2 rfl sc__law_least.nd (jp_d (je_call c__law_parted hr (by decide) rfl (ja_cons (je_var 0) ja_nil)) (jp_d (je_sumB rfl T.n_sum rfl (jr_cons (jb_var 0) jr_nil)) jp_nil)))
 (jss_cons (js_par2 3 4 rfl sc__law_least.nd (jp_d (JF.toE (jf_lst (ja_cons (je_call c__law_led hr (by decide) rfl (ja_cons (je_var 1) (ja_cons (JF.toE (jf_lst ja_nil)) ja_nil))) ja_nil))) (jp_d je_int jp_nil)))
 (jss_cons (js_while PassesOwn.never (jt_not (jt_val (je_any rfl T.n_any rfl (jr_cons (JE.toB (JF.toE (jf_lc (own := [("_law_one", 6)]) rfl sc__law_least.nd (jib_seq (jb_var 3)) (blkOk_by (own := [("_law_one", 6)]) (N := N__law_least) (sc := defScope s__law_least) (by decide +kernel)) (fun _ _ _ _ _ => (jg_name 6 sc__law_least.nd)) (fun _ _ _ _ _ => jts_nil) (fun _ _ _ _ _ => (je_call c__law_up hr (by decide) rfl (ja_cons (je_var 6) ja_nil)))))) jr_nil)))) (jss_cons (js_setO 5 sc__law_least.nd (jf_lst ja_nil))
 (jss_cons (js_for PassesOwn.never rfl (ji_seq (je_var 3)) (jg_name 6 sc__law_least.nd) (jss_cons (js_for PassesOwn.never rfl (ji_seq (je_call c__law_pairs hr (by decide) rfl (ja_cons (je_var 2) ja_nil))) (jg_name 7 sc__law_least.nd) (jss_cons (js_set 8 sc__law_least.nd (je_call c__law_led hr (by decide) rfl (ja_cons (je_var 6) (ja_cons (JF.toE (jf_lst (ja_cons (je_var 7) ja_nil))) ja_nil))))
 (jss_cons (js_if (JW.t (jw_and (jt_ne hr (jb_var 8) (jb_var 6)) (jw_and1 (jt_notin hr (jb_var 8) (jb_var 5))))) (jss_cons (js_app 5 (je_var 8))
 jss_nil) jss_nil)
 jss_nil)))
 jss_nil))
 (jss_frz 5 (jss_cons (js_par2 3 4 rfl sc__law_least.nd (jp_d (je_var 5) (jp_d (je_add (jb_var 4) (JE.toB je_int)) jp_nil)))
 jss_nil)))))
 (jss_cons (js_ret (je_var 4))
 jss_nil))))
theorem j__law_right {f : Addr} {fd : FuncData} (T : Txt K mg) (c__law_parted : CalJ P wd K mg base 1 "_law_parted" 1 G__law_parted) (c__law_led : CalJ P wd K mg base 1 "_law_led" 2 G__law_led) (c__law_up : CalJ P wd K mg base 1 "_law_up" 1 G__law_up) (c__law_pairs : CalJ P wd K mg base 1 "_law_pairs" 1 G__law_pairs) (c__law_orders : CalJ P wd K mg base 1 "_law_orders" 1 G__law_orders) (c__law_covers : CalJ P wd K mg base 1 "_law_covers" 3 G__law_covers) (F : Fun K "_law_right" "_law_right" s__law_right f fd) (hm : mg "_law_right" = some (.ref f)) (b : Binds K fd ["_law_parts", "_law_told"] []) : CalJ P wd K mg base 2 "_law_right" 2 G__law_right :=
  cal_J (k := 1) (N := N__law_right) F hm b sc__law_right fun cdv A outer s H E hr =>
 (jss_cons (js_asg (je_tup (ja_cons (je_call c__law_parted hr (by decide) rfl (ja_cons (je_var 0) ja_nil)) (ja_cons (je_sumB rfl T.n_sum rfl (jr_cons (jb_var 0) jr_nil)) ja_nil))) (jgo_of (jg_tup rfl (jgs_cons (jg_name 2 sc__law_right.nd) (jgs_cons (jg_name 3 sc__law_right.nd) jgs_nil)))))
 (jss_cons (js_asg (je_tup (ja_cons (je_call c__law_pairs hr (by decide) rfl (ja_cons (je_var 3) ja_nil)) (ja_cons (je_call c__law_orders hr (by decide) rfl (ja_cons (je_var 3) ja_nil)) ja_nil))) (jgo_of (jg_tup rfl (jgs_cons (jg_name 4 sc__law_right.nd) (jgs_cons (jg_name 5 sc__law_right.nd) jgs_nil)))))
 (jss_cons (js_if (JW.t (jw_or (jt_not (jt_val (je_all rfl T.n_all rfl (jr_cons (JE.toB (JF.toE (jf_lc (own := [("_law_one", 11)]) rfl sc__law_right.nd (jib_seq (JE.toB (je_attr T.c_LeastNet T.a_LeastNet_net (jb_var 1)))) (blkOk_by (own := [("_law_one", 11)]) (N := N__law_right) (sc := defScope s__law_right) (by decide +kernel)) (fun _ _ _ _ _ => (jg_name 11 sc__law_right.nd)) (fun _ _ _ _ _ => jts_nil) (fun _ _ _ _ _ => (je_in hr (jb_var 11) (jb_var 4)))))) jr_nil)))) (jw_or (jt_not (jt_val (je_call c__law_up hr (by decide) rfl (ja_cons (je_call c__law_led hr (by decide) rfl (ja_cons (je_var 2) (ja_cons (je_attr T.c_LeastNet T.a_LeastNet_net (jb_var 1)) ja_nil))) ja_nil)))) (jw_or1 (jt_ne hr (JE.toB (je_len T.n_len rfl (jr_cons (JE.toB (je_attr T.c_LeastNet T.a_LeastNet_layers (jb_var 1))) jr_nil))) (JE.toB (je_len T.n_len rfl (jr_cons (JE.toB (je_attr T.c_LeastNet T.a_LeastNet_net (jb_var 1))) jr_nil)))))))) (jss_cons (js_ret je_bl)
 jss_nil) jss_nil)
 (jss_cons (js_for PassesOwn.never rfl (ji_enum rfl T.n_enumerate (ja_cons (je_attr T.c_LeastNet T.a_LeastNet_layers (jb_var 1)) ja_nil)) (jg_tup rfl (jgs_cons (jg_name 6 sc__law_right.nd) (jgs_cons (jg_name 7 sc__law_right.nd) jgs_nil))) (jss_cons (js_for PassesOwn.never rfl (ji_seq (je_var 7)) (jg_name 8 sc__law_right.nd) (jss_cons (js_if (JW.t (jw_or (jt_ne hr (JE.toB (je_len T.n_len rfl (jr_cons (jb_var 8) jr_nil))) (jb_var 6)) (jw_or (jt_not (jt_val (je_all rfl T.n_all rfl (jr_cons (JE.toB (JF.toE (jf_lc (own := [("_law_one", 11)]) rfl sc__law_right.nd (jib_seq (jb_var 8)) (blkOk_by (own := [("_law_one", 11)]) (N := N__law_right) (sc := defScope s__law_right) (by decide +kernel)) (fun _ _ _ _ _ => (jg_name 11 sc__law_right.nd)) (fun _ _ _ _ _ => jts_nil) (fun _ _ _ _ _ => (je_in hr (jb_var 11) (jb_var 4)))))) jr_nil)))) (jw_or1 (jt_val (je_call c__law_up hr (by decide) rfl (ja_cons (je_call c__law_led hr (by decide) rfl (ja_cons (je_var 2) (ja_cons (je_var 8) ja_nil))) ja_nil))))))) (jss_cons (js_ret je_bl)
 jss_nil) jss_nil)
 jss_nil))
 jss_nil))
 (jss_cons (js_if (JW.t (jw_and (jt_ne hr (JE.toB (je_attr T.c_LeastNet T.a_LeastNet_layers (jb_var 1))) (JE.toB (JF.toE (jf_lst ja_nil)))) (jw_and1 (jt_ne hr (JE.toB (JF.toE (jf_lc (own := [("_law_net", 8)]) rfl sc__law_right.nd (jib_seq (JE.toB (je_ix (JE.toB (je_attr T.c_LeastNet T.a_LeastNet_layers (jb_var 1))) (JE.toB je_int)))) (blkOk_by (own := [("_law_net", 8)]) (N := N__law_right) (sc := defScope s__law_right) (by decide +kernel)) (fun _ _ _ _ _ => (jg_name 8 sc__law_right.nd)) (fun _ _ _ _ _ => jts_nil) (fun _ _ _ _ _ => (JF.toE (jf_list T.n_list rfl (jr_cons (jb_var 8) jr_nil))))))) (JE.toB (JF.toE (jf_lst (ja_cons (JF.toE (jf_lst ja_nil)) ja_nil)))))))) (jss_cons (js_ret je_bl)
 jss_nil) jss_nil)
 (jss_cons (js_for PassesOwn.never rfl (ji_zip rfl T.n_zip (ja_cons (je_attr T.c_LeastNet T.a_LeastNet_layers (jb_var 1)) (ja_cons (JF.toE (jf_slice (JE.toB (je_attr T.c_LeastNet T.a_LeastNet_layers (jb_var 1))) (jo_so (JE.toB je_int)) jo_no)) ja_nil))) (jg_tup rfl (jgs_cons (jg_name 7 sc__law_right.nd) (jgs_cons (jg_name 9 sc__law_right.nd) jgs_nil))) (jss_cons (js_setLc (own := [("_law_net", 8)]) 10 rfl sc__law_right.nd (sw_true rfl rfl rfl (by decide +kernel)) (jib_seq (jb_var 9)) (blkOk_by (own := [("_law_net", 8)]) (N := N__law_right) (sc := defScope s__law_right) (by decide +kernel)) (fun _ _ _ _ _ => (jg_name 8 sc__law_right.nd)) (fun _ _ _ _ _ => jts_nil) (fun _ _ _ _ _ => (je_call c__law_led hr (by decide) rfl (ja_cons (je_var 2) (ja_cons (je_var 8) ja_nil)))))
 (jss_frz 10 (jss_cons (js_for PassesOwn.never rfl (ji_seq (je_var 7)) (jg_name 8 sc__law_right.nd) (jss_cons (js_set 11 sc__law_right.nd (je_call c__law_led hr (by decide) rfl (ja_cons (je_var 2) (ja_cons (je_var 8) ja_nil))))
 (jss_cons (js_for PassesOwn.never rfl (ji_seq (je_var 4)) (jg_name 12 sc__law_right.nd) (jss_cons (js_set 13 sc__law_right.nd (je_call c__law_led hr (by decide) rfl (ja_cons (je_var 11) (ja_cons (JF.toE (jf_lst (ja_cons (je_var 12) ja_nil))) ja_nil))))
 (jss_cons (js_if (JW.t (jw_and (jt_ne hr (jb_var 13) (jb_var 11)) (jw_and1 (jt_not (jt_val (je_any rfl T.n_any rfl (jr_cons (JE.toB (JF.toE (jf_lc (own := [("_law_less", 14)]) rfl sc__law_right.nd (jib_seq (jb_var 10)) (blkOk_by (own := [("_law_less", 14)]) (N := N__law_right) (sc := defScope s__law_right) (by decide +kernel)) (fun _ _ _ _ _ => (jg_name 14 sc__law_right.nd)) (fun _ _ _ _ _ => jts_nil) (fun _ _ _ _ _ => (je_call c__law_covers hr (by decide) rfl (ja_cons (je_var 14) (ja_cons (je_var 13) (ja_cons (je_var 5) ja_nil)))))))) jr_nil))))))) (jss_cons (js_ret je_bl)
 jss_nil) jss_nil)
 jss_nil)))
 jss_nil)))
 jss_nil))))
 (jss_cons (js_ret je_bl)
 jss_nil)))))))
theorem j_law_body (T : Txt K mg) (c_LeastNet___init__ : CalI P wd K mg base 1 "LeastNet" 3 G_LeastNet___init__) (c_LeastNet___eq__ : CalO P wd K mg base 1 "LeastNet" "__eq__" 2 G_LeastNet___eq__) (c_LeastNet___len__ : CalO P wd K mg base 1 "LeastNet" "__len__" 1 G_LeastNet___len__) (c_LeastNet_shows : CalO P wd K mg base 4 "LeastNet" "shows" 2 G_LeastNet_shows) (c_least_net : CalJ P wd K mg base 4 "least_net" 1 G_least_net) (c__law_next : CalJ P wd K mg base 3 "_law_next" 2 G__law_next) (c__law_pick : CalJ P wd K mg base 4 "_law_pick" 2 G__law_pick) (c__law_least : CalJ P wd K mg base 2 "_law_least" 1 G__law_least) (c__law_right : CalJ P wd K mg base 2 "_law_right" 2 G__law_right) (cdv : Value) (A : Around) (outer : List Env) (s : Shared) (H : Hp) (E : XK) {f : Addr} (hr : Room 4 (A.deeper (envOfC "law" (defScope s_law) s.heap.objs.size f cdv))) : JSs (cxOf CX0 P wd K mg base N_law "law" (defScope s_law) f cdv A outer s H E).nox ((defBody s_law).drop 1) g_law :=
 (jss_cons (js_set 2 sc_law.nd (je_call c__law_pick hr (by decide) rfl (ja_cons (je_var 1) (ja_cons (JF.toE (jf_lst (ja_cons (JF.toE (jf_lst (ja_cons je_int ja_nil))) (ja_cons (JF.toE (jf_lst (ja_cons je_int ja_nil))) (ja_cons (JF.toE (jf_lst (ja_cons je_int (ja_cons je_int ja_nil)))) (ja_cons (JF.toE (jf_lst (ja_cons je_int ja_nil))) (ja_cons (JF.toE (jf_lst (ja_cons je_int (ja_cons je_int ja_nil)))) (ja_cons (JF.toE (jf_lst (ja_cons je_int (ja_cons je_int ja_nil)))) (ja_cons (JF.toE (jf_lst (ja_cons je_int (ja_cons je_int (ja_cons je_int ja_nil))))) (ja_cons (JF.toE (jf_lst (ja_cons je_int ja_nil))) (ja_cons (JF.toE (jf_lst (ja_cons je_int (ja_cons je_int ja_nil)))) (ja_cons (JF.toE (jf_lst (ja_cons je_int (ja_cons je_int ja_nil)))) (ja_cons (JF.toE (jf_lst (ja_cons je_int (ja_cons je_int ja_nil)))) (ja_cons (JF.toE (jf_lst (ja_cons je_int (ja_cons je_int (ja_cons je_int ja_nil))))) (ja_cons (JF.toE (jf_lst (ja_cons je_int (ja_cons je_int (ja_cons je_int ja_nil))))) (ja_cons (JF.toE (jf_lst (ja_cons je_int (ja_cons je_int (ja_cons je_int ja_nil))))) (ja_cons (JF.toE (jf_lst (ja_cons je_int (ja_cons je_int (ja_cons je_int (ja_cons je_int ja_nil)))))) ja_nil))))))))))))))))) ja_nil))))
 (jss_cons (js_set 3 sc_law.nd (je_call c_least_net hr (by decide) rfl (ja_cons (je_var 2) ja_nil)))
 (jss_cons (js_if (jt_gt (JE.toB (je_sumB rfl T.n_sum rfl (jr_cons (JE.toB (JF.toE (jf_lc (own := [("_law_layer", 8)]) rfl sc_law.nd (jib_seq (JE.toB (je_attr T.c_LeastNet T.a_LeastNet_layers (jb_var 3)))) (blkOk_by (own := [("_law_layer", 8)]) (N := N_law) (sc := defScope s_law) (by decide +kernel)) (fun _ _ _ _ _ => (jg_name 8 sc_law.nd)) (fun _ _ _ _ _ => jts_nil) (fun _ _ _ _ _ => (je_len T.n_len rfl (jr_cons (jb_var 8) jr_nil)))))) jr_nil))) (JE.toB je_int)) (jss_cons (js_ret (je_and (je_eq hr (JE.toB (je_lenO c_LeastNet___len__ hr (by decide) T.n_len rfl (je_var 3))) (JE.toB (je_call c__law_least hr (by decide) rfl (ja_cons (je_var 2) ja_nil)))) (je_one (je_meth c_LeastNet_shows hr (by decide) (je_var 3) (ja_cons (je_var 2) ja_nil)))))
 jss_nil) jss_nil)
 (jss_cons (js_if (JW.t (jw_or (jt_ne hr (JE.toB (je_lenO c_LeastNet___len__ hr (by decide) T.n_len rfl (je_var 3))) (JE.toB (je_call c__law_least hr (by decide) rfl (ja_cons (je_var 2) ja_nil)))) (jw_or (jt_ne hr (JE.toB (je_len T.n_len rfl (jr_cons (JE.toB (je_attr T.c_LeastNet T.a_LeastNet_net (jb_var 3))) jr_nil))) (JE.toB (je_lenO c_LeastNet___len__ hr (by decide) T.n_len rfl (je_var 3)))) (jw_or (jt_not (jt_val (je_call c__law_right hr (by decide) rfl (ja_cons (je_var 2) (ja_cons (je_var 3) ja_nil))))) (jw_or1 (jt_not (jt_val (je_meth c_LeastNet_shows hr (by decide) (je_var 3) (ja_cons (je_tuple T.n_tuple rfl (jr_cons (jb_var 2) jr_nil)) ja_nil))))))))) (jss_cons (js_ret je_bl)
 jss_nil) jss_nil)
 (jss_cons (js_if (jt_eq hr (JE.toB (je_attr T.c_LeastNet T.a_LeastNet_net (jb_var 3))) (JE.toB (JF.toE (jf_lst ja_nil)))) (jss_cons (js_ret (je_and (je_eq hr (JE.toB (je_attr T.c_LeastNet T.a_LeastNet_layers (jb_var 3))) (JE.toB (JF.toE (jf_lst ja_nil)))) (je_and (je_eqO c_LeastNet___eq__ hr (by decide) (JE.toB (je_make c_LeastNet___init__ hr (by decide) rfl (ja_cons (JF.toE (jf_lst ja_nil)) (ja_cons (JF.toE (jf_lst ja_nil)) ja_nil)))) (jb_var 3)) (je_one (je_not (je_meth c_LeastNet_shows hr (by decide) (je_make c_LeastNet___init__ hr (by decide) rfl (ja_cons (JF.toE (jf_lst ja_nil)) (ja_cons (JF.toE (jf_lst (ja_cons (JF.toE (jf_lst (ja_cons (JF.toE (jf_lst ja_nil)) ja_nil))) ja_nil))) ja_nil))) (ja_cons (je_var 2) ja_nil)))))))
 jss_nil) jss_nil)
 (jss_cons (js_setLc (own := [("_law_layer", 8)]) 4 rfl sc_law.nd (sw_true rfl rfl rfl (by decide +kernel)) (jib_seq (JE.toB (je_attr T.c_LeastNet T.a_LeastNet_layers (jb_var 3)))) (blkOk_by (own := [("_law_layer", 8)]) (N := N_law) (sc := defScope s_law) (by decide +kernel)) (fun _ _ _ _ _ => (jg_name 8 sc_law.nd)) (fun _ _ _ _ _ => jts_nil) (fun _ _ _ _ _ => (JF.toE (jf_list T.n_list rfl (jr_cons (jb_var 8) jr_nil)))))
 (jss_cons (js_set 5 sc_law.nd (je_call c__law_next hr (by decide) rfl (ja_cons (je_var 1) (ja_cons (je_len T.n_len rfl (jr_cons (jb_var 4) jr_nil)) ja_nil))))
 (jss_cons (js_asg (je_if (jt_eq hr (JE.toB (je_call c__law_next hr (by decide) rfl (ja_cons (je_var 1) (ja_cons je_int ja_nil)))) (JE.toB je_int)) (JF.toE (jf_slice (JE.toB (je_ix (jb_var 4) (jb_var 5))) (jo_so (JE.toB je_int)) jo_no)) (je_add (JE.toB (je_ix (jb_var 4) (jb_var 5))) (JE.toB (JF.toE (jf_lst (ja_cons (je_call c__law_pick hr (by decide) rfl (ja_cons (je_var 1) (ja_cons (JF.toE (jf_lst (ja_cons (JF.toE (jf_lst ja_nil)) (ja_cons (je_attr T.c_LeastNet T.a_LeastNet_net (jb_var 3)) (ja_cons (JF.toE (jf_slice (JE.toB (je_attr T.c_LeastNet T.a_LeastNet_net (jb_var 3))) jo_no (jo_so (jb_var 5)))) (ja_cons (JF.toE (jf_slice (JE.toB (JF.toE (jf_rev (JE.toB (je_attr T.c_LeastNet T.a_LeastNet_net (jb_var 3)))))) jo_no (jo_so (jb_var 5)))) ja_nil)))))) ja_nil))) ja_nil)))))) (jgo_sub 4 (jb_var 5)))
 (jss_cons (js_set 6 sc_law.nd (je_call c__law_pick hr (by decide) rfl (ja_cons (je_var 1) (ja_cons (JF.toE (jf_lst (ja_cons (je_attr T.c_LeastNet T.a_LeastNet_net (jb_var 3)) (ja_cons (JF.toE (jf_rev (JE.toB (je_attr T.c_LeastNet T.a_LeastNet_net (jb_var 3))))) (ja_cons (JF.toE (jf_slice (JE.toB (je_attr T.c_LeastNet T.a_LeastNet_net (jb_var 3))) jo_no (jo_so (JE.toB (je_neg (JE.toB je_int)))))) (ja_cons (je_add (JE.toB (je_attr T.c_LeastNet T.a_LeastNet_net (jb_var 3))) (JE.toB (JF.toE (jf_slice (JE.toB (je_attr T.c_LeastNet T.a_LeastNet_net (jb_var 3))) jo_no (jo_so (JE.toB je_int)))))) ja_nil)))))) ja_nil))))
 (jss_frz 4 (jss_cons (js_for PassesOwn.never rfl (ji_seq (je_tup (ja_cons (je_call c__law_pick hr (by decide) rfl (ja_cons (je_var 1) (ja_cons (JF.toE (jf_lst (ja_cons (je_make c_LeastNet___init__ hr (by decide) rfl (ja_cons (je_attr T.c_LeastNet T.a_LeastNet_net (jb_var 3)) (ja_cons (je_var 4) ja_nil))) (ja_cons (je_make c_LeastNet___init__ hr (by decide) rfl (ja_cons (je_var 6) (ja_cons (je_attr T.c_LeastNet T.a_LeastNet_layers (jb_var 3)) ja_nil))) (ja_cons (je_make c_LeastNet___init__ hr (by decide) rfl (ja_cons (je_var 6) (ja_cons (je_var 4) ja_nil))) ja_nil))))) ja_nil))) ja_nil))) (jg_name 7 sc_law.nd) (jss_cons (js_if (jt_ne hr (JE.toB (je_meth c_LeastNet_shows hr (by decide) (je_var 7) (ja_cons (je_var 2) ja_nil))) (JE.toB (je_call c__law_right hr (by decide) rfl (ja_cons (je_var 2) (ja_cons (je_var 7) ja_nil))))) (jss_cons (js_ret je_bl)
 jss_nil) jss_nil)
 jss_nil))
 (jss_cons (js_ret (je_and (je_eqO c_LeastNet___eq__ hr (by decide) (JE.toB (je_make c_LeastNet___init__ hr (by decide) rfl (ja_cons (je_tuple T.n_tuple rfl (jr_cons (JE.toB (je_attr T.c_LeastNet T.a_LeastNet_net (jb_var 3))) jr_nil)) (ja_cons (je_attr T.c_LeastNet T.a_LeastNet_layers (jb_var 3)) ja_nil)))) (jb_var 3)) (je_one (je_meth c_LeastNet_shows hr (by decide) (je_call c_least_net hr (by decide) rfl (ja_cons (je_tuple T.n_tuple rfl (jr_cons (jb_var 2) jr_nil)) ja_nil)) (ja_cons (je_var 2) ja_nil)))))
 jss_nil))))))))))))
end
end K60
namespace K60
open PySem PyProof.Rows L2 J
abbrev Row := List Int
abbrev Pr := Nat × Nat
def swpR (r : Row) (q : Pr) : Row := if r.getD q.2 0 < r.getD q.1 0 then (r.set q.1 (r.getD q.2 0)).set q.2 (r.getD q.1 0) else r
def ledR (net : List Pr) (r : Row) : Row := net.foldl swpR r
def pairD (q : Pr) : D := .tup [.int q.1, .int q.2, .str "up"]
def setD (s : List Row) : D := .tup (s.map tupD)
def bhd (rows : List Row) (net : List Pr) : List Row := isort (ddL (rows.map (ledR net)))
theorem swpR_len (r : Row) (q : Pr) : (swpR r q).length = r.length := by
  unfold swpR
  split <;> simp
theorem ledR_len : ∀ (net : List Pr) (r : Row), (ledR net r).length = r.length
  | [], r => rfl
  | q :: net, r => (ledR_len net (swpR r q)).trans (swpR_len r q)
@[simp] theorem l_up : lay (.str "up") = true := by decide +kernel
theorem atR {r : Row} {i : Nat} (h : i < r.length) : atI (r.map D.int) (i : Int) = some (.int (r.getD i 0)) := by
  rw [atI_of_nat _ (by simpa using h), List.getElem?_map, List.getElem?_eq_getElem h, List.getD_eq_getElem?_getD, List.getElem?_eq_getElem h]
  rfl
theorem led_step (x y a b c : Sl) (r : Row) (q : Pr) (h1 : q.1 < r.length) (h2 : q.2 < r.length) (w : Wd) :
    (sSeq (sIf (tAndJ (eTest (eNe (eIx (eBor 2) (eBor 3)) (eIx (eBor 2) (eBor 4)))) (eTest (eEq (eLt (eIx (eBor 2) (eBor 4)) (eIx (eBor 2) (eBor 3))) (eEq (eBor 5) (eC (.str "up")))))) (sSeq (sAsg (eTup (aCons (eIx (eBor 2) (eBor 4)) (aCons (eIx (eBor 2) (eBor 3)) aNil))) (goT 2 (gosCons (goSub 2 (eBor 3)) (gosCons (goSub 2 (eBor 4)) gosNil)))) sNil) sNil) sNil)
      [x, y, .own (r.map D.int), .d (.int q.1), .d (.int q.2), .d (.str "up")] w = some (.nx [x, y, .own ((swpR r q).map D.int), .d (.int q.1), .d (.int q.2), .d (.str "up")] w) := by
  have e0 := atR h1
  have e1 := atR h2
  unfold swpR
  generalize r.getD q.1 0 = p at *
  generalize r.getD q.2 0 = t at *
  by_cases hlt : t < p
  · have n2 : ¬p = t := by omega
    simp [e0, e1, hlt, n2, line_eq, ixN_nat h1, ixN_nat h2, ← List.map_set]
  · by_cases he : p = t
    · subst he
      simp [e0, e1]
    · simp [e0, e1, hlt, he]
theorem led_loop : ∀ (net : List Pr) (r : Row) (x y a b c : Sl) (w : Wd), (∀ q ∈ net, q.1 < r.length ∧ q.2 < r.length) → ∃ a' b' c', forGo (gT 3 (gsCons (gN 3) (gsCons (gN 4) (gsCons (gN 5) gsNil)))) (sSeq (sIf (tAndJ (eTest (eNe (eIx (eBor 2) (eBor 3)) (eIx (eBor 2) (eBor 4)))) (eTest (eEq (eLt (eIx (eBor 2) (eBor 4)) (eIx (eBor 2) (eBor 3))) (eEq (eBor 5) (eC (.str "up")))))) (sSeq (sAsg (eTup (aCons (eIx (eBor 2) (eBor 4)) (aCons (eIx (eBor 2) (eBor 3)) aNil))) (goT 2 (gosCons (goSub 2 (eBor 3)) (gosCons (goSub 2 (eBor 4)) gosNil)))) sNil) sNil) sNil) (net.map pairD)
      [x, y, .own (r.map D.int), a, b, c] w = some (.nx [x, y, .own ((ledR net r).map D.int), a', b', c'] w)
  | [], r, x, y, a, b, c, w, _ => ⟨a, b, c, rfl⟩
  | q :: net, r, x, y, a, b, c, w, h => by
    have hq := h q List.mem_cons_self
    obtain ⟨a', b', c', h'⟩ := led_loop net (swpR r q) x y (.d (.int q.1)) (.d (.int q.2)) (.d (.str "up")) w fun z hz => by
      rw [swpR_len]
      exact h z (List.mem_cons_of_mem _ hz)
    refine ⟨a', b', c', ?_⟩
    rw [List.map_cons, forGo_nx (ds1 := [x, y, .own (r.map D.int), .d (.int q.1), .d (.int q.2), .d (.str "up")]) rfl (led_step x y a b c r q hq.1 hq.2 w), h']
    rfl
theorem ap_led_through (a b : D) (w : Wd) : G_led_through [a, b] w = fin (g_led_through [.d a, .d b, .no, .no, .no, .no] w) := rfl
theorem led_on (net : List Pr) (r : Row) (h : ∀ q ∈ net, q.1 < r.length ∧ q.2 < r.length) (w : Wd) : G_led_through [.lst (net.map pairD), tupD r] w = some (.lst ((ledR net r).map D.int), w) := by
  obtain ⟨a, b, c, hl⟩ := led_loop net r (.d (.lst (net.map pairD))) (.d (tupD r)) .no .no .no w h
  rw [ap_led_through]
  unfold g_led_through tupD at *
  simp [hl]
/-! behind: the set of what a net makes of rows -/
theorem ap_behind (a b : D) (w : Wd) : G_behind [a, b] w = fin (g_behind [.d a, .d b, .no] w) := rfl
theorem behind_on (rows : List Row) (net : List Pr) (h : ∀ r ∈ rows, ∀ q ∈ net, q.1 < r.length ∧ q.2 < r.length) (hl : rows.length ≤ 100000) (hk : okTs (rows.map (ledR net)) = true) (w : Wd) : G_behind [setD rows, .lst (net.map pairD)] w = some (setD (bhd rows net), w) := by
  have e : lcGo (gN 2) tYesJ (eTuple (aCons (eCall 2 G_led_through (aCons (eVar 1) (aCons (eVar 2) aNil))) aNil)) [.d (setD rows), .d (.lst (net.map pairD)), .no] (rows.map tupD) w = some ((rows.map (ledR net)).map tupD, w) := by
    rw [List.map_map]
    exact lcGo_map tupD _ rows fun r hr => ⟨_, rfl, by simp [led_on net r (h r hr)]; rfl⟩
  have e2 : sortSetD (.lst ((rows.map (ledR net)).map tupD)) = some ((bhd rows net).map tupD) := by
    show (tupsOf ((rows.map (ledR net)).map tupD)).bind _ = _
    rw [tupsOf_map]
    show (if okTs (rows.map (ledR net)) then _ else none) = _
    rw [if_pos hk]
    rfl
  rw [ap_behind]
  unfold g_behind
  unfold setD at e ⊢
  simp [e, line_eq, hl, e2, -List.map_map]
/-! the exchanges -/
def prs (n : Nat) : List Pr := (List.range n).flatMap fun j => (List.range j).map fun i => (i, j)
theorem ap_exchanges_of (a : D) (w : Wd) : G_exchanges_of [a] w = fin (g_exchanges_of [.d a, .no, .no] w) := rfl
theorem rgD_nat (n : Nat) : rgD 0 1 ((n : Int) - 0).toNat = (List.range n).map fun i : Nat => D.int (i : Int) := by
  rw [rgD_range, ← List.range_eq_range', Int.sub_zero, Int.toNat_natCast]
theorem exchanges_on (n : Nat) (hn : n < 10) (w : Wd) : G_exchanges_of [.int n] w = some (.lst ((prs n).map pairD), w) := by
  have hr := irF.on 0 (n : Int) w ⟨by decide, by decide, by omega, by omega⟩
  rw [rgD_nat] at hr
  have hl : ∀ n : Nat, n < 10 → (prs n).length ≤ 100000 := by decide +kernel
  have e : lcGo2 (gN 1) tYesJ (iRg (eC (.int 0)) (eBor 1)) (gN 2) tYesJ (eTup (aCons (eVar 2) (aCons (eVar 1) (aCons (eC (.str "up")) aNil)))) [2] [.d (.int n), .no, .no] ((List.range n).map fun i : Nat => D.int (i : Int)) w = some ((prs n).map pairD, w) := by
    refine lcGo2_map (fun i : Nat => D.int (i : Int)) pairD (fun j => (List.range j).map fun i => (i, j)) (List.range n) fun j hj => ?_
    have hj' := List.mem_range.mp hj
    have hr2 := irF.on 0 (j : Int) w ⟨by decide, by decide, by omega, by omega⟩
    rw [rgD_nat] at hr2
    refine ⟨_, _, rfl, by simp [hr2]; rfl, ?_⟩
    rw [List.map_map]
    exact lcGo_map (fun i : Nat => D.int (i : Int)) _ (List.range j) fun i hi => ⟨_, rfl, by simp [line_eq]; rfl⟩
  rw [ap_exchanges_of]
  unfold g_exchanges_of
  simp [hr, e, line_eq, hl n hn]
/-! ascending rows -/
def upR (r : Row) : Bool := decide (r = sortI r)
theorem ap_are_ascending (a : D) (w : Wd) : G_are_ascending [a] w = fin (g_are_ascending [.d a, .no] w) := rfl
theorem up_row (r : Row) (x : Sl) (w : Wd) : (eEq (eL (fList (aCons (eBor 1) aNil))) (eL (fSort (aCons (eBor 1) aNil)))) [x, .d (tupD r)] w = some (.bl (upR r), w) := by
  unfold tupD
  simp [upR]
theorem ascending_on (rows : List Row) (hl : rows.length ≤ 100000) (w : Wd) : G_are_ascending [setD rows] w = some (.bl (rows.all upR), w) := by
  have e : lcGo (gN 1) tYesJ (eEq (eL (fList (aCons (eBor 1) aNil))) (eL (fSort (aCons (eBor 1) aNil)))) [.d (setD rows), .no] (rows.map tupD) w = some ((rows.map upR).map D.bl, w) := by
    rw [List.map_map]
    exact lcGo_map tupD _ rows fun r hr => ⟨_, rfl, up_row r _ w⟩
  have ha := v_all (rows.map upR)
  rw [List.all_map] at ha
  rw [ap_are_ascending]
  unfold g_are_ascending
  unfold setD at e ⊢
  simp [e, line_eq, hl, ha, -List.map_map, -J.v_all]
  try rfl
end K60
namespace K60
open PySem PyProof.Rows L2 J
/-! rows of zeros and ones of one length -/
def bits : Nat → List Row
  | 0 => [[]]
  | n + 1 => (bits n).flatMap fun r => [0 :: r, 1 :: r]
structure Ok (n : Nat) (s : List Row) : Prop where
  ne : s ≠ []
  nd : s.Nodup
  bt : ∀ r ∈ s, r ∈ bits n
theorem nodup_len {α : Type} [DecidableEq α] : ∀ {l m : List α}, l.Nodup → (∀ a ∈ l, a ∈ m) → l.length ≤ m.length
  | [], m, _, _ => Nat.zero_le _
  | a :: l, m, h, hm => by
    have h' := List.nodup_cons.mp h
    have h1 : l.length ≤ (m.erase a).length := nodup_len h'.2 fun b hb => (List.mem_erase_of_ne (by intro e; subst e; exact h'.1 hb)).mpr (hm b (List.mem_cons_of_mem _ hb))
    have e := List.length_erase_of_mem (hm a List.mem_cons_self)
    have h2 := List.length_pos_of_mem (hm a List.mem_cons_self)
    rw [List.length_cons]
    omega
theorem b_swp : ∀ n < 5, ∀ q ∈ prs n, ∀ r ∈ bits n, (bits n).contains (swpR r q) = true := by decide +kernel
theorem b_len : ∀ n < 5, ∀ r ∈ bits n, (decide (r.length = n) && r.all fun x => decide (0 ≤ x) && decide (x < 1000)) = true := by decide +kernel
theorem b_prs : ∀ n < 5, ∀ q ∈ prs n, (decide (q.1 < n) && decide (q.2 < n)) = true := by decide +kernel
theorem b_many : ∀ n < 5, (bits n).length ≤ 16 := by decide +kernel
theorem led_bits {n : Nat} (hn : n < 5) : ∀ (net : List Pr), (∀ q ∈ net, q ∈ prs n) → ∀ r ∈ bits n, ledR net r ∈ bits n
  | [], _, r, hr => hr
  | q :: net, h, r, hr => led_bits hn net (fun z hz => h z (List.mem_cons_of_mem _ hz)) (swpR r q) (List.contains_iff_mem.mp (b_swp n hn q (h q List.mem_cons_self) r hr))
theorem Ok.len {n : Nat} {s : List Row} (h : Ok n s) (hn : n < 5) : s.length ≤ 16 := Nat.le_trans (nodup_len h.nd h.bt) (b_many n hn)
theorem bit_len {n : Nat} (hn : n < 5) {r : Row} (hr : r ∈ bits n) : r.length = n := of_decide_eq_true (Bool.and_eq_true_iff.mp (b_len n hn r hr)).1
theorem Ok.bhd {n : Nat} {s : List Row} (h : Ok n s) (hn : n < 5) {net : List Pr} (hg : ∀ q ∈ net, q ∈ prs n) : Ok n (bhd s net) := by
  have hm : ∀ r, r ∈ K60.bhd s net ↔ r ∈ s.map (ledR net) := fun r => ((isort_perm _).mem_iff).trans (ddL_mem r _)
  refine ⟨fun e => ?_, (isort_perm _).nodup_iff.mpr (ddL_nodup _), fun r hr => ?_⟩
  · obtain ⟨r, hr⟩ := List.exists_mem_of_ne_nil s h.ne
    have := (hm (ledR net r)).mpr (List.mem_map.mpr ⟨r, hr, rfl⟩)
    rw [e] at this
    cases this
  · obtain ⟨t, ht, rfl⟩ := List.mem_map.mp ((hm r).mp hr)
    exact led_bits hn net hg t (h.bt t ht)
theorem okT {n : Nat} (h0 : 0 < n) (hn : n < 5) {l : List Row} (hl : l.length ≤ 16) (h : ∀ r ∈ l, r ∈ bits n) : okTs l = true := by
  have hh : ∀ r ∈ l, r.length = (l.headD [0]).length := fun r hr => by
    cases l with
    | nil => cases hr
    | cons a l =>
      rw [bit_len hn (h r hr)]
      exact (bit_len hn (h a List.mem_cons_self)).symm
  unfold okTs
  rw [decide_eq_true (show l.length < 64 by omega), Bool.true_and, List.all_eq_true]
  intro r hr
  rw [decide_eq_true (hh r hr), Bool.true_and, decide_eq_true (by rw [bit_len hn (h r hr)]; exact h0), Bool.true_and]
  exact (Bool.and_eq_true_iff.mp (b_len n hn r (h r hr))).2
theorem net_len {n : Nat} (hn : n < 5) {s : List Row} (h : Ok n s) {net : List Pr} (hg : ∀ q ∈ net, q ∈ prs n) : ∀ r ∈ s, ∀ q ∈ net, q.1 < r.length ∧ q.2 < r.length := fun r hr q hq => by
  rw [bit_len hn (h.bt r hr)]
  have := Bool.and_eq_true_iff.mp (b_prs n hn q (hg q hq))
  exact ⟨of_decide_eq_true this.1, of_decide_eq_true this.2⟩
theorem map_ok {n : Nat} (h0 : 0 < n) (hn : n < 5) {s : List Row} (h : Ok n s) {net : List Pr} (hg : ∀ q ∈ net, q ∈ prs n) : okTs (s.map (ledR net)) = true :=
  okT h0 hn (by rw [List.length_map]; exact h.len hn) fun r hr => by
    obtain ⟨t, ht, rfl⟩ := List.mem_map.mp hr
    exact led_bits hn net hg t (h.bt t ht)
def netD (net : List Pr) : D := .lst (net.map pairD)
def setL (s : List Row) : D := .lst (s.map tupD)
theorem behind_ok {n : Nat} (h0 : 0 < n) (hn : n < 5) {s : List Row} (h : Ok n s) {net : List Pr} (hg : ∀ q ∈ net, q ∈ prs n) (w : Wd) : G_behind [setD s, netD net] w = some (setD (bhd s net), w) :=
  behind_on s net (net_len hn h hg) (by have := h.len hn; omega) (map_ok h0 hn h hg) w
/-! the law's own leading -/
theorem lled_step (x y f z a b c : Sl) (r : Row) (q : Pr) (h1 : q.1 < r.length) (h2 : q.2 < r.length) (w : Wd) :
    (sSeq (sIf (eTest (eGt (eIx (eBor 4) (eBor 5)) (eIx (eBor 4) (eBor 6)))) (sSeq (sAsg (eTup (aCons (eIx (eBor 4) (eBor 6)) (aCons (eIx (eBor 4) (eBor 5)) aNil))) (goT 2 (gosCons (goSub 4 (eBor 5)) (gosCons (goSub 4 (eBor 6)) gosNil)))) sNil) sNil) sNil)
      [x, y, f, z, .own (r.map D.int), .d (.int q.1), .d (.int q.2), .d (.str "up")] w = some (.nx [x, y, f, z, .own ((swpR r q).map D.int), .d (.int q.1), .d (.int q.2), .d (.str "up")] w) := by
  have e0 := atR h1
  have e1 := atR h2
  unfold swpR
  generalize r.getD q.1 0 = p at *
  generalize r.getD q.2 0 = t at *
  by_cases hlt : t < p
  · simp [e0, e1, hlt, line_eq, ixN_nat h1, ixN_nat h2, ← List.map_set]
  · simp [e0, e1, hlt]
theorem lled_loop : ∀ (net : List Pr) (r : Row) (x y f z a b c : Sl) (w : Wd), (∀ q ∈ net, q.1 < r.length ∧ q.2 < r.length) → ∃ a' b' c', forGo (gT 3 (gsCons (gN 5) (gsCons (gN 6) (gsCons (gN 7) gsNil)))) (sSeq (sIf (eTest (eGt (eIx (eBor 4) (eBor 5)) (eIx (eBor 4) (eBor 6)))) (sSeq (sAsg (eTup (aCons (eIx (eBor 4) (eBor 6)) (aCons (eIx (eBor 4) (eBor 5)) aNil))) (goT 2 (gosCons (goSub 4 (eBor 5)) (gosCons (goSub 4 (eBor 6)) gosNil)))) sNil) sNil) sNil) (net.map pairD)
      [x, y, f, z, .own (r.map D.int), a, b, c] w = some (.nx [x, y, f, z, .own ((ledR net r).map D.int), a', b', c'] w)
  | [], r, x, y, f, z, a, b, c, w, _ => ⟨a, b, c, rfl⟩
  | q :: net, r, x, y, f, z, a, b, c, w, h => by
    have hq := h q List.mem_cons_self
    obtain ⟨a', b', c', h'⟩ := lled_loop net (swpR r q) x y f z (.d (.int q.1)) (.d (.int q.2)) (.d (.str "up")) w fun z hz => by
      rw [swpR_len]
      exact h z (List.mem_cons_of_mem _ hz)
    refine ⟨a', b', c', ?_⟩
    rw [List.map_cons, forGo_nx (ds1 := [x, y, f, z, .own (r.map D.int), .d (.int q.1), .d (.int q.2), .d (.str "up")]) rfl (lled_step x y f z a b c r q hq.1 hq.2 w), h']
    rfl
theorem ap_law_led (a b : D) (w : Wd) : G__law_led [a, b] w = fin (g__law_led [.d a, .d b, .no, .no, .no, .no, .no, .no] w) := rfl
theorem law_led_on (rows : List Row) (net : List Pr) (h : ∀ r ∈ rows, ∀ q ∈ net, q.1 < r.length ∧ q.2 < r.length) (hl : rows.length ≤ 1000) (hk : okTs (rows.map (ledR net)) = true) (w : Wd) : G__law_led [setL rows, netD net] w = some (setL (bhd rows net), w) := by
  have e2 : sortSetD (.lst ((rows.map (ledR net)).map tupD)) = some ((bhd rows net).map tupD) := by
    show (tupsOf ((rows.map (ledR net)).map tupD)).bind _ = _
    rw [tupsOf_map]
    show (if okTs (rows.map (ledR net)) then _ else none) = _
    rw [if_pos hk]
    rfl
  obtain ⟨ds', w', hf, rfl, z, t, a, b, c, hds⟩ := forGo_inv (tg := gN 3) (body := (sSeq (sSetO 4 (fList (aCons (eBor 3) aNil)))
 (sSeq (sFor (iItems (eVar 1)) (gT 3 (gsCons (gN 5) (gsCons (gN 6) (gsCons (gN 7) gsNil)))) (sSeq (sIf (eTest (eGt (eIx (eBor 4) (eBor 5)) (eIx (eBor 4) (eBor 6)))) (sSeq (sAsg (eTup (aCons (eIx (eBor 4) (eBor 6)) (aCons (eIx (eBor 4) (eBor 5)) aNil))) (goT 2 (gosCons (goSub 4 (eBor 5)) (gosCons (goSub 4 (eBor 6)) gosNil)))) sNil) sNil) sNil))
 (sSeq (sApp 2 (eTuple (aCons (eBor 4) aNil))) sNil)))) tupD
    (fun (p : List Row) ds w2 => w2 = w ∧ ∃ z t a b c, ds = [.d (setL rows), .d (netD net), .own ((p.map (ledR net)).map tupD), z, t, a, b, c]) [] rows [.d (setL rows), .d (netD net), .own [], .no, .no, .no, .no, .no] w ⟨rfl, .no, .no, .no, .no, .no, rfl⟩
    fun p r q ds w2 e ⟨hw, z, t, a, b, c, hd⟩ => by
      subst hw hd
      have hr : r ∈ rows := by
        rw [List.nil_append] at e
        rw [e]
        exact List.mem_append_right _ List.mem_cons_self
      have hp : p.length < 1000 := by
        have := congrArg List.length e
        simp at this
        omega
      obtain ⟨a', b', c', hl'⟩ := lled_loop net r (.d (setL rows)) (.d (netD net)) (.own ((p.map (ledR net)).map tupD)) (.d (tupD r)) a b c w2 (h r hr)
      refine ⟨_, [.d (setL rows), .d (netD net), .own (((p ++ [r]).map (ledR net)).map tupD), .d (tupD r), .own ((ledR net r).map D.int), a', b', c'], w2, rfl, .inl ?_, rfl, _, _, _, _, _, rfl⟩
      have hp2 : p.length < 100000 := by omega
      have hap : ((p ++ [r]).map (ledR net)).map tupD = (p.map (ledR net)).map tupD ++ [tupD (ledR net r)] := by
        rw [List.map_append, List.map_append]
        rfl
      rw [hap]
      generalize hX : (p.map (ledR net)).map tupD = X at *
      have hXl : X.length < 100000 := by
        rw [← hX, List.length_map, List.length_map]
        exact hp2
      unfold tupD netD at *
      simp [hl', line_eq, hXl]
  rw [List.nil_append] at hds
  rw [ap_law_led]
  unfold g__law_led
  unfold setL at *
  simp [line_eq, hf, hds, e2, -List.map_map]
theorem law_led_ok {n : Nat} (h0 : 0 < n) (hn : n < 5) {s : List Row} (h : Ok n s) {net : List Pr} (hg : ∀ q ∈ net, q ∈ prs n) (w : Wd) : G__law_led [setL s, netD net] w = some (setL (bhd s net), w) :=
  law_led_on s net (net_len hn h hg) (by have := h.len hn; omega) (map_ok h0 hn h hg) w
theorem ap_law_up (a : D) (w : Wd) : G__law_up [a] w = fin (g__law_up [.d a, .no] w) := rfl
theorem law_up_on (rows : List Row) (hl : rows.length ≤ 100000) (w : Wd) : G__law_up [setL rows] w = some (.bl (rows.all upR), w) := by
  have e : lcGo (gN 1) tYesJ (eEq (eL (fList (aCons (eBor 1) aNil))) (eL (fSort (aCons (eBor 1) aNil)))) [.d (setL rows), .no] (rows.map tupD) w = some ((rows.map upR).map D.bl, w) := by
    rw [List.map_map]
    exact lcGo_map tupD _ rows fun r hr => ⟨_, rfl, up_row r _ w⟩
  have ha := v_all (rows.map upR)
  rw [List.all_map] at ha
  rw [ap_law_up]
  unfold g__law_up
  unfold setL at e ⊢
  simp [e, line_eq, hl, ha, -List.map_map, -J.v_all]
  try rfl
end K60
namespace K60
open PySem PyProof.Rows L2 J
/-! sets of rows that are, with their lanes in another order, among others -/
def mvR (o : List Nat) (r : Row) : Row := o.map fun i => r.getD i 0
def ordsP : Nat → List (List Nat)
  | 0 => [[]]
  | n + 1 => (ordsP n).flatMap fun r => (List.range (r.length + 1)).map fun i => r.take i ++ n :: r.drop i
def ordD (o : List Nat) : D := .tup (o.map fun i : Nat => .int (i : Int))
def ordsD (os : List (List Nat)) : D := .lst (os.map ordD)
def allIn (a b : List Row) (o : List Nat) : Bool := a.all fun r => decide (mvR o r ∈ b)
def coversP (os : List (List Nat)) (a b : List Row) : Bool := decide (a.length ≤ b.length) && os.any (allIn a b)
theorem b_mv : ∀ n < 5, ∀ o ∈ ordsP n, ∀ r ∈ bits n, (decide ((mvR o r).sum = r.sum) && (bits n).all fun t => !decide (mvR o r = mvR o t) || decide (r = t)) = true := by decide +kernel
theorem b_ord : ∀ n < 5, ∀ o ∈ ordsP n, ∀ i ∈ o, i < n := by decide +kernel
theorem b_sum : ∀ n < 5, ∀ r ∈ bits n, (decide (0 ≤ r.sum) && decide (r.sum ≤ 4)) = true := by decide +kernel
theorem b_ords : ∀ n < 5, (ordsP n).length ≤ 24 := by decide +kernel
theorem cov_cnt {n : Nat} (hn : n < 5) {a b : List Row} (ha : Ok n a) (hb : Ok n b) {o : List Nat} (ho : o ∈ ordsP n) (h : ∀ r ∈ a, mvR o r ∈ b) (k : Int) : (a.map List.sum).count k ≤ (b.map List.sum).count k := by
  have e : ∀ s : List Row, (s.map List.sum).count k = (s.filter fun r => r.sum == k).length := fun s => by
    rw [List.count, List.countP_map, List.countP_eq_length_filter]
    rfl
  have hs : ∀ r ∈ a, (mvR o r).sum = r.sum ∧ ∀ t ∈ a, mvR o r = mvR o t → r = t := fun r hr => by
    have h1 := Bool.and_eq_true_iff.mp (b_mv n hn o ho r (ha.bt r hr))
    refine ⟨of_decide_eq_true h1.1, fun t ht e => ?_⟩
    have h2 := List.all_eq_true.mp h1.2 t (ha.bt t ht)
    rw [decide_eq_true e] at h2
    exact of_decide_eq_true h2
  rw [e, e, ← List.length_map (f := mvR o)]
  refine nodup_len (List.pairwise_map.mpr ((List.Pairwise.filter _ ha.nd).imp_of_mem fun {x y} hx hy hxy hz => hxy ((hs x ((List.mem_filter.mp hx).1)).2 y ((List.mem_filter.mp hy).1) hz))) fun t ht => ?_
  obtain ⟨r, hr, rfl⟩ := List.mem_map.mp ht
  have hr' := List.mem_filter.mp hr
  refine List.mem_filter.mpr ⟨h r hr'.1, ?_⟩
  rw [(hs r hr'.1).1]
  exact hr'.2
theorem inj_tupD : Inj tupD := inj_tup inj_int
theorem inj_setD : Inj setD := inj_tup inj_tupD
theorem inj_setL : Inj setL := inj_lst inj_tupD
theorem la_tupD (r : Row) : La 2 (tupD r) := la_tupM (f := D.int) fun i _ => la_int i
theorem la_setD (s : List Row) : La 3 (setD s) := la_tupM fun r _ => la_tupD r
theorem la_setL (s : List Row) : La 3 (setL s) := la_lstM fun r _ => la_tupD r
@[simp] theorem in_setD (r : Row) (s : List Row) : inD false (tupD r) (setD s) = some (.bl (decide (r ∈ s))) := (in_tup inj_tupD rfl ((la_tupD r).lay (by decide)) ((la_setD s).lay (by decide))).trans (congrArg (fun b => some (D.bl b)) (decide_eq_decide.mpr Iff.rfl))
@[simp] theorem in_setL (r : Row) (s : List Row) : inD false (tupD r) (setL s) = some (.bl (decide (r ∈ s))) := (in_lst inj_tupD ((la_tupD r).lay (by decide)) ((la_setL s).lay (by decide))).trans (congrArg (fun b => some (D.bl b)) (decide_eq_decide.mpr Iff.rfl))
@[simp] theorem ne_setD (a b : List Row) : neD (setD a) (setD b) = some (.bl (!decide (a = b))) := ne_on inj_setD ((la_setD a).lay (by decide)) ((la_setD b).lay (by decide))
@[simp] theorem ne_setL (a b : List Row) : neD (setL a) (setL b) = some (.bl (!decide (a = b))) := ne_on inj_setL ((la_setL a).lay (by decide)) ((la_setL b).lay (by decide))
/-! the numbers of rows with each number of ones -/
theorem maxL_on {ns : List Int} (h : ns ≠ []) : gMax [.lst (ns.map D.int)] = some (.int (maxI ns)) := by
  show (intsOf (ns.map D.int)).bind _ = _
  rw [intsOf_map]
  show (if 0 < ns.length then some (D.int (maxI ns)) else none) = _
  rw [if_pos (List.length_pos_iff.mpr h)]
theorem maxI_mem : ∀ {ns : List Int}, ns ≠ [] → maxI ns ∈ ns
  | [], h => absurd rfl h
  | n :: ns, _ => (maxI_spec ns n).1
theorem ap_counts_of (a : D) (w : Wd) : G_counts_of [a] w = fin (g_counts_of [.d a, .no, .no, .no] w) := rfl
def cntD' (s : List Row) (m : Nat) : List D := (List.range m).map fun k : Nat => .int (((s.map List.sum).count (k : Int) : Nat) : Int)
theorem counts_on {n : Nat} (hn : n < 5) {s : List Row} (h : Ok n s) (w : Wd) : ∃ m : Nat, m ≤ 5 ∧ G_counts_of [setD s] w = some (.lst (cntD' s m), w) := by
  have hne : s.map List.sum ≠ [] := fun e => h.ne (List.map_eq_nil_iff.mp e)
  have hm : 0 ≤ maxI (s.map List.sum) ∧ maxI (s.map List.sum) ≤ 4 := by
    obtain ⟨r, hr, e⟩ := List.mem_map.mp (maxI_mem hne)
    have := Bool.and_eq_true_iff.mp (b_sum n hn r (h.bt r hr))
    rw [e] at this
    exact ⟨of_decide_eq_true this.1, of_decide_eq_true this.2⟩
  have e1 : lcGo (gN 2) tYesJ (eSumB (aCons (eBor 2) aNil)) [.d (setD s), .no, .no, .no] (s.map tupD) w = some ((s.map List.sum).map D.int, w) := by
    rw [List.map_map]
    exact lcGo_map tupD _ s fun r hr => ⟨_, rfl, by unfold tupD; simp⟩
  have hl := h.len hn
  have emax := maxL_on hne
  generalize hns : s.map List.sum = ns at *
  have hlen : ns.length ≤ 16 := by rw [← hns, List.length_map]; exact hl
  obtain ⟨m, hm2⟩ : ∃ m : Nat, maxI ns + 1 = (m : Int) := ⟨(maxI ns + 1).toNat, by omega⟩
  have hr := irF.on 0 (m : Int) w ⟨by decide, by decide, by omega, by omega⟩
  rw [rgD_nat] at hr
  have e2 : lcGo (gN 3) tYesJ (eCount (eBor 1) (aCons (eBor 3) aNil)) [.d (setD s), .d (.lst (ns.map D.int)), .no, .no] ((List.range m).map fun i : Nat => D.int (i : Int)) w = some ((List.range m).map fun k : Nat => .int ((ns.count (k : Int) : Nat) : Int), w) :=
    lcGo_map (fun i : Nat => D.int (i : Int)) _ (List.range m) fun k hk => ⟨_, rfl, by simp⟩
  refine ⟨m, by omega, ?_⟩
  have hl1 : ns.length ≤ 100000 := by omega
  have hl2 : m ≤ 100000 := by omega
  have hl3 : s.length ≤ 100000 := by omega
  rw [ap_counts_of]
  unfold g_counts_of cntD'
  unfold setD at *
  simp only [hns]
  simp [e1, emax, hm2, hr, e2, line_eq, hl1, hl2, hl3, -List.map_map]
theorem zipD_map {α β : Type} (f : α → D) (g : β → D) : ∀ (xs : List α) (ys : List β), zipD (xs.map f) (ys.map g) = (xs.zip ys).map fun p => .tup [f p.1, g p.2]
  | [], _ => rfl
  | x :: xs, [] => rfl
  | x :: xs, y :: ys => by
    show D.tup [f x, g y] :: zipD (xs.map f) (ys.map g) = _
    rw [zipD_map f g xs ys]
    rfl
theorem zip_rg {m k : Nat} {p : Nat × Nat} (h : p ∈ (List.range m).zip (List.range k)) : p.1 = p.2 := by
  obtain ⟨i, hi, e⟩ := List.mem_iff_getElem.mp h
  rw [List.getElem_zip] at e
  simp at e
  rw [← e]
theorem ap_covers (a b c : D) (w : Wd) : G_covers [a, b, c] w = fin (g_covers [.d a, .d b, .d c, .no, .no, .no, .no, .no] w) := rfl
theorem covers_ok {n : Nat} (hn : n < 5) {a b : List Row} (ha : Ok n a) (hb : Ok n b) (w : Wd) : G_covers [setD a, setD b, ordsD (ordsP n)] w = some (.bl (coversP (ordsP n) a b), w) := by
  obtain ⟨m, hm, ec⟩ := counts_on hn ha w
  obtain ⟨k, hk, ed⟩ := counts_on hn hb w
  have hla := ha.len hn
  have hlb := hb.len hn
  have hlo := b_ords n hn
  let cm : Nat → Int := fun i => (((a.map List.sum).count (i : Int) : Nat) : Int)
  let ck : Nat → Int := fun i => (((b.map List.sum).count (i : Int) : Nat) : Int)
  have ez : zipD (cntD' a m) (cntD' b k) = ((List.range m).zip (List.range k)).map fun p => .tup [.int (cm p.1), .int (ck p.2)] := zipD_map (fun i => .int (cm i)) (fun i => .int (ck i)) _ _
  have e1 : lcGo (gT 2 (gsCons (gN 3) (gsCons (gN 4) gsNil))) tYesJ (eGt (eBor 3) (eBor 4)) [.d (setD a), .d (setD b), .d (ordsD (ordsP n)), .no, .no, .no, .no, .no] (zipD (cntD' a m) (cntD' b k)) w = some ((((List.range m).zip (List.range k)).map fun p => decide (ck p.2 < cm p.1)).map D.bl, w) := by
    rw [ez, List.map_map]
    exact lcGo_map (fun p : Nat × Nat => .tup [.int (cm p.1), .int (ck p.2)]) _ _ fun p hp => ⟨[.d (setD a), .d (setD b), .d (ordsD (ordsP n)), .d (.int (cm p.1)), .d (.int (ck p.2)), .no, .no, .no], by simp, by simp⟩
  have hz : ((((List.range m).zip (List.range k)).map fun p => decide (ck p.2 < cm p.1))).length ≤ 100000 := by
    rw [List.length_map, List.length_zip, List.length_range, List.length_range]
    omega
  have e3 : ∀ o ∈ ordsP n, ∀ r ∈ a, ∀ x y : Sl, lcGo (gN 7) tYesJ (eIx (eBor 6) (eBor 7)) [.d (setD a), .d (setD b), .d (ordsD (ordsP n)), x, y, .d (ordD o), .d (tupD r), .no] (o.map fun i : Nat => .int (i : Int)) w = some ((mvR o r).map D.int, w) := by
    intro o ho r hr x y
    have := lcGo_map (tg := gN 7) (e := eIx (eBor 6) (eBor 7)) (ds := [.d (setD a), .d (setD b), .d (ordsD (ordsP n)), x, y, .d (ordD o), .d (tupD r), .no]) (w := w) (fun i : Nat => .int (i : Int)) (fun i => .int (r.getD i 0)) o fun i hi => ⟨_, rfl, by
      have := atR (r := r) (i := i) (by rw [bit_len hn (ha.bt r hr)]; exact b_ord n hn o ho i hi)
      unfold tupD
      simp [this]⟩
    rw [this]
    unfold mvR
    rw [List.map_map]
    rfl
  have elen : ∀ o ∈ ordsP n, o.length ≤ 100000 := by
    have : ∀ n < 5, ∀ o ∈ ordsP n, o.length ≤ 100000 := by decide +kernel
    exact this n hn
  have e4 : ∀ o ∈ ordsP n, ∀ x y z : Sl, lcGo (gN 6) tYesJ (eIn (eTuple (aCons (eL (fLc (iItems (eBor 5)) (gN 7) tYesJ (eIx (eBor 6) (eBor 7)) [7])) aNil)) (eBor 1)) [.d (setD a), .d (setD b), .d (ordsD (ordsP n)), x, y, .d (ordD o), .no, z] (a.map tupD) w = some ((a.map fun r => decide (mvR o r ∈ b)).map D.bl, w) := by
    intro o ho x y z
    rw [List.map_map]
    refine lcGo_map tupD _ a fun r hr => ⟨_, rfl, ?_⟩
    have h3 := e3 o ho r hr x y
    have hi := in_setD (mvR o r) b
    have h7 : (mvR o r).length ≤ 100000 := by unfold mvR; rw [List.length_map]; exact elen o ho
    unfold ordD tupD at *
    simp [h3, hi, line_eq, h7, -List.map_map]
  have e5 : ∀ x y z u : Sl, lcGo (gN 5) tYesJ (eAll (aCons (eL (fLc (iItems (eBor 0)) (gN 6) tYesJ (eIn (eTuple (aCons (eL (fLc (iItems (eBor 5)) (gN 7) tYesJ (eIx (eBor 6) (eBor 7)) [7])) aNil)) (eBor 1)) [6])) aNil)) [.d (setD a), .d (setD b), .d (ordsD (ordsP n)), x, y, .no, z, u] ((ordsP n).map ordD) w = some (((ordsP n).map (allIn a b)).map D.bl, w) := by
    intro x y z u
    rw [List.map_map]
    refine lcGo_map ordD _ (ordsP n) fun o ho => ⟨_, rfl, ?_⟩
    have h4 := e4 o ho x y u
    have hv := v_all (a.map fun r => decide (mvR o r ∈ b))
    rw [List.all_map] at hv
    have hl : a.length ≤ 100000 := by omega
    unfold allIn
    unfold setD at *
    simp [h4, hv, line_eq, hl, -List.map_map, -J.v_all]
    try rfl
  have hv := v_any ((ordsP n).map (allIn a b))
  rw [List.any_map] at hv
  have hv2 := v_any (((List.range m).zip (List.range k)).map fun p => decide (ck p.2 < cm p.1))
  have ho : (ordsP n).length ≤ 100000 := by omega
  have key : (if b.length < a.length ∨ ((((List.range m).zip (List.range k)).map fun p => decide (ck p.2 < cm p.1)).any id) = true then false else (ordsP n).any (allIn a b)) = coversP (ordsP n) a b := by
    unfold coversP
    by_cases h1 : b.length < a.length
    · rw [if_pos (.inl h1), decide_eq_false (by omega), Bool.false_and]
    · rw [decide_eq_true (by omega : a.length ≤ b.length), Bool.true_and]
      split
      · rename_i h2
        rcases h2 with h2 | h2
        · exact absurd h2 h1
        · rw [List.any_map] at h2
          obtain ⟨p, hp, h3⟩ := List.any_eq_true.mp h2
          have h4 : ck p.2 < cm p.1 := of_decide_eq_true h3
          have h5 := zip_rg hp
          symm
          rw [List.any_eq_false]
          intro o ho h6
          have h7 := cov_cnt hn ha hb ho (fun r hr => of_decide_eq_true (List.all_eq_true.mp h6 r hr)) (p.1 : Int)
          have h8 : cm p.1 ≤ ck p.2 := by
            rw [← h5]
            exact Int.ofNat_le.mpr h7
          omega
      · rfl
  rw [ap_covers, ← key]
  have hgo : ∀ ds : List Sl, ds = [.d (setD a), .d (setD b), .d (ordsD (ordsP n)), .no, .no, .no, .no, .no] → (sSeq (sRet (eAny (aCons (eL (fLc (iItems (eBor 2)) (gN 5) tYesJ (eAll (aCons (eL (fLc (iItems (eBor 0)) (gN 6) tYesJ (eIn (eTuple (aCons (eL (fLc (iItems (eBor 5)) (gN 7) tYesJ (eIx (eBor 6) (eBor 7)) [7])) aNil)) (eBor 1)) [6])) aNil)) [5])) aNil))) sNil) ds w = some (.rt (.bl ((ordsP n).any (allIn a b))) w) := by
    intro ds hds
    subst hds
    have h5 := e5 .no .no .no .no
    unfold ordsD at *
    simp [h5, hv, line_eq, ho, -List.map_map, -J.v_any]
    try rfl
  unfold g_covers
  have hla' : gLen [setD a] = some (.int (a.length : Int)) := by unfold setD; simp
  have hlb' : gLen [setD b] = some (.int (b.length : Int)) := by unfold setD; simp
  have hc1 : (tOrJ (eTest (eGt (eLen (aCons (eBor 0) aNil)) (eLen (aCons (eBor 1) aNil)))) (eTest (eAny (aCons (eL (fLc (iZipJ (aCons (eCall 1 G_counts_of (aCons (eVar 0) aNil)) (aCons (eCall 1 G_counts_of (aCons (eVar 1) aNil)) aNil))) (gT 2 (gsCons (gN 3) (gsCons (gN 4) gsNil))) tYesJ (eGt (eBor 3) (eBor 4)) [3, 4])) aNil)))) [.d (setD a), .d (setD b), .d (ordsD (ordsP n)), .no, .no, .no, .no, .no] w = some (decide (b.length < a.length ∨ ((((List.range m).zip (List.range k)).map fun p => decide (ck p.2 < cm p.1)).any id) = true), w) := by
    have hmk : min m k ≤ 100000 := by omega
    simp [ec, ed, e1, hla', hlb', hv2, line_eq, hmk, -List.map_map, -J.v_any, -List.any_map]
  rw [sSeq.ap, sIf.ap, hc1]
  by_cases hc : b.length < a.length ∨ ((((List.range m).zip (List.range k)).map fun p => decide (ck p.2 < cm p.1)).any id) = true
  · rw [if_pos hc, decide_eq_true hc]
    simp
  · rw [if_neg hc, decide_eq_false hc]
    simp only [if1.on, sNil.ap, sq1.on1, Bool.false_eq_true, if_false]
    rw [hgo _ rfl]
    rfl
/-! the law's own -/
theorem ap_law_covers (a b c : D) (w : Wd) : G__law_covers [a, b, c] w = fin (g__law_covers [.d a, .d b, .d c, .no, .no, .no] w) := rfl
theorem law_covers_ok {n : Nat} (hn : n < 5) {a b : List Row} (ha : Ok n a) (hb : Ok n b) (w : Wd) : G__law_covers [setL a, setL b, ordsD (ordsP n)] w = some (.bl (coversP (ordsP n) a b), w) := by
  have hla := ha.len hn
  have hlb := hb.len hn
  have hlo := b_ords n hn
  have e3 : ∀ o ∈ ordsP n, ∀ r ∈ a, lcGo (gN 5) tYesJ (eIx (eBor 4) (eBor 5)) [.d (setL a), .d (setL b), .d (ordsD (ordsP n)), .d (ordD o), .d (tupD r), .no] (o.map fun i : Nat => .int (i : Int)) w = some ((mvR o r).map D.int, w) := by
    intro o ho r hr
    have := lcGo_map (tg := gN 5) (e := eIx (eBor 4) (eBor 5)) (ds := [.d (setL a), .d (setL b), .d (ordsD (ordsP n)), .d (ordD o), .d (tupD r), .no]) (w := w) (fun i : Nat => .int (i : Int)) (fun i => .int (r.getD i 0)) o fun i hi => ⟨_, rfl, by
      have := atR (r := r) (i := i) (by rw [bit_len hn (ha.bt r hr)]; exact b_ord n hn o ho i hi)
      unfold tupD
      simp [this]⟩
    rw [this]
    unfold mvR
    rw [List.map_map]
    rfl
  have elen : ∀ o ∈ ordsP n, o.length ≤ 100000 := by
    have : ∀ n < 5, ∀ o ∈ ordsP n, o.length ≤ 100000 := by decide +kernel
    exact this n hn
  have e4 : ∀ o ∈ ordsP n, ∀ z : Sl, lcGo (gN 4) tYesJ (eIn (eTuple (aCons (eL (fLc (iItems (eBor 3)) (gN 5) tYesJ (eIx (eBor 4) (eBor 5)) [5])) aNil)) (eBor 1)) [.d (setL a), .d (setL b), .d (ordsD (ordsP n)), .d (ordD o), .no, z] (a.map tupD) w = some ((a.map fun r => decide (mvR o r ∈ b)).map D.bl, w) := by
    intro o ho z
    rw [List.map_map]
    refine lcGo_map tupD _ a fun r hr => ⟨_, rfl, ?_⟩
    have h3 := e3 o ho r hr
    have hi := in_setL (mvR o r) b
    have h7 : (mvR o r).length ≤ 100000 := by unfold mvR; rw [List.length_map]; exact elen o ho
    unfold ordD tupD at *
    simp [h3, hi, line_eq, h7, -List.map_map]
  have e5 : ∀ z u : Sl, lcGo (gN 3) tYesJ (eAll (aCons (eL (fLc (iItems (eBor 0)) (gN 4) tYesJ (eIn (eTuple (aCons (eL (fLc (iItems (eBor 3)) (gN 5) tYesJ (eIx (eBor 4) (eBor 5)) [5])) aNil)) (eBor 1)) [4])) aNil)) [.d (setL a), .d (setL b), .d (ordsD (ordsP n)), .no, z, u] ((ordsP n).map ordD) w = some (((ordsP n).map (allIn a b)).map D.bl, w) := by
    intro z u
    rw [List.map_map]
    refine lcGo_map ordD _ (ordsP n) fun o ho => ⟨_, rfl, ?_⟩
    have h4 := e4 o ho u
    have hv := v_all (a.map fun r => decide (mvR o r ∈ b))
    rw [List.all_map] at hv
    have hl : a.length ≤ 100000 := by omega
    unfold allIn
    unfold setL at *
    simp [h4, hv, line_eq, hl, -List.map_map, -J.v_all]
    try rfl
  have hv := v_any ((ordsP n).map (allIn a b))
  rw [List.any_map] at hv
  have ho : (ordsP n).length ≤ 100000 := by omega
  have h5 := e5 .no .no
  have hla' : gLen [setL a] = some (.int (a.length : Int)) := by unfold setL; simp
  have hlb' : gLen [setL b] = some (.int (b.length : Int)) := by unfold setL; simp
  rw [ap_law_covers]
  unfold g__law_covers coversP
  by_cases h1 : b.length < a.length
  · rw [decide_eq_false (by omega : ¬a.length ≤ b.length)]
    simp [hla', hlb', h1]
  · rw [decide_eq_true (by omega : a.length ≤ b.length)]
    unfold ordsD at *
    simp [hla', hlb', h1, h5, hv, line_eq, ho, -List.map_map, -J.v_any]
    try rfl
end K60
namespace K60
open PySem PyProof.Rows L2 J
/-! the next layer -/
abbrev It := List Pr × List Row
def itD (p : It) : D := .tup [netD p.1, setD p.2]
def itsD (l : List It) : D := .lst (l.map itD)
def stepP (n : Nat) (p : It) (f : List It) (q : Pr) : List It :=
  if bhd p.2 [q] ≠ p.2 ∧ (f.any fun t => coversP (ordsP n) t.2 (bhd p.2 [q])) = false then (f.filter fun t => !coversP (ordsP n) (bhd p.2 [q]) t.2) ++ [(p.1 ++ [q], bhd p.2 [q])] else f
def layP (n : Nat) (f : List It) (p : It) : List It := (prs n).foldl (stepP n p) f
def nextP (n : Nat) (l : List It) : List It := l.foldl (layP n) []
theorem step_len (n : Nat) (p : It) (f : List It) (q : Pr) : (stepP n p f q).length ≤ f.length + 1 := by
  unfold stepP
  split
  · rw [List.length_append]
    have := List.length_filter_le (fun t : It => !coversP (ordsP n) (bhd p.2 [q]) t.2) f
    simp
    omega
  · omega
theorem step_ok {n : Nat} (hn : n < 5) {p : It} (hp : Ok n p.2) {f : List It} (hf : ∀ t ∈ f, Ok n t.2) {q : Pr} (hq : q ∈ prs n) : ∀ t ∈ stepP n p f q, Ok n t.2 := by
  unfold stepP
  split
  · intro t ht
    rcases List.mem_append.mp ht with ht | ht
    · exact hf t ((List.mem_filter.mp ht).1)
    · rw [List.mem_singleton.mp ht]
      exact hp.bhd hn fun z hz => by
        rw [List.mem_singleton.mp hz]
        exact hq
  · exact hf
theorem b_prn : ∀ n < 5, (prs n).length ≤ 6 := by decide +kernel
theorem one_net (q : Pr) : D.lst [pairD q] = netD [q] := rfl
theorem next_step {n : Nat} (h0 : 0 < n) (hn : n < 5) {p : It} (hp : Ok n p.2) (hpl : p.1.length ≤ 1000) {f : List It} (hf : ∀ t ∈ f, Ok n t.2) (hl : f.length ≤ 50000) {q : Pr} (hq : q ∈ prs n) (L x6 x7 x8 x9 : Sl) (w : Wd) : ∃ y6 y7 y8 y9 : Sl,
    (sSeq (sSet 7 (eCall 2 G_behind (aCons (eVar 5) (aCons (eL (fLst (aCons (eVar 6) aNil))) aNil))))
 (sSeq (sIf (tAndJ (eTest (eNe (eBor 7) (eBor 5))) (tNotJ (eTest (eAny (aCons (eL (fLc (iItems (eBor 3)) (gT 2 (gsCons (gN 8) (gsCons (gN 9) gsNil))) tYesJ (eCall 3 G_covers (aCons (eVar 9) (aCons (eVar 7) (aCons (eVar 2) aNil)))) [8, 9])) aNil))))) (sSeq (sSetO 3 (fLc (iItems (eBor 3)) (gT 2 (gsCons (gN 8) (gsCons (gN 9) gsNil))) (tNotJ (eTest (eCall 3 G_covers (aCons (eVar 7) (aCons (eVar 9) (aCons (eVar 2) aNil)))))) (eTup (aCons (eVar 8) (aCons (eVar 9) aNil))) [8, 9]))
 (sSeq (sApp 3 (eTup (aCons (eL (fLst (aStar (eBor 4) (aCons (eVar 6) aNil)))) (aCons (eVar 7) aNil))))
 sNil)) sNil)
 sNil)) [L, .d (.int n), .d (ordsD (ordsP n)), .own (f.map itD), .d (netD p.1), .d (setD p.2), .d (pairD q), x7, x8, x9] w = some (.nx [L, .d (.int n), .d (ordsD (ordsP n)), .own ((stepP n p f q).map itD), .d (netD p.1), .d (setD p.2), y6, y7, y8, y9] w) := by
  have hg : ∀ z ∈ [q], z ∈ prs n := fun z hz => by
    rw [List.mem_singleton.mp hz]
    exact hq
  have hb := behind_ok h0 hn hp hg w
  have hlate := hp.bhd hn hg
  generalize hL : bhd p.2 [q] = late at hb hlate
  have e1 : ∀ x y : Sl, lcGo (gT 2 (gsCons (gN 8) (gsCons (gN 9) gsNil))) tYesJ (eCall 3 G_covers (aCons (eVar 9) (aCons (eVar 7) (aCons (eVar 2) aNil)))) [L, .d (.int n), .d (ordsD (ordsP n)), .own (f.map itD), .d (netD p.1), .d (setD p.2), .d (pairD q), .d (setD late), .no, .no] (f.map itD) w = some ((f.map fun t => coversP (ordsP n) t.2 late).map D.bl, w) := by
    intro x y
    rw [List.map_map]
    exact lcGo_map itD _ f fun t ht => ⟨[L, .d (.int n), .d (ordsD (ordsP n)), .own (f.map itD), .d (netD p.1), .d (setD p.2), .d (pairD q), .d (setD late), .d (netD t.1), .d (setD t.2)], by unfold itD; simp, by simp [covers_ok hn (hf t ht) hlate]⟩
  have e2 : lcGo (gT 2 (gsCons (gN 8) (gsCons (gN 9) gsNil))) (tNotJ (eTest (eCall 3 G_covers (aCons (eVar 7) (aCons (eVar 9) (aCons (eVar 2) aNil)))))) (eTup (aCons (eVar 8) (aCons (eVar 9) aNil))) [L, .d (.int n), .d (ordsD (ordsP n)), .own (f.map itD), .d (netD p.1), .d (setD p.2), .d (pairD q), .d (setD late), .no, .no] (f.map itD) w = some ((f.filter fun t => !coversP (ordsP n) late t.2).map itD, w) :=
    lcGo_filter itD (fun t => !coversP (ordsP n) late t.2) itD f fun t ht => ⟨[L, .d (.int n), .d (ordsD (ordsP n)), .own (f.map itD), .d (netD p.1), .d (setD p.2), .d (pairD q), .d (setD late), .d (netD t.1), .d (setD t.2)], by unfold itD; simp, by simp [covers_ok hn hlate (hf t ht)], fun _ => by simp [itD, line_eq]⟩
  have hfl : f.length ≤ 100000 := by omega
  have hfl2 : (f.filter fun t => !coversP (ordsP n) late t.2).length ≤ 50000 := Nat.le_trans (List.length_filter_le _ f) hl
  have hfl3 : (f.filter fun t => !coversP (ordsP n) late t.2).length ≤ 100000 := by omega
  have hfl4 : (f.filter fun t => !coversP (ordsP n) late t.2).length < 100000 := by omega
  have hv := v_any (f.map fun t => coversP (ordsP n) t.2 late)
  rw [List.any_map] at hv
  have hv' : gAny [.lst ((f.map fun t => coversP (ordsP n) t.2 late).map D.bl)] = some (.bl (f.any fun t => coversP (ordsP n) t.2 late)) := hv
  have hpl1 : p.1.length + 1 ≤ 100000 := by omega
  have hnet : ∀ ds : List D, D.lst (p.1.map pairD ++ [pairD q]) = netD (p.1 ++ [q]) := fun _ => by
    unfold netD
    rw [List.map_append]
    rfl
  have hst : st2 (netD p.1) (some ([pairD q], w)) = some ((p.1 ++ [q]).map pairD, w) := by
    rw [List.map_append]
    rfl
  unfold stepP
  rw [hL]
  by_cases h1 : late = p.2
  · rw [if_neg (fun z => z.1 h1)]
    refine ⟨.d (pairD q), .d (setD late), x8, x9, ?_⟩
    simp [line_eq, one_net, hb, h1]
  · by_cases h2 : (f.any fun t => coversP (ordsP n) t.2 late) = false
    · rw [if_pos ⟨h1, h2⟩]
      rw [h2] at hv'
      refine ⟨.d (pairD q), .d (setD late), x8, x9, ?_⟩
      simp [line_eq, one_net, hb, h1, e1 .no .no, hv', e2, hfl, hfl3, hfl4, hst, hpl1, -List.map_map, -J.v_any]
      simp [itD, netD]
    · rw [if_neg (fun z => h2 z.2)]
      rw [Bool.not_eq_false] at h2
      rw [h2] at hv'
      refine ⟨.d (pairD q), .d (setD late), x8, x9, ?_⟩
      simp [line_eq, one_net, hb, h1, e1 .no .no, hv', hfl, -List.map_map, -J.v_any]
end K60
namespace K60
open PySem PyProof.Rows L2 J
theorem next_inner {n : Nat} (h0 : 0 < n) (hn : n < 5) {p : It} (hp : Ok n p.2) (hpl : p.1.length ≤ 1000) (L : Sl) (w : Wd) : ∀ (qs : List Pr) (f : List It) (x6 x7 x8 x9 : Sl), (∀ q ∈ qs, q ∈ prs n) → (∀ t ∈ f, Ok n t.2) → f.length + qs.length ≤ 50000 → (∀ t ∈ qs.foldl (stepP n p) f, Ok n t.2) ∧ (qs.foldl (stepP n p) f).length ≤ f.length + qs.length ∧ ∃ y6 y7 y8 y9 : Sl,
    forGo (gN 6) (sSeq (sSet 7 (eCall 2 G_behind (aCons (eVar 5) (aCons (eL (fLst (aCons (eVar 6) aNil))) aNil))))
 (sSeq (sIf (tAndJ (eTest (eNe (eBor 7) (eBor 5))) (tNotJ (eTest (eAny (aCons (eL (fLc (iItems (eBor 3)) (gT 2 (gsCons (gN 8) (gsCons (gN 9) gsNil))) tYesJ (eCall 3 G_covers (aCons (eVar 9) (aCons (eVar 7) (aCons (eVar 2) aNil)))) [8, 9])) aNil))))) (sSeq (sSetO 3 (fLc (iItems (eBor 3)) (gT 2 (gsCons (gN 8) (gsCons (gN 9) gsNil))) (tNotJ (eTest (eCall 3 G_covers (aCons (eVar 7) (aCons (eVar 9) (aCons (eVar 2) aNil)))))) (eTup (aCons (eVar 8) (aCons (eVar 9) aNil))) [8, 9]))
 (sSeq (sApp 3 (eTup (aCons (eL (fLst (aStar (eBor 4) (aCons (eVar 6) aNil)))) (aCons (eVar 7) aNil)))) sNil)) sNil) sNil)) (qs.map pairD) [L, .d (.int n), .d (ordsD (ordsP n)), .own (f.map itD), .d (netD p.1), .d (setD p.2), x6, x7, x8, x9] w = some (.nx [L, .d (.int n), .d (ordsD (ordsP n)), .own ((qs.foldl (stepP n p) f).map itD), .d (netD p.1), .d (setD p.2), y6, y7, y8, y9] w)
  | [], f, x6, x7, x8, x9, _, hf, hl => ⟨hf, Nat.le_refl _, x6, x7, x8, x9, rfl⟩
  | q :: qs, f, x6, x7, x8, x9, hq, hf, hl => by
    rw [List.length_cons] at hl
    have hs := step_len n p f q
    obtain ⟨z6, z7, z8, z9, e⟩ := next_step h0 hn hp hpl hf (by omega) (hq q List.mem_cons_self) L x6 x7 x8 x9 w
    obtain ⟨h1, h2, y6, y7, y8, y9, h3⟩ := next_inner h0 hn hp hpl L w qs (stepP n p f q) z6 z7 z8 z9 (fun z hz => hq z (List.mem_cons_of_mem _ hz)) (step_ok hn hp hf (hq q List.mem_cons_self)) (by omega)
    rw [List.foldl_cons, List.length_cons]
    refine ⟨h1, by omega, y6, y7, y8, y9, ?_⟩
    rw [List.map_cons, forGo_nx (ds1 := [L, .d (.int n), .d (ordsD (ordsP n)), .own (f.map itD), .d (netD p.1), .d (setD p.2), .d (pairD q), x7, x8, x9]) rfl e]
    exact h3
theorem next_outer {n : Nat} (h0 : 0 < n) (hn : n < 5) (L : Sl) (w : Wd) : ∀ (ls : List It) (f : List It) (x4 x5 x6 x7 x8 x9 : Sl), (∀ p ∈ ls, Ok n p.2 ∧ p.1.length ≤ 1000) → (∀ t ∈ f, Ok n t.2) → f.length + 6 * ls.length ≤ 50000 → (∀ t ∈ ls.foldl (layP n) f, Ok n t.2) ∧ (ls.foldl (layP n) f).length ≤ f.length + 6 * ls.length ∧ ∃ y4 y5 y6 y7 y8 y9 : Sl,
    forGo (gT 2 (gsCons (gN 4) (gsCons (gN 5) gsNil))) (sSeq (sFor (iItems (eCall 1 G_exchanges_of (aCons (eVar 1) aNil))) (gN 6) (sSeq (sSet 7 (eCall 2 G_behind (aCons (eVar 5) (aCons (eL (fLst (aCons (eVar 6) aNil))) aNil))))
 (sSeq (sIf (tAndJ (eTest (eNe (eBor 7) (eBor 5))) (tNotJ (eTest (eAny (aCons (eL (fLc (iItems (eBor 3)) (gT 2 (gsCons (gN 8) (gsCons (gN 9) gsNil))) tYesJ (eCall 3 G_covers (aCons (eVar 9) (aCons (eVar 7) (aCons (eVar 2) aNil)))) [8, 9])) aNil))))) (sSeq (sSetO 3 (fLc (iItems (eBor 3)) (gT 2 (gsCons (gN 8) (gsCons (gN 9) gsNil))) (tNotJ (eTest (eCall 3 G_covers (aCons (eVar 7) (aCons (eVar 9) (aCons (eVar 2) aNil)))))) (eTup (aCons (eVar 8) (aCons (eVar 9) aNil))) [8, 9]))
 (sSeq (sApp 3 (eTup (aCons (eL (fLst (aStar (eBor 4) (aCons (eVar 6) aNil)))) (aCons (eVar 7) aNil)))) sNil)) sNil) sNil)))
 sNil) (ls.map itD) [L, .d (.int n), .d (ordsD (ordsP n)), .own (f.map itD), x4, x5, x6, x7, x8, x9] w = some (.nx [L, .d (.int n), .d (ordsD (ordsP n)), .own ((ls.foldl (layP n) f).map itD), y4, y5, y6, y7, y8, y9] w)
  | [], f, x4, x5, x6, x7, x8, x9, _, hf, hl => ⟨hf, by simp, x4, x5, x6, x7, x8, x9, rfl⟩
  | p :: ls, f, x4, x5, x6, x7, x8, x9, hp, hf, hl => by
    rw [List.length_cons] at hl
    have hn6 := b_prn n hn
    obtain ⟨i1, i2, z6, z7, z8, z9, i3⟩ := next_inner h0 hn (hp p List.mem_cons_self).1 (hp p List.mem_cons_self).2 L w (prs n) f x6 x7 x8 x9 (fun _ h => h) hf (by omega)
    have i2' : (layP n f p).length ≤ f.length + (prs n).length := i2
    obtain ⟨h1, h2, y4, y5, y6, y7, y8, y9, h3⟩ := next_outer h0 hn L w ls (layP n f p) (.d (netD p.1)) (.d (setD p.2)) z6 z7 z8 z9 (fun z hz => hp z (List.mem_cons_of_mem _ hz)) i1 (by omega)
    rw [List.foldl_cons, List.length_cons]
    refine ⟨h1, by omega, y4, y5, y6, y7, y8, y9, ?_⟩
    rw [List.map_cons, forGo_nx (ds1 := [L, .d (.int n), .d (ordsD (ordsP n)), .own (f.map itD), .d (netD p.1), .d (setD p.2), x6, x7, x8, x9]) (ds2 := [L, .d (.int n), .d (ordsD (ordsP n)), .own ((layP n f p).map itD), .d (netD p.1), .d (setD p.2), z6, z7, z8, z9]) (w2 := w) (by simp [itD]) (by
      have hex := exchanges_on n (by omega) w
      rw [show layP n f p = (prs n).foldl (stepP n p) f from rfl]
      simp [hex, i3])]
    exact h3
theorem ap_next_layer (a b c : D) (w : Wd) : G_next_layer [a, b, c] w = fin (g_next_layer [.d a, .d b, .d c, .no, .no, .no, .no, .no, .no, .no] w) := rfl
theorem next_on {n : Nat} (h0 : 0 < n) (hn : n < 5) {l : List It} (h : ∀ p ∈ l, Ok n p.2 ∧ p.1.length ≤ 1000) (hl : l.length ≤ 1000) (w : Wd) : G_next_layer [itsD l, .int n, ordsD (ordsP n)] w = some (itsD (nextP n l), w) ∧ ∀ t ∈ nextP n l, Ok n t.2 := by
  obtain ⟨h1, h2, y4, y5, y6, y7, y8, y9, h3⟩ := next_outer h0 hn (.d (itsD l)) w l [] .no .no .no .no .no .no h (fun _ z => nomatch z) (by simp; omega)
  refine ⟨?_, h1⟩
  rw [ap_next_layer]
  unfold g_next_layer nextP
  unfold itsD at *
  rw [List.map_nil] at h3
  simp [h3, line_eq]
/-! least_net -/
def layerD (l : List (List Pr)) : D := .lst (l.map netD)
def laysD (l : List (List (List Pr))) : D := .lst (l.map layerD)
def upB (r : Row) : Bool := decide (r.Pairwise (· ≤ ·))
theorem up_B (r : Row) : upR r = upB r := decide_eq_decide.mpr ⟨fun h => by
  rw [h]
  exact sortI_pair r, fun h => (sortI_id h).symm⟩
def upS (s : List Row) : Bool := s.all upB
theorem up_all (s : List Row) : s.all upR = upS s := by
  unfold upS
  rw [show upR = upB from funext up_B]
def leastP (n : Nat) : Nat → List It → List (List (List Pr)) → Option (List It × List (List (List Pr)))
  | 0, _, _ => none
  | k + 1, l, ls => if decide (l.length ≤ 1000) && (decide (ls.length ≤ 1000) && l.all fun p => decide (p.1.length ≤ 1000)) then
      (if l.any (fun p => upS p.2) then some (l, ls) else leastP n k (nextP n l) (ls ++ [l.map fun p => p.1])) else none
theorem least_loop {n : Nat} (h0 : 0 < n) (hn : n < 5) (A : Sl) (x5 x6 : Sl) (w : Wd) : ∀ (k : Nat) (l : List It) (ls : List (List (List Pr))) (r : List It × List (List (List Pr))), (∀ p ∈ l, Ok n p.2) → leastP n k l ls = some r →
    whileN (tNotJ (eTest (eAny (aCons (eL (fLc (iItems (eBor 2)) (gT 2 (gsCons (gN 5) (gsCons (gN 6) gsNil))) tYesJ (eCall 1 G_are_ascending (aCons (eVar 6) aNil)) [5, 6])) aNil)))) (sSeq (sApp 3 (eL (fLc (iItems (eBor 2)) (gT 2 (gsCons (gN 5) (gsCons (gN 6) gsNil))) tYesJ (eVar 5) [5, 6]))) (sSeq (sSet 2 (eCall 3 G_next_layer (aCons (eVar 2) (aCons (eVar 1) (aCons (eVar 4) aNil))))) sNil)) k [A, .d (.int n), .d (itsD l), .own (ls.map layerD), .d (ordsD (ordsP n)), x5, x6] w = some (.nx [A, .d (.int n), .d (itsD r.1), .own (r.2.map layerD), .d (ordsD (ordsP n)), x5, x6] w) ∧ (∀ p ∈ r.1, Ok n p.2) ∧ r.1.length ≤ 1000 ∧ r.2.length ≤ 1000 ∧ r.1.any (fun p => upS p.2) = true
  | 0, l, ls, r, hl, h => by cases h
  | k + 1, l, ls, r, hl, h => by
    unfold leastP at h
    split at h
    · rename_i hc
      simp only [Bool.and_eq_true, decide_eq_true_eq, List.all_eq_true] at hc
      obtain ⟨hc1, hc2, hc3⟩ := hc
      have e1 : lcGo (gT 2 (gsCons (gN 5) (gsCons (gN 6) gsNil))) tYesJ (eCall 1 G_are_ascending (aCons (eVar 6) aNil)) [A, .d (.int n), .d (itsD l), .own (ls.map layerD), .d (ordsD (ordsP n)), .no, .no] (l.map itD) w = some ((l.map fun p => upS p.2).map D.bl, w) := by
        rw [List.map_map]
        refine lcGo_map itD _ l fun p hp => ⟨[A, .d (.int n), .d (itsD l), .own (ls.map layerD), .d (ordsD (ordsP n)), .d (netD p.1), .d (setD p.2)], by simp [itD], ?_⟩
        have := (hl p hp).len hn
        have ha := ascending_on p.2 (by omega) w
        simp [ha, up_all]
      have hv := v_any (l.map fun p => upS p.2)
      rw [List.any_map] at hv
      have hv' : gAny [.lst ((l.map fun p => upS p.2).map D.bl)] = some (.bl (l.any fun p => upS p.2)) := hv
      have hll : l.length ≤ 100000 := by omega
      have et : (tNotJ (eTest (eAny (aCons (eL (fLc (iItems (eBor 2)) (gT 2 (gsCons (gN 5) (gsCons (gN 6) gsNil))) tYesJ (eCall 1 G_are_ascending (aCons (eVar 6) aNil)) [5, 6])) aNil)))) [A, .d (.int n), .d (itsD l), .own (ls.map layerD), .d (ordsD (ordsP n)), x5, x6] w = some (!(l.any fun p => upS p.2), w) := by
        unfold itsD at e1 ⊢
        simp [e1, hv', line_eq, hll, -List.map_map, -J.v_any]
      unfold whileN
      rw [et]
      split at h
      · rename_i hu
        cases h
        rw [hu]
        exact ⟨rfl, hl, hc1, hc2, rfl⟩
      · rename_i hu
        rw [Bool.not_eq_true] at hu
        obtain ⟨en, hno⟩ := next_on h0 hn (fun p hp => ⟨hl p hp, hc3 p hp⟩) hc1 w
        obtain ⟨i1, i2⟩ := least_loop h0 hn A x5 x6 w k (nextP n l) (ls ++ [l.map fun p => p.1]) r hno h
        refine ⟨?_, i2⟩
        have e2 : lcGo (gT 2 (gsCons (gN 5) (gsCons (gN 6) gsNil))) tYesJ (eVar 5) [A, .d (.int n), .d (itsD l), .own (ls.map layerD), .d (ordsD (ordsP n)), .no, .no] (l.map itD) w = some (l.map fun p => netD p.1, w) :=
          lcGo_map itD _ l fun p hp => ⟨[A, .d (.int n), .d (itsD l), .own (ls.map layerD), .d (ordsD (ordsP n)), .d (netD p.1), .d (setD p.2)], by simp [itD], by simp⟩
        have hm : ls.map layerD ++ [.lst (l.map fun p => netD p.1)] = (ls ++ [l.map fun p => p.1]).map layerD := by
          rw [List.map_append]
          unfold layerD
          simp
        have hls : ls.length < 100000 := by omega
        have eb : (sSeq (sApp 3 (eL (fLc (iItems (eBor 2)) (gT 2 (gsCons (gN 5) (gsCons (gN 6) gsNil))) tYesJ (eVar 5) [5, 6]))) (sSeq (sSet 2 (eCall 3 G_next_layer (aCons (eVar 2) (aCons (eVar 1) (aCons (eVar 4) aNil))))) sNil)) [A, .d (.int n), .d (itsD l), .own (ls.map layerD), .d (ordsD (ordsP n)), x5, x6] w = some (.nx [A, .d (.int n), .d (itsD (nextP n l)), .own ((ls ++ [l.map fun p => p.1]).map layerD), .d (ordsD (ordsP n)), x5, x6] w) := by
          rw [← hm]
          have en' := en
          generalize hN : nextP n l = N at en'
          generalize hX : ls.map layerD = X at *
          have hXl : X.length < 100000 := by
            rw [← hX, List.length_map]
            exact hls
          unfold itsD at *
          simp [e2, en', line_eq, hll, hXl, -List.map_map]
        rw [hu]
        show (some (true, w)).bind _ = _
        rw [Option.bind_some, if_pos rfl, eb]
        exact i1
    · cases h
end K60
namespace K60
open PySem PyProof.Rows L2 J
/-! the parts of the law, with what least_net finds -/
abbrev Ent := List Nat × List Pr × List (List (List Pr))
def menuT : List Ent := [
  ([1], [], []),
  ([2], [], []),
  ([1, 1], [(0, 1)], [[[]]]),
  ([3], [], []),
  ([1, 2], [(0, 1), (1, 2)], [[[]], [[(0, 1)], [(0, 2)]]]),
  ([2, 1], [(0, 2), (1, 2)], [[[]], [[(0, 2)], [(1, 2)]]]),
  ([1, 1, 1], [(0, 1), (0, 2), (1, 2)], [[[]], [[(0, 1)]], [[(0, 1), (0, 2)], [(0, 1), (1, 2)]]]),
  ([4], [], []),
  ([2, 2], [(0, 2), (1, 3), (1, 2)], [[[]], [[(0, 2)], [(1, 2)], [(1, 3)]], [[(0, 2), (1, 3)], [(1, 2), (0, 3)]]]),
  ([1, 3], [(0, 1), (1, 2), (2, 3)], [[[]], [[(0, 1)], [(0, 2)], [(0, 3)]], [[(0, 1), (1, 2)], [(0, 1), (1, 3)], [(0, 2), (2, 3)]]]),
  ([3, 1], [(0, 3), (1, 3), (2, 3)], [[[]], [[(0, 3)], [(1, 3)], [(2, 3)]], [[(0, 3), (1, 3)], [(0, 3), (2, 3)], [(1, 3), (2, 3)]]]),
  ([1, 1, 2], [(0, 1), (0, 2), (1, 3), (1, 2)], [[[]], [[(0, 1)], [(0, 2)], [(0, 3)]], [[(0, 1), (0, 2)], [(0, 1), (1, 2)], [(0, 1), (1, 3)], [(0, 2), (2, 3)]], [[(0, 1), (0, 2), (1, 3)], [(0, 1), (1, 2), (0, 3)]]]),
  ([2, 1, 1], [(2, 3), (0, 2), (1, 3), (1, 2)], [[[]], [[(0, 2)], [(1, 2)], [(2, 3)]], [[(0, 2), (1, 2)], [(0, 2), (1, 3)], [(2, 3), (0, 2)], [(2, 3), (1, 3)]], [[(0, 2), (1, 2), (1, 3)], [(2, 3), (0, 2), (1, 3)]]]),
  ([1, 2, 1], [(0, 3), (0, 1), (2, 3), (1, 2)], [[[]], [[(0, 1)], [(0, 2)], [(0, 3)]], [[(0, 1), (1, 2)], [(0, 1), (1, 3)], [(0, 3), (0, 1)], [(0, 3), (2, 3)]], [[(0, 1), (1, 2), (1, 3)], [(0, 3), (0, 1), (2, 3)]]]),
  ([1, 1, 1, 1], [(0, 1), (2, 3), (0, 2), (1, 3), (1, 2)], [[[]], [[(0, 1)]], [[(0, 1), (0, 2)], [(0, 1), (1, 2)], [(0, 1), (2, 3)]], [[(0, 1), (0, 2), (1, 2)], [(0, 1), (0, 2), (1, 3)], [(0, 1), (2, 3), (0, 2)], [(0, 1), (2, 3), (1, 3)]], [[(0, 1), (0, 2), (1, 2), (1, 3)], [(0, 1), (2, 3), (0, 2), (1, 3)]]])]
def nD (i : Nat) : D := .int (i : Int)
def partedP (p : List Nat) : List Row := p.foldl (fun rows many => rows.flatMap fun row => (List.range (many + 1)).map fun ones => row ++ List.replicate (many - ones) 0 ++ List.replicate ones 1) [[]]
theorem t_n : ∀ e ∈ menuT, (decide (0 < e.1.sum) && decide (e.1.sum < 5)) = true := by decide +kernel
theorem t_ok : ∀ e ∈ menuT, (!(partedP e.1).isEmpty && (decide ((partedP e.1).Nodup) && (partedP e.1).all fun r => (bits e.1.sum).contains r)) = true := by decide +kernel
structure Pts (n : Nat) (rows : List Row) (pd : D) : Prop where
  chk : ∀ w, G_check_parts [pd] w = some (.non, w)
  rws : ∀ w, G_rows_of [pd] w = some (setD rows, w)
  sm : gSumB [pd] = some (.int (n : Int))
  ok : Ok n rows
  p0 : 0 < n
  p5 : n < 5
theorem ok_of {e : Ent} (h : e ∈ menuT) : Ok e.1.sum (partedP e.1) := by
  have h1 := Bool.and_eq_true_iff.mp (t_ok e h)
  have h2 := Bool.and_eq_true_iff.mp h1.2
  refine ⟨fun z => ?_, of_decide_eq_true h2.1, fun r hr => List.contains_iff_mem.mp (List.all_eq_true.mp h2.2 r hr)⟩
  rw [z] at h1
  cases h1.1
theorem chk_lst : ∀ e ∈ menuT, ∀ w, G_check_parts [.lst (e.1.map nD)] w = some (.non, w) := by
  intro e h w
  simp only [menuT, List.mem_cons, List.not_mem_nil, or_false] at h
  rcases h with rfl | rfl | rfl | rfl | rfl | rfl | rfl | rfl | rfl | rfl | rfl | rfl | rfl | rfl | rfl <;> kernel_rfl
theorem chk_tup : ∀ e ∈ menuT, ∀ w, G_check_parts [.tup (e.1.map nD)] w = some (.non, w) := by
  intro e h w
  simp only [menuT, List.mem_cons, List.not_mem_nil, or_false] at h
  rcases h with rfl | rfl | rfl | rfl | rfl | rfl | rfl | rfl | rfl | rfl | rfl | rfl | rfl | rfl | rfl <;> kernel_rfl
theorem rws_lst : ∀ e ∈ menuT, ∀ w, G_rows_of [.lst (e.1.map nD)] w = some (setD (partedP e.1), w) := by
  intro e h w
  simp only [menuT, List.mem_cons, List.not_mem_nil, or_false] at h
  rcases h with rfl | rfl | rfl | rfl | rfl | rfl | rfl | rfl | rfl | rfl | rfl | rfl | rfl | rfl | rfl <;> kernel_rfl
theorem rws_tup : ∀ e ∈ menuT, ∀ w, G_rows_of [.tup (e.1.map nD)] w = some (setD (partedP e.1), w) := by
  intro e h w
  simp only [menuT, List.mem_cons, List.not_mem_nil, or_false] at h
  rcases h with rfl | rfl | rfl | rfl | rfl | rfl | rfl | rfl | rfl | rfl | rfl | rfl | rfl | rfl | rfl <;> kernel_rfl
theorem parted_lst : ∀ e ∈ menuT, ∀ w, G__law_parted [.lst (e.1.map nD)] w = some (setL (partedP e.1), w) := by
  intro e h w
  simp only [menuT, List.mem_cons, List.not_mem_nil, or_false] at h
  rcases h with rfl | rfl | rfl | rfl | rfl | rfl | rfl | rfl | rfl | rfl | rfl | rfl | rfl | rfl | rfl <;> kernel_rfl
theorem sum_lst : ∀ e ∈ menuT, gSumB [.lst (e.1.map nD)] = some (.int (e.1.sum : Nat)) := by
  intro e h
  simp only [menuT, List.mem_cons, List.not_mem_nil, or_false] at h
  rcases h with rfl | rfl | rfl | rfl | rfl | rfl | rfl | rfl | rfl | rfl | rfl | rfl | rfl | rfl | rfl <;> kernel_rfl
theorem sum_tup : ∀ e ∈ menuT, gSumB [.tup (e.1.map nD)] = some (.int (e.1.sum : Nat)) := by
  intro e h
  simp only [menuT, List.mem_cons, List.not_mem_nil, or_false] at h
  rcases h with rfl | rfl | rfl | rfl | rfl | rfl | rfl | rfl | rfl | rfl | rfl | rfl | rfl | rfl | rfl <;> kernel_rfl
theorem pts_lst {e : Ent} (h : e ∈ menuT) : Pts e.1.sum (partedP e.1) (.lst (e.1.map nD)) :=
  have hn := Bool.and_eq_true_iff.mp (t_n e h)
  ⟨chk_lst e h, rws_lst e h, sum_lst e h, ok_of h, of_decide_eq_true hn.1, of_decide_eq_true hn.2⟩
theorem pts_tup {e : Ent} (h : e ∈ menuT) : Pts e.1.sum (partedP e.1) (.tup (e.1.map nD)) :=
  have hn := Bool.and_eq_true_iff.mp (t_n e h)
  ⟨chk_tup e h, rws_tup e h, sum_tup e h, ok_of h, of_decide_eq_true hn.1, of_decide_eq_true hn.2⟩
theorem orders_on {n : Nat} (h0 : 0 < n) (hn : n < 5) (w : Wd) : G_orders_of [.int n] w = some (ordsD (ordsP n), w) := by
  obtain rfl | rfl | rfl | rfl : n = 1 ∨ n = 2 ∨ n = 3 ∨ n = 4 := by omega
  all_goals kernel_rfl
theorem law_orders_on {n : Nat} (h0 : 0 < n) (hn : n < 5) (w : Wd) : G__law_orders [.int n] w = some (ordsD (ordsP n), w) := by
  obtain rfl | rfl | rfl | rfl : n = 1 ∨ n = 2 ∨ n = 3 ∨ n = 4 := by omega
  all_goals kernel_rfl
theorem law_pairs_on {n : Nat} (h0 : 0 < n) (hn : n < 5) (w : Wd) : G__law_pairs [.int n] w = some (netD (prs n), w) := by
  obtain rfl | rfl | rfl | rfl : n = 1 ∨ n = 2 ∨ n = 3 ∨ n = 4 := by omega
  all_goals kernel_rfl
end K60
namespace K60
open PySem PyProof.Rows L2 J
/-! evidence -/
def objD (net : List Pr) (ls : List (List (List Pr))) : D := .obj "LeastNet" ["net", "layers"] [netD net, laysD ls]
def Sm (ls : List (List (List Pr))) : Prop := ls.length ≤ 1000 ∧ ∀ l ∈ ls, l.length ≤ 1000
theorem ap_init (a b : D) (w : Wd) : G_LeastNet___init__ [a, b] w = g_LeastNet___init__ [.no, .d a, .d b, .no, .no] [] w := rfl
theorem init_lays {ls : List (List (List Pr))} (h : Sm ls) (a : Sl) (w : Wd) : lcGo (gN 3) tYesJ (eL (fLc (iItems (eBor 3)) (gN 4) tYesJ (eL (fList (aCons (eBor 4) aNil))) [4])) [.no, a, .d (laysD ls), .no, .no] (ls.map layerD) w = some (ls.map layerD, w) := by
  refine lcGo_map layerD _ ls fun l hl => ⟨_, rfl, ?_⟩
  have e : lcGo (gN 4) tYesJ (eL (fList (aCons (eBor 4) aNil))) [.no, a, .d (laysD ls), .d (layerD l), .no] (l.map netD) w = some (l.map netD, w) :=
    lcGo_map netD _ l fun m hm => ⟨_, rfl, by simp [netD]⟩
  have hl' := h.2 l hl
  have hl2 : l.length ≤ 100000 := by omega
  unfold layerD at *
  simp [e, line_eq, hl2]
theorem init_on {ls : List (List (List Pr))} (h : Sm ls) (net : List Pr) (w : Wd) : G_LeastNet___init__ [netD net, laysD ls] w = some ((["net", "layers"] : List Str).zip [netD net, laysD ls], w) := by
  have e := init_lays h (.d (netD net)) w
  have hl : ls.length ≤ 100000 := by have := h.1; omega
  rw [ap_init]
  unfold g_LeastNet___init__
  unfold netD laysD at *
  simp [e, line_eq, hl, putD]
  decide +kernel
theorem init_onT {ls : List (List (List Pr))} (h : Sm ls) (net : List Pr) (w : Wd) : G_LeastNet___init__ [.tup (net.map pairD), laysD ls] w = some ((["net", "layers"] : List Str).zip [netD net, laysD ls], w) := by
  have e := init_lays h (.d (.tup (net.map pairD))) w
  have hl : ls.length ≤ 100000 := by have := h.1; omega
  rw [ap_init]
  unfold g_LeastNet___init__
  unfold netD laysD at *
  simp [e, line_eq, hl, putD]
  decide +kernel
theorem mk_on {ls : List (List (List Pr))} (h : Sm ls) (net : List Pr) (w : Wd) : mk2 "LeastNet" (G_LeastNet___init__ [netD net, laysD ls] w) = some (objD net ls, w) := by
  rw [init_on h net w]
  rfl
theorem mk_onT {ls : List (List (List Pr))} (h : Sm ls) (net : List Pr) (w : Wd) : mk2 "LeastNet" (G_LeastNet___init__ [.tup (net.map pairD), laysD ls] w) = some (objD net ls, w) := by
  rw [init_onT h net w]
  rfl
def leastQ (n : Nat) (rows : List Row) : Option (List Pr × List (List (List Pr))) := match leastP n 7 [([], rows)] [] with
  | some r => match r.1.filter fun p => upS p.2 with
    | p :: _ => some (p.1, r.2)
    | [] => none
  | none => none
theorem t_least : ∀ e ∈ menuT, decide (leastQ e.1.sum (partedP e.1) = some (e.2.1, e.2.2)) = true := by decide +kernel
theorem t_sm : ∀ e ∈ menuT, (decide (e.2.2.length ≤ 1000) && e.2.2.all fun l => decide (l.length ≤ 1000)) = true := by decide +kernel
theorem sm_of {e : Ent} (h : e ∈ menuT) : Sm e.2.2 := by
  have := Bool.and_eq_true_iff.mp (t_sm e h)
  exact ⟨of_decide_eq_true this.1, fun l hl => of_decide_eq_true (List.all_eq_true.mp this.2 l hl)⟩
theorem ap_least_net (a : D) (w : Wd) : G_least_net [a] w = fin (g_least_net [.d a, .no, .no, .no, .no, .no, .no] w) := rfl
theorem least_on {n : Nat} {rows : List Row} {pd : D} (P : Pts n rows pd) {net : List Pr} {ls : List (List (List Pr))} (hs : Sm ls) (h : leastQ n rows = some (net, ls)) (w : Wd) : G_least_net [pd] w = some (objD net ls, w) := by
  unfold leastQ at h
  cases hr : leastP n 7 [([], rows)] [] with
  | none =>
    rw [hr] at h
    cases h
  | some r =>
    rw [hr] at h
    dsimp only at h
    obtain ⟨hw, hok, hl1, hl2, hany⟩ := least_loop P.p0 P.p5 (.d pd) .no .no w 7 [([], rows)] [] r (fun p hp => by
      rw [List.mem_singleton.mp hp]
      exact P.ok) hr
    cases hf : r.1.filter fun p => upS p.2 with
    | nil =>
      rw [hf] at h
      cases h
    | cons p0 rest =>
      rw [hf] at h
      cases h
      have e : lcGo (gT 2 (gsCons (gN 5) (gsCons (gN 6) gsNil))) (eTest (eCall 1 G_are_ascending (aCons (eVar 6) aNil))) (eVar 5) [.d pd, .d (.int n), .d (itsD r.1), .d (.lst (r.2.map layerD)), .d (ordsD (ordsP n)), .no, .no] (r.1.map itD) w = some ((p0 :: rest).map fun p => netD p.1, w) := by
        rw [← hf]
        refine lcGo_filter itD (fun p => upS p.2) (fun p => netD p.1) r.1 fun p hp => ⟨[.d pd, .d (.int n), .d (itsD r.1), .d (.lst (r.2.map layerD)), .d (ordsD (ordsP n)), .d (netD p.1), .d (setD p.2)], by simp [itD], ?_, fun _ => by simp⟩
        have := (hok p hp).len P.p5
        have ha := ascending_on p.2 (by omega) w
        simp [ha, up_all]
      have hlen : rest.length + 1 ≤ 100000 := by
        have := List.length_filter_le (fun p : It => upS p.2) r.1
        rw [hf, List.length_cons] at this
        omega
      have hloop := sWhile_of hw
      have h1 := P.chk w
      have h2 := P.rws w
      have h3 := P.sm
      have h4 := orders_on P.p0 P.p5 w
      have hmk := mk_on hs p0.1 w
      have hi : D.lst [.tup [.lst [], setD rows]] = itsD [([], rows)] := rfl
      rw [ap_least_net]
      unfold g_least_net
      rw [List.map_nil] at hloop
      unfold laysD at hmk
      simp [h1, h2, h3, h4, line_eq, hi, hloop]
      have hr1 : r.1.length ≤ 100000 := by omega
      rw [List.map_cons] at e
      unfold itsD at *
      simp [e, line_eq, hlen, hmk]
end K60
namespace K60
open PySem PyProof.Rows L2 J
/-! the law's own search -/
def lstP (s : List Row) (m : List (List Row)) (q : Pr) : List (List Row) := if bhd s [q] ≠ s ∧ ¬ bhd s [q] ∈ m then m ++ [bhd s [q]] else m
def llayP (n : Nat) (m : List (List Row)) (s : List Row) : List (List Row) := (prs n).foldl (lstP s) m
def lnextP (n : Nat) (S : List (List Row)) : List (List Row) := S.foldl (llayP n) []
def setsD (S : List (List Row)) : D := .lst (S.map setL)
@[simp] theorem notin_sets (s : List Row) (S : List (List Row)) : inD true (setL s) (.lst (S.map setL)) = some (.bl (!decide (s ∈ S))) := (notin_lst inj_setL ((la_setL s).lay (by decide)) ((la_lstM (k := 3) fun t _ => la_setL t).lay (by decide))).trans (congrArg (fun b => some (D.bl !b)) (decide_eq_decide.mpr Iff.rfl))
theorem ll_step {n : Nat} (h0 : 0 < n) (hn : n < 5) {s : List Row} (hs : Ok n s) {m : List (List Row)} (hl : m.length ≤ 50000) {q : Pr} (hq : q ∈ prs n) (A B C E x8 : Sl) (w : Wd) : ∃ y8 : Sl,
    (sSeq (sSet 8 (eCall 2 G__law_led (aCons (eVar 6) (aCons (eL (fLst (aCons (eVar 7) aNil))) aNil)))) (sSeq (sIf (tAndJ (eTest (eNe (eBor 8) (eBor 6))) (eTest (eNotIn (eBor 8) (eBor 5)))) (sSeq (sApp 5 (eVar 8)) sNil) sNil) sNil)) [A, B, .d (.int n), C, E, .own (m.map setL), .d (setL s), .d (pairD q), x8] w = some (.nx [A, B, .d (.int n), C, E, .own ((lstP s m q).map setL), .d (setL s), .d (pairD q), y8] w) := by
  have hg : ∀ z ∈ [q], z ∈ prs n := fun z hz => by
    rw [List.mem_singleton.mp hz]
    exact hq
  have hb := law_led_ok h0 hn hs hg w
  have hml : m.length < 100000 := by omega
  refine ⟨.d (setL (bhd s [q])), ?_⟩
  unfold lstP
  by_cases h1 : bhd s [q] = s
  · rw [if_neg (fun z => z.1 h1)]
    simp [line_eq, one_net, hb, h1]
  · by_cases h2 : bhd s [q] ∈ m
    · rw [if_neg (fun z => z.2 h2)]
      simp [line_eq, one_net, hb, h1, h2]
    · rw [if_pos ⟨h1, h2⟩]
      simp [line_eq, one_net, hb, h1, h2, hml]
theorem lst_len (s : List Row) (m : List (List Row)) (q : Pr) : (lstP s m q).length ≤ m.length + 1 := by
  unfold lstP
  split
  · rw [List.length_append]
    exact Nat.le_refl _
  · omega
theorem lst_ok {n : Nat} (hn : n < 5) {s : List Row} (hs : Ok n s) {m : List (List Row)} (hm : ∀ t ∈ m, Ok n t) {q : Pr} (hq : q ∈ prs n) : ∀ t ∈ lstP s m q, Ok n t := by
  unfold lstP
  split
  · intro t ht
    rcases List.mem_append.mp ht with ht | ht
    · exact hm t ht
    · rw [List.mem_singleton.mp ht]
      exact hs.bhd hn fun z hz => by
        rw [List.mem_singleton.mp hz]
        exact hq
  · exact hm
theorem ll_inner {n : Nat} (h0 : 0 < n) (hn : n < 5) {s : List Row} (hs : Ok n s) (A B C E : Sl) (w : Wd) : ∀ (qs : List Pr) (m : List (List Row)) (x7 x8 : Sl), (∀ q ∈ qs, q ∈ prs n) → (∀ t ∈ m, Ok n t) → m.length + qs.length ≤ 50000 → (∀ t ∈ qs.foldl (lstP s) m, Ok n t) ∧ (qs.foldl (lstP s) m).length ≤ m.length + qs.length ∧ ∃ y7 y8 : Sl,
    forGo (gN 7) (sSeq (sSet 8 (eCall 2 G__law_led (aCons (eVar 6) (aCons (eL (fLst (aCons (eVar 7) aNil))) aNil)))) (sSeq (sIf (tAndJ (eTest (eNe (eBor 8) (eBor 6))) (eTest (eNotIn (eBor 8) (eBor 5)))) (sSeq (sApp 5 (eVar 8)) sNil) sNil) sNil)) (qs.map pairD) [A, B, .d (.int n), C, E, .own (m.map setL), .d (setL s), x7, x8] w = some (.nx [A, B, .d (.int n), C, E, .own ((qs.foldl (lstP s) m).map setL), .d (setL s), y7, y8] w)
  | [], m, x7, x8, _, hm, hl => ⟨hm, Nat.le_refl _, x7, x8, rfl⟩
  | q :: qs, m, x7, x8, hq, hm, hl => by
    rw [List.length_cons] at hl
    have hl2 := lst_len s m q
    obtain ⟨z8, e⟩ := ll_step h0 hn hs (m := m) (by omega) (hq q List.mem_cons_self) A B C E x8 w
    obtain ⟨h1, h2, y7, y8, h3⟩ := ll_inner h0 hn hs A B C E w qs (lstP s m q) (.d (pairD q)) z8 (fun z hz => hq z (List.mem_cons_of_mem _ hz)) (lst_ok hn hs hm (hq q List.mem_cons_self)) (by omega)
    rw [List.foldl_cons, List.length_cons]
    refine ⟨h1, by omega, y7, y8, ?_⟩
    rw [List.map_cons, forGo_nx (ds1 := [A, B, .d (.int n), C, E, .own (m.map setL), .d (setL s), .d (pairD q), x8]) rfl e]
    exact h3
theorem ll_outer {n : Nat} (h0 : 0 < n) (hn : n < 5) (A B C E : Sl) (w : Wd) : ∀ (S : List (List Row)) (m : List (List Row)) (x6 x7 x8 : Sl), (∀ s ∈ S, Ok n s) → (∀ t ∈ m, Ok n t) → m.length + 6 * S.length ≤ 50000 → (∀ t ∈ S.foldl (llayP n) m, Ok n t) ∧ (S.foldl (llayP n) m).length ≤ m.length + 6 * S.length ∧ ∃ y6 y7 y8 : Sl,
    forGo (gN 6) (sSeq (sFor (iItems (eCall 1 G__law_pairs (aCons (eVar 2) aNil))) (gN 7) (sSeq (sSet 8 (eCall 2 G__law_led (aCons (eVar 6) (aCons (eL (fLst (aCons (eVar 7) aNil))) aNil)))) (sSeq (sIf (tAndJ (eTest (eNe (eBor 8) (eBor 6))) (eTest (eNotIn (eBor 8) (eBor 5)))) (sSeq (sApp 5 (eVar 8)) sNil) sNil) sNil))) sNil) (S.map setL) [A, B, .d (.int n), C, E, .own (m.map setL), x6, x7, x8] w = some (.nx [A, B, .d (.int n), C, E, .own ((S.foldl (llayP n) m).map setL), y6, y7, y8] w)
  | [], m, x6, x7, x8, _, hm, hl => ⟨hm, by simp, x6, x7, x8, rfl⟩
  | s :: S, m, x6, x7, x8, hS, hm, hl => by
    rw [List.length_cons] at hl
    have hn6 := b_prn n hn
    obtain ⟨i1, i2, z7, z8, i3⟩ := ll_inner h0 hn (hS s List.mem_cons_self) A B C E w (prs n) m x7 x8 (fun _ h => h) hm (by omega)
    have i2' : (llayP n m s).length ≤ m.length + (prs n).length := i2
    obtain ⟨h1, h2, y6, y7, y8, h3⟩ := ll_outer h0 hn A B C E w S (llayP n m s) (.d (setL s)) z7 z8 (fun z hz => hS z (List.mem_cons_of_mem _ hz)) i1 (by omega)
    rw [List.foldl_cons, List.length_cons]
    refine ⟨h1, by omega, y6, y7, y8, ?_⟩
    rw [List.map_cons, forGo_nx (ds1 := [A, B, .d (.int n), C, E, .own (m.map setL), .d (setL s), x7, x8]) (ds2 := [A, B, .d (.int n), C, E, .own ((llayP n m s).map setL), .d (setL s), z7, z8]) (w2 := w) rfl (by
      have hex : G__law_pairs [.int n] w = some (.lst ((prs n).map pairD), w) := law_pairs_on h0 hn w
      rw [show llayP n m s = (prs n).foldl (lstP s) m from rfl]
      simp [hex, i3])]
    exact h3
def llP (n : Nat) : Nat → List (List Row) → Nat → Option Nat
  | 0, _, _ => none
  | k + 1, S, c => if S.length ≤ 5000 then (if S.any upS then some c else llP n k (lnextP n S) (c + 1)) else none
theorem ll_loop {n : Nat} (h0 : 0 < n) (hn : n < 5) (A B : Sl) (w : Wd) : ∀ (k : Nat) (S : List (List Row)) (c r : Nat) (x5 x6 x7 x8 : Sl), (∀ s ∈ S, Ok n s) → llP n k S c = some r →
    ∃ y3 y5 y6 y7 y8 : Sl, whileN (tNotJ (eTest (eAny (aCons (eL (fLc (iItems (eBor 3)) (gN 6) tYesJ (eCall 1 G__law_up (aCons (eVar 6) aNil)) [6])) aNil)))) (sSeq (sSetO 5 (fLst aNil)) (sSeq (sFor (iItems (eVar 3)) (gN 6) (sSeq (sFor (iItems (eCall 1 G__law_pairs (aCons (eVar 2) aNil))) (gN 7) (sSeq (sSet 8 (eCall 2 G__law_led (aCons (eVar 6) (aCons (eL (fLst (aCons (eVar 7) aNil))) aNil)))) (sSeq (sIf (tAndJ (eTest (eNe (eBor 8) (eBor 6))) (eTest (eNotIn (eBor 8) (eBor 5)))) (sSeq (sApp 5 (eVar 8)) sNil) sNil) sNil))) sNil)) (sFrz 5 (sSeq (sPar2 3 4 (pD (eVar 5) (pD (eAdd (eBor 4) (eC (.int 1))) pNil))) sNil)))) k [A, B, .d (.int n), .d (setsD S), .d (.int c), x5, x6, x7, x8] w = some (.nx [A, B, .d (.int n), y3, .d (.int r), y5, y6, y7, y8] w)
  | 0, S, c, r, x5, x6, x7, x8, hS, h => by cases h
  | k + 1, S, c, r, x5, x6, x7, x8, hS, h => by
    unfold llP at h
    split at h
    · rename_i hc
      have e1 : lcGo (gN 6) tYesJ (eCall 1 G__law_up (aCons (eVar 6) aNil)) [A, B, .d (.int n), .d (setsD S), .d (.int c), x5, .no, x7, x8] (S.map setL) w = some ((S.map upS).map D.bl, w) := by
        rw [List.map_map]
        refine lcGo_map setL _ S fun s hs => ⟨_, rfl, ?_⟩
        have := (hS s hs).len hn
        have ha := law_up_on s (by omega) w
        simp [ha, up_all]
      have hv := v_any (S.map upS)
      rw [List.any_map] at hv
      have hv' : gAny [.lst ((S.map upS).map D.bl)] = some (.bl (S.any upS)) := hv
      have hll : S.length ≤ 100000 := by omega
      have et : (tNotJ (eTest (eAny (aCons (eL (fLc (iItems (eBor 3)) (gN 6) tYesJ (eCall 1 G__law_up (aCons (eVar 6) aNil)) [6])) aNil)))) [A, B, .d (.int n), .d (setsD S), .d (.int c), x5, x6, x7, x8] w = some (!(S.any upS), w) := by
        unfold setsD at e1 ⊢
        simp [e1, hv', line_eq, hll, -List.map_map, -J.v_any]
      unfold whileN
      rw [et]
      split at h
      · rename_i hu
        cases h
        rw [hu]
        exact ⟨_, _, _, _, _, rfl⟩
      · rename_i hu
        rw [Bool.not_eq_true] at hu
        obtain ⟨hno, hlen, z6, z7, z8, he⟩ := ll_outer h0 hn A B (.d (setsD S)) (.d (.int c)) w S [] x6 x7 x8 hS (fun _ z => nomatch z) (by simp; omega)
        obtain ⟨y3, y5, y6, y7, y8, hi⟩ := ll_loop h0 hn A B w k (lnextP n S) (c + 1) r (.d (.lst ((lnextP n S).map setL))) z6 z7 z8 hno h
        refine ⟨y3, y5, y6, y7, y8, ?_⟩
        have eb : (sSeq (sSetO 5 (fLst aNil)) (sSeq (sFor (iItems (eVar 3)) (gN 6) (sSeq (sFor (iItems (eCall 1 G__law_pairs (aCons (eVar 2) aNil))) (gN 7) (sSeq (sSet 8 (eCall 2 G__law_led (aCons (eVar 6) (aCons (eL (fLst (aCons (eVar 7) aNil))) aNil)))) (sSeq (sIf (tAndJ (eTest (eNe (eBor 8) (eBor 6))) (eTest (eNotIn (eBor 8) (eBor 5)))) (sSeq (sApp 5 (eVar 8)) sNil) sNil) sNil))) sNil)) (sFrz 5 (sSeq (sPar2 3 4 (pD (eVar 5) (pD (eAdd (eBor 4) (eC (.int 1))) pNil))) sNil)))) [A, B, .d (.int n), .d (setsD S), .d (.int c), x5, x6, x7, x8] w = some (.nx [A, B, .d (.int n), .d (setsD (lnextP n S)), .d (.int ((c + 1 : Nat) : Int)), .d (.lst ((lnextP n S).map setL)), z6, z7, z8] w) := by
          unfold lnextP
          rw [List.map_nil] at he
          unfold setsD at *
          simp [he, line_eq]
        rw [hu]
        show (some (true, w)).bind _ = _
        rw [Option.bind_some, if_pos rfl, eb]
        exact hi
    · cases h
theorem ap_law_least (a : D) (w : Wd) : G__law_least [a] w = fin (g__law_least [.d a, .no, .no, .no, .no, .no, .no, .no, .no] w) := rfl
theorem law_least_on {n : Nat} {rows : List Row} (h0 : 0 < n) (hn : n < 5) (hok : Ok n rows) {pd : D} (h1 : ∀ w, G__law_parted [pd] w = some (setL rows, w)) (h2 : gSumB [pd] = some (.int (n : Int))) {r : Nat} (h : llP n 7 [bhd rows []] 0 = some r) (w : Wd) : G__law_least [pd] w = some (.int r, w) := by
  have hno : ∀ z ∈ ([] : List Pr), z ∈ prs n := fun _ z => nomatch z
  obtain ⟨y3, y5, y6, y7, y8, hw⟩ := ll_loop h0 hn (.d pd) (.d (setL rows)) w 7 [bhd rows []] 0 r .no .no .no .no (fun s hs => by
    rw [List.mem_singleton.mp hs]
    exact hok.bhd hn hno) h
  have hloop := sWhile_of hw
  have hled := law_led_ok h0 hn hok hno w
  have hi : D.lst [setL (bhd rows [])] = setsD [bhd rows []] := rfl
  have hni : D.lst [] = netD [] := rfl
  have h1' := h1 w
  have hz : D.int 0 = D.int ((0 : Nat) : Int) := rfl
  rw [ap_law_least]
  unfold g__law_least
  rw [← hni] at hled
  rw [← hz] at hloop
  simp [h1', h2, line_eq, hled, hi, hloop]
theorem t_ll : ∀ e ∈ menuT, decide (llP e.1.sum 7 [bhd (partedP e.1) []] 0 = some e.2.1.length) = true := by decide +kernel
end K60
namespace K60
open PySem PyProof.Rows L2 J
/-! what a layer does not cover -/
def Gd (n : Nat) (net : List Pr) : Prop := ∀ q ∈ net, q ∈ prs n
theorem Gd.one {n : Nat} {q : Pr} (h : q ∈ prs n) : Gd n [q] := fun z hz => by
  rw [List.mem_singleton.mp hz]
  exact h
def uncov (n : Nat) (other : List (List Row)) (s : List Row) (q : Pr) : Bool := !decide (bhd s [q] = s) && !(other.any fun t => coversP (ordsP n) t (bhd s [q]))
def badS (n : Nat) (other : List (List Row)) (s : List Row) : Bool := (prs n).any (uncov n other s)
def covOK (n : Nat) (one other : List (List Row)) : Bool := !(one.any (badS n other))
def setsT (l : List (List Row)) : D := .lst (l.map setD)
theorem cov_any {n : Nat} (hn : n < 5) {other : List (List Row)} (ho : ∀ t ∈ other, Ok n t) {late : List Row} (hl : Ok n late) (A B C E G H : Sl) (w : Wd) : lcGo (gN 7) tYesJ (eCall 3 G_covers (aCons (eVar 7) (aCons (eVar 6) (aCons (eVar 3) aNil)))) [A, B, C, .d (ordsD (ordsP n)), E, G, .d (setD late), H] (other.map setD) w = some ((other.map fun t => coversP (ordsP n) t late).map D.bl, w) := by
  rw [List.map_map]
  exact lcGo_map setD _ other fun t ht => ⟨_, rfl, by simp [covers_ok hn (ho t ht) hl]⟩
theorem ap_is_covered (a b c d : D) (w : Wd) : G_is_covered [a, b, c, d] w = fin (g_is_covered [.d a, .d b, .d c, .d d, .no, .no, .no, .no] w) := rfl
theorem is_covered_on {n : Nat} (h0 : 0 < n) (hn : n < 5) {one other : List (List Row)} (h1 : ∀ t ∈ one, Ok n t) (h2 : ∀ t ∈ other, Ok n t) (hl : other.length ≤ 1000) (w : Wd) : G_is_covered [setsT one, setsT other, netD (prs n), ordsD (ordsP n)] w = some (.bl (covOK n one other), w) := by
  have hin : ∀ s ∈ one, ∀ x5 x6 : Sl, ((prs n).any (uncov n other s) = true → forGo (gN 5) (sSeq (sSet 6 (eCall 2 G_behind (aCons (eVar 4) (aCons (eL (fLst (aCons (eVar 5) aNil))) aNil)))) (sSeq (sIf (tAndJ (eTest (eNe (eBor 6) (eBor 4))) (tNotJ (eTest (eAny (aCons (eL (fLc (iItems (eBor 1)) (gN 7) tYesJ (eCall 3 G_covers (aCons (eVar 7) (aCons (eVar 6) (aCons (eVar 3) aNil)))) [7])) aNil))))) (sSeq (sRet (eC (.bl false))) sNil) sNil) sNil)) ((prs n).map pairD) [.d (setsT one), .d (setsT other), .d (netD (prs n)), .d (ordsD (ordsP n)), .d (setD s), x5, x6, .no] w = some (.rt (.bl false) w)) ∧ ((prs n).any (uncov n other s) = false → ∃ ds', forGo (gN 5) (sSeq (sSet 6 (eCall 2 G_behind (aCons (eVar 4) (aCons (eL (fLst (aCons (eVar 5) aNil))) aNil)))) (sSeq (sIf (tAndJ (eTest (eNe (eBor 6) (eBor 4))) (tNotJ (eTest (eAny (aCons (eL (fLc (iItems (eBor 1)) (gN 7) tYesJ (eCall 3 G_covers (aCons (eVar 7) (aCons (eVar 6) (aCons (eVar 3) aNil)))) [7])) aNil))))) (sSeq (sRet (eC (.bl false))) sNil) sNil) sNil)) ((prs n).map pairD) [.d (setsT one), .d (setsT other), .d (netD (prs n)), .d (ordsD (ordsP n)), .d (setD s), x5, x6, .no] w = some (.nx ds' w) ∧ ∃ y5 y6 : Sl, ds' = [.d (setsT one), .d (setsT other), .d (netD (prs n)), .d (ordsD (ordsP n)), .d (setD s), y5, y6, .no]) := by
    intro s hs x5 x6
    refine forGo_bad pairD (fun ds => ∃ y5 y6 : Sl, ds = [.d (setsT one), .d (setsT other), .d (netD (prs n)), .d (ordsD (ordsP n)), .d (setD s), y5, y6, .no]) (uncov n other s) (prs n) _ ⟨x5, x6, rfl⟩ fun q hq ds hd => ?_
    obtain ⟨y5, y6, rfl⟩ := hd
    have hb := behind_ok h0 hn (h1 s hs) (Gd.one hq) w
    have hok := (h1 s hs).bhd hn (Gd.one hq)
    have ec := cov_any hn h2 hok (.d (setsT one)) (.d (setsT other)) (.d (netD (prs n))) (.d (setD s)) (.d (pairD q)) .no w
    have hv := v_any (other.map fun t => coversP (ordsP n) t (bhd s [q]))
    rw [List.any_map] at hv
    have hv' : gAny [.lst ((other.map fun t => coversP (ordsP n) t (bhd s [q])).map D.bl)] = some (.bl (other.any fun t => coversP (ordsP n) t (bhd s [q]))) := hv
    have hol : other.length ≤ 100000 := by omega
    refine ⟨_, rfl, fun hb1 => ?_, fun hb1 => ⟨[.d (setsT one), .d (setsT other), .d (netD (prs n)), .d (ordsD (ordsP n)), .d (setD s), .d (pairD q), .d (setD (bhd s [q])), .no], ?_, _, _, rfl⟩⟩
    · unfold uncov at hb1
      have hb2 := Bool.and_eq_true_iff.mp hb1
      have hne : ¬bhd s [q] = s := by simpa using hb2.1
      have hna : (other.any fun t => coversP (ordsP n) t (bhd s [q])) = false := by simpa using hb2.2
      rw [hna] at hv'
      generalize bhd s [q] = late at *
      unfold setsT at *
      simp [line_eq, one_net, hb, hne, ec, hv', hol, -List.map_map, -J.v_any]
    · unfold uncov at hb1
      by_cases hne : bhd s [q] = s
      · simp [line_eq, one_net, hb, hne]
      · have hna : (other.any fun t => coversP (ordsP n) t (bhd s [q])) = true := by
          rw [decide_eq_false hne] at hb1
          revert hb1
          cases (other.any fun t => coversP (ordsP n) t (bhd s [q])) <;> simp
        rw [hna] at hv'
        generalize bhd s [q] = late at *
        unfold setsT at *
        simp [line_eq, one_net, hb, hne, ec, hv', hol, -List.map_map, -J.v_any]
  have hout := forGo_bad (tg := gN 4) (body := (sSeq (sFor (iItems (eVar 2)) (gN 5) (sSeq (sSet 6 (eCall 2 G_behind (aCons (eVar 4) (aCons (eL (fLst (aCons (eVar 5) aNil))) aNil)))) (sSeq (sIf (tAndJ (eTest (eNe (eBor 6) (eBor 4))) (tNotJ (eTest (eAny (aCons (eL (fLc (iItems (eBor 1)) (gN 7) tYesJ (eCall 3 G_covers (aCons (eVar 7) (aCons (eVar 6) (aCons (eVar 3) aNil)))) [7])) aNil))))) (sSeq (sRet (eC (.bl false))) sNil) sNil) sNil))) sNil)) (w := w) setD (fun ds => ∃ y4 y5 y6 : Sl, ds = [.d (setsT one), .d (setsT other), .d (netD (prs n)), .d (ordsD (ordsP n)), y4, y5, y6, .no]) (badS n other) one [.d (setsT one), .d (setsT other), .d (netD (prs n)), .d (ordsD (ordsP n)), .no, .no, .no, .no] ⟨.no, .no, .no, rfl⟩ (fun s hs ds hd => by
    obtain ⟨y4, y5, y6, rfl⟩ := hd
    obtain ⟨i1, i2⟩ := hin s hs y5 y6
    refine ⟨_, rfl, fun hb => ?_, fun hb => ?_⟩
    · have i1' := i1 hb
      unfold netD at *
      simp [i1']
    · obtain ⟨ds', i2', z5, z6, rfl⟩ := i2 hb
      refine ⟨[.d (setsT one), .d (setsT other), .d (netD (prs n)), .d (ordsD (ordsP n)), .d (setD s), z5, z6, .no], ?_, _, _, _, rfl⟩
      unfold netD at *
      simp [i2'])
  rw [ap_is_covered]
  unfold g_is_covered covOK
  cases hc : one.any (badS n other) with
  | true =>
    have := hout.1 hc
    unfold setsT at *
    simp [this]
  | false =>
    obtain ⟨ds', h, _⟩ := hout.2 hc
    unfold setsT at *
    simp [h]
end K60
namespace K60
open PySem PyProof.Rows L2 J
/-! encodings of nets and layers -/
theorem inj_pairD : Inj pairD := fun a b => by
  show (PyData.eqv (.int a.1) (.int b.1) && (PyData.eqv (.int a.2) (.int b.2) && (PyData.eqv (.str "up") (.str "up") && true))) = _
  rw [eqv_int, eqv_int, eqv_str, Bool.eq_iff_iff]
  obtain ⟨a1, a2⟩ := a
  obtain ⟨b1, b2⟩ := b
  simp
  omega
theorem inj_netD : Inj netD := inj_lst inj_pairD
theorem inj_layerD : Inj layerD := inj_lst inj_netD
theorem inj_laysD : Inj laysD := inj_lst inj_layerD
theorem la_pairD (q : Pr) : La 2 (pairD q) := la_tup fun d hd => by
  rcases List.mem_cons.mp hd with rfl | hd
  · exact la_int _
  rcases List.mem_cons.mp hd with rfl | hd
  · exact la_int _
  · rw [List.mem_singleton.mp hd]
    exact La.of l_up 1 (by decide +kernel)
theorem la_netD (m : List Pr) : La 3 (netD m) := la_lstM fun q _ => la_pairD q
theorem la_layerD (l : List (List Pr)) : La 4 (layerD l) := la_lstM fun m _ => la_netD m
theorem la_laysD (l : List (List (List Pr))) : La 5 (laysD l) := la_lstM fun m _ => la_layerD m
@[simp] theorem in_net (q : Pr) (m : List Pr) : inD false (pairD q) (netD m) = some (.bl (decide (q ∈ m))) := (in_lst inj_pairD ((la_pairD q).lay (by decide)) ((la_netD m).lay (by decide))).trans (congrArg (fun b => some (D.bl b)) (decide_eq_decide.mpr Iff.rfl))
@[simp] theorem ne_layer (a b : List (List Pr)) : neD (layerD a) (layerD b) = some (.bl (!decide (a = b))) := (ne_on inj_layerD ((la_layerD a).lay (by decide)) ((la_layerD b).lay (by decide))).trans (congrArg (fun b => some (D.bl !b)) (decide_eq_decide.mpr Iff.rfl))
@[simp] theorem ne_lays (a b : List (List (List Pr))) : neD (laysD a) (laysD b) = some (.bl (!decide (a = b))) := (ne_on inj_laysD ((la_laysD a).lay (by decide)) ((la_laysD b).lay (by decide))).trans (congrArg (fun b => some (D.bl !b)) (decide_eq_decide.mpr Iff.rfl))
@[simp] theorem at_net (net : List Pr) (ls : List (List (List Pr))) : attrD "LeastNet" "net" (objD net ls) = some (netD net) := rfl
@[simp] theorem at_lays (net : List Pr) (ls : List (List (List Pr))) : attrD "LeastNet" "layers" (objD net ls) = some (laysD ls) := rfl
structure Evi (n : Nat) (net : List Pr) (ls : List (List (List Pr))) : Prop where
  g : Gd n net
  gl : ∀ l ∈ ls, ∀ m ∈ l, Gd n m
  sm : Sm ls
  ln : net.length ≤ 1000
  ll : ∀ l ∈ ls, ∀ m ∈ l, m.length ≤ 1000
  tot : ls.flatten.length ≤ 1000
def lenBad (p : List (List Pr) × Nat) : Bool := p.1.any fun m => !decide (m.length = p.2)
def setsP (rows : List Row) (ls : List (List (List Pr))) : List (List (List Row)) := ls.map fun l => l.map (bhd rows)
def showsP (n : Nat) (rows : List Row) (net : List Pr) (ls : List (List (List Pr))) : Bool :=
  upS (bhd rows net) && (decide (ls.length = net.length) && (!(ls.zipIdx.any lenBad) && ((decide (ls = []) || decide (ls.headD [] = [[]])) && (!((setsP rows ls).flatten.any upS) && ((setsP rows ls).zip ((setsP rows ls).drop 1)).all fun p => covOK n p.1 p.2))))
theorem all_in {n : Nat} {net : List Pr} (h : Gd n net) : gAll [.lst ((net.map fun q => decide (q ∈ prs n)).map D.bl)] = some (.bl true) := by
  have hv := v_all (net.map fun q => decide (q ∈ prs n))
  rw [hv, List.all_map]
  congr 2
  rw [List.all_eq_true]
  intro q hq
  exact decide_eq_true (h q hq)
theorem shows_turn {n : Nat} (h0 : 0 < n) (hn : n < 5) {rows : List Row} (hr : Ok n rows) {l : List (List Pr)} (hl : l.length ≤ 1000) (hg : ∀ m ∈ l, Gd n m) (hm : ∀ m ∈ l, m.length ≤ 1000) (i : Nat) {b : List (List (List Row))} (hb : b.length ≤ 50000) (A B : Sl) (x8 x9 x10 x11 x12 x13 : Sl) (w : Wd) :
    (lenBad (l, i) = true → (sSeq (sIf (tNotJ (eTest (eAll (aCons (eL (fLc (iItems (eBor 7)) (gN 10) tYesJ (eAnd (eEq (eLen (aCons (eBor 10) aNil)) (eBor 6)) (eAll (aCons (eL (fLc (iItems (eBor 10)) (gN 11) tYesJ (eIn (eBor 11) (eBor 4)) [11])) aNil))) [10])) aNil)))) (sSeq (sRet (eC (.bl false))) sNil) sNil) (sSeq (sApp 5 (eL (fLc (iItems (eBor 7)) (gN 10) tYesJ (eCall 2 G_behind (aCons (eVar 2) (aCons (eVar 10) aNil))) [10]))) sNil)) [A, B, .d (setD rows), .d (.int n), .d (netD (prs n)), .own (b.map setsT), .d (.int i), .d (layerD l), x8, x9, x10, x11, x12, x13] w = some (.rt (.bl false) w)) ∧
    (lenBad (l, i) = false → (sSeq (sIf (tNotJ (eTest (eAll (aCons (eL (fLc (iItems (eBor 7)) (gN 10) tYesJ (eAnd (eEq (eLen (aCons (eBor 10) aNil)) (eBor 6)) (eAll (aCons (eL (fLc (iItems (eBor 10)) (gN 11) tYesJ (eIn (eBor 11) (eBor 4)) [11])) aNil))) [10])) aNil)))) (sSeq (sRet (eC (.bl false))) sNil) sNil) (sSeq (sApp 5 (eL (fLc (iItems (eBor 7)) (gN 10) tYesJ (eCall 2 G_behind (aCons (eVar 2) (aCons (eVar 10) aNil))) [10]))) sNil)) [A, B, .d (setD rows), .d (.int n), .d (netD (prs n)), .own (b.map setsT), .d (.int i), .d (layerD l), x8, x9, x10, x11, x12, x13] w = some (.nx [A, B, .d (setD rows), .d (.int n), .d (netD (prs n)), .own ((b ++ [l.map (bhd rows)]).map setsT), .d (.int i), .d (layerD l), x8, x9, x10, x11, x12, x13] w)) := by
  have e1 : ∀ m ∈ l, lcGo (gN 11) tYesJ (eIn (eBor 11) (eBor 4)) [A, B, .d (setD rows), .d (.int n), .d (netD (prs n)), .own (b.map setsT), .d (.int i), .d (layerD l), x8, x9, .d (netD m), .no, x12, x13] (m.map pairD) w = some ((m.map fun q => decide (q ∈ prs n)).map D.bl, w) := by
    intro m hm
    rw [List.map_map]
    exact lcGo_map pairD _ m fun q hq => ⟨_, rfl, by simp⟩
  have e2 : lcGo (gN 10) tYesJ (eAnd (eEq (eLen (aCons (eBor 10) aNil)) (eBor 6)) (eAll (aCons (eL (fLc (iItems (eBor 10)) (gN 11) tYesJ (eIn (eBor 11) (eBor 4)) [11])) aNil))) [A, B, .d (setD rows), .d (.int n), .d (netD (prs n)), .own (b.map setsT), .d (.int i), .d (layerD l), x8, x9, .no, x11, x12, x13] (l.map netD) w = some ((l.map fun m => decide (m.length = i)).map D.bl, w) := by
    rw [List.map_map]
    refine lcGo_map netD _ l fun m hm2 => ⟨_, rfl, ?_⟩
    have h1 := e1 m hm2
    have h2 := all_in (hg m hm2)
    have h3 : m.length ≤ 100000 := by have := hm m hm2; omega
    have h4 : gLen [netD m] = some (.int (m.length : Int)) := by unfold netD; simp
    have h5 : ((m.length : Int) = (i : Int)) = (m.length = i) := by
      apply propext
      omega
    unfold netD at *
    by_cases h6 : m.length = i
    · subst h6
      simp [h1, h2, h3, h4, line_eq, -List.map_map, -J.v_all]
    · have h7 : ¬((m.length : Int) = (i : Int)) := by omega
      simp [h1, h2, h3, h4, h6, h7, line_eq, -List.map_map, -J.v_all]
  have hv := v_all (l.map fun m => decide (m.length = i))
  rw [List.all_map] at hv
  have hv' : gAll [.lst ((l.map fun m => decide (m.length = i)).map D.bl)] = some (.bl (l.all fun m => decide (m.length = i))) := hv
  have hall : (l.all fun m => decide (m.length = i)) = !lenBad (l, i) := by
    unfold lenBad
    rw [List.all_eq_not_any_not]
  rw [hall] at hv'
  have e3 : lcGo (gN 10) tYesJ (eCall 2 G_behind (aCons (eVar 2) (aCons (eVar 10) aNil))) [A, B, .d (setD rows), .d (.int n), .d (netD (prs n)), .own (b.map setsT), .d (.int i), .d (layerD l), x8, x9, .no, x11, x12, x13] (l.map netD) w = some ((l.map (bhd rows)).map setD, w) := by
    rw [List.map_map]
    exact lcGo_map netD _ l fun m hm => ⟨_, rfl, by simp [behind_ok h0 hn hr (hg m hm)]⟩
  have hll : l.length ≤ 100000 := by omega
  have hap : (b ++ [l.map (bhd rows)]).map setsT = b.map setsT ++ [.lst ((l.map (bhd rows)).map setD)] := by
    rw [List.map_append]
    rfl
  rw [hap]
  have hbl : (b.map setsT).length < 100000 := by
    rw [List.length_map]
    omega
  generalize b.map setsT = X at *
  refine ⟨fun h => ?_, fun h => ?_⟩
  · rw [h] at hv'
    unfold layerD at *
    simp [e2, hv', line_eq, hll, -List.map_map, -J.v_all]
  · rw [h] at hv'
    unfold layerD at *
    simp [e2, e3, hv', line_eq, hll, hbl, -List.map_map, -J.v_all]
theorem shows_loop {n : Nat} (h0 : 0 < n) (hn : n < 5) {rows : List Row} (hr : Ok n rows) (A B : Sl) (x8 x9 x10 x11 x12 x13 : Sl) (w : Wd) : ∀ (ls : List (List (List Pr))) (i : Nat) (b : List (List (List Row))) (x6 x7 : Sl), (∀ l ∈ ls, l.length ≤ 1000 ∧ (∀ m ∈ l, Gd n m) ∧ ∀ m ∈ l, m.length ≤ 1000) → b.length + ls.length ≤ 50000 →
    ((ls.zipIdx i).any lenBad = true → forGo (gT 2 (gsCons (gN 6) (gsCons (gN 7) gsNil))) (sSeq (sIf (tNotJ (eTest (eAll (aCons (eL (fLc (iItems (eBor 7)) (gN 10) tYesJ (eAnd (eEq (eLen (aCons (eBor 10) aNil)) (eBor 6)) (eAll (aCons (eL (fLc (iItems (eBor 10)) (gN 11) tYesJ (eIn (eBor 11) (eBor 4)) [11])) aNil))) [10])) aNil)))) (sSeq (sRet (eC (.bl false))) sNil) sNil) (sSeq (sApp 5 (eL (fLc (iItems (eBor 7)) (gN 10) tYesJ (eCall 2 G_behind (aCons (eVar 2) (aCons (eVar 10) aNil))) [10]))) sNil)) (enumD i (ls.map layerD)) [A, B, .d (setD rows), .d (.int n), .d (netD (prs n)), .own (b.map setsT), x6, x7, x8, x9, x10, x11, x12, x13] w = some (.rt (.bl false) w)) ∧
    ((ls.zipIdx i).any lenBad = false → ∃ y6 y7 : Sl, forGo (gT 2 (gsCons (gN 6) (gsCons (gN 7) gsNil))) (sSeq (sIf (tNotJ (eTest (eAll (aCons (eL (fLc (iItems (eBor 7)) (gN 10) tYesJ (eAnd (eEq (eLen (aCons (eBor 10) aNil)) (eBor 6)) (eAll (aCons (eL (fLc (iItems (eBor 10)) (gN 11) tYesJ (eIn (eBor 11) (eBor 4)) [11])) aNil))) [10])) aNil)))) (sSeq (sRet (eC (.bl false))) sNil) sNil) (sSeq (sApp 5 (eL (fLc (iItems (eBor 7)) (gN 10) tYesJ (eCall 2 G_behind (aCons (eVar 2) (aCons (eVar 10) aNil))) [10]))) sNil)) (enumD i (ls.map layerD)) [A, B, .d (setD rows), .d (.int n), .d (netD (prs n)), .own (b.map setsT), x6, x7, x8, x9, x10, x11, x12, x13] w = some (.nx [A, B, .d (setD rows), .d (.int n), .d (netD (prs n)), .own ((b ++ setsP rows ls).map setsT), y6, y7, x8, x9, x10, x11, x12, x13] w))
  | [], i, b, x6, x7, _, _ => ⟨fun z => (nomatch z), fun _ => ⟨x6, x7, by rw [show b ++ setsP rows [] = b from List.append_nil b]; rfl⟩⟩
  | l :: ls, i, b, x6, x7, h, hl => by
    rw [List.length_cons] at hl
    obtain ⟨h1, h2, h3⟩ := h l List.mem_cons_self
    obtain ⟨t1, t2⟩ := shows_turn h0 hn hr h1 h2 h3 i (b := b) (by omega) A B x8 x9 x10 x11 x12 x13 w
    have hg : gT 2 (gsCons (gN 6) (gsCons (gN 7) gsNil)) [A, B, .d (setD rows), .d (.int n), .d (netD (prs n)), .own (b.map setsT), x6, x7, x8, x9, x10, x11, x12, x13] (.tup [.int (i : Int), layerD l]) = some [A, B, .d (setD rows), .d (.int n), .d (netD (prs n)), .own (b.map setsT), .d (.int i), .d (layerD l), x8, x9, x10, x11, x12, x13] := by simp
    have he : enumD i ((l :: ls).map layerD) = .tup [.int (i : Int), layerD l] :: enumD (i + 1) (ls.map layerD) := rfl
    have hz : ((l :: ls).zipIdx i).any lenBad = (lenBad (l, i) || (ls.zipIdx (i + 1)).any lenBad) := rfl
    rw [hz, he]
    cases hb : lenBad (l, i) with
    | true => exact ⟨fun _ => forGo_rt hg (t1 hb), fun z => (nomatch z)⟩
    | false =>
      obtain ⟨i1, i2⟩ := shows_loop h0 hn hr A B x8 x9 x10 x11 x12 x13 w ls (i + 1) (b ++ [l.map (bhd rows)]) (.d (.int i)) (.d (layerD l)) (fun z hz => h z (List.mem_cons_of_mem _ hz)) (by simp; omega)
      rw [Bool.false_or]
      refine ⟨fun z => (forGo_nx hg (t2 hb)).trans (i1 z), fun z => ?_⟩
      obtain ⟨y6, y7, e⟩ := i2 z
      refine ⟨y6, y7, (forGo_nx hg (t2 hb)).trans (e.trans ?_)⟩
      rw [List.append_assoc]
      rfl
end K60
namespace K60
open PySem PyProof.Rows L2 J
@[simp] theorem it_net (m : List Pr) (w : Wd) : it1 (some (netD m, w)) = some (m.map pairD, w) := rfl
@[simp] theorem it_layer (m : List (List Pr)) (w : Wd) : it1 (some (layerD m, w)) = some (m.map netD, w) := rfl
@[simp] theorem it_lays (m : List (List (List Pr))) (w : Wd) : it1 (some (laysD m, w)) = some (m.map layerD, w) := rfl
@[simp] theorem it_setD (m : List Row) (w : Wd) : it1 (some (setD m, w)) = some (m.map tupD, w) := rfl
@[simp] theorem it_setL (m : List Row) (w : Wd) : it1 (some (setL m, w)) = some (m.map tupD, w) := rfl
@[simp] theorem it_setsT (m : List (List Row)) (w : Wd) : it1 (some (setsT m, w)) = some (m.map setD, w) := rfl
@[simp] theorem ie_lays (m : List (List (List Pr))) (w : Wd) : ie1 (some ([laysD m], w)) = some (enumD 0 (m.map layerD), w) := rfl
@[simp] theorem ln_net (m : List Pr) : gLen [netD m] = some (.int (m.length : Int)) := by unfold netD; simp
@[simp] theorem ln_layer (m : List (List Pr)) : gLen [layerD m] = some (.int (m.length : Int)) := by unfold layerD; simp
@[simp] theorem ln_lays (m : List (List (List Pr))) : gLen [laysD m] = some (.int (m.length : Int)) := by unfold laysD; simp
@[simp] theorem sl_lays (m : List (List (List Pr))) (w : Wd) : sl3 (laysD m) (some 1) (some (none, w)) = some ((m.drop 1).map layerD, w) := by
  show some (cutD (m.map layerD) (some 1) none, w) = _
  rw [cut_from1, List.map_drop]
theorem sets_ok {n : Nat} (hn : n < 5) {rows : List Row} (hr : Ok n rows) {net : List Pr} {ls : List (List (List Pr))} (h : Evi n net ls) : ∀ S ∈ setsP rows ls, S.length ≤ 1000 ∧ ∀ t ∈ S, Ok n t := fun S hS => by
  obtain ⟨l, hl, rfl⟩ := List.mem_map.mp hS
  refine ⟨by rw [List.length_map]; exact h.sm.2 l hl, fun t ht => ?_⟩
  obtain ⟨m, hm, rfl⟩ := List.mem_map.mp ht
  exact hr.bhd hn (h.gl l hl m hm)
theorem sets_tot (rows : List Row) : ∀ ls : List (List (List Pr)), (setsP rows ls).flatten.length = ls.flatten.length
  | [] => rfl
  | l :: ls => by
    show ((l.map (bhd rows)) ++ (setsP rows ls).flatten).length = (l ++ ls.flatten).length
    rw [List.length_append, List.length_append, sets_tot rows ls, List.length_map]
theorem flat_up : ∀ S : List (List (List Row)), S.flatMap (fun l => l.map upS) = S.flatten.map upS
  | [] => rfl
  | l :: S => by
    rw [List.flatMap_cons, flat_up S, List.flatten_cons, List.map_append]
theorem shows_t3 {n : Nat} (h0 : 0 < n) (hn : n < 5) {S : List (List (List Row))} (hso : ∀ l ∈ S, l.length ≤ 1000 ∧ ∀ t ∈ l, Ok n t) (hSl : S.length ≤ 1000) (A B C y6 y7 : Sl) (w : Wd) : (sSeq (sSet 8 (eCall 1 G_orders_of (aCons (eVar 3) aNil))) (sSeq (sRet (eAll (aCons (eL (fLc (iZipJ (aCons (eBor 5) (aCons (eL (fSl (eBor 5) (oSo (eC (.int 1))) oNo)) aNil))) (gT 2 (gsCons (gN 11) (gsCons (gN 13) gsNil))) tYesJ (eCall 4 G_is_covered (aCons (eVar 11) (aCons (eVar 13) (aCons (eVar 4) (aCons (eVar 8) aNil))))) [11, 13])) aNil))) sNil)) [A, B, C, .d (.int n), .d (netD (prs n)), .own (S.map setsT), y6, y7, .no, .no, .no, .no, .no, .no] w = some (.rt (.bl ((S.zip (S.drop 1)).all fun p => covOK n p.1 p.2)) w) := by
  have h5 := orders_on h0 hn w
  have hzip : zipD (S.map setsT) ((S.map setsT).drop 1) = (S.zip (S.drop 1)).map fun p => .tup [setsT p.1, setsT p.2] := by
    rw [← List.map_drop, zipD_map]
  have e7 : lcGo (gT 2 (gsCons (gN 11) (gsCons (gN 13) gsNil))) tYesJ (eCall 4 G_is_covered (aCons (eVar 11) (aCons (eVar 13) (aCons (eVar 4) (aCons (eVar 8) aNil))))) [A, B, C, .d (.int n), .d (netD (prs n)), .own (S.map setsT), y6, y7, .d (ordsD (ordsP n)), .no, .no, .no, .no, .no] (zipD (S.map setsT) ((S.map setsT).drop 1)) w = some (((S.zip (S.drop 1)).map fun p => covOK n p.1 p.2).map D.bl, w) := by
    rw [hzip, List.map_map]
    refine lcGo_map (fun p : List (List Row) × List (List Row) => .tup [setsT p.1, setsT p.2]) _ _ fun p hp => ⟨[A, B, C, .d (.int n), .d (netD (prs n)), .own (S.map setsT), y6, y7, .d (ordsD (ordsP n)), .no, .no, .d (setsT p.1), .no, .d (setsT p.2)], by simp, ?_⟩
    have hp1 := List.of_mem_zip hp
    have ha1 := hso p.1 hp1.1
    have ha2 := hso p.2 (List.mem_of_mem_drop hp1.2)
    simp [is_covered_on h0 hn ha1.2 ha2.2 ha2.1]
  have hv2 := v_all ((S.zip (S.drop 1)).map fun p => covOK n p.1 p.2)
  rw [List.all_map] at hv2
  have hv2' : gAll [.lst (((S.zip (S.drop 1)).map fun p => covOK n p.1 p.2).map D.bl)] = some (.bl ((S.zip (S.drop 1)).all fun p => covOK n p.1 p.2)) := hv2
  have hzl' : ((((S.zip (S.drop 1)).map fun p => covOK n p.1 p.2)).map D.bl).length ≤ line := by
    rw [List.length_map, List.length_map, List.length_zip, line_eq]
    omega
  generalize (((S.zip (S.drop 1)).map fun p => covOK n p.1 p.2)).map D.bl = Z at *
  simp [h5, cut_from1, e7, hv2', hzl', -List.map_map, -J.v_all, -List.drop_one]
theorem shows_t2 {n : Nat} (h0 : 0 < n) (hn : n < 5) {S : List (List (List Row))} (hso : ∀ l ∈ S, l.length ≤ 1000 ∧ ∀ t ∈ l, Ok n t) (hSl : S.length ≤ 1000) (htot : S.flatten.length ≤ 1000) (A B C y6 y7 : Sl) (w : Wd) : (sSeq (sIf (eTest (eAny (aCons (eL (fLc2 (iItems (eBor 5)) (gN 7) tYesJ (iItems (eVar 7)) (gN 12) tYesJ (eCall 1 G_are_ascending (aCons (eVar 12) aNil)) [7, 12] [12])) aNil))) (sSeq (sRet (eC (.bl false))) sNil) sNil) (sSeq (sSet 8 (eCall 1 G_orders_of (aCons (eVar 3) aNil))) (sSeq (sRet (eAll (aCons (eL (fLc (iZipJ (aCons (eBor 5) (aCons (eL (fSl (eBor 5) (oSo (eC (.int 1))) oNo)) aNil))) (gT 2 (gsCons (gN 11) (gsCons (gN 13) gsNil))) tYesJ (eCall 4 G_is_covered (aCons (eVar 11) (aCons (eVar 13) (aCons (eVar 4) (aCons (eVar 8) aNil))))) [11, 13])) aNil))) sNil))) [A, B, C, .d (.int n), .d (netD (prs n)), .own (S.map setsT), y6, y7, .no, .no, .no, .no, .no, .no] w = some (.rt (.bl (!(S.flatten.any upS) && (S.zip (S.drop 1)).all fun p => covOK n p.1 p.2)) w) := by
  have e6 : lcGo2 (gN 7) tYesJ (iItems (eVar 7)) (gN 12) tYesJ (eCall 1 G_are_ascending (aCons (eVar 12) aNil)) [12] [A, B, C, .d (.int n), .d (netD (prs n)), .own (S.map setsT), y6, .no, .no, .no, .no, .no, .no, .no] (S.map setsT) w = some ((S.flatMap fun l => l.map upS).map D.bl, w) := by
    refine lcGo2_map setsT D.bl (fun l => l.map upS) S fun l hl => ⟨_, l.map setD, rfl, rfl, ?_⟩
    rw [List.map_map]
    refine lcGo_map setD _ l fun t ht => ⟨_, rfl, ?_⟩
    have ht' := ascending_on t (by have := ((hso l hl).2 t ht).len hn; omega) w
    rw [up_all] at ht'
    simp [ht']
  rw [flat_up] at e6
  have hv := v_any (S.flatten.map upS)
  rw [List.any_map] at hv
  have hv' : gAny [.lst ((S.flatten.map upS).map D.bl)] = some (.bl (S.flatten.any upS)) := hv
  have hfl : ((S.flatten.map upS).map D.bl).length ≤ line := by
    rw [List.length_map, List.length_map, line_eq]
    omega
  have ht3 := shows_t3 h0 hn hso hSl A B C y6 y7 w
  generalize (S.flatten.map upS).map D.bl = Z at *
  have ht : (eTest (eAny (aCons (eL (fLc2 (iItems (eBor 5)) (gN 7) tYesJ (iItems (eVar 7)) (gN 12) tYesJ (eCall 1 G_are_ascending (aCons (eVar 12) aNil)) [7, 12] [12])) aNil))) [A, B, C, .d (.int n), .d (netD (prs n)), .own (S.map setsT), y6, y7, .no, .no, .no, .no, .no, .no] w = some (S.flatten.any upS, w) := by
    simp [e6, hv', hfl, -List.map_map, -J.v_any]
  cases hu : S.flatten.any upS with
  | true =>
    rw [hu] at ht
    exact sif_ret ht
  | false =>
    rw [hu] at ht
    exact (sif_no ht).trans ht3
theorem shows_t1 {n : Nat} (h0 : 0 < n) (hn : n < 5) {S : List (List (List Row))} (hso : ∀ l ∈ S, l.length ≤ 1000 ∧ ∀ t ∈ l, Ok n t) (hSl : S.length ≤ 1000) (htot : S.flatten.length ≤ 1000) (net : List Pr) (ls : List (List (List Pr))) (B C y6 y7 : Sl) (w : Wd) : (sSeq (sIf (tAndJ (eTest (eNe (eAttr "LeastNet" "layers" (eBor 0)) (eL (fLst aNil)))) (eTest (eNe (eIx (eAttr "LeastNet" "layers" (eBor 0)) (eC (.int 0))) (eL (fLst (aCons (eL (fLst aNil)) aNil)))))) (sSeq (sRet (eC (.bl false))) sNil) sNil) (sSeq (sIf (eTest (eAny (aCons (eL (fLc2 (iItems (eBor 5)) (gN 7) tYesJ (iItems (eVar 7)) (gN 12) tYesJ (eCall 1 G_are_ascending (aCons (eVar 12) aNil)) [7, 12] [12])) aNil))) (sSeq (sRet (eC (.bl false))) sNil) sNil) (sSeq (sSet 8 (eCall 1 G_orders_of (aCons (eVar 3) aNil))) (sSeq (sRet (eAll (aCons (eL (fLc (iZipJ (aCons (eBor 5) (aCons (eL (fSl (eBor 5) (oSo (eC (.int 1))) oNo)) aNil))) (gT 2 (gsCons (gN 11) (gsCons (gN 13) gsNil))) tYesJ (eCall 4 G_is_covered (aCons (eVar 11) (aCons (eVar 13) (aCons (eVar 4) (aCons (eVar 8) aNil))))) [11, 13])) aNil))) sNil)))) [.d (objD net ls), B, C, .d (.int n), .d (netD (prs n)), .own (S.map setsT), y6, y7, .no, .no, .no, .no, .no, .no] w = some (.rt (.bl ((decide (ls = []) || decide (ls.headD [] = [[]])) && (!(S.flatten.any upS) && (S.zip (S.drop 1)).all fun p => covOK n p.1 p.2))) w) := by
  have ht2 := shows_t2 h0 hn hso hSl htot (.d (objD net ls)) B C y6 y7 w
  have n1 : neD (laysD ls) (.lst []) = some (.bl (!decide (ls = []))) := ne_lays ls []
  have n2 : ls ≠ [] → idxD (laysD ls) (.int 0) = some (layerD (ls.headD [])) := fun z => by
    cases ls with
    | nil => exact absurd rfl z
    | cons a r => unfold laysD; simp
  have n3 : neD (layerD (ls.headD [])) (.lst [.lst []]) = some (.bl (!decide (ls.headD [] = [[]]))) := ne_layer (ls.headD []) [[]]
  generalize ls.headD [] = L0 at *
  have ht : (tAndJ (eTest (eNe (eAttr "LeastNet" "layers" (eBor 0)) (eL (fLst aNil)))) (eTest (eNe (eIx (eAttr "LeastNet" "layers" (eBor 0)) (eC (.int 0))) (eL (fLst (aCons (eL (fLst aNil)) aNil)))))) [.d (objD net ls), B, C, .d (.int n), .d (netD (prs n)), .own (S.map setsT), y6, y7, .no, .no, .no, .no, .no, .no] w = some (!(decide (ls = []) || decide (L0 = [[]])), w) := by
    by_cases hne : ls = []
    · subst hne
      simp [n1, line_eq]
    · simp [n1, hne, n2 hne, n3, line_eq]
  cases hu : (decide (ls = []) || decide (L0 = [[]])) with
  | false =>
    rw [hu] at ht
    exact sif_ret ht
  | true =>
    rw [hu] at ht
    exact (sif_no ht).trans ht2
theorem shows_u2 {n : Nat} (h0 : 0 < n) (hn : n < 5) {rows : List Row} (hr : Ok n rows) {net : List Pr} {ls : List (List (List Pr))} (E : Evi n net ls) (pd : D) (w : Wd) : (sSeq (sSetO 5 (fLst aNil)) (sSeq (sFor (iEnumJ (aCons (eAttr "LeastNet" "layers" (eBor 0)) aNil)) (gT 2 (gsCons (gN 6) (gsCons (gN 7) gsNil))) (sSeq (sIf (tNotJ (eTest (eAll (aCons (eL (fLc (iItems (eBor 7)) (gN 10) tYesJ (eAnd (eEq (eLen (aCons (eBor 10) aNil)) (eBor 6)) (eAll (aCons (eL (fLc (iItems (eBor 10)) (gN 11) tYesJ (eIn (eBor 11) (eBor 4)) [11])) aNil))) [10])) aNil)))) (sSeq (sRet (eC (.bl false))) sNil) sNil) (sSeq (sApp 5 (eL (fLc (iItems (eBor 7)) (gN 10) tYesJ (eCall 2 G_behind (aCons (eVar 2) (aCons (eVar 10) aNil))) [10]))) sNil))) (sSeq (sIf (tAndJ (eTest (eNe (eAttr "LeastNet" "layers" (eBor 0)) (eL (fLst aNil)))) (eTest (eNe (eIx (eAttr "LeastNet" "layers" (eBor 0)) (eC (.int 0))) (eL (fLst (aCons (eL (fLst aNil)) aNil)))))) (sSeq (sRet (eC (.bl false))) sNil) sNil) (sSeq (sIf (eTest (eAny (aCons (eL (fLc2 (iItems (eBor 5)) (gN 7) tYesJ (iItems (eVar 7)) (gN 12) tYesJ (eCall 1 G_are_ascending (aCons (eVar 12) aNil)) [7, 12] [12])) aNil))) (sSeq (sRet (eC (.bl false))) sNil) sNil) (sSeq (sSet 8 (eCall 1 G_orders_of (aCons (eVar 3) aNil))) (sSeq (sRet (eAll (aCons (eL (fLc (iZipJ (aCons (eBor 5) (aCons (eL (fSl (eBor 5) (oSo (eC (.int 1))) oNo)) aNil))) (gT 2 (gsCons (gN 11) (gsCons (gN 13) gsNil))) tYesJ (eCall 4 G_is_covered (aCons (eVar 11) (aCons (eVar 13) (aCons (eVar 4) (aCons (eVar 8) aNil))))) [11, 13])) aNil))) sNil)))))) [.d (objD net ls), .d pd, .d (setD rows), .d (.int n), .d (netD (prs n)), .no, .no, .no, .no, .no, .no, .no, .no, .no] w = some (.rt (.bl (!(ls.zipIdx.any lenBad) && ((decide (ls = []) || decide (ls.headD [] = [[]])) && (!((setsP rows ls).flatten.any upS) && ((setsP rows ls).zip ((setsP rows ls).drop 1)).all fun p => covOK n p.1 p.2)))) w) := by
  obtain ⟨l1, l2⟩ := shows_loop h0 hn hr (.d (objD net ls)) (.d pd) .no .no .no .no .no .no w ls 0 [] .no .no (fun l hl => ⟨E.sm.2 l hl, E.gl l hl, E.ll l hl⟩) (by have := E.sm.1; simp; omega)
  rw [List.map_nil] at l1 l2
  have hso := sets_ok hn hr E
  have htot := sets_tot rows ls
  have ha : sSetO 5 (fLst aNil) [.d (objD net ls), .d pd, .d (setD rows), .d (.int n), .d (netD (prs n)), .no, .no, .no, .no, .no, .no, .no, .no, .no] w = some (.nx [.d (objD net ls), .d pd, .d (setD rows), .d (.int n), .d (netD (prs n)), .own [], .no, .no, .no, .no, .no, .no, .no, .no] w) := by
    simp [line_eq]
  have hs : iEnumJ (aCons (eAttr "LeastNet" "layers" (eBor 0)) aNil) [.d (objD net ls), .d pd, .d (setD rows), .d (.int n), .d (netD (prs n)), .own [], .no, .no, .no, .no, .no, .no, .no, .no] w = some (enumD 0 (ls.map layerD), w) := by
    simp
  rw [seq_nx ha]
  cases hbad : ls.zipIdx.any lenBad with
  | true =>
    refine seq_rt (d := .bl false) ?_
    rw [sFor.ap, hs, fo1.on]
    exact l1 hbad
  | false =>
    obtain ⟨y6, y7, l2'⟩ := l2 hbad
    rw [List.nil_append] at l2'
    refine (seq_nx (by rw [sFor.ap, hs, fo1.on]; exact l2')).trans ?_
    exact shows_t1 h0 hn hso (by unfold setsP; rw [List.length_map]; exact E.sm.1) (by rw [htot]; exact E.tot) net ls (.d pd) (.d (setD rows)) y6 y7 w
theorem shows_u1 {n : Nat} (h0 : 0 < n) (hn : n < 5) {rows : List Row} (hr : Ok n rows) {net : List Pr} {ls : List (List (List Pr))} (E : Evi n net ls) (pd : D) (w : Wd) : (sSeq (sIf (eTest (eNe (eLen (aCons (eAttr "LeastNet" "layers" (eBor 0)) aNil)) (eLen (aCons (eAttr "LeastNet" "net" (eBor 0)) aNil)))) (sSeq (sRet (eC (.bl false))) sNil) sNil) (sSeq (sSetO 5 (fLst aNil)) (sSeq (sFor (iEnumJ (aCons (eAttr "LeastNet" "layers" (eBor 0)) aNil)) (gT 2 (gsCons (gN 6) (gsCons (gN 7) gsNil))) (sSeq (sIf (tNotJ (eTest (eAll (aCons (eL (fLc (iItems (eBor 7)) (gN 10) tYesJ (eAnd (eEq (eLen (aCons (eBor 10) aNil)) (eBor 6)) (eAll (aCons (eL (fLc (iItems (eBor 10)) (gN 11) tYesJ (eIn (eBor 11) (eBor 4)) [11])) aNil))) [10])) aNil)))) (sSeq (sRet (eC (.bl false))) sNil) sNil) (sSeq (sApp 5 (eL (fLc (iItems (eBor 7)) (gN 10) tYesJ (eCall 2 G_behind (aCons (eVar 2) (aCons (eVar 10) aNil))) [10]))) sNil))) (sSeq (sIf (tAndJ (eTest (eNe (eAttr "LeastNet" "layers" (eBor 0)) (eL (fLst aNil)))) (eTest (eNe (eIx (eAttr "LeastNet" "layers" (eBor 0)) (eC (.int 0))) (eL (fLst (aCons (eL (fLst aNil)) aNil)))))) (sSeq (sRet (eC (.bl false))) sNil) sNil) (sSeq (sIf (eTest (eAny (aCons (eL (fLc2 (iItems (eBor 5)) (gN 7) tYesJ (iItems (eVar 7)) (gN 12) tYesJ (eCall 1 G_are_ascending (aCons (eVar 12) aNil)) [7, 12] [12])) aNil))) (sSeq (sRet (eC (.bl false))) sNil) sNil) (sSeq (sSet 8 (eCall 1 G_orders_of (aCons (eVar 3) aNil))) (sSeq (sRet (eAll (aCons (eL (fLc (iZipJ (aCons (eBor 5) (aCons (eL (fSl (eBor 5) (oSo (eC (.int 1))) oNo)) aNil))) (gT 2 (gsCons (gN 11) (gsCons (gN 13) gsNil))) tYesJ (eCall 4 G_is_covered (aCons (eVar 11) (aCons (eVar 13) (aCons (eVar 4) (aCons (eVar 8) aNil))))) [11, 13])) aNil))) sNil))))))) [.d (objD net ls), .d pd, .d (setD rows), .d (.int n), .d (netD (prs n)), .no, .no, .no, .no, .no, .no, .no, .no, .no] w = some (.rt (.bl (decide (ls.length = net.length) && (!(ls.zipIdx.any lenBad) && ((decide (ls = []) || decide (ls.headD [] = [[]])) && (!((setsP rows ls).flatten.any upS) && ((setsP rows ls).zip ((setsP rows ls).drop 1)).all fun p => covOK n p.1 p.2))))) w) := by
  have hu := shows_u2 h0 hn hr E pd w
  have ht : (eTest (eNe (eLen (aCons (eAttr "LeastNet" "layers" (eBor 0)) aNil)) (eLen (aCons (eAttr "LeastNet" "net" (eBor 0)) aNil)))) [.d (objD net ls), .d pd, .d (setD rows), .d (.int n), .d (netD (prs n)), .no, .no, .no, .no, .no, .no, .no, .no, .no] w = some (!decide (ls.length = net.length), w) := by
    by_cases hl : ls.length = net.length
    · simp [hl]
    · have hl' : ¬((ls.length : Int) = (net.length : Int)) := by omega
      simp [hl, hl']
  by_cases hl : ls.length = net.length
  · rw [decide_eq_true hl] at ht ⊢
    exact (sif_no ht).trans hu
  · rw [decide_eq_false hl] at ht ⊢
    exact sif_ret ht
theorem shows_u0 {n : Nat} (h0 : 0 < n) (hn : n < 5) {rows : List Row} (hr : Ok n rows) {net : List Pr} {ls : List (List (List Pr))} (E : Evi n net ls) (pd : D) (w : Wd) : (sSeq (sIf (tOrJ (tNotJ (eTest (eAll (aCons (eL (fLc (iItems (eAttr "LeastNet" "net" (eBor 0))) (gN 9) tYesJ (eIn (eBor 9) (eBor 4)) [9])) aNil)))) (tNotJ (eTest (eCall 1 G_are_ascending (aCons (eCall 2 G_behind (aCons (eVar 2) (aCons (eAttr "LeastNet" "net" (eBor 0)) aNil))) aNil))))) (sSeq (sRet (eC (.bl false))) sNil) sNil) (sSeq (sIf (eTest (eNe (eLen (aCons (eAttr "LeastNet" "layers" (eBor 0)) aNil)) (eLen (aCons (eAttr "LeastNet" "net" (eBor 0)) aNil)))) (sSeq (sRet (eC (.bl false))) sNil) sNil) (sSeq (sSetO 5 (fLst aNil)) (sSeq (sFor (iEnumJ (aCons (eAttr "LeastNet" "layers" (eBor 0)) aNil)) (gT 2 (gsCons (gN 6) (gsCons (gN 7) gsNil))) (sSeq (sIf (tNotJ (eTest (eAll (aCons (eL (fLc (iItems (eBor 7)) (gN 10) tYesJ (eAnd (eEq (eLen (aCons (eBor 10) aNil)) (eBor 6)) (eAll (aCons (eL (fLc (iItems (eBor 10)) (gN 11) tYesJ (eIn (eBor 11) (eBor 4)) [11])) aNil))) [10])) aNil)))) (sSeq (sRet (eC (.bl false))) sNil) sNil) (sSeq (sApp 5 (eL (fLc (iItems (eBor 7)) (gN 10) tYesJ (eCall 2 G_behind (aCons (eVar 2) (aCons (eVar 10) aNil))) [10]))) sNil))) (sSeq (sIf (tAndJ (eTest (eNe (eAttr "LeastNet" "layers" (eBor 0)) (eL (fLst aNil)))) (eTest (eNe (eIx (eAttr "LeastNet" "layers" (eBor 0)) (eC (.int 0))) (eL (fLst (aCons (eL (fLst aNil)) aNil)))))) (sSeq (sRet (eC (.bl false))) sNil) sNil) (sSeq (sIf (eTest (eAny (aCons (eL (fLc2 (iItems (eBor 5)) (gN 7) tYesJ (iItems (eVar 7)) (gN 12) tYesJ (eCall 1 G_are_ascending (aCons (eVar 12) aNil)) [7, 12] [12])) aNil))) (sSeq (sRet (eC (.bl false))) sNil) sNil) (sSeq (sSet 8 (eCall 1 G_orders_of (aCons (eVar 3) aNil))) (sSeq (sRet (eAll (aCons (eL (fLc (iZipJ (aCons (eBor 5) (aCons (eL (fSl (eBor 5) (oSo (eC (.int 1))) oNo)) aNil))) (gT 2 (gsCons (gN 11) (gsCons (gN 13) gsNil))) tYesJ (eCall 4 G_is_covered (aCons (eVar 11) (aCons (eVar 13) (aCons (eVar 4) (aCons (eVar 8) aNil))))) [11, 13])) aNil))) sNil)))))))) [.d (objD net ls), .d pd, .d (setD rows), .d (.int n), .d (netD (prs n)), .no, .no, .no, .no, .no, .no, .no, .no, .no] w = some (.rt (.bl (showsP n rows net ls)) w) := by
  have hu1 := shows_u1 h0 hn hr E pd w
  have e1 : lcGo (gN 9) tYesJ (eIn (eBor 9) (eBor 4)) [.d (objD net ls), .d pd, .d (setD rows), .d (.int n), .d (netD (prs n)), .no, .no, .no, .no, .no, .no, .no, .no, .no] (net.map pairD) w = some ((net.map fun q => decide (q ∈ prs n)).map D.bl, w) := by
    rw [List.map_map]
    exact lcGo_map pairD _ net fun q hq => ⟨_, rfl, by simp⟩
  have e2 := all_in E.g
  have hb := behind_ok h0 hn hr E.g w
  have hok := hr.bhd hn E.g
  have ha := ascending_on (bhd rows net) (by have := hok.len hn; omega) w
  rw [up_all] at ha
  have hnl : ((net.map fun q => decide (q ∈ prs n)).map D.bl).length ≤ line := by
    have := E.ln
    rw [List.length_map, List.length_map, line_eq]
    omega
  generalize (net.map fun q => decide (q ∈ prs n)).map D.bl = Z at *
  have ht : (tOrJ (tNotJ (eTest (eAll (aCons (eL (fLc (iItems (eAttr "LeastNet" "net" (eBor 0))) (gN 9) tYesJ (eIn (eBor 9) (eBor 4)) [9])) aNil)))) (tNotJ (eTest (eCall 1 G_are_ascending (aCons (eCall 2 G_behind (aCons (eVar 2) (aCons (eAttr "LeastNet" "net" (eBor 0)) aNil))) aNil))))) [.d (objD net ls), .d pd, .d (setD rows), .d (.int n), .d (netD (prs n)), .no, .no, .no, .no, .no, .no, .no, .no, .no] w = some (!upS (bhd rows net), w) := by
    simp [e1, hnl, e2, hb, ha]
  unfold showsP
  cases hu : upS (bhd rows net) with
  | false =>
    rw [hu] at ht
    exact sif_ret ht
  | true =>
    rw [hu] at ht
    exact (sif_no ht).trans hu1
theorem ap_shows (a b : D) (w : Wd) : G_LeastNet_shows [a, b] w = fin (g_LeastNet_shows [.d a, .d b, .no, .no, .no, .no, .no, .no, .no, .no, .no, .no, .no, .no] w) := rfl
theorem shows_on {n : Nat} {rows : List Row} {pd : D} (P : Pts n rows pd) {net : List Pr} {ls : List (List (List Pr))} (E : Evi n net ls) (w : Wd) : G_LeastNet_shows [objD net ls, pd] w = some (.bl (showsP n rows net ls), w) := by
  have h1 := P.chk w
  have h2 := P.rws w
  have h3 := P.sm
  have h4 : G_exchanges_of [.int n] w = some (netD (prs n), w) := exchanges_on n (by have := P.p5; omega) w
  have hA : sDrop (eCall 1 G_check_parts (aCons (eVar 1) aNil)) [.d (objD net ls), .d pd, .no, .no, .no, .no, .no, .no, .no, .no, .no, .no, .no, .no] w = some (.nx [.d (objD net ls), .d pd, .no, .no, .no, .no, .no, .no, .no, .no, .no, .no, .no, .no] w) := by
    simp [h1]
  have hB : sAsg (eTup (aCons (eCall 1 G_rows_of (aCons (eVar 1) aNil)) (aCons (eSumB (aCons (eBor 1) aNil)) aNil))) (goN (gT 2 (gsCons (gN 2) (gsCons (gN 3) gsNil)))) [.d (objD net ls), .d pd, .no, .no, .no, .no, .no, .no, .no, .no, .no, .no, .no, .no] w = some (.nx [.d (objD net ls), .d pd, .d (setD rows), .d (.int n), .no, .no, .no, .no, .no, .no, .no, .no, .no, .no] w) := by
    simp [h2, h3, line_eq]
  have hC : sSet 4 (eCall 1 G_exchanges_of (aCons (eVar 3) aNil)) [.d (objD net ls), .d pd, .d (setD rows), .d (.int n), .no, .no, .no, .no, .no, .no, .no, .no, .no, .no] w = some (.nx [.d (objD net ls), .d pd, .d (setD rows), .d (.int n), .d (netD (prs n)), .no, .no, .no, .no, .no, .no, .no, .no, .no] w) := by
    simp [h4]
  have hu := shows_u0 P.p0 P.p5 P.ok E pd w
  rw [ap_shows]
  unfold g_LeastNet_shows
  rw [seq_nx hA, seq_nx hB, seq_nx hC, hu]
  rfl
end K60
namespace K60
open PySem PyProof.Rows L2 J
/-! the law's judgement of evidence -/
theorem right_b4 {n : Nat} (h0 : 0 < n) (hn : n < 5) {rows : List Row} (hr : Ok n rows) {T : List (List Row)} (hT : ∀ t ∈ T, Ok n t) (hTl : T.length ≤ 1000) {s : List Row} (hs : Ok n s) {q : Pr} (hq : q ∈ prs n) (A B y6 y7 y8 y9 y13 : Sl) (w : Wd) :
    (uncov n T s q = true → (sSeq (sSet 13 (eCall 2 G__law_led (aCons (eVar 11) (aCons (eL (fLst (aCons (eVar 12) aNil))) aNil)))) (sSeq (sIf (tAndJ (eTest (eNe (eBor 13) (eBor 11))) (tNotJ (eTest (eAny (aCons (eL (fLc (iItems (eBor 10)) (gN 14) tYesJ (eCall 3 G__law_covers (aCons (eVar 14) (aCons (eVar 13) (aCons (eVar 5) aNil)))) [14])) aNil))))) (sSeq (sRet (eC (.bl false))) sNil) sNil) sNil)) [A, B, .d (setL rows), .d (.int n), .d (netD (prs n)), .d (ordsD (ordsP n)), y6, y7, y8, y9, .d (.lst (T.map setL)), .d (setL s), .d (pairD q), y13, .no] w = some (.rt (.bl false) w)) ∧ (uncov n T s q = false → (sSeq (sSet 13 (eCall 2 G__law_led (aCons (eVar 11) (aCons (eL (fLst (aCons (eVar 12) aNil))) aNil)))) (sSeq (sIf (tAndJ (eTest (eNe (eBor 13) (eBor 11))) (tNotJ (eTest (eAny (aCons (eL (fLc (iItems (eBor 10)) (gN 14) tYesJ (eCall 3 G__law_covers (aCons (eVar 14) (aCons (eVar 13) (aCons (eVar 5) aNil)))) [14])) aNil))))) (sSeq (sRet (eC (.bl false))) sNil) sNil) sNil)) [A, B, .d (setL rows), .d (.int n), .d (netD (prs n)), .d (ordsD (ordsP n)), y6, y7, y8, y9, .d (.lst (T.map setL)), .d (setL s), .d (pairD q), y13, .no] w = some (.nx [A, B, .d (setL rows), .d (.int n), .d (netD (prs n)), .d (ordsD (ordsP n)), y6, y7, y8, y9, .d (.lst (T.map setL)), .d (setL s), .d (pairD q), .d (setL (bhd s [q])), .no] w)) := by
  have hb := law_led_ok h0 hn hs (Gd.one hq) w
  have hok := hs.bhd hn (Gd.one hq)
  have hA : sSet 13 (eCall 2 G__law_led (aCons (eVar 11) (aCons (eL (fLst (aCons (eVar 12) aNil))) aNil))) [A, B, .d (setL rows), .d (.int n), .d (netD (prs n)), .d (ordsD (ordsP n)), y6, y7, y8, y9, .d (.lst (T.map setL)), .d (setL s), .d (pairD q), y13, .no] w = some (.nx [A, B, .d (setL rows), .d (.int n), .d (netD (prs n)), .d (ordsD (ordsP n)), y6, y7, y8, y9, .d (.lst (T.map setL)), .d (setL s), .d (pairD q), .d (setL (bhd s [q])), .no] w) := by
    simp [line_eq, one_net, hb]
  have ec : lcGo (gN 14) tYesJ (eCall 3 G__law_covers (aCons (eVar 14) (aCons (eVar 13) (aCons (eVar 5) aNil)))) [A, B, .d (setL rows), .d (.int n), .d (netD (prs n)), .d (ordsD (ordsP n)), y6, y7, y8, y9, .d (.lst (T.map setL)), .d (setL s), .d (pairD q), .d (setL (bhd s [q])), .no] (T.map setL) w = some ((T.map fun t => coversP (ordsP n) t (bhd s [q])).map D.bl, w) := by
    rw [List.map_map]
    exact lcGo_map setL _ T fun t ht => ⟨_, rfl, by simp [law_covers_ok hn (hT t ht) hok]⟩
  have hv := v_any (T.map fun t => coversP (ordsP n) t (bhd s [q]))
  rw [List.any_map] at hv
  have hv' : gAny [.lst ((T.map fun t => coversP (ordsP n) t (bhd s [q])).map D.bl)] = some (.bl (T.any fun t => coversP (ordsP n) t (bhd s [q]))) := hv
  have hl : ((T.map fun t => coversP (ordsP n) t (bhd s [q])).map D.bl).length ≤ line := by
    rw [List.length_map, List.length_map, line_eq]
    omega
  have ht : (tAndJ (eTest (eNe (eBor 13) (eBor 11))) (tNotJ (eTest (eAny (aCons (eL (fLc (iItems (eBor 10)) (gN 14) tYesJ (eCall 3 G__law_covers (aCons (eVar 14) (aCons (eVar 13) (aCons (eVar 5) aNil)))) [14])) aNil))))) [A, B, .d (setL rows), .d (.int n), .d (netD (prs n)), .d (ordsD (ordsP n)), y6, y7, y8, y9, .d (.lst (T.map setL)), .d (setL s), .d (pairD q), .d (setL (bhd s [q])), .no] w = some (uncov n T s q, w) := by
    unfold uncov
    generalize (T.map fun t => coversP (ordsP n) t (bhd s [q])).map D.bl = Z at *
    generalize (T.any fun t => coversP (ordsP n) t (bhd s [q])) = u at *
    generalize bhd s [q] = late at *
    by_cases hne : late = s
    · simp [hne]
    · simp [hne, ec, hl, hv']
  refine ⟨fun h => ?_, fun h => ?_⟩
  · rw [h] at ht
    exact (seq_nx hA).trans (sif_ret ht)
  · rw [h] at ht
    exact (seq_nx hA).trans (sif_no ht)
theorem right_b3 {n : Nat} (h0 : 0 < n) (hn : n < 5) {rows : List Row} (hr : Ok n rows) {T : List (List Row)} (hT : ∀ t ∈ T, Ok n t) (hTl : T.length ≤ 1000) {m : List Pr} (hm : Gd n m) (A B y6 y7 y9 y11 y12 y13 : Sl) (w : Wd) :
    (badS n T (bhd rows m) = true → (sSeq (sSet 11 (eCall 2 G__law_led (aCons (eVar 2) (aCons (eVar 8) aNil)))) (sSeq (sFor (iItems (eVar 4)) (gN 12) (sSeq (sSet 13 (eCall 2 G__law_led (aCons (eVar 11) (aCons (eL (fLst (aCons (eVar 12) aNil))) aNil)))) (sSeq (sIf (tAndJ (eTest (eNe (eBor 13) (eBor 11))) (tNotJ (eTest (eAny (aCons (eL (fLc (iItems (eBor 10)) (gN 14) tYesJ (eCall 3 G__law_covers (aCons (eVar 14) (aCons (eVar 13) (aCons (eVar 5) aNil)))) [14])) aNil))))) (sSeq (sRet (eC (.bl false))) sNil) sNil) sNil))) sNil)) [A, B, .d (setL rows), .d (.int n), .d (netD (prs n)), .d (ordsD (ordsP n)), y6, y7, .d (netD m), y9, .d (.lst (T.map setL)), y11, y12, y13, .no] w = some (.rt (.bl false) w)) ∧ (badS n T (bhd rows m) = false → ∃ z11 z12 z13 : Sl, (sSeq (sSet 11 (eCall 2 G__law_led (aCons (eVar 2) (aCons (eVar 8) aNil)))) (sSeq (sFor (iItems (eVar 4)) (gN 12) (sSeq (sSet 13 (eCall 2 G__law_led (aCons (eVar 11) (aCons (eL (fLst (aCons (eVar 12) aNil))) aNil)))) (sSeq (sIf (tAndJ (eTest (eNe (eBor 13) (eBor 11))) (tNotJ (eTest (eAny (aCons (eL (fLc (iItems (eBor 10)) (gN 14) tYesJ (eCall 3 G__law_covers (aCons (eVar 14) (aCons (eVar 13) (aCons (eVar 5) aNil)))) [14])) aNil))))) (sSeq (sRet (eC (.bl false))) sNil) sNil) sNil))) sNil)) [A, B, .d (setL rows), .d (.int n), .d (netD (prs n)), .d (ordsD (ordsP n)), y6, y7, .d (netD m), y9, .d (.lst (T.map setL)), y11, y12, y13, .no] w = some (.nx [A, B, .d (setL rows), .d (.int n), .d (netD (prs n)), .d (ordsD (ordsP n)), y6, y7, .d (netD m), y9, .d (.lst (T.map setL)), z11, z12, z13, .no] w)) := by
  have hb := law_led_ok h0 hn hr hm w
  have hs := hr.bhd hn hm
  unfold badS
  generalize bhd rows m = s at *
  obtain ⟨i1, i2⟩ := forGo_bad (tg := gN 12) (body := (sSeq (sSet 13 (eCall 2 G__law_led (aCons (eVar 11) (aCons (eL (fLst (aCons (eVar 12) aNil))) aNil)))) (sSeq (sIf (tAndJ (eTest (eNe (eBor 13) (eBor 11))) (tNotJ (eTest (eAny (aCons (eL (fLc (iItems (eBor 10)) (gN 14) tYesJ (eCall 3 G__law_covers (aCons (eVar 14) (aCons (eVar 13) (aCons (eVar 5) aNil)))) [14])) aNil))))) (sSeq (sRet (eC (.bl false))) sNil) sNil) sNil))) (w := w) pairD (fun ds => ∃ y12 y13 : Sl, ds = [A, B, .d (setL rows), .d (.int n), .d (netD (prs n)), .d (ordsD (ordsP n)), y6, y7, .d (netD m), y9, .d (.lst (T.map setL)), .d (setL s), y12, y13, .no]) (uncov n T s) (prs n) [A, B, .d (setL rows), .d (.int n), .d (netD (prs n)), .d (ordsD (ordsP n)), y6, y7, .d (netD m), y9, .d (.lst (T.map setL)), .d (setL s), y12, y13, .no] ⟨y12, y13, rfl⟩ fun q hq ds hd => by
    obtain ⟨y12, y13, rfl⟩ := hd
    obtain ⟨k1, k2⟩ := right_b4 h0 hn hr hT hTl hs hq A B y6 y7 (.d (netD m)) y9 y13 w
    exact ⟨_, rfl, k1, fun h => ⟨_, k2 h, _, _, rfl⟩⟩
  have hA : sSet 11 (eCall 2 G__law_led (aCons (eVar 2) (aCons (eVar 8) aNil))) [A, B, .d (setL rows), .d (.int n), .d (netD (prs n)), .d (ordsD (ordsP n)), y6, y7, .d (netD m), y9, .d (.lst (T.map setL)), y11, y12, y13, .no] w = some (.nx [A, B, .d (setL rows), .d (.int n), .d (netD (prs n)), .d (ordsD (ordsP n)), y6, y7, .d (netD m), y9, .d (.lst (T.map setL)), .d (setL s), y12, y13, .no] w) := by
    simp [hb]
  have hi : iItems (eVar 4) [A, B, .d (setL rows), .d (.int n), .d (netD (prs n)), .d (ordsD (ordsP n)), y6, y7, .d (netD m), y9, .d (.lst (T.map setL)), .d (setL s), y12, y13, .no] w = some ((prs n).map pairD, w) := by
    simp
  refine ⟨fun h => (seq_nx hA).trans (seq_rt (by rw [sFor.ap, hi]; exact i1 h)), fun h => ?_⟩
  obtain ⟨ds', e, z12, z13, rfl⟩ := i2 h
  exact ⟨.d (setL s), z12, z13, (seq_nx hA).trans (seq_nx (by rw [sFor.ap, hi]; exact e))⟩
def bad2 (n : Nat) (rows : List Row) (p : List (List Pr) × List (List Pr)) : Bool := p.1.any fun m => badS n (p.2.map (bhd rows)) (bhd rows m)
theorem right_b2 {n : Nat} (h0 : 0 < n) (hn : n < 5) {rows : List Row} (hr : Ok n rows) {p : List (List Pr) × List (List Pr)} (h1 : ∀ m ∈ p.1, Gd n m) (h2 : ∀ m ∈ p.2, Gd n m) (hl : p.2.length ≤ 1000) (A B y6 y8 y10 y11 y12 y13 : Sl) (w : Wd) :
    (bad2 n rows p = true → (sSeq (sSetO 10 (fLc (iItems (eBor 9)) (gN 8) tYesJ (eCall 2 G__law_led (aCons (eVar 2) (aCons (eVar 8) aNil))) [8])) (sFrz 10 (sSeq (sFor (iItems (eVar 7)) (gN 8) (sSeq (sSet 11 (eCall 2 G__law_led (aCons (eVar 2) (aCons (eVar 8) aNil)))) (sSeq (sFor (iItems (eVar 4)) (gN 12) (sSeq (sSet 13 (eCall 2 G__law_led (aCons (eVar 11) (aCons (eL (fLst (aCons (eVar 12) aNil))) aNil)))) (sSeq (sIf (tAndJ (eTest (eNe (eBor 13) (eBor 11))) (tNotJ (eTest (eAny (aCons (eL (fLc (iItems (eBor 10)) (gN 14) tYesJ (eCall 3 G__law_covers (aCons (eVar 14) (aCons (eVar 13) (aCons (eVar 5) aNil)))) [14])) aNil))))) (sSeq (sRet (eC (.bl false))) sNil) sNil) sNil))) sNil))) sNil))) [A, B, .d (setL rows), .d (.int n), .d (netD (prs n)), .d (ordsD (ordsP n)), y6, .d (layerD p.1), y8, .d (layerD p.2), y10, y11, y12, y13, .no] w = some (.rt (.bl false) w)) ∧ (bad2 n rows p = false → ∃ z8 z10 z11 z12 z13 : Sl, (sSeq (sSetO 10 (fLc (iItems (eBor 9)) (gN 8) tYesJ (eCall 2 G__law_led (aCons (eVar 2) (aCons (eVar 8) aNil))) [8])) (sFrz 10 (sSeq (sFor (iItems (eVar 7)) (gN 8) (sSeq (sSet 11 (eCall 2 G__law_led (aCons (eVar 2) (aCons (eVar 8) aNil)))) (sSeq (sFor (iItems (eVar 4)) (gN 12) (sSeq (sSet 13 (eCall 2 G__law_led (aCons (eVar 11) (aCons (eL (fLst (aCons (eVar 12) aNil))) aNil)))) (sSeq (sIf (tAndJ (eTest (eNe (eBor 13) (eBor 11))) (tNotJ (eTest (eAny (aCons (eL (fLc (iItems (eBor 10)) (gN 14) tYesJ (eCall 3 G__law_covers (aCons (eVar 14) (aCons (eVar 13) (aCons (eVar 5) aNil)))) [14])) aNil))))) (sSeq (sRet (eC (.bl false))) sNil) sNil) sNil))) sNil))) sNil))) [A, B, .d (setL rows), .d (.int n), .d (netD (prs n)), .d (ordsD (ordsP n)), y6, .d (layerD p.1), y8, .d (layerD p.2), y10, y11, y12, y13, .no] w = some (.nx [A, B, .d (setL rows), .d (.int n), .d (netD (prs n)), .d (ordsD (ordsP n)), y6, .d (layerD p.1), z8, .d (layerD p.2), z10, z11, z12, z13, .no] w)) := by
  have e1 : lcGo (gN 8) tYesJ (eCall 2 G__law_led (aCons (eVar 2) (aCons (eVar 8) aNil))) [A, B, .d (setL rows), .d (.int n), .d (netD (prs n)), .d (ordsD (ordsP n)), y6, .d (layerD p.1), .no, .d (layerD p.2), y10, y11, y12, y13, .no] (p.2.map netD) w = some ((p.2.map (bhd rows)).map setL, w) := by
    rw [List.map_map]
    exact lcGo_map netD _ p.2 fun m hm => ⟨_, rfl, by simp [law_led_ok h0 hn hr (h2 m hm)]⟩
  have hT : ∀ t ∈ p.2.map (bhd rows), Ok n t := fun t ht => by
    obtain ⟨m, hm, rfl⟩ := List.mem_map.mp ht
    exact hr.bhd hn (h2 m hm)
  have hTl : (p.2.map (bhd rows)).length ≤ 1000 := by
    rw [List.length_map]
    exact hl
  have hll : ((p.2.map (bhd rows)).map setL).length ≤ line := by
    rw [List.length_map, line_eq]
    omega
  unfold bad2
  generalize hTT : p.2.map (bhd rows) = T at *
  obtain ⟨i1, i2⟩ := forGo_bad (tg := gN 8) (body := (sSeq (sSet 11 (eCall 2 G__law_led (aCons (eVar 2) (aCons (eVar 8) aNil)))) (sSeq (sFor (iItems (eVar 4)) (gN 12) (sSeq (sSet 13 (eCall 2 G__law_led (aCons (eVar 11) (aCons (eL (fLst (aCons (eVar 12) aNil))) aNil)))) (sSeq (sIf (tAndJ (eTest (eNe (eBor 13) (eBor 11))) (tNotJ (eTest (eAny (aCons (eL (fLc (iItems (eBor 10)) (gN 14) tYesJ (eCall 3 G__law_covers (aCons (eVar 14) (aCons (eVar 13) (aCons (eVar 5) aNil)))) [14])) aNil))))) (sSeq (sRet (eC (.bl false))) sNil) sNil) sNil))) sNil))) (w := w) netD (fun ds => ∃ y8 y11 y12 y13 : Sl, ds = [A, B, .d (setL rows), .d (.int n), .d (netD (prs n)), .d (ordsD (ordsP n)), y6, .d (layerD p.1), y8, .d (layerD p.2), .d (.lst (T.map setL)), y11, y12, y13, .no]) (fun m => badS n T (bhd rows m)) p.1 [A, B, .d (setL rows), .d (.int n), .d (netD (prs n)), .d (ordsD (ordsP n)), y6, .d (layerD p.1), y8, .d (layerD p.2), .d (.lst (T.map setL)), y11, y12, y13, .no] ⟨y8, y11, y12, y13, rfl⟩ fun m hm ds hd => by
    obtain ⟨y8, y11, y12, y13, rfl⟩ := hd
    obtain ⟨k1, k2⟩ := right_b3 h0 hn hr hT hTl (h1 m hm) A B y6 (.d (layerD p.1)) (.d (layerD p.2)) y11 y12 y13 w
    refine ⟨_, rfl, k1, fun h => ?_⟩
    obtain ⟨z11, z12, z13, e⟩ := k2 h
    exact ⟨_, e, _, _, _, _, rfl⟩
  have hA : sSetO 10 (fLc (iItems (eBor 9)) (gN 8) tYesJ (eCall 2 G__law_led (aCons (eVar 2) (aCons (eVar 8) aNil))) [8]) [A, B, .d (setL rows), .d (.int n), .d (netD (prs n)), .d (ordsD (ordsP n)), y6, .d (layerD p.1), y8, .d (layerD p.2), y10, y11, y12, y13, .no] w = some (.nx [A, B, .d (setL rows), .d (.int n), .d (netD (prs n)), .d (ordsD (ordsP n)), y6, .d (layerD p.1), y8, .d (layerD p.2), .own (T.map setL), y11, y12, y13, .no] w) := by
    generalize T.map setL = Z at *
    simp [e1, hll]
  have hF : ∀ g : Es, sFrz 10 g [A, B, .d (setL rows), .d (.int n), .d (netD (prs n)), .d (ordsD (ordsP n)), y6, .d (layerD p.1), y8, .d (layerD p.2), .own (T.map setL), y11, y12, y13, .no] w = g [A, B, .d (setL rows), .d (.int n), .d (netD (prs n)), .d (ordsD (ordsP n)), y6, .d (layerD p.1), y8, .d (layerD p.2), .d (.lst (T.map setL)), y11, y12, y13, .no] w := fun g => by
    simp
  have hi : iItems (eVar 7) [A, B, .d (setL rows), .d (.int n), .d (netD (prs n)), .d (ordsD (ordsP n)), y6, .d (layerD p.1), y8, .d (layerD p.2), .d (.lst (T.map setL)), y11, y12, y13, .no] w = some (p.1.map netD, w) := by
    simp
  refine ⟨fun h => (seq_nx hA).trans ((hF _).trans (seq_rt (by rw [sFor.ap, hi]; exact i1 h))), fun h => ?_⟩
  obtain ⟨ds', e, z8, z11, z12, z13, rfl⟩ := i2 h
  exact ⟨z8, .d (.lst (T.map setL)), z11, z12, z13, (seq_nx hA).trans ((hF _).trans (seq_nx (by rw [sFor.ap, hi]; exact e)))⟩
/-! the lengths and what is ascending too soon -/
def netBad (rows : List Row) (i : Nat) (m : List Pr) : Bool := !decide (m.length = i) || upS (bhd rows m)
def layBad (rows : List Row) (p : List (List Pr) × Nat) : Bool := p.1.any (netBad rows p.2)
theorem right_bb {n : Nat} (h0 : 0 < n) (hn : n < 5) {rows : List Row} (hr : Ok n rows) {m : List Pr} (hm : Gd n m) (hl : m.length ≤ 1000) (i : Nat) (A B y7 : Sl) (w : Wd) :
    (netBad rows i m = true → (sSeq (sIf (tOrJ (eTest (eNe (eLen (aCons (eBor 8) aNil)) (eBor 6))) (tOrJ (tNotJ (eTest (eAll (aCons (eL (fLc (iItems (eBor 8)) (gN 11) tYesJ (eIn (eBor 11) (eBor 4)) [11])) aNil)))) (eTest (eCall 1 G__law_up (aCons (eCall 2 G__law_led (aCons (eVar 2) (aCons (eVar 8) aNil))) aNil))))) (sSeq (sRet (eC (.bl false))) sNil) sNil) sNil) [A, B, .d (setL rows), .d (.int n), .d (netD (prs n)), .d (ordsD (ordsP n)), .d (.int i), y7, .d (netD m), .no, .no, .no, .no, .no, .no] w = some (.rt (.bl false) w)) ∧ (netBad rows i m = false → (sSeq (sIf (tOrJ (eTest (eNe (eLen (aCons (eBor 8) aNil)) (eBor 6))) (tOrJ (tNotJ (eTest (eAll (aCons (eL (fLc (iItems (eBor 8)) (gN 11) tYesJ (eIn (eBor 11) (eBor 4)) [11])) aNil)))) (eTest (eCall 1 G__law_up (aCons (eCall 2 G__law_led (aCons (eVar 2) (aCons (eVar 8) aNil))) aNil))))) (sSeq (sRet (eC (.bl false))) sNil) sNil) sNil) [A, B, .d (setL rows), .d (.int n), .d (netD (prs n)), .d (ordsD (ordsP n)), .d (.int i), y7, .d (netD m), .no, .no, .no, .no, .no, .no] w = some (.nx [A, B, .d (setL rows), .d (.int n), .d (netD (prs n)), .d (ordsD (ordsP n)), .d (.int i), y7, .d (netD m), .no, .no, .no, .no, .no, .no] w)) := by
  have e1 : lcGo (gN 11) tYesJ (eIn (eBor 11) (eBor 4)) [A, B, .d (setL rows), .d (.int n), .d (netD (prs n)), .d (ordsD (ordsP n)), .d (.int i), y7, .d (netD m), .no, .no, .no, .no, .no, .no] (m.map pairD) w = some ((m.map fun q => decide (q ∈ prs n)).map D.bl, w) := by
    rw [List.map_map]
    exact lcGo_map pairD _ m fun q hq => ⟨_, rfl, by simp⟩
  have e2 := all_in hm
  have hb := law_led_ok h0 hn hr hm w
  have hok := hr.bhd hn hm
  have ha := law_up_on (bhd rows m) (by have := hok.len hn; omega) w
  rw [up_all] at ha
  have hnl : ((m.map fun q => decide (q ∈ prs n)).map D.bl).length ≤ line := by
    rw [List.length_map, List.length_map, line_eq]
    omega
  generalize (m.map fun q => decide (q ∈ prs n)).map D.bl = Z at *
  have ht : (tOrJ (eTest (eNe (eLen (aCons (eBor 8) aNil)) (eBor 6))) (tOrJ (tNotJ (eTest (eAll (aCons (eL (fLc (iItems (eBor 8)) (gN 11) tYesJ (eIn (eBor 11) (eBor 4)) [11])) aNil)))) (eTest (eCall 1 G__law_up (aCons (eCall 2 G__law_led (aCons (eVar 2) (aCons (eVar 8) aNil))) aNil))))) [A, B, .d (setL rows), .d (.int n), .d (netD (prs n)), .d (ordsD (ordsP n)), .d (.int i), y7, .d (netD m), .no, .no, .no, .no, .no, .no] w = some (netBad rows i m, w) := by
    unfold netBad
    by_cases hi : m.length = i
    · subst hi
      simp [e1, hnl, e2, hb, ha]
    · have hi' : ¬((m.length : Int) = (i : Int)) := by omega
      simp [hi, hi']
  refine ⟨fun h => ?_, fun h => ?_⟩
  · rw [h] at ht
    exact sif_ret ht
  · rw [h] at ht
    exact sif_no ht
theorem right_f1 {n : Nat} (h0 : 0 < n) (hn : n < 5) {rows : List Row} (hr : Ok n rows) {ls : List (List (List Pr))} (hg : ∀ l ∈ ls, ∀ m ∈ l, Gd n m) (hl : ∀ l ∈ ls, ∀ m ∈ l, m.length ≤ 1000) (net : List Pr) (A : Sl) (w : Wd) :
    (ls.zipIdx.any (layBad rows) = true → (sFor (iEnumJ (aCons (eAttr "LeastNet" "layers" (eBor 1)) aNil)) (gT 2 (gsCons (gN 6) (gsCons (gN 7) gsNil))) (sSeq (sFor (iItems (eVar 7)) (gN 8) (sSeq (sIf (tOrJ (eTest (eNe (eLen (aCons (eBor 8) aNil)) (eBor 6))) (tOrJ (tNotJ (eTest (eAll (aCons (eL (fLc (iItems (eBor 8)) (gN 11) tYesJ (eIn (eBor 11) (eBor 4)) [11])) aNil)))) (eTest (eCall 1 G__law_up (aCons (eCall 2 G__law_led (aCons (eVar 2) (aCons (eVar 8) aNil))) aNil))))) (sSeq (sRet (eC (.bl false))) sNil) sNil) sNil)) sNil)) [A, .d (objD net ls), .d (setL rows), .d (.int n), .d (netD (prs n)), .d (ordsD (ordsP n)), .no, .no, .no, .no, .no, .no, .no, .no, .no] w = some (.rt (.bl false) w)) ∧ (ls.zipIdx.any (layBad rows) = false → ∃ y6 y7 y8 : Sl, (sFor (iEnumJ (aCons (eAttr "LeastNet" "layers" (eBor 1)) aNil)) (gT 2 (gsCons (gN 6) (gsCons (gN 7) gsNil))) (sSeq (sFor (iItems (eVar 7)) (gN 8) (sSeq (sIf (tOrJ (eTest (eNe (eLen (aCons (eBor 8) aNil)) (eBor 6))) (tOrJ (tNotJ (eTest (eAll (aCons (eL (fLc (iItems (eBor 8)) (gN 11) tYesJ (eIn (eBor 11) (eBor 4)) [11])) aNil)))) (eTest (eCall 1 G__law_up (aCons (eCall 2 G__law_led (aCons (eVar 2) (aCons (eVar 8) aNil))) aNil))))) (sSeq (sRet (eC (.bl false))) sNil) sNil) sNil)) sNil)) [A, .d (objD net ls), .d (setL rows), .d (.int n), .d (netD (prs n)), .d (ordsD (ordsP n)), .no, .no, .no, .no, .no, .no, .no, .no, .no] w = some (.nx [A, .d (objD net ls), .d (setL rows), .d (.int n), .d (netD (prs n)), .d (ordsD (ordsP n)), y6, y7, y8, .no, .no, .no, .no, .no, .no] w)) := by
  have hs : iEnumJ (aCons (eAttr "LeastNet" "layers" (eBor 1)) aNil) [A, .d (objD net ls), .d (setL rows), .d (.int n), .d (netD (prs n)), .d (ordsD (ordsP n)), .no, .no, .no, .no, .no, .no, .no, .no, .no] w = some (ls.zipIdx.map fun p => .tup [.int (p.2 : Int), layerD p.1], w) := by
    simp [enumD_zip]
  obtain ⟨i1, i2⟩ := forGo_bad (tg := gT 2 (gsCons (gN 6) (gsCons (gN 7) gsNil))) (body := (sSeq (sFor (iItems (eVar 7)) (gN 8) (sSeq (sIf (tOrJ (eTest (eNe (eLen (aCons (eBor 8) aNil)) (eBor 6))) (tOrJ (tNotJ (eTest (eAll (aCons (eL (fLc (iItems (eBor 8)) (gN 11) tYesJ (eIn (eBor 11) (eBor 4)) [11])) aNil)))) (eTest (eCall 1 G__law_up (aCons (eCall 2 G__law_led (aCons (eVar 2) (aCons (eVar 8) aNil))) aNil))))) (sSeq (sRet (eC (.bl false))) sNil) sNil) sNil)) sNil)) (w := w) (fun p : List (List Pr) × Nat => .tup [.int (p.2 : Int), layerD p.1]) (fun ds => ∃ y6 y7 y8 : Sl, ds = [A, .d (objD net ls), .d (setL rows), .d (.int n), .d (netD (prs n)), .d (ordsD (ordsP n)), y6, y7, y8, .no, .no, .no, .no, .no, .no]) (layBad rows) ls.zipIdx [A, .d (objD net ls), .d (setL rows), .d (.int n), .d (netD (prs n)), .d (ordsD (ordsP n)), .no, .no, .no, .no, .no, .no, .no, .no, .no] ⟨.no, .no, .no, rfl⟩ fun p hp ds hd => by
    obtain ⟨y6, y7, y8, rfl⟩ := hd
    have hp1 : p.1 ∈ ls := by
      obtain ⟨l, i⟩ := p
      exact (List.mem_zipIdx hp).2.2 ▸ List.getElem_mem _
    have hi : iItems (eVar 7) [A, .d (objD net ls), .d (setL rows), .d (.int n), .d (netD (prs n)), .d (ordsD (ordsP n)), .d (.int p.2), .d (layerD p.1), y8, .no, .no, .no, .no, .no, .no] w = some (p.1.map netD, w) := by
      simp
    obtain ⟨k1, k2⟩ := forGo_bad (tg := gN 8) (body := (sSeq (sIf (tOrJ (eTest (eNe (eLen (aCons (eBor 8) aNil)) (eBor 6))) (tOrJ (tNotJ (eTest (eAll (aCons (eL (fLc (iItems (eBor 8)) (gN 11) tYesJ (eIn (eBor 11) (eBor 4)) [11])) aNil)))) (eTest (eCall 1 G__law_up (aCons (eCall 2 G__law_led (aCons (eVar 2) (aCons (eVar 8) aNil))) aNil))))) (sSeq (sRet (eC (.bl false))) sNil) sNil) sNil)) (w := w) netD (fun ds => ∃ y8 : Sl, ds = [A, .d (objD net ls), .d (setL rows), .d (.int n), .d (netD (prs n)), .d (ordsD (ordsP n)), .d (.int p.2), .d (layerD p.1), y8, .no, .no, .no, .no, .no, .no]) (netBad rows p.2) p.1 [A, .d (objD net ls), .d (setL rows), .d (.int n), .d (netD (prs n)), .d (ordsD (ordsP n)), .d (.int p.2), .d (layerD p.1), y8, .no, .no, .no, .no, .no, .no] ⟨y8, rfl⟩ fun m hm ds hd => by
      obtain ⟨y8, rfl⟩ := hd
      obtain ⟨j1, j2⟩ := right_bb h0 hn hr (hg _ hp1 m hm) (hl _ hp1 m hm) p.2 A (.d (objD net ls)) (.d (layerD p.1)) w
      exact ⟨_, rfl, j1, fun h => ⟨_, j2 h, _, rfl⟩⟩
    refine ⟨[A, .d (objD net ls), .d (setL rows), .d (.int n), .d (netD (prs n)), .d (ordsD (ordsP n)), .d (.int p.2), .d (layerD p.1), y8, .no, .no, .no, .no, .no, .no], by simp, fun h => seq_rt (by rw [sFor.ap, hi]; exact k1 h), fun h => ?_⟩
    obtain ⟨ds', e, z8, rfl⟩ := k2 h
    exact ⟨_, (seq_nx (by rw [sFor.ap, hi]; exact e)).trans rfl, _, _, _, rfl⟩
  refine ⟨fun h => by rw [sFor.ap, hs]; exact i1 h, fun h => ?_⟩
  obtain ⟨ds', e, y6, y7, y8, rfl⟩ := i2 h
  exact ⟨y6, y7, y8, by rw [sFor.ap, hs]; exact e⟩
theorem right_u3 {n : Nat} (h0 : 0 < n) (hn : n < 5) {rows : List Row} (hr : Ok n rows) {ls : List (List (List Pr))} (hg : ∀ l ∈ ls, ∀ m ∈ l, Gd n m) (hl : ∀ l ∈ ls, l.length ≤ 1000) (net : List Pr) (A y6 y7 y8 : Sl) (w : Wd) :
    (sSeq (sFor (iZipJ (aCons (eAttr "LeastNet" "layers" (eBor 1)) (aCons (eL (fSl (eAttr "LeastNet" "layers" (eBor 1)) (oSo (eC (.int 1))) oNo)) aNil))) (gT 2 (gsCons (gN 7) (gsCons (gN 9) gsNil))) (sSeq (sSetO 10 (fLc (iItems (eBor 9)) (gN 8) tYesJ (eCall 2 G__law_led (aCons (eVar 2) (aCons (eVar 8) aNil))) [8])) (sFrz 10 (sSeq (sFor (iItems (eVar 7)) (gN 8) (sSeq (sSet 11 (eCall 2 G__law_led (aCons (eVar 2) (aCons (eVar 8) aNil)))) (sSeq (sFor (iItems (eVar 4)) (gN 12) (sSeq (sSet 13 (eCall 2 G__law_led (aCons (eVar 11) (aCons (eL (fLst (aCons (eVar 12) aNil))) aNil)))) (sSeq (sIf (tAndJ (eTest (eNe (eBor 13) (eBor 11))) (tNotJ (eTest (eAny (aCons (eL (fLc (iItems (eBor 10)) (gN 14) tYesJ (eCall 3 G__law_covers (aCons (eVar 14) (aCons (eVar 13) (aCons (eVar 5) aNil)))) [14])) aNil))))) (sSeq (sRet (eC (.bl false))) sNil) sNil) sNil))) sNil))) sNil)))) (sSeq (sRet (eC (.bl true))) sNil)) [A, .d (objD net ls), .d (setL rows), .d (.int n), .d (netD (prs n)), .d (ordsD (ordsP n)), y6, y7, y8, .no, .no, .no, .no, .no, .no] w = some (.rt (.bl (!((ls.zip (ls.drop 1)).any (bad2 n rows)))) w) := by
  have hz : zipD (ls.map layerD) ((ls.drop 1).map layerD) = (ls.zip (ls.drop 1)).map fun p => .tup [layerD p.1, layerD p.2] := zipD_map layerD layerD ls (ls.drop 1)
  have hs : iZipJ (aCons (eAttr "LeastNet" "layers" (eBor 1)) (aCons (eL (fSl (eAttr "LeastNet" "layers" (eBor 1)) (oSo (eC (.int 1))) oNo)) aNil)) [A, .d (objD net ls), .d (setL rows), .d (.int n), .d (netD (prs n)), .d (ordsD (ordsP n)), y6, y7, y8, .no, .no, .no, .no, .no, .no] w = some (zipD (ls.map layerD) ((ls.drop 1).map layerD), w) := by
    have : ∀ ys : List D, iz1 (some ([laysD ls, .lst ys], w)) = some (zipD (ls.map layerD) ys, w) := fun ys => rfl
    simp [this, -List.drop_one]
  rw [hz] at hs
  obtain ⟨i1, i2⟩ := forGo_bad (tg := gT 2 (gsCons (gN 7) (gsCons (gN 9) gsNil))) (body := (sSeq (sSetO 10 (fLc (iItems (eBor 9)) (gN 8) tYesJ (eCall 2 G__law_led (aCons (eVar 2) (aCons (eVar 8) aNil))) [8])) (sFrz 10 (sSeq (sFor (iItems (eVar 7)) (gN 8) (sSeq (sSet 11 (eCall 2 G__law_led (aCons (eVar 2) (aCons (eVar 8) aNil)))) (sSeq (sFor (iItems (eVar 4)) (gN 12) (sSeq (sSet 13 (eCall 2 G__law_led (aCons (eVar 11) (aCons (eL (fLst (aCons (eVar 12) aNil))) aNil)))) (sSeq (sIf (tAndJ (eTest (eNe (eBor 13) (eBor 11))) (tNotJ (eTest (eAny (aCons (eL (fLc (iItems (eBor 10)) (gN 14) tYesJ (eCall 3 G__law_covers (aCons (eVar 14) (aCons (eVar 13) (aCons (eVar 5) aNil)))) [14])) aNil))))) (sSeq (sRet (eC (.bl false))) sNil) sNil) sNil))) sNil))) sNil)))) (w := w) (fun p : List (List Pr) × List (List Pr) => .tup [layerD p.1, layerD p.2]) (fun ds => ∃ y7 y8 y9 y10 y11 y12 y13 : Sl, ds = [A, .d (objD net ls), .d (setL rows), .d (.int n), .d (netD (prs n)), .d (ordsD (ordsP n)), y6, y7, y8, y9, y10, y11, y12, y13, .no]) (bad2 n rows) (ls.zip (ls.drop 1)) [A, .d (objD net ls), .d (setL rows), .d (.int n), .d (netD (prs n)), .d (ordsD (ordsP n)), y6, y7, y8, .no, .no, .no, .no, .no, .no] ⟨y7, y8, .no, .no, .no, .no, .no, rfl⟩ fun p hp ds hd => by
    obtain ⟨y7, y8, y9, y10, y11, y12, y13, rfl⟩ := hd
    have hp1 := List.of_mem_zip hp
    obtain ⟨k1, k2⟩ := right_b2 h0 hn hr (hg _ hp1.1) (hg _ (List.mem_of_mem_drop hp1.2)) (hl _ (List.mem_of_mem_drop hp1.2)) A (.d (objD net ls)) y6 y8 y10 y11 y12 y13 w
    refine ⟨[A, .d (objD net ls), .d (setL rows), .d (.int n), .d (netD (prs n)), .d (ordsD (ordsP n)), y6, .d (layerD p.1), y8, .d (layerD p.2), y10, y11, y12, y13, .no], by simp, k1, fun h => ?_⟩
    obtain ⟨z8, z10, z11, z12, z13, e⟩ := k2 h
    exact ⟨_, e, _, _, _, _, _, _, _, rfl⟩
  cases hb : (ls.zip (ls.drop 1)).any (bad2 n rows) with
  | true => exact seq_rt (by rw [sFor.ap, hs]; exact i1 hb)
  | false =>
    obtain ⟨ds', e, _⟩ := i2 hb
    exact (seq_nx (by rw [sFor.ap, hs]; exact e)).trans rfl
theorem right_u2 {n : Nat} (h0 : 0 < n) (hn : n < 5) {rows : List Row} (hr : Ok n rows) {ls : List (List (List Pr))} (hg : ∀ l ∈ ls, ∀ m ∈ l, Gd n m) (hl : ∀ l ∈ ls, l.length ≤ 1000) (net : List Pr) (A y6 y7 y8 : Sl) (w : Wd) :
    (sSeq (sIf (tAndJ (eTest (eNe (eAttr "LeastNet" "layers" (eBor 1)) (eL (fLst aNil)))) (eTest (eNe (eL (fLc (iItems (eIx (eAttr "LeastNet" "layers" (eBor 1)) (eC (.int 0)))) (gN 8) tYesJ (eL (fList (aCons (eBor 8) aNil))) [8])) (eL (fLst (aCons (eL (fLst aNil)) aNil)))))) (sSeq (sRet (eC (.bl false))) sNil) sNil) (sSeq (sFor (iZipJ (aCons (eAttr "LeastNet" "layers" (eBor 1)) (aCons (eL (fSl (eAttr "LeastNet" "layers" (eBor 1)) (oSo (eC (.int 1))) oNo)) aNil))) (gT 2 (gsCons (gN 7) (gsCons (gN 9) gsNil))) (sSeq (sSetO 10 (fLc (iItems (eBor 9)) (gN 8) tYesJ (eCall 2 G__law_led (aCons (eVar 2) (aCons (eVar 8) aNil))) [8])) (sFrz 10 (sSeq (sFor (iItems (eVar 7)) (gN 8) (sSeq (sSet 11 (eCall 2 G__law_led (aCons (eVar 2) (aCons (eVar 8) aNil)))) (sSeq (sFor (iItems (eVar 4)) (gN 12) (sSeq (sSet 13 (eCall 2 G__law_led (aCons (eVar 11) (aCons (eL (fLst (aCons (eVar 12) aNil))) aNil)))) (sSeq (sIf (tAndJ (eTest (eNe (eBor 13) (eBor 11))) (tNotJ (eTest (eAny (aCons (eL (fLc (iItems (eBor 10)) (gN 14) tYesJ (eCall 3 G__law_covers (aCons (eVar 14) (aCons (eVar 13) (aCons (eVar 5) aNil)))) [14])) aNil))))) (sSeq (sRet (eC (.bl false))) sNil) sNil) sNil))) sNil))) sNil)))) (sSeq (sRet (eC (.bl true))) sNil))) [A, .d (objD net ls), .d (setL rows), .d (.int n), .d (netD (prs n)), .d (ordsD (ordsP n)), y6, y7, y8, .no, .no, .no, .no, .no, .no] w = some (.rt (.bl ((decide (ls = []) || decide (ls.headD [] = [[]])) && !((ls.zip (ls.drop 1)).any (bad2 n rows)))) w) := by
  have hu := right_u3 h0 hn hr hg hl net A y6 y7 y8 w
  have n1 : neD (laysD ls) (.lst []) = some (.bl (!decide (ls = []))) := ne_lays ls []
  have n2 : ls ≠ [] → idxD (laysD ls) (.int 0) = some (layerD (ls.headD [])) := fun z => by
    cases ls with
    | nil => exact absurd rfl z
    | cons a r => unfold laysD; simp
  have n3 : neD (layerD (ls.headD [])) (.lst [.lst []]) = some (.bl (!decide (ls.headD [] = [[]]))) := ne_layer (ls.headD []) [[]]
  have hL : (ls.headD []).length ≤ 1000 := by
    cases ls with
    | nil => exact Nat.zero_le _
    | cons a r => exact hl a List.mem_cons_self
  generalize ls.headD [] = L0 at *
  have e1 : lcGo (gN 8) tYesJ (eL (fList (aCons (eBor 8) aNil))) [A, .d (objD net ls), .d (setL rows), .d (.int n), .d (netD (prs n)), .d (ordsD (ordsP n)), y6, y7, .no, .no, .no, .no, .no, .no, .no] (L0.map netD) w = some (L0.map netD, w) :=
    lcGo_map netD _ L0 fun m hm => ⟨_, rfl, by simp [netD]⟩
  have hll : (L0.map netD).length ≤ line := by
    rw [List.length_map, line_eq]
    omega
  have ht : (tAndJ (eTest (eNe (eAttr "LeastNet" "layers" (eBor 1)) (eL (fLst aNil)))) (eTest (eNe (eL (fLc (iItems (eIx (eAttr "LeastNet" "layers" (eBor 1)) (eC (.int 0)))) (gN 8) tYesJ (eL (fList (aCons (eBor 8) aNil))) [8])) (eL (fLst (aCons (eL (fLst aNil)) aNil)))))) [A, .d (objD net ls), .d (setL rows), .d (.int n), .d (netD (prs n)), .d (ordsD (ordsP n)), y6, y7, y8, .no, .no, .no, .no, .no, .no] w = some (!(decide (ls = []) || decide (L0 = [[]])), w) := by
    by_cases hne : ls = []
    · subst hne
      simp [n1, line_eq]
    · have n3' : neD (.lst (L0.map netD)) (.lst [.lst []]) = some (.bl (!decide (L0 = [[]]))) := n3
      have hll2 : L0.length ≤ 100000 := by omega
      simp [n1, hne, n2 hne, n3', line_eq, e1, hll2]
  cases hb : (decide (ls = []) || decide (L0 = [[]])) with
  | false =>
    rw [hb] at ht
    exact sif_ret ht
  | true =>
    rw [hb] at ht
    exact (sif_no ht).trans hu
/-! the same as what the program's method tells -/
def rightP (n : Nat) (rows : List Row) (net : List Pr) (ls : List (List (List Pr))) : Bool :=
  (upS (bhd rows net) && decide (ls.length = net.length)) && (!(ls.zipIdx.any (layBad rows)) && ((decide (ls = []) || decide (ls.headD [] = [[]])) && !((ls.zip (ls.drop 1)).any (bad2 n rows))))
theorem any_or' {α : Type} (p q : α → Bool) : ∀ l : List α, (l.any fun a => p a || q a) = (l.any p || l.any q)
  | [] => rfl
  | a :: l => by
    rw [List.any_cons, List.any_cons, List.any_cons, any_or' p q l]
    cases p a <;> cases q a <;> cases l.any p <;> cases l.any q <;> rfl
theorem lay_split (rows : List Row) : ∀ (ls : List (List (List Pr))) (i : Nat), (ls.zipIdx i).any (layBad rows) = ((ls.zipIdx i).any lenBad || (setsP rows ls).flatten.any upS)
  | [], _ => rfl
  | l :: ls, i => by
    have e1 : ((l :: ls).zipIdx i).any (layBad rows) = (layBad rows (l, i) || (ls.zipIdx (i + 1)).any (layBad rows)) := rfl
    have e2 : ((l :: ls).zipIdx i).any lenBad = (lenBad (l, i) || (ls.zipIdx (i + 1)).any lenBad) := rfl
    have e3 : (setsP rows (l :: ls)).flatten.any upS = ((l.map (bhd rows)).any upS || (setsP rows ls).flatten.any upS) := by
      show ((l.map (bhd rows)) ++ (setsP rows ls).flatten).any upS = _
      rw [List.any_append]
    have e4 : layBad rows (l, i) = (lenBad (l, i) || (l.map (bhd rows)).any upS) := by
      rw [List.any_map]
      exact any_or' (fun m => !decide (m.length = i)) (upS ∘ bhd rows) l
    rw [e1, e2, e3, e4, lay_split rows ls (i + 1)]
    cases lenBad (l, i) <;> cases (l.map (bhd rows)).any upS <;> cases (ls.zipIdx (i + 1)).any lenBad <;> cases (setsP rows ls).flatten.any upS <;> rfl
theorem zip_same (n : Nat) (rows : List Row) (ls : List (List (List Pr))) : (((setsP rows ls).zip ((setsP rows ls).drop 1)).all fun p => covOK n p.1 p.2) = !((ls.zip (ls.drop 1)).any (bad2 n rows)) := by
  have e : (setsP rows ls).zip ((setsP rows ls).drop 1) = (ls.zip (ls.drop 1)).map fun p => (p.1.map (bhd rows), p.2.map (bhd rows)) := by
    unfold setsP
    rw [← List.map_drop, List.zip_map]
    rfl
  rw [e, List.all_map, List.not_any_eq_all_not]
  congr 1
  funext p
  show covOK n (p.1.map (bhd rows)) (p.2.map (bhd rows)) = !bad2 n rows p
  unfold covOK bad2
  rw [List.any_map]
  rfl
theorem right_same (n : Nat) (rows : List Row) (net : List Pr) (ls : List (List (List Pr))) : rightP n rows net ls = showsP n rows net ls := by
  unfold rightP showsP
  rw [lay_split, zip_same]
  cases upS (bhd rows net) <;> cases decide (ls.length = net.length) <;> cases ls.zipIdx.any lenBad <;> cases (setsP rows ls).flatten.any upS <;> cases (decide (ls = []) || decide (ls.headD [] = [[]])) <;> cases (ls.zip (ls.drop 1)).any (bad2 n rows) <;> rfl
theorem right_u0 {n : Nat} (h0 : 0 < n) (hn : n < 5) {rows : List Row} (hr : Ok n rows) {net : List Pr} {ls : List (List (List Pr))} (E : Evi n net ls) (A : Sl) (w : Wd) : (sSeq (sIf (tOrJ (tNotJ (eTest (eAll (aCons (eL (fLc (iItems (eAttr "LeastNet" "net" (eBor 1))) (gN 11) tYesJ (eIn (eBor 11) (eBor 4)) [11])) aNil)))) (tOrJ (tNotJ (eTest (eCall 1 G__law_up (aCons (eCall 2 G__law_led (aCons (eVar 2) (aCons (eAttr "LeastNet" "net" (eBor 1)) aNil))) aNil)))) (eTest (eNe (eLen (aCons (eAttr "LeastNet" "layers" (eBor 1)) aNil)) (eLen (aCons (eAttr "LeastNet" "net" (eBor 1)) aNil)))))) (sSeq (sRet (eC (.bl false))) sNil) sNil) (sSeq (sFor (iEnumJ (aCons (eAttr "LeastNet" "layers" (eBor 1)) aNil)) (gT 2 (gsCons (gN 6) (gsCons (gN 7) gsNil))) (sSeq (sFor (iItems (eVar 7)) (gN 8) (sSeq (sIf (tOrJ (eTest (eNe (eLen (aCons (eBor 8) aNil)) (eBor 6))) (tOrJ (tNotJ (eTest (eAll (aCons (eL (fLc (iItems (eBor 8)) (gN 11) tYesJ (eIn (eBor 11) (eBor 4)) [11])) aNil)))) (eTest (eCall 1 G__law_up (aCons (eCall 2 G__law_led (aCons (eVar 2) (aCons (eVar 8) aNil))) aNil))))) (sSeq (sRet (eC (.bl false))) sNil) sNil) sNil)) sNil)) (sSeq (sIf (tAndJ (eTest (eNe (eAttr "LeastNet" "layers" (eBor 1)) (eL (fLst aNil)))) (eTest (eNe (eL (fLc (iItems (eIx (eAttr "LeastNet" "layers" (eBor 1)) (eC (.int 0)))) (gN 8) tYesJ (eL (fList (aCons (eBor 8) aNil))) [8])) (eL (fLst (aCons (eL (fLst aNil)) aNil)))))) (sSeq (sRet (eC (.bl false))) sNil) sNil) (sSeq (sFor (iZipJ (aCons (eAttr "LeastNet" "layers" (eBor 1)) (aCons (eL (fSl (eAttr "LeastNet" "layers" (eBor 1)) (oSo (eC (.int 1))) oNo)) aNil))) (gT 2 (gsCons (gN 7) (gsCons (gN 9) gsNil))) (sSeq (sSetO 10 (fLc (iItems (eBor 9)) (gN 8) tYesJ (eCall 2 G__law_led (aCons (eVar 2) (aCons (eVar 8) aNil))) [8])) (sFrz 10 (sSeq (sFor (iItems (eVar 7)) (gN 8) (sSeq (sSet 11 (eCall 2 G__law_led (aCons (eVar 2) (aCons (eVar 8) aNil)))) (sSeq (sFor (iItems (eVar 4)) (gN 12) (sSeq (sSet 13 (eCall 2 G__law_led (aCons (eVar 11) (aCons (eL (fLst (aCons (eVar 12) aNil))) aNil)))) (sSeq (sIf (tAndJ (eTest (eNe (eBor 13) (eBor 11))) (tNotJ (eTest (eAny (aCons (eL (fLc (iItems (eBor 10)) (gN 14) tYesJ (eCall 3 G__law_covers (aCons (eVar 14) (aCons (eVar 13) (aCons (eVar 5) aNil)))) [14])) aNil))))) (sSeq (sRet (eC (.bl false))) sNil) sNil) sNil))) sNil))) sNil)))) (sSeq (sRet (eC (.bl true))) sNil))))) [A, .d (objD net ls), .d (setL rows), .d (.int n), .d (netD (prs n)), .d (ordsD (ordsP n)), .no, .no, .no, .no, .no, .no, .no, .no, .no] w = some (.rt (.bl (showsP n rows net ls)) w) := by
  have e1 : lcGo (gN 11) tYesJ (eIn (eBor 11) (eBor 4)) [A, .d (objD net ls), .d (setL rows), .d (.int n), .d (netD (prs n)), .d (ordsD (ordsP n)), .no, .no, .no, .no, .no, .no, .no, .no, .no] (net.map pairD) w = some ((net.map fun q => decide (q ∈ prs n)).map D.bl, w) := by
    rw [List.map_map]
    exact lcGo_map pairD _ net fun q hq => ⟨_, rfl, by simp⟩
  have e2 := all_in E.g
  have hb := law_led_ok h0 hn hr E.g w
  have hok := hr.bhd hn E.g
  have ha := law_up_on (bhd rows net) (by have := hok.len hn; omega) w
  rw [up_all] at ha
  have hnl : ((net.map fun q => decide (q ∈ prs n)).map D.bl).length ≤ line := by
    have := E.ln
    rw [List.length_map, List.length_map, line_eq]
    omega
  obtain ⟨f1, f2⟩ := right_f1 h0 hn hr E.gl E.ll net A w
  rw [← right_same]
  unfold rightP
  generalize (net.map fun q => decide (q ∈ prs n)).map D.bl = Z at *
  have ht : (tOrJ (tNotJ (eTest (eAll (aCons (eL (fLc (iItems (eAttr "LeastNet" "net" (eBor 1))) (gN 11) tYesJ (eIn (eBor 11) (eBor 4)) [11])) aNil)))) (tOrJ (tNotJ (eTest (eCall 1 G__law_up (aCons (eCall 2 G__law_led (aCons (eVar 2) (aCons (eAttr "LeastNet" "net" (eBor 1)) aNil))) aNil)))) (eTest (eNe (eLen (aCons (eAttr "LeastNet" "layers" (eBor 1)) aNil)) (eLen (aCons (eAttr "LeastNet" "net" (eBor 1)) aNil)))))) [A, .d (objD net ls), .d (setL rows), .d (.int n), .d (netD (prs n)), .d (ordsD (ordsP n)), .no, .no, .no, .no, .no, .no, .no, .no, .no] w = some (!(upS (bhd rows net) && decide (ls.length = net.length)), w) := by
    by_cases hl : ls.length = net.length
    · simp [e1, hnl, e2, hb, ha, hl]
    · have hl' : ¬((ls.length : Int) = (net.length : Int)) := by omega
      simp [e1, hnl, e2, hb, ha, hl, hl']
  cases hu : (upS (bhd rows net) && decide (ls.length = net.length)) with
  | false =>
    rw [hu] at ht
    exact sif_ret ht
  | true =>
    rw [hu] at ht
    refine (sif_no ht).trans ?_
    cases hb1 : ls.zipIdx.any (layBad rows) with
    | true => exact seq_rt (f1 hb1)
    | false =>
      obtain ⟨y6, y7, y8, e⟩ := f2 hb1
      exact (seq_nx e).trans (right_u2 h0 hn hr E.gl E.sm.2 net A y6 y7 y8 w)
theorem ap_law_right (a b : D) (w : Wd) : G__law_right [a, b] w = fin (g__law_right [.d a, .d b, .no, .no, .no, .no, .no, .no, .no, .no, .no, .no, .no, .no, .no] w) := rfl
theorem right_on {n : Nat} {rows : List Row} (h0 : 0 < n) (hn : n < 5) (hok : Ok n rows) {pd : D} (h1 : ∀ w, G__law_parted [pd] w = some (setL rows, w)) (h2 : gSumB [pd] = some (.int (n : Int))) {net : List Pr} {ls : List (List (List Pr))} (E : Evi n net ls) (w : Wd) : G__law_right [pd, objD net ls] w = some (.bl (showsP n rows net ls), w) := by
  have h1' := h1 w
  have h3 := law_pairs_on h0 hn w
  have h4 := law_orders_on h0 hn w
  have hA : sAsg (eTup (aCons (eCall 1 G__law_parted (aCons (eVar 0) aNil)) (aCons (eSumB (aCons (eBor 0) aNil)) aNil))) (goN (gT 2 (gsCons (gN 2) (gsCons (gN 3) gsNil)))) [.d pd, .d (objD net ls), .no, .no, .no, .no, .no, .no, .no, .no, .no, .no, .no, .no, .no] w = some (.nx [.d pd, .d (objD net ls), .d (setL rows), .d (.int n), .no, .no, .no, .no, .no, .no, .no, .no, .no, .no, .no] w) := by
    simp [h1', h2, line_eq]
  have hB : sAsg (eTup (aCons (eCall 1 G__law_pairs (aCons (eVar 3) aNil)) (aCons (eCall 1 G__law_orders (aCons (eVar 3) aNil)) aNil))) (goN (gT 2 (gsCons (gN 4) (gsCons (gN 5) gsNil)))) [.d pd, .d (objD net ls), .d (setL rows), .d (.int n), .no, .no, .no, .no, .no, .no, .no, .no, .no, .no, .no] w = some (.nx [.d pd, .d (objD net ls), .d (setL rows), .d (.int n), .d (netD (prs n)), .d (ordsD (ordsP n)), .no, .no, .no, .no, .no, .no, .no, .no, .no] w) := by
    simp [h3, h4, line_eq]
  rw [ap_law_right]
  unfold g__law_right
  rw [seq_nx hA, seq_nx hB, right_u0 h0 hn hok E (.d pd) w]
  rfl
end K60
namespace K60
open PySem PyProof.Rows L2 J
/-! drawing -/
theorem law_next_eq : G__law_next = G_next := rfl
theorem draw_on (b : Int) (hb : 0 < b) (w : Wd) (hc : 0 ≤ w.c) : ∃ v, 0 ≤ v ∧ v < b ∧ G__law_next [.draw, .int b] w = some (.int v, ⟨w.ns, w.c + 1⟩) := by
  rw [law_next_eq]
  exact J.next_on b hb w hc
theorem ap_law_pick (a b : D) (w : Wd) : G__law_pick [a, b] w = fin (g__law_pick [.d a, .d b] w) := rfl
theorem pick_on {α : Type} (f : α → D) (xs : List α) (hd : 0 < xs.length) (w : Wd) (hc : 0 ≤ w.c) : ∃ x ∈ xs, G__law_pick [.draw, .lst (xs.map f)] w = some (f x, ⟨w.ns, w.c + 1⟩) := by
  obtain ⟨v, h0, h1, h2⟩ := draw_on (xs.length : Int) (by omega) w hc
  obtain ⟨k, rfl⟩ : ∃ k : Nat, v = (k : Int) := ⟨v.toNat, by omega⟩
  have hk : k < xs.length := by omega
  refine ⟨xs[k], List.getElem_mem hk, ?_⟩
  have e : atI (xs.map f) (k : Int) = some (f xs[k]) := by
    rw [atI_of_nat _ (by rw [List.length_map]; exact hk), List.getElem?_map, List.getElem?_eq_getElem hk]
    rfl
  rw [ap_law_pick]
  unfold g__law_pick
  simp [h2, e]
/-! what holds of evidence near the found one -/
def goodB (n : Nat) (net : List Pr) (ls : List (List (List Pr))) : Bool :=
  (net.all fun q => (prs n).contains q) && ((ls.all fun l => l.all fun m => m.all fun q => (prs n).contains q) && (decide (ls.length ≤ 1000) && ((ls.all fun l => decide (l.length ≤ 1000)) && (decide (net.length ≤ 1000) && ((ls.all fun l => l.all fun m => decide (m.length ≤ 1000)) && decide (ls.flatten.length ≤ 1000))))))
theorem evi_of {n : Nat} {net : List Pr} {ls : List (List (List Pr))} (h : goodB n net ls = true) : Evi n net ls := by
  unfold goodB at h
  obtain ⟨h1, h⟩ := Bool.and_eq_true_iff.mp h
  obtain ⟨h2, h⟩ := Bool.and_eq_true_iff.mp h
  obtain ⟨h3, h⟩ := Bool.and_eq_true_iff.mp h
  obtain ⟨h4, h⟩ := Bool.and_eq_true_iff.mp h
  obtain ⟨h5, h⟩ := Bool.and_eq_true_iff.mp h
  obtain ⟨h6, h7⟩ := Bool.and_eq_true_iff.mp h
  exact ⟨fun q hq => List.contains_iff_mem.mp (List.all_eq_true.mp h1 q hq), fun l hl m hm q hq => List.contains_iff_mem.mp (List.all_eq_true.mp (List.all_eq_true.mp (List.all_eq_true.mp h2 l hl) m hm) q hq), ⟨of_decide_eq_true h3, fun l hl => of_decide_eq_true (List.all_eq_true.mp h4 l hl)⟩, of_decide_eq_true h5, fun l hl m hm => of_decide_eq_true (List.all_eq_true.mp (List.all_eq_true.mp h6 l hl) m hm), of_decide_eq_true h7⟩
def newNets (net : List Pr) : List (List Pr) := [net, net.reverse, net.take (net.length - 1), net ++ net.take 1]
def newOnes (net : List Pr) (k : Nat) : List (List Pr) := [[], net, net.take k, net.reverse.take k]
def newLays (net : List Pr) (l : List (List Pr)) (k : Nat) : List (List (List Pr)) := l.drop 1 :: (newOnes net k).map fun m => l ++ [m]
theorem t_shows : ∀ e ∈ menuT, showsP e.1.sum (partedP e.1) e.2.1 e.2.2 = true := by decide +kernel
theorem t_own : ∀ e ∈ menuT, (goodB e.1.sum e.2.1 e.2.2 && (goodB e.1.sum [] [[[]]] && (decide ((e.2.2.map List.length).sum ≤ 20) && ((!decide (e.2.1 = []) || decide (e.2.2 = [])) && decide (e.2.2.length = e.2.1.length))))) = true := by decide +kernel
theorem t_bent : ∀ e ∈ menuT, ((List.range e.2.2.length).all fun k => (newLays e.2.1 (e.2.2.getD k []) k).all fun l => goodB e.1.sum e.2.1 (e.2.2.set k l) && (newNets e.2.1).all fun m => goodB e.1.sum m e.2.2 && goodB e.1.sum m (e.2.2.set k l)) = true := by decide +kernel
/-! the own equality and length -/
theorem ap_eq (a b : D) (w : Wd) : G_LeastNet___eq__ [a, b] w = fin (g_LeastNet___eq__ [.d a, .d b] w) := rfl
theorem ap_len (a : D) (w : Wd) : G_LeastNet___len__ [a] w = fin (g_LeastNet___len__ [.d a] w) := rfl
@[simp] theorem is_obj (net : List Pr) (ls : List (List (List Pr))) : isObj "LeastNet" (objD net ls) = true := by
  show decide (("LeastNet" : Str) = "LeastNet") = true
  exact decide_eq_true rfl
theorem isC_obj (net : List Pr) (ls : List (List (List Pr))) : isC "LeastNet" (objD net ls) = some (.bl true) := by
  show (if ("LeastNet" : Str) = "LeastNet" then some (D.bl true) else none) = _
  exact if_pos rfl
theorem cls_obj (net : List Pr) (ls : List (List (List Pr))) : clsOk "LeastNet" "shows" (objD net ls) = true := by
  show (decide (("LeastNet" : Str) = "LeastNet") && decide (("shows" : Str) ∉ (["net", "layers"] : List Str))) = true
  decide +kernel
theorem own_len (net : List Pr) (ls : List (List (List Pr))) (w : Wd) : G_LeastNet___len__ [objD net ls] w = some (.int (net.length : Int), w) := by
  rw [ap_len]
  unfold g_LeastNet___len__
  simp
theorem own_eq (net : List Pr) (ls : List (List (List Pr))) (w : Wd) : G_LeastNet___eq__ [objD net ls, objD net ls] w = some (.bl true, w) := by
  have e1 : eqD (netD net) (netD net) = some (.bl true) := (eq_on inj_netD ((la_netD net).lay (by decide)) ((la_netD net).lay (by decide))).trans (by rw [decide_eq_true rfl])
  have e2 : eqD (laysD ls) (laysD ls) = some (.bl true) := (eq_on inj_laysD ((la_laysD ls).lay (by decide)) ((la_laysD ls).lay (by decide))).trans (by rw [decide_eq_true rfl])
  rw [ap_eq]
  unfold g_LeastNet___eq__
  simp [isC_obj, e1, e2]
theorem len_obj {net : List Pr} (h : net.length ≤ 1000) (w : Wd) : lenR (some (.int (net.length : Int), w)) = some (.int (net.length : Int), w) := by
  rw [lenR.on, if_pos ⟨by omega, by omega⟩]
/-! the steps of the law -/
theorem s1_on (ns : List Int) : ∃ e ∈ menuT, ∃ p, p = e.1 ∧ (sSet 2 (eCall 2 G__law_pick (aCons (eVar 1) (aCons (eL (fLst (aCons (eL (fLst (aCons (eC (.int 1)) aNil))) (aCons (eL (fLst (aCons (eC (.int 2)) aNil))) (aCons (eL (fLst (aCons (eC (.int 1)) (aCons (eC (.int 1)) aNil)))) (aCons (eL (fLst (aCons (eC (.int 3)) aNil))) (aCons (eL (fLst (aCons (eC (.int 1)) (aCons (eC (.int 2)) aNil)))) (aCons (eL (fLst (aCons (eC (.int 2)) (aCons (eC (.int 1)) aNil)))) (aCons (eL (fLst (aCons (eC (.int 1)) (aCons (eC (.int 1)) (aCons (eC (.int 1)) aNil))))) (aCons (eL (fLst (aCons (eC (.int 4)) aNil))) (aCons (eL (fLst (aCons (eC (.int 2)) (aCons (eC (.int 2)) aNil)))) (aCons (eL (fLst (aCons (eC (.int 1)) (aCons (eC (.int 3)) aNil)))) (aCons (eL (fLst (aCons (eC (.int 3)) (aCons (eC (.int 1)) aNil)))) (aCons (eL (fLst (aCons (eC (.int 1)) (aCons (eC (.int 1)) (aCons (eC (.int 2)) aNil))))) (aCons (eL (fLst (aCons (eC (.int 2)) (aCons (eC (.int 1)) (aCons (eC (.int 1)) aNil))))) (aCons (eL (fLst (aCons (eC (.int 1)) (aCons (eC (.int 2)) (aCons (eC (.int 1)) aNil))))) (aCons (eL (fLst (aCons (eC (.int 1)) (aCons (eC (.int 1)) (aCons (eC (.int 1)) (aCons (eC (.int 1)) aNil)))))) aNil))))))))))))))))) aNil)))) [.no, .d .draw, .no, .no, .no, .no, .no, .no, .no] ⟨ns, 0⟩ = some (.nx [.no, .d .draw, .d (.lst (p.map nD)), .no, .no, .no, .no, .no, .no] ⟨ns, 1⟩) := by
  obtain ⟨e, he, h⟩ := pick_on (fun e : Ent => D.lst (e.1.map nD)) menuT (by decide) ⟨ns, 0⟩ (Int.le_refl 0)
  refine ⟨e, he, e.1, rfl, ?_⟩
  have hl : (D.lst (menuT.map fun e : Ent => D.lst (e.1.map nD))) = .lst [.lst [.int 1], .lst [.int 2], .lst [.int 1, .int 1], .lst [.int 3], .lst [.int 1, .int 2], .lst [.int 2, .int 1], .lst [.int 1, .int 1, .int 1], .lst [.int 4], .lst [.int 2, .int 2], .lst [.int 1, .int 3], .lst [.int 3, .int 1], .lst [.int 1, .int 1, .int 2], .lst [.int 2, .int 1, .int 1], .lst [.int 1, .int 2, .int 1], .lst [.int 1, .int 1, .int 1, .int 1]] := rfl
  rw [hl] at h
  simp [line_eq, h]
theorem c3_on {ls : List (List (List Pr))} (h : (ls.map List.length).sum ≤ 20) (hl : ls.length ≤ 1000) (p : List Nat) (net : List Pr) (w : Wd) : (eTest (eGt (eSumB (aCons (eL (fLc (iItems (eAttr "LeastNet" "layers" (eBor 3))) (gN 8) tYesJ (eLen (aCons (eBor 8) aNil)) [8])) aNil)) (eC (.int 20)))) [.no, .d .draw, .d (.lst (p.map nD)), .d (objD net ls), .no, .no, .no, .no, .no] w = some (false, w) := by
  have e : lcGo (gN 8) tYesJ (eLen (aCons (eBor 8) aNil)) [.no, .d .draw, .d (.lst (p.map nD)), .d (objD net ls), .no, .no, .no, .no, .no] (ls.map layerD) w = some (((ls.map List.length).map fun i : Nat => (i : Int)).map D.int, w) := by
    rw [List.map_map, List.map_map]
    exact lcGo_map layerD _ ls fun l hl => ⟨_, rfl, by simp⟩
  have hll : (((ls.map List.length).map fun i : Nat => (i : Int)).map D.int).length ≤ line := by
    rw [List.length_map, List.length_map, List.length_map, line_eq]
    omega
  have hs : gSumB [.lst (((ls.map List.length).map fun i : Nat => (i : Int)).map D.int)] = some (.int ((ls.map List.length).map fun i : Nat => (i : Int)).sum) := v_sumL _
  have hc : ∀ l : List Nat, (l.map fun i : Nat => (i : Int)).sum = ((l.sum : Nat) : Int) := fun l => by
    induction l with
    | nil => rfl
    | cons a l ih => rw [List.map_cons, List.sum_cons, List.sum_cons, ih]; omega
  rw [hc] at hs
  generalize ((ls.map List.length).map fun i : Nat => (i : Int)).map D.int = Z at *
  have h20 : ¬((20 : Int) < (((ls.map List.length).sum : Nat) : Int)) := by omega
  generalize (((ls.map List.length).sum : Nat) : Int) = z at *
  simp [e, hll, hs, h20]
theorem c4_on {e : Ent} (he : e ∈ menuT) {p : List Nat} (hp : p = e.1) {net : List Pr} {ls : List (List (List Pr))} (hn : net = e.2.1) (hls : ls = e.2.2) (E : Evi e.1.sum net ls) (w : Wd) : (tOrJ (eTest (eNe (eOwnLen "LeastNet" G_LeastNet___len__ (eVar 3)) (eCall 1 G__law_least (aCons (eVar 2) aNil)))) (tOrJ (eTest (eNe (eLen (aCons (eAttr "LeastNet" "net" (eBor 3)) aNil)) (eOwnLen "LeastNet" G_LeastNet___len__ (eVar 3)))) (tOrJ (tNotJ (eTest (eCall 2 G__law_right (aCons (eVar 2) (aCons (eVar 3) aNil))))) (tNotJ (eTest (eMeth "LeastNet" "shows" 2 G_LeastNet_shows (eVar 3) (aCons (eTuple (aCons (eBor 2) aNil)) aNil))))))) [.no, .d .draw, .d (.lst (p.map nD)), .d (objD net ls), .no, .no, .no, .no, .no] w = some (false, w) := by
  subst hp hn hls
  have P := pts_lst he
  have h1 := law_least_on P.p0 P.p5 P.ok (parted_lst e he) P.sm (of_decide_eq_true (t_ll e he)) w
  have h2 := right_on P.p0 P.p5 P.ok (parted_lst e he) P.sm E w
  have h3 := shows_on (pts_tup he) E w
  rw [t_shows e he] at h2 h3
  have h4 := own_len e.2.1 e.2.2 w
  have h5 := len_obj E.ln w
  have h6 := cls_obj e.2.1 e.2.2
  simp only [tOrJ.ap, eTest.ap, eNe.ap, eOwnLen.ap, eVar.ap, eCall.ap, eMeth.ap, eLen.ap, eAttr.ap, eBor.ap, tNotJ.ap, aCons.ap, aNil.ap]
  simp [h1, h2, h3, h4, h5, h6, -lenR.on]
theorem c5_on (p : List Nat) (net : List Pr) (ls : List (List (List Pr))) (w : Wd) : (eTest (eEq (eAttr "LeastNet" "net" (eBor 3)) (eL (fLst aNil)))) [.no, .d .draw, .d (.lst (p.map nD)), .d (objD net ls), .no, .no, .no, .no, .no] w = some (decide (net = []), w) := by
  have e : eqD (netD net) (.lst []) = some (.bl (decide (net = []))) := (eq_on (b := ([] : List Pr)) inj_netD ((la_netD net).lay (by decide)) ((la_netD []).lay (by decide))).trans (congrArg (fun b => some (D.bl b)) (decide_eq_decide.mpr Iff.rfl))
  simp [line_eq, e]
theorem r5_on {e : Ent} (he : e ∈ menuT) {p : List Nat} (hp : p = e.1) {net : List Pr} {ls : List (List (List Pr))} (hn : net = []) (hls : ls = []) (w : Wd) : (sSeq (sRet (eAnd (eEq (eAttr "LeastNet" "layers" (eBor 3)) (eL (fLst aNil))) (eAnd (eOwnEq "LeastNet" G_LeastNet___eq__ (eMake "LeastNet" 3 G_LeastNet___init__ (aCons (eL (fLst aNil)) (aCons (eL (fLst aNil)) aNil))) (eBor 3)) (eNot (eMeth "LeastNet" "shows" 2 G_LeastNet_shows (eMake "LeastNet" 3 G_LeastNet___init__ (aCons (eL (fLst aNil)) (aCons (eL (fLst (aCons (eL (fLst (aCons (eL (fLst aNil)) aNil))) aNil))) aNil))) (aCons (eVar 2) aNil)))))) sNil) [.no, .d .draw, .d (.lst (p.map nD)), .d (objD net ls), .no, .no, .no, .no, .no] w = some (.rt (.bl true) w) := by
  subst hp hn hls
  have g : goodB e.1.sum [] [[[]]] = true := (Bool.and_eq_true_iff.mp (Bool.and_eq_true_iff.mp (t_own e he)).2).1
  have h3 := shows_on (pts_lst he) (evi_of g) w
  have hf : showsP e.1.sum (partedP e.1) [] [[[]]] = false := by
    unfold showsP
    simp
  rw [hf] at h3
  have h1 : mk2 "LeastNet" (G_LeastNet___init__ [.lst [], .lst []] w) = some (objD [] [], w) := mk_on (ls := []) ⟨Nat.zero_le _, fun _ h => nomatch h⟩ [] w
  have h2 : mk2 "LeastNet" (G_LeastNet___init__ [.lst [], .lst [.lst [.lst []]]] w) = some (objD [] [[[]]], w) := mk_on (ls := [[[]]]) ⟨by decide, fun l h => by rw [List.mem_singleton.mp h]; decide⟩ [] w
  have h4 := own_eq [] [] w
  have h6 := cls_obj [] [[[]]]
  have e5 : eqD (laysD []) (.lst []) = some (.bl true) := (eq_on (b := ([] : List (List (List Pr)))) inj_laysD ((la_laysD []).lay (by decide)) ((la_laysD []).lay (by decide))).trans (by rw [decide_eq_true rfl])
  simp [line_eq, e5, h1, h2, h3, h4, h6]
theorem s6_on {ls : List (List (List Pr))} (hl : Sm ls) (p : List Nat) (net : List Pr) (w : Wd) : (sSetO 4 (fLc (iItems (eAttr "LeastNet" "layers" (eBor 3))) (gN 8) tYesJ (eL (fList (aCons (eBor 8) aNil))) [8])) [.no, .d .draw, .d (.lst (p.map nD)), .d (objD net ls), .no, .no, .no, .no, .no] w = some (.nx [.no, .d .draw, .d (.lst (p.map nD)), .d (objD net ls), .own (ls.map layerD), .no, .no, .no, .no] w) := by
  have e : lcGo (gN 8) tYesJ (eL (fList (aCons (eBor 8) aNil))) [.no, .d .draw, .d (.lst (p.map nD)), .d (objD net ls), .no, .no, .no, .no, .no] (ls.map layerD) w = some (ls.map layerD, w) :=
    lcGo_map layerD _ ls fun l hl => ⟨_, rfl, by simp [layerD]⟩
  have hll : ls.length ≤ 100000 := by have := hl.1; omega
  simp [e, line_eq, hll]
theorem s7_on {ls : List (List (List Pr))} (hl : 0 < ls.length) (p : List Nat) (net : List Pr) (w : Wd) (hc : 0 ≤ w.c) : ∃ k < ls.length, (sSet 5 (eCall 2 G__law_next (aCons (eVar 1) (aCons (eLen (aCons (eBor 4) aNil)) aNil)))) [.no, .d .draw, .d (.lst (p.map nD)), .d (objD net ls), .own (ls.map layerD), .no, .no, .no, .no] w = some (.nx [.no, .d .draw, .d (.lst (p.map nD)), .d (objD net ls), .own (ls.map layerD), .d (.int k), .no, .no, .no] ⟨w.ns, w.c + 1⟩) := by
  obtain ⟨v, h0, h1, h2⟩ := draw_on (ls.length : Int) (by omega) w hc
  obtain ⟨k, rfl⟩ : ∃ k : Nat, v = (k : Int) := ⟨v.toNat, by omega⟩
  exact ⟨k, by omega, by simp [h2]⟩
theorem ix_lay {ls : List (List (List Pr))} {k : Nat} (hk : k < ls.length) : atI (ls.map layerD) (k : Int) = some (layerD (ls.getD k [])) := by
  rw [atI_of_nat _ (by rw [List.length_map]; exact hk), List.getElem?_map, List.getElem?_eq_getElem hk, List.getD_eq_getElem?_getD, List.getElem?_eq_getElem hk]
  rfl
@[simp] theorem sl_layer (m : List (List Pr)) (w : Wd) : sl3 (layerD m) (some 1) (some (none, w)) = some ((m.drop 1).map netD, w) := by
  show some (cutD (m.map netD) (some 1) none, w) = _
  rw [cut_from1, List.map_drop]
theorem sl_netK (m : List Pr) (k : Nat) (w : Wd) : sl3 (netD m) none (some (some (k : Int), w)) = some ((m.take k).map pairD, w) := by
  show some (cutD (m.map pairD) none (some (k : Int)), w) = _
  rw [cut_to, List.map_take]
theorem sl_net1 (m : List Pr) (w : Wd) : sl3 (netD m) none (some (some 1, w)) = some ((m.take 1).map pairD, w) := sl_netK m 1 w
theorem sl_netM (m : List Pr) (w : Wd) : sl3 (netD m) none (some (some (-1), w)) = some ((m.take (m.length - 1)).map pairD, w) := by
  show some (cutD (m.map pairD) none (some (-1)), w) = _
  rw [cut_butlast, List.length_map, List.map_take]
theorem rv_net (m : List Pr) (w : Wd) : rv1 (some (netD m, w)) = some (m.reverse.map pairD, w) := by
  show some ((m.map pairD).reverse, w) = _
  rw [List.map_reverse]
theorem e8_on {ls : List (List (List Pr))} {net : List Pr} (hl : Sm ls) {k : Nat} (hk : k < ls.length) (p : List Nat) (w : Wd) (hc : 0 ≤ w.c) : ∃ l2 ∈ newLays net (ls.getD k []) k, ∃ w2 : Wd, w2.ns = w.ns ∧ 0 ≤ w2.c ∧ (eIf (eTest (eEq (eCall 2 G__law_next (aCons (eVar 1) (aCons (eC (.int 2)) aNil))) (eC (.int 0)))) (eL (fSl (eIx (eBor 4) (eBor 5)) (oSo (eC (.int 1))) oNo)) (eAdd (eIx (eBor 4) (eBor 5)) (eL (fLst (aCons (eCall 2 G__law_pick (aCons (eVar 1) (aCons (eL (fLst (aCons (eL (fLst aNil)) (aCons (eAttr "LeastNet" "net" (eBor 3)) (aCons (eL (fSl (eAttr "LeastNet" "net" (eBor 3)) oNo (oSo (eBor 5)))) (aCons (eL (fSl (eL (fRev (eAttr "LeastNet" "net" (eBor 3)))) oNo (oSo (eBor 5)))) aNil)))))) aNil))) aNil))))) [.no, .d .draw, .d (.lst (p.map nD)), .d (objD net ls), .own (ls.map layerD), .d (.int k), .no, .no, .no] w = some (layerD l2, w2) := by
  obtain ⟨v, h0, h1, h2⟩ := draw_on 2 (by decide) w hc
  have hix := ix_lay hk
  have hml : ((ls.getD k []).length : Nat) ≤ 1000 := by
    rw [List.getD_eq_getElem?_getD, List.getElem?_eq_getElem hk]
    exact hl.2 _ (List.getElem_mem hk)
  generalize ls.getD k [] = L at *
  by_cases hv : v = 0
  · refine ⟨L.drop 1, List.mem_cons_self, ⟨w.ns, w.c + 1⟩, rfl, by show 0 ≤ w.c + 1; omega, ?_⟩
    rw [show layerD (L.drop 1) = .lst ((L.drop 1).map netD) from rfl]
    simp [h2, hv, hix, -List.drop_one]
  · obtain ⟨m, hm, h3⟩ := pick_on netD (newOnes net k) (Nat.succ_pos _) ⟨w.ns, w.c + 1⟩ (by show 0 ≤ w.c + 1; omega)
    have hp : (eCall 2 G__law_pick (aCons (eVar 1) (aCons (eL (fLst (aCons (eL (fLst aNil)) (aCons (eAttr "LeastNet" "net" (eBor 3)) (aCons (eL (fSl (eAttr "LeastNet" "net" (eBor 3)) oNo (oSo (eBor 5)))) (aCons (eL (fSl (eL (fRev (eAttr "LeastNet" "net" (eBor 3)))) oNo (oSo (eBor 5)))) aNil)))))) aNil))) [.no, .d .draw, .d (.lst (p.map nD)), .d (objD net ls), .own (ls.map layerD), .d (.int k), .no, .no, .no] ⟨w.ns, w.c + 1⟩ = some (netD m, ⟨w.ns, w.c + 1 + 1⟩) := by
      have hlit : D.lst ((newOnes net k).map netD) = .lst [.lst [], netD net, .lst ((net.take k).map pairD), .lst ((net.reverse.take k).map pairD)] := rfl
      rw [hlit] at h3
      have hrk : sl3 (.lst (net.reverse.map pairD)) none (some (some (k : Int), (⟨w.ns, w.c + 1⟩ : Wd))) = some ((net.reverse.take k).map pairD, ⟨w.ns, w.c + 1⟩) := sl_netK net.reverse k _
      simp [line_eq, rv_net, sl_netK, hrk, h3, -List.map_reverse, -List.map_take]
    refine ⟨L ++ [m], List.mem_cons_of_mem _ (List.mem_map.mpr ⟨m, hm, rfl⟩), ⟨w.ns, w.c + 1 + 1⟩, rfl, by show 0 ≤ w.c + 1 + 1; omega, ?_⟩
    have hadd : addD (layerD L) (.lst [netD m]) = some (layerD (L ++ [m])) := by
      unfold layerD
      rw [v_addL, List.length_map, if_pos (by rw [line_eq]; show L.length + 1 ≤ 100000; omega), List.map_append]
      rfl
    have ht : (eTest (eEq (eCall 2 G__law_next (aCons (eVar 1) (aCons (eC (.int 2)) aNil))) (eC (.int 0)))) [.no, .d .draw, .d (.lst (p.map nD)), .d (objD net ls), .own (ls.map layerD), .d (.int k), .no, .no, .no] w = some (false, ⟨w.ns, w.c + 1⟩) := by
      simp [h2, hv]
    rw [eIf.ap, ht, if1.on, if_neg (by decide), eAdd.ap]
    have ha : (eIx (eBor 4) (eBor 5)) [.no, .d .draw, .d (.lst (p.map nD)), .d (objD net ls), .own (ls.map layerD), .d (.int k), .no, .no, .no] ⟨w.ns, w.c + 1⟩ = some (layerD L, ⟨w.ns, w.c + 1⟩) := by
      simp [hix]
    rw [ha, bin1.on, eL.ap, fLst.ap, aCons.ap, hp]
    simp [line_eq, hadd]
theorem s8_on {ls : List (List (List Pr))} {net : List Pr} (hl : Sm ls) {k : Nat} (hk : k < ls.length) (p : List Nat) (w : Wd) (hc : 0 ≤ w.c) : ∃ l2 ∈ newLays net (ls.getD k []) k, ∃ w2 : Wd, w2.ns = w.ns ∧ 0 ≤ w2.c ∧ (sAsg (eIf (eTest (eEq (eCall 2 G__law_next (aCons (eVar 1) (aCons (eC (.int 2)) aNil))) (eC (.int 0)))) (eL (fSl (eIx (eBor 4) (eBor 5)) (oSo (eC (.int 1))) oNo)) (eAdd (eIx (eBor 4) (eBor 5)) (eL (fLst (aCons (eCall 2 G__law_pick (aCons (eVar 1) (aCons (eL (fLst (aCons (eL (fLst aNil)) (aCons (eAttr "LeastNet" "net" (eBor 3)) (aCons (eL (fSl (eAttr "LeastNet" "net" (eBor 3)) oNo (oSo (eBor 5)))) (aCons (eL (fSl (eL (fRev (eAttr "LeastNet" "net" (eBor 3)))) oNo (oSo (eBor 5)))) aNil)))))) aNil))) aNil))))) (goSub 4 (eBor 5))) [.no, .d .draw, .d (.lst (p.map nD)), .d (objD net ls), .own (ls.map layerD), .d (.int k), .no, .no, .no] w = some (.nx [.no, .d .draw, .d (.lst (p.map nD)), .d (objD net ls), .own ((ls.set k l2).map layerD), .d (.int k), .no, .no, .no] w2) := by
  obtain ⟨l2, h1, w2, h2, h3, h4⟩ := e8_on hl hk p w hc (net := net)
  refine ⟨l2, h1, w2, h2, h3, ?_⟩
  have hx : ixN (ls.map layerD).length (k : Int) = some k := ixN_nat (by rw [List.length_map]; exact hk)
  rw [sAsg.ap, h4, ag1.on, List.map_set]
  generalize ls.map layerD = Z at *
  simp [hx]
theorem s9_on {net : List Pr} (hnl : net.length ≤ 1000) (p : List Nat) (ls ls2 : List (List (List Pr))) (k : Nat) (w : Wd) (hc : 0 ≤ w.c) : ∃ net2 ∈ newNets net, (sSet 6 (eCall 2 G__law_pick (aCons (eVar 1) (aCons (eL (fLst (aCons (eAttr "LeastNet" "net" (eBor 3)) (aCons (eL (fRev (eAttr "LeastNet" "net" (eBor 3)))) (aCons (eL (fSl (eAttr "LeastNet" "net" (eBor 3)) oNo (oSo (eNeg (eC (.int 1)))))) (aCons (eAdd (eAttr "LeastNet" "net" (eBor 3)) (eL (fSl (eAttr "LeastNet" "net" (eBor 3)) oNo (oSo (eC (.int 1)))))) aNil)))))) aNil)))) [.no, .d .draw, .d (.lst (p.map nD)), .d (objD net ls), .own (ls2.map layerD), .d (.int k), .no, .no, .no] w = some (.nx [.no, .d .draw, .d (.lst (p.map nD)), .d (objD net ls), .own (ls2.map layerD), .d (.int k), .d (netD net2), .no, .no] ⟨w.ns, w.c + 1⟩) := by
  obtain ⟨m, hm, h3⟩ := pick_on netD (newNets net) (Nat.succ_pos _) w hc
  refine ⟨m, hm, ?_⟩
  have hlit : D.lst ((newNets net).map netD) = .lst [netD net, .lst (net.reverse.map pairD), .lst ((net.take (net.length - 1)).map pairD), netD (net ++ net.take 1)] := rfl
  rw [hlit] at h3
  have hadd : addD (netD net) (.lst ((net.take 1).map pairD)) = some (netD (net ++ net.take 1)) := by
    unfold netD
    rw [v_addL, List.length_map, List.length_map, if_pos (by rw [line_eq, List.length_take]; omega), List.map_append]
  simp [line_eq, rv_net, sl_netM, sl_net1, hadd, h3, -List.map_reverse, -List.map_take]
theorem p11_on {net net2 : List Pr} {ls ls2 : List (List (List Pr))} (h1 : Sm ls) (h2 : Sm ls2) (k : Nat) (p : List Nat) (w : Wd) (hc : 0 ≤ w.c) : ∃ o ∈ [(net, ls2), (net2, ls), (net2, ls2)], (eCall 2 G__law_pick (aCons (eVar 1) (aCons (eL (fLst (aCons (eMake "LeastNet" 3 G_LeastNet___init__ (aCons (eAttr "LeastNet" "net" (eBor 3)) (aCons (eVar 4) aNil))) (aCons (eMake "LeastNet" 3 G_LeastNet___init__ (aCons (eVar 6) (aCons (eAttr "LeastNet" "layers" (eBor 3)) aNil))) (aCons (eMake "LeastNet" 3 G_LeastNet___init__ (aCons (eVar 6) (aCons (eVar 4) aNil))) aNil))))) aNil))) [.no, .d .draw, .d (.lst (p.map nD)), .d (objD net ls), .d (laysD ls2), .d (.int k), .d (netD net2), .no, .no] w = some (objD o.1 o.2, ⟨w.ns, w.c + 1⟩) := by
  obtain ⟨o, ho, h3⟩ := pick_on (fun o : List Pr × List (List (List Pr)) => objD o.1 o.2) [(net, ls2), (net2, ls), (net2, ls2)] (by simp) w hc
  refine ⟨o, ho, ?_⟩
  have hlit : D.lst ([(net, ls2), (net2, ls), (net2, ls2)].map fun o : List Pr × List (List (List Pr)) => objD o.1 o.2) = .lst [objD net ls2, objD net2 ls, objD net2 ls2] := rfl
  rw [hlit] at h3
  have m1 := mk_on h2 net w
  have m2 := mk_on h1 net2 w
  have m3 := mk_on h2 net2 w
  simp [line_eq, m1, m2, m3, h3]
end K60
namespace K60
open PySem PyProof.Rows L2 J
theorem s11_on {e : Ent} (he : e ∈ menuT) {p : List Nat} (hp : p = e.1) {net net2 : List Pr} {ls ls2 : List (List (List Pr))} (h1 : Sm ls) (h2 : Sm ls2) (hE : ∀ o ∈ [(net, ls2), (net2, ls), (net2, ls2)], Evi e.1.sum o.1 o.2) (k : Nat) (w : Wd) (hc : 0 ≤ w.c) : ∃ o : List Pr × List (List (List Pr)), (sFor (iItems (eTup (aCons (eCall 2 G__law_pick (aCons (eVar 1) (aCons (eL (fLst (aCons (eMake "LeastNet" 3 G_LeastNet___init__ (aCons (eAttr "LeastNet" "net" (eBor 3)) (aCons (eVar 4) aNil))) (aCons (eMake "LeastNet" 3 G_LeastNet___init__ (aCons (eVar 6) (aCons (eAttr "LeastNet" "layers" (eBor 3)) aNil))) (aCons (eMake "LeastNet" 3 G_LeastNet___init__ (aCons (eVar 6) (aCons (eVar 4) aNil))) aNil))))) aNil))) aNil))) (gN 7) (sSeq (sIf (eTest (eNe (eMeth "LeastNet" "shows" 2 G_LeastNet_shows (eVar 7) (aCons (eVar 2) aNil)) (eCall 2 G__law_right (aCons (eVar 2) (aCons (eVar 7) aNil))))) (sSeq (sRet (eC (.bl false))) sNil) sNil) sNil)) [.no, .d .draw, .d (.lst (p.map nD)), .d (objD net ls), .d (laysD ls2), .d (.int k), .d (netD net2), .no, .no] w = some (.nx [.no, .d .draw, .d (.lst (p.map nD)), .d (objD net ls), .d (laysD ls2), .d (.int k), .d (netD net2), .d (objD o.1 o.2), .no] ⟨w.ns, w.c + 1⟩) := by
  obtain ⟨o, ho, e1⟩ := p11_on h1 h2 k p w hc (net := net) (net2 := net2)
  refine ⟨o, ?_⟩
  have E := hE o ho
  have P := pts_lst he
  have hs := shows_on P E ⟨w.ns, w.c + 1⟩
  have hr := right_on P.p0 P.p5 P.ok (parted_lst e he) P.sm E ⟨w.ns, w.c + 1⟩
  rw [← hp] at hs hr
  have h6 := cls_obj o.1 o.2
  have hi : iItems (eTup (aCons (eCall 2 G__law_pick (aCons (eVar 1) (aCons (eL (fLst (aCons (eMake "LeastNet" 3 G_LeastNet___init__ (aCons (eAttr "LeastNet" "net" (eBor 3)) (aCons (eVar 4) aNil))) (aCons (eMake "LeastNet" 3 G_LeastNet___init__ (aCons (eVar 6) (aCons (eAttr "LeastNet" "layers" (eBor 3)) aNil))) (aCons (eMake "LeastNet" 3 G_LeastNet___init__ (aCons (eVar 6) (aCons (eVar 4) aNil))) aNil))))) aNil))) aNil)) [.no, .d .draw, .d (.lst (p.map nD)), .d (objD net ls), .d (laysD ls2), .d (.int k), .d (netD net2), .no, .no] w = some ([objD o.1 o.2], ⟨w.ns, w.c + 1⟩) := by
    rw [iItems.ap, eTup.ap, aCons.ap, e1]
    simp [line_eq]
  rw [sFor.ap, hi, fo1.on]
  have ht : (eTest (eNe (eMeth "LeastNet" "shows" 2 G_LeastNet_shows (eVar 7) (aCons (eVar 2) aNil)) (eCall 2 G__law_right (aCons (eVar 2) (aCons (eVar 7) aNil))))) [.no, .d .draw, .d (.lst (p.map nD)), .d (objD net ls), .d (laysD ls2), .d (.int k), .d (netD net2), .d (objD o.1 o.2), .no] ⟨w.ns, w.c + 1⟩ = some (false, ⟨w.ns, w.c + 1⟩) := by
    generalize showsP e.1.sum (partedP e.1) o.1 o.2 = u at *
    simp [hs, hr, h6]
  exact forGo_nx rfl ((sif_no ht).trans rfl)
theorem s12_on {e : Ent} (he : e ∈ menuT) {p : List Nat} (hp : p = e.1) {net : List Pr} {ls : List (List (List Pr))} (hn : net = e.2.1) (hls : ls = e.2.2) (E : Evi e.1.sum net ls) (a4 a5 a6 a7 : Sl) (w : Wd) : (sRet (eAnd (eOwnEq "LeastNet" G_LeastNet___eq__ (eMake "LeastNet" 3 G_LeastNet___init__ (aCons (eTuple (aCons (eAttr "LeastNet" "net" (eBor 3)) aNil)) (aCons (eAttr "LeastNet" "layers" (eBor 3)) aNil))) (eBor 3)) (eMeth "LeastNet" "shows" 2 G_LeastNet_shows (eCall 1 G_least_net (aCons (eTuple (aCons (eBor 2) aNil)) aNil)) (aCons (eVar 2) aNil)))) [.no, .d .draw, .d (.lst (p.map nD)), .d (objD net ls), a4, a5, a6, a7, .no] w = some (.rt (.bl true) w) := by
  have m1 := mk_onT E.sm net w
  have h4 := own_eq net ls w
  have hq : leastQ e.1.sum (partedP e.1) = some (net, ls) := by
    rw [hn, hls]
    exact of_decide_eq_true (t_least e he)
  have h5 := least_on (pts_tup he) E.sm hq w
  have h6 := cls_obj net ls
  have h7 := shows_on (pts_lst he) E w
  have ht := t_shows e he
  rw [← hn, ← hls] at ht
  rw [ht] at h7
  rw [← hp] at h5 h7
  have hg : gTuple [netD net] = some (.tup (net.map pairD)) := rfl
  simp [hg, m1, h4, h5, h6, h7]
theorem law_on (ns : List Int) (hns : ns.length ≤ 63) : ∃ w', g_law (.no :: .d .draw :: List.replicate 7 .no) ⟨ns, 0⟩ = some (.rt (.bl true) w') := by
  obtain ⟨e, he, p, hp, hs1⟩ := s1_on ns
  have ho := t_own e he
  obtain ⟨o1, ho⟩ := Bool.and_eq_true_iff.mp ho
  obtain ⟨_, ho⟩ := Bool.and_eq_true_iff.mp ho
  obtain ⟨o2, ho⟩ := Bool.and_eq_true_iff.mp ho
  obtain ⟨o3, o4⟩ := Bool.and_eq_true_iff.mp ho
  have E := evi_of o1
  have hq : leastQ e.1.sum (partedP e.1) = some (e.2.1, e.2.2) := of_decide_eq_true (t_least e he)
  have hlen : e.2.2.length = e.2.1.length := of_decide_eq_true o4
  obtain ⟨net, hn⟩ : ∃ net, net = e.2.1 := ⟨_, rfl⟩
  obtain ⟨ls, hls⟩ : ∃ ls, ls = e.2.2 := ⟨_, rfl⟩
  have hs2 : (sSet 3 (eCall 1 G_least_net (aCons (eVar 2) aNil))) [.no, .d .draw, .d (.lst (p.map nD)), .no, .no, .no, .no, .no, .no] ⟨ns, 1⟩ = some (.nx [.no, .d .draw, .d (.lst (p.map nD)), .d (objD net ls), .no, .no, .no, .no, .no] ⟨ns, 1⟩) := by
    have := least_on (pts_lst he) E.sm hq ⟨ns, 1⟩
    rw [← hn, ← hls, ← hp] at this
    simp [this]
  have hb := List.all_eq_true.mp (t_bent e he)
  simp only [← hn, ← hls] at E o2 o3 hlen hb
  have hc3 := c3_on (of_decide_eq_true o2) E.sm.1 p net ⟨ns, 1⟩
  have hc4 := c4_on he hp hn hls E ⟨ns, 1⟩
  have hc5 := c5_on p net ls ⟨ns, 1⟩
  unfold g_law
  show ∃ w', sSeq (sSet 2 (eCall 2 G__law_pick (aCons (eVar 1) (aCons (eL (fLst (aCons (eL (fLst (aCons (eC (.int 1)) aNil))) (aCons (eL (fLst (aCons (eC (.int 2)) aNil))) (aCons (eL (fLst (aCons (eC (.int 1)) (aCons (eC (.int 1)) aNil)))) (aCons (eL (fLst (aCons (eC (.int 3)) aNil))) (aCons (eL (fLst (aCons (eC (.int 1)) (aCons (eC (.int 2)) aNil)))) (aCons (eL (fLst (aCons (eC (.int 2)) (aCons (eC (.int 1)) aNil)))) (aCons (eL (fLst (aCons (eC (.int 1)) (aCons (eC (.int 1)) (aCons (eC (.int 1)) aNil))))) (aCons (eL (fLst (aCons (eC (.int 4)) aNil))) (aCons (eL (fLst (aCons (eC (.int 2)) (aCons (eC (.int 2)) aNil)))) (aCons (eL (fLst (aCons (eC (.int 1)) (aCons (eC (.int 3)) aNil)))) (aCons (eL (fLst (aCons (eC (.int 3)) (aCons (eC (.int 1)) aNil)))) (aCons (eL (fLst (aCons (eC (.int 1)) (aCons (eC (.int 1)) (aCons (eC (.int 2)) aNil))))) (aCons (eL (fLst (aCons (eC (.int 2)) (aCons (eC (.int 1)) (aCons (eC (.int 1)) aNil))))) (aCons (eL (fLst (aCons (eC (.int 1)) (aCons (eC (.int 2)) (aCons (eC (.int 1)) aNil))))) (aCons (eL (fLst (aCons (eC (.int 1)) (aCons (eC (.int 1)) (aCons (eC (.int 1)) (aCons (eC (.int 1)) aNil)))))) aNil))))))))))))))))) aNil)))) _ [.no, .d .draw, .no, .no, .no, .no, .no, .no, .no] ⟨ns, 0⟩ = some (.rt (.bl true) w')
  rw [seq_nx hs1, seq_nx hs2, sif_no hc3, sif_no hc4]
  by_cases hnil : net = []
  · have hlnil : ls = [] := by
      rw [decide_eq_true hnil] at o3
      exact of_decide_eq_true o3
    rw [decide_eq_true hnil] at hc5
    refine ⟨⟨ns, 1⟩, ?_⟩
    have h5 := r5_on he hp hnil hlnil ⟨ns, 1⟩
    rw [sSeq.ap, sIf.ap, hc5, if1.on, if_pos rfl, h5]
    rfl
  · rw [decide_eq_false hnil] at hc5
    have hpos : 0 < ls.length := by
      rw [hlen]
      exact List.length_pos_iff.mpr hnil
    rw [sif_no hc5, seq_nx (s6_on E.sm p net ⟨ns, 1⟩)]
    obtain ⟨k, hk, hs7⟩ := s7_on hpos p net ⟨ns, 1⟩ (show (0 : Int) ≤ 1 by decide)
    rw [seq_nx hs7]
    obtain ⟨l2, hl2, w2, hw2, hc2, hs8⟩ := s8_on E.sm hk p ⟨ns, 1 + 1⟩ (show (0 : Int) ≤ 1 + 1 by decide) (net := net)
    rw [seq_nx hs8]
    obtain ⟨ls2, hls2⟩ : ∃ ls2, ls2 = ls.set k l2 := ⟨_, rfl⟩
    rw [← hls2]
    obtain ⟨net2, hn2, hs9⟩ := s9_on E.ln p ls ls2 k w2 hc2
    rw [seq_nx hs9]
    have hb2 := Bool.and_eq_true_iff.mp (List.all_eq_true.mp (hb k (List.mem_range.mpr hk)) l2 hl2)
    have hb3 := Bool.and_eq_true_iff.mp (List.all_eq_true.mp hb2.2 net2 hn2)
    have E1 := evi_of hb2.1
    have E2 := evi_of hb3.1
    have E3 := evi_of hb3.2
    rw [← hls2] at E1 E3
    obtain ⟨o, hs11⟩ := s11_on he hp E.sm E1.sm (fun o ho => by
      rcases List.mem_cons.mp ho with rfl | ho
      · exact E1
      rcases List.mem_cons.mp ho with rfl | ho
      · exact E2
      · rw [List.mem_singleton.mp ho]
        exact E3) k ⟨w2.ns, w2.c + 1⟩ (show (0 : Int) ≤ w2.c + 1 by omega)
    have hF : ∀ g : Es, sFrz 4 g [.no, .d .draw, .d (.lst (p.map nD)), .d (objD net ls), .own (ls2.map layerD), .d (.int k), .d (netD net2), .no, .no] ⟨w2.ns, w2.c + 1⟩ = g [.no, .d .draw, .d (.lst (p.map nD)), .d (objD net ls), .d (laysD ls2), .d (.int k), .d (netD net2), .no, .no] ⟨w2.ns, w2.c + 1⟩ := fun g => by
      simp [laysD]
    rw [hF, seq_nx hs11]
    exact ⟨_, seq_rt (s12_on he hp hn hls E _ _ _ _ _)⟩
end K60
namespace K60
open PySem PyProof.Rows L2 J
theorem all_mk {l : PySem.W.OpenLaw} {w : World} {K : PySem.W.Frag} {h : Heap} {mg : Str → Option Value} {fa f_is_whole f_led_through f_check_parts f_rows_of f_exchanges_of f_behind f_are_ascending f_orders_of f_counts_of f_covers f_next_layer f_is_covered f_LeastNet___init__ f_LeastNet___eq__ f_LeastNet___len__ f_LeastNet_shows f_least_net f__law_cell_at f__law_draw f__law_number f__law_next f__law_pick f__law_parted f__law_led f__law_up f__law_pairs f__law_orders f__law_covers f__law_least f__law_right f_law : Addr} (X : K.In h) (G : h.Ns mainGlobals mg) (hfa : mg "law" = some (.ref fa))
    {od_is_whole an_is_whole od_led_through an_led_through od_check_parts an_check_parts od_rows_of an_rows_of od_exchanges_of an_exchanges_of od_behind an_behind od_are_ascending an_are_ascending od_orders_of an_orders_of od_counts_of an_counts_of od_covers an_covers od_next_layer an_next_layer od_is_covered an_is_covered od_LeastNet___init__ an_LeastNet___init__ od_LeastNet___eq__ an_LeastNet___eq__ od_LeastNet___len__ an_LeastNet___len__ od_LeastNet_shows an_LeastNet_shows od_least_net an_least_net od__law_cell_at an__law_cell_at od__law_draw an__law_draw od__law_number an__law_number od__law_next an__law_next od__law_pick an__law_pick od__law_parted an__law_parted od__law_led an__law_led od__law_up an__law_up od__law_pairs an__law_pairs od__law_orders an__law_orders od__law_covers an__law_covers od__law_least an__law_least od__law_right an__law_right od_law an_law : Option Addr} {sl_is_whole sl_led_through sl_check_parts sl_rows_of sl_exchanges_of sl_behind sl_are_ascending sl_orders_of sl_counts_of sl_covers sl_next_layer sl_is_covered sl_LeastNet___init__ sl_LeastNet___eq__ sl_LeastNet___len__ sl_LeastNet_shows sl_least_net sl__law_cell_at sl__law_draw sl__law_number sl__law_next sl__law_pick sl__law_parted sl__law_led sl__law_up sl__law_pairs sl__law_orders sl__law_covers sl__law_least sl__law_right sl_law : Array (Option Value)} {oc_is_whole kV_is_whole dc_is_whole pm_is_whole cd_is_whole ct_is_whole oc_led_through kV_led_through dc_led_through pm_led_through cd_led_through ct_led_through oc_check_parts kV_check_parts dc_check_parts pm_check_parts cd_check_parts ct_check_parts oc_rows_of kV_rows_of dc_rows_of pm_rows_of cd_rows_of ct_rows_of oc_exchanges_of kV_exchanges_of dc_exchanges_of pm_exchanges_of cd_exchanges_of ct_exchanges_of oc_behind kV_behind dc_behind pm_behind cd_behind ct_behind oc_are_ascending kV_are_ascending dc_are_ascending pm_are_ascending cd_are_ascending ct_are_ascending oc_orders_of kV_orders_of dc_orders_of pm_orders_of cd_orders_of ct_orders_of oc_counts_of kV_counts_of dc_counts_of pm_counts_of cd_counts_of ct_counts_of oc_covers kV_covers dc_covers pm_covers cd_covers ct_covers oc_next_layer kV_next_layer dc_next_layer pm_next_layer cd_next_layer ct_next_layer oc_is_covered kV_is_covered dc_is_covered pm_is_covered cd_is_covered ct_is_covered oc_LeastNet___init__ kV_LeastNet___init__ dc_LeastNet___init__ pm_LeastNet___init__ cd_LeastNet___init__ ct_LeastNet___init__ oc_LeastNet___eq__ kV_LeastNet___eq__ dc_LeastNet___eq__ pm_LeastNet___eq__ cd_LeastNet___eq__ ct_LeastNet___eq__ oc_LeastNet___len__ kV_LeastNet___len__ dc_LeastNet___len__ pm_LeastNet___len__ cd_LeastNet___len__ ct_LeastNet___len__ oc_LeastNet_shows kV_LeastNet_shows dc_LeastNet_shows pm_LeastNet_shows cd_LeastNet_shows ct_LeastNet_shows oc_least_net kV_least_net dc_least_net pm_least_net cd_least_net ct_least_net oc__law_cell_at kV__law_cell_at dc__law_cell_at pm__law_cell_at cd__law_cell_at ct__law_cell_at oc__law_draw kV__law_draw dc__law_draw pm__law_draw cd__law_draw ct__law_draw oc__law_number kV__law_number dc__law_number pm__law_number cd__law_number ct__law_number oc__law_next kV__law_next dc__law_next pm__law_next cd__law_next ct__law_next oc__law_pick kV__law_pick dc__law_pick pm__law_pick cd__law_pick ct__law_pick oc__law_parted kV__law_parted dc__law_parted pm__law_parted cd__law_parted ct__law_parted oc__law_led kV__law_led dc__law_led pm__law_led cd__law_led ct__law_led oc__law_up kV__law_up dc__law_up pm__law_up cd__law_up ct__law_up oc__law_pairs kV__law_pairs dc__law_pairs pm__law_pairs cd__law_pairs ct__law_pairs oc__law_orders kV__law_orders dc__law_orders pm__law_orders cd__law_orders ct__law_orders oc__law_covers kV__law_covers dc__law_covers pm__law_covers cd__law_covers ct__law_covers oc__law_least kV__law_least dc__law_least pm__law_least cd__law_least ct__law_least oc__law_right kV__law_right dc__law_right pm__law_right cd__law_right ct__law_right oc_law kV_law dc_law pm_law cd_law ct_law : Value}
    {C_LeastNet : Addr} (aC_LeastNet : PySem.W.nsIn K mainGlobals "LeastNet" = some (some (.ref C_LeastNet))) (pg_LeastNet : PySem.W.plainGet K C_LeastNet Str.empty = true) (hd_LeastNet : PySem.W.hasDictIn K C_LeastNet = true) (po_LeastNet : PySem.W.plainOver K C_LeastNet = true) (sa_LeastNet : PySem.W.findIn K (.ref C_LeastNet) "__setattr__" = some (some (.builtin "object.__setattr__"))) (mk_LeastNet : PySem.W.makesIn K C_LeastNet = true) (kc_LeastNet : PySem.W.keepIn K (.ref C_LeastNet) = true)
    (ha_LeastNet : PySem.W.findIn K (.ref C_LeastNet) "__class__" = some (some (.builtin "object.__class__"))) (hn_LeastNet : PySem.W.specialIn K (.builtin "object.__class__") "__get__" = some (some (.builtin "getset_descriptor.__get__"))) (htk_LeastNet : PySem.W.takesIn K (.builtin "object.__class__") = some true) (hm_LeastNet : PySem.W.mroIn K C_LeastNet (.type "object") = some true)
    (na_LeastNet_layers : PySem.W.findIn K (.ref C_LeastNet) "layers" = some none)
    (na_LeastNet_net : PySem.W.findIn K (.ref C_LeastNet) "net" = some none)
    (a_is_whole : PySem.W.nsIn K mainGlobals "is_whole" = some (some (.ref f_is_whole))) (l_is_whole : K.lookup f_is_whole = some ⟨oc_is_whole, od_is_whole, .func (PySem.W.fnOf "is_whole" "is_whole" (defArgs s_is_whole) (defBody s_is_whole) (defScope s_is_whole) .none kV_is_whole dc_is_whole pm_is_whole an_is_whole cd_is_whole ct_is_whole), sl_is_whole⟩) (c_is_whole : PySem.W.codeIn K cd_is_whole "is_whole" = true) (k_is_whole : PySem.W.keepIn K (.ref f_is_whole) = true)
    (a_led_through : PySem.W.nsIn K mainGlobals "led_through" = some (some (.ref f_led_through))) (l_led_through : K.lookup f_led_through = some ⟨oc_led_through, od_led_through, .func (PySem.W.fnOf "led_through" "led_through" (defArgs s_led_through) (defBody s_led_through) (defScope s_led_through) .none kV_led_through dc_led_through pm_led_through an_led_through cd_led_through ct_led_through), sl_led_through⟩) (c_led_through : PySem.W.codeIn K cd_led_through "led_through" = true) (k_led_through : PySem.W.keepIn K (.ref f_led_through) = true)
    (a_check_parts : PySem.W.nsIn K mainGlobals "check_parts" = some (some (.ref f_check_parts))) (l_check_parts : K.lookup f_check_parts = some ⟨oc_check_parts, od_check_parts, .func (PySem.W.fnOf "check_parts" "check_parts" (defArgs s_check_parts) (defBody s_check_parts) (defScope s_check_parts) .none kV_check_parts dc_check_parts pm_check_parts an_check_parts cd_check_parts ct_check_parts), sl_check_parts⟩) (c_check_parts : PySem.W.codeIn K cd_check_parts "check_parts" = true) (k_check_parts : PySem.W.keepIn K (.ref f_check_parts) = true)
    (a_rows_of : PySem.W.nsIn K mainGlobals "rows_of" = some (some (.ref f_rows_of))) (l_rows_of : K.lookup f_rows_of = some ⟨oc_rows_of, od_rows_of, .func (PySem.W.fnOf "rows_of" "rows_of" (defArgs s_rows_of) (defBody s_rows_of) (defScope s_rows_of) .none kV_rows_of dc_rows_of pm_rows_of an_rows_of cd_rows_of ct_rows_of), sl_rows_of⟩) (c_rows_of : PySem.W.codeIn K cd_rows_of "rows_of" = true) (k_rows_of : PySem.W.keepIn K (.ref f_rows_of) = true)
    (a_exchanges_of : PySem.W.nsIn K mainGlobals "exchanges_of" = some (some (.ref f_exchanges_of))) (l_exchanges_of : K.lookup f_exchanges_of = some ⟨oc_exchanges_of, od_exchanges_of, .func (PySem.W.fnOf "exchanges_of" "exchanges_of" (defArgs s_exchanges_of) (defBody s_exchanges_of) (defScope s_exchanges_of) .none kV_exchanges_of dc_exchanges_of pm_exchanges_of an_exchanges_of cd_exchanges_of ct_exchanges_of), sl_exchanges_of⟩) (c_exchanges_of : PySem.W.codeIn K cd_exchanges_of "exchanges_of" = true) (k_exchanges_of : PySem.W.keepIn K (.ref f_exchanges_of) = true)
    (a_behind : PySem.W.nsIn K mainGlobals "behind" = some (some (.ref f_behind))) (l_behind : K.lookup f_behind = some ⟨oc_behind, od_behind, .func (PySem.W.fnOf "behind" "behind" (defArgs s_behind) (defBody s_behind) (defScope s_behind) .none kV_behind dc_behind pm_behind an_behind cd_behind ct_behind), sl_behind⟩) (c_behind : PySem.W.codeIn K cd_behind "behind" = true) (k_behind : PySem.W.keepIn K (.ref f_behind) = true)
    (a_are_ascending : PySem.W.nsIn K mainGlobals "are_ascending" = some (some (.ref f_are_ascending))) (l_are_ascending : K.lookup f_are_ascending = some ⟨oc_are_ascending, od_are_ascending, .func (PySem.W.fnOf "are_ascending" "are_ascending" (defArgs s_are_ascending) (defBody s_are_ascending) (defScope s_are_ascending) .none kV_are_ascending dc_are_ascending pm_are_ascending an_are_ascending cd_are_ascending ct_are_ascending), sl_are_ascending⟩) (c_are_ascending : PySem.W.codeIn K cd_are_ascending "are_ascending" = true) (k_are_ascending : PySem.W.keepIn K (.ref f_are_ascending) = true)
    (a_orders_of : PySem.W.nsIn K mainGlobals "orders_of" = some (some (.ref f_orders_of))) (l_orders_of : K.lookup f_orders_of = some ⟨oc_orders_of, od_orders_of, .func (PySem.W.fnOf "orders_of" "orders_of" (defArgs s_orders_of) (defBody s_orders_of) (defScope s_orders_of) .none kV_orders_of dc_orders_of pm_orders_of an_orders_of cd_orders_of ct_orders_of), sl_orders_of⟩) (c_orders_of : PySem.W.codeIn K cd_orders_of "orders_of" = true) (k_orders_of : PySem.W.keepIn K (.ref f_orders_of) = true)
    (a_counts_of : PySem.W.nsIn K mainGlobals "counts_of" = some (some (.ref f_counts_of))) (l_counts_of : K.lookup f_counts_of = some ⟨oc_counts_of, od_counts_of, .func (PySem.W.fnOf "counts_of" "counts_of" (defArgs s_counts_of) (defBody s_counts_of) (defScope s_counts_of) .none kV_counts_of dc_counts_of pm_counts_of an_counts_of cd_counts_of ct_counts_of), sl_counts_of⟩) (c_counts_of : PySem.W.codeIn K cd_counts_of "counts_of" = true) (k_counts_of : PySem.W.keepIn K (.ref f_counts_of) = true)
    (a_covers : PySem.W.nsIn K mainGlobals "covers" = some (some (.ref f_covers))) (l_covers : K.lookup f_covers = some ⟨oc_covers, od_covers, .func (PySem.W.fnOf "covers" "covers" (defArgs s_covers) (defBody s_covers) (defScope s_covers) .none kV_covers dc_covers pm_covers an_covers cd_covers ct_covers), sl_covers⟩) (c_covers : PySem.W.codeIn K cd_covers "covers" = true) (k_covers : PySem.W.keepIn K (.ref f_covers) = true)
    (a_next_layer : PySem.W.nsIn K mainGlobals "next_layer" = some (some (.ref f_next_layer))) (l_next_layer : K.lookup f_next_layer = some ⟨oc_next_layer, od_next_layer, .func (PySem.W.fnOf "next_layer" "next_layer" (defArgs s_next_layer) (defBody s_next_layer) (defScope s_next_layer) .none kV_next_layer dc_next_layer pm_next_layer an_next_layer cd_next_layer ct_next_layer), sl_next_layer⟩) (c_next_layer : PySem.W.codeIn K cd_next_layer "next_layer" = true) (k_next_layer : PySem.W.keepIn K (.ref f_next_layer) = true)
    (a_is_covered : PySem.W.nsIn K mainGlobals "is_covered" = some (some (.ref f_is_covered))) (l_is_covered : K.lookup f_is_covered = some ⟨oc_is_covered, od_is_covered, .func (PySem.W.fnOf "is_covered" "is_covered" (defArgs s_is_covered) (defBody s_is_covered) (defScope s_is_covered) .none kV_is_covered dc_is_covered pm_is_covered an_is_covered cd_is_covered ct_is_covered), sl_is_covered⟩) (c_is_covered : PySem.W.codeIn K cd_is_covered "is_covered" = true) (k_is_covered : PySem.W.keepIn K (.ref f_is_covered) = true)
    (a_LeastNet___init__ : PySem.W.findIn K (.ref C_LeastNet) "__init__" = some (some (.ref f_LeastNet___init__))) (i_LeastNet___init__ : PySem.W.isFn K (.ref f_LeastNet___init__) = true) (l_LeastNet___init__ : K.lookup f_LeastNet___init__ = some ⟨oc_LeastNet___init__, od_LeastNet___init__, .func (PySem.W.fnOf "__init__" "LeastNet.__init__" (defArgs s_LeastNet___init__) (defBody s_LeastNet___init__) (defScope s_LeastNet___init__) .none kV_LeastNet___init__ dc_LeastNet___init__ pm_LeastNet___init__ an_LeastNet___init__ cd_LeastNet___init__ ct_LeastNet___init__), sl_LeastNet___init__⟩) (c_LeastNet___init__ : PySem.W.codeIn K cd_LeastNet___init__ "LeastNet.__init__" = true) (k_LeastNet___init__ : PySem.W.keepIn K (.ref f_LeastNet___init__) = true)
    (a_LeastNet___eq__ : PySem.W.findIn K (.ref C_LeastNet) "__eq__" = some (some (.ref f_LeastNet___eq__))) (i_LeastNet___eq__ : PySem.W.isFn K (.ref f_LeastNet___eq__) = true) (l_LeastNet___eq__ : K.lookup f_LeastNet___eq__ = some ⟨oc_LeastNet___eq__, od_LeastNet___eq__, .func (PySem.W.fnOf "__eq__" "LeastNet.__eq__" (defArgs s_LeastNet___eq__) (defBody s_LeastNet___eq__) (defScope s_LeastNet___eq__) .none kV_LeastNet___eq__ dc_LeastNet___eq__ pm_LeastNet___eq__ an_LeastNet___eq__ cd_LeastNet___eq__ ct_LeastNet___eq__), sl_LeastNet___eq__⟩) (c_LeastNet___eq__ : PySem.W.codeIn K cd_LeastNet___eq__ "LeastNet.__eq__" = true) (k_LeastNet___eq__ : PySem.W.keepIn K (.ref f_LeastNet___eq__) = true)
    (a_LeastNet___len__ : PySem.W.findIn K (.ref C_LeastNet) "__len__" = some (some (.ref f_LeastNet___len__))) (i_LeastNet___len__ : PySem.W.isFn K (.ref f_LeastNet___len__) = true) (l_LeastNet___len__ : K.lookup f_LeastNet___len__ = some ⟨oc_LeastNet___len__, od_LeastNet___len__, .func (PySem.W.fnOf "__len__" "LeastNet.__len__" (defArgs s_LeastNet___len__) (defBody s_LeastNet___len__) (defScope s_LeastNet___len__) .none kV_LeastNet___len__ dc_LeastNet___len__ pm_LeastNet___len__ an_LeastNet___len__ cd_LeastNet___len__ ct_LeastNet___len__), sl_LeastNet___len__⟩) (c_LeastNet___len__ : PySem.W.codeIn K cd_LeastNet___len__ "LeastNet.__len__" = true) (k_LeastNet___len__ : PySem.W.keepIn K (.ref f_LeastNet___len__) = true)
    (a_LeastNet_shows : PySem.W.findIn K (.ref C_LeastNet) "shows" = some (some (.ref f_LeastNet_shows))) (i_LeastNet_shows : PySem.W.isFn K (.ref f_LeastNet_shows) = true) (l_LeastNet_shows : K.lookup f_LeastNet_shows = some ⟨oc_LeastNet_shows, od_LeastNet_shows, .func (PySem.W.fnOf "shows" "LeastNet.shows" (defArgs s_LeastNet_shows) (defBody s_LeastNet_shows) (defScope s_LeastNet_shows) .none kV_LeastNet_shows dc_LeastNet_shows pm_LeastNet_shows an_LeastNet_shows cd_LeastNet_shows ct_LeastNet_shows), sl_LeastNet_shows⟩) (c_LeastNet_shows : PySem.W.codeIn K cd_LeastNet_shows "LeastNet.shows" = true) (k_LeastNet_shows : PySem.W.keepIn K (.ref f_LeastNet_shows) = true)
    (a_least_net : PySem.W.nsIn K mainGlobals "least_net" = some (some (.ref f_least_net))) (l_least_net : K.lookup f_least_net = some ⟨oc_least_net, od_least_net, .func (PySem.W.fnOf "least_net" "least_net" (defArgs s_least_net) (defBody s_least_net) (defScope s_least_net) .none kV_least_net dc_least_net pm_least_net an_least_net cd_least_net ct_least_net), sl_least_net⟩) (c_least_net : PySem.W.codeIn K cd_least_net "least_net" = true) (k_least_net : PySem.W.keepIn K (.ref f_least_net) = true)
    (a__law_cell_at : PySem.W.nsIn K mainGlobals "_law_cell_at" = some (some (.ref f__law_cell_at))) (l__law_cell_at : K.lookup f__law_cell_at = some ⟨oc__law_cell_at, od__law_cell_at, .func (PySem.W.fnOf "_law_cell_at" "_law_cell_at" (defArgs s__law_cell_at) (defBody s__law_cell_at) (defScope s__law_cell_at) .none kV__law_cell_at dc__law_cell_at pm__law_cell_at an__law_cell_at cd__law_cell_at ct__law_cell_at), sl__law_cell_at⟩) (c__law_cell_at : PySem.W.codeIn K cd__law_cell_at "_law_cell_at" = true) (k__law_cell_at : PySem.W.keepIn K (.ref f__law_cell_at) = true)
    (a__law_draw : PySem.W.nsIn K mainGlobals "_law_draw" = some (some (.ref f__law_draw))) (l__law_draw : K.lookup f__law_draw = some ⟨oc__law_draw, od__law_draw, .func (PySem.W.fnOf "_law_draw" "_law_draw" (defArgs s__law_draw) (defBody s__law_draw) (defScope s__law_draw) .none kV__law_draw dc__law_draw pm__law_draw an__law_draw cd__law_draw ct__law_draw), sl__law_draw⟩) (c__law_draw : PySem.W.codeIn K cd__law_draw "_law_draw" = true) (k__law_draw : PySem.W.keepIn K (.ref f__law_draw) = true)
    (a__law_number : PySem.W.nsIn K mainGlobals "_law_number" = some (some (.ref f__law_number))) (l__law_number : K.lookup f__law_number = some ⟨oc__law_number, od__law_number, .func (PySem.W.fnOf "_law_number" "_law_number" (defArgs s__law_number) (defBody s__law_number) (defScope s__law_number) .none kV__law_number dc__law_number pm__law_number an__law_number cd__law_number ct__law_number), sl__law_number⟩) (c__law_number : PySem.W.codeIn K cd__law_number "_law_number" = true) (k__law_number : PySem.W.keepIn K (.ref f__law_number) = true)
    (a__law_next : PySem.W.nsIn K mainGlobals "_law_next" = some (some (.ref f__law_next))) (l__law_next : K.lookup f__law_next = some ⟨oc__law_next, od__law_next, .func (PySem.W.fnOf "_law_next" "_law_next" (defArgs s__law_next) (defBody s__law_next) (defScope s__law_next) .none kV__law_next dc__law_next pm__law_next an__law_next cd__law_next ct__law_next), sl__law_next⟩) (c__law_next : PySem.W.codeIn K cd__law_next "_law_next" = true) (k__law_next : PySem.W.keepIn K (.ref f__law_next) = true)
    (a__law_pick : PySem.W.nsIn K mainGlobals "_law_pick" = some (some (.ref f__law_pick))) (l__law_pick : K.lookup f__law_pick = some ⟨oc__law_pick, od__law_pick, .func (PySem.W.fnOf "_law_pick" "_law_pick" (defArgs s__law_pick) (defBody s__law_pick) (defScope s__law_pick) .none kV__law_pick dc__law_pick pm__law_pick an__law_pick cd__law_pick ct__law_pick), sl__law_pick⟩) (c__law_pick : PySem.W.codeIn K cd__law_pick "_law_pick" = true) (k__law_pick : PySem.W.keepIn K (.ref f__law_pick) = true)
    (a__law_parted : PySem.W.nsIn K mainGlobals "_law_parted" = some (some (.ref f__law_parted))) (l__law_parted : K.lookup f__law_parted = some ⟨oc__law_parted, od__law_parted, .func (PySem.W.fnOf "_law_parted" "_law_parted" (defArgs s__law_parted) (defBody s__law_parted) (defScope s__law_parted) .none kV__law_parted dc__law_parted pm__law_parted an__law_parted cd__law_parted ct__law_parted), sl__law_parted⟩) (c__law_parted : PySem.W.codeIn K cd__law_parted "_law_parted" = true) (k__law_parted : PySem.W.keepIn K (.ref f__law_parted) = true)
    (a__law_led : PySem.W.nsIn K mainGlobals "_law_led" = some (some (.ref f__law_led))) (l__law_led : K.lookup f__law_led = some ⟨oc__law_led, od__law_led, .func (PySem.W.fnOf "_law_led" "_law_led" (defArgs s__law_led) (defBody s__law_led) (defScope s__law_led) .none kV__law_led dc__law_led pm__law_led an__law_led cd__law_led ct__law_led), sl__law_led⟩) (c__law_led : PySem.W.codeIn K cd__law_led "_law_led" = true) (k__law_led : PySem.W.keepIn K (.ref f__law_led) = true)
    (a__law_up : PySem.W.nsIn K mainGlobals "_law_up" = some (some (.ref f__law_up))) (l__law_up : K.lookup f__law_up = some ⟨oc__law_up, od__law_up, .func (PySem.W.fnOf "_law_up" "_law_up" (defArgs s__law_up) (defBody s__law_up) (defScope s__law_up) .none kV__law_up dc__law_up pm__law_up an__law_up cd__law_up ct__law_up), sl__law_up⟩) (c__law_up : PySem.W.codeIn K cd__law_up "_law_up" = true) (k__law_up : PySem.W.keepIn K (.ref f__law_up) = true)
    (a__law_pairs : PySem.W.nsIn K mainGlobals "_law_pairs" = some (some (.ref f__law_pairs))) (l__law_pairs : K.lookup f__law_pairs = some ⟨oc__law_pairs, od__law_pairs, .func (PySem.W.fnOf "_law_pairs" "_law_pairs" (defArgs s__law_pairs) (defBody s__law_pairs) (defScope s__law_pairs) .none kV__law_pairs dc__law_pairs pm__law_pairs an__law_pairs cd__law_pairs ct__law_pairs), sl__law_pairs⟩) (c__law_pairs : PySem.W.codeIn K cd__law_pairs "_law_pairs" = true) (k__law_pairs : PySem.W.keepIn K (.ref f__law_pairs) = true)
    (a__law_orders : PySem.W.nsIn K mainGlobals "_law_orders" = some (some (.ref f__law_orders))) (l__law_orders : K.lookup f__law_orders = some ⟨oc__law_orders, od__law_orders, .func (PySem.W.fnOf "_law_orders" "_law_orders" (defArgs s__law_orders) (defBody s__law_orders) (defScope s__law_orders) .none kV__law_orders dc__law_orders pm__law_orders an__law_orders cd__law_orders ct__law_orders), sl__law_orders⟩) (c__law_orders : PySem.W.codeIn K cd__law_orders "_law_orders" = true) (k__law_orders : PySem.W.keepIn K (.ref f__law_orders) = true)
    (a__law_covers : PySem.W.nsIn K mainGlobals "_law_covers" = some (some (.ref f__law_covers))) (l__law_covers : K.lookup f__law_covers = some ⟨oc__law_covers, od__law_covers, .func (PySem.W.fnOf "_law_covers" "_law_covers" (defArgs s__law_covers) (defBody s__law_covers) (defScope s__law_covers) .none kV__law_covers dc__law_covers pm__law_covers an__law_covers cd__law_covers ct__law_covers), sl__law_covers⟩) (c__law_covers : PySem.W.codeIn K cd__law_covers "_law_covers" = true) (k__law_covers : PySem.W.keepIn K (.ref f__law_covers) = true)
    (a__law_least : PySem.W.nsIn K mainGlobals "_law_least" = some (some (.ref f__law_least))) (l__law_least : K.lookup f__law_least = some ⟨oc__law_least, od__law_least, .func (PySem.W.fnOf "_law_least" "_law_least" (defArgs s__law_least) (defBody s__law_least) (defScope s__law_least) .none kV__law_least dc__law_least pm__law_least an__law_least cd__law_least ct__law_least), sl__law_least⟩) (c__law_least : PySem.W.codeIn K cd__law_least "_law_least" = true) (k__law_least : PySem.W.keepIn K (.ref f__law_least) = true)
    (a__law_right : PySem.W.nsIn K mainGlobals "_law_right" = some (some (.ref f__law_right))) (l__law_right : K.lookup f__law_right = some ⟨oc__law_right, od__law_right, .func (PySem.W.fnOf "_law_right" "_law_right" (defArgs s__law_right) (defBody s__law_right) (defScope s__law_right) .none kV__law_right dc__law_right pm__law_right an__law_right cd__law_right ct__law_right), sl__law_right⟩) (c__law_right : PySem.W.codeIn K cd__law_right "_law_right" = true) (k__law_right : PySem.W.keepIn K (.ref f__law_right) = true)
    (a_law : PySem.W.nsIn K mainGlobals "law" = some (some (.ref f_law))) (l_law : K.lookup f_law = some ⟨oc_law, od_law, .func (PySem.W.fnOf "law" "law" (defArgs s_law) (defBody s_law) (defScope s_law) .none kV_law dc_law pm_law an_law cd_law ct_law), sl_law⟩) (c_law : PySem.W.codeIn K cd_law "law" = true) (k_law : PySem.W.keepIn K (.ref f_law) = true)
    (z_all : PySem.W.nsIn K mainGlobals "all" = some none)
    (z_any : PySem.W.nsIn K mainGlobals "any" = some none)
    (z_bool : PySem.W.nsIn K mainGlobals "bool" = some none)
    (z_enumerate : PySem.W.nsIn K mainGlobals "enumerate" = some none)
    (z_int : PySem.W.nsIn K mainGlobals "int" = some none)
    (z_isinstance : PySem.W.nsIn K mainGlobals "isinstance" = some none)
    (z_len : PySem.W.nsIn K mainGlobals "len" = some none)
    (z_list : PySem.W.nsIn K mainGlobals "list" = some none)
    (z_max : PySem.W.nsIn K mainGlobals "max" = some none)
    (z_range : PySem.W.nsIn K mainGlobals "range" = some none)
    (z_set : PySem.W.nsIn K mainGlobals "set" = some none)
    (z_sorted : PySem.W.nsIn K mainGlobals "sorted" = some none)
    (z_sum : PySem.W.nsIn K mainGlobals "sum" = some none)
    (z_tuple : PySem.W.nsIn K mainGlobals "tuple" = some none)
    (z_zip : PySem.W.nsIn K mainGlobals "zip" = some none)
    {t0 : Tok} (y_MOST_LANES : PySem.W.nsIn K mainGlobals "MOST_LANES" = some (some (.int 5 t0)))
    : ∃ fd : FuncData, (∀ (s : Shared) (v : Value), BindsTo s fd ⟨[v], []⟩ [("_law_script", v)]) ∧ ∀ base : Heap, K.In base → base.Ns mainGlobals mg → FnOk l.prog w K mg base CX0 5 fa fd ["_law_script"] (spLaw K) := by
  have e := hfa.symm.trans (PySem.W.mg_of X G a_law)
  cases e
  have eC_LeastNet : clsA K "LeastNet" = C_LeastNet := by
    unfold clsA
    rw [aC_LeastNet]
  subst eC_LeastNet
  have T : Txt K mg := ⟨PySem.W.mg_none_of X G z_all, PySem.W.mg_none_of X G z_any, PySem.W.mg_none_of X G z_bool, PySem.W.mg_none_of X G z_enumerate, PySem.W.mg_none_of X G z_int, PySem.W.mg_none_of X G z_isinstance, PySem.W.mg_none_of X G z_len, PySem.W.mg_none_of X G z_list, PySem.W.mg_none_of X G z_max, PySem.W.mg_none_of X G z_range, PySem.W.mg_none_of X G z_set, PySem.W.mg_none_of X G z_sorted, PySem.W.mg_none_of X G z_sum, PySem.W.mg_none_of X G z_tuple, PySem.W.mg_none_of X G z_zip, ⟨V.int 5, _, PySem.W.mg_of X G y_MOST_LANES, ⟨t0, rfl⟩, fun p F => rfl⟩, ⟨pg_LeastNet, hd_LeastNet, po_LeastNet, sa_LeastNet⟩, PySem.W.mg_of X G aC_LeastNet, ⟨⟨pg_LeastNet, hd_LeastNet, po_LeastNet, sa_LeastNet⟩, ha_LeastNet, hn_LeastNet, htk_LeastNet, hm_LeastNet, if_pos (beq_self_eq_true _)⟩, na_LeastNet_layers, na_LeastNet_net⟩
  have F_is_whole := fun_mk (st := s_is_whole) l_is_whole c_is_whole k_is_whole
  have b_is_whole := F_is_whole.binds (ps := ["thing"]) fun _ _ _ _ _ _ us hl => match us, hl with | [_], _ => rfl
  have m_is_whole := PySem.W.mg_of X G a_is_whole
  have F_led_through := fun_mk (st := s_led_through) l_led_through c_led_through k_led_through
  have b_led_through := F_led_through.binds (ps := ["net", "row"]) fun _ _ _ _ _ _ us hl => match us, hl with | [_, _], _ => rfl
  have m_led_through := PySem.W.mg_of X G a_led_through
  have F_check_parts := fun_mk (st := s_check_parts) l_check_parts c_check_parts k_check_parts
  have b_check_parts := F_check_parts.binds (ps := ["parts"]) fun _ _ _ _ _ _ us hl => match us, hl with | [_], _ => rfl
  have m_check_parts := PySem.W.mg_of X G a_check_parts
  have F_rows_of := fun_mk (st := s_rows_of) l_rows_of c_rows_of k_rows_of
  have b_rows_of := F_rows_of.binds (ps := ["parts"]) fun _ _ _ _ _ _ us hl => match us, hl with | [_], _ => rfl
  have m_rows_of := PySem.W.mg_of X G a_rows_of
  have F_exchanges_of := fun_mk (st := s_exchanges_of) l_exchanges_of c_exchanges_of k_exchanges_of
  have b_exchanges_of := F_exchanges_of.binds (ps := ["width"]) fun _ _ _ _ _ _ us hl => match us, hl with | [_], _ => rfl
  have m_exchanges_of := PySem.W.mg_of X G a_exchanges_of
  have F_behind := fun_mk (st := s_behind) l_behind c_behind k_behind
  have b_behind := F_behind.binds (ps := ["rows", "net"]) fun _ _ _ _ _ _ us hl => match us, hl with | [_, _], _ => rfl
  have m_behind := PySem.W.mg_of X G a_behind
  have F_are_ascending := fun_mk (st := s_are_ascending) l_are_ascending c_are_ascending k_are_ascending
  have b_are_ascending := F_are_ascending.binds (ps := ["rows"]) fun _ _ _ _ _ _ us hl => match us, hl with | [_], _ => rfl
  have m_are_ascending := PySem.W.mg_of X G a_are_ascending
  have F_orders_of := fun_mk (st := s_orders_of) l_orders_of c_orders_of k_orders_of
  have b_orders_of := F_orders_of.binds (ps := ["width"]) fun _ _ _ _ _ _ us hl => match us, hl with | [_], _ => rfl
  have m_orders_of := PySem.W.mg_of X G a_orders_of
  have F_counts_of := fun_mk (st := s_counts_of) l_counts_of c_counts_of k_counts_of
  have b_counts_of := F_counts_of.binds (ps := ["rows"]) fun _ _ _ _ _ _ us hl => match us, hl with | [_], _ => rfl
  have m_counts_of := PySem.W.mg_of X G a_counts_of
  have F_covers := fun_mk (st := s_covers) l_covers c_covers k_covers
  have b_covers := F_covers.binds (ps := ["one", "other", "orders"]) fun _ _ _ _ _ _ us hl => match us, hl with | [_, _, _], _ => rfl
  have m_covers := PySem.W.mg_of X G a_covers
  have F_next_layer := fun_mk (st := s_next_layer) l_next_layer c_next_layer k_next_layer
  have b_next_layer := F_next_layer.binds (ps := ["layer", "width", "orders"]) fun _ _ _ _ _ _ us hl => match us, hl with | [_, _, _], _ => rfl
  have m_next_layer := PySem.W.mg_of X G a_next_layer
  have F_is_covered := fun_mk (st := s_is_covered) l_is_covered c_is_covered k_is_covered
  have b_is_covered := F_is_covered.binds (ps := ["one", "other", "exchanges", "orders"]) fun _ _ _ _ _ _ us hl => match us, hl with | [_, _, _, _], _ => rfl
  have m_is_covered := PySem.W.mg_of X G a_is_covered
  have F_LeastNet___init__ := fun_mk (st := s_LeastNet___init__) l_LeastNet___init__ c_LeastNet___init__ k_LeastNet___init__
  have b_LeastNet___init__ := F_LeastNet___init__.binds (ps := ["self", "net", "layers"]) fun _ _ _ _ _ _ us hl => match us, hl with | [_, _, _], _ => rfl
  have F_LeastNet___eq__ := fun_mk (st := s_LeastNet___eq__) l_LeastNet___eq__ c_LeastNet___eq__ k_LeastNet___eq__
  have b_LeastNet___eq__ := F_LeastNet___eq__.binds (ps := ["self", "other"]) fun _ _ _ _ _ _ us hl => match us, hl with | [_, _], _ => rfl
  have F_LeastNet___len__ := fun_mk (st := s_LeastNet___len__) l_LeastNet___len__ c_LeastNet___len__ k_LeastNet___len__
  have b_LeastNet___len__ := F_LeastNet___len__.binds (ps := ["self"]) fun _ _ _ _ _ _ us hl => match us, hl with | [_], _ => rfl
  have F_LeastNet_shows := fun_mk (st := s_LeastNet_shows) l_LeastNet_shows c_LeastNet_shows k_LeastNet_shows
  have b_LeastNet_shows := F_LeastNet_shows.binds (ps := ["self", "parts"]) fun _ _ _ _ _ _ us hl => match us, hl with | [_, _], _ => rfl
  have F_least_net := fun_mk (st := s_least_net) l_least_net c_least_net k_least_net
  have b_least_net := F_least_net.binds (ps := ["parts"]) fun _ _ _ _ _ _ us hl => match us, hl with | [_], _ => rfl
  have m_least_net := PySem.W.mg_of X G a_least_net
  have F__law_cell_at := fun_mk (st := s__law_cell_at) l__law_cell_at c__law_cell_at k__law_cell_at
  have b__law_cell_at := F__law_cell_at.binds (ps := ["_law_script", "_law_k"]) fun _ _ _ _ _ _ us hl => match us, hl with | [_, _], _ => rfl
  have m__law_cell_at := PySem.W.mg_of X G a__law_cell_at
  have F__law_draw := fun_mk (st := s__law_draw) l__law_draw c__law_draw k__law_draw
  have b__law_draw := F__law_draw.binds (ps := ["_law_cell", "_law_k", "_law_bound"]) fun _ _ _ _ _ _ us hl => match us, hl with | [_, _, _], _ => rfl
  have m__law_draw := PySem.W.mg_of X G a__law_draw
  have F__law_number := fun_mk (st := s__law_number) l__law_number c__law_number k__law_number
  have b__law_number := F__law_number.binds (ps := ["_law_cell", "_law_k", "_law_bound"]) fun _ _ _ _ _ _ us hl => match us, hl with | [_, _, _], _ => rfl
  have m__law_number := PySem.W.mg_of X G a__law_number
  have F__law_next := fun_mk (st := s__law_next) l__law_next c__law_next k__law_next
  have b__law_next := F__law_next.binds (ps := ["_law_draw_here", "_law_bound"]) fun _ _ _ _ _ _ us hl => match us, hl with | [_, _], _ => rfl
  have m__law_next := PySem.W.mg_of X G a__law_next
  have F__law_pick := fun_mk (st := s__law_pick) l__law_pick c__law_pick k__law_pick
  have b__law_pick := F__law_pick.binds (ps := ["_law_draw_here", "_law_things"]) fun _ _ _ _ _ _ us hl => match us, hl with | [_, _], _ => rfl
  have m__law_pick := PySem.W.mg_of X G a__law_pick
  have F__law_parted := fun_mk (st := s__law_parted) l__law_parted c__law_parted k__law_parted
  have b__law_parted := F__law_parted.binds (ps := ["_law_parts"]) fun _ _ _ _ _ _ us hl => match us, hl with | [_], _ => rfl
  have m__law_parted := PySem.W.mg_of X G a__law_parted
  have F__law_led := fun_mk (st := s__law_led) l__law_led c__law_led k__law_led
  have b__law_led := F__law_led.binds (ps := ["_law_rows", "_law_net"]) fun _ _ _ _ _ _ us hl => match us, hl with | [_, _], _ => rfl
  have m__law_led := PySem.W.mg_of X G a__law_led
  have F__law_up := fun_mk (st := s__law_up) l__law_up c__law_up k__law_up
  have b__law_up := F__law_up.binds (ps := ["_law_rows"]) fun _ _ _ _ _ _ us hl => match us, hl with | [_], _ => rfl
  have m__law_up := PySem.W.mg_of X G a__law_up
  have F__law_pairs := fun_mk (st := s__law_pairs) l__law_pairs c__law_pairs k__law_pairs
  have b__law_pairs := F__law_pairs.binds (ps := ["_law_width"]) fun _ _ _ _ _ _ us hl => match us, hl with | [_], _ => rfl
  have m__law_pairs := PySem.W.mg_of X G a__law_pairs
  have F__law_orders := fun_mk (st := s__law_orders) l__law_orders c__law_orders k__law_orders
  have b__law_orders := F__law_orders.binds (ps := ["_law_width"]) fun _ _ _ _ _ _ us hl => match us, hl with | [_], _ => rfl
  have m__law_orders := PySem.W.mg_of X G a__law_orders
  have F__law_covers := fun_mk (st := s__law_covers) l__law_covers c__law_covers k__law_covers
  have b__law_covers := F__law_covers.binds (ps := ["_law_less", "_law_more", "_law_orders_here"]) fun _ _ _ _ _ _ us hl => match us, hl with | [_, _, _], _ => rfl
  have m__law_covers := PySem.W.mg_of X G a__law_covers
  have F__law_least := fun_mk (st := s__law_least) l__law_least c__law_least k__law_least
  have b__law_least := F__law_least.binds (ps := ["_law_parts"]) fun _ _ _ _ _ _ us hl => match us, hl with | [_], _ => rfl
  have m__law_least := PySem.W.mg_of X G a__law_least
  have F__law_right := fun_mk (st := s__law_right) l__law_right c__law_right k__law_right
  have b__law_right := F__law_right.binds (ps := ["_law_parts", "_law_told"]) fun _ _ _ _ _ _ us hl => match us, hl with | [_, _], _ => rfl
  have m__law_right := PySem.W.mg_of X G a__law_right
  refine ⟨PySem.W.fnOf "law" "law" (defArgs s_law) (defBody s_law) (defScope s_law) .none kV_law dc_law pm_law an_law cd_law ct_law, fun s v => .of_eq rfl, fun base _ _ => ?_⟩
  have C_is_whole := j_is_whole (P := l.prog) (wd := w) (base := base) T  F_is_whole m_is_whole b_is_whole
  have C_led_through := j_led_through (P := l.prog) (wd := w) (base := base) T  F_led_through m_led_through b_led_through
  have C_check_parts := j_check_parts (P := l.prog) (wd := w) (base := base) T C_is_whole F_check_parts m_check_parts b_check_parts
  have C_rows_of := j_rows_of (P := l.prog) (wd := w) (base := base) T  F_rows_of m_rows_of b_rows_of
  have C_exchanges_of := j_exchanges_of (P := l.prog) (wd := w) (base := base) T  F_exchanges_of m_exchanges_of b_exchanges_of
  have C_behind := j_behind (P := l.prog) (wd := w) (base := base) T C_led_through F_behind m_behind b_behind
  have C_are_ascending := j_are_ascending (P := l.prog) (wd := w) (base := base) T  F_are_ascending m_are_ascending b_are_ascending
  have C_orders_of := j_orders_of (P := l.prog) (wd := w) (base := base) T  F_orders_of m_orders_of b_orders_of
  have C_counts_of := j_counts_of (P := l.prog) (wd := w) (base := base) T  F_counts_of m_counts_of b_counts_of
  have C_covers := j_covers (P := l.prog) (wd := w) (base := base) T C_counts_of F_covers m_covers b_covers
  have C_next_layer := j_next_layer (P := l.prog) (wd := w) (base := base) T C_exchanges_of C_behind C_covers F_next_layer m_next_layer b_next_layer
  have C_is_covered := j_is_covered (P := l.prog) (wd := w) (base := base) T C_behind C_covers F_is_covered m_is_covered b_is_covered
  have C_LeastNet___init__ := j_LeastNet___init__ (P := l.prog) (wd := w) (base := base) T  F_LeastNet___init__ ⟨mk_LeastNet, a_LeastNet___init__, i_LeastNet___init__, kc_LeastNet⟩ b_LeastNet___init__
  have C_LeastNet___eq__ := j_LeastNet___eq__ (P := l.prog) (wd := w) (base := base) T  F_LeastNet___eq__ ⟨a_LeastNet___eq__, i_LeastNet___eq__, k_LeastNet___eq__⟩ b_LeastNet___eq__
  have C_LeastNet___len__ := j_LeastNet___len__ (P := l.prog) (wd := w) (base := base) T  F_LeastNet___len__ ⟨a_LeastNet___len__, i_LeastNet___len__, k_LeastNet___len__⟩ b_LeastNet___len__
  have C_LeastNet_shows := j_LeastNet_shows (P := l.prog) (wd := w) (base := base) T C_check_parts C_rows_of C_exchanges_of C_behind C_are_ascending C_orders_of C_is_covered F_LeastNet_shows ⟨a_LeastNet_shows, i_LeastNet_shows, k_LeastNet_shows⟩ b_LeastNet_shows
  have C_least_net := j_least_net (P := l.prog) (wd := w) (base := base) T C_check_parts C_rows_of C_are_ascending C_orders_of C_next_layer C_LeastNet___init__ F_least_net m_least_net b_least_net
  have C__law_cell_at := j__law_cell_at (P := l.prog) (wd := w) (base := base) T  F__law_cell_at m__law_cell_at b__law_cell_at
  have C__law_draw := j__law_draw (P := l.prog) (wd := w) (base := base) T  F__law_draw m__law_draw b__law_draw
  have C__law_number := j__law_number (P := l.prog) (wd := w) (base := base) T C__law_draw F__law_number m__law_number b__law_number
  have C__law_next := j__law_next (P := l.prog) (wd := w) (base := base) T C__law_cell_at C__law_number F__law_next m__law_next b__law_next
  have C__law_pick := j__law_pick (P := l.prog) (wd := w) (base := base) T C__law_next F__law_pick m__law_pick b__law_pick
  have C__law_parted := j__law_parted (P := l.prog) (wd := w) (base := base) T  F__law_parted m__law_parted b__law_parted
  have C__law_led := j__law_led (P := l.prog) (wd := w) (base := base) T  F__law_led m__law_led b__law_led
  have C__law_up := j__law_up (P := l.prog) (wd := w) (base := base) T  F__law_up m__law_up b__law_up
  have C__law_pairs := j__law_pairs (P := l.prog) (wd := w) (base := base) T  F__law_pairs m__law_pairs b__law_pairs
  have C__law_orders := j__law_orders (P := l.prog) (wd := w) (base := base) T  F__law_orders m__law_orders b__law_orders
  have C__law_covers := j__law_covers (P := l.prog) (wd := w) (base := base) T  F__law_covers m__law_covers b__law_covers
  have C__law_least := j__law_least (P := l.prog) (wd := w) (base := base) T C__law_parted C__law_led C__law_up C__law_pairs F__law_least m__law_least b__law_least
  have C__law_right := j__law_right (P := l.prog) (wd := w) (base := base) T C__law_parted C__law_led C__law_up C__law_pairs C__law_orders C__law_covers F__law_right m__law_right b__law_right
  exact law_J (k := 4) (fun_mk (st := s_law) l_law c_law k_law) rfl sc_law rfl (by first | exact .inl rfl | exact .inr (.inl rfl) | exact .inr (.inr rfl)) (by first | exact .inl rfl | exact .inr rfl) (by decide) (by decide) (fun _ _ _ _ _ _ => rfl) (fun cdv A outer s H E hr => j_law_body T C_LeastNet___init__ C_LeastNet___eq__ C_LeastNet___len__ C_LeastNet_shows C_least_net C__law_next C__law_pick C__law_least C__law_right cdv A outer s H E hr) law_on
theorem walk {l : PySem.W.OpenLaw} {q : Program} {loose : List Str} {XP : (Str → Option Value) → Heap → Prop} {YP : World → Heap → Prop} {d : DefRec} {K : Params → PySem.W.Frag} (hn : l.most = some 63) (hdf : d.params.defaults = [])
    (hY : ∀ (w : World) (h : Heap), YP w h → (K w.params).In h)
    (Fa : ∀ (w : World) (mg : Str → Option Value) (fa : Addr) (h : Heap), (K w.params).In h → h.Ns mainGlobals mg → mg d.name = some (.ref fa) →
      ∃ fd : FuncData, (∀ (s : Shared) (u : Value), BindsTo s fd ⟨[u], []⟩ [("_law_script", u)]) ∧ ∀ base : Heap, (K w.params).In base → base.Ns mainGlobals mg → FnOk l.prog w (K w.params) mg base CX0 5 fa fd ["_law_script"] (spLaw (K w.params))) :
    PySem.W.WalkO q loose XP YP l.row.toRowW d [] (fun f vs => PySem.call f vs) :=
  L2.walk_of (n := 63) (k := 5) (x := "_law_script") (CX := fun _ => CX0) (sp := fun w => spLaw (K w.params)) hn (by decide) hdf ⟨rfl, by decide, by decide⟩ hY Fa (fun _ _ a ns hl _ hS => ⟨a, ns, rfl, hS, hl, fun _ => rfl⟩) fun _ _ _ _ _ z => z
end K60
open PySem PySem.W PyProof.Rows in
set_option maxRecDepth 100000 in
set_option maxHeartbeats 0 in
theorem PySem.Challenge.cw_strandloom_k60_whole_fewest_holds : PySem.Challenge.rw_strandloom_k60_whole_fewest.Holds := by
  w_on; o_law; k_head; (case hw => w_witness2)
  k_fill
  refine K60.walk (l := PySem.Challenge.rw_strandloom_k60_whole_fewest) rfl rfl (fun w h Y => PySem.W.kIn_of Y) ?G0
  case G0 =>
    intro w mg fa h KX G hmg
    refine' K60.all_mk KX G hmg ?aC_LeastNet ?pg_LeastNet ?hd_LeastNet ?po_LeastNet ?sa_LeastNet ?mk_LeastNet ?kc_LeastNet ?ha_LeastNet ?hn_LeastNet ?htk_LeastNet ?hm_LeastNet ?na_LeastNet_layers ?na_LeastNet_net ?a_is_whole ?l_is_whole ?c_is_whole ?k_is_whole ?a_led_through ?l_led_through ?c_led_through ?k_led_through ?a_check_parts ?l_check_parts ?c_check_parts ?k_check_parts ?a_rows_of ?l_rows_of ?c_rows_of ?k_rows_of ?a_exchanges_of ?l_exchanges_of ?c_exchanges_of ?k_exchanges_of ?a_behind ?l_behind ?c_behind ?k_behind ?a_are_ascending ?l_are_ascending ?c_are_ascending ?k_are_ascending ?a_orders_of ?l_orders_of ?c_orders_of ?k_orders_of ?a_counts_of ?l_counts_of ?c_counts_of ?k_counts_of ?a_covers ?l_covers ?c_covers ?k_covers ?a_next_layer ?l_next_layer ?c_next_layer ?k_next_layer ?a_is_covered ?l_is_covered ?c_is_covered ?k_is_covered ?a_LeastNet___init__ ?i_LeastNet___init__ ?l_LeastNet___init__ ?c_LeastNet___init__ ?k_LeastNet___init__ ?a_LeastNet___eq__ ?i_LeastNet___eq__ ?l_LeastNet___eq__ ?c_LeastNet___eq__ ?k_LeastNet___eq__ ?a_LeastNet___len__ ?i_LeastNet___len__ ?l_LeastNet___len__ ?c_LeastNet___len__ ?k_LeastNet___len__ ?a_LeastNet_shows ?i_LeastNet_shows ?l_LeastNet_shows ?c_LeastNet_shows ?k_LeastNet_shows ?a_least_net ?l_least_net ?c_least_net ?k_least_net ?a__law_cell_at ?l__law_cell_at ?c__law_cell_at ?k__law_cell_at ?a__law_draw ?l__law_draw ?c__law_draw ?k__law_draw ?a__law_number ?l__law_number ?c__law_number ?k__law_number ?a__law_next ?l__law_next ?c__law_next ?k__law_next ?a__law_pick ?l__law_pick ?c__law_pick ?k__law_pick ?a__law_parted ?l__law_parted ?c__law_parted ?k__law_parted ?a__law_led ?l__law_led ?c__law_led ?k__law_led ?a__law_up ?l__law_up ?c__law_up ?k__law_up ?a__law_pairs ?l__law_pairs ?c__law_pairs ?k__law_pairs ?a__law_orders ?l__law_orders ?c__law_orders ?k__law_orders ?a__law_covers ?l__law_covers ?c__law_covers ?k__law_covers ?a__law_least ?l__law_least ?c__law_least ?k__law_least ?a__law_right ?l__law_right ?c__law_right ?k__law_right ?a_law ?l_law ?c_law ?k_law ?z_all ?z_any ?z_bool ?z_enumerate ?z_int ?z_isinstance ?z_len ?z_list ?z_max ?z_range ?z_set ?z_sorted ?z_sum ?z_tuple ?z_zip ?y_MOST_LANES
    (case aC_LeastNet => k_is)
    (case pg_LeastNet => k_is)
    (case hd_LeastNet => k_is)
    (case po_LeastNet => k_is)
    (case sa_LeastNet => k_is)
    (case mk_LeastNet => k_is)
    (case kc_LeastNet => k_is)
    (case ha_LeastNet => k_is)
    (case hn_LeastNet => k_is)
    (case htk_LeastNet => k_is)
    (case hm_LeastNet => k_is)
    (case na_LeastNet_layers => k_is)
    (case na_LeastNet_net => k_is)
    (case a_is_whole => k_is)
    (case l_is_whole => k_is)
    (case c_is_whole => k_is)
    (case k_is_whole => k_is)
    (case a_led_through => k_is)
    (case l_led_through => k_is)
    (case c_led_through => k_is)
    (case k_led_through => k_is)
    (case a_check_parts => k_is)
    (case l_check_parts => k_is)
    (case c_check_parts => k_is)
    (case k_check_parts => k_is)
    (case a_rows_of => k_is)
    (case l_rows_of => k_is)
    (case c_rows_of => k_is)
    (case k_rows_of => k_is)
    (case a_exchanges_of => k_is)
    (case l_exchanges_of => k_is)
    (case c_exchanges_of => k_is)
    (case k_exchanges_of => k_is)
    (case a_behind => k_is)
    (case l_behind => k_is)
    (case c_behind => k_is)
    (case k_behind => k_is)
    (case a_are_ascending => k_is)
    (case l_are_ascending => k_is)
    (case c_are_ascending => k_is)
    (case k_are_ascending => k_is)
    (case a_orders_of => k_is)
    (case l_orders_of => k_is)
    (case c_orders_of => k_is)
    (case k_orders_of => k_is)
    (case a_counts_of => k_is)
    (case l_counts_of => k_is)
    (case c_counts_of => k_is)
    (case k_counts_of => k_is)
    (case a_covers => k_is)
    (case l_covers => k_is)
    (case c_covers => k_is)
    (case k_covers => k_is)
    (case a_next_layer => k_is)
    (case l_next_layer => k_is)
    (case c_next_layer => k_is)
    (case k_next_layer => k_is)
    (case a_is_covered => k_is)
    (case l_is_covered => k_is)
    (case c_is_covered => k_is)
    (case k_is_covered => k_is)
    (case a_LeastNet___init__ => k_is)
    (case i_LeastNet___init__ => k_is)
    (case l_LeastNet___init__ => k_is)
    (case c_LeastNet___init__ => k_is)
    (case k_LeastNet___init__ => k_is)
    (case a_LeastNet___eq__ => k_is)
    (case i_LeastNet___eq__ => k_is)
    (case l_LeastNet___eq__ => k_is)
    (case c_LeastNet___eq__ => k_is)
    (case k_LeastNet___eq__ => k_is)
    (case a_LeastNet___len__ => k_is)
    (case i_LeastNet___len__ => k_is)
    (case l_LeastNet___len__ => k_is)
    (case c_LeastNet___len__ => k_is)
    (case k_LeastNet___len__ => k_is)
    (case a_LeastNet_shows => k_is)
    (case i_LeastNet_shows => k_is)
    (case l_LeastNet_shows => k_is)
    (case c_LeastNet_shows => k_is)
    (case k_LeastNet_shows => k_is)
    (case a_least_net => k_is)
    (case l_least_net => k_is)
    (case c_least_net => k_is)
    (case k_least_net => k_is)
    (case a__law_cell_at => k_is)
    (case l__law_cell_at => k_is)
    (case c__law_cell_at => k_is)
    (case k__law_cell_at => k_is)
    (case a__law_draw => k_is)
    (case l__law_draw => k_is)
    (case c__law_draw => k_is)
    (case k__law_draw => k_is)
    (case a__law_number => k_is)
    (case l__law_number => k_is)
    (case c__law_number => k_is)
    (case k__law_number => k_is)
    (case a__law_next => k_is)
    (case l__law_next => k_is)
    (case c__law_next => k_is)
    (case k__law_next => k_is)
    (case a__law_pick => k_is)
    (case l__law_pick => k_is)
    (case c__law_pick => k_is)
    (case k__law_pick => k_is)
    (case a__law_parted => k_is)
    (case l__law_parted => k_is)
    (case c__law_parted => k_is)
    (case k__law_parted => k_is)
    (case a__law_led => k_is)
    (case l__law_led => k_is)
    (case c__law_led => k_is)
    (case k__law_led => k_is)
    (case a__law_up => k_is)
    (case l__law_up => k_is)
    (case c__law_up => k_is)
    (case k__law_up => k_is)
    (case a__law_pairs => k_is)
    (case l__law_pairs => k_is)
    (case c__law_pairs => k_is)
    (case k__law_pairs => k_is)
    (case a__law_orders => k_is)
    (case l__law_orders => k_is)
    (case c__law_orders => k_is)
    (case k__law_orders => k_is)
    (case a__law_covers => k_is)
    (case l__law_covers => k_is)
    (case c__law_covers => k_is)
    (case k__law_covers => k_is)
    (case a__law_least => k_is)
    (case l__law_least => k_is)
    (case c__law_least => k_is)
    (case k__law_least => k_is)
    (case a__law_right => k_is)
    (case l__law_right => k_is)
    (case c__law_right => k_is)
    (case k__law_right => k_is)
    (case a_law => k_is)
    (case l_law => k_is)
    (case c_law => k_is)
    (case k_law => k_is)
    (case z_all => k_is)
    (case z_any => k_is)
    (case z_bool => k_is)
    (case z_enumerate => k_is)
    (case z_int => k_is)
    (case z_isinstance => k_is)
    (case z_len => k_is)
    (case z_list => k_is)
    (case z_max => k_is)
    (case z_range => k_is)
    (case z_set => k_is)
    (case z_sorted => k_is)
    (case z_sum => k_is)
    (case z_tuple => k_is)
    (case z_zip => k_is)
    (case y_MOST_LANES => k_is)
