import PyProof.Rows.All
import Wide.All
import OpenK.AllK
import Wide.FinOn
import HandS.ForMost
import HandS.EndBits
import HandS.IsInst
import HandS.Wide
import HandS.SortInts
import HandS.Star
import HandS.Flow
import HandS.Zip
import HandS.TupAny
import HandS.Deep
import HandS.Style
import HandS.Conv
import KE.GoesMore
import KE.GoesEnum
import HandS.Walk
import PySem.Challenge.RW_strandloom_k01_whole_passes
set_option Elab.async false
set_option linter.all false
set_option maxRecDepth 100000
set_option maxHeartbeats 4100000
/-! J: readings as functions on data. A value's data (D), what a name holds (Sl), the state (R), expressions, tests, statements as partial functions. -/
namespace J
open PySem L2
inductive D where
  | non | bl (b : Bool) | int (i : Int) | str (s : Str) | ty (n : String) | draw | tup (ds : List D) | lst (ds : List D)
structure Wd where
  ns : List Int
  c : Int
inductive Sl where
  | no | d (x : D) | own (xs : List D) | mu (k : Nat) (xs : List D)
def Sl.ow : Sl → Bool
  | .own _ => true
  | .mu _ _ => true
  | _ => false
structure Cfg where
  p : Addr
  M : List Addr
  F0 : Hp
  H0 : Hp
/-- a tuple: tracked, or one of the written part -/
def SqU (K : PySem.W.Frag) (F : Hp) (a : Addr) (vs : List V) : Prop := F a = some (.tup vs) ∨ SqT K (fun _ => none) a vs
mutual
def Den (K : PySem.W.Frag) (p : Addr) (F : Hp) : D → V → Prop
  | .non, v => v = .non
  | .bl b, v => v = .bl b
  | .int i, v => v = .int i
  | .str s, v => v = .str s
  | .ty n, v => v = .ty n
  | .draw, v => v = .ref p
  | .tup ds, v => ∃ a vs, v = .ref a ∧ SqU K F a vs ∧ Dens K p F ds vs
  | .lst ds, v => ∃ a vs, v = .ref a ∧ F a = some (.lst vs) ∧ Dens K p F ds vs
def Dens (K : PySem.W.Frag) (p : Addr) (F : Hp) : List D → List V → Prop
  | [], vs => vs = []
  | d :: ds, vs => ∃ v r, vs = v :: r ∧ Den K p F d v ∧ Dens K p F ds r
end
section
variable {K : PySem.W.Frag} {p : Addr} {F F' H H' : Hp}
theorem sqU_mono {a : Addr} {xs : List V} (e : Same F F') (h : SqU K F a xs) : SqU K F' a xs := by
  rcases h with h | h
  · exact .inl (e _ _ h)
  · exact .inr h
theorem SqU.t {a : Addr} {xs : List V} (h : SqU K F a xs) : SqT K F a xs := by
  rcases h with h | h | h
  · exact .inl (.inl h)
  · rcases h with h | ⟨o, h⟩ <;> cases h
  · exact .inr h
mutual
theorem Den.mono (e : Same F F') : ∀ (d : D) (v : V), Den K p F d v → Den K p F' d v
  | .non, v, h => by unfold Den at h ⊢; exact h
  | .bl b, v, h => by unfold Den at h ⊢; exact h
  | .int i, v, h => by unfold Den at h ⊢; exact h
  | .str s, v, h => by unfold Den at h ⊢; exact h
  | .ty n, v, h => by unfold Den at h ⊢; exact h
  | .draw, v, h => by unfold Den at h ⊢; exact h
  | .tup ds, v, h => by
    unfold Den at h ⊢
    obtain ⟨a, vs, q, s, r⟩ := h
    exact ⟨a, vs, q, sqU_mono e s, Dens.mono e ds vs r⟩
  | .lst ds, v, h => by
    unfold Den at h ⊢
    obtain ⟨a, vs, q, s, r⟩ := h
    exact ⟨a, vs, q, e _ _ s, Dens.mono e ds vs r⟩
theorem Dens.mono (e : Same F F') : ∀ (ds : List D) (vs : List V), Dens K p F ds vs → Dens K p F' ds vs
  | [], vs, h => by unfold Dens at h ⊢; exact h
  | d :: ds, vs, h => by
    unfold Dens at h ⊢
    obtain ⟨v, r, q, a, b⟩ := h
    exact ⟨v, r, q, Den.mono e d v a, Dens.mono e ds r b⟩
end
theorem dens_nil : Dens K p F [] [] := by unfold Dens; rfl
theorem dens_cons {d : D} {ds : List D} {v : V} {vs : List V} (h : Den K p F d v) (r : Dens K p F ds vs) : Dens K p F (d :: ds) (v :: vs) := by unfold Dens; exact ⟨v, vs, rfl, h, r⟩
theorem Dens.len : ∀ {ds : List D} {vs : List V}, Dens K p F ds vs → vs.length = ds.length
  | [], vs, h => by unfold Dens at h; rw [h]; rfl
  | d :: ds, vs, h => by
    unfold Dens at h
    obtain ⟨v, r, q, a, b⟩ := h
    rw [q, List.length_cons, List.length_cons, Dens.len b]
theorem Dens.get : ∀ {ds : List D} {vs : List V} {i : Nat} {d : D}, Dens K p F ds vs → ds[i]? = some d → ∃ v, vs[i]? = some v ∧ Den K p F d v
  | [], vs, i, d, h, e => by simp at e
  | d :: ds, vs, 0, d', h, e => by
    unfold Dens at h
    obtain ⟨v, r, q, a, b⟩ := h
    simp at e
    subst e
    exact ⟨v, by rw [q]; rfl, a⟩
  | d :: ds, vs, i + 1, d', h, e => by
    unfold Dens at h
    obtain ⟨v, r, q, a, b⟩ := h
    simp at e
    obtain ⟨u, h1, h2⟩ := Dens.get (i := i) b e
    exact ⟨u, by rw [q]; simpa using h1, h2⟩
theorem Dens.get' : ∀ {ds : List D} {vs : List V} {i : Nat} {v : V}, Dens K p F ds vs → vs[i]? = some v → ∃ d, ds[i]? = some d ∧ Den K p F d v
  | [], vs, i, v, h, e => by
    unfold Dens at h
    rw [h] at e
    simp at e
  | d :: ds, vs, 0, v', h, e => by
    unfold Dens at h
    obtain ⟨v, r, q, a, b⟩ := h
    rw [q] at e
    simp at e
    subst e
    exact ⟨d, rfl, a⟩
  | d :: ds, vs, i + 1, v', h, e => by
    unfold Dens at h
    obtain ⟨v, r, q, a, b⟩ := h
    rw [q] at e
    simp at e
    obtain ⟨u, h1, h2⟩ := Dens.get' (i := i) b e
    exact ⟨u, by simpa using h1, h2⟩
theorem Dens.append : ∀ {ds es : List D} {vs us : List V}, Dens K p F ds vs → Dens K p F es us → Dens K p F (ds ++ es) (vs ++ us)
  | [], es, vs, us, h, g => by unfold Dens at h; subst h; exact g
  | d :: ds, es, vs, us, h, g => by
    unfold Dens at h
    obtain ⟨v, r, q, a, b⟩ := h
    subst q
    exact dens_cons a (Dens.append b g)
theorem Dens.set : ∀ {ds : List D} {vs : List V} {d : D} {v : V} (i : Nat), Dens K p F ds vs → Den K p F d v → Dens K p F (ds.set i d) (vs.set i v)
  | [], vs, d, v, i, h, g => by unfold Dens at h; subst h; exact dens_nil
  | e :: ds, vs, d, v, 0, h, g => by
    unfold Dens at h
    obtain ⟨u, r, q, a, b⟩ := h
    subst q
    exact dens_cons g b
  | e :: ds, vs, d, v, i + 1, h, g => by
    unfold Dens at h
    obtain ⟨u, r, q, a, b⟩ := h
    subst q
    exact dens_cons a (Dens.set i b g)
theorem Dens.take : ∀ {ds : List D} {vs : List V} (n : Nat), Dens K p F ds vs → Dens K p F (ds.take n) (vs.take n)
  | [], vs, n, h => by unfold Dens at h; subst h; rw [List.take_nil, List.take_nil]; exact dens_nil
  | d :: ds, vs, 0, h => by rw [List.take_zero, List.take_zero]; exact dens_nil
  | d :: ds, vs, n + 1, h => by
    unfold Dens at h
    obtain ⟨v, r, q, a, b⟩ := h
    subst q
    exact dens_cons a (Dens.take n b)
theorem Dens.drop : ∀ {ds : List D} {vs : List V} (n : Nat), Dens K p F ds vs → Dens K p F (ds.drop n) (vs.drop n)
  | [], vs, n, h => by unfold Dens at h; subst h; rw [List.drop_nil, List.drop_nil]; exact dens_nil
  | d :: ds, vs, 0, h => h
  | d :: ds, vs, n + 1, h => by
    unfold Dens at h
    obtain ⟨v, r, q, a, b⟩ := h
    subst q
    exact Dens.drop n b
theorem Dens.rev : ∀ {ds : List D} {vs : List V}, Dens K p F ds vs → Dens K p F ds.reverse vs.reverse
  | [], vs, h => by unfold Dens at h; subst h; exact dens_nil
  | d :: ds, vs, h => by
    unfold Dens at h
    obtain ⟨v, r, q, a, b⟩ := h
    subst q
    rw [List.reverse_cons, List.reverse_cons]
    exact Dens.append (Dens.rev b) (dens_cons a dens_nil)
theorem Dens.ints : ∀ (ns : List Int), Dens K p F (ns.map D.int) (ns.map V.int)
  | [] => dens_nil
  | n :: ns => dens_cons (by unfold Den; rfl) (Dens.ints ns)
theorem Dens.ints' : ∀ {ns : List Int} {vs : List V}, Dens K p F (ns.map D.int) vs → vs = ns.map V.int
  | [], vs, h => by unfold Dens at h; exact h
  | n :: ns, vs, h => by
    obtain ⟨v, r, q, a, b⟩ := (show ∃ v r, vs = v :: r ∧ Den K p F (.int n) v ∧ Dens K p F (ns.map D.int) r by
      have h' := h
      rw [List.map_cons] at h'
      unfold Dens at h'
      exact h')
    unfold Den at a
    rw [q, a, Dens.ints' b]
    rfl
theorem Dens.bls : ∀ (ns : List Bool), Dens K p F (ns.map D.bl) (ns.map V.bl)
  | [] => dens_nil
  | n :: ns => dens_cons (by unfold Den; rfl) (Dens.bls ns)
theorem Dens.bls' : ∀ {ns : List Bool} {vs : List V}, Dens K p F (ns.map D.bl) vs → vs = ns.map V.bl
  | [], vs, h => by unfold Dens at h; exact h
  | n :: ns, vs, h => by
    obtain ⟨v, r, q, a, b⟩ := (show ∃ v r, vs = v :: r ∧ Den K p F (.bl n) v ∧ Dens K p F (ns.map D.bl) r by
      have h' := h
      rw [List.map_cons] at h'
      unfold Dens at h'
      exact h')
    unfold Den at a
    rw [q, a, Dens.bls' b]
    rfl
end
/-- the drawn list stands at p -/
def Dr (p : Addr) (F H : Hp) (w : Wd) : Prop := ∃ a, H p = some (.lst [.ref a, .int 0, .int w.c]) ∧ F a = some (.lst (w.ns.map V.int))
/-- a list of one's own: not known to others -/
def OwnL (K : PySem.W.Frag) (p : Addr) (F H : Hp) (a : Addr) (xs : List D) : Prop := ∃ vs, H a = some (.lst vs) ∧ F a = none ∧ a ≠ p ∧ Dens K p F xs vs
def SlR (K : PySem.W.Frag) (Z : Cfg) (F H : Hp) (a : Addr) (σ : St) (i : Nat) : Sl → Prop
  | .no => True
  | .d x => ∃ u, σ[i]? = some (some u) ∧ Den K Z.p F x u
  | .own xs => σ[i]? = some (some (.ref a)) ∧ OwnL K Z.p F H a xs ∧ Z.H0 a = none
  | .mu k xs => σ[i]? = some (some (.ref a)) ∧ OwnL K Z.p F H a xs ∧ Z.M[k]? = some a
def isOwn (ds : List Sl) (i : Nat) : Prop := ∃ s, ds[i]? = some s ∧ s.ow = true
structure R (K : PySem.W.Frag) (Z : Cfg) (F H : Hp) (σ : St) (ds : List Sl) (w : Wd) : Prop where
  ex : Same F H
  fp : F Z.p = none
  dr : Dr Z.p F H w
  pm : Z.p ∉ Z.M
  hm : ∀ b ∈ Z.M, (∃ o, H b = some o) ∧ F b = none
  m0 : ∀ b ∈ Z.M, ∃ o, Z.H0 b = some o
  keep : ∀ b o, b ≠ Z.p → b ∉ Z.M → Z.H0 b = some o → H b = some o
  nw : ∀ b o, F b = some o → Z.F0 b = some o ∨ Z.H0 b = none
  f0 : Same Z.F0 F
  len : σ.length = ds.length
  env : ∃ α : Nat → Addr, (∀ i j, isOwn ds i → isOwn ds j → α i = α j → i = j) ∧ ∀ i s, ds[i]? = some s → SlR K Z F H (α i) σ i s
structure Stp (p : Addr) (F H F' H' : Hp) : Prop where
  f : Same F F'
  h : ∀ b o, b ≠ p → H b = some o → H' b = some o
  e : Same F' H'
  n : ∀ b o, F' b = some o → F b = some o ∨ H b = none
  fp : F' p = none
section
variable {K : PySem.W.Frag} {Z : Cfg} {p a : Addr} {F H F' H' F2 H2 : Hp} {σ : St} {ds : List Sl} {w w' : Wd} {xs : List D} {d : D} {v : V}
theorem Stp.refl (h : Same F H) (hp : F p = none) : Stp p F H F H := ⟨Same.refl _, fun _ _ _ e => e, h, fun _ _ e => .inl e, hp⟩
theorem Stp.trans (x : Stp p F H F' H') (y : Stp p F' H' F2 H2) : Stp p F H F2 H2 := by
  refine ⟨x.f.trans y.f, fun b o n e => y.h b o n (x.h b o n e), y.e, fun b o e => ?_, y.fp⟩
  have hb : b ≠ p := by
    rintro rfl
    rw [y.fp] at e
    cases e
  rcases y.n b o e with q | q
  · exact x.n b o q
  · right
    cases k : H b with
    | none => rfl
    | some u =>
      rw [x.h b u hb k] at q
      cases q
theorem OwnL.step (x : OwnL K p F H a xs) (y : Stp p F H F' H') : OwnL K p F' H' a xs := by
  obtain ⟨vs, h1, h2, h3, h4⟩ := x
  refine ⟨vs, y.h a _ h3 h1, ?_, h3, h4.mono y.f⟩
  cases k : F' a with
  | none => rfl
  | some o =>
    rcases y.n a o k with q | q
    · rw [h2] at q
      cases q
    · rw [h1] at q
      cases q
theorem R.step (r : R K Z F H σ ds w) (y : Stp Z.p F H F' H') (dr : Dr Z.p F' H' w') : R K Z F' H' σ ds w' := by
  refine ⟨y.e, y.fp, dr, r.pm, fun b hb => ?_, r.m0, fun b o n m e => y.h b o n (r.keep b o n m e), fun b o e => ?_, r.f0.trans y.f, r.len, ?_⟩
  · obtain ⟨⟨o, ho⟩, hf⟩ := r.hm b hb
    have hbp : b ≠ Z.p := by
      rintro rfl
      exact r.pm hb
    refine ⟨⟨o, y.h b o hbp ho⟩, ?_⟩
    cases k : F' b with
    | none => rfl
    | some u =>
      rcases y.n b u k with q | q
      · rw [hf] at q
        cases q
      · rw [ho] at q
        cases q
  · rcases y.n b o e with q | q
    · exact r.nw b o q
    · right
      have hbp : b ≠ Z.p := by
        rintro rfl
        rw [y.fp] at e
        cases e
      cases k : Z.H0 b with
      | none => rfl
      | some u =>
        by_cases hm : b ∈ Z.M
        · obtain ⟨⟨o', ho'⟩, _⟩ := r.hm b hm
          rw [q] at ho'
          cases ho'
        · rw [r.keep b u hbp hm k] at q
          cases q
  · obtain ⟨α, inj, hs⟩ := r.env
    refine ⟨α, inj, fun i s e => ?_⟩
    have h := hs i s e
    cases s with
    | no => trivial
    | d x =>
      obtain ⟨u, h1, h2⟩ := h
      exact ⟨u, h1, Den.mono y.f x u h2⟩
    | own xs =>
      obtain ⟨h1, h2, h3⟩ := h
      exact ⟨h1, h2.step y, h3⟩
    | mu k xs =>
      obtain ⟨h1, h2, h3⟩ := h
      exact ⟨h1, h2.step y, h3⟩
theorem R.stp (r : R K Z F H σ ds w) : Stp Z.p F H F H := Stp.refl r.ex r.fp
theorem R.np (r : R K Z F H σ ds w) {q : Addr} (h : H q = none) : q ≠ Z.p := by
  rintro rfl
  obtain ⟨a, h1, _⟩ := r.dr
  rw [h] at h1
  cases h1
/-- a new object, known to all -/
theorem R.new (r : R K Z F H σ ds w) {q : Addr} {o : HO} (h : H q = none) : Stp Z.p F H (upd F q o) (upd H q o) ∧ Dr Z.p (upd F q o) (upd H q o) w := by
  have hp := r.np h
  have hf : F q = none := r.ex.free h
  have s1 : Same F (upd F q o) := fun b u e => by rw [upd_ne (ne_of_none e hf)]; exact e
  refine ⟨⟨s1, fun b u _ e => by rw [upd_ne (ne_of_none e h)]; exact e, fun b u e => ?_, fun b u e => ?_, by rw [upd_ne (Ne.symm hp)]; exact r.fp⟩, ?_⟩
  · by_cases hb : b = q
    · subst hb
      rw [upd_same] at e ⊢
      exact e
    · rw [upd_ne hb] at e ⊢
      exact r.ex b u e
  · by_cases hb : b = q
    · subst hb
      exact .inr h
    · rw [upd_ne hb] at e
      exact .inl e
  · obtain ⟨a, h1, h2⟩ := r.dr
    exact ⟨a, by rw [upd_ne (Ne.symm hp)]; exact h1, s1 _ _ h2⟩
/-- a new object, one's own -/
theorem R.newO (r : R K Z F H σ ds w) {q : Addr} {o : HO} (h : H q = none) : Stp Z.p F H F (upd H q o) ∧ Dr Z.p F (upd H q o) w := by
  have hp := r.np h
  refine ⟨⟨Same.refl _, fun b u _ e => by rw [upd_ne (ne_of_none e h)]; exact e, fun b u e => ?_, fun b u e => .inl e, r.fp⟩, ?_⟩
  · rw [upd_ne (ne_of_none (r.ex b u e) h)]
    exact r.ex b u e
  · obtain ⟨a, h1, h2⟩ := r.dr
    exact ⟨a, by rw [upd_ne (Ne.symm hp)]; exact h1, h2⟩
/-- what is one's own is told to all -/
theorem Stp.tell (y : Stp p F H F' H') {q : Addr} {o : HO} (h : H' q = some o) (hq : H q = none) (hp : q ≠ p) : Stp p F H (upd F' q o) H' := by
  refine ⟨fun b u e => ?_, y.h, fun b u e => ?_, fun b u e => ?_, by rw [upd_ne (Ne.symm hp)]; exact y.fp⟩
  · by_cases hb : b = q
    · subst hb
      rw [upd_same]
      have := y.e _ _ (y.f _ _ e)
      rw [h] at this
      exact this
    · rw [upd_ne hb]
      exact y.f _ _ e
  · by_cases hb : b = q
    · subst hb
      rw [upd_same] at e
      rw [← e]
      exact h
    · rw [upd_ne hb] at e
      exact y.e b u e
  · by_cases hb : b = q
    · subst hb
      exact .inr hq
    · rw [upd_ne hb] at e
      exact y.n b u e
theorem Dr.tell {q : Addr} {o : HO} (x : Dr p F' H' w) (f : F' q = none) : Dr p (upd F' q o) H' w := by
  obtain ⟨a, h1, h2⟩ := x
  exact ⟨a, h1, by rw [upd_ne (ne_of_none h2 f)]; exact h2⟩
theorem same_tell {q : Addr} {o : HO} (f : F' q = none) : Same F' (upd F' q o) := fun b u e => by rw [upd_ne (ne_of_none e f)]; exact e
/-- a value that is read, not kept: also a list of one's own -/
def DenB (K : PySem.W.Frag) (p : Addr) (F H : Hp) (d : D) (v : V) : Prop := Den K p F d v ∨ ∃ a xs, d = .lst xs ∧ v = .ref a ∧ OwnL K p F H a xs
theorem DenB.step (x : DenB K p F H d v) (y : Stp p F H F' H') : DenB K p F' H' d v := by
  rcases x with x | ⟨a, xs, e1, e2, o⟩
  · exact .inl (x.mono y.f)
  · exact .inr ⟨a, xs, e1, e2, o.step y⟩
theorem DenB.lst (x : DenB K p F H (.lst xs) v) (e : Same F H) : ∃ a vs, v = .ref a ∧ H a = some (.lst vs) ∧ Dens K p F xs vs := by
  rcases x with x | ⟨a, ys, e1, e2, o⟩
  · unfold Den at x
    obtain ⟨a, vs, h1, h2, h3⟩ := x
    exact ⟨a, vs, h1, e _ _ h2, h3⟩
  · cases e1
    obtain ⟨vs, h1, h2, h3, h4⟩ := o
    exact ⟨a, vs, e2, h1, h4⟩
theorem DenB.tup (x : DenB K p F H (.tup xs) v) : ∃ a vs, v = .ref a ∧ SqU K F a vs ∧ Dens K p F xs vs := by
  rcases x with x | ⟨a, ys, e1, e2, o⟩
  · unfold Den at x
    exact x
  · cases e1
theorem DenB.int {i : Int} (x : DenB K p F H (.int i) v) : v = .int i := by
  rcases x with x | ⟨a, ys, e1, e2, o⟩
  · unfold Den at x
    exact x
  · cases e1
theorem DenB.str {i : Str} (x : DenB K p F H (.str i) v) : v = .str i := by
  rcases x with x | ⟨a, ys, e1, e2, o⟩
  · unfold Den at x
    exact x
  · cases e1
theorem DenB.bl {i : Bool} (x : DenB K p F H (.bl i) v) : v = .bl i := by
  rcases x with x | ⟨a, ys, e1, e2, o⟩
  · unfold Den at x
    exact x
  · cases e1
theorem DenB.non (x : DenB K p F H .non v) : v = .non := by
  rcases x with x | ⟨a, ys, e1, e2, o⟩
  · unfold Den at x
    exact x
  · cases e1
theorem den_int {i : Int} : Den K p F (.int i) (.int i) := by unfold Den; rfl
theorem den_str {i : Str} : Den K p F (.str i) (.str i) := by unfold Den; rfl
theorem den_bl {i : Bool} : Den K p F (.bl i) (.bl i) := by unfold Den; rfl
theorem den_non : Den K p F .non .non := by unfold Den; rfl
theorem den_lst {vs : List V} (h : F a = some (.lst vs)) (r : Dens K p F xs vs) : Den K p F (.lst xs) (.ref a) := by unfold Den; exact ⟨a, vs, rfl, h, r⟩
theorem den_tup {vs : List V} (h : SqU K F a vs) (r : Dens K p F xs vs) : Den K p F (.tup xs) (.ref a) := by unfold Den; exact ⟨a, vs, rfl, h, r⟩
end
/-! ### what expressions are -/
abbrev Ev := List Sl → Wd → Option (D × Wd)
abbrev Ef := List Sl → Wd → Option (List D × Wd)
abbrev Et := List Sl → Wd → Option (Bool × Wd)
/-- what follows, if a value with the data d comes -/
def KD (K : PySem.W.Frag) (p : Addr) (F H : Hp) (w' : Wd) (d : D) (Q : VK) : Prop := ∀ v F' H', Stp p F H F' H' → Dr p F' H' w' → Den K p F' d v → Q v H'
def KB (K : PySem.W.Frag) (p : Addr) (F H : Hp) (w' : Wd) (d : D) (Q : VK) : Prop := ∀ v F' H', Stp p F H F' H' → Dr p F' H' w' → DenB K p F' H' d v → Q v H'
/-- .. a new list, one's own -/
def KF (K : PySem.W.Frag) (p : Addr) (F H : Hp) (w' : Wd) (xs : List D) (Q : VK) : Prop := ∀ q vs F' H', Stp p F H F' H' → Dr p F' H' w' → H' q = some (.lst vs) → H q = none → F' q = none → q ≠ p → Dens K p F' xs vs → Q (.ref q) H'
def KT (p : Addr) (F H : Hp) (w' : Wd) (b : Bool) (Q : Bool → Hp → Prop) : Prop := ∀ F' H', Stp p F H F' H' → Dr p F' H' w' → Q b H'
def KA (K : PySem.W.Frag) (p : Addr) (F H : Hp) (w' : Wd) (xs : List D) (Q : List V → Hp → Prop) : Prop := ∀ vs F' H', Stp p F H F' H' → Dr p F' H' w' → Dens K p F' xs vs → Q vs H'
def canE (K : PySem.W.Frag) (f : Ev) : TE := fun σ H Q => ∃ Z F ds w d w', R K Z F H σ ds w ∧ f ds w = some (d, w') ∧ KD K Z.p F H w' d Q
def canB (K : PySem.W.Frag) (f : Ev) : TE := fun σ H Q => ∃ Z F ds w d w', R K Z F H σ ds w ∧ f ds w = some (d, w') ∧ KB K Z.p F H w' d Q
def canF (K : PySem.W.Frag) (f : Ef) : TE := fun σ H Q => ∃ Z F ds w d w', R K Z F H σ ds w ∧ f ds w = some (d, w') ∧ KF K Z.p F H w' d Q
def canT (K : PySem.W.Frag) (f : Et) : TT := fun σ H Q => ∃ Z F ds w d w', R K Z F H σ ds w ∧ f ds w = some (d, w') ∧ KT Z.p F H w' d Q
def canA (K : PySem.W.Frag) (f : Ef) : TA := fun σ H Q => ∃ Z F ds w d w', R K Z F H σ ds w ∧ f ds w = some (d, w') ∧ KA K Z.p F H w' d Q
structure JE (X : Cx) (e : Expr) (f : Ev) : Prop where run : PE X e (canE X.K f)
structure JB (X : Cx) (e : Expr) (f : Ev) : Prop where run : PE X e (canB X.K f)
structure JF (X : Cx) (e : Expr) (f : Ef) : Prop where run : PE X e (canF X.K f)
structure JT (X : Cx) (e : Expr) (f : Et) : Prop where run : PT X e (canT X.K f)
structure JW (X : Cx) (e : Expr) (f : Et) : Prop where run : PW X e (canT X.K f)
structure JA (X : Cx) (es : List Expr) (f : Ef) : Prop where run : PA X es (canA X.K f)
theorem pe_weak {X : Cx} {e : Expr} {t t' : TE} (h : PE X e t) (s : ∀ σ H Q, t' σ H Q → t σ H Q) : PE X e t' := ⟨fun pins s' σ H Q I q => h.run pins s' σ H Q I (s σ H Q q)⟩
theorem pt_weak {X : Cx} {e : Expr} {t t' : TT} (h : PT X e t) (s : ∀ σ H Q, t' σ H Q → t σ H Q) : PT X e t' := ⟨fun pins s' σ H Q I q => h.run pins s' σ H Q I (s σ H Q q)⟩
theorem pw_weak {X : Cx} {e : Expr} {t t' : TT} (h : PW X e t) (s : ∀ σ H Q, t' σ H Q → t σ H Q) : PW X e t' := ⟨fun wh pins s' σ H Q I q => h.run wh pins s' σ H Q I (s σ H Q q)⟩
theorem pa_weak {X : Cx} {e : List Expr} {t t' : TA} (h : PA X e t) (s : ∀ σ H Q, t' σ H Q → t σ H Q) : PA X e t' := ⟨fun pos pins s' σ H Q I q => h.run pos pins s' σ H Q I (s σ H Q q)⟩
section
variable {K : PySem.W.Frag} {p : Addr} {F H F' H' : Hp} {w w' : Wd} {d : D} {xs : List D} {Q : VK}
theorem KD.go (k : KD K p F H w' d Q) (s : Stp p F H F' H') : KD K p F' H' w' d Q := fun v F2 H2 s2 => k v F2 H2 (s.trans s2)
theorem KB.go (k : KB K p F H w' d Q) (s : Stp p F H F' H') : KB K p F' H' w' d Q := fun v F2 H2 s2 => k v F2 H2 (s.trans s2)
theorem KT.go {b : Bool} {Q : Bool → Hp → Prop} (k : KT p F H w' b Q) (s : Stp p F H F' H') : KT p F' H' w' b Q := fun F2 H2 s2 => k F2 H2 (s.trans s2)
theorem KA.go {Q : List V → Hp → Prop} (k : KA K p F H w' xs Q) (s : Stp p F H F' H') : KA K p F' H' w' xs Q := fun v F2 H2 s2 => k v F2 H2 (s.trans s2)
theorem KF.go (k : KF K p F H w' xs Q) (s : Stp p F H F' H') (np : H p ≠ none) : KF K p F' H' w' xs Q := fun q vs F2 H2 s2 dr h1 h2 h3 h4 h5 => by
  refine k q vs F2 H2 (s.trans s2) dr h1 ?_ h3 h4 h5
  cases e : H q with
  | none => rfl
  | some o =>
    rw [s.h q o h4 e] at h2
    cases h2
theorem KB.toD (k : KB K p F H w' d Q) : KD K p F H w' d Q := fun v F2 H2 s dr h => k v F2 H2 s dr (.inl h)
/-- a new list that is told to all -/
theorem KD.toF (k : KD K p F H w' (.lst xs) Q) : KF K p F H w' xs Q := fun q vs F2 H2 s dr h1 h2 h3 h4 h5 =>
  k (.ref q) (upd F2 q (.lst vs)) H2 (s.tell h1 h2 h4) (dr.tell h3) (den_lst upd_same (h5.mono (same_tell h3)))
end
section
variable {X : Cx} {e : Expr} {f : Ev}
theorem JE.toB (h : JE X e f) : JB X e f := ⟨pe_weak h.run fun σ H Q ⟨Z, F, ds, w, d, w', r, hf, k⟩ => ⟨Z, F, ds, w, d, w', r, hf, k.toD⟩⟩
def eL (f : Ef) : Ev := fun ds w => (f ds w).bind fun r => some (.lst r.1, r.2)
theorem JF.toE {f : Ef} (h : JF X e f) : JE X e (eL f) := ⟨pe_weak h.run fun σ H Q ⟨Z, F, ds, w, d, w', r, hf, k⟩ => by
  unfold eL at hf
  cases q : f ds w with
  | none =>
    rw [q] at hf
    cases hf
  | some y =>
    rw [q] at hf
    cases hf
    exact ⟨Z, F, ds, w, _, _, r, q, k.toF⟩⟩
theorem JF.toB {f : Ef} (h : JF X e f) : JB X e (eL f) := h.toE.toB
end
end J
namespace J
open PySem L2
section
variable {X : Cx} {K : PySem.W.Frag}
theorem bind2 {α β : Type} {x : Option α} {f : α → Option β} {r : β} (h : x.bind f = some r) : ∃ a, x = some a ∧ f a = some r := by
  cases x with
  | none => cases h
  | some a => exact ⟨a, rfl, h⟩
/-! ### names, constants -/
def eVar (i : Nat) : Ev := fun ds w => match ds[i]? with | some (.d x) => some (x, w) | _ => none
def eBor (i : Nat) : Ev := fun ds w => match ds[i]? with | some (.d x) => some (x, w) | some (.own xs) => some (.lst xs, w) | some (.mu _ xs) => some (.lst xs, w) | _ => none
def eC (d : D) : Ev := fun _ w => some (d, w)
theorem je_var (i : Nat) {x : Str} {pos : Pos} (hN : X.N[i]? = some x := by rfl) (hv : Vis X.env.scope x := by first | exact Or.inl rfl | exact Or.inr (Or.inl rfl) | exact Or.inr (Or.inr rfl)) (hd : (x == ("__debug__" : Str)) = false := by decide)
    (hcd : (x == ("__classdict__" : Str)) = false := by decide) : JE X (.Name x pos) (eVar i) := ⟨pe_weak (pe_var hN hv hd hcd) fun σ H Q ⟨Z, F, ds, w, d, w', r, hf, k⟩ => by
  unfold eVar at hf
  split at hf
  · rename_i x' e
    cases hf
    obtain ⟨α, _, hs⟩ := r.env
    obtain ⟨u, h1, h2⟩ := hs i _ e
    exact ⟨u, h1, k u F H r.stp r.dr h2⟩
  · cases hf⟩
theorem jb_var (i : Nat) {x : Str} {pos : Pos} (hN : X.N[i]? = some x := by rfl) (hv : Vis X.env.scope x := by first | exact Or.inl rfl | exact Or.inr (Or.inl rfl) | exact Or.inr (Or.inr rfl)) (hd : (x == ("__debug__" : Str)) = false := by decide)
    (hcd : (x == ("__classdict__" : Str)) = false := by decide) : JB X (.Name x pos) (eBor i) := ⟨pe_weak (pe_var hN hv hd hcd) fun σ H Q ⟨Z, F, ds, w, d, w', r, hf, k⟩ => by
  obtain ⟨α, _, hs⟩ := r.env
  unfold eBor at hf
  split at hf
  · rename_i x' e
    cases hf
    obtain ⟨u, h1, h2⟩ := hs i _ e
    exact ⟨u, h1, k u F H r.stp r.dr (.inl h2)⟩
  · rename_i xs e
    cases hf
    obtain ⟨h1, h2, _⟩ := hs i _ e
    exact ⟨_, h1, k _ F H r.stp r.dr (.inr ⟨_, _, rfl, rfl, h2⟩)⟩
  · rename_i xs e
    cases hf
    obtain ⟨h1, h2, _⟩ := hs i _ e
    exact ⟨_, h1, k _ F H r.stp r.dr (.inr ⟨_, _, rfl, rfl, h2⟩)⟩
  · cases hf⟩
theorem je_C {e : Expr} {v : V} {d : D} (h : PE X e (tC v)) (hd : ∀ p F, Den X.K p F d v) : JE X e (eC d) := ⟨pe_weak h fun σ H Q ⟨Z, F, ds, w, d', w', r, hf, k⟩ => by
  cases hf
  exact k v F H r.stp r.dr (hd _ _)⟩
theorem je_int {i j pos} : JE X (.Constant (.int i) j pos) (eC (.int i)) := je_C pe_int fun _ _ => den_int
theorem je_str {i j pos} : JE X (.Constant (.str i) j pos) (eC (.str i)) := je_C pe_str fun _ _ => den_str
theorem je_bl {i j pos} : JE X (.Constant (.bool i) j pos) (eC (.bl i)) := je_C pe_bl fun _ _ => den_bl
theorem je_non {j pos} : JE X (.Constant .none j pos) (eC .non) := je_C pe_non fun _ _ => den_non
theorem je_ty {x : Str} {n : String} {pos : Pos} (hg : Gl X x) (hm : X.mg x = none) (hv : bootBuiltins x = some (.type n)) (hn : x ≠ "__name__" := by decide) (hd : (x == ("__debug__" : Str)) = false := by decide) : JE X (.Name x pos) (eC (.ty n)) :=
  je_C (pe_bltn (v := .ty n) hg hm hv rfl hn hd) fun _ _ => by unfold Den; rfl
theorem je_glob {x : Str} {v : V} {u : Value} {d : D} {pos : Pos} (hg : Gl X x) (hm : X.mg x = some u) (r : RelV v u) (h : ∀ p F, Den X.K p F d v) (hd : (x == ("__debug__" : Str)) = false := by decide) : JE X (.Name x pos) (eC d) := je_C (pe_glob hg hm r hd) h
/-! ### two operands -/
def eBin (g : D → D → Option D) (fa fb : Ev) : Ev := fun ds w => (fa ds w).bind fun a => (fb ds a.2).bind fun b => (g a.1 b.1).bind fun d => some (d, b.2)
def OpS (K : PySem.W.Frag) (r : R2) (g : D → D → Option D) : Prop := ∀ (Z : Cfg) (F H : Hp) (σ : L2.St) (ds : List Sl) (w : Wd) (a b d : D) (x y : V) (Q : VK), R K Z F H σ ds w → DenB K Z.p F H a x → DenB K Z.p F H b y → g a b = some d → KD K Z.p F H w d Q → r x y H Q
theorem can2 {Z : Cfg} {F H : Hp} {σ : L2.St} {ds : List Sl} {w w1 w2 : Wd} {fa fb : Ev} {a b : D} {P : V → V → Hp → Prop} (r : R K Z F H σ ds w) (ha : fa ds w = some (a, w1)) (hb : fb ds w1 = some (b, w2))
    (k : ∀ x y F' H', Stp Z.p F H F' H' → R K Z F' H' σ ds w2 → DenB K Z.p F' H' a x → DenB K Z.p F' H' b y → P x y H') : canB K fa σ H fun x H1 => canB K fb σ H1 fun y H2 => P x y H2 :=
  ⟨Z, F, ds, w, a, w1, r, ha, fun x F1 H1 s1 d1 hx => ⟨Z, F1, ds, w1, b, w2, r.step s1 d1, hb, fun y F2 H2 s2 d2 hy => k x y F2 H2 (s1.trans s2) (r.step (s1.trans s2) d2) (hx.step s2) hy⟩⟩
theorem tOp_of {r : R2} {g : D → D → Option D} {fa fb : Ev} (hs : OpS K r g) (σ : L2.St) (H : Hp) (Q : VK) : canE K (eBin g fa fb) σ H Q → tOp r (canB K fa) (canB K fb) σ H Q := fun ⟨Z, F, ds, w, d, w', rr, hf, k⟩ => by
  obtain ⟨a, ha, hf⟩ := bind2 hf
  obtain ⟨b, hb, hf⟩ := bind2 hf
  obtain ⟨c, hc, hf⟩ := bind2 hf
  cases hf
  exact can2 rr ha hb fun x y F' H' s r' hx hy => hs Z F' H' σ ds _ _ _ _ x y Q r' hx hy hc (k.go s)
variable {a b c : Expr} {fa fb fc : Ev} {pos : Pos} {g g' : D → D → Option D} {r r' : R2}
theorem je_op {op} (ho : OpR X (binaryOp op) r) (hs : OpS X.K r g) (ha : JB X a fa) (hb : JB X b fb) : JE X (.BinOp a op b pos) (eBin g fa fb) := ⟨pe_weak (pe_op ho ha.run hb.run) (tOp_of hs)⟩
theorem je_cmpO {op} (ho : OpR X (compareOp op) r) (hs : OpS X.K r g) (ha : JB X a fa) (hb : JB X b fb) (hm : behindInMarks op b = false) : JE X (.Compare a [op] [b] pos) (eBin g fa fb) := ⟨pe_weak (pe_cmpR ho ha.run hb.run hm) (tOp_of hs)⟩
/-- a value of truth, as a test -/
def eTest (f : Ev) : Et := fun ds w => (f ds w).bind fun d => match d.1 with | .bl b => some (b, d.2) | _ => none
theorem test_of {f : Ev} {e : Expr} {t : TE} (σ : L2.St) (H : Hp) (Q : Bool → Hp → Prop) (h : ∀ Q, canE K f σ H Q → t σ H Q) : canT K (eTest f) σ H Q → t σ H fun x H1 => ∃ k, x = .bl k ∧ Q k H1 := fun ⟨Z, F, ds, w, d, w', rr, hf, k⟩ => by
  obtain ⟨x, hx, hf⟩ := bind2 hf
  obtain ⟨x, w1⟩ := x
  cases x with
  | bl b =>
    cases hf
    refine h _ ⟨Z, F, ds, w, _, _, rr, hx, fun v F' H' s dr hv => ?_⟩
    unfold Den at hv
    exact ⟨_, hv, k F' H' s dr⟩
  | _ => cases hf
theorem jt_cmpO {op} (ho : OpR X (compareOp op) r) (hs : OpS X.K r g) (ha : JB X a fa) (hb : JB X b fb) (hm : behindInMarks op b = false) : JT X (.Compare a [op] [b] pos) (eTest (eBin g fa fb)) :=
  ⟨pt_weak (pt_cmpR ho ha.run hb.run hm) fun σ H Q q => test_of (e := a) σ H Q (fun Q => tOp_of hs σ H Q) q⟩
theorem jt_val {e : Expr} {f : Ev} (h : JE X e f) (he : ∀ whole, isTrue e X.env whole = (do let v ← whole; standAt e.pos; holding [v] (truthy v)) := by intro _; rfl) : JT X e (eTest f) :=
  ⟨pt_weak (pt_val h.run he) fun σ H Q q => test_of (e := e) σ H Q (fun Q q => q) q⟩
/-! chains -/
def eChain (g g' : D → D → Option D) (fa fb fc : Ev) : Ev := fun ds w => (fa ds w).bind fun a => (fb ds a.2).bind fun b => match g a.1 b.1 with
  | some (.bl true) => (fc ds b.2).bind fun c => (g' b.1 c.1).bind fun d => some (d, c.2)
  | some (.bl false) => some (.bl false, b.2)
  | _ => none
theorem chain_of (hs : OpS K r g) (hs' : OpS K r' g') (σ : L2.St) (H : Hp) (Q : VK) : canE K (eChain g g' fa fb fc) σ H Q → tChain r r' (canB K fa) (canB K fb) (canB K fc) σ H Q := fun ⟨Z, F, ds, w, d, w', rr, hf, k⟩ => by
  obtain ⟨a, ha, hf⟩ := bind2 hf
  obtain ⟨b, hb, hf⟩ := bind2 hf
  refine can2 rr ha hb fun x y F' H' s r' hx hy => ?_
  split at hf
  · rename_i hg
    refine hs Z F' H' σ ds _ _ _ _ x y _ r' hx hy hg fun z F2 H2 s2 d2 hz => ?_
    unfold Den at hz
    refine ⟨true, hz, ?_⟩
    rw [if_pos rfl]
    obtain ⟨c, hc, hf⟩ := bind2 hf
    obtain ⟨d', hd, hf⟩ := bind2 hf
    cases hf
    refine ⟨Z, F2, ds, _, _, _, r'.step s2 d2, hc, fun v F3 H3 s3 d3 hv => ?_⟩
    exact hs' Z F3 H3 σ ds _ _ _ _ y v Q (r'.step (s2.trans s3) d3) ((hy.step s2).step s3) hv hd (k.go ((s.trans s2).trans s3))
  · rename_i hg
    cases hf
    refine hs Z F' H' σ ds _ _ _ _ x y _ r' hx hy hg fun z F2 H2 s2 d2 hz => ?_
    unfold Den at hz
    refine ⟨false, hz, ?_⟩
    rw [if_neg Bool.false_ne_true]
    exact k _ F2 H2 (s.trans s2) d2 den_bl
  · cases hf
theorem je_chainO {op op'} (ho : OpR X (compareOp op) r) (hs : OpS X.K r g) (ho' : OpR X (compareOp op') r') (hs' : OpS X.K r' g') (ha : JB X a fa) (hb : JB X b fb) (hc : JB X c fc)
    (hm : lastMarks [op, op'] [b, c] = false := by with_unfolding_all rfl) : JE X (.Compare a [op, op'] [b, c] pos) (eChain g g' fa fb fc) := ⟨pe_weak (pe_chain ho ho' ha.run hb.run hc.run hm) (chain_of hs hs')⟩
theorem jt_chainO {op op'} (ho : OpR X (compareOp op) r) (hs : OpS X.K r g) (ho' : OpR X (compareOp op') r') (hs' : OpS X.K r' g') (ha : JB X a fa) (hb : JB X b fb) (hc : JB X c fc)
    (hm : lastMarks [op, op'] [b, c] = false := by with_unfolding_all rfl) : JT X (.Compare a [op, op'] [b, c] pos) (eTest (eChain g g' fa fb fc)) :=
  ⟨pt_weak (pt_chain ho ho' ha.run hb.run hc.run hm) fun σ H Q q => test_of (e := a) σ H Q (fun Q => chain_of hs hs' σ H Q) q⟩
/-! ### and, or, not, if -/
variable {rest : List Expr} {ta tb tc : Et}
def tAndJ (a b : Et) : Et := fun ds w => (a ds w).bind fun r => if r.1 = true then b ds r.2 else some (false, r.2)
def tOrJ (a b : Et) : Et := fun ds w => (a ds w).bind fun r => if r.1 = true then some (true, r.2) else b ds r.2
def tNotJ (a : Et) : Et := fun ds w => (a ds w).bind fun r => some (!r.1, r.2)
theorem and_of (σ : L2.St) (H : Hp) (Q : Bool → Hp → Prop) : canT K (tAndJ ta tb) σ H Q → tAnd (canT K ta) (canT K tb) σ H Q := fun ⟨Z, F, ds, w, d, w', rr, hf, k⟩ => by
  obtain ⟨a, ha, hf⟩ := bind2 hf
  refine ⟨Z, F, ds, w, _, _, rr, ha, fun F1 H1 s1 d1 => ?_⟩
  dsimp only
  split
  · rename_i h
    rw [if_pos h] at hf
    exact ⟨Z, F1, ds, _, _, _, rr.step s1 d1, hf, k.go s1⟩
  · rename_i h
    rw [if_neg h] at hf
    cases hf
    exact k F1 H1 s1 d1
theorem or_of (σ : L2.St) (H : Hp) (Q : Bool → Hp → Prop) : canT K (tOrJ ta tb) σ H Q → tOr (canT K ta) (canT K tb) σ H Q := fun ⟨Z, F, ds, w, d, w', rr, hf, k⟩ => by
  obtain ⟨a, ha, hf⟩ := bind2 hf
  refine ⟨Z, F, ds, w, _, _, rr, ha, fun F1 H1 s1 d1 => ?_⟩
  dsimp only
  split
  · rename_i h
    rw [if_pos h] at hf
    cases hf
    exact k F1 H1 s1 d1
  · rename_i h
    rw [if_neg h] at hf
    exact ⟨Z, F1, ds, _, _, _, rr.step s1 d1, hf, k.go s1⟩
theorem jw_and1 (ha : JT X a ta) : JW X (.BoolOp .And [a] pos) ta := ⟨pw_and1 ha.run⟩
theorem jw_or1 (ha : JT X a ta) : JW X (.BoolOp .Or [a] pos) ta := ⟨pw_or1 ha.run⟩
theorem jw_and (ha : JT X a ta) (hb : JW X (.BoolOp .And (b :: rest) pos) tb) : JW X (.BoolOp .And (a :: b :: rest) pos) (tAndJ ta tb) := ⟨pw_weak (pw_and ha.run hb.run) and_of⟩
theorem jw_or (ha : JT X a ta) (hb : JW X (.BoolOp .Or (b :: rest) pos) tb) : JW X (.BoolOp .Or (a :: b :: rest) pos) (tOrJ ta tb) := ⟨pw_weak (pw_or ha.run hb.run) or_of⟩
theorem JW.t {e : Expr} (h : JW X e ta) : JT X e ta := ⟨h.run.pt⟩
theorem jt_not (ha : JT X a ta) : JT X (.UnaryOp .Not a pos) (tNotJ ta) := ⟨pt_weak (pt_not ha.run) fun σ H Q ⟨Z, F, ds, w, d, w', rr, hf, k⟩ => by
  obtain ⟨a, ha, hf⟩ := bind2 hf
  cases hf
  exact ⟨Z, F, ds, w, _, _, rr, ha, fun F1 H1 s1 d1 => k F1 H1 s1 d1⟩⟩
/-! as values of truth -/
def eAnd (a b : Ev) : Ev := fun ds w => (a ds w).bind fun r => match r.1 with | .bl true => b ds r.2 | .bl false => some (.bl false, r.2) | _ => none
def eOr (a b : Ev) : Ev := fun ds w => (a ds w).bind fun r => match r.1 with | .bl true => some (.bl true, r.2) | .bl false => b ds r.2 | _ => none
def eNot (a : Ev) : Ev := fun ds w => (a ds w).bind fun r => match r.1 with | .bl b => some (.bl (!b), r.2) | _ => none
theorem je_one {op} {f : Ev} (h : JE X a f) : JE X (.BoolOp op [a] pos) f := ⟨pe_one h.run⟩
theorem je_and (ha : JE X a fa) (hb : JE X (.BoolOp .And (b :: rest) pos) fb) : JE X (.BoolOp .And (a :: b :: rest) pos) (eAnd fa fb) := ⟨pe_weak (pe_and ha.run hb.run) fun σ H Q ⟨Z, F, ds, w, d, w', rr, hf, k⟩ => by
  obtain ⟨⟨x, w1⟩, ha, hf⟩ := bind2 hf
  refine ⟨Z, F, ds, w, _, _, rr, ha, fun v F1 H1 s1 d1 hv => ?_⟩
  cases x with
  | bl c =>
    unfold Den at hv
    refine ⟨c, hv, ?_⟩
    cases c with
    | true =>
      rw [if_pos rfl]
      exact ⟨Z, F1, ds, _, _, _, rr.step s1 d1, hf, k.go s1⟩
    | false =>
      rw [if_neg Bool.false_ne_true]
      cases hf
      exact k _ F1 H1 s1 d1 den_bl
  | _ => cases hf⟩
theorem je_or (ha : JE X a fa) (hb : JE X (.BoolOp .Or (b :: rest) pos) fb) : JE X (.BoolOp .Or (a :: b :: rest) pos) (eOr fa fb) := ⟨pe_weak (pe_or ha.run hb.run) fun σ H Q ⟨Z, F, ds, w, d, w', rr, hf, k⟩ => by
  obtain ⟨⟨x, w1⟩, ha, hf⟩ := bind2 hf
  refine ⟨Z, F, ds, w, _, _, rr, ha, fun v F1 H1 s1 d1 hv => ?_⟩
  cases x with
  | bl c =>
    unfold Den at hv
    refine ⟨c, hv, ?_⟩
    cases c with
    | true =>
      rw [if_pos rfl]
      cases hf
      exact k _ F1 H1 s1 d1 den_bl
    | false =>
      rw [if_neg Bool.false_ne_true]
      exact ⟨Z, F1, ds, _, _, _, rr.step s1 d1, hf, k.go s1⟩
  | _ => cases hf⟩
theorem je_not (ha : JE X a fa) : JE X (.UnaryOp .Not a pos) (eNot fa) := ⟨pe_weak (pe_not ha.run) fun σ H Q ⟨Z, F, ds, w, d, w', rr, hf, k⟩ => by
  obtain ⟨⟨x, w1⟩, ha, hf⟩ := bind2 hf
  refine ⟨Z, F, ds, w, _, _, rr, ha, fun v F1 H1 s1 d1 hv => ?_⟩
  cases x with
  | bl c =>
    unfold Den at hv
    cases hf
    exact ⟨c, hv, k _ F1 H1 s1 d1 den_bl⟩
  | _ => cases hf⟩
def eIf (t : Et) (a b : Ev) : Ev := fun ds w => (t ds w).bind fun r => if r.1 = true then a ds r.2 else b ds r.2
theorem je_if (hc : JT X c tc) (ha : JE X a fa) (hb : JE X b fb) : JE X (.IfExp c a b pos) (eIf tc fa fb) := ⟨pe_weak (pe_ifExp hc.run ha.run hb.run) fun σ H Q ⟨Z, F, ds, w, d, w', rr, hf, k⟩ => by
  obtain ⟨x, hx, hf⟩ := bind2 hf
  refine ⟨Z, F, ds, w, _, _, rr, hx, fun F1 H1 s1 d1 => ?_⟩
  dsimp only
  split
  · rename_i h
    rw [if_pos h] at hf
    exact ⟨Z, F1, ds, _, _, _, rr.step s1 d1, hf, k.go s1⟩
  · rename_i h
    rw [if_neg h] at hf
    exact ⟨Z, F1, ds, _, _, _, rr.step s1 d1, hf, k.go s1⟩⟩
theorem jb_if (hc : JT X c tc) (ha : JB X a fa) (hb : JB X b fb) : JB X (.IfExp c a b pos) (eIf tc fa fb) := ⟨pe_weak (pe_ifExp hc.run ha.run hb.run) fun σ H Q ⟨Z, F, ds, w, d, w', rr, hf, k⟩ => by
  obtain ⟨x, hx, hf⟩ := bind2 hf
  refine ⟨Z, F, ds, w, _, _, rr, hx, fun F1 H1 s1 d1 => ?_⟩
  dsimp only
  split
  · rename_i h
    rw [if_pos h] at hf
    exact ⟨Z, F1, ds, _, _, _, rr.step s1 d1, hf, k.go s1⟩
  · rename_i h
    rw [if_neg h] at hf
    exact ⟨Z, F1, ds, _, _, _, rr.step s1 d1, hf, k.go s1⟩⟩
end
/-! ### lists of arguments -/
def DensB (K : PySem.W.Frag) (p : Addr) (F H : Hp) : List D → List V → Prop
  | [], vs => vs = []
  | d :: ds, vs => ∃ v r, vs = v :: r ∧ DenB K p F H d v ∧ DensB K p F H ds r
theorem DensB.step {K : PySem.W.Frag} {p : Addr} {F H F' H' : Hp} (y : Stp p F H F' H') : ∀ {ds : List D} {vs : List V}, DensB K p F H ds vs → DensB K p F' H' ds vs
  | [], _, h => h
  | _ :: _, _, ⟨v, r, e, a, b⟩ => ⟨v, r, e, a.step y, DensB.step y b⟩
def canR (K : PySem.W.Frag) (f : Ef) : TA := fun σ H Q => ∃ Z F ds w d w', R K Z F H σ ds w ∧ f ds w = some (d, w') ∧ ∀ vs F' H', Stp Z.p F H F' H' → Dr Z.p F' H' w' → DensB K Z.p F' H' d vs → Q vs H'
structure JR (X : Cx) (es : List Expr) (f : Ef) : Prop where run : PA X es (canR X.K f)
section
variable {X : Cx} {K : PySem.W.Frag} {e : Expr} {es : List Expr} {f : Ev} {fs : Ef} {pos : Pos}
def aNil : Ef := fun _ w => some ([], w)
def aCons (f : Ev) (g : Ef) : Ef := fun ds w => (f ds w).bind fun a => (g ds a.2).bind fun b => some (a.1 :: b.1, b.2)
/-- *e -/
def aStar (f : Ev) (g : Ef) : Ef := fun ds w => (f ds w).bind fun a => (g ds a.2).bind fun b => match a.1 with | .lst xs => some (xs ++ b.1, b.2) | .tup xs => some (xs ++ b.1, b.2) | _ => none
theorem ja_nil : JA X [] aNil := ⟨pa_weak pa_nil fun σ H Q ⟨Z, F, ds, w, d, w', rr, hf, k⟩ => by cases hf; exact k [] F H rr.stp rr.dr dens_nil⟩
theorem jr_nil : JR X [] aNil := ⟨pa_weak pa_nil fun σ H Q ⟨Z, F, ds, w, d, w', rr, hf, k⟩ => by cases hf; exact k [] F H rr.stp rr.dr rfl⟩
theorem ja_cons (h : JE X e f) (hr : JA X es fs) (hs : starEach (e :: es) X.env = (false, eval e X.env) :: starEach es X.env := by rfl) : JA X (e :: es) (aCons f fs) := ⟨pa_weak (pa_cons h.run hr.run hs) fun σ H Q ⟨Z, F, ds, w, d, w', rr, hf, k⟩ => by
  obtain ⟨a, ha, hf⟩ := bind2 hf
  obtain ⟨b, hb, hf⟩ := bind2 hf
  cases hf
  exact ⟨Z, F, ds, w, _, _, rr, ha, fun v F1 H1 s1 d1 hv => ⟨Z, F1, ds, _, _, _, rr.step s1 d1, hb, fun vs F2 H2 s2 d2 hvs => k _ F2 H2 (s1.trans s2) d2 (dens_cons (hv.mono s2.f) hvs)⟩⟩⟩
theorem jr_cons (h : JB X e f) (hr : JR X es fs) (hs : starEach (e :: es) X.env = (false, eval e X.env) :: starEach es X.env := by rfl) : JR X (e :: es) (aCons f fs) := ⟨pa_weak (pa_cons h.run hr.run hs) fun σ H Q ⟨Z, F, ds, w, d, w', rr, hf, k⟩ => by
  obtain ⟨a, ha, hf⟩ := bind2 hf
  obtain ⟨b, hb, hf⟩ := bind2 hf
  cases hf
  exact ⟨Z, F, ds, w, _, _, rr, ha, fun v F1 H1 s1 d1 hv => ⟨Z, F1, ds, _, _, _, rr.step s1 d1, hb, fun vs F2 H2 s2 d2 hvs => k _ F2 H2 (s1.trans s2) d2 ⟨_, _, rfl, hv.step s2, hvs⟩⟩⟩⟩
theorem ja_star {p : Pos} (h : JB X e f) (hr : JA X es fs) (hs : starEach (.Starred e p :: es) X.env = (true, eval e X.env) :: starEach es X.env := by rfl) : JA X (.Starred e p :: es) (aStar f fs) := ⟨pa_weak (StX.pa_star h.run hr.run hs) fun σ H Q ⟨Z, F, ds, w, d, w', rr, hf, k⟩ => by
  obtain ⟨⟨a, w1⟩, ha, hf⟩ := bind2 hf
  obtain ⟨b, hb, hf⟩ := bind2 hf
  refine ⟨Z, F, ds, w, _, _, rr, ha, fun v F1 H1 s1 d1 hv => ?_⟩
  cases a with
  | lst xs =>
    cases hf
    obtain ⟨q, vs, e1, e2, e3⟩ := hv.lst s1.e
    exact ⟨q, vs, e1, .inr (.of e2), Z, F1, ds, _, _, _, rr.step s1 d1, hb, fun us F2 H2 s2 d2 hvs => k _ F2 H2 (s1.trans s2) d2 ((e3.mono s2.f).append hvs)⟩
  | tup xs =>
    cases hf
    obtain ⟨q, vs, e1, e2, e3⟩ := hv.tup
    exact ⟨q, vs, e1, .inl (sqU_mono s1.e e2).t, Z, F1, ds, _, _, _, rr.step s1 d1, hb, fun us F2 H2 s2 d2 hvs => k _ F2 H2 (s1.trans s2) d2 ((e3.mono s2.f).append hvs)⟩
  | _ => cases hf⟩
/-- sizes that are met here -/
def line : Nat := 100000
theorem sz_of {n : Nat} (h : n ≤ line) : n ≤ sizeLine := Nat.le_trans h (by decide)
theorem sz_lt {n : Nat} (h : n < line) : n < sizeLine := Nat.lt_of_lt_of_le h (by decide)
def eTup (f : Ef) : Ev := fun ds w => (f ds w).bind fun a => if a.1.length ≤ line then some (.tup a.1, a.2) else none
def fLst (f : Ef) : Ef := fun ds w => (f ds w).bind fun a => if a.1.length ≤ line then some a else none
theorem je_tup {x1} (h : JA X es fs) : JE X (.Tuple es x1 pos) (eTup fs) := ⟨pe_weak (pe_tup h.run) fun σ H Q ⟨Z, F, ds, w, d, w', rr, hf, k⟩ => by
  obtain ⟨a, ha, hf⟩ := bind2 hf
  split at hf
  · rename_i hl
    cases hf
    refine ⟨Z, F, ds, w, _, _, rr, ha, fun vs F1 H1 s1 d1 hv => ⟨by rw [hv.len]; exact sz_of hl, fun q hq => ?_⟩⟩
    obtain ⟨s2, d2⟩ := (rr.step s1 d1).new (o := .tup vs) hq
    exact k _ _ _ (s1.trans s2) d2 (den_tup (.inl upd_same) (hv.mono s2.f))
  · cases hf⟩
/-- a new list as an answer -/
theorem KF.new {Z : Cfg} {F H : Hp} {σ : L2.St} {ds : List Sl} {w : Wd} {xs : List D} {vs : List V} {Q : VK} (k : KF K Z.p F H w xs Q) (r : R K Z F H σ ds w) (h : Dens K Z.p F xs vs) : ∀ q, H q = none → Q (.ref q) (upd H q (.lst vs)) := fun q hq => by
  obtain ⟨s2, d2⟩ := r.newO (o := .lst vs) hq
  exact k q vs F _ s2 d2 upd_same hq (r.ex.free hq) (r.np hq) h
theorem R.pn {Z : Cfg} {F H : Hp} {σ : L2.St} {ds : List Sl} {w : Wd} (r : R K Z F H σ ds w) : H Z.p ≠ none := by
  obtain ⟨a, h, _⟩ := r.dr
  rw [h]
  exact fun q => nomatch q
theorem jf_lst (h : JA X es fs) : JF X (.List es pos) (fLst fs) := ⟨pe_weak (pe_lst h.run) fun σ H Q ⟨Z, F, ds, w, d, w', rr, hf, k⟩ => by
  obtain ⟨a, ha, hf⟩ := bind2 hf
  split at hf
  · rename_i hl
    cases hf
    exact ⟨Z, F, ds, w, _, _, rr, ha, fun vs F1 H1 s1 d1 hv => ⟨by rw [hv.len]; exact sz_of hl, (k.go s1 rr.pn).new (rr.step s1 d1) hv⟩⟩
  · cases hf⟩
end
end J
namespace J
open PySem L2
theorem same_t {K : PySem.W.Frag} {F H : Hp} {a : Addr} {vs : List V} (h : SqU K F a vs) (e : Same F H) : SqT K H a vs := (sqU_mono e h).t
/-! ### data that may be compared -/
mutual
def py : D → PyData
  | .non => .none | .bl b => .bool b | .int i => .int i | .str s => .str s | .ty _ => .none | .draw => .none
  | .tup ds => .tuple (pys ds) | .lst ds => .list (pys ds)
def pys : List D → List PyData
  | [] => []
  | d :: ds => py d :: pys ds
end
mutual
def pok : D → Bool
  | .ty _ => false | .draw => false | .tup ds => poks ds | .lst ds => poks ds | _ => true
def poks : List D → Bool
  | [] => true
  | d :: ds => pok d && poks ds
end
theorem pys_map : ∀ ds : List D, pys ds = ds.map py
  | [] => rfl
  | d :: ds => by unfold pys; rw [pys_map ds]; rfl
theorem poks_all : ∀ ds : List D, poks ds = ds.all pok
  | [] => rfl
  | d :: ds => by unfold poks; rw [poks_all ds]; rfl
section
variable {K : PySem.W.Frag} {p : Addr} {F H : Hp}
mutual
theorem dp_of (e : Same F H) : ∀ (d : D) (v : V), pok d = true → Den K p F d v → Dp K H v (py d)
  | .non, v, _, h => by unfold Den at h; subst h; exact .non
  | .bl b, v, _, h => by unfold Den at h; subst h; exact .bl b
  | .int i, v, _, h => by unfold Den at h; subst h; exact .int i
  | .str s, v, _, h => by unfold Den at h; subst h; exact .str s
  | .ty n, v, k, h => by cases k
  | .draw, v, k, h => by cases k
  | .tup ds, v, k, h => by
    unfold Den at h
    obtain ⟨a, vs, rfl, h1, h2⟩ := h
    unfold pok at k
    unfold py
    exact .tup (same_t h1 e) (dps_of e ds vs k h2)
  | .lst ds, v, k, h => by
    unfold Den at h
    obtain ⟨a, vs, rfl, h1, h2⟩ := h
    unfold pok at k
    unfold py
    exact .lst (.of (e _ _ h1)) (dps_of e ds vs k h2)
theorem dps_of (e : Same F H) : ∀ (ds : List D) (vs : List V), poks ds = true → Dens K p F ds vs → DpAll K H vs (pys ds)
  | [], vs, _, h => by unfold Dens at h; subst h; exact .nil
  | d :: ds, vs, k, h => by
    unfold Dens at h
    obtain ⟨v, r, rfl, h1, h2⟩ := h
    unfold poks at k
    have k' := Bool.and_eq_true_iff.mp k
    unfold pys
    exact .cons (dp_of e d v k'.1 h1) (dps_of e ds r k'.2 h2)
end
theorem dpB_of (e : Same F H) {d : D} {v : V} (k : pok d = true) (h : DenB K p F H d v) : Dp K H v (py d) := by
  rcases h with h | ⟨a, xs, rfl, rfl, vs, h1, h2, h3, h4⟩
  · exact dp_of e d v k h
  · unfold pok at k
    unfold py
    exact .lst (.of h1) (dps_of e xs vs k h4)
end
def lay (d : D) : Bool := pok d && SeqAt.shaped (py d)
def eqD (a b : D) : Option D := if lay a && lay b then some (.bl (PyData.eqv (py a) (py b))) else none
def neD (a b : D) : Option D := if lay a && lay b then some (.bl (!PyData.eqv (py a) (py b))) else none
section
variable {X : Cx} {K : PySem.W.Frag} {a b c : Expr} {fa fb fc : Ev} {pos : Pos} {k : Nat}
theorem s_eqD : OpS K (rEqD K) eqD := fun Z F H σ ds w a b d x y Q r hx hy hg k => by
  unfold eqD at hg
  split at hg
  · rename_i h
    cases hg
    have h' := Bool.and_eq_true_iff.mp h
    have ha := Bool.and_eq_true_iff.mp h'.1
    have hb := Bool.and_eq_true_iff.mp h'.2
    exact ⟨_, _, dpB_of r.ex ha.1 hx, dpB_of r.ex hb.1 hy, ha.2, hb.2, k _ F H r.stp r.dr den_bl⟩
  · cases hg
theorem s_neD : OpS K (rNeD K) neD := fun Z F H σ ds w a b d x y Q r hx hy hg k => by
  unfold neD at hg
  split at hg
  · rename_i h
    cases hg
    have h' := Bool.and_eq_true_iff.mp h
    have ha := Bool.and_eq_true_iff.mp h'.1
    have hb := Bool.and_eq_true_iff.mp h'.2
    exact ⟨_, _, dpB_of r.ex ha.1 hx, dpB_of r.ex hb.1 hy, ha.2, hb.2, k _ F H r.stp r.dr den_bl⟩
  · cases hg
def eEq := eBin eqD
def eNe := eBin neD
theorem je_eq (hr : Room k X.A) (ha : JB X a fa) (hb : JB X b fb) : JE X (.Compare a [.Eq] [b] pos) (eEq fa fb) := je_cmpO (op_eqD hr.units) s_eqD ha hb (nobehind _ (by decide) (by decide))
theorem je_ne (hr : Room k X.A) (ha : JB X a fa) (hb : JB X b fb) : JE X (.Compare a [.NotEq] [b] pos) (eNe fa fb) := je_cmpO (op_neD hr.units) s_neD ha hb (nobehind _ (by decide) (by decide))
theorem jt_eq (hr : Room k X.A) (ha : JB X a fa) (hb : JB X b fb) : JT X (.Compare a [.Eq] [b] pos) (eTest (eEq fa fb)) := jt_cmpO (op_eqD hr.units) s_eqD ha hb (nobehind _ (by decide) (by decide))
theorem jt_ne (hr : Room k X.A) (ha : JB X a fa) (hb : JB X b fb) : JT X (.Compare a [.NotEq] [b] pos) (eTest (eNe fa fb)) := jt_cmpO (op_neD hr.units) s_neD ha hb (nobehind _ (by decide) (by decide))
/-! order of ints -/
def g2B (p : Int → Int → Bool) : D → D → Option D | .int i, .int j => some (.bl (p i j)) | _, _ => none
theorem s_B (p : Int → Int → Bool) : OpS K (rI0 fun i j => .bl (p i j)) (g2B p) := fun Z F H σ ds w a b d x y Q r hx hy hg k => by
  cases a <;> cases b <;> first | cases hg | skip
  exact ⟨_, _, hx.int, hy.int, k _ F H r.stp r.dr den_bl⟩
def pLt (i j : Int) : Bool := decide (i < j)
def pLe (i j : Int) : Bool := decide (i ≤ j)
def pGt (i j : Int) : Bool := decide (j < i)
def pGe (i j : Int) : Bool := decide (j ≤ i)
def eLt := eBin (g2B pLt)
def eLe := eBin (g2B pLe)
def eGt := eBin (g2B pGt)
def eGe := eBin (g2B pGe)
theorem je_lt (ha : JB X a fa) (hb : JB X b fb) : JE X (.Compare a [.Lt] [b] pos) (eLt fa fb) := je_cmpO op_lt (s_B pLt) ha hb (nobehind _ (by decide) (by decide))
theorem je_le (ha : JB X a fa) (hb : JB X b fb) : JE X (.Compare a [.LtE] [b] pos) (eLe fa fb) := je_cmpO op_le (s_B pLe) ha hb (nobehind _ (by decide) (by decide))
theorem je_gt (ha : JB X a fa) (hb : JB X b fb) : JE X (.Compare a [.Gt] [b] pos) (eGt fa fb) := je_cmpO op_gt (s_B pGt) ha hb (nobehind _ (by decide) (by decide))
theorem je_ge (ha : JB X a fa) (hb : JB X b fb) : JE X (.Compare a [.GtE] [b] pos) (eGe fa fb) := je_cmpO op_ge (s_B pGe) ha hb (nobehind _ (by decide) (by decide))
theorem jt_lt (ha : JB X a fa) (hb : JB X b fb) : JT X (.Compare a [.Lt] [b] pos) (eTest (eLt fa fb)) := jt_cmpO op_lt (s_B pLt) ha hb (nobehind _ (by decide) (by decide))
theorem jt_le (ha : JB X a fa) (hb : JB X b fb) : JT X (.Compare a [.LtE] [b] pos) (eTest (eLe fa fb)) := jt_cmpO op_le (s_B pLe) ha hb (nobehind _ (by decide) (by decide))
theorem jt_gt (ha : JB X a fa) (hb : JB X b fb) : JT X (.Compare a [.Gt] [b] pos) (eTest (eGt fa fb)) := jt_cmpO op_gt (s_B pGt) ha hb (nobehind _ (by decide) (by decide))
theorem jt_ge (ha : JB X a fa) (hb : JB X b fb) : JT X (.Compare a [.GtE] [b] pos) (eTest (eGe fa fb)) := jt_cmpO op_ge (s_B pGe) ha hb (nobehind _ (by decide) (by decide))
/-! a chain of two: lt, le -/
theorem je_lele (ha : JB X a fa) (hb : JB X b fb) (hc : JB X c fc) (hm : lastMarks [.LtE, .LtE] [b, c] = false := by with_unfolding_all rfl) : JE X (.Compare a [.LtE, .LtE] [b, c] pos) (eChain (g2B pLe) (g2B pLe) fa fb fc) := je_chainO op_le (s_B pLe) op_le (s_B pLe) ha hb hc hm
theorem je_lelt (ha : JB X a fa) (hb : JB X b fb) (hc : JB X c fc) (hm : lastMarks [.LtE, .Lt] [b, c] = false := by with_unfolding_all rfl) : JE X (.Compare a [.LtE, .Lt] [b, c] pos) (eChain (g2B pLe) (g2B pLt) fa fb fc) := je_chainO op_le (s_B pLe) op_lt (s_B pLt) ha hb hc hm
theorem jt_lele (ha : JB X a fa) (hb : JB X b fb) (hc : JB X c fc) (hm : lastMarks [.LtE, .LtE] [b, c] = false := by with_unfolding_all rfl) : JT X (.Compare a [.LtE, .LtE] [b, c] pos) (eTest (eChain (g2B pLe) (g2B pLe) fa fb fc)) := jt_chainO op_le (s_B pLe) op_le (s_B pLe) ha hb hc hm
theorem jt_lelt (ha : JB X a fa) (hb : JB X b fb) (hc : JB X c fc) (hm : lastMarks [.LtE, .Lt] [b, c] = false := by with_unfolding_all rfl) : JT X (.Compare a [.LtE, .Lt] [b, c] pos) (eTest (eChain (g2B pLe) (g2B pLt) fa fb fc)) := jt_chainO op_le (s_B pLe) op_lt (s_B pLt) ha hb hc hm
/-! is None -/
def isN (a b : D) : Option D := match a, b with | .non, .non => some (.bl true) | .bl _, .non => some (.bl false) | .int _, .non => some (.bl false) | .str _, .non => some (.bl false) | .tup _, .non => some (.bl false) | .lst _, .non => some (.bl false) | _, _ => none
def notN (a b : D) : Option D := match a, b with | .non, .non => some (.bl false) | .bl _, .non => some (.bl true) | .int _, .non => some (.bl true) | .str _, .non => some (.bl true) | .tup _, .non => some (.bl true) | .lst _, .non => some (.bl true) | _, _ => none
theorem isN_of {p : Addr} {F H : Hp} {a : D} {x : V} {r : D} (h : DenB K p F H a x) (hg : isN a .non = some r) : r = .bl (decide (x = .non)) := by
  cases a with
  | non => cases hg; rw [h.non]; rfl
  | bl b => cases hg; rw [h.bl]; rfl
  | int b => cases hg; rw [h.int]; rfl
  | str b => cases hg; rw [h.str]; rfl
  | tup b => cases hg; obtain ⟨_, _, rfl, _⟩ := h.tup; rfl
  | lst b =>
    cases hg
    rcases h with h | ⟨_, _, _, rfl, _⟩
    · unfold Den at h
      obtain ⟨_, _, rfl, _⟩ := h
      rfl
    · rfl
  | ty n => cases hg
  | draw => cases hg
theorem s_isN : OpS K (fun x y H Q => y = .non ∧ Q (.bl (decide (x = .non))) H) isN := fun Z F H σ ds w a b d x y Q r hx hy hg k => by
  have hb : b = .non := by cases b <;> first | rfl | (cases a <;> cases hg)
  subst hb
  refine ⟨hy.non, k _ F H r.stp r.dr ?_⟩
  rw [isN_of hx hg]
  exact den_bl
theorem s_notN : OpS K (fun x y H Q => y = .non ∧ Q (.bl (!decide (x = .non))) H) notN := fun Z F H σ ds w a b d x y Q r hx hy hg k => by
  have hb : b = .non := by cases b <;> first | rfl | (cases a <;> cases hg)
  subst hb
  refine ⟨hy.non, k _ F H r.stp r.dr ?_⟩
  have e : ∃ r', isN a .non = some r' ∧ d = (match r' with | .bl c => .bl (!c) | z => z) := by
    cases a <;> first | (cases hg; exact ⟨_, rfl, rfl⟩) | cases hg
  obtain ⟨r', e1, e2⟩ := e
  have e3 := isN_of hx e1
  subst e3
  rw [e2]
  exact den_bl
def eIs := eBin isN
def eIsNot := eBin notN
theorem je_is (ha : JB X a fa) (hb : JB X b fb) : JE X (.Compare a [.Is] [b] pos) (eIs fa fb) := je_cmpO op_isN s_isN ha hb (nobehind _ (by decide) (by decide))
theorem je_isnot (ha : JB X a fa) (hb : JB X b fb) : JE X (.Compare a [.IsNot] [b] pos) (eIsNot fa fb) := je_cmpO op_notN s_notN ha hb (nobehind _ (by decide) (by decide))
theorem jt_is (ha : JB X a fa) (hb : JB X b fb) : JT X (.Compare a [.Is] [b] pos) (eTest (eIs fa fb)) := jt_cmpO op_isN s_isN ha hb (nobehind _ (by decide) (by decide))
theorem jt_isnot (ha : JB X a fa) (hb : JB X b fb) : JT X (.Compare a [.IsNot] [b] pos) (eTest (eIsNot fa fb)) := jt_cmpO op_notN s_notN ha hb (nobehind _ (by decide) (by decide))
/-! ### in -/
def flatD : D → Bool | .non => true | .bl _ => true | .int _ => true | .str _ => true | _ => false
def eqF : D → D → Bool
  | .non, .non => true
  | .bl a, .bl b => a == b
  | .bl a, .int b => (if a then 1 else 0) == b
  | .int a, .bl b => a == (if b then 1 else 0)
  | .int a, .int b => a == b
  | .str a, .str b => a == b
  | _, _ => false
theorem flat_of {p : Addr} {F : Hp} {d : D} {v : V} (h : Den K p F d v) (f : flatD d = true) : flatV v = true := by
  cases d <;> first | (unfold Den at h; subst h; rfl) | cases f
theorem eqF_of {p : Addr} {F : Hp} {d e : D} {v u : V} (h : Den K p F d v) (h' : Den K p F e u) (f : flatD d = true) (f' : flatD e = true) : eqV v u = eqF d e := by
  cases d with
  | tup _ => cases f
  | lst _ => cases f
  | ty _ => cases f
  | draw => cases f
  | _ =>
    unfold Den at h
    subst h
    cases e <;> first | (unfold Den at h'; subst h'; rfl) | cases f'
theorem any_of {p : Addr} {F : Hp} {e : D} {u : V} (h' : Den K p F e u) (f' : flatD e = true) : ∀ {ds : List D} {vs : List V}, Dens K p F ds vs → ds.all flatD = true → vs.all flatV = true ∧ vs.any (fun y => eqV y u) = ds.any (fun y => eqF y e)
  | [], vs, h, _ => by unfold Dens at h; subst h; exact ⟨rfl, rfl⟩
  | d :: ds, vs, h, f => by
    unfold Dens at h
    obtain ⟨v, r, rfl, h1, h2⟩ := h
    rw [List.all_cons, Bool.and_eq_true] at f
    obtain ⟨i1, i2⟩ := any_of h' f' h2 f.2
    refine ⟨?_, ?_⟩
    · rw [List.all_cons, flat_of h1 f.1, i1]; rfl
    · rw [List.any_cons, List.any_cons, eqF_of h1 h' f.1 f', i2]
def inD (neg : Bool) (a b : D) : Option D := match b with
  | .tup ys => if flatD a && ys.all flatD then some (.bl (if neg then !ys.any (fun y => eqF y a) else ys.any fun y => eqF y a)) else none
  | .lst ys => if lay a && lay (.lst ys) then some (.bl (if neg then !(pys ys).any (fun z => PyData.eqv z (py a)) else (pys ys).any fun z => PyData.eqv z (py a))) else none
  | _ => none
theorem flatB {p : Addr} {F H : Hp} {a : D} {x : V} (h : DenB K p F H a x) (f : flatD a = true) : Den K p F a x := by
  rcases h with h | ⟨_, _, rfl, _⟩
  · exact h
  · cases f
theorem s_in : OpS K (fun x y H Q => rIn K false x y H Q ∨ rInD K x y H Q) (inD false) := fun Z F H σ ds w a b d x y Q r hx hy hg k => by
  cases b with
  | tup ys =>
    unfold inD at hg
    dsimp only at hg
    split at hg
    · rename_i h
      have h' := Bool.and_eq_true_iff.mp h
      cases hg
      obtain ⟨q, vs, rfl, h1, h2⟩ := hy.tup
      obtain ⟨i1, i2⟩ := any_of (flatB hx h'.1) h'.1 h2 h'.2
      refine .inl ⟨q, vs, rfl, .inr (same_t h1 r.ex), flat_of (flatB hx h'.1) h'.1, i1, k _ F H r.stp r.dr ?_⟩
      show Den _ _ _ (.bl (if false = true then _ else _)) (V.bl (if false = true then _ else inV x vs))
      rw [if_neg Bool.false_ne_true, if_neg Bool.false_ne_true]
      unfold inV
      rw [i2]
      exact den_bl
    · cases hg
  | lst ys =>
    unfold inD at hg
    dsimp only at hg
    split at hg
    · rename_i h
      have h' := Bool.and_eq_true_iff.mp h
      have ha := Bool.and_eq_true_iff.mp h'.1
      have hb := Bool.and_eq_true_iff.mp h'.2
      cases hg
      refine .inr ⟨_, pys ys, dpB_of r.ex ha.1 hx, ?_, ha.2, ?_, k _ F H r.stp r.dr den_bl⟩
      · have := dpB_of r.ex hb.1 hy
        unfold py at this
        exact this
      · have := hb.2
        unfold py at this
        exact this
    · cases hg
  | _ => cases hg
theorem s_notin : OpS K (fun x y H Q => rIn K true x y H Q ∨ rNotInD K x y H Q) (inD true) := fun Z F H σ ds w a b d x y Q r hx hy hg k => by
  cases b with
  | tup ys =>
    unfold inD at hg
    dsimp only at hg
    split at hg
    · rename_i h
      have h' := Bool.and_eq_true_iff.mp h
      cases hg
      obtain ⟨q, vs, rfl, h1, h2⟩ := hy.tup
      obtain ⟨i1, i2⟩ := any_of (flatB hx h'.1) h'.1 h2 h'.2
      refine .inl ⟨q, vs, rfl, .inr (same_t h1 r.ex), flat_of (flatB hx h'.1) h'.1, i1, k _ F H r.stp r.dr ?_⟩
      show Den _ _ _ (.bl (if true = true then _ else _)) (V.bl (if true = true then !inV x vs else _))
      rw [if_pos rfl, if_pos rfl]
      unfold inV
      rw [i2]
      exact den_bl
    · cases hg
  | lst ys =>
    unfold inD at hg
    dsimp only at hg
    split at hg
    · rename_i h
      have h' := Bool.and_eq_true_iff.mp h
      have ha := Bool.and_eq_true_iff.mp h'.1
      have hb := Bool.and_eq_true_iff.mp h'.2
      cases hg
      refine .inr ⟨_, pys ys, dpB_of r.ex ha.1 hx, ?_, ha.2, ?_, k _ F H r.stp r.dr den_bl⟩
      · have := dpB_of r.ex hb.1 hy
        unfold py at this
        exact this
      · have := hb.2
        unfold py at this
        exact this
    · cases hg
  | _ => cases hg
theorem hu65 (hr : Room k X.A) : X.A.units + 65 < cLine := by have := hr.un; omega
def eIn := eBin (inD false)
def eNotIn := eBin (inD true)
theorem je_in (hr : Room k X.A) (ha : JB X a fa) (hb : JB X b fb) (hm : behindInMarks .In b = false := by rfl) : JE X (.Compare a [.In] [b] pos) (eIn fa fb) := je_cmpO (op_in_seq.or (op_inD (hu65 hr))) s_in ha hb hm
theorem je_notin (hr : Room k X.A) (ha : JB X a fa) (hb : JB X b fb) (hm : behindInMarks .NotIn b = false := by rfl) : JE X (.Compare a [.NotIn] [b] pos) (eNotIn fa fb) := je_cmpO (op_notIn_seq.or (op_notInD (hu65 hr))) s_notin ha hb hm
theorem jt_in (hr : Room k X.A) (ha : JB X a fa) (hb : JB X b fb) (hm : behindInMarks .In b = false := by rfl) : JT X (.Compare a [.In] [b] pos) (eTest (eIn fa fb)) := jt_cmpO (op_in_seq.or (op_inD (hu65 hr))) s_in ha hb hm
theorem jt_notin (hr : Room k X.A) (ha : JB X a fa) (hb : JB X b fb) (hm : behindInMarks .NotIn b = false := by rfl) : JT X (.Compare a [.NotIn] [b] pos) (eTest (eNotIn fa fb)) := jt_cmpO (op_notIn_seq.or (op_notInD (hu65 hr))) s_notin ha hb hm
/-! ### arithmetic -/
def addD : D → D → Option D
  | .int i, .int j => some (.int (i + j))
  | .str s, .str t => if s.length + t.length ≤ line then some (.str (s ++ t)) else none
  | .lst xs, .lst ys => if xs.length + ys.length ≤ line then some (.lst (xs ++ ys)) else none
  | .tup xs, .tup ys => if xs.length + ys.length ≤ line then some (.tup (xs ++ ys)) else none
  | _, _ => none
def rAddJ (K : PySem.W.Frag) : R2 := fun x y H Q => rI0 (fun i j => .int (i + j)) x y H Q ∨ (fun x y H Q => (∃ i j, x = .str i ∧ y = .str j ∧ i.length + j.length ≤ sizeLine ∧ Q (.str (i ++ j)) H) ∨ (fun x y H Q => rCat x y H Q ∨ rCatA K x y H Q) x y H Q) x y H Q
theorem op_addJ : OpR X (binaryOp .Add) (rAddJ X.K) := OpR.or op_add (OpR.or op_add_str (OpR.or op_cat op_catA))
theorem s_add : OpS K (rAddJ K) addD := fun Z F H σ ds w a b d x y Q r hx hy hg k => by
  cases a <;> cases b <;> first | cases hg | skip
  · exact .inl ⟨_, _, hx.int, hy.int, k _ F H r.stp r.dr den_int⟩
  · unfold addD at hg
    dsimp only at hg
    split at hg
    · rename_i h
      cases hg
      exact .inr (.inl ⟨_, _, hx.str, hy.str, sz_of h, k _ F H r.stp r.dr den_str⟩)
    · cases hg
  · unfold addD at hg
    dsimp only at hg
    split at hg
    · rename_i h
      cases hg
      obtain ⟨q, vs, rfl, h1, h2⟩ := hx.tup
      obtain ⟨q', us, rfl, h3, h4⟩ := hy.tup
      refine .inr (.inr (.inr ⟨q, q', vs, us, rfl, rfl, same_t h1 r.ex, same_t h3 r.ex, by rw [h2.len, h4.len]; exact sz_of h, fun e => ?_, fun _ e => ?_, fun _ _ t ht => ?_⟩))
      · have h5 := h2.append h4
        rw [e] at h5
        exact k _ F H r.stp r.dr (den_tup h3 (by simpa using h5))
      · have h5 := h2.append h4
        rw [e, List.append_nil] at h5
        exact k _ F H r.stp r.dr (den_tup h1 h5)
      · obtain ⟨s2, d2⟩ := r.new (o := .tup (vs ++ us)) ht
        exact k _ _ _ s2 d2 (den_tup (.inl upd_same) ((h2.append h4).mono s2.f))
    · cases hg
  · unfold addD at hg
    dsimp only at hg
    split at hg
    · rename_i h
      cases hg
      obtain ⟨q, vs, rfl, h1, h2⟩ := hx.lst r.ex
      obtain ⟨q', us, rfl, h3, h4⟩ := hy.lst r.ex
      refine .inr (.inr (.inl ⟨q, q', vs, us, rfl, rfl, h1, h3, by rw [h2.len, h4.len]; exact sz_of h, fun t ht => ?_⟩))
      obtain ⟨s2, d2⟩ := r.new (o := .lst (vs ++ us)) ht
      exact k _ _ _ s2 d2 (den_lst upd_same ((h2.append h4).mono s2.f))
    · cases hg
def eAdd := eBin addD
theorem je_add (ha : JB X a fa) (hb : JB X b fb) : JE X (.BinOp a .Add b pos) (eAdd fa fb) := je_op op_addJ s_add ha hb
def g2I (C : Int → Int → Bool) (f : Int → Int → Int) : D → D → Option D | .int i, .int j => if C i j then some (.int (f i j)) else none | _, _ => none
theorem s_I {C : Int → Int → Prop} (C' : Int → Int → Bool) (f : Int → Int → Int) (h : ∀ i j, C' i j = true → C i j) : OpS K (rI C fun i j => .int (f i j)) (g2I C' f) := fun Z F H σ ds w a b d x y Q r hx hy hg k => by
  cases a <;> cases b <;> first | cases hg | skip
  unfold g2I at hg
  dsimp only at hg
  split at hg
  · rename_i hc
    cases hg
    exact ⟨_, _, hx.int, hy.int, h _ _ hc, k _ F H r.stp r.dr den_int⟩
  · cases hg
theorem s_I0 (f : Int → Int → Int) : OpS K (rI0 fun i j => .int (f i j)) (g2I (fun _ _ => true) f) := fun Z F H σ ds w a b d x y Q r hx hy hg k => by
  cases a <;> cases b <;> first | cases hg | skip
  exact ⟨_, _, hx.int, hy.int, k _ F H r.stp r.dr den_int⟩
def subD := g2I (fun _ _ => true) (fun i j => i - j)
def okMul (i j : Int) : Bool := decide (-(2 ^ 64) < i ∧ i < 2 ^ 64) || decide (-(2 ^ 64) < j ∧ j < 2 ^ 64)
def mulD0 := g2I okMul (fun i j => i * j)
def okDiv (_ j : Int) : Bool := decide (0 < j) && decide (j.natAbs.log2 < 9000)
def divD := g2I okDiv (fun i j => i / j)
def okMod (_ j : Int) : Bool := decide (0 < j)
def modD := g2I okMod (fun i j => i % j)
def okPow (i j : Int) : Bool := decide (0 ≤ j ∧ j ≤ 1000000 ∧ i.natAbs < 2 ^ 64)
def powD := g2I okPow (fun i j => i ^ j.toNat)
def eSub := eBin subD
def eDiv := eBin divD
def eMod := eBin modD
def ePow := eBin powD
theorem je_sub (ha : JB X a fa) (hb : JB X b fb) : JE X (.BinOp a .Sub b pos) (eSub fa fb) := je_op op_sub (s_I0 _) ha hb
theorem je_div (ha : JB X a fa) (hb : JB X b fb) : JE X (.BinOp a .FloorDiv b pos) (eDiv fa fb) := je_op op_fdivW (s_I okDiv _ fun i j h => by
  have h' := Bool.and_eq_true_iff.mp h
  exact ⟨of_decide_eq_true h'.1, of_decide_eq_true h'.2⟩) ha hb
theorem je_mod (ha : JB X a fa) (hb : JB X b fb) : JE X (.BinOp a .Mod b pos) (eMod fa fb) := je_op op_mod (s_I okMod _ fun i j h => of_decide_eq_true h) ha hb
theorem je_pow (ha : JB X a fa) (hb : JB X b fb) : JE X (.BinOp a .Pow b pos) (ePow fa fb) := je_op op_pow (s_I okPow _ fun i j h => by unfold okPow at h; exact (of_decide_eq_true h : 0 ≤ j ∧ j ≤ 1000000 ∧ i.natAbs < 2 ^ 64)) ha hb
/-- int * int, list * int -/
def mulD : D → D → Option D
  | .int i, .int j => if okMul i j then some (.int (i * j)) else none
  | .lst xs, .int j => if -(2 ^ 63) ≤ j ∧ j < 2 ^ 63 ∧ xs.length * j.toNat ≤ line then some (.lst (List.replicate j.toNat xs).flatten) else none
  | _, _ => none
theorem Dens.rep {p : Addr} {F : Hp} {ds : List D} {vs : List V} (h : Dens K p F ds vs) : ∀ n : Nat, Dens K p F (List.replicate n ds).flatten (List.replicate n vs).flatten
  | 0 => dens_nil
  | n + 1 => by
    rw [List.replicate_succ, List.replicate_succ, List.flatten_cons, List.flatten_cons]
    exact h.append (Dens.rep h n)
theorem s_mul : OpS K (fun x y H Q => rI CMul (fun i j => .int (i * j)) x y H Q ∨ rRep x y H Q) mulD := fun Z F H σ ds w a b d x y Q r hx hy hg k => by
  cases a <;> cases b <;> first | cases hg | skip
  · unfold mulD at hg
    dsimp only at hg
    split at hg
    · rename_i hc
      cases hg
      refine .inl ⟨_, _, hx.int, hy.int, ?_, k _ F H r.stp r.dr den_int⟩
      unfold okMul at hc
      rcases Bool.or_eq_true_iff.mp hc with h | h
      · exact .inl (of_decide_eq_true h)
      · exact .inr (of_decide_eq_true h)
    · cases hg
  · unfold mulD at hg
    dsimp only at hg
    split at hg
    · rename_i hc
      cases hg
      obtain ⟨q, vs, rfl, h1, h2⟩ := hx.lst r.ex
      refine .inr ⟨q, _, vs, rfl, hy.int, h1, hc.1, hc.2.1, by rw [h2.len]; exact sz_of hc.2.2, fun t ht => ?_⟩
      obtain ⟨s2, d2⟩ := r.new (o := .lst (List.replicate _ vs).flatten) ht
      exact k _ _ _ s2 d2 (den_lst upd_same ((h2.rep _).mono s2.f))
    · cases hg
def eMul := eBin mulD
theorem je_mul (ha : JB X a fa) (hb : JB X b fb) : JE X (.BinOp a .Mult b pos) (eMul fa fb) := je_op (OpR.or op_mul op_rep) s_mul ha hb
def eNeg (f : Ev) : Ev := fun ds w => (f ds w).bind fun a => match a.1 with | .int i => some (.int (-i), a.2) | _ => none
theorem je_neg (ha : JB X a fa) : JE X (.UnaryOp .USub a pos) (eNeg fa) := ⟨pe_weak (pe_un un_neg ha.run) fun σ H Q ⟨Z, F, ds, w, d, w', rr, hf, k⟩ => by
  obtain ⟨⟨x, w1⟩, hx, hf⟩ := bind2 hf
  refine ⟨Z, F, ds, w, _, _, rr, hx, fun v F1 H1 s1 d1 hv => ?_⟩
  cases x with
  | int i =>
    cases hf
    exact ⟨i, hv.int, k _ F1 H1 s1 d1 den_int⟩
  | _ => cases hf⟩
/-! ### items -/
def idxD : D → D → Option D
  | .lst xs, .int i => atI xs i
  | .tup xs, .int i => atI xs i
  | _, _ => none
theorem atI_of {p : Addr} {F : Hp} {xs : List D} {vs : List V} {i : Int} {d : D} (h : Dens K p F xs vs) (e : atI xs i = some d) : ∃ v, atI vs i = some v ∧ Den K p F d v := by
  unfold atI at e ⊢
  rw [h.len]
  obtain ⟨j, h1, h2⟩ := bind2 e
  obtain ⟨v, h3, h4⟩ := h.get h2
  exact ⟨v, by rw [h1]; exact h3, h4⟩
theorem s_idx : OpS K (rIx K) idxD := fun Z F H σ ds w a b d x y Q r hx hy hg k => by
  cases a <;> cases b <;> first | cases hg | skip
  · obtain ⟨q, vs, rfl, h1, h2⟩ := hx.tup
    obtain ⟨v, e, hv⟩ := atI_of h2 hg
    exact .inr (.inl ⟨q, vs, _, v, rfl, hy.int, same_t h1 r.ex, e, k v F H r.stp r.dr hv⟩)
  · obtain ⟨q, vs, rfl, h1, h2⟩ := hx.lst r.ex
    obtain ⟨v, e, hv⟩ := atI_of h2 hg
    exact .inl ⟨q, vs, _, v, rfl, hy.int, .of h1, e, k v F H r.stp r.dr hv⟩
def eIx := eBin idxD
theorem je_ix (ha : JB X a fa) (hb : JB X b fb) (hs : PlainIx b := by exact fun _ _ => rfl) : JE X (.Subscript a b pos) (eIx fa fb) := ⟨pe_weak (pe_ix ix_seq ha.run hb.run hs) (tOp_of s_idx)⟩
/-! ### slices -/
abbrev Eo := List Sl → Wd → Option (Option Int × Wd)
def canO (K : PySem.W.Frag) (f : Eo) : TO := fun σ H Q => ∃ Z F ds w d w', R K Z F H σ ds w ∧ f ds w = some (d, w') ∧ ∀ F' H', Stp Z.p F H F' H' → Dr Z.p F' H' w' → Q d H'
structure JO (X : Cx) (e : Option Expr) (f : Eo) : Prop where run : PO X e (canO X.K f)
theorem po_weak {e : Option Expr} {t t' : TO} (h : PO X e t) (s : ∀ σ H Q, t' σ H Q → t σ H Q) : PO X e t' := ⟨fun pins s' σ H Q I q => h.run pins s' σ H Q I (s σ H Q q)⟩
def oNo : Eo := fun _ w => some (none, w)
def oSo (f : Ev) : Eo := fun ds w => (f ds w).bind fun a => match a.1 with | .int i => some (some i, a.2) | _ => none
theorem jo_no : JO X none oNo := ⟨po_weak po_none fun σ H Q ⟨Z, F, ds, w, d, w', rr, hf, k⟩ => by cases hf; exact k F H rr.stp rr.dr⟩
theorem jo_so (h : JB X a fa) : JO X (some a) (oSo fa) := ⟨po_weak (po_some h.run) fun σ H Q ⟨Z, F, ds, w, d, w', rr, hf, k⟩ => by
  obtain ⟨⟨x, w1⟩, hx, hf⟩ := bind2 hf
  refine ⟨Z, F, ds, w, _, _, rr, hx, fun v F1 H1 s1 d1 hv => ?_⟩
  cases x with
  | int i =>
    cases hf
    exact ⟨i, hv.int, k F1 H1 s1 d1⟩
  | _ => cases hf⟩
def cutD (xs : List D) (lo hi : Option Int) : List D := (xs.drop (HT.sIx xs.length 0 lo)).take (HT.sIx xs.length xs.length hi - HT.sIx xs.length 0 lo)
theorem cut_of {p : Addr} {F : Hp} {xs : List D} {vs : List V} (h : Dens K p F xs vs) (lo hi : Option Int) : Dens K p F (cutD xs lo hi) (cutV vs lo hi) := by
  unfold cutD cutV
  rw [h.len]
  exact (h.drop _).take _
def fSl (f : Ev) (l h : Eo) : Ef := fun ds w => (f ds w).bind fun a => (l ds a.2).bind fun lo => (h ds lo.2).bind fun hi => match a.1 with | .lst xs => some (cutD xs lo.1 hi.1, hi.2) | _ => none
/-- the same of a tuple -/
def eSlT (f : Ev) (l h : Eo) : Ev := fun ds w => (f ds w).bind fun a => (l ds a.2).bind fun lo => (h ds lo.2).bind fun hi => match a.1 with | .tup xs => some (.tup (cutD xs lo.1 hi.1), hi.2) | _ => none
theorem cutD_whole {xs : List D} {lo hi : Option Int} (h : HT.sIx xs.length 0 lo = 0 ∧ HT.sIx xs.length xs.length hi = xs.length) : cutD xs lo hi = xs := by
  unfold cutD
  rw [h.1, h.2]
  simp
theorem jf_slice {lo hi : Option Expr} {l h : Eo} {p2 : Pos} (ha : JB X a fa) (hl : JO X lo l) (hh : JO X hi h) : JF X (.Subscript a (.Slice lo hi none p2) pos) (fSl fa l h) := ⟨pe_weak (pe_slice sl_list ha.run hl.run hh.run) fun σ H Q ⟨Z, F, ds, w, d, w', rr, hf, k⟩ => by
  obtain ⟨⟨x, w1⟩, hx, hf⟩ := bind2 hf
  obtain ⟨⟨lo, w2⟩, hlo, hf⟩ := bind2 hf
  obtain ⟨⟨hi, w3⟩, hhi, hf⟩ := bind2 hf
  refine ⟨Z, F, ds, w, _, _, rr, hx, fun v F1 H1 s1 d1 hv => ⟨Z, F1, ds, _, _, _, rr.step s1 d1, hlo, fun F2 H2 s2 d2 => ⟨Z, F2, ds, _, _, _, (rr.step s1 d1).step s2 d2, hhi, fun F3 H3 s3 d3 => ?_⟩⟩⟩
  cases x with
  | lst xs =>
    cases hf
    have s13 := s2.trans s3
    obtain ⟨q, vs, rfl, h1, h2⟩ := (hv.step s13).lst s3.e
    exact ⟨q, vs, rfl, .of h1, (k.go (s1.trans s13) rr.pn).new (rr.step (s1.trans s13) d3) (cut_of h2 lo hi)⟩
  | _ => cases hf⟩
theorem je_sliceT {lo hi : Option Expr} {l h : Eo} {p2 : Pos} (ha : JB X a fa) (hl : JO X lo l) (hh : JO X hi h) : JE X (.Subscript a (.Slice lo hi none p2) pos) (eSlT fa l h) := ⟨pe_weak (pe_slice sl_tupA ha.run hl.run hh.run) fun σ H Q ⟨Z, F, ds, w, d, w', rr, hf, k⟩ => by
  obtain ⟨⟨x, w1⟩, hx, hf⟩ := bind2 hf
  obtain ⟨⟨lo, w2⟩, hlo, hf⟩ := bind2 hf
  obtain ⟨⟨hi, w3⟩, hhi, hf⟩ := bind2 hf
  refine ⟨Z, F, ds, w, _, _, rr, hx, fun v F1 H1 s1 d1 hv => ⟨Z, F1, ds, _, _, _, rr.step s1 d1, hlo, fun F2 H2 s2 d2 => ⟨Z, F2, ds, _, _, _, (rr.step s1 d1).step s2 d2, hhi, fun F3 H3 s3 d3 => ?_⟩⟩⟩
  cases x with
  | tup xs =>
    cases hf
    have s13 := s2.trans s3
    have r3 := rr.step (s1.trans s13) d3
    obtain ⟨q, vs, rfl, h1, h2⟩ := (hv.step s13).tup
    refine ⟨q, vs, rfl, same_t h1 r3.ex, fun e => ?_, fun _ t ht => ?_⟩
    · rw [h2.len] at e
      rw [cutD_whole e] at k
      exact k _ F3 H3 (s1.trans s13) d3 (den_tup h1 h2)
    · obtain ⟨s4, d4⟩ := r3.new (o := .tup (cutV vs lo hi)) ht
      exact k _ _ _ ((s1.trans s13).trans s4) d4 (den_tup (.inl upd_same) ((cut_of h2 lo hi).mono s4.f))
  | _ => cases hf⟩
def fRev (f : Ev) : Ef := fun ds w => (f ds w).bind fun a => match a.1 with | .lst xs => some (xs.reverse, a.2) | _ => none
theorem jf_rev {n : Nat} {p1 p2 p3 : Pos} (ha : JB X a fa) : JF X (.Subscript a (.Slice none none (some (.UnaryOp .USub (.Constant (.int 1) n p1) p2)) p3) pos) (fRev fa) := ⟨pe_weak (pe_revL ha.run) fun σ H Q ⟨Z, F, ds, w, d, w', rr, hf, k⟩ => by
  obtain ⟨⟨x, w1⟩, hx, hf⟩ := bind2 hf
  refine ⟨Z, F, ds, w, _, _, rr, hx, fun v F1 H1 s1 d1 hv => ?_⟩
  cases x with
  | lst xs =>
    cases hf
    obtain ⟨q, vs, rfl, h1, h2⟩ := hv.lst s1.e
    exact ⟨q, vs, rfl, .of h1, (k.go s1 rr.pn).new (rr.step s1 d1) h2.rev⟩
  | _ => cases hf⟩
end
end J
namespace J
open PySem L2
/-! ### calls of built-ins: what they read is not kept -/
def CalS (K : PySem.W.Frag) (r : List V → Hp → VK → Prop) (g : List D → Option D) : Prop := ∀ (Z : Cfg) (F H : Hp) (σ : L2.St) (ds : List Sl) (w : Wd) (as : List D) (d : D) (vs : List V) (Q : VK), R K Z F H σ ds w → DensB K Z.p F H as vs → g as = some d → KD K Z.p F H w d Q → r vs H Q
def CalF (K : PySem.W.Frag) (r : List V → Hp → VK → Prop) (g : List D → Option (List D)) : Prop := ∀ (Z : Cfg) (F H : Hp) (σ : L2.St) (ds : List Sl) (w : Wd) (as xs : List D) (vs : List V) (Q : VK), R K Z F H σ ds w → DensB K Z.p F H as vs → g as = some xs → KF K Z.p F H w xs Q → r vs H Q
def eCal (g : List D → Option D) (f : Ef) : Ev := fun ds w => (f ds w).bind fun a => (g a.1).bind fun d => some (d, a.2)
def fCal (g : List D → Option (List D)) (f : Ef) : Ef := fun ds w => (f ds w).bind fun a => (g a.1).bind fun d => some (d, a.2)
section
variable {X : Cx} {K : PySem.W.Frag} {x : Str} {e : Expr} {es : List Expr} {fs : Ef} {p pos : Pos} {id T : String} {r : List V → Hp → VK → Prop} {g : List D → Option D} {gf : List D → Option (List D)}
theorem cb_of (hs : CalS K r g) (σ : L2.St) (H : Hp) (Q : VK) : canE K (eCal g fs) σ H Q → tCB r (canR K fs) σ H Q := fun ⟨Z, F, ds, w, d, w', rr, hf, k⟩ => by
  obtain ⟨a, ha, hf⟩ := bind2 hf
  obtain ⟨c, hc, hf⟩ := bind2 hf
  cases hf
  exact ⟨Z, F, ds, w, _, _, rr, ha, fun vs F1 H1 s1 d1 hv => hs Z F1 H1 σ ds _ _ _ vs Q (rr.step s1 d1) hv hc (k.go s1)⟩
theorem cbF_of (hs : CalF K r gf) (σ : L2.St) (H : Hp) (Q : VK) : canF K (fCal gf fs) σ H Q → tCB r (canR K fs) σ H Q := fun ⟨Z, F, ds, w, d, w', rr, hf, k⟩ => by
  obtain ⟨a, ha, hf⟩ := bind2 hf
  obtain ⟨c, hc, hf⟩ := bind2 hf
  cases hf
  exact ⟨Z, F, ds, w, _, _, rr, ha, fun vs F1 H1 s1 d1 hv => hs Z F1 H1 σ ds _ _ _ vs Q (rr.step s1 d1) hv hc (k.go s1 rr.pn)⟩
theorem je_bltO (hc : CallR X (.builtin id) r) (hs : CalS X.K r g) (hg : Gl X x) (hm : X.mg x = none) (hv : bootBuiltins x = some (.builtin id)) (ha : JR X (e :: es) fs) (hn : x ≠ "__name__" := by decide) (hdb : (x == ("__debug__" : Str)) = false := by decide)
    (he : starEach (e :: es) X.env = (false, eval e X.env) :: starEach es X.env := by rfl) (hpl : (backTo pos (starEach es X.env)).any (·.1) = false := by rfl) : JE X (.Call (.Name x p) (e :: es) [] pos) (eCal g fs) :=
  ⟨pe_weak (pe_callB hc hg hm hv ha.run hn hdb he hpl) (cb_of hs)⟩
theorem je_typO (hc : CallR X (.type T) r) (hs : CalS X.K r g) (hg : Gl X x) (hm : X.mg x = none) (hv : bootBuiltins x = some (.type T)) (ha : JR X (e :: es) fs) (hn : x ≠ "__name__" := by decide) (hdb : (x == ("__debug__" : Str)) = false := by decide)
    (he : starEach (e :: es) X.env = (false, eval e X.env) :: starEach es X.env := by rfl) (hpl : (backTo pos (starEach es X.env)).any (·.1) = false := by rfl) : JE X (.Call (.Name x p) (e :: es) [] pos) (eCal g fs) :=
  ⟨pe_weak (pe_callTy hc hg hm hv ha.run hn hdb he hpl) (cb_of hs)⟩
theorem jf_bltO (hc : CallR X (.builtin id) r) (hs : CalF X.K r gf) (hg : Gl X x) (hm : X.mg x = none) (hv : bootBuiltins x = some (.builtin id)) (ha : JR X (e :: es) fs) (hn : x ≠ "__name__" := by decide) (hdb : (x == ("__debug__" : Str)) = false := by decide)
    (he : starEach (e :: es) X.env = (false, eval e X.env) :: starEach es X.env := by rfl) (hpl : (backTo pos (starEach es X.env)).any (·.1) = false := by rfl) : JF X (.Call (.Name x p) (e :: es) [] pos) (fCal gf fs) :=
  ⟨pe_weak (pe_callB hc hg hm hv ha.run hn hdb he hpl) (cbF_of hs)⟩
theorem jf_typO (hc : CallR X (.type T) r) (hs : CalF X.K r gf) (hg : Gl X x) (hm : X.mg x = none) (hv : bootBuiltins x = some (.type T)) (ha : JR X (e :: es) fs) (hn : x ≠ "__name__" := by decide) (hdb : (x == ("__debug__" : Str)) = false := by decide)
    (he : starEach (e :: es) X.env = (false, eval e X.env) :: starEach es X.env := by rfl) (hpl : (backTo pos (starEach es X.env)).any (·.1) = false := by rfl) : JF X (.Call (.Name x p) (e :: es) [] pos) (fCal gf fs) :=
  ⟨pe_weak (pe_callTy hc hg hm hv ha.run hn hdb he hpl) (cbF_of hs)⟩
end
/-! ### the built-ins -/
theorem densB1 {K : PySem.W.Frag} {p : Addr} {F H : Hp} {d : D} {vs : List V} (h : DensB K p F H [d] vs) : ∃ v, vs = [v] ∧ DenB K p F H d v := by
  obtain ⟨v, r, rfl, h1, h2⟩ := h
  cases (show r = [] from h2)
  exact ⟨v, rfl, h1⟩
theorem densB2 {K : PySem.W.Frag} {p : Addr} {F H : Hp} {d e : D} {vs : List V} (h : DensB K p F H [d, e] vs) : ∃ v u, vs = [v, u] ∧ DenB K p F H d v ∧ DenB K p F H e u := by
  obtain ⟨v, r, rfl, h1, h2⟩ := h
  obtain ⟨u, rfl, h3⟩ := densB1 h2
  exact ⟨v, u, rfl, h1, h3⟩
def gLen : List D → Option D
  | [.lst xs] => some (.int (xs.length : Int))
  | [.tup xs] => some (.int (xs.length : Int))
  | [.str s] => if s.length ≤ line then some (.int (s.length : Int)) else none
  | _ => none
def rLenJ (K : PySem.W.Frag) : List V → Hp → VK → Prop := fun xs H Q => (∃ p ys, xs = [.ref p] ∧ (SqL K H p ys ∨ SqT K H p ys) ∧ Q (.int ys.length) H) ∨ (∃ z, xs = [.str z] ∧ z.length ≤ sizeLine ∧ Q (.int z.length) H)
section
variable {K : PySem.W.Frag}
theorem s_len : CalS K (rLenJ K) gLen := fun Z F H σ ds w as d vs Q r h hg k => by
  unfold gLen at hg
  split at hg
  · cases hg
    obtain ⟨v, rfl, hv⟩ := densB1 h
    obtain ⟨q, us, rfl, h1, h2⟩ := hv.lst r.ex
    exact .inl ⟨q, us, rfl, .inl (.of h1), by rw [h2.len]; exact k _ F H r.stp r.dr den_int⟩
  · cases hg
    obtain ⟨v, rfl, hv⟩ := densB1 h
    obtain ⟨q, us, rfl, h1, h2⟩ := hv.tup
    exact .inl ⟨q, us, rfl, .inr (same_t h1 r.ex), by rw [h2.len]; exact k _ F H r.stp r.dr den_int⟩
  · split at hg
    · rename_i hl
      cases hg
      obtain ⟨v, rfl, hv⟩ := densB1 h
      cases hv.str
      exact .inr ⟨_, rfl, sz_of hl, k _ F H r.stp r.dr den_int⟩
    · cases hg
  · cases hg
def gInt2 (f : Int → Int → Int) : List D → Option D
  | [.int i, .int j] => some (.int (f i j))
  | _ => none
theorem s_int2 (f : Int → Int → Int) : CalS K (fun xs H Q => ∃ i j, xs = [.int i, .int j] ∧ Q (.int (f i j)) H) (gInt2 f) := fun Z F H σ ds w as d vs Q r h hg k => by
  unfold gInt2 at hg
  split at hg
  · cases hg
    obtain ⟨v, u, rfl, h1, h2⟩ := densB2 h
    cases h1.int
    cases h2.int
    exact ⟨_, _, rfl, k _ F H r.stp r.dr den_int⟩
  · cases hg
def gInt : List D → Option D
  | [.int i] => some (.int i)
  | [.bl b] => some (.int (if b then 1 else 0))
  | _ => none
theorem s_int : CalS K (fun xs H Q => (∃ i, xs = [.int i] ∧ Q (.int i) H) ∨ ∃ k, xs = [.bl k] ∧ Q (.int (if k then 1 else 0)) H) gInt := fun Z F H σ ds w as d vs Q r h hg k => by
  unfold gInt at hg
  split at hg
  · cases hg
    obtain ⟨v, rfl, h1⟩ := densB1 h
    cases h1.int
    exact .inl ⟨_, rfl, k _ F H r.stp r.dr den_int⟩
  · cases hg
    obtain ⟨v, rfl, h1⟩ := densB1 h
    cases h1.bl
    exact .inr ⟨_, rfl, k _ F H r.stp r.dr den_int⟩
  · cases hg
/-! lists of ints, of truths -/
def intsOf : List D → Option (List Int)
  | [] => some []
  | .int i :: r => (intsOf r).bind fun l => some (i :: l)
  | _ :: _ => none
def blsOf : List D → Option (List Bool)
  | [] => some []
  | .bl i :: r => (blsOf r).bind fun l => some (i :: l)
  | _ :: _ => none
theorem intsOf_eq : ∀ {ds : List D} {ns : List Int}, intsOf ds = some ns → ds = ns.map D.int
  | [], ns, h => by cases h; rfl
  | .int i :: r, ns, h => by
    obtain ⟨l, h1, h2⟩ := bind2 (show (intsOf r).bind _ = _ from h)
    cases h2
    rw [List.map_cons, intsOf_eq h1]
  | .non :: r, ns, h => by cases h
  | .bl _ :: r, ns, h => by cases h
  | .str _ :: r, ns, h => by cases h
  | .ty _ :: r, ns, h => by cases h
  | .draw :: r, ns, h => by cases h
  | .tup _ :: r, ns, h => by cases h
  | .lst _ :: r, ns, h => by cases h
theorem intsOf_map : ∀ ns : List Int, intsOf (ns.map D.int) = some ns
  | [] => rfl
  | n :: ns => by
    show (intsOf (ns.map D.int)).bind _ = _
    rw [intsOf_map ns]
    rfl
theorem blsOf_eq : ∀ {ds : List D} {ns : List Bool}, blsOf ds = some ns → ds = ns.map D.bl
  | [], ns, h => by cases h; rfl
  | .bl i :: r, ns, h => by
    obtain ⟨l, h1, h2⟩ := bind2 (show (blsOf r).bind _ = _ from h)
    cases h2
    rw [List.map_cons, blsOf_eq h1]
  | .non :: r, ns, h => by cases h
  | .int _ :: r, ns, h => by cases h
  | .str _ :: r, ns, h => by cases h
  | .ty _ :: r, ns, h => by cases h
  | .draw :: r, ns, h => by cases h
  | .tup _ :: r, ns, h => by cases h
  | .lst _ :: r, ns, h => by cases h
theorem blsOf_map : ∀ ns : List Bool, blsOf (ns.map D.bl) = some ns
  | [] => rfl
  | n :: ns => by
    show (blsOf (ns.map D.bl)).bind _ = _
    rw [blsOf_map ns]
    rfl
theorem lstInts {p : Addr} {F H : Hp} {xs : List D} {ns : List Int} {v : V} (h : DenB K p F H (.lst xs) v) (e : Same F H) (hi : intsOf xs = some ns) : ∃ a, v = .ref a ∧ SqL K H a (ns.map V.int) := by
  obtain ⟨q, us, rfl, h1, h2⟩ := h.lst e
  rw [intsOf_eq hi] at h2
  rw [h2.ints'] at h1
  exact ⟨q, rfl, .of h1⟩
theorem lstBls {p : Addr} {F H : Hp} {xs : List D} {ns : List Bool} {v : V} (h : DenB K p F H (.lst xs) v) (e : Same F H) (hi : blsOf xs = some ns) : ∃ a, v = .ref a ∧ SqL K H a (ns.map V.bl) := by
  obtain ⟨q, us, rfl, h1, h2⟩ := h.lst e
  rw [blsOf_eq hi] at h2
  rw [h2.bls'] at h1
  exact ⟨q, rfl, .of h1⟩
def gSum : List D → Option D
  | [.lst xs] => (intsOf xs).bind fun ns => some (.int ns.sum)
  | _ => none
theorem s_sum : CalS K (rSum K) gSum := fun Z F H σ ds w as d vs Q r h hg k => by
  unfold gSum at hg
  split at hg
  · obtain ⟨ns, h1, h2⟩ := bind2 hg
    cases h2
    obtain ⟨v, rfl, hv⟩ := densB1 h
    obtain ⟨a, rfl, h3⟩ := lstInts hv r.ex h1
    exact ⟨a, ns, rfl, h3, k _ F H r.stp r.dr den_int⟩
  · cases hg
def gAll : List D → Option D
  | [.lst xs] => (blsOf xs).bind fun ns => some (.bl (ns.all id))
  | _ => none
def gAny : List D → Option D
  | [.lst xs] => (blsOf xs).bind fun ns => some (.bl (ns.any id))
  | _ => none
theorem s_all : CalS K (rAll K) gAll := fun Z F H σ ds w as d vs Q r h hg k => by
  unfold gAll at hg
  split at hg
  · obtain ⟨ns, h1, h2⟩ := bind2 hg
    cases h2
    obtain ⟨v, rfl, hv⟩ := densB1 h
    obtain ⟨a, rfl, h3⟩ := lstBls hv r.ex h1
    exact ⟨a, ns, rfl, h3, k _ F H r.stp r.dr den_bl⟩
  · cases hg
theorem s_any : CalS K (rAny K) gAny := fun Z F H σ ds w as d vs Q r h hg k => by
  unfold gAny at hg
  split at hg
  · obtain ⟨ns, h1, h2⟩ := bind2 hg
    cases h2
    obtain ⟨v, rfl, hv⟩ := densB1 h
    obtain ⟨a, rfl, h3⟩ := lstBls hv r.ex h1
    exact ⟨a, ns, rfl, h3, k _ F H r.stp r.dr den_bl⟩
  · cases hg
/-- the greatest, the least of some ints -/
def maxI : List Int → Int
  | [] => 0
  | n :: ns => ns.foldl max n
def minI : List Int → Int
  | [] => 0
  | n :: ns => ns.foldl min n
theorem maxI_spec : ∀ (ns : List Int) (n : Int), (ns.foldl max n ∈ n :: ns) ∧ ∀ y ∈ n :: ns, y ≤ ns.foldl max n
  | [], n => ⟨by simp, by simp⟩
  | m :: ns, n => by
    obtain ⟨h1, h2⟩ := maxI_spec ns (max n m)
    rw [List.foldl_cons]
    refine ⟨?_, fun y hy => ?_⟩
    · rcases List.mem_cons.mp h1 with e | e
      · rw [e]
        rcases Int.le_total n m with h | h
        · rw [Int.max_eq_right h]; simp
        · rw [Int.max_eq_left h]; simp
      · exact List.mem_cons_of_mem _ (List.mem_cons_of_mem _ e)
    · have h3 := h2 (max n m) (by simp)
      rcases List.mem_cons.mp hy with e | e
      · subst e; omega
      · rcases List.mem_cons.mp e with e | e
        · subst e; omega
        · exact h2 y (List.mem_cons_of_mem _ e)
theorem minI_spec : ∀ (ns : List Int) (n : Int), (ns.foldl min n ∈ n :: ns) ∧ ∀ y ∈ n :: ns, ns.foldl min n ≤ y
  | [], n => ⟨by simp, by simp⟩
  | m :: ns, n => by
    obtain ⟨h1, h2⟩ := minI_spec ns (min n m)
    rw [List.foldl_cons]
    refine ⟨?_, fun y hy => ?_⟩
    · rcases List.mem_cons.mp h1 with e | e
      · rw [e]
        rcases Int.le_total n m with h | h
        · rw [Int.min_eq_left h]; simp
        · rw [Int.min_eq_right h]; simp
      · exact List.mem_cons_of_mem _ (List.mem_cons_of_mem _ e)
    · have h3 := h2 (min n m) (by simp)
      rcases List.mem_cons.mp hy with e | e
      · subst e; omega
      · rcases List.mem_cons.mp e with e | e
        · subst e; omega
        · exact h2 y (List.mem_cons_of_mem _ e)
theorem maxI_eq {ns : List Int} {m : Int} (h : m ∈ ns) (hm : ∀ y ∈ ns, y ≤ m) : m = maxI ns := by
  cases ns with
  | nil => cases h
  | cons n ns =>
    obtain ⟨h1, h2⟩ := maxI_spec ns n
    exact Int.le_antisymm (h2 m h) (hm _ h1)
theorem minI_eq {ns : List Int} {m : Int} (h : m ∈ ns) (hm : ∀ y ∈ ns, m ≤ y) : m = minI ns := by
  cases ns with
  | nil => cases h
  | cons n ns =>
    obtain ⟨h1, h2⟩ := minI_spec ns n
    exact Int.le_antisymm (hm _ h1) (h2 m h)
def gMaxL : List D → Option D
  | [.lst xs] => (intsOf xs).bind fun ns => if 0 < ns.length then some (.int (maxI ns)) else none
  | _ => none
def gMinL : List D → Option D
  | [.lst xs] => (intsOf xs).bind fun ns => if 0 < ns.length then some (.int (minI ns)) else none
  | _ => none
theorem s_maxL : CalS K (rMax K) gMaxL := fun Z F H σ ds w as d vs Q r h hg k => by
  unfold gMaxL at hg
  split at hg
  · obtain ⟨ns, h1, h2⟩ := bind2 hg
    split at h2
    · rename_i hp
      cases h2
      obtain ⟨v, rfl, hv⟩ := densB1 h
      obtain ⟨a, rfl, h3⟩ := lstInts hv r.ex h1
      exact ⟨a, ns, rfl, h3, hp, fun m hm hy => by rw [maxI_eq hm hy]; exact k _ F H r.stp r.dr den_int⟩
    · cases h2
  · cases hg
theorem s_minL : CalS K (rMin K) gMinL := fun Z F H σ ds w as d vs Q r h hg k => by
  unfold gMinL at hg
  split at hg
  · obtain ⟨ns, h1, h2⟩ := bind2 hg
    split at h2
    · rename_i hp
      cases h2
      obtain ⟨v, rfl, hv⟩ := densB1 h
      obtain ⟨a, rfl, h3⟩ := lstInts hv r.ex h1
      exact ⟨a, ns, rfl, h3, hp, fun m hm hy => by rw [minI_eq hm hy]; exact k _ F H r.stp r.dr den_int⟩
    · cases h2
  · cases hg
def f2max (i j : Int) : Int := if j > i then j else i
def f2min (i j : Int) : Int := if j < i then j else i
def gMax : List D → Option D
  | [.int i, .int j] => some (.int (f2max i j))
  | as => gMaxL as
def gMin : List D → Option D
  | [.int i, .int j] => some (.int (f2min i j))
  | as => gMinL as
theorem s_max : CalS K (fun xs H Q => (∃ i j, xs = [.int i, .int j] ∧ Q (.int (f2max i j)) H) ∨ rMax K xs H Q) gMax := fun Z F H σ ds w as d vs Q r h hg k => by
  unfold gMax at hg
  split at hg
  · cases hg
    exact .inl (s_int2 f2max Z F H σ ds w _ _ vs Q r h rfl k)
  · exact .inr (s_maxL Z F H σ ds w _ _ vs Q r h hg k)
theorem s_min : CalS K (fun xs H Q => (∃ i j, xs = [.int i, .int j] ∧ Q (.int (f2min i j)) H) ∨ rMin K xs H Q) gMin := fun Z F H σ ds w as d vs Q r h hg k => by
  unfold gMin at hg
  split at hg
  · cases hg
    exact .inl (s_int2 f2min Z F H σ ds w _ _ vs Q r h rfl k)
  · exact .inr (s_minL Z F H σ ds w _ _ vs Q r h hg k)
/-- list(x), tuple(x) -/
def gfList : List D → Option (List D)
  | [.lst xs] => some xs
  | [.tup xs] => some xs
  | _ => none
theorem s_list : CalF K (fun xs H Q => ∃ p ys, xs = [.ref p] ∧ (SqL K H p ys ∨ SqT K H p ys) ∧ ∀ l, H l = none → Q (.ref l) (upd H l (.lst ys))) gfList := fun Z F H σ ds w as xs vs Q r h hg k => by
  unfold gfList at hg
  split at hg
  · cases hg
    obtain ⟨v, rfl, hv⟩ := densB1 h
    obtain ⟨q, us, rfl, h1, h2⟩ := hv.lst r.ex
    exact ⟨q, us, rfl, .inl (.of h1), k.new r h2⟩
  · cases hg
    obtain ⟨v, rfl, hv⟩ := densB1 h
    obtain ⟨q, us, rfl, h1, h2⟩ := hv.tup
    exact ⟨q, us, rfl, .inr (same_t h1 r.ex), k.new r h2⟩
  · cases hg
def gTuple : List D → Option D
  | [.lst xs] => some (.tup xs)
  | [.tup xs] => some (.tup xs)
  | _ => none
theorem s_tuple : CalS K (fun xs H Q => ∃ p ys, xs = [.ref p] ∧ ((SqL K H p ys ∧ ∀ l, H l = none → Q (.ref l) (upd H l (.tup ys))) ∨ (SqT K H p ys ∧ Q (.ref p) H))) gTuple := fun Z F H σ ds w as d vs Q r h hg k => by
  unfold gTuple at hg
  split at hg
  · cases hg
    obtain ⟨v, rfl, hv⟩ := densB1 h
    obtain ⟨q, us, rfl, h1, h2⟩ := hv.lst r.ex
    refine ⟨q, us, rfl, .inl ⟨.of h1, fun t ht => ?_⟩⟩
    obtain ⟨s4, d4⟩ := r.new (o := .tup us) ht
    exact k _ _ _ s4 d4 (den_tup (.inl upd_same) (h2.mono s4.f))
  · cases hg
    obtain ⟨v, rfl, hv⟩ := densB1 h
    obtain ⟨q, us, rfl, h1, h2⟩ := hv.tup
    exact ⟨q, us, rfl, .inr ⟨same_t h1 r.ex, k _ F H r.stp r.dr (den_tup h1 h2)⟩⟩
  · cases hg
/-- sorted(x) of ints -/
def sortI (ns : List Int) : List Int := ns.mergeSort (fun a b => decide (a ≤ b))
theorem sortI_perm (ns : List Int) : (sortI ns).Perm ns := List.mergeSort_perm ns _
theorem sortI_pair (ns : List Int) : (sortI ns).Pairwise (· ≤ ·) := by
  have h := List.pairwise_mergeSort (le := fun a b : Int => decide (a ≤ b)) (fun a b c h1 h2 => by simp at h1 h2 ⊢; omega) (fun a b => by simp; omega) ns
  exact h.imp fun h => of_decide_eq_true h
def gfSorted : List D → Option (List D)
  | [.lst xs] => (intsOf xs).bind fun ns => some ((sortI ns).map D.int)
  | _ => none
theorem s_sorted : CalF K (rSortedI K) gfSorted := fun Z F H σ ds w as xs vs Q r h hg k => by
  unfold gfSorted at hg
  split at hg
  · obtain ⟨ns, h1, h2⟩ := bind2 hg
    cases h2
    obtain ⟨v, rfl, hv⟩ := densB1 h
    obtain ⟨a, rfl, h3⟩ := lstInts hv r.ex h1
    refine ⟨a, ns, rfl, h3, fun ns' p hp hs hn => ?_⟩
    have e : ns' = sortI ns := PySem.W.ksm_same (hp.trans (sortI_perm ns).symm) hs (sortI_pair ns)
    rw [e]
    exact k.new r (Dens.ints _) p hn
  · cases hg
/-! isinstance -/
def tyName : D → Option String
  | .non => some "NoneType" | .bl _ => some "bool" | .int _ => some "int" | .str _ => some "str" | .tup _ => some "tuple" | .lst _ => some "list" | _ => none
def isiD (d : D) (n : String) : Option Bool := (tyName d).bind fun t => kitB t n
theorem tyx_of {p : Addr} {F H : Hp} {d : D} {v : V} {t : String} (h : DenB K p F H d v) (e : Same F H) (ht : tyName d = some t) : TyX K H v (.type t) := by
  cases d with
  | non => cases ht; rw [h.non]; exact .base .non
  | bl b => cases ht; rw [h.bl]; exact .base (.bl b)
  | int b => cases ht; rw [h.int]; exact .base (.int b)
  | str b => cases ht; rw [h.str]; exact .base (.str b)
  | tup b =>
    cases ht
    obtain ⟨q, us, rfl, h1, h2⟩ := h.tup
    rcases h1 with h1 | h1 | ⟨o, its, n, h1, h3, _⟩
    · exact .base (.tup (e _ _ h1))
    · rcases h1 with h1 | ⟨o, h1⟩ <;> cases h1
    · exact .kTuple h1 h3
  | lst b =>
    cases ht
    obtain ⟨q, us, rfl, h1, h2⟩ := h.lst e
    exact .base (.lst h1)
  | ty _ => cases ht
  | draw => cases ht
def gIsi : List D → Option D
  | [d, .ty n] => (isiD d n).bind fun b => some (.bl b)
  | _ => none
theorem s_isi : CalS K (rIsi K) gIsi := fun Z F H σ ds w as d vs Q r h hg k => by
  unfold gIsi at hg
  split at hg
  · rename_i d0 n0
    obtain ⟨b, h1, h2⟩ := bind2 hg
    cases h2
    obtain ⟨t, h3, h4⟩ := bind2 h1
    obtain ⟨v, u, rfl, hv, hu⟩ := densB2 h
    have hu' : u = .ty n0 := by
      rcases hu with hu | ⟨_, _, q, _⟩
      · unfold Den at hu
        exact hu
      · cases q
    subst hu'
    exact ⟨v, _, _, _, b, rfl, .ty n0, tyx_of hv r.ex h3, kit_ty h4, k _ F H r.stp r.dr den_bl⟩
  · cases hg
end
section
variable {X : Cx} {K : PySem.W.Frag} {e : Expr} {es : List Expr} {fs : Ef} {p pos : Pos} {f : Ev}
def eLen := eCal gLen
theorem je_len (hm : X.mg "len" = none) (hg : Gl X "len") (ha : JR X [e] fs) (he : starEach [e] X.env = (false, eval e X.env) :: starEach [] X.env := by rfl) : JE X (.Call (.Name "len" p) [e] [] pos) (eLen fs) := je_bltO (CallR.or call_len_seq call_len_str) s_len hg hm boot_len ha (by decide) (by decide) he rfl
def eMin := eCal gMin
def eMax := eCal gMax
theorem je_min (hc : X.calm = true) (hm : X.mg "min" = none) (hg : Gl X "min") (ha : JR X (e :: es) fs) (he : starEach (e :: es) X.env = (false, eval e X.env) :: starEach es X.env := by rfl) (hpl : (backTo pos (starEach es X.env)).any (·.1) = false := by rfl) : JE X (.Call (.Name "min" p) (e :: es) [] pos) (eMin fs) := je_bltO (CallR.or (call_min2 hc) (cr_min hc)) s_min hg hm (by decide +kernel) ha (by decide) (by decide) he hpl
theorem je_max (hc : X.calm = true) (hm : X.mg "max" = none) (hg : Gl X "max") (ha : JR X (e :: es) fs) (he : starEach (e :: es) X.env = (false, eval e X.env) :: starEach es X.env := by rfl) (hpl : (backTo pos (starEach es X.env)).any (·.1) = false := by rfl) : JE X (.Call (.Name "max" p) (e :: es) [] pos) (eMax fs) := je_bltO (CallR.or (call_max2 hc) (cr_max hc)) s_max hg hm (by decide +kernel) ha (by decide) (by decide) he hpl
def eInt := eCal gInt
theorem je_intc (hm : X.mg "int" = none) (hg : Gl X "int") (ha : JR X [e] fs) (he : starEach [e] X.env = (false, eval e X.env) :: starEach [] X.env := by rfl) : JE X (.Call (.Name "int" p) [e] [] pos) (eInt fs) := je_typO call_int1 s_int hg hm (by decide +kernel) ha (by decide) (by decide) he rfl
def eSum := eCal gSum
theorem je_sum (hc : X.calm = true) (hm : X.mg "sum" = none) (hg : Gl X "sum") (ha : JR X [e] fs) (he : starEach [e] X.env = (false, eval e X.env) :: starEach [] X.env := by rfl) : JE X (.Call (.Name "sum" p) [e] [] pos) (eSum fs) := je_bltO (cr_sum hc) s_sum hg hm (by decide +kernel) ha (by decide) (by decide) he rfl
def eAll := eCal gAll
theorem je_all (hc : X.calm = true) (hm : X.mg "all" = none) (hg : Gl X "all") (ha : JR X [e] fs) (he : starEach [e] X.env = (false, eval e X.env) :: starEach [] X.env := by rfl) : JE X (.Call (.Name "all" p) [e] [] pos) (eAll fs) := je_bltO (cr_all hc) s_all hg hm (by decide +kernel) ha (by decide) (by decide) he rfl
def eAny := eCal gAny
theorem je_any (hc : X.calm = true) (hm : X.mg "any" = none) (hg : Gl X "any") (ha : JR X [e] fs) (he : starEach [e] X.env = (false, eval e X.env) :: starEach [] X.env := by rfl) : JE X (.Call (.Name "any" p) [e] [] pos) (eAny fs) := je_bltO (cr_any hc) s_any hg hm (by decide +kernel) ha (by decide) (by decide) he rfl
def fList := fCal gfList
theorem jf_list (hm : X.mg "list" = none) (hg : Gl X "list") (ha : JR X [e] fs) (he : starEach [e] X.env = (false, eval e X.env) :: starEach [] X.env := by rfl) : JF X (.Call (.Name "list" p) [e] [] pos) (fList fs) := jf_typO call_list_of s_list hg hm PyProof.Rows.boot_list ha (by decide) (by decide) he rfl
def eTuple := eCal gTuple
theorem je_tuple (hm : X.mg "tuple" = none) (hg : Gl X "tuple") (ha : JR X [e] fs) (he : starEach [e] X.env = (false, eval e X.env) :: starEach [] X.env := by rfl) : JE X (.Call (.Name "tuple" p) [e] [] pos) (eTuple fs) := je_typO call_tuple_of s_tuple hg hm PyProof.Rows.boot_tuple ha (by decide) (by decide) he rfl
def fSorted := fCal gfSorted
theorem jf_sorted (hm : X.mg "sorted" = none) (hg : Gl X "sorted") (ha : JR X [e] fs) (he : starEach [e] X.env = (false, eval e X.env) :: starEach [] X.env := by rfl) : JF X (.Call (.Name "sorted" p) [e] [] pos) (fSorted fs) := jf_bltO cr_sortedI s_sorted hg hm (by decide +kernel) ha (by decide) (by decide) he rfl
def eIsi := eCal gIsi
theorem je_isi {c : Expr} (hm : X.mg "isinstance" = none) (hg : Gl X "isinstance") (ha : JR X [e, c] fs) (he : starEach [e, c] X.env = (false, eval e X.env) :: starEach [c] X.env := by rfl) (hpl : (backTo pos (starEach [c] X.env)).any (·.1) = false := by rfl) : JE X (.Call (.Name "isinstance" p) [e, c] [] pos) (eIsi fs) := je_bltO call_isi s_isi hg hm (by decide +kernel) ha (by decide) (by decide) he hpl
/-- isinstance(x, (T, U)) -/
def eIsi2 (f : Ev) (n m : String) : Ev := fun ds w => (f ds w).bind fun a => (isiD a.1 n).bind fun b => (isiD a.1 m).bind fun c => some (.bl (b || c), a.2)
theorem je_isi2 {c1 c2 : Expr} {n m : String} {kt : Nat} {pt : Pos} (hm : X.mg "isinstance" = none) (hg : Gl X "isinstance") (ha : JB X e f) (h1 : PE X c1 (tC (.ty n))) (h2 : PE X c2 (tC (.ty m)))
    (he : starEach [e, .Tuple [c1, c2] kt pt] X.env = (false, eval e X.env) :: starEach [.Tuple [c1, c2] kt pt] X.env := by rfl) (he2 : starEach [.Tuple [c1, c2] kt pt] X.env = (false, eval (.Tuple [c1, c2] kt pt) X.env) :: starEach [] X.env := by rfl)
    (hc1 : starEach [c1, c2] X.env = (false, eval c1 X.env) :: starEach [c2] X.env := by rfl) (hc2 : starEach [c2] X.env = (false, eval c2 X.env) :: starEach [] X.env := by rfl)
    (hpl : (backTo pos (starEach [.Tuple [c1, c2] kt pt] X.env)).any (·.1) = false := by rfl) : JE X (.Call (.Name "isinstance" p) [e, .Tuple [c1, c2] kt pt] [] pos) (eIsi2 f n m) :=
  ⟨pe_weak (pe_callB call_isiT hg hm (by decide +kernel) (pa_cons ha.run (pa_cons (pe_tup (pa_cons h1 (pa_cons h2 pa_nil hc2) hc1)) pa_nil he2) he) (by decide) (by decide) he hpl) fun σ H Q ⟨Z, F, ds, w, d, w', rr, hf, k⟩ => by
    obtain ⟨⟨a, w1⟩, ha, hf⟩ := bind2 hf
    obtain ⟨b, hb, hf⟩ := bind2 hf
    obtain ⟨c, hc, hf⟩ := bind2 hf
    cases hf
    refine ⟨Z, F, ds, w, _, _, rr, ha, fun v F1 H1 s1 d1 hv => ⟨by show 2 ≤ sizeLine; decide, fun t ht => ?_⟩⟩
    obtain ⟨t1, hb1, hb2⟩ := bind2 hb
    obtain ⟨t2, hc1, hc2⟩ := bind2 hc
    obtain ⟨s2, d2⟩ := (rr.step s1 d1).new (o := .tup [.ty n, .ty m]) ht
    rw [hb1] at hc1
    cases hc1
    refine ⟨v, t, [.ty n, .ty m], _, [.type n, .type m], b || c, rfl, upd_same, .cons (.ty n) (.cons (.ty m) .nil), tyx_of (hv.step s2) s2.e hb1, ?_, k _ _ _ (s1.trans s2) d2 den_bl⟩
    exact kitAny_cons (kit_ty hb2) (fun hbf => by rw [hbf]; exact kitAny_cons (kit_ty hc2) (fun hcf => by rw [hcf]; rfl) (fun hct => by rw [hct]; rfl)) (fun hbt => by rw [hbt]; rfl)⟩
/-! ### list(range(a, b, c)) -/
def rgD (a c : Int) (n : Nat) : List D := (List.range n).map fun i => D.int (a + (i : Nat) * c)
def rgVc (a c : Int) (n : Nat) : List V := (List.range n).map fun i => V.int (a + (i : Nat) * c)
theorem dens_rg {p : Addr} {F : Hp} (a c : Int) (n : Nat) : Dens K p F (rgD a c n) (rgVc a c n) := by
  have h := Dens.ints (K := K) (p := p) (F := F) ((List.range n).map fun i => a + (i : Nat) * c)
  rw [List.map_map, List.map_map] at h
  exact h
theorem vals_rgc {a c : Int} {n : Nat} {acc : Array Value} (h : ItemsOf (fun i v => ∃ t, v = .int (a + i * c) t) acc n) : Vals (rgVc a c n) acc.toList := by
  have e : acc.toList.length = n := by rw [Array.length_toList]; exact h.1
  unfold rgVc
  rw [← e]
  refine vals_of_get acc.toList _ fun j u hj => ?_
  obtain ⟨t, rfl⟩ := h.2 j u (by rw [← hj, Array.getElem?_toList])
  exact ⟨t, rfl⟩
/-- how many there are: of a range with a step above 0 -/
def rgN (a b c : Int) : Nat := (Builtin.Range.rangeSize a b c).toNat
theorem rgN_one (a b : Int) : rgN a b 1 = (b - a).toNat := by
  unfold rgN
  rw [rangeSize_one]
  split <;> omega
def small2 (a b c : Int) : Bool := decide (0 < c ∧ c < 1073741824) && Builtin.Range.small a b c && decide (rgN a b c ≤ line)
theorem rangeSize_nn {a b c : Int} (h : 0 < c) : Builtin.Range.rangeSize a b c = (rgN a b c : Nat) := by
  unfold rgN
  have : 0 ≤ Builtin.Range.rangeSize a b c := by
    unfold Builtin.Range.rangeSize
    rw [if_pos h]
    split
    · have := Int.ediv_nonneg (show 0 ≤ b - a - 1 by omega) (show 0 ≤ c by omega)
      omega
    · omega
  omega
theorem small2_one {a b : Int} (ha : -(2 ^ 62) ≤ a) (ha' : a < 2 ^ 62) (hb : -(2 ^ 62) ≤ b) (hb' : b < 2 ^ 62) (hl : (b - a).toNat ≤ line) : small2 a b 1 = true := by
  unfold small2
  rw [rgN_one, PySem.small_one ha ha' hb hb', decide_eq_true hl]
  rfl
def fRg (fa fb fc : Ev) : Ef := fun ds w => (fa ds w).bind fun a => (fb ds a.2).bind fun b => (fc ds b.2).bind fun c => match a.1, b.1, c.1 with
  | .int i, .int j, .int k => if small2 i j k then some (rgD i k (rgN i j k), c.2) else none
  | _, _, _ => none
/-- a range object's numbers -/
structure PRc (X : Cx) (e : Expr) (f : Ef) : Prop where
  run : ∀ (pins : List (Addr × Obj)) (s : Shared) (σ : L2.St) (H : Hp) (Q : Int → Int → Int → Hp → Prop), Inv X pins σ H s →
    (∃ Z F ds w xs w', R X.K Z F H σ ds w ∧ f ds w = some (xs, w') ∧ ∀ i j k F' H', Stp Z.p F H F' H' → Dr Z.p F' H' w' → small2 i j k = true → xs = rgD i k (rgN i j k) → Q i j k H') →
    wpAny (model X.prog X.w) X.A (eval e X.env) (fun x s' => ∃ r a b c t u v H', x = .ref r ∧ IsRange s'.heap r a b c t u v ∧ Inv X pins σ H' s' ∧ Q a b c H') X.xe s
section
variable {X : Cx} {a b c e : Expr} {fa fb fc : Ev} {f : Ef} {p pos : Pos}
theorem prc_3 (hg : Gl X "range") (hm : X.mg "range" = none) (ha : JB X a fa) (hb : JB X b fb) (hc : JB X c fc)
    (na : starEach [a, b, c] X.env = (false, eval a X.env) :: starEach [b, c] X.env := by rfl) (nb : starEach [b, c] X.env = (false, eval b X.env) :: starEach [c] X.env := by rfl) (nc : starEach [c] X.env = (false, eval c X.env) :: starEach [] X.env := by rfl)
    (hpl : (backTo pos (starEach [b, c] X.env)).any (·.1) = false := by rfl) : PRc X (.Call (.Name "range" p) [a, b, c] [] pos) (fRg fa fb fc) := ⟨by
  rintro pins s σ H Q I ⟨Z, F, ds, w, xs, w', rr, hf, k⟩
  obtain ⟨⟨x, w1⟩, hx, hf⟩ := bind2 hf
  obtain ⟨⟨y, w2⟩, hy, hf⟩ := bind2 hf
  obtain ⟨⟨z, w3⟩, hz, hf⟩ := bind2 hf
  refine PyProof.Rows.Call_ (ld_blt I hg hm PyProof.Rows.boot_range (PyProof.Rows.callWith_type1 (thn ((pa_cons ha.run (pa_cons hb.run (pa_cons hc.run pa_nil nc) nb) na).run pos pins s σ H (fun vs H1 => ∃ i j l, vs = [.int i, .int j, .int l] ∧ small2 i j l = true ∧ Q i j l H1) I ?_) fun us s1 ⟨vs, H1, I1, r1, q1⟩ => ?_) na hpl))
  · refine ⟨Z, F, ds, w, _, _, rr, hx, fun v F1 H1 s1 d1 hv => ⟨Z, F1, ds, _, _, _, rr.step s1 d1, hy, fun u F2 H2 s2 d2 hu => ⟨Z, F2, ds, _, _, _, (rr.step s1 d1).step s2 d2, hz, fun t F3 H3 s3 d3 ht => ?_⟩⟩⟩
    cases x <;> first | cases hf | skip
    cases y <;> first | cases hf | skip
    cases z <;> first | cases hf | skip
    dsimp only at hf
    split at hf
    · rename_i hs
      cases hf
      exact ⟨_, _, _, by rw [hv.int, hu.int, ht.int], hs, k _ _ _ F3 H3 ((s1.trans s2).trans s3) d3 hs rfl⟩
    · cases hf
  · obtain ⟨i, j, l, rfl, hs, q⟩ := q1
    have h0 := Bool.and_eq_true_iff.mp (Bool.and_eq_true_iff.mp hs).1
    have h1 : 0 < l ∧ l < 1073741824 := of_decide_eq_true h0.1
    cases r1 with
    | cons r rr =>
      cases rr with
      | cons r' rr =>
        cases rr with
        | cons r'' rr =>
          cases rr
          obtain ⟨t, rfl⟩ := r
          obtain ⟨t', rfl⟩ := r'
          obtain ⟨t'', rfl⟩ := r''
          exact PySem.call_range_3 (by omega) ⟨_, i, j, l, _, _, _, H1, rfl, IsRange.new _ _ _ _ _ _ _, I1.kept (t' := s1.toks) fun b u e => Heap.get?_push_of_some _ e, q⟩ (.inl (PyProof.noPylong_small (by omega)))⟩
theorem prc_2 (hg : Gl X "range") (hm : X.mg "range" = none) (ha : JB X a fa) (hb : JB X b fb)
    (na : starEach [a, b] X.env = (false, eval a X.env) :: starEach [b] X.env := by rfl) (nb : starEach [b] X.env = (false, eval b X.env) :: starEach [] X.env := by rfl)
    (hpl : (backTo pos (starEach [b] X.env)).any (·.1) = false := by rfl) : PRc X (.Call (.Name "range" p) [a, b] [] pos) (fRg fa fb (eC (.int 1))) := ⟨by
  rintro pins s σ H Q I ⟨Z, F, ds, w, xs, w', rr, hf, k⟩
  obtain ⟨⟨x, w1⟩, hx, hf⟩ := bind2 hf
  obtain ⟨⟨y, w2⟩, hy, hf⟩ := bind2 hf
  obtain ⟨⟨z, w3⟩, hz, hf⟩ := bind2 hf
  cases hz
  refine thn (prg_2 hg hm ha.run hb.run na nb hpl pins s σ H (fun i j H1 => Q i j 1 H1) I ?_) fun x s' ⟨r, a, b, t, u, v, H', h1, h2, h3, h4⟩ => ⟨r, a, b, 1, t, u, v, H', h1, h2, h3, h4⟩
  refine ⟨Z, F, ds, w, _, _, rr, hx, fun v F1 H1 s1 d1 hv => ⟨Z, F1, ds, _, _, _, rr.step s1 d1, hy, fun u F2 H2 s2 d2 hu => ?_⟩⟩
  cases x <;> first | cases hf | skip
  cases y <;> first | cases hf | skip
  dsimp only at hf
  split at hf
  · rename_i hs
    cases hf
    exact ⟨_, _, hv.int, hu.int, k _ _ _ F2 H2 (s1.trans s2) d2 hs rfl⟩
  · cases hf⟩
theorem prc_1 (hg : Gl X "range") (hm : X.mg "range" = none) (hb : JB X b fb)
    (nb : starEach [b] X.env = (false, eval b X.env) :: starEach [] X.env := by rfl) : PRc X (.Call (.Name "range" p) [b] [] pos) (fRg (eC (.int 0)) fb (eC (.int 1))) := ⟨by
  rintro pins s σ H Q I ⟨Z, F, ds, w, xs, w', rr, hf, k⟩
  obtain ⟨⟨x, w1⟩, hx, hf⟩ := bind2 hf
  obtain ⟨⟨y, w2⟩, hy, hf⟩ := bind2 hf
  obtain ⟨⟨z, w3⟩, hz, hf⟩ := bind2 hf
  cases hx
  cases hz
  refine thn (prg_1 hg hm hb.run nb pins s σ H (fun i j H1 => Q i j 1 H1) I ?_) fun x s' ⟨r, a, b, t, u, v, H', h1, h2, h3, h4⟩ => ⟨r, a, b, 1, t, u, v, H', h1, h2, h3, h4⟩
  refine ⟨Z, F, ds, _, _, _, rr, hy, fun u F2 H2 s2 d2 hu => ?_⟩
  cases y <;> first | cases hf | skip
  dsimp only at hf
  split at hf
  · rename_i hs
    cases hf
    exact ⟨_, hu.int, k _ _ _ F2 H2 s2 d2 hs rfl⟩
  · cases hf⟩
theorem jf_listrg (hc : X.calm = true) (hg : Gl X "list") (hm : X.mg "list" = none) (he : PRc X e f) (na : starEach [e] X.env = (false, eval e X.env) :: starEach [] X.env := by rfl) : JF X (.Call (.Name "list" p) [e] [] pos) f := ⟨⟨fun pins s σ H Q I ⟨Z, F, ds, w, xs, w', rr, hf, k⟩ => by
  refine PyProof.Rows.Call_ (ld_blt I hg hm PyProof.Rows.boot_list (PyProof.Rows.callWith_type1 (PyProof.Rows.args_cons (thn (he.run pins s σ H (fun i j l H1 => small2 i j l = true ∧ ∀ q, H1 q = none → Q (.ref q) (upd H1 q (.lst (rgVc i l (rgN i j l))))) I ⟨Z, F, ds, w, xs, w', rr, hf, fun i j l F1 H1 s1 d1 hs hx => ⟨hs, ?_⟩⟩) fun x s1 ⟨r, a, b, c, t, u, v, H1, ex, hr, I1, ok, q⟩ => PyProof.Rows.args_nil ?_) na) na))
  · subst hx
    exact (k.go s1 rr.pn).new (rr.step s1 d1) (dens_rg _ _ _)
  · subst ex
    have h0 := Bool.and_eq_true_iff.mp ok
    have h1 := Bool.and_eq_true_iff.mp h0.1
    have h2 : 0 < c ∧ c < 1073741824 := of_decide_eq_true h1.1
    have h3 : rgN a b c ≤ line := of_decide_eq_true h0.2
    refine PySem.call_list_range (n := rgN a b c) (I1.ok.hd hc) hr h1.2 (rangeSize_nn h2.1) (Nat.le_trans h3 (by decide)) fun h' tk acc c' hk e' hi => ?_
    refine ⟨.ref s1.heap.objs.size, upd H1 s1.heap.objs.size (.lst (rgVc a c (rgN a b c))), I1.laid hk (Nat.le_refl _) (show ObjOk X.prog X.w _ _ _ (.lst (rgVc a c (rgN a b c))) from ⟨?_, acc.toList, c', vals_rgc hi, ?_⟩), rfl, q _ (I1.hok.fresh (Nat.le_refl _))⟩
    · unfold rgVc; rw [List.length_map, List.length_range]; exact sz_of h3
    · rw [Array.toArray_toList]; exact e'⟩⟩
end
end
end J
namespace JT
open PySem PyProof.Rows L2
/-! enumerate of a tuple -/
theorem enumT_new (q : Addr) (zs : Array Value) (n : Nat) (dd : Option Addr) (sv : Array (Option Value)) :
    Meets (Builtin.«enumerate.__new__» ⟨[.type "enumerate", .ref q], []⟩) (fun _ Z s => s.heap.get? q = some { cls := .type "tuple", dict := dd, data := .seq zs n, slots := sv } ∧
      Z (.ok (.ret (.ref (s.heap.push { cls := .type "tuple_iterator", data := .fields #[.ref q, .int 0 0] }).objs.size)))
        { s with heap := (s.heap.push { cls := .type "tuple_iterator", data := .fields #[.ref q, .int 0 0] }).push { cls := .type "enumerate", data := .fields #[.none, .bool false, .ref s.heap.objs.size, rawInt 0, .none, .none] } }) :=
  .of_wp fun prog w A Z s hz => by
    obtain ⟨hp0, g0, d0, t0, os0⟩ := s
    obtain ⟨hq, hz⟩ := hz
    have hsub0 := sub_enumerate
    have hT0 : Heap.IsTuple (Shared.heap ⟨hp0, g0, d0, t0, os0⟩) q zs := ⟨_, hq, rfl, n, rfl⟩
    wp_walk using AutoSeq1.wpAny_loadPart' hq
    refine wpAny_stack_any fun st => wpAny_pure ?_
    split
    · rename_i c0 _ _ _ _ _
      cases (c0 == Value.type "enumerate")
      · wp_walk using AutoSeq1.wpAny_loadPart' hq, wpAny_pyIter_tuple hT0
        exact ⟨_, rfl, hz⟩
      · wp_walk using AutoSeq1.wpAny_loadPart' hq, wpAny_pyIter_tuple hT0
        exact ⟨_, rfl, hz⟩
    · wp_walk using AutoSeq1.wpAny_loadPart' hq, wpAny_pyIter_tuple hT0
      exact ⟨_, rfl, hz⟩
section
variable {prog : Program} {w : World} {A : Around} {E : Value → Shared → Prop} {s : Shared}
theorem call_enumT {q : Addr} {zs : Array Value} {Q : Value → Shared → Prop} (hL : s.heap.IsTuple q zs)
    (h : ∀ h', IsEnum h' (s.heap.objs.size + 1) s.heap.objs.size 0 .none → h'.IsTupleIter s.heap.objs.size q 0 → h'.objs.size = s.heap.objs.size + 2 →
      (∀ b o, s.heap.get? b = some o → h'.get? b = some o) → Q (.ref (s.heap.objs.size + 1)) { s with heap := h' }) : wpAny (model prog w) A (call (.type "enumerate") [.ref q]) Q E s := by
  obtain ⟨⟨c0, dd, dt, sv⟩, hq, hc0, n, hd0⟩ := hL
  replace hc0 : c0 = .type "tuple" := hc0
  replace hd0 : dt = .seq zs n := hd0
  subst hc0 hd0
  refine callType_new F.called_enumerate (by decide) (F.typeCall_enumerate_1 _) (F.newCall_enumerate_1 _) (fun o0 => F.args_object_init_2 o0 _) F.entry_enumerate_new (enumT_new q zs n dd sv) ⟨hq, ?_⟩
  have hz0 : (s.heap.push { cls := .type "tuple_iterator", data := .fields #[.ref q, .int 0 0] }).objs.size = s.heap.objs.size + 1 := Heap.size_push ..
  show _ ∧ _
  rw [hz0]
  have he0 : IsEnum ((s.heap.push { cls := .type "tuple_iterator", data := .fields #[.ref q, .int 0 0] }).push { cls := .type "enumerate", data := .fields #[.none, .bool false, .ref s.heap.objs.size, rawInt 0, .none, .none] }) (s.heap.objs.size + 1) s.heap.objs.size 0 .none := by
    have z := Heap.get?_push_size (s.heap.push { cls := .type "tuple_iterator", data := .fields #[.ref q, .int 0 0] }) (o := { cls := .type "enumerate", data := .fields #[.none, .bool false, .ref s.heap.objs.size, rawInt 0, .none, .none] }) rfl
    rw [hz0] at z
    exact z
  exact ⟨⟨_, he0, rfl⟩, h _ he0 ⟨_, Heap.get?_push_of_some _ (Heap.get?_push_size _ rfl), rfl, rfl⟩ (by rw [Heap.size_push, hz0]) fun b o x => Heap.get?_push_of_some _ (Heap.get?_push_of_some _ x)⟩
theorem pyNext_enum_endT {e it t : Addr} {i : Nat} {zs : Array Value} {old : Value} {Q : Option Value → Shared → Prop} (hh : A.handled = none) (he : IsEnum s.heap e it i old) (hit : s.heap.IsTupleIter it t i) (hl : s.heap.IsTuple t zs) (hx : zs[i]? = none)
    (hQ : ∀ h', Heap.ExtBut it s.heap h' → Q none { s with heap := h' }) : wpAny (model prog w) A (pyNext (.ref e)) Q E s := by
  have hTy : s.TypeIs (.ref e) "enumerate" := ⟨_, he, rfl⟩
  unfold pyNext
  refine wpAny_bind (wpAny_attempt (wpAny_callSpecial?_slot (name := Str.ofString "__next__") hTy F.slot_enumerate_next (wpAny_call_entry F.slot_enumerate_next hTy F.entry_enumerate_next ?_ (F.args_enumerate_next_1 _))))
  show wpAny _ _ (field (.ref e) 2 >>= _) _ _ _
  refine wpAny_bind (wpAny_field he rfl (x := .ref it) rfl (wpAny_bind (wpAny_nextOf_tuple_end hh hit hl hx fun h' x he' hx' => ?_)))
  obtain ⟨o, ho, hc⟩ := hx'
  exact wpAny_bind (wpAny_isInstance (T := "StopIteration") (b := true) ⟨o, ho, hc⟩ isSubtype_stop (wpAny_pure (hQ _ he')))
end
def IteT (K : PySem.W.Frag) (a : Addr) : It :=
  ⟨fun i H => ∃ (vs : List V) (v : V), SqT K H a vs ∧ vs[i]? = some v, fun i H v H' => ∃ T x, v = .ref T ∧ H T = none ∧ H' = upd H T (.tup [.int (i : Nat), x]) ∧ ∀ vs, SqT K H a vs → vs[i]? = some x, fun i H => ∃ vs : List V, SqT K H a vs ∧ vs.length ≤ i⟩
theorem turn_enumT {P : Program} {w : World} {K : PySem.W.Frag} {elts : List Expr} {kk : Nat} {tpos : Pos} (a e it : Addr) :
    Turn P w K (.Tuple elts kk tpos) (IteT K a) [e, it] e (fun i h => (∃ old, IsEnum h e it ((i : Nat) : Int) old) ∧ h.IsTupleIter it a i ∧ e ≠ it ∧ a ≠ it ∧ e ≠ a) where
  mem := by simp
  obj := fun i h st b hb => by
    obtain ⟨⟨o0, he⟩, ⟨o, ho, hc, hd⟩, _⟩ := st
    have eb : b = e ∨ b = it := by simpa using hb
    rcases eb with z | z
    · rw [z]
      exact ⟨_, he, fun v q => nomatch q⟩
    · rw [z]
      exact ⟨o, ho, fun v q => by rw [hd] at q; cases q⟩
  keep := fun i h h' st k => let ⟨⟨o0, he⟩, hi, hn⟩ := st; ⟨⟨o0, k e (by simp) _ he⟩, hi.at fun o q => k it (by simp) o q, hn⟩
  item := by
    intro X hP hw hK hc i pins s σ H E I hf st hg
    subst hP hw hK
    obtain ⟨⟨o0, he⟩, hit, hne, hna, hea⟩ := st
    obtain ⟨vs, x, hq, hx⟩ := hg
    obtain ⟨its, rv, p, hz⟩ := I.tuple hq
    obtain ⟨u, hu, ru⟩ := rv.get hx
    have hel : e < s.heap.objs.size := Heap.lt_size he
    have hil : it < s.heap.objs.size := by obtain ⟨_, q, _⟩ := hit; exact Heap.lt_size q
    have hilt : i < its.toArray.size := by
      rw [List.size_toArray]
      exact (List.getElem?_eq_some_iff.mp hu).1
    refine wpAny_pyNext_enum_itemD (Draws.tuple (A := X.A.in1) (show X.A.in1.handled = none from I.ok.hd hc) it a hna its.toArray) he ⟨hit, p⟩ hilt hne (by simp [hne, hea]) fun y h' tk hy ho hst hT hsz hk => ?_
    have ey : y = u := by
      have hy' : its.toArray[i]? = some y := hy
      rw [List.getElem?_toArray, hu] at hy'
      exact (Option.some.inj hy').symm
    subst ey
    refine ⟨_, rfl, wpAny_letOwnedTupleGo_enum (s := { s with heap := h', toks := tk + 1 }) ho fun h'' he' sb => ?_⟩
    have hT2 := (sb.2 _ (Nat.ne_of_gt hel)).trans hT
    have new : ObjOk X.prog X.w (upd H s.heap.objs.size (.tup [.int (i : Nat), x])) h'' s.heap.objs.size (.tup [.int (i : Nat), x]) :=
      ⟨by show 2 ≤ sizeLine; decide, [.int i tk, y], .cons ⟨_, rfl⟩ (.cons ru .nil), ⟨_, hT2, rfl, _, rfl⟩⟩
    have I1 : Inv X pins σ (upd H s.heap.objs.size (.tup [.int (i : Nat), x])) { s with heap := h'', toks := tk + 1 } :=
      I.turnedNew (ch := [e, it]) (fun b ob hb q => (sb.2 b (fun z => hb (by simp [z]))).trans (hk b ob (fun z => hb (by simp [z])) (fun z => hb (by simp [z])) q)) hf (Nat.le_refl _) new
    refine ⟨.ref s.heap.objs.size, _, I1, rfl, ⟨_, x, rfl, I.hok.fresh (Nat.le_refl _), rfl, fun ys hy => by rw [I.tuple_inj hy hq]; exact hx⟩, ⟨⟨y, ?_⟩, hst.1.at fun o q => (sb.2 it (Ne.symm hne)).trans q, hne, hna, hea⟩, fun b hb => ?_⟩
    · have e1 : ((i + 1 : Nat) : Int) = (i : Int) + 1 := by omega
      rw [e1]
      exact he'
    · have hb' : b < s.heap.objs.size := by
        have eb : b = e ∨ b = it := by simpa using hb
        rcases eb with z | z
        · rw [z]
          exact hel
        · rw [z]
          exact hil
      rw [upd_ne (Nat.ne_of_lt hb')]
      exact (hf b hb).1
  done := by
    intro X hP hw hK hc i pins s σ H E I hf st hg
    subst hP hw hK
    obtain ⟨⟨o0, he⟩, hit, hne, hna, hea⟩ := st
    obtain ⟨vs, hq, hx⟩ := hg
    obtain ⟨its, rv, p, hz⟩ := I.tuple hq
    obtain ⟨f0, f1, f2, f3, f4, f5⟩ := hf it (by simp)
    have hl := rv.length
    refine pyNext_enum_endT (I.ok.hd hc) he hit p (by rw [Array.getElem?_eq_none]; rw [List.size_toArray]; omega) fun h' eb => ⟨rfl, I.turned (t' := s.toks) (fun b o hb q => eb b o hb q) f0 f1 f3 f4 f5⟩
  self := fun A i s Q E st h => let ⟨⟨_, he⟩, _⟩ := st; wpAny_pyIter_enum he h
end JT
namespace J
open PySem PyProof.Rows L2
/-! ### what a loop walks -/
/-- J gives the data xs, one a turn, while what stands at A stays -/
def Src (K : PySem.W.Frag) (p : Addr) (T : It) (F' H' : Hp) (A : List (Addr × HO)) (xs : List D) : Prop :=
  (∀ q ∈ A, H' q.1 = some q.2 ∧ q.1 ≠ p) ∧
  ∀ F2 H2, (∀ q ∈ A, H2 q.1 = some q.2) → Same F' F2 → Same F2 H2 → F2 p = none → (∃ o, H2 p = some o) → ∀ i,
    (xs.length ≤ i → T.stop i H2) ∧ (∀ d, xs[i]? = some d → T.go i H2 ∧ ∀ x H3, T.yld i H2 x H3 → Same H2 H3 ∧ ∃ F3, Stp p F2 H2 F3 H3 ∧ Den K p F3 d x)
def canI (K : PySem.W.Frag) (b : Bool) (f : Ef) : TI := fun σ H Rk => ∃ Z F ds w xs w', R K Z F H σ ds w ∧ f ds w = some (xs, w') ∧ ∀ T F' H' A, Stp Z.p F H F' H' → Dr Z.p F' H' w' → (b = false → A = []) → Src K Z.p T F' H' A xs → Rk T H'
structure JI (X : Cx) (tg iter : Expr) (b : Bool) (f : Ef) : Prop where run : PI X tg iter (canI X.K b f)
theorem pi_weak {X : Cx} {tg e : Expr} {t t' : TI} (h : PI X tg e t) (s : ∀ σ H Q, t' σ H Q → t σ H Q) : PI X tg e t' := ⟨fun pins s' σ H Q I q => h.run pins s' σ H Q I (s σ H Q q)⟩
section
variable {K : PySem.W.Frag} {p : Addr} {F H : Hp} {xs : List D} {vs : List V} {a : Addr}
theorem src_list (h : H a = some (.lst vs)) (n : a ≠ p) (d : Dens K p F xs vs) : Src K p (Itl K a) F H [(a, .lst vs)] xs := by
  refine ⟨fun q hq => ?_, fun F2 H2 hA e1 e2 hp _ i => ⟨fun hi => ⟨vs, .of (hA _ (List.Mem.head _)), by rw [d.len]; exact hi⟩, fun x hx => ?_⟩⟩
  · cases List.mem_singleton.mp hq
    exact ⟨h, n⟩
  · obtain ⟨v, h1, h2⟩ := d.get hx
    have hv : SqL K H2 a vs := .of (hA _ (List.Mem.head _))
    refine ⟨⟨vs, v, hv, h1⟩, fun y H3 ⟨e3, hy⟩ => ?_⟩
    subst e3
    have := hy vs hv
    rw [h1] at this
    cases this
    exact ⟨Same.refl _, F2, Stp.refl e2 hp, Den.mono e1 _ _ h2⟩
theorem src_listF (h : F a = some (.lst vs)) (d : Dens K p F xs vs) : Src K p (Itl K a) F H [] xs := by
  refine ⟨fun q hq => (nomatch hq), fun F2 H2 hA e1 e2 hp _ i => ⟨fun hi => ⟨vs, .of (e2 _ _ (e1 _ _ h)), by rw [d.len]; exact hi⟩, fun x hx => ?_⟩⟩
  obtain ⟨v, h1, h2⟩ := d.get hx
  have hv : SqL K H2 a vs := .of (e2 _ _ (e1 _ _ h))
  refine ⟨⟨vs, v, hv, h1⟩, fun y H3 ⟨e3, hy⟩ => ?_⟩
  subst e3
  have := hy vs hv
  rw [h1] at this
  cases this
  exact ⟨Same.refl _, F2, Stp.refl e2 hp, Den.mono e1 _ _ h2⟩
theorem src_tup (h : SqU K F a vs) (d : Dens K p F xs vs) : Src K p (Itt K a) F H [] xs := by
  refine ⟨fun q hq => (nomatch hq), fun F2 H2 hA e1 e2 hp _ i => ⟨fun hi => ⟨vs, same_t h (e1.trans e2), by rw [d.len]; exact hi⟩, fun x hx => ?_⟩⟩
  obtain ⟨v, h1, h2⟩ := d.get hx
  have hv : SqT K H2 a vs := same_t h (e1.trans e2)
  refine ⟨⟨vs, v, hv, h1⟩, fun y H3 ⟨e3, hy⟩ => ?_⟩
  subst e3
  have := hy vs hv
  rw [h1] at this
  cases this
  exact ⟨Same.refl _, F2, Stp.refl e2 hp, Den.mono e1 _ _ h2⟩
/-- the step to a new pair -/
theorem stp_new {F2 H2 : Hp} {q : Addr} {o : HO} (e : Same F2 H2) (hp : F2 p = none) (hp2 : ∃ o, H2 p = some o) (hq : H2 q = none) : Stp p F2 H2 (upd F2 q o) (upd H2 q o) := by
  have hf : F2 q = none := e.free hq
  have hne : q ≠ p := by
    rintro rfl
    obtain ⟨o, h⟩ := hp2
    rw [hq] at h
    cases h
  refine ⟨same_tell hf, fun b u _ z => by rw [upd_ne (ne_of_none z hq)]; exact z, fun b u z => ?_, fun b u z => ?_, by rw [upd_ne (Ne.symm hne)]; exact hp⟩
  · by_cases hb : b = q
    · subst hb
      rw [upd_same] at z ⊢
      exact z
    · rw [upd_ne hb] at z ⊢
      exact e _ _ z
  · by_cases hb : b = q
    · subst hb
      exact .inr hq
    · rw [upd_ne hb] at z
      exact .inl z
theorem same_new {H2 : Hp} {q : Addr} {o : HO} (hq : H2 q = none) : Same H2 (upd H2 q o) := fun b u z => by rw [upd_ne (ne_of_none z hq)]; exact z
theorem den_pair {F2 : Hp} {q : Addr} {a b : D} {x y : V} (hf : F2 q = none) (h1 : Den K p F2 a x) (h2 : Den K p F2 b y) : Den K p (upd F2 q (.tup [x, y])) (.tup [a, b]) (.ref q) :=
  den_tup (.inl upd_same) (dens_cons (h1.mono (same_tell hf)) (dens_cons (h2.mono (same_tell hf)) dens_nil))
/-- the places beside the things -/
def enumD : Nat → List D → List D
  | _, [] => []
  | n, d :: ds => .tup [.int (n : Int), d] :: enumD (n + 1) ds
theorem enumD_len : ∀ (n : Nat) (ds : List D), (enumD n ds).length = ds.length
  | _, [] => rfl
  | n, d :: ds => by
    show (enumD (n + 1) ds).length + 1 = _
    rw [enumD_len (n + 1) ds]
    rfl
theorem enumD_get : ∀ (n : Nat) (ds : List D) (i : Nat) (d : D), (enumD n ds)[i]? = some d → ∃ e, ds[i]? = some e ∧ d = .tup [.int ((n + i : Nat) : Int), e]
  | _, [], i, d, h => by cases i <;> cases h
  | n, e :: ds, 0, d, h => by
    cases h
    exact ⟨e, rfl, rfl⟩
  | n, e :: ds, i + 1, d, h => by
    obtain ⟨u, h1, h2⟩ := enumD_get (n + 1) ds i d h
    refine ⟨u, h1, ?_⟩
    rw [h2]
    have : n + 1 + i = n + (i + 1) := by omega
    rw [this]
theorem src_enum (h : H a = some (.lst vs)) (n : a ≠ p) (d : Dens K p F xs vs) : Src K p (Ite K a) F H [(a, .lst vs)] (enumD 0 xs) := by
  refine ⟨fun q hq => ?_, fun F2 H2 hA e1 e2 hp hp2 i => ⟨fun hi => ⟨vs, .of (hA _ (List.Mem.head _)), by rw [d.len]; rw [enumD_len] at hi; exact hi⟩, fun x hx => ?_⟩⟩
  · cases List.mem_singleton.mp hq
    exact ⟨h, n⟩
  · obtain ⟨e, g1, g2⟩ := enumD_get 0 xs i x hx
    subst g2
    obtain ⟨v, h1, h2⟩ := d.get g1
    have hv : SqL K H2 a vs := .of (hA _ (List.Mem.head _))
    refine ⟨⟨vs, v, hv, h1⟩, fun y H3 ⟨T, z, e3, e4, e5, hy⟩ => ?_⟩
    subst e3 e5
    have := hy vs hv
    rw [h1] at this
    cases this
    refine ⟨same_new e4, _, stp_new e2 hp hp2 e4, ?_⟩
    rw [Nat.zero_add]
    exact den_pair (e2.free e4) den_int (Den.mono e1 _ _ h2)
theorem src_enumF (h : F a = some (.lst vs)) (d : Dens K p F xs vs) : Src K p (Ite K a) F H [] (enumD 0 xs) := by
  refine ⟨fun q hq => (nomatch hq), fun F2 H2 hA e1 e2 hp hp2 i => ⟨fun hi => ⟨vs, .of (e2 _ _ (e1 _ _ h)), by rw [d.len]; rw [enumD_len] at hi; exact hi⟩, fun x hx => ?_⟩⟩
  obtain ⟨e, g1, g2⟩ := enumD_get 0 xs i x hx
  subst g2
  obtain ⟨v, h1, h2⟩ := d.get g1
  have hv : SqL K H2 a vs := .of (e2 _ _ (e1 _ _ h))
  refine ⟨⟨vs, v, hv, h1⟩, fun y H3 ⟨T, z, e3, e4, e5, hy⟩ => ?_⟩
  subst e3 e5
  have := hy vs hv
  rw [h1] at this
  cases this
  refine ⟨same_new e4, _, stp_new e2 hp hp2 e4, ?_⟩
  rw [Nat.zero_add]
  exact den_pair (e2.free e4) den_int (Den.mono e1 _ _ h2)
theorem src_enumT (h : SqU K F a vs) (d : Dens K p F xs vs) : Src K p (JT.IteT K a) F H [] (enumD 0 xs) := by
  refine ⟨fun q hq => (nomatch hq), fun F2 H2 hA e1 e2 hp hp2 i => ⟨fun hi => ⟨vs, same_t h (e1.trans e2), by rw [d.len]; rw [enumD_len] at hi; exact hi⟩, fun x hx => ?_⟩⟩
  obtain ⟨e, g1, g2⟩ := enumD_get 0 xs i x hx
  subst g2
  obtain ⟨v, h1, h2⟩ := d.get g1
  have hv : SqT K H2 a vs := same_t h (e1.trans e2)
  refine ⟨⟨vs, v, hv, h1⟩, fun y H3 ⟨T, z, e3, e4, e5, hy⟩ => ?_⟩
  subst e3 e5
  have := hy vs hv
  rw [h1] at this
  cases this
  refine ⟨same_new e4, _, stp_new e2 hp hp2 e4, ?_⟩
  rw [Nat.zero_add]
  exact den_pair (e2.free e4) den_int (Den.mono e1 _ _ h2)
theorem src_range {lo : Int} {n : Nat} : Src K p (Itr lo n) F H [] (rgD lo 1 n) := by
  refine ⟨fun q hq => (nomatch hq), fun F2 H2 hA e1 e2 hp hp2 i => ⟨fun hi => ?_, fun x hx => ?_⟩⟩
  · unfold rgD at hi
    rw [List.length_map, List.length_range] at hi
    exact hi
  · unfold rgD at hx
    rw [List.getElem?_map] at hx
    obtain ⟨j, h1, h2⟩ := Option.map_eq_some_iff.mp hx
    obtain ⟨hj, h3⟩ := List.getElem?_eq_some_iff.mp h1
    rw [List.length_range] at hj
    rw [List.getElem_range] at h3
    subst h3 h2
    refine ⟨hj, fun y H3 ⟨e3, e4⟩ => ?_⟩
    subst e3 e4
    refine ⟨Same.refl _, F2, Stp.refl e2 hp, ?_⟩
    rw [Int.mul_one]
    exact den_int
theorem src_rangeC {lo c : Int} {n : Nat} : Src K p (Itc lo c n) F H [] (rgD lo c n) := by
  refine ⟨fun q hq => (nomatch hq), fun F2 H2 hA e1 e2 hp hp2 i => ⟨fun hi => ?_, fun x hx => ?_⟩⟩
  · unfold rgD at hi
    rw [List.length_map, List.length_range] at hi
    exact hi
  · unfold rgD at hx
    rw [List.getElem?_map] at hx
    obtain ⟨j, h1, h2⟩ := Option.map_eq_some_iff.mp hx
    obtain ⟨hj, h3⟩ := List.getElem?_eq_some_iff.mp h1
    rw [List.length_range] at hj
    rw [List.getElem_range] at h3
    subst h3 h2
    refine ⟨hj, fun y H3 ⟨e3, e4⟩ => ?_⟩
    subst e3 e4
    exact ⟨Same.refl _, F2, Stp.refl e2 hp, den_int⟩
/-- pairs of two lists -/
def zipD : List D → List D → List D
  | x :: xs, y :: ys => .tup [x, y] :: zipD xs ys
  | _, _ => []
theorem zipD_get : ∀ (xs ys : List D) (i : Nat) (d : D), (zipD xs ys)[i]? = some d → ∃ a b, xs[i]? = some a ∧ ys[i]? = some b ∧ d = .tup [a, b]
  | [], ys, i, d, h => by cases i <;> cases h
  | x :: xs, [], i, d, h => by cases i <;> cases h
  | x :: xs, y :: ys, 0, d, h => by
    cases h
    exact ⟨x, y, rfl, rfl, rfl⟩
  | x :: xs, y :: ys, i + 1, d, h => zipD_get xs ys i d h
theorem zipD_stop : ∀ (xs ys : List D) (i : Nat), (zipD xs ys).length ≤ i → xs.length ≤ i ∨ ys.length ≤ i
  | [], ys, i, h => .inl (Nat.zero_le _)
  | x :: xs, [], i, h => .inr (Nat.zero_le _)
  | x :: xs, y :: ys, 0, h => by cases h
  | x :: xs, y :: ys, i + 1, h => by
    rcases zipD_stop xs ys i (Nat.le_of_succ_le_succ h) with z | z
    · exact .inl (Nat.succ_le_succ z)
    · exact .inr (Nat.succ_le_succ z)
variable {ys : List D} {us : List V} {b : Addr}
theorem src_zip (h : H a = some (.lst vs)) (n : a ≠ p) (d : Dens K p F xs vs) (h' : H b = some (.lst us)) (n' : b ≠ p) (d' : Dens K p F ys us) : Src K p (Itz K a b) F H [(a, .lst vs), (b, .lst us)] (zipD xs ys) := by
  refine ⟨fun q hq => ?_, fun F2 H2 hA e1 e2 hp hp2 i => ⟨fun hi => ⟨vs, us, .of (hA _ (List.Mem.head _)), .of (hA _ (List.Mem.tail _ (List.Mem.head _))), by rw [d.len, d'.len]; exact zipD_stop _ _ _ hi⟩, fun x hx => ?_⟩⟩
  · rcases List.mem_cons.mp hq with q1 | q1
    · subst q1
      exact ⟨h, n⟩
    · cases List.mem_singleton.mp q1
      exact ⟨h', n'⟩
  · obtain ⟨e, e', g1, g2, g3⟩ := zipD_get xs ys i x hx
    subst g3
    obtain ⟨v, h1, h2⟩ := d.get g1
    obtain ⟨u, h3, h4⟩ := d'.get g2
    have hv : SqL K H2 a vs := .of (hA _ (List.Mem.head _))
    have hu : SqL K H2 b us := .of (hA _ (List.Mem.tail _ (List.Mem.head _)))
    refine ⟨⟨vs, us, v, u, hv, hu, h1, h3⟩, fun y H3 ⟨T, z, z', e3, e4, e5, hy, hy'⟩ => ?_⟩
    subst e3 e5
    have q1 := hy vs hv
    rw [h1] at q1
    cases q1
    have q2 := hy' us hu
    rw [h3] at q2
    cases q2
    exact ⟨same_new e4, _, stp_new e2 hp hp2 e4, den_pair (e2.free e4) (Den.mono e1 _ _ h2) (Den.mono e1 _ _ h4)⟩
theorem src_zipF (h : F a = some (.lst vs)) (d : Dens K p F xs vs) (h' : F b = some (.lst us)) (d' : Dens K p F ys us) : Src K p (Itz K a b) F H [] (zipD xs ys) := by
  refine ⟨fun q hq => (nomatch hq), fun F2 H2 hA e1 e2 hp hp2 i => ⟨fun hi => ⟨vs, us, .of (e2 _ _ (e1 _ _ h)), .of (e2 _ _ (e1 _ _ h')), by rw [d.len, d'.len]; exact zipD_stop _ _ _ hi⟩, fun x hx => ?_⟩⟩
  obtain ⟨e, e', g1, g2, g3⟩ := zipD_get xs ys i x hx
  subst g3
  obtain ⟨v, h1, h2⟩ := d.get g1
  obtain ⟨u, h3, h4⟩ := d'.get g2
  have hv : SqL K H2 a vs := .of (e2 _ _ (e1 _ _ h))
  have hu : SqL K H2 b us := .of (e2 _ _ (e1 _ _ h'))
  refine ⟨⟨vs, us, v, u, hv, hu, h1, h3⟩, fun y H3 ⟨T, z, z', e3, e4, e5, hy, hy'⟩ => ?_⟩
  subst e3 e5
  have q1 := hy vs hv
  rw [h1] at q1
  cases q1
  have q2 := hy' us hu
  rw [h3] at q2
  cases q2
  exact ⟨same_new e4, _, stp_new e2 hp hp2 e4, den_pair (e2.free e4) (Den.mono e1 _ _ h2) (Den.mono e1 _ _ h4)⟩
theorem src_zipT (h : SqU K F a vs) (d : Dens K p F xs vs) (h' : SqU K F b us) (d' : Dens K p F ys us) : Src K p (RZ.ItzT K a b) F H [] (zipD xs ys) := by
  refine ⟨fun q hq => (nomatch hq), fun F2 H2 hA e1 e2 hp hp2 i => ⟨fun hi => ⟨vs, us, same_t h (e1.trans e2), same_t h' (e1.trans e2), by rw [d.len, d'.len]; exact zipD_stop _ _ _ hi⟩, fun x hx => ?_⟩⟩
  obtain ⟨e, e', g1, g2, g3⟩ := zipD_get xs ys i x hx
  subst g3
  obtain ⟨v, h1, h2⟩ := d.get g1
  obtain ⟨u, h3, h4⟩ := d'.get g2
  have hv : SqT K H2 a vs := same_t h (e1.trans e2)
  have hu : SqT K H2 b us := same_t h' (e1.trans e2)
  refine ⟨⟨vs, us, v, u, hv, hu, h1, h3⟩, fun y H3 ⟨T, z, z', e3, e4, e5, hy, hy'⟩ => ?_⟩
  subst e3 e5
  have q1 := hy vs hv
  rw [h1] at q1
  cases q1
  have q2 := hy' us hu
  rw [h3] at q2
  cases q2
  exact ⟨same_new e4, _, stp_new e2 hp hp2 e4, den_pair (e2.free e4) (Den.mono e1 _ _ h2) (Den.mono e1 _ _ h4)⟩
end
section
variable {X : Cx} {tg : Expr}
/-- a list or a tuple that is walked -/
def iSeq (K : PySem.W.Frag) (tl : TE) : TI := fun σ H Rk => tl σ H fun x H1 => (∃ a vs, x = .ref a ∧ SqL K H1 a vs ∧ Rk (Itl K a) H1) ∨ ∃ a vs, x = .ref a ∧ SqT K H1 a vs ∧ Rk (Itt K a) H1
theorem pi_seq {l : Expr} {tl : TE} (hl : PE X l tl) : PI X tg l (iSeq X.K tl) := ⟨fun pins s σ H Rk I h => by
  refine thn (hl.run pins s σ H _ I h) fun v s1 ⟨x, H1, I1, r1, q1⟩ => ?_
  rcases q1 with ⟨a, vs, ex, hq, q⟩ | ⟨a, vs, ex, hq, q⟩
  · subst ex
    cases r1
    obtain ⟨its, rv, pl, hz⟩ := I1.list hq
    have J1 := I1.kept (t' := s1.toks) (h' := s1.heap.push { cls := .type "list_iterator", data := .fields #[.ref a, .int 0 0] }) fun b o e => Heap.get?_push_of_some _ e
    exact wpAny_pyIter_list pl.isList ⟨s1.heap.objs.size, [s1.heap.objs.size], _, _, H1, rfl, J1, turn_list a _, ⟨_, Heap.get?_push_size _ rfl, rfl, rfl⟩, fun b hb => by
      cases List.mem_singleton.mp hb
      exact I1.fpOk (Nat.le_refl _) (I1.hok.fresh (Nat.le_refl _)), q⟩
  · subst ex
    cases r1
    obtain ⟨its, rv, pl, hz⟩ := I1.tuple hq
    have J1 := I1.kept (t' := s1.toks) (h' := s1.heap.push { cls := .type "tuple_iterator", data := .fields #[.ref a, .int 0 0] }) fun b o e => Heap.get?_push_of_some _ e
    exact wpAny_pyIter_tuple pl ⟨s1.heap.objs.size, [s1.heap.objs.size], _, _, H1, rfl, J1, turn_tuple a _, ⟨_, Heap.get?_push_size _ rfl, rfl, rfl⟩, fun b hb => by
      cases List.mem_singleton.mp hb
      exact I1.fpOk (Nat.le_refl _) (I1.hok.fresh (Nat.le_refl _)), q⟩⟩
def iEnumS (K : PySem.W.Frag) (ta : TA) : TI := fun σ H Rk => ta σ H fun us H1 => (∃ a vs, us = [.ref a] ∧ SqL K H1 a vs ∧ Rk (Ite K a) H1) ∨ ∃ a vs, us = [.ref a] ∧ SqT K H1 a vs ∧ Rk (JT.IteT K a) H1
theorem pi_enumS {e : Expr} {ta : TA} {p pos tpos : Pos} {elts : List Expr} {kk : Nat} (hg : Gl X "enumerate") (hm : X.mg "enumerate" = none) (ha : PA X [e] ta) (hs : starEach [e] X.env = [(false, eval e X.env)] := by rfl) :
    PI X (.Tuple elts kk tpos) (.Call (.Name "enumerate" p) [e] [] pos) (iEnumS X.K ta) := ⟨fun pins s σ H Rk I h => by
  refine Call_ (ld_blt I hg hm boot_enumerate (callWith_type1 (thn (ha.run pos pins s σ H _ I h) fun us s1 ⟨zs, H1, I1, r1, q1⟩ => ?_) hs rfl))
  have sized : ∀ {b : Addr}, b ∈ [s1.heap.objs.size + 1, s1.heap.objs.size] → FpOk X pins H1 b := fun {b} hb => by
    have hle : s1.heap.objs.size ≤ b := by
      rcases List.mem_cons.mp hb with z | z
      · rw [z]
        exact Nat.le_succ _
      · rw [List.mem_singleton.mp z]
        exact Nat.le_refl _
    exact I1.fpOk hle (I1.hok.fresh hle)
  rcases q1 with ⟨a, vs, ex, hq, q⟩ | ⟨a, vs, ex, hq, q⟩
  · subst ex
    obtain ⟨u, rfl, ru⟩ := vals1 r1
    cases ru
    obtain ⟨its, rv, pl, hz⟩ := I1.list hq
    exact call_enumerate_list pl.isList fun h' he hit hsz hk => wpAny_pyIter_enum he ⟨s1.heap.objs.size + 1, [s1.heap.objs.size + 1, s1.heap.objs.size], _, _, H1, rfl, I1.kept (t' := s1.toks) hk, turn_enum a _ _, ⟨⟨.none, he⟩, hit, Nat.succ_ne_self _⟩, fun b hb => sized hb, q⟩
  · subst ex
    obtain ⟨u, rfl, ru⟩ := vals1 r1
    cases ru
    obtain ⟨its, rv, pl, hz⟩ := I1.tuple hq
    have la : a < s1.heap.objs.size := pl.lt
    exact JT.call_enumT pl fun h' he hit hsz hk => wpAny_pyIter_enum he ⟨s1.heap.objs.size + 1, [s1.heap.objs.size + 1, s1.heap.objs.size], _, _, H1, rfl, I1.kept (t' := s1.toks) hk, JT.turn_enumT a _ _, ⟨⟨.none, he⟩, hit, Nat.succ_ne_self _, Nat.ne_of_lt la, Nat.ne_of_gt (Nat.lt_succ_of_lt la)⟩, fun b hb => sized hb, q⟩⟩
/-! ### sources -/
def iItems (f : Ev) : Ef := fun ds w => (f ds w).bind fun a => match a.1 with | .lst xs => some (xs, a.2) | .tup xs => some (xs, a.2) | _ => none
variable {e e2 : Expr} {f g : Ev} {fs : Ef} {p pos tpos : Pos} {elts : List Expr} {kk : Nat}
theorem ji_seq (h : JE X e f) : JI X tg e false (iItems f) := ⟨pi_weak (pi_seq h.run) fun σ H Rk ⟨Z, F, ds, w, xs, w', rr, hf, k⟩ => by
  obtain ⟨⟨a, w1⟩, ha, hf⟩ := bind2 hf
  refine ⟨Z, F, ds, w, _, _, rr, ha, fun v F1 H1 s1 d1 hv => ?_⟩
  cases a with
  | lst ys =>
    cases hf
    unfold Den at hv
    obtain ⟨q, vs, rfl, h1, h2⟩ := hv
    exact .inl ⟨q, vs, rfl, .of (s1.e _ _ h1), k _ F1 H1 [] s1 d1 (fun _ => rfl) (src_listF h1 h2)⟩
  | tup ys =>
    cases hf
    unfold Den at hv
    obtain ⟨q, vs, rfl, h1, h2⟩ := hv
    exact .inr ⟨q, vs, rfl, same_t h1 s1.e, k _ F1 H1 [] s1 d1 (fun _ => rfl) (src_tup h1 h2)⟩
  | _ => cases hf⟩
theorem ownp {K : PySem.W.Frag} {p : Addr} {F H : Hp} {xs : List D} {v : V} (h : DenB K p F H (.lst xs) v) (e : Same F H) (hp : F p = none) : ∃ a vs, v = .ref a ∧ H a = some (.lst vs) ∧ a ≠ p ∧ Dens K p F xs vs := by
  rcases h with h | ⟨a, ys, e1, e2, vs, h1, h2, h3, h4⟩
  · unfold Den at h
    obtain ⟨a, vs, rfl, h1, h2⟩ := h
    exact ⟨a, vs, rfl, e _ _ h1, ne_of_none h1 hp, h2⟩
  · cases e1
    exact ⟨a, vs, e2, h1, h3, h4⟩
theorem jib_seq (h : JB X e f) : JI X tg e true (iItems f) := ⟨pi_weak (pi_seq h.run) fun σ H Rk ⟨Z, F, ds, w, xs, w', rr, hf, k⟩ => by
  obtain ⟨⟨a, w1⟩, ha, hf⟩ := bind2 hf
  refine ⟨Z, F, ds, w, _, _, rr, ha, fun v F1 H1 s1 d1 hv => ?_⟩
  cases a with
  | lst ys =>
    cases hf
    obtain ⟨q, vs, rfl, h1, h2, h3⟩ := ownp hv s1.e s1.fp
    exact .inl ⟨q, vs, rfl, .of h1, k _ F1 H1 _ s1 d1 (fun z => nomatch z) (src_list h1 h2 h3)⟩
  | tup ys =>
    cases hf
    obtain ⟨q, vs, rfl, h1, h2⟩ := hv.tup
    exact .inr ⟨q, vs, rfl, same_t h1 s1.e, k _ F1 H1 [] s1 d1 (fun _ => rfl) (src_tup h1 h2)⟩
  | _ => cases hf⟩
def iEnumJ (f : Ef) : Ef := fun ds w => (f ds w).bind fun a => match a.1 with | [.lst xs] => some (enumD 0 xs, a.2) | [.tup xs] => some (enumD 0 xs, a.2) | _ => none
theorem ji_enum (hg : Gl X "enumerate") (hm : X.mg "enumerate" = none) (ha : JA X [e] fs) (hs : starEach [e] X.env = [(false, eval e X.env)] := by rfl) : JI X (.Tuple elts kk tpos) (.Call (.Name "enumerate" p) [e] [] pos) false (iEnumJ fs) := ⟨pi_weak (pi_enumS hg hm ha.run hs) fun σ H Rk ⟨Z, F, ds, w, xs, w', rr, hf, k⟩ => by
  obtain ⟨⟨a, w1⟩, ha, hf⟩ := bind2 hf
  refine ⟨Z, F, ds, w, _, _, rr, ha, fun us F1 H1 s1 d1 hv => ?_⟩
  dsimp only at hf
  split at hf
  · cases hf
    unfold Dens at hv
    obtain ⟨v, r, rfl, hv, hr⟩ := hv
    unfold Dens at hr
    subst hr
    unfold Den at hv
    obtain ⟨q, vs, rfl, h1, h2⟩ := hv
    exact .inl ⟨q, vs, rfl, .of (s1.e _ _ h1), k _ F1 H1 [] s1 d1 (fun _ => rfl) (src_enumF h1 h2)⟩
  · cases hf
    unfold Dens at hv
    obtain ⟨v, r, rfl, hv, hr⟩ := hv
    unfold Dens at hr
    subst hr
    unfold Den at hv
    obtain ⟨q, vs, rfl, h1, h2⟩ := hv
    exact .inr ⟨q, vs, rfl, same_t h1 s1.e, k _ F1 H1 [] s1 d1 (fun _ => rfl) (src_enumT h1 h2)⟩
  · cases hf⟩
theorem jib_enum (hg : Gl X "enumerate") (hm : X.mg "enumerate" = none) (ha : JR X [e] fs) (hs : starEach [e] X.env = [(false, eval e X.env)] := by rfl) : JI X (.Tuple elts kk tpos) (.Call (.Name "enumerate" p) [e] [] pos) true (iEnumJ fs) := ⟨pi_weak (pi_enumS hg hm ha.run hs) fun σ H Rk ⟨Z, F, ds, w, xs, w', rr, hf, k⟩ => by
  obtain ⟨⟨a, w1⟩, ha, hf⟩ := bind2 hf
  refine ⟨Z, F, ds, w, _, _, rr, ha, fun us F1 H1 s1 d1 hv => ?_⟩
  dsimp only at hf
  split at hf
  · cases hf
    obtain ⟨v, rfl, hw⟩ := densB1 hv
    obtain ⟨q, vs, rfl, h1, h2, h3⟩ := ownp hw s1.e s1.fp
    exact .inl ⟨q, vs, rfl, .of h1, k _ F1 H1 _ s1 d1 (fun z => nomatch z) (src_enum h1 h2 h3)⟩
  · cases hf
    obtain ⟨v, rfl, hw⟩ := densB1 hv
    obtain ⟨q, vs, rfl, h1, h2⟩ := hw.tup
    exact .inr ⟨q, vs, rfl, same_t h1 s1.e, k _ F1 H1 [] s1 d1 (fun _ => rfl) (src_enumT h1 h2)⟩
  · cases hf⟩
def iZipJ (f : Ef) : Ef := fun ds w => (f ds w).bind fun a => match a.1 with | [.lst xs, .lst ys] => some (zipD xs ys, a.2) | [.tup xs, .tup ys] => some (zipD xs ys, a.2) | _ => none
theorem dens2 {K : PySem.W.Frag} {q : Addr} {F : Hp} {a b : D} {us : List V} (h : Dens K q F [a, b] us) : ∃ v u, us = [v, u] ∧ Den K q F a v ∧ Den K q F b u := by
  unfold Dens at h
  obtain ⟨v, r, rfl, hv, hr⟩ := h
  unfold Dens at hr
  obtain ⟨u, r, rfl, hu, hr⟩ := hr
  unfold Dens at hr
  subst hr
  exact ⟨v, u, rfl, hv, hu⟩
theorem ji_zip (hg : Gl X "zip") (hm : X.mg "zip" = none) (ha : JA X [e, e2] fs) (hs : starEach [e, e2] X.env = (false, eval e X.env) :: starEach [e2] X.env := by rfl) (hpl : (backTo pos (starEach [e2] X.env)).any (·.1) = false := by rfl) : JI X (.Tuple elts kk tpos) (.Call (.Name "zip" p) [e, e2] [] pos) false (iZipJ fs) := ⟨pi_weak (RZ.pi_zipA hg hm ha.run hs hpl) fun σ H Rk ⟨Z, F, ds, w, xs, w', rr, hf, k⟩ => by
  obtain ⟨⟨a, w1⟩, ha, hf⟩ := bind2 hf
  refine ⟨Z, F, ds, w, _, _, rr, ha, fun us F1 H1 s1 d1 hv => ?_⟩
  dsimp only at hf
  split at hf
  · cases hf
    obtain ⟨v, u, rfl, hw, hu⟩ := dens2 hv
    unfold Den at hw hu
    obtain ⟨q, vs, rfl, h1, h2⟩ := hw
    obtain ⟨q', vs', rfl, h1', h2'⟩ := hu
    exact ⟨q, q', vs, vs', rfl, .inl ⟨.of (s1.e _ _ h1), .of (s1.e _ _ h1'), k _ F1 H1 [] s1 d1 (fun _ => rfl) (src_zipF h1 h2 h1' h2')⟩⟩
  · cases hf
    obtain ⟨v, u, rfl, hw, hu⟩ := dens2 hv
    unfold Den at hw hu
    obtain ⟨q, vs, rfl, h1, h2⟩ := hw
    obtain ⟨q', vs', rfl, h1', h2'⟩ := hu
    exact ⟨q, q', vs, vs', rfl, .inr ⟨same_t h1 s1.e, same_t h1' s1.e, k _ F1 H1 [] s1 d1 (fun _ => rfl) (src_zipT h1 h2 h1' h2')⟩⟩
  · cases hf⟩
theorem jib_zip (hg : Gl X "zip") (hm : X.mg "zip" = none) (ha : JR X [e, e2] fs) (hs : starEach [e, e2] X.env = (false, eval e X.env) :: starEach [e2] X.env := by rfl) (hpl : (backTo pos (starEach [e2] X.env)).any (·.1) = false := by rfl) : JI X (.Tuple elts kk tpos) (.Call (.Name "zip" p) [e, e2] [] pos) true (iZipJ fs) := ⟨pi_weak (RZ.pi_zipA hg hm ha.run hs hpl) fun σ H Rk ⟨Z, F, ds, w, xs, w', rr, hf, k⟩ => by
  obtain ⟨⟨a, w1⟩, ha, hf⟩ := bind2 hf
  refine ⟨Z, F, ds, w, _, _, rr, ha, fun us F1 H1 s1 d1 hv => ?_⟩
  dsimp only at hf
  split at hf
  · cases hf
    obtain ⟨v, u, rfl, hw, hu⟩ := densB2 hv
    obtain ⟨q, vs, rfl, h1, h2, h3⟩ := ownp hw s1.e s1.fp
    obtain ⟨q', vs', rfl, h1', h2', h3'⟩ := ownp hu s1.e s1.fp
    exact ⟨q, q', vs, vs', rfl, .inl ⟨.of h1, .of h1', k _ F1 H1 _ s1 d1 (fun z => nomatch z) (src_zip h1 h2 h3 h1' h2' h3')⟩⟩
  · cases hf
    obtain ⟨v, u, rfl, hw, hu⟩ := densB2 hv
    obtain ⟨q, vs, rfl, h1, h2⟩ := hw.tup
    obtain ⟨q', vs', rfl, h1', h2'⟩ := hu.tup
    exact ⟨q, q', vs, vs', rfl, .inr ⟨same_t h1 s1.e, same_t h1' s1.e, k _ F1 H1 [] s1 d1 (fun _ => rfl) (src_zipT h1 h2 h1' h2')⟩⟩
  · cases hf⟩
/-- range(n), range(a, b) in a for -/
def iRg (fa fb : Ev) : Ef := fun ds w => (fa ds w).bind fun a => (fb ds a.2).bind fun b => match a.1, b.1 with
  | .int i, .int j => if -(2 ^ 62) ≤ i ∧ i < 2 ^ 62 ∧ -(2 ^ 62) ≤ j ∧ j < 2 ^ 62 then some (rgD i 1 (j - i).toNat, b.2) else none
  | _, _ => none
theorem ji_rg1 (hg : Gl X "range") (hm : X.mg "range" = none) (h : JB X e f) (na : starEach [e] X.env = (false, eval e X.env) :: starEach [] X.env := by rfl) (hs : starEach [e] X.env = [(false, eval e X.env)] := by rfl) : JI X tg (.Call (.Name "range" p) [e] [] pos) false (iRg (eC (.int 0)) f) := ⟨pi_weak (pi_range1 hg hm (pa_cons h.run pa_nil na) hs) fun σ H Rk ⟨Z, F, ds, w, xs, w', rr, hf, k⟩ => by
  obtain ⟨⟨a, w1⟩, ha, hf⟩ := bind2 hf
  obtain ⟨⟨b, w2⟩, hb, hf⟩ := bind2 hf
  cases ha
  refine ⟨Z, F, ds, w, _, _, rr, hb, fun v F1 H1 s1 d1 hv => ?_⟩
  cases b <;> first | cases hf | skip
  dsimp only at hf
  split at hf
  · rename_i hc
    cases hf
    refine ⟨_, by rw [hv.int], hc.2.2.1, hc.2.2.2, ?_⟩
    rw [Int.sub_zero] at k
    exact k _ F1 H1 [] s1 d1 (fun _ => rfl) src_range
  · cases hf⟩
theorem ji_rg2 (hg : Gl X "range") (hm : X.mg "range" = none) (h : JB X e f) (h2 : JB X e2 g) (na : starEach [e, e2] X.env = (false, eval e X.env) :: starEach [e2] X.env := by rfl) (nb : starEach [e2] X.env = (false, eval e2 X.env) :: starEach [] X.env := by rfl)
    (hs : starEach [e, e2] X.env = [(false, eval e X.env), (false, eval e2 X.env)] := by rfl) (hs2 : starEach [e2] X.env = [(false, eval e2 X.env)] := by rfl) : JI X tg (.Call (.Name "range" p) [e, e2] [] pos) false (iRg f g) := ⟨pi_weak (pi_range2 hg hm (pa_cons h.run (pa_cons h2.run pa_nil nb) na) hs hs2) fun σ H Rk ⟨Z, F, ds, w, xs, w', rr, hf, k⟩ => by
  obtain ⟨⟨a, w1⟩, ha, hf⟩ := bind2 hf
  obtain ⟨⟨b, w2⟩, hb, hf⟩ := bind2 hf
  refine ⟨Z, F, ds, w, _, _, rr, ha, fun v F1 H1 s1 d1 hv => ⟨Z, F1, ds, _, _, _, rr.step s1 d1, hb, fun u F2 H2 s2 d2 hu => ?_⟩⟩
  cases a <;> first | cases hf | skip
  cases b <;> first | cases hf | skip
  dsimp only at hf
  split at hf
  · rename_i hc
    cases hf
    exact ⟨_, _, by rw [hv.int, hu.int], ⟨hc.1, hc.2.1, hc.2.2.1, hc.2.2.2⟩, k _ F2 H2 [] (s1.trans s2) d2 (fun _ => rfl) src_range⟩
  · cases hf⟩
end
end J
namespace J
open PySem PyProof.Rows L2
section
variable {K : PySem.W.Frag} {Z : Cfg} {F H : Hp} {σ : L2.St} {ds : List Sl} {w : Wd}
theorem isOwn_set {ds : List Sl} {i j : Nat} {s : Sl} (hs : s.ow = false) (h : isOwn (ds.set i s) j) : isOwn ds j := by
  obtain ⟨t, h1, h2⟩ := h
  rw [List.getElem?_set] at h1
  split at h1
  · split at h1
    · cases h1
      rw [hs] at h2
      cases h2
    · cases h1
  · exact ⟨t, h1, h2⟩
/-- a name gets a value -/
theorem R.set (r : R K Z F H σ ds w) {i : Nat} {d : D} {v : V} (h : Den K Z.p F d v) : R K Z F H (σ.set i (some v)) (ds.set i (.d d)) w := by
  refine ⟨r.ex, r.fp, r.dr, r.pm, r.hm, r.m0, r.keep, r.nw, r.f0, by rw [List.length_set, List.length_set]; exact r.len, ?_⟩
  obtain ⟨α, inj, hs⟩ := r.env
  refine ⟨α, fun a b ha hb => inj a b (isOwn_set rfl ha) (isOwn_set rfl hb), fun j s e => ?_⟩
  rw [List.getElem?_set] at e
  by_cases hj : i = j
  · subst hj
    rw [if_pos rfl] at e
    split at e
    · rename_i hl
      cases e
      exact ⟨v, by rw [List.getElem?_set_self (by rw [r.len]; exact hl)], h⟩
    · cases e
  · rw [if_neg hj] at e
    have q := hs j s e
    have e2 : (σ.set i (some v))[j]? = σ[j]? := List.getElem?_set_ne hj
    cases s with
    | no => trivial
    | d x =>
      obtain ⟨u, h1, h2⟩ := q
      exact ⟨u, by rw [e2]; exact h1, h2⟩
    | own xs =>
      obtain ⟨h1, h2, h3⟩ := q
      exact ⟨by rw [e2]; exact h1, h2, h3⟩
    | mu k xs =>
      obtain ⟨h1, h2, h3⟩ := q
      exact ⟨by rw [e2]; exact h1, h2, h3⟩
/-- a name gets a list of its own -/
theorem R.setO (r : R K Z F H σ ds w) {i : Nat} {xs : List D} {q : Addr} {vs : List V} (h : H q = some (.lst vs)) (hf : F q = none) (hp : q ≠ Z.p) (h0 : Z.H0 q = none) (hm : q ∉ Z.M) (hn : ∀ (j : Nat) (a : Addr) (zs : List D), (ds[j]? = some (Sl.own zs) ∨ ∃ k, ds[j]? = some (Sl.mu k zs)) → σ[j]? = some (some (V.ref a)) → a ≠ q) (hd : Dens K Z.p F xs vs) :
    R K Z F H (σ.set i (some (.ref q))) (ds.set i (.own xs)) w := by
  refine ⟨r.ex, r.fp, r.dr, r.pm, r.hm, r.m0, r.keep, r.nw, r.f0, by rw [List.length_set, List.length_set]; exact r.len, ?_⟩
  obtain ⟨α, inj, hs⟩ := r.env
  have ne : ∀ j, i ≠ j → isOwn (ds.set i (.own xs)) j → isOwn ds j ∧ α j ≠ q := fun j hj ⟨t, h1, h2⟩ => by
    rw [List.getElem?_set_ne hj] at h1
    refine ⟨⟨t, h1, h2⟩, ?_⟩
    have z := hs j t h1
    cases t with
    | no => cases h2
    | d x => cases h2
    | own zs => exact hn j _ zs (.inl h1) z.1
    | mu k zs => exact hn j _ zs (.inr ⟨k, h1⟩) z.1
  refine ⟨fun j => if i = j then q else α j, fun a b ha hb e => ?_, fun j s e => ?_⟩
  · dsimp only at e
    by_cases h1 : i = a
    · by_cases h2 : i = b
      · rw [← h1, ← h2]
      · rw [if_pos h1, if_neg h2] at e
        exact absurd e.symm (ne b h2 hb).2
    · by_cases h2 : i = b
      · rw [if_neg h1, if_pos h2] at e
        exact absurd e (ne a h1 ha).2
      · rw [if_neg h1, if_neg h2] at e
        exact inj a b (ne a h1 ha).1 (ne b h2 hb).1 e
  · dsimp only
    rw [List.getElem?_set] at e
    by_cases hj : i = j
    · subst hj
      rw [if_pos rfl] at e ⊢
      split at e
      · rename_i hl
        cases e
        exact ⟨by rw [List.getElem?_set_self (by rw [r.len]; exact hl)], ⟨vs, h, hf, hp, hd⟩, h0⟩
      · cases e
    · rw [if_neg hj] at e ⊢
      have z := hs j s e
      have e2 : (σ.set i (some (V.ref q)))[j]? = σ[j]? := List.getElem?_set_ne hj
      cases s with
      | no => trivial
      | d x =>
        obtain ⟨u, h1, h2⟩ := z
        exact ⟨u, by rw [e2]; exact h1, h2⟩
      | own xs =>
        obtain ⟨h1, h2, h3⟩ := z
        exact ⟨by rw [e2]; exact h1, h2, h3⟩
      | mu k xs =>
        obtain ⟨h1, h2, h3⟩ := z
        exact ⟨by rw [e2]; exact h1, h2, h3⟩
/-- a list of one's own turns -/
theorem R.turn (r : R K Z F H σ ds w) {i : Nat} {s s' : Sl} {a : Addr} {xs ys : List D} {vs : List V} (hs : ds[i]? = some s) (ha : σ[i]? = some (some (.ref a))) (e : (s = .own xs ∧ s' = .own ys) ∨ ∃ k, s = .mu k xs ∧ s' = .mu k ys) (hd : Dens K Z.p F ys vs) :
    R K Z F (upd H a (.lst vs)) σ (ds.set i s') w := by
  obtain ⟨α, inj, hα⟩ := id r.env
  have hi := hα i s hs
  have hai : α i = a ∧ ∃ us, H a = some (.lst us) ∧ F a = none ∧ a ≠ Z.p ∧ (Z.H0 a = none ∨ a ∈ Z.M) := by
    rcases e with ⟨rfl, rfl⟩ | ⟨k, rfl, rfl⟩
    · obtain ⟨h1, ⟨us, h2, h3, h4, _⟩, h5⟩ := hi
      rw [ha] at h1
      cases h1
      exact ⟨rfl, us, h2, h3, h4, .inl h5⟩
    · obtain ⟨h1, ⟨us, h2, h3, h4, _⟩, h5⟩ := hi
      rw [ha] at h1
      cases h1
      exact ⟨rfl, us, h2, h3, h4, .inr (List.mem_of_getElem? h5)⟩
  obtain ⟨hai, us, h1, h2, h3, h4⟩ := hai
  have ow : s.ow = true ∧ s'.ow = true := by rcases e with ⟨rfl, rfl⟩ | ⟨k, rfl, rfl⟩ <;> exact ⟨rfl, rfl⟩
  refine ⟨fun b o z => ?_, r.fp, ?_, r.pm, fun b hb => ⟨?_, (r.hm b hb).2⟩, r.m0, fun b o hb hm z => ?_, r.nw, r.f0, by rw [List.length_set]; exact r.len, α, fun p q hp hq => ?_, fun j t ht => ?_⟩
  · rw [upd_ne (ne_of_none z h2)]
    exact r.ex b o z
  · obtain ⟨c, q1, q2⟩ := r.dr
    exact ⟨c, by rw [upd_ne (Ne.symm h3)]; exact q1, q2⟩
  · by_cases hba : b = a
    · subst hba
      exact ⟨_, upd_same⟩
    · obtain ⟨o, ho⟩ := (r.hm b hb).1
      exact ⟨o, by rw [upd_ne hba]; exact ho⟩
  · have hba : b ≠ a := by
      rintro rfl
      rcases h4 with q | q
      · rw [q] at z
        cases z
      · exact hm q
    rw [upd_ne hba]
    exact r.keep b o hb hm z
  · have back : ∀ p, isOwn (ds.set i s') p → isOwn ds p := fun p ⟨t, q1, q2⟩ => by
      rw [List.getElem?_set] at q1
      split at q1
      · rename_i hip
        subst hip
        exact ⟨s, hs, ow.1⟩
      · exact ⟨t, q1, q2⟩
    exact inj p q (back p hp) (back q hq)
  · rw [List.getElem?_set] at ht
    by_cases hj : i = j
    · subst hj
      rw [if_pos rfl] at ht
      split at ht
      · cases ht
        rcases e with ⟨rfl, rfl⟩ | ⟨k, rfl, rfl⟩
        · obtain ⟨q1, _, q5⟩ := hi
          exact ⟨q1, ⟨vs, by rw [hai]; exact upd_same, by rw [hai]; exact h2, by rw [hai]; exact h3, hd⟩, q5⟩
        · obtain ⟨q1, _, q5⟩ := hi
          exact ⟨q1, ⟨vs, by rw [hai]; exact upd_same, by rw [hai]; exact h2, by rw [hai]; exact h3, hd⟩, q5⟩
      · cases ht
    · rw [if_neg hj] at ht
      have z := hα j t ht
      have na : t.ow = true → α j ≠ a := fun ho q => hj (inj i j ⟨s, hs, ow.1⟩ ⟨t, ht, ho⟩ (by rw [hai, q]))
      cases t with
      | no => trivial
      | d x => exact z
      | own zs =>
        obtain ⟨q1, ⟨us', q2, q3⟩, q5⟩ := z
        exact ⟨q1, ⟨us', by rw [upd_ne (na rfl)]; exact q2, q3⟩, q5⟩
      | mu k zs =>
        obtain ⟨q1, ⟨us', q2, q3⟩, q5⟩ := z
        exact ⟨q1, ⟨us', by rw [upd_ne (na rfl)]; exact q2, q3⟩, q5⟩
/-- a list of one's own is told to all -/
theorem R.freeze (r : R K Z F H σ ds w) {i : Nat} {xs : List D} (hs : ds[i]? = some (.own xs)) : ∃ F', Same F F' ∧ R K Z F' H σ (ds.set i (.d (.lst xs))) w := by
  obtain ⟨α, inj, hα⟩ := id r.env
  obtain ⟨h1, ⟨vs, h2, h3, h4, h5⟩, h6⟩ := hα i _ hs
  have sf : Same F (upd F (α i) (.lst vs)) := same_tell h3
  have nm : α i ∉ Z.M := fun z => by
    obtain ⟨o, ho⟩ := r.m0 _ z
    rw [h6] at ho
    cases ho
  refine ⟨_, sf, fun b o z => ?_, by rw [upd_ne (Ne.symm h4)]; exact r.fp, ?_, r.pm, fun b hb => ⟨(r.hm b hb).1, by rw [upd_ne (fun q : b = α i => nm (q ▸ hb))]; exact (r.hm b hb).2⟩, r.m0, r.keep, fun b o z => ?_, r.f0.trans sf, by rw [List.length_set]; exact r.len, α, fun p q hp hq => inj p q (isOwn_set rfl hp) (isOwn_set rfl hq), fun j t ht => ?_⟩
  · by_cases hb : b = α i
    · subst hb
      rw [upd_same] at z
      rw [← z]
      exact h2
    · rw [upd_ne hb] at z
      exact r.ex b o z
  · obtain ⟨c, q1, q2⟩ := r.dr
    exact ⟨c, q1, sf _ _ q2⟩
  · by_cases hb : b = α i
    · subst hb
      exact .inr h6
    · rw [upd_ne hb] at z
      exact r.nw b o z
  · rw [List.getElem?_set] at ht
    by_cases hj : i = j
    · subst hj
      rw [if_pos rfl] at ht
      split at ht
      · cases ht
        exact ⟨_, h1, den_lst upd_same (h5.mono sf)⟩
      · cases ht
    · rw [if_neg hj] at ht
      have z := hα j t ht
      have na : t.ow = true → α j ≠ α i := fun ho q => hj (inj i j ⟨_, hs, rfl⟩ ⟨t, ht, ho⟩ q.symm)
      cases t with
      | no => trivial
      | d x =>
        obtain ⟨u, q1, q2⟩ := z
        exact ⟨u, q1, Den.mono sf x u q2⟩
      | own zs =>
        obtain ⟨q1, ⟨us', q2, q3, q4, q6⟩, q5⟩ := z
        exact ⟨q1, ⟨us', q2, by rw [upd_ne (na rfl)]; exact q3, q4, q6.mono sf⟩, q5⟩
      | mu k zs =>
        obtain ⟨q1, ⟨us', q2, q3, q4, q6⟩, q5⟩ := z
        exact ⟨q1, ⟨us', q2, by rw [upd_ne (na rfl)]; exact q3, q4, q6.mono sf⟩, q5⟩
end
/-! ### targets -/
abbrev Eg := List Sl → D → Option (List Sl)
def canG (K : PySem.W.Frag) (tg : Eg) (js : List Nat) : TG := fun v σ H Q => ∃ Z F ds w d ds', R K Z F H σ ds w ∧ Den K Z.p F d v ∧ tg ds d = some ds' ∧ ∀ σ', R K Z F H σ' ds' w → (∀ i, i ∉ js → σ'[i]? = σ[i]?) → σ'.length = σ.length → Q σ' H
abbrev Egs := List Sl → List D → Option (List Sl)
def canGs (K : PySem.W.Frag) (tg : Egs) (js : List Nat) : TGs := fun v σ H Q => ∃ Z F ds w d ds', R K Z F H σ ds w ∧ Dens K Z.p F d v ∧ tg ds d = some ds' ∧ ∀ σ', R K Z F H σ' ds' w → (∀ i, i ∉ js → σ'[i]? = σ[i]?) → σ'.length = σ.length → Q σ' H
structure JG (X : Cx) (tg : Expr) (f : Eg) (js : List Nat) : Prop where run : PG X tg (canG X.K f js)
structure JGs (X : Cx) (tg : List Expr) (f : Egs) (js : List Nat) : Prop where run : PGs X tg (canGs X.K f js)
theorem pg_weak {X : Cx} {tg : Expr} {t t' : TG} (h : PG X tg t) (s : ∀ v σ H Q, t' v σ H Q → t v σ H Q) : PG X tg t' := ⟨fun pins s' σ H v u Q I r q => h.run pins s' σ H v u Q I r (s v σ H Q q)⟩
theorem pgs_weak {X : Cx} {tg : List Expr} {t t' : TGs} (h : PGs X tg t) (s : ∀ v σ H Q, t' v σ H Q → t v σ H Q) : PGs X tg t' := ⟨fun pins s' σ H v u Q I r q => h.run pins s' σ H v u Q I r (s v σ H Q q)⟩
def gN (i : Nat) : Eg := fun ds d => some (ds.set i (.d d))
def gsNil : Egs := fun ds xs => match xs with | [] => some ds | _ => none
def gsCons (g : Eg) (h : Egs) : Egs := fun ds xs => match xs with | x :: r => (g ds x).bind fun ds1 => h ds1 r | _ => none
def gT (n : Nat) (h : Egs) : Eg := fun ds d => match d with | .tup xs => if xs.length = n then h ds xs else none | _ => none
section
variable {X : Cx} {pos : Pos} {e : Expr} {es : List Expr} {g : Eg} {h : Egs} {js js' : List Nat}
theorem jg_name (i : Nat) {x : Str} (hN : X.N.Nodup) (hi : X.N[i]? = some x := by rfl) (hx : Loc X.env.scope x := by first | exact Or.inl rfl | exact Or.inr rfl) (hf : X.fn x = true ∨ X.env.scope.names.lookup x = some .local := by first | exact .inl rfl | exact .inr rfl | assumption) : JG X (.Name x pos) (gN i) [i] :=
  ⟨pg_weak (pg_name hN hi hx hf) fun v σ H Q ⟨Z, F, ds, w, d, ds', rr, hd, hg, k⟩ => by
    cases hg
    exact k _ (rr.set hd) (fun j hj => List.getElem?_set_ne (fun z => hj (by rw [← z]; exact List.mem_singleton.mpr rfl))) (by rw [List.length_set])⟩
theorem jgs_nil : JGs X [] gsNil [] := ⟨pgs_weak pgs_nil fun v σ H Q ⟨Z, F, ds, w, d, ds', rr, hd, hg, k⟩ => by
  unfold gsNil at hg
  split at hg
  · cases hg
    unfold Dens at hd
    exact ⟨hd, k σ rr (fun _ _ => rfl) rfl⟩
  · cases hg⟩
theorem jgs_cons (h1 : JG X e g js) (h2 : JGs X es h js') (hs : (assignEach (e :: es) X.env).map (·.2) = assign e X.env :: (assignEach es X.env).map (·.2) := by rfl) : JGs X (e :: es) (gsCons g h) (js ++ js') := ⟨pgs_weak (pgs_cons h1.run h2.run hs) fun v σ H Q ⟨Z, F, ds, w, d, ds', rr, hd, hg, k⟩ => by
  unfold gsCons at hg
  split at hg
  · obtain ⟨ds1, g1, g2⟩ := bind2 hg
    unfold Dens at hd
    obtain ⟨u, r, rfl, d1, d2⟩ := hd
    exact ⟨u, r, rfl, Z, F, ds, w, _, _, rr, d1, g1, fun σ1 r1 s1 l1 => ⟨Z, F, ds1, w, _, _, r1, d2, g2, fun σ2 r2 s2 l2 => k σ2 r2 (fun i hi => (s2 i fun z => hi (List.mem_append_right _ z)).trans (s1 i fun z => hi (List.mem_append_left _ z))) (l2.trans l1)⟩⟩
  · cases hg⟩
theorem jg_tup {kk n : Nat} (hc : X.calm = true) (h1 : JGs X es h js) (hn : (assignEach es X.env).length = n := by rfl) (hst : (assignEach es X.env).findIdx? (·.1) = none := by rfl) : JG X (.Tuple es kk pos) (gT n h) js := ⟨pg_weak (pg_tup hc h1.run hn hst) fun v σ H Q ⟨Z, F, ds, w, d, ds', rr, hd, hg, k⟩ => by
  unfold gT at hg
  split at hg
  · split at hg
    · rename_i hl
      unfold Den at hd
      obtain ⟨a, vs, rfl, h1, h2⟩ := hd
      exact ⟨a, vs, rfl, same_t h1 rr.ex, by rw [h2.len]; exact hl, Z, F, ds, w, _, _, rr, h2, hg, k⟩
    · cases hg
  · cases hg⟩
end
end J
namespace J
open PySem PyProof.Rows L2
/-! ### comprehensions -/
def wipeS (ds : List Sl) : List Nat → List Sl
  | [] => ds
  | v :: vs => (wipeS ds vs).set v .no
section
variable {K : PySem.W.Frag} {Z : Cfg} {F H : Hp} {σ : L2.St} {ds : List Sl} {w : Wd}
theorem R.no (r : R K Z F H σ ds w) (i : Nat) : R K Z F H (σ.set i none) (ds.set i .no) w := by
  refine ⟨r.ex, r.fp, r.dr, r.pm, r.hm, r.m0, r.keep, r.nw, r.f0, by rw [List.length_set, List.length_set]; exact r.len, ?_⟩
  obtain ⟨α, inj, hs⟩ := r.env
  refine ⟨α, fun a b ha hb => inj a b (isOwn_set rfl ha) (isOwn_set rfl hb), fun j s e => ?_⟩
  rw [List.getElem?_set] at e
  by_cases hj : i = j
  · subst hj
    rw [if_pos rfl] at e
    split at e
    · cases e
      trivial
    · cases e
  · rw [if_neg hj] at e
    have q := hs j s e
    have e2 : (σ.set i none)[j]? = σ[j]? := List.getElem?_set_ne hj
    cases s with
    | no => trivial
    | d x =>
      obtain ⟨u, h1, h2⟩ := q
      exact ⟨u, by rw [e2]; exact h1, h2⟩
    | own xs =>
      obtain ⟨h1, h2, h3⟩ := q
      exact ⟨by rw [e2]; exact h1, h2, h3⟩
    | mu k xs =>
      obtain ⟨h1, h2, h3⟩ := q
      exact ⟨by rw [e2]; exact h1, h2, h3⟩
theorem R.wipe (r : R K Z F H σ ds w) : ∀ vs : List Nat, R K Z F H (wipe σ vs) (wipeS ds vs) w
  | [] => r
  | v :: vs => (R.wipe r vs).no v
theorem wipe_same {σ1 σ2 : L2.St} (hl : σ1.length = σ2.length) : ∀ {vs : List Nat}, (∀ i, i ∉ vs → σ1[i]? = σ2[i]?) → wipe σ1 vs = wipe σ2 vs := fun {vs} h => by
  refine List.ext_getElem? fun i => ?_
  by_cases hi : i ∈ vs
  · have gone : ∀ (σ : L2.St) (vs : List Nat), i ∈ vs → (L2.wipe σ vs)[i]? = if i < σ.length then some none else none := fun σ vs => by
      induction vs with
      | nil => intro h; cases h
      | cons v vs ih =>
        intro h
        show ((L2.wipe σ vs).set v none)[i]? = _
        rw [List.getElem?_set, wipe_length]
        by_cases hv : v = i
        · subst hv
          rw [if_pos rfl]
        · rw [if_neg hv]
          rcases List.mem_cons.mp h with z | z
          · exact absurd z.symm hv
          · exact ih z
    rw [gone σ1 vs hi, gone σ2 vs hi, hl]
  · have stays : ∀ (σ : L2.St) (vs : List Nat), i ∉ vs → (L2.wipe σ vs)[i]? = σ[i]? := fun σ vs => by
      induction vs with
      | nil => intro _; rfl
      | cons v vs ih =>
        intro h
        show ((L2.wipe σ vs).set v none)[i]? = _
        rw [List.getElem?_set_ne (fun z => h (by rw [z]; exact List.mem_cons_self))]
        exact ih fun z => h (List.mem_cons_of_mem _ z)
    rw [stays σ1 vs hi, stays σ2 vs hi, h i hi]
theorem wipe_wipe (σ : L2.St) (vs : List Nat) : wipe (wipe σ vs) vs = wipe σ vs := wipe_same (wipe_length σ vs) fun i hi => by
  have stays : ∀ (vs : List Nat), i ∉ vs → (L2.wipe σ vs)[i]? = σ[i]? := fun vs => by
    induction vs with
    | nil => intro _; rfl
    | cons v vs ih =>
      intro h
      show ((L2.wipe σ vs).set v none)[i]? = _
      rw [List.getElem?_set_ne (fun z => h (by rw [z]; exact List.mem_cons_self))]
      exact ih fun z => h (List.mem_cons_of_mem _ z)
  exact stays vs hi
end
def lcGo (tg : Eg) (c : Et) (e : Ev) (ds : List Sl) : List D → Wd → Option (List D × Wd)
  | [], w => some ([], w)
  | x :: xs, w => (tg ds x).bind fun ds1 => (c ds1 w).bind fun b => if b.1 = true then (e ds1 b.2).bind fun y => (lcGo tg c e ds xs y.2).bind fun r => some (y.1 :: r.1, r.2) else lcGo tg c e ds xs b.2
def fLc (src : Ef) (tg : Eg) (c : Et) (e : Ev) (vs : List Nat) : Ef := fun ds w => (src ds w).bind fun s => (lcGo tg c e (wipeS ds vs) s.1 s.2).bind fun r => if r.1.length ≤ line then some r else none
def tYesJ : Et := fun _ w => some (true, w)
structure JTs (X : Cx) (ifs : List Expr) (f : Et) : Prop where run : PTs X ifs (canT X.K f)
section
variable {X : Cx} {K : PySem.W.Frag} {c : Expr} {t : Et}
theorem jts_nil : JTs X [] tYesJ := ⟨⟨fun pins s σ H Q I ⟨Z, F, ds, w, d, w', rr, hf, k⟩ => by
  cases hf
  exact pts_nil.run pins s σ H Q I (k F H rr.stp rr.dr)⟩⟩
theorem jts_one (h : JT X c t) : JTs X [c] t := ⟨pts_one h.run⟩
theorem lc_of {b : Bool} {src : Ef} {tg : Eg} {c : Et} {e : Ev} {vs js : List Nat} (hj : ∀ i ∈ js, i ∈ vs) (σ : L2.St) (H : Hp) (Q : VK) : canF K (fLc src tg c e vs) σ H Q → tLc (canI K b src) (canG K tg js) (canT K c) (canE K e) vs σ H Q := fun ⟨Z, F, ds, w, ys, w', rr, hf, k⟩ => by
  obtain ⟨⟨xs, w1⟩, hs, hf⟩ := bind2 hf
  obtain ⟨⟨zs, w2⟩, hg, hf⟩ := bind2 hf
  split at hf
  · rename_i hl
    cases hf
    refine ⟨Z, F, ds, w, _, _, rr, hs, fun T F1 H1 A s1 d1 _ hS D hD => ?_⟩
    obtain ⟨hA, hT⟩ := hS
    have r1 := rr.step s1 d1
    have hDp : D ≠ Z.p := r1.np hD
    have hDF : F1 D = none := r1.ex.free hD
    refine ⟨fun i m H2 => m = xs.length - i ∧ i ≤ xs.length ∧ ∃ F2 acc us rest w3, Stp Z.p F1 H1 F2 H2 ∧ Dr Z.p F2 H2 w3 ∧ H2 D = some (.lst us) ∧ F2 D = none ∧ Dens K Z.p F2 acc us ∧ lcGo tg c e (wipeS ds vs) (xs.drop i) w3 = some (rest, w') ∧ acc ++ rest = ys, ⟨xs.length, rfl, Nat.zero_le _, F1, [], [], ys, w1, ?_⟩, fun i m H2 hw => ?_⟩
    · obtain ⟨s2, d2⟩ := r1.newO (o := .lst []) hD
      exact ⟨s2, d2, upd_same, hDF, dens_nil, hg, rfl⟩
    · obtain ⟨rfl, hi, F2, acc, us, rest, w3, s2, d2, hDl, hDn, hacc, hgo, hcat⟩ := hw
      have hA2 : ∀ q ∈ A, H2 q.1 = some q.2 := fun q hq => s2.h _ _ (hA q hq).2 (hA q hq).1
      obtain ⟨hstop, hgo'⟩ := hT F2 H2 hA2 s2.f s2.e s2.fp (let ⟨a, h, _⟩ := d2; ⟨_, h⟩) i
      by_cases hlt : i < xs.length
      · right
        have hx : xs[i]? = some xs[i] := List.getElem?_eq_getElem hlt
        obtain ⟨g1, g2⟩ := hgo' _ hx
        refine ⟨g1, fun H' => ∃ m', m' < xs.length - i ∧ (m' = xs.length - (i + 1) ∧ i + 1 ≤ xs.length ∧ ∃ F2 acc us rest w3, Stp Z.p F1 H1 F2 H' ∧ Dr Z.p F2 H' w3 ∧ H' D = some (.lst us) ∧ F2 D = none ∧ Dens K Z.p F2 acc us ∧ lcGo tg c e (wipeS ds vs) (xs.drop (i + 1)) w3 = some (rest, w') ∧ acc ++ rest = ys), fun H' z => z, fun x H3 hy => ?_⟩
        obtain ⟨sm, F3, s3, hden⟩ := g2 x H3 hy
        have d3 : Dr Z.p F3 H3 w3 := by
          obtain ⟨a, q1, q2⟩ := d2
          exact ⟨a, sm _ _ q1, s3.f _ _ q2⟩
        have s13 := s2.trans s3
        have r3 := r1.step s13 d3
        have hD3 : H3 D = some (.lst us) := sm _ _ hDl
        have hD3n : F3 D = none := by
          cases q : F3 D with
          | none => rfl
          | some o =>
            rcases s3.n D o q with z | z
            · rw [hDn] at z
              cases z
            · rw [hDl] at z
              cases z
        rw [List.drop_eq_getElem_cons hlt] at hgo
        obtain ⟨ds1, htg, hgo⟩ := bind2 (show (tg (wipeS ds vs) xs[i]).bind _ = _ from hgo)
        obtain ⟨⟨b, w4⟩, hc, hgo⟩ := bind2 hgo
        refine ⟨Z, F3, wipeS ds vs, w3, _, _, r3.wipe vs, hden, htg, fun σ2 r4 hsame hlen => ⟨?_, ?_⟩⟩
        · have e1 : L2.wipe σ2 vs = L2.wipe (L2.wipe σ vs) vs := wipe_same hlen fun i hi => hsame i fun z => hi (hj i z)
          rw [e1, wipe_wipe]
        · refine ⟨Z, F3, ds1, w3, _, _, r4, hc, fun F4 H4 s4 d4 => ?_⟩
          have lift : ∀ {F5 H5 : Hp} {w5 : Wd}, Stp Z.p F3 H3 F5 H5 → H5 D = some (.lst us) ∧ F5 D = none := fun {F5 H5 w5} s5 => by
            refine ⟨s5.h D _ hDp hD3, ?_⟩
            cases q : F5 D with
            | none => rfl
            | some o =>
              rcases s5.n D o q with z | z
              · rw [hD3n] at z
                cases z
              · rw [hD3] at z
                cases z
          dsimp only
          split
          · rename_i hb
            dsimp only at hgo
            rw [if_pos hb] at hgo
            obtain ⟨⟨y, w5⟩, he, hgo⟩ := bind2 hgo
            obtain ⟨⟨rest', w6⟩, hr, hgo⟩ := bind2 hgo
            cases hgo
            refine ⟨Z, F4, ds1, _, _, _, r4.step s4 d4, he, fun v F5 H5 s5 d5 hv => ?_⟩
            have s35 := s4.trans s5
            obtain ⟨hD5, hD5n⟩ := lift (w5 := w5) s35
            have hlen2 : us.length < sizeLine := by
              rw [hacc.len]
              refine sz_lt ?_
              have := congrArg List.length hcat
              rw [List.length_append, List.length_cons] at this
              have hl' : ys.length ≤ line := hl
              dsimp only at this
              omega
            refine ⟨us, hD5, hlen2, xs.length - (i + 1), by omega, rfl, by omega, F5, acc ++ [y], us ++ [v], rest', w5, ?_, ?_, upd_same, hD5n, (hacc.mono (s3.f.trans s35.f)).append (dens_cons hv dens_nil), hr, by rw [List.append_assoc]; exact hcat⟩
            · have s15 := s13.trans s35
              refine ⟨s15.f, fun b o hb hz => ?_, fun b o hz => ?_, s15.n, s15.fp⟩
              · have hbD : b ≠ D := ne_of_none hz hD
                rw [upd_ne hbD]
                exact s15.h b o hb hz
              · rw [upd_ne (ne_of_none hz hD5n)]
                exact s15.e b o hz
            · obtain ⟨a, q1, q2⟩ := d5
              exact ⟨a, by rw [upd_ne (Ne.symm hDp)]; exact q1, q2⟩
          · rename_i hb
            dsimp only at hgo
            rw [if_neg hb] at hgo
            obtain ⟨hD4, hD4n⟩ := lift (w5 := w4) s4
            exact ⟨xs.length - (i + 1), by omega, rfl, by omega, F4, acc, us, rest, w4, s13.trans s4, d4, hD4, hD4n, hacc.mono (s3.f.trans s4.f), hgo, hcat⟩
      · left
        refine ⟨hstop (by omega), ?_⟩
        have hnil : xs.drop i = [] := List.drop_eq_nil_of_le (by omega)
        rw [hnil] at hgo
        cases hgo
        rw [List.append_nil] at hcat
        subst hcat
        refine k D us F2 H2 (s1.trans s2) d2 hDl ?_ hDn hDp hacc
        cases q : H D with
        | none => rfl
        | some o =>
          have := s1.h D o hDp q
          rw [hD] at this
          cases this
  · cases hf
theorem jf_lc {elt tg iter : Expr} {ifs : List Expr} {scope : Scope} {own : List (Str × Nat)} {pos : Pos} {b : Bool} {src : Ef} {g : Eg} {c : Et} {e : Ev} {js : List Nat} (hc : X.calm = true) (hN : X.N.Nodup) (hi : JI X tg iter b src) (ok : BlkOk X.N X.env.scope scope own)
    (hg : ∀ (s : Shared) (H : Hp) (C : Addr) (cl : List (Str × Addr)) (fp : List Addr), JG (X.blk s H scope (compEnvC scope cl C X.env) fp) tg g js) (ht : ∀ (s : Shared) (H : Hp) (C : Addr) (cl : List (Str × Addr)) (fp : List Addr), JTs (X.blk s H scope (compEnvC scope cl C X.env) fp) ifs c)
    (he : ∀ (s : Shared) (H : Hp) (C : Addr) (cl : List (Str × Addr)) (fp : List Addr), JE (X.blk s H scope (compEnvC scope cl C X.env) fp) elt e) (hj : ∀ i ∈ js, i ∈ own.map (·.2) := by decide) (hs : ∀ x, foldedSetIterable iter X.env x = pure x := by intro _; rfl) :
    JF X (.ListComp elt [⟨tg, iter, ifs, 0⟩] scope pos) (fLc src g c e (own.map (·.2))) :=
  ⟨pe_weak (pe_lc hc hN hi.run ok (fun s H C cl fp => (hg s H C cl fp).run) (fun s H C cl fp => (ht s H C cl fp).run) (fun s H C cl fp => (he s H C cl fp).run) hs) (lc_of hj)⟩
end
/-! ### statements -/
inductive Out where
  | nx (ds : List Sl) (w : Wd) | rt (d : D) (w : Wd) | bk (ds : List Sl) (w : Wd) | ct (ds : List Sl) (w : Wd)
abbrev Es := List Sl → Wd → Option Out
def OutK (K : PySem.W.Frag) (Z : Cfg) (F : Hp) (o : Out) (D : Ends) : Prop := match o with
  | .nx ds w => ∀ σ' F' H', Same F F' → R K Z F' H' σ' ds w → D.nx σ' H'
  | .bk ds w => ∀ σ' F' H', Same F F' → R K Z F' H' σ' ds w → D.bk σ' H'
  | .ct ds w => ∀ σ' F' H', Same F F' → R K Z F' H' σ' ds w → D.ct σ' H'
  | .rt d w => ∀ v σ' ds' F' H', Same F F' → R K Z F' H' σ' ds' w → Den K Z.p F' d v → D.rt v H'
theorem OutK.go {K : PySem.W.Frag} {Z : Cfg} {F F' : Hp} {o : Out} {D : Ends} (k : OutK K Z F o D) (e : Same F F') : OutK K Z F' o D := by
  cases o with
  | nx ds w => exact fun σ' F2 H' s => k σ' F2 H' (e.trans s)
  | bk ds w => exact fun σ' F2 H' s => k σ' F2 H' (e.trans s)
  | ct ds w => exact fun σ' F2 H' s => k σ' F2 H' (e.trans s)
  | rt d w => exact fun v σ' ds' F2 H' s => k v σ' ds' F2 H' (e.trans s)
def canS (K : PySem.W.Frag) (f : Es) : TS := fun D σ H => ∃ Z F ds w o, R K Z F H σ ds w ∧ f ds w = some o ∧ OutK K Z F o D
structure JS (X : Cx) (st : Stmt) (f : Es) : Prop where run : PS X st (canS X.K f)
structure JSs (X : Cx) (st : List Stmt) (f : Es) : Prop where run : PSs X st (canS X.K f)
theorem ps_weak {X : Cx} {st : Stmt} {t t' : TS} (h : PS X st t) (s : ∀ D σ H, t' D σ H → t D σ H) : PS X st t' := ⟨fun pins s' σ H D I q => h.run pins s' σ H D I (s D σ H q)⟩
theorem pss_weak {X : Cx} {st : List Stmt} {t t' : TS} (h : PSs X st t) (s : ∀ D σ H, t' D σ H → t D σ H) : PSs X st t' := ⟨fun pins s' σ H D I q => h.run pins s' σ H D I (s D σ H q)⟩
def sNil : Es := fun ds w => some (.nx ds w)
def sSeq (f g : Es) : Es := fun ds w => (f ds w).bind fun o => match o with | .nx ds1 w1 => g ds1 w1 | z => some z
def sNone : Es := fun _ _ => none
section
variable {X : Cx} {st : Stmt} {rest : List Stmt} {f g : Es} {e : Expr} {fe : Ev} {pos : Pos}
theorem jss_nil : JSs X [] sNil := ⟨pss_weak pss_nil fun D σ H ⟨Z, F, ds, w, o, rr, hf, k⟩ => by
  cases hf
  exact k σ F H (Same.refl _) rr⟩
theorem jss_cons (h : JS X st f) (h2 : JSs X rest g) : JSs X (st :: rest) (sSeq f g) := ⟨pss_weak (pss_cons h.run h2.run) fun D σ H ⟨Z, F, ds, w, o, rr, hf, k⟩ => by
  obtain ⟨o1, h1, hf⟩ := bind2 hf
  refine ⟨Z, F, ds, w, o1, rr, h1, ?_⟩
  cases o1 with
  | nx ds1 w1 => exact fun σ' F' H' s r' => ⟨Z, F', ds1, w1, o, r', hf, k.go s⟩
  | rt d w1 =>
    cases hf
    exact k
  | bk ds1 w1 =>
    cases hf
    exact k
  | ct ds1 w1 =>
    cases hf
    exact k⟩
/-- what is never come to -/
theorem js_never : JS X st sNone := ⟨⟨fun pins s' σ H D I ⟨Z, F, ds, w, o, rr, hf, k⟩ => by cases hf⟩⟩
theorem jss_never {sts : List Stmt} : JSs X sts sNone := ⟨⟨fun pins s' σ H D I ⟨Z, F, ds, w, o, rr, hf, k⟩ => by cases hf⟩⟩
/-- a list of one's own is told to all from here on -/
def sFrz (i : Nat) (g : Es) : Es := fun ds w => match ds[i]? with | some (.own xs) => g (ds.set i (.d (.lst xs))) w | _ => g ds w
theorem jss_frz (i : Nat) (h : JSs X rest g) : JSs X rest (sFrz i g) := ⟨pss_weak h.run fun D σ H ⟨Z, F, ds, w, o, rr, hf, k⟩ => by
  unfold sFrz at hf
  split at hf
  · rename_i xs hx
    obtain ⟨F', s1, r1⟩ := rr.freeze hx
    exact ⟨Z, F', _, w, o, r1, hf, k.go s1⟩
  · exact ⟨Z, F, _, w, o, rr, hf, k⟩⟩
def sSet (i : Nat) (f : Ev) : Es := fun ds w => (f ds w).bind fun d => some (.nx (ds.set i (.d d.1)) d.2)
theorem js_set (i : Nat) {x : Str} {pos' : Pos} (hN : X.N.Nodup) (he : JE X e fe) (hi : X.N[i]? = some x := by rfl) (hx : Loc X.env.scope x := by first | exact Or.inl rfl | exact Or.inr rfl) (hs : swapsWith e (some (.Name x pos')) pos.line X.env = pure false := by rfl) (hf : X.fn x = true ∨ X.env.scope.names.lookup x = some .local := by first | exact .inl rfl | exact .inr rfl | assumption) :
    JS X (.Assign [.Name x pos'] e pos) (sSet i fe) := ⟨ps_weak (ps_set hN hi hx he.run hs hf) fun D σ H ⟨Z, F, ds, w, o, rr, hf, k⟩ => by
  obtain ⟨d, hd, hf⟩ := bind2 hf
  cases hf
  exact ⟨Z, F, ds, w, _, _, rr, hd, fun v F1 H1 s1 d1 hv => k _ F1 H1 s1.f ((rr.step s1 d1).set hv)⟩⟩
/-- .. to a list of its own -/
def sSetO (i : Nat) (f : Ef) : Es := fun ds w => (f ds w).bind fun d => some (.nx (ds.set i (.own d.1)) d.2)
theorem R.fresh {K : PySem.W.Frag} {Z : Cfg} {F H F1 H1 : Hp} {σ : L2.St} {ds : List Sl} {w w1 : Wd} {xs : List D} {q : Addr} {vs : List V} (i : Nat) (rr : R K Z F H σ ds w) (s1 : Stp Z.p F H F1 H1) (d1 : Dr Z.p F1 H1 w1) (h1 : H1 q = some (.lst vs)) (h2 : H q = none) (h3 : F1 q = none) (h4 : q ≠ Z.p) (h5 : Dens K Z.p F1 xs vs) : R K Z F1 H1 (σ.set i (some (.ref q))) (ds.set i (.own xs)) w1 := by
  have nm : q ∉ Z.M := fun z => by
    obtain ⟨⟨o, ho⟩, _⟩ := rr.hm _ z
    rw [h2] at ho
    cases ho
  refine (rr.step s1 d1).setO h1 h3 h4 ?_ nm (fun j a zs hz ha => ?_) h5
  · cases z : Z.H0 q with
    | none => rfl
    | some o =>
      have := rr.keep q o h4 nm z
      rw [h2] at this
      cases this
  · obtain ⟨α, inj, hα⟩ := rr.env
    rcases hz with hz | ⟨k, hz⟩
    · obtain ⟨g1, ⟨us, g2, _⟩, _⟩ := hα j _ hz
      rw [ha] at g1
      cases g1
      exact ne_of_none g2 h2
    · obtain ⟨g1, ⟨us, g2, _⟩, _⟩ := hα j _ hz
      rw [ha] at g1
      cases g1
      exact ne_of_none g2 h2
theorem js_setO (i : Nat) {fl : Ef} {x : Str} {pos' : Pos} (hN : X.N.Nodup) (he : JF X e fl) (hi : X.N[i]? = some x := by rfl) (hx : Loc X.env.scope x := by first | exact Or.inl rfl | exact Or.inr rfl) (hs : swapsWith e (some (.Name x pos')) pos.line X.env = pure false := by rfl) (hf : X.fn x = true ∨ X.env.scope.names.lookup x = some .local := by first | exact .inl rfl | exact .inr rfl | assumption) :
    JS X (.Assign [.Name x pos'] e pos) (sSetO i fl) := ⟨ps_weak (ps_set hN hi hx he.run hs hf) fun D σ H ⟨Z, F, ds, w, o, rr, hf, k⟩ => by
  obtain ⟨d, hd, hf⟩ := bind2 hf
  cases hf
  exact ⟨Z, F, ds, w, _, _, rr, hd, fun q vs F1 H1 s1 d1 h1 h2 h3 h4 h5 => k _ F1 H1 s1.f (R.fresh i rr s1 d1 h1 h2 h3 h4 h5)⟩⟩
section
variable {elt tg iter : Expr} {ifs : List Expr} {scope : Scope} {own : List (Str × Nat)} {pos' : Pos} {b : Bool} {src : Ef} {gg : Eg} {c : Et} {ee : Ev} {js : List Nat} {y : Str} {py : Pos}
/-- name = [.. for ..] -/
theorem js_setLc (i : Nat) (hc : X.calm = true) (hN : X.N.Nodup) (hsw : swapsWith (.ListComp elt [⟨tg, iter, ifs, 0⟩] scope pos') (some (.Name y py)) pos.line X.env = pure true) (hi : JI X tg iter b src) (ok : BlkOk X.N X.env.scope scope own)
    (hg : ∀ (s : Shared) (H : Hp) (C : Addr) (cl : List (Str × Addr)) (fp : List Addr), JG (X.blk s H scope (compEnvC scope cl C X.env) fp) tg gg js) (ht : ∀ (s : Shared) (H : Hp) (C : Addr) (cl : List (Str × Addr)) (fp : List Addr), JTs (X.blk s H scope (compEnvC scope cl C X.env) fp) ifs c)
    (he : ∀ (s : Shared) (H : Hp) (C : Addr) (cl : List (Str × Addr)) (fp : List Addr), JE (X.blk s H scope (compEnvC scope cl C X.env) fp) elt ee) (hy : X.N[i]? = some y := by rfl) (hyl : X.env.scope.names.lookup y = some .local := by rfl) (hj : ∀ i ∈ js, i ∈ own.map (·.2) := by decide) (hs : ∀ x, foldedSetIterable iter X.env x = pure x := by intro _; rfl) :
    JS X (.Assign [.Name y py] (.ListComp elt [⟨tg, iter, ifs, 0⟩] scope pos') pos) (sSetO i (fLc src gg c ee (own.map (·.2)))) :=
  ⟨ps_weak (ps_setLc hc hN hy hyl hsw hi.run ok (fun s H C cl fp => (hg s H C cl fp).run) (fun s H C cl fp => (ht s H C cl fp).run) (fun s H C cl fp => (he s H C cl fp).run) hs) fun D σ H ⟨Z, F, ds, w, o, rr, hf, k⟩ => by
    obtain ⟨d, hd, hf⟩ := bind2 hf
    cases hf
    exact lc_of hj σ H _ ⟨Z, F, ds, w, _, _, rr, hd, fun q vs F1 H1 s1 d1 h1 h2 h3 h4 h5 => k _ F1 H1 s1.f (R.fresh i rr s1 d1 h1 h2 h3 h4 h5)⟩⟩
end
def sRet (f : Ev) : Es := fun ds w => (f ds w).bind fun d => some (.rt d.1 d.2)
theorem js_ret (he : JE X e fe) : JS X (.Return (some e) pos) (sRet fe) := ⟨ps_weak (ps_ret he.run) fun D σ H ⟨Z, F, ds, w, o, rr, hf, k⟩ => by
  obtain ⟨d, hd, hf⟩ := bind2 hf
  cases hf
  exact ⟨Z, F, ds, w, _, _, rr, hd, fun v F1 H1 s1 d1 hv => k v _ _ F1 H1 s1.f (rr.step s1 d1) hv⟩⟩
theorem js_retN : JS X (.Return none pos) (sRet (eC .non)) := ⟨ps_weak ps_retN fun D σ H ⟨Z, F, ds, w, o, rr, hf, k⟩ => by
  cases hf
  exact k _ _ _ F H (Same.refl _) rr den_non⟩
def sDrop (f : Ev) : Es := fun ds w => (f ds w).bind fun d => some (.nx ds d.2)
theorem js_expr (he : JE X e fe) (hs : swapsWith e none pos.line X.env = pure false := by rfl) : JS X (.Expr e pos) (sDrop fe) := ⟨ps_weak (ps_expr he.run hs) fun D σ H ⟨Z, F, ds, w, o, rr, hf, k⟩ => by
  obtain ⟨d, hd, hf⟩ := bind2 hf
  cases hf
  exact ⟨Z, F, ds, w, _, _, rr, hd, fun v F1 H1 s1 d1 hv => k _ F1 H1 s1.f (rr.step s1 d1)⟩⟩
def sPass : Es := sNil
theorem js_pass : JS X (.Pass pos) sPass := ⟨ps_weak ps_pass fun D σ H ⟨Z, F, ds, w, o, rr, hf, k⟩ => by
  cases hf
  exact k σ F H (Same.refl _) rr⟩
def sBk : Es := fun ds w => some (.bk ds w)
def sCt : Es := fun ds w => some (.ct ds w)
theorem js_break : JS X (.Break pos) sBk := ⟨ps_weak ps_break fun D σ H ⟨Z, F, ds, w, o, rr, hf, k⟩ => by
  cases hf
  exact k σ F H (Same.refl _) rr⟩
theorem js_continue : JS X (.Continue pos) sCt := ⟨ps_weak ps_continue fun D σ H ⟨Z, F, ds, w, o, rr, hf, k⟩ => by
  cases hf
  exact k σ F H (Same.refl _) rr⟩
def sIf (t : Et) (a b : Es) : Es := fun ds w => (t ds w).bind fun r => if r.1 = true then a ds r.2 else b ds r.2
theorem js_if {c : Expr} {a b : List Stmt} {t : Et} {fa fb : Es} (hc : JT X c t) (ha : JSs X a fa) (hb : JSs X b fb) : JS X (.If c a b pos) (sIf t fa fb) := ⟨ps_weak (ps_if hc.run ha.run hb.run) fun D σ H ⟨Z, F, ds, w, o, rr, hf, k⟩ => by
  obtain ⟨r, hr, hf⟩ := bind2 hf
  refine ⟨Z, F, ds, w, _, _, rr, hr, fun F1 H1 s1 d1 => ?_⟩
  dsimp only
  split
  · rename_i h
    rw [if_pos h] at hf
    exact ⟨Z, F1, ds, _, o, rr.step s1 d1, hf, k.go s1.f⟩
  · rename_i h
    rw [if_neg h] at hf
    exact ⟨Z, F1, ds, _, o, rr.step s1 d1, hf, k.go s1.f⟩⟩
/-! loops -/
def forGo (tg : Eg) (body : Es) : List D → Es
  | [], ds, w => some (.nx ds w)
  | x :: xs, ds, w => (tg ds x).bind fun ds1 => (body ds1 w).bind fun o => match o with
    | .nx ds2 w2 => forGo tg body xs ds2 w2
    | .ct ds2 w2 => forGo tg body xs ds2 w2
    | .bk ds2 w2 => some (.nx ds2 w2)
    | .rt d w2 => some (.rt d w2)
def sFor (src : Ef) (tg : Eg) (body : Es) : Es := fun ds w => (src ds w).bind fun s => forGo tg body s.1 ds s.2
theorem js_for {tg iter : Expr} {body : List Stmt} {src : Ef} {gg : Eg} {fb : Es} {js : List Nat} (hp : PassesOwn (model X.prog X.w) X.A X.env X.xe) (hc : X.calm = true) (hi : JI X tg iter false src) (hg : JG X tg gg js) (hb : JSs X body fb) (hs : ∀ x, foldedSetIterable iter X.env x = pure x := by intro _; rfl) :
    JS X (.For tg iter body [] pos) (sFor src gg fb) := ⟨ps_weak (ps_for hp hc hi.run hg.run hb.run hs) fun D σ H ⟨Z, F, ds, w, o, rr, hf, k⟩ => by
  obtain ⟨⟨xs, w1⟩, hx, hf⟩ := bind2 hf
  refine ⟨Z, F, ds, w, _, _, rr, hx, fun T F1 H1 A s1 d1 hA hS => ?_⟩
  cases hA rfl
  obtain ⟨_, hT⟩ := hS
  refine ⟨fun i m σ2 H2 => m = xs.length - i ∧ i ≤ xs.length ∧ ∃ F2 ds2 w2, Same F1 F2 ∧ R X.K Z F2 H2 σ2 ds2 w2 ∧ forGo gg fb (xs.drop i) ds2 w2 = some o, ⟨xs.length, rfl, Nat.zero_le _, F1, ds, w1, Same.refl _, rr.step s1 d1, hf⟩, fun i m σ2 H2 hw => ?_⟩
  obtain ⟨rfl, hi, F2, ds2, w2, e2, r2, hgo⟩ := hw
  obtain ⟨hstop, hgo'⟩ := hT F2 H2 (fun _ z => nomatch z) e2 r2.ex r2.fp (let ⟨a, h, _⟩ := r2.dr; ⟨_, h⟩) i
  by_cases hlt : i < xs.length
  · right
    have hxi : xs[i]? = some xs[i] := List.getElem?_eq_getElem hlt
    obtain ⟨g1, g2⟩ := hgo' _ hxi
    refine ⟨g1, fun σ' H' => ∃ m', m' < xs.length - i ∧ (m' = xs.length - (i + 1) ∧ i + 1 ≤ xs.length ∧ ∃ F2 ds2 w2, Same F1 F2 ∧ R X.K Z F2 H' σ' ds2 w2 ∧ forGo gg fb (xs.drop (i + 1)) ds2 w2 = some o), fun _ _ z => z, fun x H3 hy => ?_⟩
    obtain ⟨sm, F3, s3, hden⟩ := g2 x H3 hy
    have d3 : Dr Z.p F3 H3 w2 := by
      obtain ⟨a, q1, q2⟩ := r2.dr
      exact ⟨a, sm _ _ q1, s3.f _ _ q2⟩
    rw [List.drop_eq_getElem_cons hlt] at hgo
    obtain ⟨ds1, htg, hgo⟩ := bind2 (show (gg ds2 xs[i]).bind _ = _ from hgo)
    obtain ⟨o1, hbd, hgo⟩ := bind2 hgo
    refine ⟨Z, F3, ds2, w2, _, _, r2.step s3 d3, hden, htg, fun σ4 r4 _ _ => ⟨Z, F3, ds1, w2, o1, r4, hbd, ?_⟩⟩
    cases o1 with
    | nx ds5 w5 => exact fun σ' F' H' e5 r5 => ⟨_, by omega, rfl, by omega, F', ds5, w5, (e2.trans s3.f).trans e5, r5, hgo⟩
    | ct ds5 w5 => exact fun σ' F' H' e5 r5 => ⟨_, by omega, rfl, by omega, F', ds5, w5, (e2.trans s3.f).trans e5, r5, hgo⟩
    | bk ds5 w5 =>
      cases hgo
      exact fun σ' F' H' e5 r5 => k σ' F' H' (((s1.f.trans e2).trans s3.f).trans e5) r5
    | rt d5 w5 =>
      cases hgo
      exact fun v σ' ds' F' H' e5 r5 hv => k v σ' ds' F' H' (((s1.f.trans e2).trans s3.f).trans e5) r5 hv
  · left
    refine ⟨hstop (by omega), ?_⟩
    rw [List.drop_eq_nil_of_le (by omega)] at hgo
    cases hgo
    exact k σ2 F2 H2 (s1.f.trans e2) r2⟩
def whileN (t : Et) (body : Es) : Nat → Es
  | 0, _, _ => none
  | n + 1, ds, w => (t ds w).bind fun b => if b.1 = true then (body ds b.2).bind fun o => match o with
    | .nx ds2 w2 => whileN t body n ds2 w2
    | .ct ds2 w2 => whileN t body n ds2 w2
    | .bk ds2 w2 => some (.nx ds2 w2)
    | .rt d w2 => some (.rt d w2) else some (.nx ds b.2)
theorem whileN_mono {t : Et} {body : Es} : ∀ {n m : Nat} {ds : List Sl} {w : Wd} {o : Out}, n ≤ m → whileN t body n ds w = some o → whileN t body m ds w = some o
  | 0, _, _, _, _, _, h => by cases h
  | n + 1, 0, _, _, _, hm, _ => absurd hm (Nat.not_succ_le_zero _)
  | n + 1, m + 1, ds, w, o, hm, h => by
    obtain ⟨b, h1, h2⟩ := bind2 (show (t ds w).bind _ = _ from h)
    show (t ds w).bind _ = _
    rw [h1]
    show (if b.1 = true then _ else _) = _
    split at h2
    · rename_i hb
      rw [if_pos hb]
      obtain ⟨o1, h3, h4⟩ := bind2 h2
      rw [h3]
      cases o1 with
      | nx ds2 w2 => exact whileN_mono (Nat.le_of_succ_le_succ hm) h4
      | ct ds2 w2 => exact whileN_mono (Nat.le_of_succ_le_succ hm) h4
      | bk ds2 w2 => exact h4
      | rt d w2 => exact h4
    · rename_i hb
      rw [if_neg hb]
      exact h2
open Classical in
noncomputable def sWhile (t : Et) (body : Es) : Es := fun ds w => if h : ∃ n o, whileN t body n ds w = some o then some (choose (choose_spec h)) else none
theorem sWhile_of {t : Et} {body : Es} {n : Nat} {ds : List Sl} {w : Wd} {o : Out} (h : whileN t body n ds w = some o) : sWhile t body ds w = some o := by
  have hx : ∃ n o, whileN t body n ds w = some o := ⟨n, o, h⟩
  unfold sWhile
  rw [dif_pos hx]
  have h2 := Classical.choose_spec (Classical.choose_spec hx)
  have a := whileN_mono (Nat.le_max_left n (Classical.choose hx)) h
  have b := whileN_mono (Nat.le_max_right n (Classical.choose hx)) h2
  rw [a] at b
  exact b.symm
theorem of_sWhile {t : Et} {body : Es} {ds : List Sl} {w : Wd} {o : Out} (h : sWhile t body ds w = some o) : ∃ n, whileN t body n ds w = some o := by
  unfold sWhile at h
  split at h
  · rename_i hx
    have h2 := Classical.choose_spec (Classical.choose_spec hx)
    rw [Option.some.inj h] at h2
    exact ⟨_, h2⟩
  · cases h
theorem js_while {c : Expr} {body : List Stmt} {t : Et} {fb : Es} (hp : PassesOwn (model X.prog X.w) X.A X.env X.xe) (hc : JT X c t) (hb : JSs X body fb) : JS X (.While c body [] pos) (sWhile t fb) := ⟨ps_weak (ps_while hp hc.run hb.run) fun D σ H ⟨Z, F, ds, w, o, rr, hf, k⟩ => by
  obtain ⟨n, hn⟩ := of_sWhile hf
  refine ⟨fun m σ2 H2 => ∃ F2 ds2 w2, Same F F2 ∧ R X.K Z F2 H2 σ2 ds2 w2 ∧ whileN t fb m ds2 w2 = some o, ⟨n, F, ds, w, Same.refl _, rr, hn⟩, fun m σ2 H2 hw => ?_⟩
  obtain ⟨F2, ds2, w2, e2, r2, hgo⟩ := hw
  cases m with
  | zero => cases hgo
  | succ m =>
    obtain ⟨b, h1, h2⟩ := bind2 (show (t ds2 w2).bind _ = _ from hgo)
    refine ⟨Z, F2, ds2, w2, _, _, r2, h1, fun F3 H3 s3 d3 => ?_⟩
    have r3 := r2.step s3 d3
    dsimp only
    split
    · rename_i hb
      rw [if_pos hb] at h2
      obtain ⟨o1, h3, h4⟩ := bind2 h2
      refine ⟨fun σ' H' => ∃ m', m' < m + 1 ∧ ∃ F2 ds2 w2, Same F F2 ∧ R X.K Z F2 H' σ' ds2 w2 ∧ whileN t fb m' ds2 w2 = some o, fun _ _ z => z, Z, F3, ds2, _, o1, r3, h3, ?_⟩
      cases o1 with
      | nx ds5 w5 => exact fun σ' F' H' e5 r5 => ⟨m, Nat.lt_succ_self _, F', ds5, w5, (e2.trans s3.f).trans e5, r5, h4⟩
      | ct ds5 w5 => exact fun σ' F' H' e5 r5 => ⟨m, Nat.lt_succ_self _, F', ds5, w5, (e2.trans s3.f).trans e5, r5, h4⟩
      | bk ds5 w5 =>
        cases h4
        exact fun σ' F' H' e5 r5 => k σ' F' H' ((e2.trans s3.f).trans e5) r5
      | rt d5 w5 =>
        cases h4
        exact fun v σ' ds' F' H' e5 r5 hv => k v σ' ds' F' H' ((e2.trans s3.f).trans e5) r5 hv
    · rename_i hb
      rw [if_neg hb] at h2
      cases h2
      exact k σ2 F3 H3 (e2.trans s3.f) r3⟩
end
end J
namespace J
open PySem PyProof.Rows L2
section
variable {X : Cx} {K : PySem.W.Frag} {Z : Cfg} {F H : Hp} {σ : L2.St} {ds : List Sl} {w : Wd}
theorem R.own1 (r : R K Z F H σ ds w) {i : Nat} {xs : List D} (h : ds[i]? = some (.own xs) ∨ ∃ k, ds[i]? = some (.mu k xs)) : ∃ a vs, σ[i]? = some (some (.ref a)) ∧ H a = some (.lst vs) ∧ F a = none ∧ a ≠ Z.p ∧ Dens K Z.p F xs vs := by
  obtain ⟨α, inj, hα⟩ := r.env
  rcases h with h | ⟨k, h⟩
  · obtain ⟨h1, ⟨vs, h2, h3, h4, h5⟩, _⟩ := hα i _ h
    exact ⟨_, vs, h1, h2, h3, h4, h5⟩
  · obtain ⟨h1, ⟨vs, h2, h3, h4, h5⟩, _⟩ := hα i _ h
    exact ⟨_, vs, h1, h2, h3, h4, h5⟩
/-- what a list of one's own becomes -/
def ownTo (ds : List Sl) (i : Nat) (f : List D → Option (List D)) : Option (List Sl) := match ds[i]? with
  | some (.own xs) => (f xs).bind fun ys => some (ds.set i (.own ys))
  | some (.mu k xs) => (f xs).bind fun ys => some (ds.set i (.mu k ys))
  | _ => none
theorem ownTo_spec {ds ds' : List Sl} {i : Nat} {f : List D → Option (List D)} (h : ownTo ds i f = some ds') : ∃ xs ys s s', ds[i]? = some s ∧ f xs = some ys ∧ ds' = ds.set i s' ∧ ((s = .own xs ∧ s' = .own ys) ∨ ∃ k, s = .mu k xs ∧ s' = .mu k ys) := by
  unfold ownTo at h
  split at h
  · rename_i xs hx
    obtain ⟨ys, h1, h2⟩ := bind2 h
    cases h2
    exact ⟨xs, ys, _, _, hx, h1, rfl, .inl ⟨rfl, rfl⟩⟩
  · rename_i k xs hx
    obtain ⟨ys, h1, h2⟩ := bind2 h
    cases h2
    exact ⟨xs, ys, _, _, hx, h1, rfl, .inr ⟨k, rfl, rfl⟩⟩
  · cases h
theorem own_or {ds : List Sl} {i : Nat} {xs ys : List D} {s s' : Sl} (h : ds[i]? = some s) (e : (s = .own xs ∧ s' = .own ys) ∨ ∃ k, s = .mu k xs ∧ s' = .mu k ys) : ds[i]? = some (.own xs) ∨ ∃ k, ds[i]? = some (.mu k xs) := by
  rcases e with ⟨rfl, _⟩ | ⟨k, rfl, _⟩
  · exact .inl h
  · exact .inr ⟨k, h⟩
/-! ### x.append(e) -/
variable {e : Expr} {fe : Ev} {pos : Pos}
def sApp (i : Nat) (f : Ev) : Es := fun ds w => (f ds w).bind fun d => (ownTo ds i fun xs => if xs.length < line then some (xs ++ [d.1]) else none).bind fun ds' => some (.nx ds' d.2)
theorem js_app (i : Nat) {x : Str} {p1 apos cpos : Pos} (he : JE X e fe) (hN : X.N[i]? = some x := by rfl) (hv : Vis X.env.scope x := by first | exact Or.inl rfl | exact Or.inr (Or.inl rfl) | exact Or.inr (Or.inr rfl)) (hd : (x == ("__debug__" : Str)) = false := by decide) (hcd : (x == ("__classdict__" : Str)) = false := by decide)
    (hbase : attributeBase (.Name x p1) "append" X.env (eval (.Name x p1) X.env) = eval (.Name x p1) X.env := by rfl)
    (hfew : ((backTo cpos (starEach (e :: []) X.env)).all (fun x => !x.1) && (backToKw cpos (keywordEach [] X.env)).all (fun x => x.1.isSome) && decide ((e :: []).length + ([] : List Keyword).length + (if ([] : List Keyword).isEmpty then 0 else 1) < 30)) = true := by rfl)
    (hline : (apos.endLine == cpos.line) = true := by rfl) (hs : starEach (e :: []) X.env = (false, eval e X.env) :: starEach [] X.env := by rfl) (hplain : (backTo cpos (starEach [] X.env)).any (·.1) = false := by rfl)
    (hsw : swapsWith (.Call (.Attribute (.Name x p1) "append" apos) [e] [] cpos) none pos.line X.env = pure false := by rfl) : JS X (.Expr (.Call (.Attribute (.Name x p1) "append" apos) [e] [] cpos) pos) (sApp i fe) :=
  ⟨ps_weak (ps_expr (pe_bm PySem.F.plainAttrs_list PySem.F.slot_list_append PySem.F.type_list_append mt_append (pe_var hN hv hd hcd) (pa_cons he.run pa_nil hs) hbase hfew hline hs hplain) hsw) fun D σ H ⟨Z, F, ds, w, o, rr, hf, k⟩ => by
    obtain ⟨d, hd, hf⟩ := bind2 hf
    obtain ⟨ds', ho, hf⟩ := bind2 hf
    cases hf
    obtain ⟨xs, ys, s, s', hi, hys, rfl, hss⟩ := ownTo_spec ho
    split at hys
    · rename_i hl
      cases hys
      obtain ⟨a, vs, h1, h2, h3, h4, h5⟩ := rr.own1 (own_or hi hss)
      refine ⟨.ref a, h1, .inl ⟨rfl, vs, .of h2⟩, Z, F, ds, w, _, _, rr, hd, fun v F1 H1 s1 d1 hv => ?_⟩
      have g2 := s1.h a _ h4 h2
      refine ⟨a, vs, v, rfl, rfl, g2, by rw [h5.len]; exact sz_lt hl, ?_⟩
      exact k σ F1 _ s1.f ((rr.step s1 d1).turn hi h1 hss ((h5.mono s1.f).append (dens_cons hv dens_nil)))
    · cases hys⟩
/-! ### targets that change lists of one's own -/
abbrev EgO := List Sl → Wd → D → Option (List Sl × Wd)
abbrev EgsO := List Sl → Wd → List D → Option (List Sl × Wd)
def canGO (K : PySem.W.Frag) (tg : EgO) : TG := fun v σ H Q => ∃ Z F ds w d ds' w', R K Z F H σ ds w ∧ Den K Z.p F d v ∧ tg ds w d = some (ds', w') ∧ ∀ σ' F' H', Same F F' → R K Z F' H' σ' ds' w' → Q σ' H'
def canGsO (K : PySem.W.Frag) (tg : EgsO) : TGs := fun v σ H Q => ∃ Z F ds w d ds' w', R K Z F H σ ds w ∧ Dens K Z.p F d v ∧ tg ds w d = some (ds', w') ∧ ∀ σ' F' H', Same F F' → R K Z F' H' σ' ds' w' → Q σ' H'
structure JGO (X : Cx) (tg : Expr) (f : EgO) : Prop where run : PG X tg (canGO X.K f)
structure JGsO (X : Cx) (tg : List Expr) (f : EgsO) : Prop where run : PGs X tg (canGsO X.K f)
def goN (g : Eg) : EgO := fun ds w d => (g ds d).bind fun ds' => some (ds', w)
def goSub (i : Nat) (f : Ev) : EgO := fun ds w d => (f ds w).bind fun z => match z.1 with
  | .int k => (ownTo ds i fun xs => (ixN xs.length k).bind fun j => some (xs.set j d)).bind fun ds' => some (ds', z.2)
  | _ => none
def gosNil : EgsO := fun ds w xs => match xs with | [] => some (ds, w) | _ => none
def gosCons (g : EgO) (h : EgsO) : EgsO := fun ds w xs => match xs with | x :: r => (g ds w x).bind fun p => h p.1 p.2 r | _ => none
def goT (n : Nat) (h : EgsO) : EgO := fun ds w d => match d with | .tup xs => if xs.length = n then h ds w xs else none | _ => none
variable {tg : Expr} {es : List Expr} {g : EgO} {h : EgsO}
theorem jgo_of {g : Eg} {js : List Nat} (h : JG X tg g js) : JGO X tg (goN g) := ⟨pg_weak h.run fun v σ H Q ⟨Z, F, ds, w, d, ds', w', rr, hd, hg, k⟩ => by
  obtain ⟨ds1, h1, h2⟩ := bind2 hg
  cases h2
  exact ⟨Z, F, ds, w, _, _, rr, hd, h1, fun σ' r _ _ => k σ' F H (Same.refl _) r⟩⟩
theorem jgo_sub (i : Nat) {x : Str} {p1 : Pos} {ix : Expr} {fi : Ev} (hi : JB X ix fi) (hN : X.N[i]? = some x := by rfl) (hv : Vis X.env.scope x := by first | exact Or.inl rfl | exact Or.inr (Or.inl rfl) | exact Or.inr (Or.inr rfl)) (hd : (x == ("__debug__" : Str)) = false := by decide) (hcd : (x == ("__classdict__" : Str)) = false := by decide)
    (ha : ∀ v, assign (.Subscript (.Name x p1) ix pos) X.env v = (do
      let ov ← holding [v] (eval (.Name x p1) X.env)
      let iv ← holding [v, ov] (eval ix X.env)
      standAt pos
      holding [v, ov, iv] (setItem ov iv v)
      release [v, ov, iv] []) := by intro _; rfl) : JGO X (.Subscript (.Name x p1) ix pos) (goSub i fi) := ⟨pg_weak (pg_sub (pe_var hN hv hd hcd) hi.run set_list ha) fun v σ H Q ⟨Z, F, ds, w, d, ds', w', rr, hden, hg, k⟩ => by
  obtain ⟨⟨z, w1⟩, hz, hg⟩ := bind2 hg
  cases z <;> first | cases hg | skip
  rename_i kk
  obtain ⟨ds1, ho, hg⟩ := bind2 hg
  cases hg
  obtain ⟨xs, ys, s, s', hs, hys, rfl, hss⟩ := ownTo_spec ho
  obtain ⟨j, hj, hys⟩ := bind2 hys
  cases hys
  obtain ⟨a, vs, h1, h2, h3, h4, h5⟩ := rr.own1 (own_or hs hss)
  refine ⟨.ref a, h1, Z, F, ds, w, _, _, rr, hz, fun u F1 H1 s1 d1 hu => ?_⟩
  refine ⟨a, vs, kk, j, rfl, hu.int, s1.h a _ h4 h2, by rw [h5.len]; exact hj, ?_⟩
  exact k σ F1 _ s1.f ((rr.step s1 d1).turn hs h1 hss ((h5.mono s1.f).set j (hden.mono s1.f)))⟩
theorem jgso_nil : JGsO X [] gosNil := ⟨pgs_weak pgs_nil fun v σ H Q ⟨Z, F, ds, w, d, ds', w', rr, hd, hg, k⟩ => by
  unfold gosNil at hg
  split at hg
  · cases hg
    unfold Dens at hd
    exact ⟨hd, k σ F H (Same.refl _) rr⟩
  · cases hg⟩
theorem jgso_cons (h1 : JGO X e g) (h2 : JGsO X es h) (hs : (assignEach (e :: es) X.env).map (·.2) = assign e X.env :: (assignEach es X.env).map (·.2) := by rfl) : JGsO X (e :: es) (gosCons g h) := ⟨pgs_weak (pgs_cons h1.run h2.run hs) fun v σ H Q ⟨Z, F, ds, w, d, ds', w', rr, hd, hg, k⟩ => by
  unfold gosCons at hg
  split at hg
  · obtain ⟨⟨ds1, w1⟩, g1, g2⟩ := bind2 hg
    unfold Dens at hd
    obtain ⟨u, r, rfl, d1, d2⟩ := hd
    exact ⟨u, r, rfl, Z, F, ds, w, _, _, _, rr, d1, g1, fun σ1 F1 H1 s1 r1 => ⟨Z, F1, ds1, w1, _, _, _, r1, d2.mono s1, g2, fun σ2 F2 H2 s2 r2 => k σ2 F2 H2 (s1.trans s2) r2⟩⟩
  · cases hg⟩
theorem jgo_tup {kk n : Nat} (hc : X.calm = true) (h1 : JGsO X es h) (hn : (assignEach es X.env).length = n := by rfl) (hst : (assignEach es X.env).findIdx? (·.1) = none := by rfl) : JGO X (.Tuple es kk pos) (goT n h) := ⟨pg_weak (pg_tup hc h1.run hn hst) fun v σ H Q ⟨Z, F, ds, w, d, ds', w', rr, hd, hg, k⟩ => by
  unfold goT at hg
  split at hg
  · split at hg
    · rename_i hl
      unfold Den at hd
      obtain ⟨a, vs, rfl, h1, h2⟩ := hd
      exact ⟨a, vs, rfl, same_t h1 rr.ex, by rw [h2.len]; exact hl, Z, F, ds, w, _, _, _, rr, h2, hg, k⟩
    · cases hg
  · cases hg⟩
def sAsg (f : Ev) (g : EgO) : Es := fun ds w => (f ds w).bind fun d => (g ds d.2 d.1).bind fun r => some (.nx r.1 r.2)
theorem js_asg (he : JE X e fe) (hg : JGO X tg g) (hs : swapsWithSole [tg] e pos.line X.env = pure false := by rfl) (hw : swappedStores [tg] e X.env = pure none := by rfl) (h1 : (assignEach [tg] X.env).map (·.2) = [assign tg X.env] := by rfl) : JS X (.Assign [tg] e pos) (sAsg fe g) := ⟨ps_weak (ps_asg he.run hg.run hs hw h1) fun D σ H ⟨Z, F, ds, w, o, rr, hf, k⟩ => by
  obtain ⟨d, hd, hf⟩ := bind2 hf
  obtain ⟨r, hr, hf⟩ := bind2 hf
  cases hf
  exact ⟨Z, F, ds, w, _, _, rr, hd, fun v F1 H1 s1 d1 hv => ⟨Z, F1, ds, _, _, _, _, rr.step s1 d1, hv, hr, fun σ2 F2 H2 s2 r2 => k σ2 F2 H2 (s1.f.trans s2) r2⟩⟩⟩
/-! ### several values to names at once: values, new lists -/
abbrev Ep := List Sl → Wd → Option (List Sl × Wd)
/-- the state with more slots behind -/
theorem R.front {τ : L2.St} {ts : List Sl} (r : R K Z F H (σ ++ τ) (ds ++ ts) w) (hl : σ.length = ds.length) : R K Z F H σ ds w := by
  refine ⟨r.ex, r.fp, r.dr, r.pm, r.hm, r.m0, r.keep, r.nw, r.f0, hl, ?_⟩
  obtain ⟨α, inj, hα⟩ := r.env
  have up : ∀ {i : Nat} {s : Sl}, ds[i]? = some s → (ds ++ ts)[i]? = some s := fun {i s} h => by
    rw [List.getElem?_append_left (List.getElem?_eq_some_iff.mp h).1]
    exact h
  refine ⟨α, fun i j ⟨s, h1, h2⟩ ⟨t, h3, h4⟩ => inj i j ⟨s, up h1, h2⟩ ⟨t, up h3, h4⟩, fun i s h => ?_⟩
  have hi := (List.getElem?_eq_some_iff.mp h).1
  have z := hα i s (up h)
  have e : (σ ++ τ)[i]? = σ[i]? := List.getElem?_append_left (by rw [hl]; exact hi)
  cases s with
  | no => trivial
  | d x => exact ⟨z.choose, by rw [← e]; exact z.choose_spec.1, z.choose_spec.2⟩
  | own xs => exact ⟨by rw [← e]; exact z.1, z.2⟩
  | mu k xs => exact ⟨by rw [← e]; exact z.1, z.2⟩
theorem R.none1 (r : R K Z F H σ ds w) : R K Z F H (σ ++ [none]) (ds ++ [.no]) w := by
  refine ⟨r.ex, r.fp, r.dr, r.pm, r.hm, r.m0, r.keep, r.nw, r.f0, by rw [List.length_append, List.length_append, r.len]; rfl, ?_⟩
  obtain ⟨α, inj, hα⟩ := r.env
  have back : ∀ {i : Nat} {s : Sl}, (ds ++ [.no])[i]? = some s → s ≠ .no → ds[i]? = some s := fun {i s} h hn => by
    by_cases hi : i < ds.length
    · rw [List.getElem?_append_left hi] at h
      exact h
    · rw [List.getElem?_append_right (by omega)] at h
      cases hk : i - ds.length with
      | zero =>
        rw [hk] at h
        cases h
        exact absurd rfl hn
      | succ n =>
        rw [hk] at h
        cases h
  refine ⟨α, fun i j ⟨s, h1, h2⟩ ⟨t, h3, h4⟩ => inj i j ⟨s, back h1 (by rintro rfl; cases h2), h2⟩ ⟨t, back h3 (by rintro rfl; cases h4), h4⟩, fun i s h => ?_⟩
  by_cases hs : s = .no
  · subst hs
    trivial
  · have h0 := back h hs
    have hi := (List.getElem?_eq_some_iff.mp h0).1
    have z := hα i s h0
    have e : (σ ++ [none])[i]? = σ[i]? := List.getElem?_append_left (by rw [r.len]; exact hi)
    cases s with
    | no => trivial
    | d x => exact ⟨z.choose, by rw [e]; exact z.choose_spec.1, z.choose_spec.2⟩
    | own xs => exact ⟨by rw [e]; exact z.1, z.2⟩
    | mu k xs => exact ⟨by rw [e]; exact z.1, z.2⟩
theorem set_last {α : Type} (l : List α) (a b : α) : (l ++ [a]).set l.length b = l ++ [b] := by
  rw [List.set_append_right _ _ (Nat.le_refl _), Nat.sub_self]
  rfl
end
end J
namespace J
open PySem PyProof.Rows L2
section
variable {X : Cx} {K : PySem.W.Frag} {Z : Cfg} {F H : Hp} {σ σ' : L2.St} {ds ds' : List Sl} {w : Wd}
theorem R.remap (r : R K Z F H σ ds w) (φ : Nat → Nat) (hl : σ'.length = ds'.length) (h : ∀ i s, ds'[i]? = some s → s = .no ∨ (ds[φ i]? = some s ∧ σ'[i]? = σ[φ i]?)) (inj : ∀ i j, i < ds'.length → j < ds'.length → φ i = φ j → i = j) : R K Z F H σ' ds' w := by
  refine ⟨r.ex, r.fp, r.dr, r.pm, r.hm, r.m0, r.keep, r.nw, r.f0, hl, ?_⟩
  obtain ⟨α, injα, hα⟩ := r.env
  have ow : ∀ i, isOwn ds' i → isOwn ds (φ i) ∧ i < ds'.length := fun i ⟨s, h1, h2⟩ => by
    refine ⟨?_, (List.getElem?_eq_some_iff.mp h1).1⟩
    rcases h i s h1 with rfl | ⟨h3, _⟩
    · cases h2
    · exact ⟨s, h3, h2⟩
  refine ⟨fun i => α (φ i), fun i j hi hj e => inj i j (ow i hi).2 (ow j hj).2 (injα _ _ (ow i hi).1 (ow j hj).1 e), fun i s hs => ?_⟩
  rcases h i s hs with rfl | ⟨h3, h4⟩
  · trivial
  · have z := hα (φ i) s h3
    cases s with
    | no => trivial
    | d x => exact ⟨z.choose, by rw [h4]; exact z.choose_spec.1, z.choose_spec.2⟩
    | own xs => exact ⟨by rw [h4]; exact z.1, z.2⟩
    | mu k xs => exact ⟨by rw [h4]; exact z.1, z.2⟩
/-! ### values at once -/
def canP (K : PySem.W.Frag) (f : Ep) : TA := fun σ H Q => ∃ Z F ds τ ts0 w ts w', σ.length = ds.length ∧ R K Z F H (σ ++ τ) (ds ++ ts0) w ∧ f ds w = some (ts, w') ∧ ∀ vs F' H', Same F F' → vs.length = ts.length → R K Z F' H' (σ ++ (τ ++ vs.map some)) (ds ++ (ts0 ++ ts)) w' → Q vs H'
structure JP (X : Cx) (es : List Expr) (f : Ep) : Prop where run : PA X es (canP X.K f)
def pNil : Ep := fun _ w => some ([], w)
def pD (f : Ev) (g : Ep) : Ep := fun ds w => (f ds w).bind fun d => (g ds d.2).bind fun r => some (.d d.1 :: r.1, r.2)
def pO (f : Ef) (g : Ep) : Ep := fun ds w => (f ds w).bind fun d => (g ds d.2).bind fun r => some (.own d.1 :: r.1, r.2)
variable {e : Expr} {es : List Expr} {f : Ev} {fl : Ef} {g : Ep} {pos : Pos}
theorem jp_nil : JP X [] pNil := ⟨pa_weak pa_nil fun σ H Q ⟨Z, F, ds, τ, ts0, w, ts, w', hl, rr, hf, k⟩ => by
  cases hf
  exact k [] F H (Same.refl _) rfl (by rw [List.map_nil, List.append_nil, List.append_nil]; exact rr)⟩
theorem R.push (r : R K Z F H σ ds w) {d : D} {v : V} (hd : Den K Z.p F d v) : R K Z F H (σ ++ [some v]) (ds ++ [.d d]) w := by
  have z := (r.none1).set (i := σ.length) hd
  rw [set_last, r.len, set_last] at z
  exact z
theorem jp_d (h : JE X e f) (hr : JP X es g) (hs : starEach (e :: es) X.env = (false, eval e X.env) :: starEach es X.env := by rfl) : JP X (e :: es) (pD f g) := ⟨pa_weak (pa_cons h.run hr.run hs) fun σ H Q ⟨Z, F, ds, τ, ts0, w, ts, w', hl, rr, hf, k⟩ => by
  obtain ⟨d, hd, hf⟩ := bind2 hf
  obtain ⟨r, hr, hf⟩ := bind2 hf
  cases hf
  refine ⟨Z, F, ds, w, _, _, rr.front hl, hd, fun v F1 H1 s1 d1 hv => ⟨Z, F1, ds, τ ++ [some v], ts0 ++ [.d d.1], _, _, _, hl, ?_, hr, fun vs F2 H2 s2 hlen r2 => k (v :: vs) F2 H2 (s1.f.trans s2) (by rw [List.length_cons, List.length_cons, hlen]) ?_⟩⟩
  · have z := (rr.step s1 d1).push hv
    rw [List.append_assoc, List.append_assoc] at z
    exact z
  · rw [List.append_assoc τ, List.append_assoc ts0] at r2
    exact r2⟩
theorem jp_o (h : JF X e fl) (hr : JP X es g) (hs : starEach (e :: es) X.env = (false, eval e X.env) :: starEach es X.env := by rfl) : JP X (e :: es) (pO fl g) := ⟨pa_weak (pa_cons h.run hr.run hs) fun σ H Q ⟨Z, F, ds, τ, ts0, w, ts, w', hl, rr, hf, k⟩ => by
  obtain ⟨d, hd, hf⟩ := bind2 hf
  obtain ⟨r, hr, hf⟩ := bind2 hf
  cases hf
  refine ⟨Z, F, ds, w, _, _, rr.front hl, hd, fun q us F1 H1 s1 d1 h1 h2 h3 h4 h5 => ⟨Z, F1, ds, τ ++ [some (.ref q)], ts0 ++ [.own d.1], _, _, _, hl, ?_, hr, fun vs F2 H2 s2 hlen r2 => k (.ref q :: vs) F2 H2 (s1.f.trans s2) (by rw [List.length_cons, List.length_cons, hlen]) ?_⟩⟩
  · have z := R.fresh (σ ++ τ).length (rr.none1) s1 d1 h1 h2 h3 h4 h5
    rw [set_last, rr.len, set_last, List.append_assoc, List.append_assoc] at z
    exact z
  · rw [List.append_assoc τ, List.append_assoc ts0] at r2
    exact r2⟩
def sPar2 (i j : Nat) (f : Ep) : Es := fun ds w => (f ds w).bind fun r => match r.1 with | [a, b] => some (.nx ((ds.set i a).set j b) r.2) | _ => none
theorem R.par2 {a b : Sl} {v u : V} {i j : Nat} (hij : i ≠ j) (hl : σ.length = ds.length) (r : R K Z F H (σ ++ [some v, some u]) (ds ++ [a, b]) w) : R K Z F H ((σ.set i (some v)).set j (some u)) ((ds.set i a).set j b) w := by
  refine r.remap (fun k => if k = j then ds.length + 1 else if k = i then ds.length else k) (by simp [hl]) (fun k s hk => .inr ?_) (fun k l hk hl' e => ?_)
  · have hkl : k < ds.length := by
      have := (List.getElem?_eq_some_iff.mp hk).1
      simpa using this
    try dsimp only
    by_cases h1 : k = j
    · subst h1
      rw [if_pos rfl]
      rw [List.getElem?_set_self (by simpa using hkl)] at hk
      cases hk
      rw [List.getElem?_set_self (by simp [hl]; exact hkl)]
      refine ⟨?_, ?_⟩
      · rw [List.getElem?_append_right (by omega)]
        have : ds.length + 1 - ds.length = 1 := by omega
        rw [this]
        rfl
      · rw [List.getElem?_append_right (by omega)]
        have : ds.length + 1 - σ.length = 1 := by omega
        rw [this]
        rfl
    · rw [if_neg h1]
      rw [List.getElem?_set_ne (Ne.symm h1)] at hk
      rw [List.getElem?_set_ne (Ne.symm h1)]
      by_cases h2 : k = i
      · subst h2
        rw [if_pos rfl]
        rw [List.getElem?_set_self hkl] at hk
        cases hk
        rw [List.getElem?_set_self (by rw [hl]; exact hkl)]
        refine ⟨?_, ?_⟩
        · rw [List.getElem?_append_right (by omega), Nat.sub_self]
          rfl
        · rw [List.getElem?_append_right (by omega)]
          have : ds.length - σ.length = 0 := by omega
          rw [this]
          rfl
      · rw [if_neg h2]
        rw [List.getElem?_set_ne (Ne.symm h2)] at hk
        rw [List.getElem?_set_ne (Ne.symm h2)]
        exact ⟨by rw [List.getElem?_append_left hkl]; exact hk, by rw [List.getElem?_append_left (by rw [hl]; exact hkl)]⟩
  · try dsimp only at e
    have hk' : k < ds.length := by simpa using hk
    have hl'' : l < ds.length := by simpa using hl'
    split at e <;> split at e <;> first | omega | (split at e <;> first | omega | (split at e <;> omega))
theorem js_par2 (i j : Nat) {x y : Str} {a b : Expr} {px py pt : Pos} {kt k2 : Nat} {pt2 : Pos} (hc : X.calm = true) (hN : X.N.Nodup) (ha : JP X [a, b] g) (hi : X.N[i]? = some x := by rfl) (hj : X.N[j]? = some y := by rfl) (hij : i ≠ j := by decide)
    (hx : X.env.scope.names.lookup x = some .local := by rfl) (hy : X.env.scope.names.lookup y = some .local := by rfl)
    (hw : swappedStores [.Tuple [.Name x px, .Name y py] kt pt] (.Tuple [a, b] k2 pt2) X.env = pure (some [x, y]) := by rfl)
    (hs : swapsWithSole [.Tuple [.Name x px, .Name y py] kt pt] (.Tuple [a, b] k2 pt2) pos.line X.env = pure false := by rfl) :
    JS X (.Assign [.Tuple [.Name x px, .Name y py] kt pt] (.Tuple [a, b] k2 pt2) pos) (sPar2 i j g) := ⟨ps_weak (ps_par hc hN hi hj hij hx hy ha.run hw hs) fun D σ H ⟨Z, F, ds, w, o, rr, hf, k⟩ => by
  obtain ⟨⟨ts, w1⟩, h1, hf⟩ := bind2 hf
  dsimp only at hf
  split at hf
  · cases hf
    refine ⟨Z, F, ds, [], [], w, _, _, rr.len, by rw [List.append_nil, List.append_nil]; exact rr, h1, fun vs F1 H1 s1 hlen r1 => ?_⟩
    match vs, hlen with
    | [v, u], _ => exact ⟨v, u, rfl, k _ F1 H1 s1 (R.par2 hij rr.len r1)⟩
  · cases hf⟩
def sPar3 (i j l : Nat) (f : Ep) : Es := fun ds w => (f ds w).bind fun r => match r.1 with | [a, b, c] => some (.nx (((ds.set i a).set j b).set l c) r.2) | _ => none
theorem R.par3 {a b c : Sl} {v u t : V} {i j m : Nat} (hij : i ≠ j) (him : i ≠ m) (hjm : j ≠ m) (hl : σ.length = ds.length) (r : R K Z F H (σ ++ [some v, some u, some t]) (ds ++ [a, b, c]) w) : R K Z F H (((σ.set i (some v)).set j (some u)).set m (some t)) (((ds.set i a).set j b).set m c) w := by
  refine r.remap (fun k => if k = m then ds.length + 2 else if k = j then ds.length + 1 else if k = i then ds.length else k) (by simp [hl]) (fun k s hk => .inr ?_) (fun k l hk hl' e => ?_)
  · have hkl : k < ds.length := by
      have := (List.getElem?_eq_some_iff.mp hk).1
      simpa using this
    try dsimp only
    by_cases h0 : k = m
    · subst h0
      rw [if_pos rfl]
      rw [List.getElem?_set_self (by simpa using hkl)] at hk
      cases hk
      rw [List.getElem?_set_self (by simp [hl]; exact hkl)]
      refine ⟨?_, ?_⟩
      · rw [List.getElem?_append_right (by omega)]
        have : ds.length + 2 - ds.length = 2 := by omega
        rw [this]
        rfl
      · rw [List.getElem?_append_right (by omega)]
        have : ds.length + 2 - σ.length = 2 := by omega
        rw [this]
        rfl
    rw [if_neg h0]
    rw [List.getElem?_set_ne (Ne.symm h0)] at hk
    rw [List.getElem?_set_ne (Ne.symm h0)]
    by_cases h1 : k = j
    · subst h1
      rw [if_pos rfl]
      rw [List.getElem?_set_self (by simpa using hkl)] at hk
      cases hk
      rw [List.getElem?_set_self (by simp [hl]; exact hkl)]
      refine ⟨?_, ?_⟩
      · rw [List.getElem?_append_right (by omega)]
        have : ds.length + 1 - ds.length = 1 := by omega
        rw [this]
        rfl
      · rw [List.getElem?_append_right (by omega)]
        have : ds.length + 1 - σ.length = 1 := by omega
        rw [this]
        rfl
    · rw [if_neg h1]
      rw [List.getElem?_set_ne (Ne.symm h1)] at hk
      rw [List.getElem?_set_ne (Ne.symm h1)]
      by_cases h2 : k = i
      · subst h2
        rw [if_pos rfl]
        rw [List.getElem?_set_self hkl] at hk
        cases hk
        rw [List.getElem?_set_self (by rw [hl]; exact hkl)]
        refine ⟨?_, ?_⟩
        · rw [List.getElem?_append_right (by omega), Nat.sub_self]
          rfl
        · rw [List.getElem?_append_right (by omega)]
          have : ds.length - σ.length = 0 := by omega
          rw [this]
          rfl
      · rw [if_neg h2]
        rw [List.getElem?_set_ne (Ne.symm h2)] at hk
        rw [List.getElem?_set_ne (Ne.symm h2)]
        exact ⟨by rw [List.getElem?_append_left hkl]; exact hk, by rw [List.getElem?_append_left (by rw [hl]; exact hkl)]⟩
  · try dsimp only at e
    have hk' : k < ds.length := by simpa using hk
    have hl'' : l < ds.length := by simpa using hl'
    repeat' split at e
    all_goals omega
theorem js_par3 (i j l : Nat) {x y z : Str} {a b c : Expr} {px py pz pt : Pos} {kt k2 : Nat} {pt2 : Pos} (hc : X.calm = true) (hN : X.N.Nodup) (ha : JP X [a, b, c] g) (hi : X.N[i]? = some x := by rfl) (hj : X.N[j]? = some y := by rfl) (hl : X.N[l]? = some z := by rfl) (hij : i ≠ j := by decide) (hil : i ≠ l := by decide) (hjl : j ≠ l := by decide)
    (hx : X.env.scope.names.lookup x = some .local := by rfl) (hy : X.env.scope.names.lookup y = some .local := by rfl) (hz : X.env.scope.names.lookup z = some .local := by rfl)
    (hw : swappedStores [.Tuple [.Name x px, .Name y py, .Name z pz] kt pt] (.Tuple [a, b, c] k2 pt2) X.env = pure (some [x, y, z]) := by rfl)
    (hs : swapsWithSole [.Tuple [.Name x px, .Name y py, .Name z pz] kt pt] (.Tuple [a, b, c] k2 pt2) pos.line X.env = pure false := by rfl) :
    JS X (.Assign [.Tuple [.Name x px, .Name y py, .Name z pz] kt pt] (.Tuple [a, b, c] k2 pt2) pos) (sPar3 i j l g) := ⟨ps_weak (ps_par3 hc hN hi hj hl hij hil hjl hx hy hz ha.run hw hs) fun D σ H ⟨Z, F, ds, w, o, rr, hf, k⟩ => by
  obtain ⟨⟨ts, w1⟩, h1, hf⟩ := bind2 hf
  dsimp only at hf
  split at hf
  · cases hf
    refine ⟨Z, F, ds, [], [], w, _, _, rr.len, by rw [List.append_nil, List.append_nil]; exact rr, h1, fun vs F1 H1 s1 hlen r1 => ?_⟩
    match vs, hlen with
    | [v, u, t], _ => exact ⟨v, u, t, rfl, k _ F1 H1 s1 (R.par3 hij hil hjl rr.len r1)⟩
  · cases hf⟩
/-! ### name op= e -/
def addI : D → D → Option D
  | .int i, .int j => some (.int (i + j))
  | .str s, .str t => if s.length + t.length ≤ line then some (.str (s ++ t)) else none
  | _, _ => none
theorem s_addI : OpS K (fun x y H Q => rI0 (fun i j => .int (i + j)) x y H Q ∨ ∃ i j, x = .str i ∧ y = .str j ∧ i.length + j.length ≤ sizeLine ∧ Q (.str (i ++ j)) H) addI := fun Z F H σ ds w a b d x y Q r hx hy hg k => by
  cases a <;> cases b <;> first | cases hg | skip
  · exact .inl ⟨_, _, hx.int, hy.int, k _ F H r.stp r.dr den_int⟩
  · unfold addI at hg
    dsimp only at hg
    split at hg
    · rename_i h
      cases hg
      exact .inr ⟨_, _, hx.str, hy.str, sz_of h, k _ F H r.stp r.dr den_str⟩
    · cases hg
def sAug (i : Nat) (g : D → D → Option D) (f : Ev) : Es := fun ds w => match ds[i]? with
  | some (.d x) => (f ds w).bind fun d => (g x d.1).bind fun z => some (.nx (ds.set i (.d z)) d.2)
  | _ => none
theorem js_augO (i : Nat) {x : Str} {op : Operator} {r : R2} {gg : D → D → Option D} {pos' : Pos} (ho : OpR X (inplaceOp op) r) (hs : OpS X.K r gg) (hN : X.N.Nodup) (he : JB X e f) (hi : X.N[i]? = some x) (hx : Loc X.env.scope x) (hf : X.fn x = true ∨ X.env.scope.names.lookup x = some .local) :
    JS X (.AugAssign (.Name x pos') op e pos) (sAug i gg f) := ⟨ps_weak (ps_aug hN hi hx he.run ho hf) fun D σ H ⟨Z, F, ds, w, o, rr, hf, k⟩ => by
  unfold sAug at hf
  split at hf
  · rename_i x0 hx0
    obtain ⟨d, hd, hf⟩ := bind2 hf
    obtain ⟨z, hz, hf⟩ := bind2 hf
    cases hf
    obtain ⟨α, _, hα⟩ := rr.env
    obtain ⟨u, h1, h2⟩ := hα i _ hx0
    refine ⟨u, h1, Z, F, ds, w, _, _, rr, hd, fun v F1 H1 s1 d1 hv => ?_⟩
    have r1 := rr.step s1 d1
    exact hs Z F1 H1 σ ds _ _ _ _ u v _ r1 (.inl (Den.mono s1.f _ _ h2)) hv hz fun t F2 H2 s2 d2 ht => k _ F2 H2 (s1.f.trans s2.f) ((r1.step s2 d2).set ht)
  · cases hf⟩
theorem js_augAdd (i : Nat) {x : Str} {pos' : Pos} (hN : X.N.Nodup) (he : JB X e f) (hi : X.N[i]? = some x := by rfl) (hx : Loc X.env.scope x := by first | exact Or.inl rfl | exact Or.inr rfl) (hf : X.fn x = true ∨ X.env.scope.names.lookup x = some .local := by first | exact .inl rfl | exact .inr rfl | assumption) : JS X (.AugAssign (.Name x pos') .Add e pos) (sAug i addI f) := js_augO i (OpR.or iop_add iop_add_str) s_addI hN he hi hx hf
theorem js_augSub (i : Nat) {x : Str} {pos' : Pos} (hN : X.N.Nodup) (he : JB X e f) (hi : X.N[i]? = some x := by rfl) (hx : Loc X.env.scope x := by first | exact Or.inl rfl | exact Or.inr rfl) (hf : X.fn x = true ∨ X.env.scope.names.lookup x = some .local := by first | exact .inl rfl | exact .inr rfl | assumption) : JS X (.AugAssign (.Name x pos') .Sub e pos) (sAug i subD f) := js_augO i iop_sub (s_I0 _) hN he hi hx hf
theorem js_augMul (i : Nat) {x : Str} {pos' : Pos} (hN : X.N.Nodup) (he : JB X e f) (hi : X.N[i]? = some x := by rfl) (hx : Loc X.env.scope x := by first | exact Or.inl rfl | exact Or.inr rfl) (hf : X.fn x = true ∨ X.env.scope.names.lookup x = some .local := by first | exact .inl rfl | exact .inr rfl | assumption) : JS X (.AugAssign (.Name x pos') .Mult e pos) (sAug i mulD0 f) := js_augO i iop_mul (s_I okMul _ fun a b h => by
  unfold okMul at h
  rcases Bool.or_eq_true_iff.mp h with h | h
  · exact .inl (of_decide_eq_true h)
  · exact .inr (of_decide_eq_true h)) hN he hi hx hf
def okDivS (_ j : Int) : Bool := decide (0 < j ∧ j < 1073741824)
def divDS := g2I okDivS (fun i j => i / j)
theorem js_augDiv (i : Nat) {x : Str} {pos' : Pos} (hN : X.N.Nodup) (he : JB X e f) (hi : X.N[i]? = some x := by rfl) (hx : Loc X.env.scope x := by first | exact Or.inl rfl | exact Or.inr rfl) (hf : X.fn x = true ∨ X.env.scope.names.lookup x = some .local := by first | exact .inl rfl | exact .inr rfl | assumption) : JS X (.AugAssign (.Name x pos') .FloorDiv e pos) (sAug i divDS f) := js_augO i iop_fdiv (s_I okDivS _ fun a b h => by unfold okDivS at h; exact (of_decide_eq_true h : 0 < b ∧ b < 1073741824)) hN he hi hx hf
/-! ### the drawn list -/
def eDrIx (f g : Ev) : Ev := fun ds w => (f ds w).bind fun a => (g ds a.2).bind fun b => match a.1, b.1 with
  | .draw, .int 0 => some (.lst (b.2.ns.map D.int), b.2)
  | .draw, .int 1 => some (.int 0, b.2)
  | .draw, .int 2 => some (.int b.2.c, b.2)
  | _, _ => none
variable {a b : Expr} {fa fb : Ev}
theorem je_drix (ha : JE X a fa) (hb : JE X b fb) (hs : PlainIx b := by exact fun _ _ => rfl) : JE X (.Subscript a b pos) (eDrIx fa fb) := ⟨pe_weak (pe_ix ix_list ha.run hb.run hs) fun σ H Q ⟨Z, F, ds, w, d, w', rr, hf, k⟩ => by
  obtain ⟨⟨x, w1⟩, hx, hf⟩ := bind2 hf
  obtain ⟨⟨y, w2⟩, hy, hf⟩ := bind2 hf
  refine ⟨Z, F, ds, w, _, _, rr, hx, fun v F1 H1 s1 d1 hv => ⟨Z, F1, ds, _, _, _, rr.step s1 d1, hy, fun u F2 H2 s2 d2 hu => ?_⟩⟩
  have s12 := s1.trans s2
  obtain ⟨q, h1, h2⟩ := id d2
  dsimp only at hf
  split at hf
  · cases hf
    unfold Den at hv hu
    exact ⟨_, _, 0, _, hv, hu, .of h1, rfl, k _ F2 H2 s12 d2 (den_lst h2 (Dens.ints _))⟩
  · cases hf
    unfold Den at hv hu
    exact ⟨_, _, 1, _, hv, hu, .of h1, rfl, k _ F2 H2 s12 d2 den_int⟩
  · cases hf
    unfold Den at hv hu
    exact ⟨_, _, 2, _, hv, hu, .of h1, rfl, k _ F2 H2 s12 d2 den_int⟩
  · cases hf⟩
theorem R.count (r : R K Z F H σ ds w) (c : Int) {q : Addr} (h : H Z.p = some (.lst [.ref q, .int 0, .int w.c])) (hq : F q = some (.lst (w.ns.map V.int))) : R K Z F (upd H Z.p (.lst [.ref q, .int 0, .int c])) σ ds ⟨w.ns, c⟩ := by
  refine ⟨fun b o z => ?_, r.fp, ⟨q, upd_same, hq⟩, r.pm, fun b hb => ⟨?_, (r.hm b hb).2⟩, r.m0, fun b o hb hm z => ?_, r.nw, r.f0, r.len, ?_⟩
  · rw [upd_ne (ne_of_none z r.fp)]
    exact r.ex b o z
  · obtain ⟨o, ho⟩ := (r.hm b hb).1
    exact ⟨o, by rw [upd_ne (fun z : b = Z.p => r.pm (z ▸ hb))]; exact ho⟩
  · rw [upd_ne hb]
    exact r.keep b o hb hm z
  · obtain ⟨α, inj, hα⟩ := r.env
    refine ⟨α, inj, fun i s hs => ?_⟩
    have z := hα i s hs
    cases s with
    | no => trivial
    | d x => exact z
    | own xs =>
      obtain ⟨h1, ⟨us, h2, h3, h4, h5⟩, h6⟩ := z
      exact ⟨h1, ⟨us, by rw [upd_ne h4]; exact h2, h3, h4, h5⟩, h6⟩
    | mu k xs =>
      obtain ⟨h1, ⟨us, h2, h3, h4, h5⟩, h6⟩ := z
      exact ⟨h1, ⟨us, by rw [upd_ne h4]; exact h2, h3, h4, h5⟩, h6⟩
/-- draw[2] = e -/
def goDr (fa fb : Ev) : EgO := fun ds w d => (fa ds w).bind fun a => (fb ds a.2).bind fun b => match a.1, b.1, d with
  | .draw, .int 2, .int c => some (ds, ⟨b.2.ns, c⟩)
  | _, _, _ => none
theorem jgo_dr (h1 : JE X a fa) (h2 : JE X b fb)
    (ha : ∀ v, assign (.Subscript a b pos) X.env v = (do
      let ov ← holding [v] (eval a X.env)
      let iv ← holding [v, ov] (eval b X.env)
      standAt pos
      holding [v, ov, iv] (setItem ov iv v)
      release [v, ov, iv] []) := by intro _; rfl) : JGO X (.Subscript a b pos) (goDr fa fb) := ⟨pg_weak (pg_sub h1.run h2.run set_list ha) fun v σ H Q ⟨Z, F, ds, w, d, ds', w', rr, hden, hg, k⟩ => by
  obtain ⟨⟨x, w1⟩, hx, hg⟩ := bind2 hg
  obtain ⟨⟨y, w2⟩, hy, hg⟩ := bind2 hg
  refine ⟨Z, F, ds, w, _, _, rr, hx, fun o F1 H1 s1 d1 ho => ⟨Z, F1, ds, _, _, _, rr.step s1 d1, hy, fun i F2 H2 s2 d2 hi => ?_⟩⟩
  dsimp only at hg
  split at hg
  · cases hg
    unfold Den at ho hi hden
    subst hden
    obtain ⟨q, q1, q2⟩ := id d2
    exact ⟨_, _, 2, 2, ho, hi, q1, rfl, k σ F2 _ (s1.f.trans s2.f) ((rr.step (s1.trans s2) d2).count _ q1 q2)⟩
  · cases hg⟩
end
end J
namespace J
open PySem PyProof.Rows L2
/-! ### defs -/
abbrev Fn := List D → Wd → Option (D × Wd)
def spJ (K : PySem.W.Frag) (n : Nat) (G : Fn) : Sp := fun vs H Q _ => vs.length = n ∧ ∃ Z F ds w d w', R K Z F H [] [] w ∧ Dens K Z.p F ds vs ∧ G ds w = some (d, w') ∧ KD K Z.p F H w' d Q
structure CalJ (P : Program) (w : World) (K : PySem.W.Frag) (mg : Str → Option Value) (base : Heap) (k : Nat) (x : Str) (n : Nat) (G : Fn) : Prop where
  ex : ∃ (f : Addr) (fd : FuncData) (ps : List Str), FnOk P w K mg base CX0 k f fd ps (spJ K n G) ∧ mg x = some (.ref f) ∧ PySem.W.keepIn K (.ref f) = true ∧ Binds K fd ps []
section
variable {K : PySem.W.Frag} {Z : Cfg} {F H : Hp} {σ : L2.St} {ds : List Sl} {w : Wd}
theorem R.nil (r : R K Z F H σ ds w) : R K Z F H [] [] w := ⟨r.ex, r.fp, r.dr, r.pm, r.hm, r.m0, r.keep, r.nw, r.f0, rfl, fun _ => 0, fun i j ⟨s, h, _⟩ => (by cases h), fun i s h => (by cases h)⟩
def eCall (n : Nat) (G : Fn) (fs : Ef) : Ev := fun ds w => (fs ds w).bind fun a => if a.1.length = n then G a.1 a.2 else none
variable {X : Cx} {x : Str} {e : Expr} {es : List Expr} {fs : Ef} {p pos : Pos} {k j n : Nat} {G : Fn}
theorem je_call (c : CalJ X.prog X.w X.K X.mg X.base k x n G) (hr : Room j X.A) (hk : k ≤ j) (hg : Gl X x) (ha : JA X (e :: es) fs) (hdb : (x == ("__debug__" : Str)) = false := by decide) (he : starEach (e :: es) X.env = (false, eval e X.env) :: starEach es X.env := by rfl) (hpl : (backTo pos (starEach es X.env)).any (·.1) = false := by rfl) :
    JE X (.Call (.Name x p) (e :: es) [] pos) (eCall n G fs) := ⟨by
  obtain ⟨f, fd, ps, F, hm, kp, b⟩ := c.ex
  refine pe_weak (pe_call F (hr.mono hk) hg hm kp b .nil pass0 ha.run hdb he hpl) fun σ H Q ⟨Z, F, ds, w, d, w', rr, hf, k⟩ => ?_
  obtain ⟨a, ha, hf⟩ := bind2 hf
  split at hf
  · rename_i hl
    refine ⟨Z, F, ds, w, _, _, rr, ha, fun vs F1 H1 s1 d1 hv => ?_⟩
    show spJ X.K n G (vs ++ []) H1 Q E0
    rw [List.append_nil]
    exact ⟨by rw [hv.len]; exact hl, Z, F1, _, _, d, w', (rr.step s1 d1).nil, hv, hf, k.go s1⟩
  · cases hf⟩
theorem je_call0 (c : CalJ X.prog X.w X.K X.mg X.base k x 0 G) (hr : Room j X.A) (hk : k ≤ j) (hg : Gl X x) (hdb : (x == ("__debug__" : Str)) = false := by decide) : JE X (.Call (.Name x p) [] [] pos) (eCall 0 G aNil) := ⟨by
  obtain ⟨f, fd, ps, F, hm, kp, b⟩ := c.ex
  refine pe_weak (pe_call0 F (hr.mono hk) hg hm kp b .nil pass0 hdb) fun σ H Q ⟨Z, F, ds, w, d, w', rr, hf, k⟩ => ?_
  obtain ⟨a, ha, hf⟩ := bind2 hf
  cases ha
  have hf2 : G [] w = some (d, w') := hf
  exact ⟨rfl, Z, F, _, _, d, w', rr.nil, dens_nil, hf2, k⟩⟩
/-- the slots at the entry -/
def startS (m : Nat) (ds : List D) : List Sl := ds.map Sl.d ++ List.replicate (m - ds.length) .no
def fin (o : Option Out) : Option (D × Wd) := match o with
  | some (.rt d w) => some (d, w)
  | some (.nx _ w) => some (.non, w)
  | _ => none
def callS (m : Nat) (g : Es) : Fn := fun ds w => fin (g (startS m ds) w)
theorem start_env {N : List Str} {ds : List D} {vs : List V} (h : Dens K Z.p F ds vs) (i : Nat) (s : Sl) (hs : (startS N.length ds)[i]? = some s) : s = .no ∨ ∃ d u, s = .d d ∧ (L2.start N vs)[i]? = some (some u) ∧ Den K Z.p F d u := by
  unfold startS at hs
  by_cases hi : i < ds.length
  · rw [List.getElem?_append_left (by rw [List.length_map]; exact hi), List.getElem?_map] at hs
    obtain ⟨d, h1, h2⟩ := Option.map_eq_some_iff.mp hs
    obtain ⟨u, h3, h4⟩ := h.get h1
    refine .inr ⟨d, u, h2.symm, ?_, h4⟩
    unfold L2.start
    rw [List.getElem?_append_left (by rw [List.length_map, h.len]; exact hi), List.getElem?_map, h3]
    rfl
  · rw [List.getElem?_append_right (by rw [List.length_map]; omega)] at hs
    rw [List.getElem?_replicate] at hs
    split at hs
    · cases hs
      exact .inl rfl
    · cases hs
theorem start_len {N : List Str} {ds : List D} {vs : List V} (h : vs.length = ds.length) : (L2.start N vs).length = (startS N.length ds).length := by
  unfold L2.start startS
  rw [List.length_append, List.length_append, List.length_map, List.length_map, List.length_replicate, List.length_replicate, h]
/-- the entry of a def that keeps nothing -/
theorem R.entry {N : List Str} {es : List D} {vs : List V} (r : R K Z F H σ ds w) (h : Dens K Z.p F es vs) : R K ⟨Z.p, [], F, H⟩ F H (L2.start N vs) (startS N.length es) w := by
  have no : ∀ i, ¬ isOwn (startS N.length es) i := fun i ⟨s, h1, h2⟩ => by
    rcases start_env h i s h1 with rfl | ⟨d, u, rfl, _⟩ <;> cases h2
  refine ⟨r.ex, r.fp, r.dr, List.not_mem_nil, fun b hb => (nomatch hb), fun b hb => (nomatch hb), fun b o _ _ z => z, fun b o z => .inl z, Same.refl _, start_len h.len, fun _ => 0, fun i j hi => absurd hi (no i), fun i s hs => ?_⟩
  rcases start_env h i s hs with rfl | ⟨d, u, rfl, h1, h2⟩
  · trivial
  · exact ⟨u, h1, h2⟩
theorem R.out {F' H' : Hp} {σ' : L2.St} {ds' : List Sl} {w' : Wd} {q : Addr} (r : R K ⟨q, [], F, H⟩ F' H' σ' ds' w') (e : Same F F') : Stp q F H F' H' :=
  ⟨e, fun b o hb z => r.keep b o hb List.not_mem_nil z, r.ex, r.nw, r.fp⟩
variable {P : Program} {wd : World} {mg : Str → Option Value} {base : Heap} {qual : Str} {st : Stmt} {f : Addr} {fd : FuncData} {N ps : List Str} {g : Es}
theorem fn_J (F : Fun K x qual st f fd) (S : FnScope N ps (defScope st))
    (hbody : ∀ (cdv : Value) (A : Around) (outer : List Env) (s : Shared) (H : Hp) (E : XK), Room k (A.deeper (envOfC qual (defScope st) s.heap.objs.size f cdv)) → JSs (cxOf CX0 P wd K mg base N qual (defScope st) f cdv A outer s H E).nox (defBody st) g) :
    FnOk P wd K mg base CX0 (k + 1) f fd ps (spJ K ps.length (callS N.length g)) := by
  refine F.ok S (fun vs H Q E h => h.1) (fun cdv A outer s H vs Q E hr h => ⟨_, (hbody cdv A outer s H E hr).run, ?_⟩)
  obtain ⟨_, Z, F, ds, w, d, w', rr, hv, hG, k⟩ := h
  unfold callS at hG
  refine ⟨⟨Z.p, [], F, H⟩, F, startS N.length ds, w, ?_⟩
  cases ho : g (startS N.length ds) w with
  | none =>
    rw [ho] at hG
    cases hG
  | some o =>
    rw [ho] at hG
    refine ⟨o, rr.entry hv, rfl, ?_⟩
    cases o with
    | nx ds2 w2 =>
      cases hG
      exact fun σ' F' H' e r' => k .non F' H' (r'.out e) r'.dr den_non
    | rt d2 w2 =>
      cases hG
      exact fun v σ' ds' F' H' e r' hv => k v F' H' (r'.out e) r'.dr hv
    | bk ds2 w2 => cases hG
    | ct ds2 w2 => cases hG
theorem cal_J (F : Fun K x x st f fd) (hm : mg x = some (.ref f)) (b : Binds K fd ps []) (S : FnScope N ps (defScope st))
    (hbody : ∀ (cdv : Value) (A : Around) (outer : List Env) (s : Shared) (H : Hp) (E : XK), Room k (A.deeper (envOfC x (defScope st) s.heap.objs.size f cdv)) → JSs (cxOf CX0 P wd K mg base N x (defScope st) f cdv A outer s H E).nox (defBody st) g) :
    CalJ P wd K mg base (k + 1) x ps.length (callS N.length g) := ⟨f, fd, ps, fn_J F S hbody, hm, F.kp, b⟩
/-! ### defs that change the list that is given first -/
abbrev Fm := List D → List D → Wd → Option (List D × Wd)
def spM (K : PySem.W.Frag) (n : Nat) (G : Fm) : Sp := fun vs H Q _ => vs.length = n ∧ ∃ Z F a us xs rest ds w ys w', vs = .ref a :: rest ∧ R K Z F H [] [] w ∧ H a = some (.lst us) ∧ F a = none ∧ a ≠ Z.p ∧ Dens K Z.p F xs us ∧ Dens K Z.p F ds rest ∧ G xs ds w = some (ys, w') ∧
  ∀ F' H' us', Same F F' → (∀ b o, b ≠ Z.p → b ≠ a → H b = some o → H' b = some o) → Same F' H' → (∀ b o, F' b = some o → F b = some o ∨ H b = none) → F' Z.p = none → Dr Z.p F' H' w' → H' a = some (.lst us') → F' a = none → Dens K Z.p F' ys us' → Q .non H'
structure CalM (P : Program) (w : World) (K : PySem.W.Frag) (mg : Str → Option Value) (base : Heap) (k : Nat) (x : Str) (n : Nat) (G : Fm) : Prop where
  ex : ∃ (f : Addr) (fd : FuncData) (ps : List Str), FnOk P w K mg base CX0 k f fd ps (spM K n G) ∧ mg x = some (.ref f) ∧ PySem.W.keepIn K (.ref f) = true ∧ Binds K fd ps []
def callM (m : Nat) (g : Es) : Fm := fun xs ds w => match g (.mu 0 xs :: startS (m - 1) ds) w with
  | some (.nx ds' w') => match (ds'[0]? : Option Sl) with | some (Sl.mu 0 ys) => some (ys, w') | _ => none
  | _ => none
theorem fn_M {y : Str} {N' : List Str} (F : Fun K x qual st f fd) (S : FnScope (y :: N') ps (defScope st))
    (hbody : ∀ (cdv : Value) (A : Around) (outer : List Env) (s : Shared) (H : Hp) (E : XK), Room k (A.deeper (envOfC qual (defScope st) s.heap.objs.size f cdv)) → JSs (cxOf CX0 P wd K mg base (y :: N') qual (defScope st) f cdv A outer s H E).nox (defBody st) g) :
    FnOk P wd K mg base CX0 (k + 1) f fd ps (spM K ps.length (callM (y :: N').length g)) := by
  refine F.ok S (fun vs H Q E h => h.1) (fun cdv A outer s H vs Q E hr h => ⟨_, (hbody cdv A outer s H E hr).run, ?_⟩)
  obtain ⟨_, Z, F, a, us, xs, rest, ds, w, ys, w', rfl, rr, ha, hfa, hap, hxs, hv, hG, k⟩ := h
  unfold callM at hG
  have es : L2.start (y :: N') (.ref a :: rest) = some (.ref a) :: L2.start N' rest := by
    unfold L2.start
    rw [List.length_cons, List.length_cons, Nat.add_sub_add_right]
    rfl
  have r0 : R K ⟨Z.p, [a], F, H⟩ F H (L2.start (y :: N') (.ref a :: rest)) (.mu 0 xs :: startS ((y :: N').length - 1) ds) w := by
    rw [es]
    have e1 : (y :: N').length - 1 = N'.length := rfl
    rw [e1]
    refine ⟨rr.ex, rr.fp, rr.dr, fun z => hap (List.mem_singleton.mp z).symm, fun b hb => ?_, fun b hb => ?_, fun b o _ _ z => z, fun b o z => .inl z, Same.refl _, ?_, fun _ => a, fun i j hi hj _ => ?_, fun i s hs => ?_⟩
    · rw [List.mem_singleton.mp hb]
      exact ⟨⟨_, ha⟩, hfa⟩
    · rw [List.mem_singleton.mp hb]
      exact ⟨_, ha⟩
    · rw [List.length_cons, List.length_cons, start_len hv.len]
    · have z : ∀ i, isOwn (Sl.mu 0 xs :: startS N'.length ds) i → i = 0 := fun i ⟨s, h1, h2⟩ => by
        cases i with
        | zero => rfl
        | succ i =>
          rcases start_env hv i s (by simpa using h1) with rfl | ⟨d, u, rfl, _⟩ <;> cases h2
      rw [z i hi, z j hj]
    · cases i with
      | zero =>
        cases hs
        exact ⟨rfl, ⟨us, ha, hfa, hap, hxs⟩, rfl⟩
      | succ i =>
        rcases start_env hv i s (by simpa using hs) with rfl | ⟨d, u, rfl, h1, h2⟩
        · trivial
        · exact ⟨u, by simpa using h1, h2⟩
  split at hG
  · rename_i ds2 w2 ho
    split at hG
    · rename_i ys2 h0
      cases hG
      refine ⟨⟨Z.p, [a], F, H⟩, F, _, w, _, r0, ho, fun σ' F' H' e r' => ?_⟩
      obtain ⟨α, _, hα⟩ := r'.env
      obtain ⟨_, ⟨us', q1, q2, q3, q4⟩, q5⟩ := hα 0 _ h0
      have e5 : α 0 = a := (Option.some.inj q5).symm
      rw [e5] at q1 q2
      exact k F' H' us' e (fun b o hb hba z => r'.keep b o hb (fun z => hba (List.mem_singleton.mp z)) z) r'.ex r'.nw r'.fp r'.dr q1 q2 q4
    · cases hG
  · cases hG
theorem cal_M {y : Str} {N' : List Str} (F : Fun K x x st f fd) (hm : mg x = some (.ref f)) (b : Binds K fd ps []) (S : FnScope (y :: N') ps (defScope st))
    (hbody : ∀ (cdv : Value) (A : Around) (outer : List Env) (s : Shared) (H : Hp) (E : XK), Room k (A.deeper (envOfC x (defScope st) s.heap.objs.size f cdv)) → JSs (cxOf CX0 P wd K mg base (y :: N') x (defScope st) f cdv A outer s H E).nox (defBody st) g) :
    CalM P wd K mg base (k + 1) x ps.length (callM (y :: N').length g) := ⟨f, fd, ps, fn_M F S hbody, hm, F.kp, b⟩
/-- f(x, e, ..) as a statement, x a list of one's own -/
def sCallM (i n : Nat) (G : Fm) (fs : Ef) : Es := fun ds w => (fs ds w).bind fun a => match ds[i]? with
  | some (.own xs) => if a.1.length + 1 = n then (G xs a.1 a.2).bind fun r => some (.nx (ds.set i (.own r.1)) r.2) else none
  | some (.mu k xs) => if a.1.length + 1 = n then (G xs a.1 a.2).bind fun r => some (.nx (ds.set i (.mu k r.1)) r.2) else none
  | _ => none
theorem js_callM (i : Nat) {G : Fm} {z : Str} {pz cpos : Pos} (c : CalM X.prog X.w X.K X.mg X.base k x n G) (hr : Room j X.A) (hk : k ≤ j) (hg : Gl X x) (ha : JA X es fs) (hN : X.N[i]? = some z := by rfl) (hv : Vis X.env.scope z := by first | exact Or.inl rfl | exact Or.inr (Or.inl rfl) | exact Or.inr (Or.inr rfl)) (hd : (z == ("__debug__" : Str)) = false := by decide) (hcd : (z == ("__classdict__" : Str)) = false := by decide)
    (hdb : (x == ("__debug__" : Str)) = false := by decide) (he : starEach (.Name z pz :: es) X.env = (false, eval (.Name z pz) X.env) :: starEach es X.env := by rfl) (hpl : (backTo cpos (starEach es X.env)).any (·.1) = false := by rfl)
    (hs : swapsWith (.Call (.Name x p) (.Name z pz :: es) [] cpos) none pos.line X.env = pure false := by rfl) : JS X (.Expr (.Call (.Name x p) (.Name z pz :: es) [] cpos) pos) (sCallM i n G fs) := ⟨by
  obtain ⟨f, fd, ps, Fk, hm, kp, b⟩ := c.ex
  refine ps_weak (ps_expr (pe_call Fk (hr.mono hk) hg hm kp b .nil pass0 (pa_cons (pe_var hN hv hd hcd) ha.run he) hdb he hpl) hs) fun D σ H ⟨Z, F, ds, w, o, rr, hf, k⟩ => ?_
  obtain ⟨a, ha, hf⟩ := bind2 hf
  have key : ∃ xs s s' r, ds[i]? = some s ∧ a.1.length + 1 = n ∧ G xs a.1 a.2 = some r ∧ o = .nx (ds.set i s') r.2 ∧ ((s = .own xs ∧ s' = .own r.1) ∨ ∃ m, s = .mu m xs ∧ s' = .mu m r.1) := by
    split at hf
    · rename_i xs hx
      split at hf
      · rename_i hl
        obtain ⟨r, h1, h2⟩ := bind2 hf
        cases h2
        exact ⟨xs, _, _, r, hx, hl, h1, rfl, .inl ⟨rfl, rfl⟩⟩
      · cases hf
    · rename_i m xs hx
      split at hf
      · rename_i hl
        obtain ⟨r, h1, h2⟩ := bind2 hf
        cases h2
        exact ⟨xs, _, _, r, hx, hl, h1, rfl, .inr ⟨m, rfl, rfl⟩⟩
      · cases hf
    · cases hf
  obtain ⟨xs, s, s', r, hi, hl, hG, rfl, hss⟩ := key
  obtain ⟨q, us, h1, h2, h3, h4, h5⟩ := rr.own1 (own_or hi hss)
  refine ⟨.ref q, h1, Z, F, ds, w, _, _, rr, ha, fun vs F1 H1 s1 d1 hv => ?_⟩
  have r1 := rr.step s1 d1
  have g2 := s1.h q _ h4 h2
  have g3 : F1 q = none := by
    obtain ⟨q', us', e1, e2, e3, e4, e5⟩ := r1.own1 (own_or hi hss)
    rw [h1] at e1
    cases e1
    exact e3
  show spM X.K n G ((V.ref q :: vs) ++ []) H1 (fun x H1 => D.nx σ H1) E0
  rw [List.append_nil]
  refine ⟨by rw [List.length_cons, hv.len]; exact hl, Z, F1, q, us, xs, vs, a.1, a.2, r.1, r.2, rfl, r1.nil, g2, g3, h4, h5.mono s1.f, hv, hG, fun F2 H2 us' e1 e2 e3 e4 e5 e6 e7 e8 e9 => ?_⟩
  have hH : upd (upd H2 q (.lst us)) q (.lst us') = H2 := by
    funext b
    by_cases hb : b = q
    · subst hb
      rw [upd_same, e7]
    · rw [upd_ne hb, upd_ne hb]
  have st : Stp Z.p F1 H1 F2 (upd H2 q (.lst us)) := ⟨e1, fun b o hb z => by
    by_cases hq : b = q
    · subst hq
      rw [g2] at z
      rw [upd_same]
      exact z
    · rw [upd_ne hq]
      exact e2 b o hb hq z, fun b o z => by
    rw [upd_ne (ne_of_none z e8)]
    exact e3 b o z, e4, e5⟩
  have dr : Dr Z.p F2 (upd H2 q (.lst us)) r.2 := by
    obtain ⟨t, t1, t2⟩ := e6
    exact ⟨t, by rw [upd_ne (Ne.symm h4)]; exact t1, t2⟩
  have r3 := (r1.step st dr).turn hi h1 hss e9
  rw [hH] at r3
  exact k σ F2 H2 (s1.f.trans e1) r3⟩
/-! ### match of texts -/
def MC (X : Cx) (cs : List MatchCase) (f : D → Es) : Prop := ∀ (first : Bool) (pins : List (Addr × Obj)) (s : Shared) (σ : L2.St) (H : Hp) (D : Ends) (v : V) (u : Value), Inv X pins σ H s → RelV v u →
  (∃ Z F ds w d o, R X.K Z F H σ ds w ∧ DenB X.K Z.p F H d v ∧ f d ds w = some o ∧ OutK X.K Z F o D) → wpAny (model X.prog X.w) X.A (matchCases cs X.env u first) (SP X pins D) X.xe s
/-- a pattern of written texts -/
def JPat (X : Cx) (p : Pattern) (xs : List Str) : Prop := ∀ (pins : List (Addr × Obj)) (s : Shared) (σ : L2.St) (H : Hp) (z : Str) (t : Tok) (Q : Option (List (Str × Value)) → Shared → Prop), Inv X pins σ H s →
  (∀ s', Inv X pins σ H s' → Q (if z ∈ xs then some [] else none) s') → wpAny (model X.prog X.w) X.A (matchPattern p X.env (.str z t)) Q X.xe s
theorem jp_one {c : Str} {kd : Nat} {p1 p2 : Pos} : JPat X (.MatchValue (.Constant (.str c) kd p1) p2) [c] := fun pins s σ H z t Q I h => by
  refine wpAny_matchPattern_Value (thn ((pe_str (X := X)).run pins s σ H (fun y H' => y = .str c ∧ H' = H) I ⟨rfl, rfl⟩) fun u s1 ⟨y, H1, I1, r1, e1, e2⟩ => ?_)
  subst e1 e2
  refine thn (op_eq (X := X) pins s1 σ H1 (.str z) (.str c) (.str z t) u (fun y H' => y = .bl (decide (V.str z = V.str c)) ∧ H' = H1) I1 ⟨t, rfl⟩ r1 ⟨rfl, rfl, rfl⟩) fun b s2 ⟨y, H2, I2, r2, e1, e2⟩ => ?_
  subst e1 e2
  cases r2
  refine wpAny_truthy_bool ?_
  have hd : decide (V.str z = V.str c) = decide (z ∈ [c]) := by
    by_cases hz : z = c
    · subst hz
      rw [decide_eq_true rfl, decide_eq_true (List.mem_singleton.mpr rfl)]
    · rw [decide_eq_false (fun q => hz (V.str.inj q)), decide_eq_false (fun q => hz (List.mem_singleton.mp q))]
  have := h s2 I2
  rw [hd]
  by_cases hz : z ∈ [c]
  · rw [if_pos hz] at this
    rw [decide_eq_true hz]
    exact this
  · rw [if_neg hz] at this
    rw [decide_eq_false hz]
    exact this
def JFst (X : Cx) (ps : List Pattern) (xs : List Str) : Prop := ∀ (pins : List (Addr × Obj)) (s : Shared) (σ : L2.St) (H : Hp) (z : Str) (t : Tok) (Q : Option (List (Str × Value)) → Shared → Prop), Inv X pins σ H s →
  (∀ s', Inv X pins σ H s' → Q (if z ∈ xs then some [] else none) s') → wpAny (model X.prog X.w) X.A (matchFirst ps X.env (.str z t)) Q X.xe s
theorem jfst_nil : JFst X [] [] := fun pins s σ H z t Q I h => wpAny_matchFirst_nil (h s I)
theorem jfst_cons {p : Pattern} {ps : List Pattern} {xs ys : List Str} (h1 : JPat X p xs) (h2 : JFst X ps ys) : JFst X (p :: ps) (xs ++ ys) := fun pins s σ H z t Q I h => by
  refine wpAny_matchFirst_cons (h1 pins s σ H z t _ I fun s' I' => ?_)
  by_cases hz : z ∈ xs
  · rw [if_pos hz]
    have := h s' I'
    rw [if_pos (List.mem_append_left _ hz)] at this
    exact this
  · rw [if_neg hz]
    refine h2 pins s' σ H z t Q I' fun s2 I2 => ?_
    have := h s2 I2
    by_cases hy : z ∈ ys
    · rw [if_pos (List.mem_append_right _ hy)] at this
      rw [if_pos hy]
      exact this
    · rw [if_neg (fun q => (List.mem_append.mp q).elim hz hy)] at this
      rw [if_neg hy]
      exact this
theorem jp_or {p : Pattern} {ps : List Pattern} {xs : List Str} {p1 : Pos} (h : JFst X (p :: ps) xs) (hn : namesOfAll ((p :: ps).take 1) = [] := by rfl) : JPat X (.MatchOr (p :: ps) p1) xs := fun pins s σ H z t Q I k => by
  refine wpAny_matchPattern_Or (h pins s σ H z t _ I fun s' I' => ?_)
  have := k s' I'
  by_cases hz : z ∈ xs
  · rw [if_pos hz] at this ⊢
    rw [hn]
    exact this
  · rw [if_neg hz] at this ⊢
    exact this
def mcNil : D → Es := fun _ => sNil
def mcCons (xs : List Str) (fb : Es) (rest : D → Es) : D → Es := fun d ds w => match d with | .str z => if z ∈ xs then fb ds w else rest d ds w | _ => none
def mcAll (fb : Es) : D → Es := fun _ => fb
theorem mc_nil : MC X [] mcNil := fun first pins s σ H D v u I r ⟨Z, F, ds, w, d, o, rr, hd, hf, k⟩ => by
  cases hf
  exact wpAny_matchCases_nil ⟨σ, H, I, k σ F H (Same.refl _) rr⟩
theorem mc_cons {pt : Pattern} {body : List Stmt} {rest : List MatchCase} {xs : List Str} {fb : Es} {fr : D → Es} (h1 : JPat X pt xs) (h2 : JSs X body fb) (h3 : MC X rest fr) : MC X (⟨pt, none, body⟩ :: rest) (mcCons xs fb fr) := fun first pins s σ H D v u I r ⟨Z, F, ds, w, d, o, rr, hd, hf, k⟩ => by
  unfold mcCons at hf
  split at hf
  · rename_i z
    have hv := hd.str
    subst hv
    obtain ⟨t, rfl⟩ := r
    refine wpAny_matchCases_cons (h1 pins s σ H z t _ I fun s' I' => ?_)
    split at hf
    · rename_i hz
      rw [if_pos hz]
      refine wpAny_assignInOrder_none (h2.run.run pins s' σ H D I' ⟨Z, F, ds, w, o, rr, hf, k⟩)
    · rename_i hz
      rw [if_neg hz]
      exact h3 false pins s' σ H D (.str z) (.str z t) I' ⟨t, rfl⟩ ⟨Z, F, ds, w, _, o, rr, hd, hf, k⟩
  · cases hf
/-- case _ -/
theorem mc_all {body : List Stmt} {fb : Es} {p1 : Pos} (h2 : JSs X body fb) : MC X [⟨.MatchAs none none p1, none, body⟩] (mcAll fb) := fun first pins s σ H D v u I r ⟨Z, F, ds, w, d, o, rr, hd, hf, k⟩ => by
  refine wpAny_matchCases_cons (wpAny_matchPattern_Capture ?_)
  exact wpAny_assignInOrder_none (h2.run.run pins s σ H D I ⟨Z, F, ds, w, o, rr, hf, k⟩)
def sMatch (f : Ev) (g : D → Es) : Es := fun ds w => (f ds w).bind fun d => g d.1 ds d.2
theorem js_match {fe : Ev} {cs : List MatchCase} {fc : D → Es} (h1 : JE X e fe) (h2 : MC X cs fc) : JS X (.Match e cs pos) (sMatch fe fc) := ⟨⟨fun pins s σ H D I ⟨Z, F, ds, w, o, rr, hf, k⟩ => by
  obtain ⟨d, hd, hf⟩ := bind2 hf
  refine wpAny_Match (thn (h1.run.run pins s σ H (fun v H1 => ∃ F1, Stp Z.p F H F1 H1 ∧ Dr Z.p F1 H1 d.2 ∧ Den X.K Z.p F1 d.1 v) I ⟨Z, F, ds, w, _, _, rr, hd, fun v F1 H1 s1 d1 hv => ⟨F1, s1, d1, hv⟩⟩) fun u s1 ⟨v, H1, I1, r1, F1, q1, q2, q3⟩ => ?_)
  exact h2 true pins s1 σ H1 D v u I1 r1 ⟨Z, F1, ds, d.2, d.1, o, rr.step q1 q2, .inl q3, hf, k.go q1.f⟩⟩⟩
/-! ### a law -/
def spLaw (K : PySem.W.Frag) : Sp := fun vs H Q _ => ∃ (a : Addr) (ns : List Int), vs = [.ref a] ∧ SqL K H a (ns.map V.int) ∧ ns.length ≤ 63 ∧ ∀ H', Q (.bl true) H'
theorem law_J {N' : List Str} {rest : List Stmt} {y z : Str} {py px p1 p2 p3 p4 p5 p6 p7 : Pos} {j1 j2 j3 : Nat} (F : Fun K x qual st f fd) (hN : N = z :: y :: N') (S : FnScope N [z] (defScope st)) (hbd : defBody st = .Assign [.Name y py] (.List [.Subscript (.Name z px) (.Slice none (some (.Constant (.int 63) j1 p1)) none p2) p3, .Constant (.int 0) j2 p4, .Constant (.int 0) j3 p5] p6) p7 :: rest)
    (vz : Vis (defScope st) z) (ly : Loc (defScope st) y) (dz : (z == ("__debug__" : Str)) = false) (cz : (z == ("__classdict__" : Str)) = false)
    (hsw : ∀ (cdv : Value) (A : Around) (outer : List Env) (s : Shared) (H : Hp) (E : XK), swapsWith (.List [.Subscript (.Name z px) (.Slice none (some (.Constant (.int 63) j1 p1)) none p2) p3, .Constant (.int 0) j2 p4, .Constant (.int 0) j3 p5] p6) (some (.Name y py)) p7.line (cxOf CX0 P wd K mg base N qual (defScope st) f cdv A outer s H E).nox.env = pure false)
    (hbody : ∀ (cdv : Value) (A : Around) (outer : List Env) (s : Shared) (H : Hp) (E : XK), Room k (A.deeper (envOfC qual (defScope st) s.heap.objs.size f cdv)) → JSs (cxOf CX0 P wd K mg base N qual (defScope st) f cdv A outer s H E).nox rest g)
    (hg : ∀ ns : List Int, ns.length ≤ 63 → ∃ w', g (.no :: .d .draw :: List.replicate N'.length .no) ⟨ns, 0⟩ = some (.rt (.bl true) w')) : FnOk P wd K mg base CX0 (k + 1) f fd [z] (spLaw K) := by
  refine F.ok S (fun vs H Q E h => ?_) (fun cdv A outer s H vs Q E hr h => ?_)
  · obtain ⟨a, ns, rfl, _⟩ := h
    rfl
  obtain ⟨a, ns, rfl, hS, hlen, k⟩ := h
  rw [hbd]
  refine ⟨_, pss_cons (ps_set (i := 1) S.nd (by subst hN; rfl) ly (pe_lst (pa_cons (pe_slice sl_list (pe_var (i := 0) (by subst hN; rfl) vz dz cz) po_none (po_some pe_int)) (pa_cons pe_int (pa_cons pe_int pa_nil)))) (hsw cdv A outer s H E)) (hbody cdv A outer s H E hr).run, ?_⟩
  have hst : L2.start N [V.ref a] = some (.ref a) :: none :: List.replicate N'.length none := by
    subst hN
    rfl
  rw [hst]
  refine ⟨.ref a, rfl, 63, rfl, a, _, rfl, hS, fun q hq => ⟨by show 3 ≤ sizeLine; decide, fun p hp => ?_⟩⟩
  obtain ⟨w', hgo⟩ := hg ns hlen
  have hqp : p ≠ q := by
    rintro rfl
    rw [upd_same] at hp
    cases hp
  have ecut : cutV (ns.map V.int) none (some 63) = ns.map V.int := by
    unfold cutV
    have e1 : HT.sIx (ns.map V.int).length 0 none = 0 := rfl
    have e2 : HT.sIx (ns.map V.int).length (ns.map V.int).length (some 63) = (ns.map V.int).length := by
      have h3 := HT.sIx_nat (ns.map V.int).length (ns.map V.int).length 63
      rw [List.length_map] at h3 ⊢
      have e3 : ((63 : Nat) : Int) = 63 := rfl
      rw [e3] at h3
      rw [h3]
      omega
    rw [e1, e2]
    show ((ns.map V.int).drop 0).take ((ns.map V.int).length - 0) = ns.map V.int
    rw [List.drop_zero, Nat.sub_zero, List.take_length]
  rw [ecut] at hp ⊢
  refine ⟨⟨p, [], upd (fun _ => none) q (.lst (ns.map V.int)), fun _ => none⟩, upd (fun _ => none) q (.lst (ns.map V.int)), .no :: .d .draw :: List.replicate N'.length .no, ⟨ns, 0⟩, _, ?_, hgo, fun v σ' ds' F' H' _ _ hv => by
    unfold Den at hv
    subst hv
    exact k H'⟩
  refine ⟨fun b o z => ?_, by rw [upd_ne hqp], ⟨q, upd_same, upd_same⟩, List.not_mem_nil, fun b hb => (nomatch hb), fun b hb => (nomatch hb), fun b o _ _ z => (nomatch z), fun b o z => .inl z, Same.refl _, ?_, fun _ => 0, fun i j ⟨s, h1, h2⟩ => ?_, fun i s hs => ?_⟩
  · by_cases hb : b = q
    · subst hb
      rw [upd_same] at z
      rw [upd_ne (Ne.symm hqp), upd_same]
      exact z
    · rw [upd_ne hb] at z
      cases z
  · show (List.set (some (V.ref a) :: none :: List.replicate N'.length none) 1 (some (V.ref p))).length = _
    simp
  · exfalso
    match i, h1 with
    | 0, h1 =>
      cases h1
      cases h2
    | 1, h1 =>
      cases h1
      cases h2
    | i + 2, h1 =>
      have h1' : (List.replicate N'.length Sl.no)[i]? = some s := h1
      rw [List.getElem?_replicate] at h1'
      split at h1'
      · cases h1'
        cases h2
      · cases h1'
  · match i, hs with
    | 0, hs =>
      cases hs
      trivial
    | 1, hs =>
      cases hs
      exact ⟨.ref p, rfl, by unfold Den; rfl⟩
    | i + 2, hs =>
      have h1' : (List.replicate N'.length Sl.no)[i]? = some s := hs
      rw [List.getElem?_replicate] at h1'
      split at h1'
      · cases h1'
        trivial
      · cases h1'
end
end J
namespace J
open PySem PyProof.Rows L2
/-! ### what comes of it: lemmas about the meanings -/
theorem eqv_int (a b : Int) : PyData.eqv (.int a) (.int b) = decide (a = b) := by
  simp [PyData.eqv]
  rfl
theorem eqv_str (a b : Str) : PyData.eqv (.str a) (.str b) = decide (a = b) := by
  simp [PyData.eqv]
  rfl
theorem lay_int (i : Int) : lay (.int i) = true := rfl
theorem lay_bl (i : Bool) : lay (.bl i) = true := rfl
theorem lay_non : lay .non = true := rfl
theorem eqD_int (a b : Int) : eqD (.int a) (.int b) = some (.bl (decide (a = b))) := by
  unfold eqD
  rw [lay_int, lay_int]
  show some (D.bl (PyData.eqv (.int a) (.int b))) = _
  rw [eqv_int]
theorem neD_int (a b : Int) : neD (.int a) (.int b) = some (.bl (!decide (a = b))) := by
  unfold neD
  rw [lay_int, lay_int]
  show some (D.bl (!PyData.eqv (.int a) (.int b))) = _
  rw [eqv_int]
theorem eqD_bl (a b : Bool) : eqD (.bl a) (.bl b) = some (.bl (a == b)) := rfl
theorem neD_bl (a b : Bool) : neD (.bl a) (.bl b) = some (.bl (!(a == b))) := rfl
theorem canLay_ints : ∀ ns : List Int, PyData.canLayAll0 (pys (ns.map D.int)) = true ∧ PyData.depthAll (pys (ns.map D.int)) ≤ 1
  | [] => ⟨rfl, Nat.zero_le _⟩
  | n :: ns => by
    obtain ⟨h1, h2⟩ := canLay_ints ns
    refine ⟨?_, ?_⟩
    · show (PyData.canLay0 (.int n) && PyData.canLayAll0 (pys (ns.map D.int))) = true
      rw [h1]
      rfl
    · show max (PyData.depth (.int n)) (PyData.depthAll (pys (ns.map D.int))) ≤ 1
      have : PyData.depth (.int n) ≤ 1 := by
        simp [PyData.depth]
      omega
theorem poks_ints (ns : List Int) : poks (ns.map D.int) = true := by
  rw [poks_all, List.all_eq_true]
  intro d hd
  obtain ⟨n, _, rfl⟩ := List.mem_map.mp hd
  rfl
theorem lay_ints (ns : List Int) : lay (.lst (ns.map D.int)) = true := by
  obtain ⟨h1, h2⟩ := canLay_ints ns
  unfold lay pok
  rw [poks_ints]
  unfold SeqAt.shaped
  show (true && (PyData.canLay0 (.list (pys (ns.map D.int))) && decide (PyData.depth (.list (pys (ns.map D.int))) ≤ 64))) = true
  have e : PyData.canLay0 (.list (pys (ns.map D.int))) = true := by
    unfold PyData.canLay0
    exact h1
  rw [e]
  have : PyData.depth (.list (pys (ns.map D.int))) ≤ 64 := by
    unfold PyData.depth
    omega
  rw [decide_eq_true this]
  rfl
theorem eqvAll_ints : ∀ ns ms : List Int, PyData.eqvAll (pys (ns.map D.int)) (pys (ms.map D.int)) = decide (ns = ms)
  | [], [] => rfl
  | [], m :: ms => rfl
  | n :: ns, [] => rfl
  | n :: ns, m :: ms => by
    show (PyData.eqv (.int n) (.int m) && PyData.eqvAll (pys (ns.map D.int)) (pys (ms.map D.int))) = _
    rw [eqv_int, eqvAll_ints ns ms, Bool.eq_iff_iff]
    simp
theorem eqv_ints (ns ms : List Int) : PyData.eqv (.list (pys (ns.map D.int))) (.list (pys (ms.map D.int))) = decide (ns = ms) := by
  unfold PyData.eqv
  exact eqvAll_ints ns ms
theorem eqD_ints (ns ms : List Int) : eqD (.lst (ns.map D.int)) (.lst (ms.map D.int)) = some (.bl (decide (ns = ms))) := by
  unfold eqD
  rw [lay_ints, lay_ints]
  show some (D.bl (PyData.eqv (.list (pys (ns.map D.int))) (.list (pys (ms.map D.int))))) = _
  rw [eqv_ints]
theorem neD_ints (ns ms : List Int) : neD (.lst (ns.map D.int)) (.lst (ms.map D.int)) = some (.bl (!decide (ns = ms))) := by
  unfold neD
  rw [lay_ints, lay_ints]
  show some (D.bl (!PyData.eqv (.list (pys (ns.map D.int))) (.list (pys (ms.map D.int))))) = _
  rw [eqv_ints]
/-- a for by what holds of the slots behind each turn -/
theorem forGo_inv {α : Type} (enc : α → D) {tg : Eg} {body : Es} (I : List α → List Sl → Wd → Prop) : ∀ (pre xs : List α) (ds : List Sl) (w : Wd), I pre ds w →
    (∀ (p : List α) (a : α) (q : List α) (ds : List Sl) (w : Wd), pre ++ xs = p ++ a :: q → I p ds w → ∃ ds1 ds2 w2, tg ds (enc a) = some ds1 ∧ (body ds1 w = some (.nx ds2 w2) ∨ body ds1 w = some (.ct ds2 w2)) ∧ I (p ++ [a]) ds2 w2) → ∃ ds' w', forGo tg body (xs.map enc) ds w = some (.nx ds' w') ∧ I (pre ++ xs) ds' w'
  | pre, [], ds, w, h, _ => ⟨ds, w, rfl, by rw [List.append_nil]; exact h⟩
  | pre, a :: xs, ds, w, h, hs => by
    obtain ⟨ds1, ds2, w2, h1, h2, h3⟩ := hs pre a xs ds w rfl h
    obtain ⟨ds', w', h4, h5⟩ := forGo_inv enc I (pre ++ [a]) xs ds2 w2 h3 (fun p b q ds w e hi => hs p b q ds w (by rw [← e, List.append_assoc]; rfl) hi)
    refine ⟨ds', w', ?_, by rw [List.append_assoc] at h5; exact h5⟩
    show (tg ds (enc a)).bind _ = _
    rw [h1]
    show (body ds1 w).bind _ = _
    rcases h2 with h2 | h2
    · rw [h2]
      exact h4
    · rw [h2]
      exact h4
/-- .. whose turns all do f to the slots -/
theorem forGo_fold {α β : Type} (enc : α → D) {tg : Eg} {body : Es} {w : Wd} (env : β → List Sl → Prop) (f : β → α → β) : ∀ (xs : List α) (b : β) (ds : List Sl), env b ds →
    (∀ (b : β) (a : α) (ds : List Sl), a ∈ xs → env b ds → ∃ ds1 ds2, tg ds (enc a) = some ds1 ∧ body ds1 w = some (.nx ds2 w) ∧ env (f b a) ds2) → ∃ ds', forGo tg body (xs.map enc) ds w = some (.nx ds' w) ∧ env (xs.foldl f b) ds'
  | [], b, ds, h, _ => ⟨ds, rfl, h⟩
  | a :: xs, b, ds, h, hs => by
    obtain ⟨ds1, ds2, h1, h2, h3⟩ := hs b a ds List.mem_cons_self h
    obtain ⟨ds', h4, h5⟩ := forGo_fold enc env f xs (f b a) ds2 h3 (fun b' a' ds' hm => hs b' a' ds' (List.mem_cons_of_mem _ hm))
    refine ⟨ds', ?_, h5⟩
    show (tg ds (enc a)).bind _ = _
    rw [h1]
    show (body ds1 w).bind _ = _
    rw [h2]
    exact h4
theorem lcGo_yes {tg : Eg} {e : Ev} {ds ds1 : List Sl} {x : D} {xs : List D} {w : Wd} {y : D × Wd} (h1 : tg ds x = some ds1) (h2 : e ds1 w = some y) : lcGo tg tYesJ e ds (x :: xs) w = (lcGo tg tYesJ e ds xs y.2).bind fun r => some (y.1 :: r.1, r.2) := by
  conv => lhs; unfold lcGo
  rw [h1]
  simp only [Option.bind_some, tYesJ, if_true, h2]
theorem lcGo_test {tg : Eg} {c : Et} {e : Ev} {ds ds1 : List Sl} {x : D} {xs : List D} {w : Wd} {b : Bool × Wd} (h1 : tg ds x = some ds1) (h2 : c ds1 w = some b) : lcGo tg c e ds (x :: xs) w = if b.1 = true then (e ds1 b.2).bind fun y => (lcGo tg c e ds xs y.2).bind fun r => some (y.1 :: r.1, r.2) else lcGo tg c e ds xs b.2 := by
  conv => lhs; unfold lcGo
  rw [h1]
  simp only [Option.bind_some, h2]
/-- a comprehension that takes all -/
theorem lcGo_map {α : Type} (enc : α → D) {tg : Eg} {e : Ev} {ds : List Sl} {w : Wd} (f : α → D) : ∀ xs : List α, (∀ a ∈ xs, ∃ ds1, tg ds (enc a) = some ds1 ∧ e ds1 w = some (f a, w)) → lcGo tg tYesJ e ds (xs.map enc) w = some (xs.map f, w)
  | [], _ => rfl
  | a :: xs, h => by
    obtain ⟨ds1, h1, h2⟩ := h a List.mem_cons_self
    rw [List.map_cons, lcGo_yes h1 h2, lcGo_map enc f xs fun b hb => h b (List.mem_cons_of_mem _ hb)]
    rfl
/-- .. that takes some -/
theorem lcGo_filter {α : Type} (enc : α → D) {tg : Eg} {c : Et} {e : Ev} {ds : List Sl} {w : Wd} (p : α → Bool) (f : α → D) : ∀ xs : List α, (∀ a ∈ xs, ∃ ds1, tg ds (enc a) = some ds1 ∧ c ds1 w = some (p a, w) ∧ (p a = true → e ds1 w = some (f a, w))) → lcGo tg c e ds (xs.map enc) w = some ((xs.filter p).map f, w)
  | [], _ => rfl
  | a :: xs, h => by
    obtain ⟨ds1, h1, h2, h3⟩ := h a List.mem_cons_self
    have ih := lcGo_filter enc p f xs fun b hb => h b (List.mem_cons_of_mem _ hb)
    rw [List.map_cons, lcGo_test h1 h2]
    dsimp only
    by_cases hp : p a = true
    · rw [if_pos hp, h3 hp, List.filter_cons_of_pos hp]
      simp only [Option.bind_some, ih]
      rfl
    · rw [if_neg hp, List.filter_cons_of_neg hp]
      exact ih
/-- .. whose items are drawn: each by what holds of the state ahead of it -/
theorem lcGo_draw {α β : Type} (enc : α → D) (out : β → D) {tg : Eg} {e : Ev} {ds : List Sl} (ok : α → β → Prop) (I : Wd → Prop) : ∀ (xs : List α) (w : Wd), I w → (∀ a ∈ xs, ∀ w, I w → ∃ ds1 b w', tg ds (enc a) = some ds1 ∧ e ds1 w = some (out b, w') ∧ ok a b ∧ I w') →
    ∃ (bs : List β) (w' : Wd), lcGo tg tYesJ e ds (xs.map enc) w = some (bs.map out, w') ∧ bs.length = xs.length ∧ (∀ b ∈ bs, ∃ a ∈ xs, ok a b) ∧ I w'
  | [], w, hw, _ => ⟨[], w, rfl, rfl, fun _ h => (nomatch h), hw⟩
  | a :: xs, w, hw, h => by
    obtain ⟨ds1, b, w1, h1, h2, h3, h4⟩ := h a List.mem_cons_self w hw
    obtain ⟨bs, w', ih, hl, hm, hI⟩ := lcGo_draw enc out ok I xs w1 h4 fun c hc => h c (List.mem_cons_of_mem _ hc)
    refine ⟨b :: bs, w', ?_, by rw [List.length_cons, List.length_cons, hl], fun c hc => ?_, hI⟩
    · rw [List.map_cons, lcGo_yes h1 h2]
      simp only [ih, Option.bind_some]
      rfl
    · rcases List.mem_cons.mp hc with q | q
      · subst q
        exact ⟨a, List.mem_cons_self, h3⟩
      · obtain ⟨a', q1, q2⟩ := hm c q
        exact ⟨a', List.mem_cons_of_mem _ q1, q2⟩
theorem rgD_map (a c : Int) (n : Nat) : rgD a c n = ((List.range n).map fun i : Nat => a + (i : Int) * c).map D.int := by
  unfold rgD
  rw [List.map_map]
  rfl
theorem fLc_ok {src : Ef} {tg : Eg} {c : Et} {e : Ev} {vs : List Nat} {ds : List Sl} {w w1 w2 : Wd} {xs ys : List D} (h1 : src ds w = some (xs, w1)) (h2 : lcGo tg c e (wipeS ds vs) xs w1 = some (ys, w2)) (h3 : ys.length ≤ line) : fLc src tg c e vs ds w = some (ys, w2) := by
  show (src ds w).bind _ = _
  rw [h1]
  show (lcGo tg c e (wipeS ds vs) xs w1).bind _ = _
  rw [h2]
  show (if ys.length ≤ line then _ else _) = _
  rw [if_pos h3]
/-! sorted lists stay as they are -/
theorem sortI_of {ns ms : List Int} (h : ms.Perm ns) (hs : ms.Pairwise (· ≤ ·)) : sortI ns = ms := PySem.W.ksm_same ((sortI_perm ns).trans h.symm) (sortI_pair ns) hs
theorem sortI_id {ns : List Int} (hs : ns.Pairwise (· ≤ ·)) : sortI ns = ns := sortI_of (List.Perm.refl _) hs
theorem atI_map {α β : Type} (f : α → β) (xs : List α) (i : Int) : atI (xs.map f) i = (atI xs i).map f := by
  unfold atI
  rw [List.length_map]
  cases ixN xs.length i with
  | none => rfl
  | some j => exact List.getElem?_map
theorem ixN_nat {n i : Nat} (h : i < n) : ixN n (i : Int) = some i := by
  unfold ixN
  rw [if_pos (by omega), if_pos (by omega)]
  rfl
end J
namespace J
open PySem PyProof.Rows L2
/-! ### the meanings, applied -/
def pv (w : Wd) : Option Sl → Option (D × Wd)
  | some (.d x) => some (x, w)
  | _ => none
@[simp] theorem pv.on (w : Wd) (x : D) : pv w (some (.d x)) = some (x, w) := rfl
@[simp] theorem eVar.ap (i : Nat) (ds : List Sl) (w : Wd) : eVar i ds w = pv w ds[i]? := by
  unfold eVar pv
  rcases ds[i]? with _ | s
  · rfl
  · cases s <;> rfl
def pw (w : Wd) : Option Sl → Option (D × Wd)
  | some (.d x) => some (x, w)
  | some (.own xs) => some (.lst xs, w)
  | some (.mu _ xs) => some (.lst xs, w)
  | _ => none
@[simp] theorem pw.on1 (w : Wd) (x : D) : pw w (some (.d x)) = some (x, w) := rfl
@[simp] theorem pw.on2 (w : Wd) (x : List D) : pw w (some (.own x)) = some (.lst x, w) := rfl
@[simp] theorem pw.on3 (w : Wd) (k : Nat) (x : List D) : pw w (some (.mu k x)) = some (.lst x, w) := rfl
@[simp] theorem eBor.ap (i : Nat) (ds : List Sl) (w : Wd) : eBor i ds w = pw w ds[i]? := by
  unfold eBor pw
  rcases ds[i]? with _ | s
  · rfl
  · cases s <;> rfl
@[simp] theorem eC.ap (d : D) (ds : List Sl) (w : Wd) : eC d ds w = some (d, w) := rfl
def vD (w : Wd) : Option D → Option (D × Wd)
  | some d => some (d, w)
  | none => none
@[simp] theorem vD.on (w : Wd) (d : D) : vD w (some d) = some (d, w) := rfl
def vLs (w : Wd) : Option (List D) → Option (List D × Wd)
  | some d => some (d, w)
  | none => none
@[simp] theorem vLs.on (w : Wd) (d : List D) : vLs w (some d) = some (d, w) := rfl
def kL  : Option (List D × Wd) → Option (D × Wd)
  | some (xs, w1) => some (.lst xs, w1)
  | none => none
@[simp] theorem kL.on   (xs : List D) (w1 : Wd) : kL  (some (xs, w1)) = some (.lst xs, w1) := rfl
@[simp] theorem eL.ap (f : Ef) (ds : List Sl) (w : Wd) : eL f ds w = kL (f ds w) := by
  unfold eL
  rcases f ds w with _ | ⟨x, y⟩ <;> rfl
def bin2 (g : D → D → Option D) (a : D) : Option (D × Wd) → Option (D × Wd)
  | some (b, w2) => vD w2 (g a b)
  | none => none
@[simp] theorem bin2.on (g : D → D → Option D) (a : D)  (b : D) (w2 : Wd) : bin2 g a (some (b, w2)) = vD w2 (g a b) := rfl
def bin1 (g : D → D → Option D) (fb : Ev) (ds : List Sl) : Option (D × Wd) → Option (D × Wd)
  | some (a, w1) => bin2 g a (fb ds w1)
  | none => none
@[simp] theorem bin1.on (g : D → D → Option D) (fb : Ev) (ds : List Sl)  (a : D) (w1 : Wd) : bin1 g fb ds (some (a, w1)) = bin2 g a (fb ds w1) := rfl
theorem eBin.ap (g : D → D → Option D) (fa fb : Ev) (ds : List Sl) (w : Wd) : eBin g fa fb ds w = bin1 g fb ds (fa ds w) := by
  unfold eBin
  rcases fa ds w with _ | ⟨a, w1⟩
  · rfl
  · show (fb ds w1).bind _ = bin2 g a (fb ds w1)
    rcases fb ds w1 with _ | ⟨b, w2⟩
    · rfl
    · show (g a b).bind _ = vD w2 (g a b)
      rcases g a b with _ | d <;> rfl
@[simp] theorem eEq.ap (fa fb : Ev) (ds : List Sl) (w : Wd) : eEq fa fb ds w = bin1 eqD fb ds (fa ds w) := eBin.ap eqD fa fb ds w
@[simp] theorem eNe.ap (fa fb : Ev) (ds : List Sl) (w : Wd) : eNe fa fb ds w = bin1 neD fb ds (fa ds w) := eBin.ap neD fa fb ds w
@[simp] theorem eLt.ap (fa fb : Ev) (ds : List Sl) (w : Wd) : eLt fa fb ds w = bin1 (g2B pLt) fb ds (fa ds w) := eBin.ap (g2B pLt) fa fb ds w
@[simp] theorem eLe.ap (fa fb : Ev) (ds : List Sl) (w : Wd) : eLe fa fb ds w = bin1 (g2B pLe) fb ds (fa ds w) := eBin.ap (g2B pLe) fa fb ds w
@[simp] theorem eGt.ap (fa fb : Ev) (ds : List Sl) (w : Wd) : eGt fa fb ds w = bin1 (g2B pGt) fb ds (fa ds w) := eBin.ap (g2B pGt) fa fb ds w
@[simp] theorem eGe.ap (fa fb : Ev) (ds : List Sl) (w : Wd) : eGe fa fb ds w = bin1 (g2B pGe) fb ds (fa ds w) := eBin.ap (g2B pGe) fa fb ds w
@[simp] theorem eIs.ap (fa fb : Ev) (ds : List Sl) (w : Wd) : eIs fa fb ds w = bin1 isN fb ds (fa ds w) := eBin.ap isN fa fb ds w
@[simp] theorem eIsNot.ap (fa fb : Ev) (ds : List Sl) (w : Wd) : eIsNot fa fb ds w = bin1 notN fb ds (fa ds w) := eBin.ap notN fa fb ds w
@[simp] theorem eIn.ap (fa fb : Ev) (ds : List Sl) (w : Wd) : eIn fa fb ds w = bin1 (inD false) fb ds (fa ds w) := eBin.ap (inD false) fa fb ds w
@[simp] theorem eNotIn.ap (fa fb : Ev) (ds : List Sl) (w : Wd) : eNotIn fa fb ds w = bin1 (inD true) fb ds (fa ds w) := eBin.ap (inD true) fa fb ds w
@[simp] theorem eAdd.ap (fa fb : Ev) (ds : List Sl) (w : Wd) : eAdd fa fb ds w = bin1 addD fb ds (fa ds w) := eBin.ap addD fa fb ds w
@[simp] theorem eSub.ap (fa fb : Ev) (ds : List Sl) (w : Wd) : eSub fa fb ds w = bin1 subD fb ds (fa ds w) := eBin.ap subD fa fb ds w
@[simp] theorem eDiv.ap (fa fb : Ev) (ds : List Sl) (w : Wd) : eDiv fa fb ds w = bin1 divD fb ds (fa ds w) := eBin.ap divD fa fb ds w
@[simp] theorem eMod.ap (fa fb : Ev) (ds : List Sl) (w : Wd) : eMod fa fb ds w = bin1 modD fb ds (fa ds w) := eBin.ap modD fa fb ds w
@[simp] theorem ePow.ap (fa fb : Ev) (ds : List Sl) (w : Wd) : ePow fa fb ds w = bin1 powD fb ds (fa ds w) := eBin.ap powD fa fb ds w
@[simp] theorem eMul.ap (fa fb : Ev) (ds : List Sl) (w : Wd) : eMul fa fb ds w = bin1 mulD fb ds (fa ds w) := eBin.ap mulD fa fb ds w
@[simp] theorem eIx.ap (fa fb : Ev) (ds : List Sl) (w : Wd) : eIx fa fb ds w = bin1 idxD fb ds (fa ds w) := eBin.ap idxD fa fb ds w
def kT : Option (D × Wd) → Option (Bool × Wd)
  | some (.bl p, w1) => some (p, w1)
  | _ => none
@[simp] theorem kT.on (p : Bool) (w1 : Wd) : kT (some (.bl p, w1)) = some (p, w1) := rfl
@[simp] theorem eTest.ap (f : Ev) (ds : List Sl) (w : Wd) : eTest f ds w = kT (f ds w) := by
  unfold eTest
  rcases f ds w with _ | ⟨x, y⟩
  · rfl
  · cases x <;> rfl
def ch4 (g' : D → D → Option D) (b : D) : Option (D × Wd) → Option (D × Wd)
  | some (c, w3) => vD w3 (g' b c)
  | none => none
@[simp] theorem ch4.on (g' : D → D → Option D) (b : D)  (c : D) (w3 : Wd) : ch4 g' b (some (c, w3)) = vD w3 (g' b c) := rfl
def ch3 (g' : D → D → Option D) (b : D) (fc : Ev) (ds : List Sl) (w : Wd) : Option D → Option (D × Wd)
  | some (.bl p) => if p = true then ch4 g' b (fc ds w) else some (.bl false, w)
  | _ => none
@[simp] theorem ch3.on (g' : D → D → Option D) (b : D) (fc : Ev) (ds : List Sl) (w : Wd) (p : Bool) : ch3 g' b fc ds w (some (.bl p)) = if p = true then ch4 g' b (fc ds w) else some (.bl false, w) := rfl
def ch2 (g g' : D → D → Option D) (a : D) (fc : Ev) (ds : List Sl) : Option (D × Wd) → Option (D × Wd)
  | some (b, w2) => ch3 g' b fc ds w2 (g a b)
  | none => none
@[simp] theorem ch2.on (g g' : D → D → Option D) (a : D) (fc : Ev) (ds : List Sl)  (b : D) (w2 : Wd) : ch2 g g' a fc ds (some (b, w2)) = ch3 g' b fc ds w2 (g a b) := rfl
def ch1 (g g' : D → D → Option D) (fb fc : Ev) (ds : List Sl) : Option (D × Wd) → Option (D × Wd)
  | some (a, w1) => ch2 g g' a fc ds (fb ds w1)
  | none => none
@[simp] theorem ch1.on (g g' : D → D → Option D) (fb fc : Ev) (ds : List Sl)  (a : D) (w1 : Wd) : ch1 g g' fb fc ds (some (a, w1)) = ch2 g g' a fc ds (fb ds w1) := rfl
@[simp] theorem eChain.ap (g g' : D → D → Option D) (fa fb fc : Ev) (ds : List Sl) (w : Wd) : eChain g g' fa fb fc ds w = ch1 g g' fb fc ds (fa ds w) := by
  unfold eChain
  rcases fa ds w with _ | ⟨a, w1⟩
  · rfl
  · show (fb ds w1).bind _ = ch2 g g' a fc ds (fb ds w1)
    rcases fb ds w1 with _ | ⟨b, w2⟩
    · rfl
    · show (match g a b with | some (.bl true) => _ | some (.bl false) => _ | _ => none) = ch3 g' b fc ds w2 (g a b)
      rcases g a b with _ | d
      · rfl
      · cases d <;> try rfl
        rename_i p
        cases p
        · rfl
        · show (fc ds w2).bind _ = ch4 g' b (fc ds w2)
          rcases fc ds w2 with _ | ⟨c, w3⟩
          · rfl
          · show (g' b c).bind _ = vD w3 (g' b c)
            rcases g' b c with _ | d <;> rfl
def ta1 (b : Et) (ds : List Sl) : Option (Bool × Wd) → Option (Bool × Wd)
  | some (p, w1) => if p = true then b ds w1 else some (false, w1)
  | none => none
@[simp] theorem ta1.on (b : Et) (ds : List Sl)  (p : Bool) (w1 : Wd) : ta1 b ds (some (p, w1)) = if p = true then b ds w1 else some (false, w1) := rfl
@[simp] theorem tAndJ.ap (a b : Et) (ds : List Sl) (w : Wd) : tAndJ a b ds w = ta1 b ds (a ds w) := by
  unfold tAndJ
  rcases a ds w with _ | ⟨x, y⟩ <;> rfl
def to1 (b : Et) (ds : List Sl) : Option (Bool × Wd) → Option (Bool × Wd)
  | some (p, w1) => if p = true then some (true, w1) else b ds w1
  | none => none
@[simp] theorem to1.on (b : Et) (ds : List Sl)  (p : Bool) (w1 : Wd) : to1 b ds (some (p, w1)) = if p = true then some (true, w1) else b ds w1 := rfl
@[simp] theorem tOrJ.ap (a b : Et) (ds : List Sl) (w : Wd) : tOrJ a b ds w = to1 b ds (a ds w) := by
  unfold tOrJ
  rcases a ds w with _ | ⟨x, y⟩ <;> rfl
def tn1  : Option (Bool × Wd) → Option (Bool × Wd)
  | some (p, w1) => some (!p, w1)
  | none => none
@[simp] theorem tn1.on   (p : Bool) (w1 : Wd) : tn1  (some (p, w1)) = some (!p, w1) := rfl
@[simp] theorem tNotJ.ap (a : Et) (ds : List Sl) (w : Wd) : tNotJ a ds w = tn1 (a ds w) := by
  unfold tNotJ
  rcases a ds w with _ | ⟨x, y⟩ <;> rfl
def ea1 (b : Ev) (ds : List Sl) : Option (D × Wd) → Option (D × Wd)
  | some (.bl p, w1) => if p = true then b ds w1 else some (.bl false, w1)
  | _ => none
@[simp] theorem ea1.on (b : Ev) (ds : List Sl) (p : Bool) (w1 : Wd) : ea1 b ds (some (.bl p, w1)) = if p = true then b ds w1 else some (.bl false, w1) := rfl
@[simp] theorem eAnd.ap (a b : Ev) (ds : List Sl) (w : Wd) : eAnd a b ds w = ea1 b ds (a ds w) := by
  unfold eAnd
  rcases a ds w with _ | ⟨x, y⟩
  · rfl
  · cases x <;> try rfl
    rename_i p
    cases p <;> rfl
def eo1 (b : Ev) (ds : List Sl) : Option (D × Wd) → Option (D × Wd)
  | some (.bl p, w1) => if p = true then some (.bl true, w1) else b ds w1
  | _ => none
@[simp] theorem eo1.on (b : Ev) (ds : List Sl) (p : Bool) (w1 : Wd) : eo1 b ds (some (.bl p, w1)) = if p = true then some (.bl true, w1) else b ds w1 := rfl
@[simp] theorem eOr.ap (a b : Ev) (ds : List Sl) (w : Wd) : eOr a b ds w = eo1 b ds (a ds w) := by
  unfold eOr
  rcases a ds w with _ | ⟨x, y⟩
  · rfl
  · cases x <;> try rfl
    rename_i p
    cases p <;> rfl
def en1 : Option (D × Wd) → Option (D × Wd)
  | some (.bl p, w1) => some (.bl (!p), w1)
  | _ => none
@[simp] theorem en1.on (p : Bool) (w1 : Wd) : en1 (some (.bl p, w1)) = some (.bl (!p), w1) := rfl
@[simp] theorem eNot.ap (a : Ev) (ds : List Sl) (w : Wd) : eNot a ds w = en1 (a ds w) := by
  unfold eNot
  rcases a ds w with _ | ⟨x, y⟩
  · rfl
  · cases x <;> rfl
def eg1 : Option (D × Wd) → Option (D × Wd)
  | some (.int i, w1) => some (.int (-i), w1)
  | _ => none
@[simp] theorem eg1.on (i : Int) (w1 : Wd) : eg1 (some (.int i, w1)) = some (.int (-i), w1) := rfl
@[simp] theorem eNeg.ap (a : Ev) (ds : List Sl) (w : Wd) : eNeg a ds w = eg1 (a ds w) := by
  unfold eNeg
  rcases a ds w with _ | ⟨x, y⟩
  · rfl
  · cases x <;> rfl
def os1 : Option (D × Wd) → Option (Option Int × Wd)
  | some (.int i, w1) => some (some i, w1)
  | _ => none
@[simp] theorem os1.on (i : Int) (w1 : Wd) : os1 (some (.int i, w1)) = some (some i, w1) := rfl
@[simp] theorem oSo.ap (a : Ev) (ds : List Sl) (w : Wd) : oSo a ds w = os1 (a ds w) := by
  unfold oSo
  rcases a ds w with _ | ⟨x, y⟩
  · rfl
  · cases x <;> rfl
@[simp] theorem oNo.ap (ds : List Sl) (w : Wd) : oNo ds w = some (none, w) := rfl
def if1 {α : Type} (a b : List Sl → Wd → Option α) (ds : List Sl) : Option (Bool × Wd) → Option α
  | some (p, w1) => if p = true then a ds w1 else b ds w1
  | none => none
@[simp] theorem if1.on {α : Type} (a b : List Sl → Wd → Option α) (ds : List Sl) (p : Bool) (w1 : Wd) : if1 a b ds (some (p, w1)) = if p = true then a ds w1 else b ds w1 := rfl
@[simp] theorem eIf.ap (t : Et) (a b : Ev) (ds : List Sl) (w : Wd) : eIf t a b ds w = if1 a b ds (t ds w) := by
  unfold eIf
  rcases t ds w with _ | ⟨x, y⟩ <;> rfl
@[simp] theorem sIf.ap (t : Et) (a b : Es) (ds : List Sl) (w : Wd) : sIf t a b ds w = if1 a b ds (t ds w) := by
  unfold sIf
  rcases t ds w with _ | ⟨x, y⟩ <;> rfl
@[simp] theorem aNil.ap (ds : List Sl) (w : Wd) : aNil ds w = some ([], w) := rfl
def ac2 (a : D) : Option (List D × Wd) → Option (List D × Wd)
  | some (xs, w2) => some (a :: xs, w2)
  | none => none
@[simp] theorem ac2.on (a : D)  (xs : List D) (w2 : Wd) : ac2 a (some (xs, w2)) = some (a :: xs, w2) := rfl
def ac1 (g : Ef) (ds : List Sl) : Option (D × Wd) → Option (List D × Wd)
  | some (a, w1) => ac2 a (g ds w1)
  | none => none
@[simp] theorem ac1.on (g : Ef) (ds : List Sl)  (a : D) (w1 : Wd) : ac1 g ds (some (a, w1)) = ac2 a (g ds w1) := rfl
@[simp] theorem aCons.ap (f : Ev) (g : Ef) (ds : List Sl) (w : Wd) : aCons f g ds w = ac1 g ds (f ds w) := by
  unfold aCons
  rcases f ds w with _ | ⟨a, w1⟩
  · rfl
  · show (g ds w1).bind _ = ac2 a (g ds w1)
    rcases g ds w1 with _ | ⟨b, w2⟩ <;> rfl
def st2 : D → Option (List D × Wd) → Option (List D × Wd)
  | .lst xs, some (ys, w2) => some (xs ++ ys, w2)
  | .tup xs, some (ys, w2) => some (xs ++ ys, w2)
  | _, _ => none
@[simp] theorem st2.on1 (xs ys : List D) (w2 : Wd) : st2 (.lst xs) (some (ys, w2)) = some (xs ++ ys, w2) := rfl
@[simp] theorem st2.on2 (xs ys : List D) (w2 : Wd) : st2 (.tup xs) (some (ys, w2)) = some (xs ++ ys, w2) := rfl
def st1 (g : Ef) (ds : List Sl) : Option (D × Wd) → Option (List D × Wd)
  | some (a, w1) => st2 a (g ds w1)
  | none => none
@[simp] theorem st1.on (g : Ef) (ds : List Sl)  (a : D) (w1 : Wd) : st1 g ds (some (a, w1)) = st2 a (g ds w1) := rfl
@[simp] theorem aStar.ap (f : Ev) (g : Ef) (ds : List Sl) (w : Wd) : aStar f g ds w = st1 g ds (f ds w) := by
  unfold aStar
  rcases f ds w with _ | ⟨a, w1⟩
  · rfl
  · show (g ds w1).bind _ = st2 a (g ds w1)
    rcases g ds w1 with _ | ⟨b, w2⟩ <;> cases a <;> rfl
def tp1  : Option (List D × Wd) → Option (D × Wd)
  | some (xs, w1) => if xs.length ≤ line then some (.tup xs, w1) else none
  | none => none
@[simp] theorem tp1.on   (xs : List D) (w1 : Wd) : tp1  (some (xs, w1)) = if xs.length ≤ line then some (.tup xs, w1) else none := rfl
@[simp] theorem eTup.ap (f : Ef) (ds : List Sl) (w : Wd) : eTup f ds w = tp1 (f ds w) := by
  unfold eTup
  rcases f ds w with _ | ⟨a, w1⟩ <;> rfl
def ls1  : Option (List D × Wd) → Option (List D × Wd)
  | some (xs, w1) => if xs.length ≤ line then some (xs, w1) else none
  | none => none
@[simp] theorem ls1.on   (xs : List D) (w1 : Wd) : ls1  (some (xs, w1)) = if xs.length ≤ line then some (xs, w1) else none := rfl
@[simp] theorem fLst.ap (f : Ef) (ds : List Sl) (w : Wd) : fLst f ds w = ls1 (f ds w) := by
  unfold fLst
  rcases f ds w with _ | ⟨a, w1⟩ <;> rfl
def sl3 : D → Option Int → Option (Option Int × Wd) → Option (List D × Wd)
  | .lst xs, lo, some (hi, w) => some (cutD xs lo hi, w)
  | _, _, _ => none
@[simp] theorem sl3.on (xs : List D) (lo hi : Option Int) (w : Wd) : sl3 (.lst xs) lo (some (hi, w)) = some (cutD xs lo hi, w) := rfl
def sl2 (a : D) (h : Eo) (ds : List Sl) : Option (Option Int × Wd) → Option (List D × Wd)
  | some (lo, w) => sl3 a lo (h ds w)
  | none => none
@[simp] theorem sl2.on (a : D) (h : Eo) (ds : List Sl) (lo : Option Int) (w : Wd) : sl2 a h ds (some (lo, w)) = sl3 a lo (h ds w) := rfl
def sl1 (l h : Eo) (ds : List Sl) : Option (D × Wd) → Option (List D × Wd)
  | some (a, w1) => sl2 a h ds (l ds w1)
  | none => none
@[simp] theorem sl1.on (l h : Eo) (ds : List Sl)  (a : D) (w1 : Wd) : sl1 l h ds (some (a, w1)) = sl2 a h ds (l ds w1) := rfl
@[simp] theorem fSl.ap (f : Ev) (l h : Eo) (ds : List Sl) (w : Wd) : fSl f l h ds w = sl1 l h ds (f ds w) := by
  unfold fSl
  rcases f ds w with _ | ⟨a, w1⟩
  · rfl
  · show (l ds w1).bind _ = sl2 a h ds (l ds w1)
    rcases l ds w1 with _ | ⟨b, w2⟩
    · rfl
    · show (h ds w2).bind _ = sl3 a b (h ds w2)
      rcases h ds w2 with _ | ⟨c, w3⟩ <;> cases a <;> rfl
def su3 : D → Option Int → Option (Option Int × Wd) → Option (D × Wd)
  | .tup xs, lo, some (hi, w) => some (.tup (cutD xs lo hi), w)
  | _, _, _ => none
@[simp] theorem su3.on (xs : List D) (lo hi : Option Int) (w : Wd) : su3 (.tup xs) lo (some (hi, w)) = some (.tup (cutD xs lo hi), w) := rfl
def su2 (a : D) (h : Eo) (ds : List Sl) : Option (Option Int × Wd) → Option (D × Wd)
  | some (lo, w) => su3 a lo (h ds w)
  | none => none
@[simp] theorem su2.on (a : D) (h : Eo) (ds : List Sl) (lo : Option Int) (w : Wd) : su2 a h ds (some (lo, w)) = su3 a lo (h ds w) := rfl
def su1 (l h : Eo) (ds : List Sl) : Option (D × Wd) → Option (D × Wd)
  | some (a, w1) => su2 a h ds (l ds w1)
  | none => none
@[simp] theorem su1.on (l h : Eo) (ds : List Sl)  (a : D) (w1 : Wd) : su1 l h ds (some (a, w1)) = su2 a h ds (l ds w1) := rfl
@[simp] theorem eSlT.ap (f : Ev) (l h : Eo) (ds : List Sl) (w : Wd) : eSlT f l h ds w = su1 l h ds (f ds w) := by
  unfold eSlT
  rcases f ds w with _ | ⟨a, w1⟩
  · rfl
  · show (l ds w1).bind _ = su2 a h ds (l ds w1)
    rcases l ds w1 with _ | ⟨b, w2⟩
    · rfl
    · show (h ds w2).bind _ = su3 a b (h ds w2)
      rcases h ds w2 with _ | ⟨c, w3⟩ <;> cases a <;> rfl
def rv1 : Option (D × Wd) → Option (List D × Wd)
  | some (.lst xs, w1) => some (xs.reverse, w1)
  | _ => none
@[simp] theorem rv1.on0 (xs : List D) (w1 : Wd) : rv1 (some (.lst xs, w1)) = some (xs.reverse, w1) := rfl
@[simp] theorem fRev.ap (f : Ev) (ds : List Sl) (w : Wd) : fRev f ds w = rv1 (f ds w) := by
  unfold fRev
  rcases f ds w with _ | ⟨x, y⟩
  · rfl
  · cases x <;> rfl
def it1 : Option (D × Wd) → Option (List D × Wd)
  | some (.lst xs, w1) => some (xs, w1)
  | some (.tup xs, w1) => some (xs, w1)
  | _ => none
@[simp] theorem it1.on0 (xs : List D) (w1 : Wd) : it1 (some (.lst xs, w1)) = some (xs, w1) := rfl
@[simp] theorem it1.on1 (xs : List D) (w1 : Wd) : it1 (some (.tup xs, w1)) = some (xs, w1) := rfl
@[simp] theorem iItems.ap (f : Ev) (ds : List Sl) (w : Wd) : iItems f ds w = it1 (f ds w) := by
  unfold iItems
  rcases f ds w with _ | ⟨x, y⟩
  · rfl
  · cases x <;> rfl
def ie1 : Option (List D × Wd) → Option (List D × Wd)
  | some ([.lst xs], w1) => some (enumD 0 xs, w1)
  | some ([.tup xs], w1) => some (enumD 0 xs, w1)
  | _ => none
@[simp] theorem ie1.on0 (xs : List D) (w1 : Wd) : ie1 (some ([.lst xs], w1)) = some (enumD 0 xs, w1) := rfl
@[simp] theorem ie1.on1 (xs : List D) (w1 : Wd) : ie1 (some ([.tup xs], w1)) = some (enumD 0 xs, w1) := rfl
@[simp] theorem iEnumJ.ap (f : Ef) (ds : List Sl) (w : Wd) : iEnumJ f ds w = ie1 (f ds w) := by
  unfold iEnumJ
  rcases f ds w with _ | ⟨x, y⟩
  · rfl
  · unfold ie1
    dsimp only [Option.bind_some]
    split <;> first | rfl | (rename_i h1 h2; split <;> first | rfl | (exfalso; simp_all))
def iz1 : Option (List D × Wd) → Option (List D × Wd)
  | some ([.lst xs, .lst ys], w1) => some (zipD xs ys, w1)
  | some ([.tup xs, .tup ys], w1) => some (zipD xs ys, w1)
  | _ => none
@[simp] theorem iz1.on0 (xs ys : List D) (w1 : Wd) : iz1 (some ([.lst xs, .lst ys], w1)) = some (zipD xs ys, w1) := rfl
@[simp] theorem iz1.on1 (xs ys : List D) (w1 : Wd) : iz1 (some ([.tup xs, .tup ys], w1)) = some (zipD xs ys, w1) := rfl
@[simp] theorem iZipJ.ap (f : Ef) (ds : List Sl) (w : Wd) : iZipJ f ds w = iz1 (f ds w) := by
  unfold iZipJ
  rcases f ds w with _ | ⟨x, y⟩
  · rfl
  · unfold iz1
    dsimp only [Option.bind_some]
    split <;> first | rfl | (rename_i h1 h2; split <;> first | rfl | (exfalso; simp_all))
def ca1 (g : List D → Option D) : Option (List D × Wd) → Option (D × Wd)
  | some (xs, w1) => vD w1 (g xs)
  | none => none
@[simp] theorem ca1.on (g : List D → Option D)  (xs : List D) (w1 : Wd) : ca1 g (some (xs, w1)) = vD w1 (g xs) := rfl
@[simp] theorem eCal.ap (g : List D → Option D) (f : Ef) (ds : List Sl) (w : Wd) : eCal g f ds w = ca1 g (f ds w) := by
  unfold eCal
  rcases f ds w with _ | ⟨a, w1⟩
  · rfl
  · show (g a).bind _ = vD w1 (g a)
    rcases g a with _ | b <;> rfl
def cl1 (g : List D → Option (List D)) : Option (List D × Wd) → Option (List D × Wd)
  | some (xs, w1) => vLs w1 (g xs)
  | none => none
@[simp] theorem cl1.on (g : List D → Option (List D))  (xs : List D) (w1 : Wd) : cl1 g (some (xs, w1)) = vLs w1 (g xs) := rfl
@[simp] theorem fCal.ap (g : List D → Option (List D)) (f : Ef) (ds : List Sl) (w : Wd) : fCal g f ds w = cl1 g (f ds w) := by
  unfold fCal
  rcases f ds w with _ | ⟨a, w1⟩
  · rfl
  · show (g a).bind _ = vLs w1 (g a)
    rcases g a with _ | b <;> rfl
@[simp] theorem eLen.ap (f : Ef) (ds : List Sl) (w : Wd) : eLen f ds w = ca1 gLen (f ds w) := eCal.ap gLen f ds w
@[simp] theorem eMin.ap (f : Ef) (ds : List Sl) (w : Wd) : eMin f ds w = ca1 gMin (f ds w) := eCal.ap gMin f ds w
@[simp] theorem eMax.ap (f : Ef) (ds : List Sl) (w : Wd) : eMax f ds w = ca1 gMax (f ds w) := eCal.ap gMax f ds w
@[simp] theorem eInt.ap (f : Ef) (ds : List Sl) (w : Wd) : eInt f ds w = ca1 gInt (f ds w) := eCal.ap gInt f ds w
@[simp] theorem eSum.ap (f : Ef) (ds : List Sl) (w : Wd) : eSum f ds w = ca1 gSum (f ds w) := eCal.ap gSum f ds w
@[simp] theorem eAll.ap (f : Ef) (ds : List Sl) (w : Wd) : eAll f ds w = ca1 gAll (f ds w) := eCal.ap gAll f ds w
@[simp] theorem eAny.ap (f : Ef) (ds : List Sl) (w : Wd) : eAny f ds w = ca1 gAny (f ds w) := eCal.ap gAny f ds w
@[simp] theorem eTuple.ap (f : Ef) (ds : List Sl) (w : Wd) : eTuple f ds w = ca1 gTuple (f ds w) := eCal.ap gTuple f ds w
@[simp] theorem eIsi.ap (f : Ef) (ds : List Sl) (w : Wd) : eIsi f ds w = ca1 gIsi (f ds w) := eCal.ap gIsi f ds w
@[simp] theorem fList.ap (f : Ef) (ds : List Sl) (w : Wd) : fList f ds w = cl1 gfList (f ds w) := fCal.ap gfList f ds w
@[simp] theorem fSorted.ap (f : Ef) (ds : List Sl) (w : Wd) : fSorted f ds w = cl1 gfSorted (f ds w) := fCal.ap gfSorted f ds w
def rgF (a b c : D) (w : Wd) : Option (List D × Wd) := match a, b, c with
  | .int i, .int j, .int k => if small2 i j k then some (rgD i k (rgN i j k), w) else none
  | _, _, _ => none
@[simp] theorem rgF.on (i j k : Int) (w : Wd) : rgF (.int i) (.int j) (.int k) w = if small2 i j k then some (rgD i k (rgN i j k), w) else none := rfl
def rg3 (a b : D) : Option (D × Wd) → Option (List D × Wd)
  | some (c, w3) => rgF a b c w3
  | none => none
@[simp] theorem rg3.on (a b : D)  (c : D) (w3 : Wd) : rg3 a b (some (c, w3)) = rgF a b c w3 := rfl
def rg2 (a : D) (fc : Ev) (ds : List Sl) : Option (D × Wd) → Option (List D × Wd)
  | some (b, w2) => rg3 a b (fc ds w2)
  | none => none
@[simp] theorem rg2.on (a : D) (fc : Ev) (ds : List Sl)  (b : D) (w2 : Wd) : rg2 a fc ds (some (b, w2)) = rg3 a b (fc ds w2) := rfl
def rg1 (fb fc : Ev) (ds : List Sl) : Option (D × Wd) → Option (List D × Wd)
  | some (a, w1) => rg2 a fc ds (fb ds w1)
  | none => none
@[simp] theorem rg1.on (fb fc : Ev) (ds : List Sl)  (a : D) (w1 : Wd) : rg1 fb fc ds (some (a, w1)) = rg2 a fc ds (fb ds w1) := rfl
@[simp] theorem fRg.ap (fa fb fc : Ev) (ds : List Sl) (w : Wd) : fRg fa fb fc ds w = rg1 fb fc ds (fa ds w) := by
  unfold fRg
  rcases fa ds w with _ | ⟨a, w1⟩
  · rfl
  · show (fb ds w1).bind _ = rg2 a fc ds (fb ds w1)
    rcases fb ds w1 with _ | ⟨b, w2⟩
    · rfl
    · show (fc ds w2).bind _ = rg3 a b (fc ds w2)
      rcases fc ds w2 with _ | ⟨c, w3⟩ <;> rfl
def irF (a b : D) (w : Wd) : Option (List D × Wd) := match a, b with
  | .int i, .int j => if -(2 ^ 62) ≤ i ∧ i < 2 ^ 62 ∧ -(2 ^ 62) ≤ j ∧ j < 2 ^ 62 then some (rgD i 1 (j - i).toNat, w) else none
  | _, _ => none
theorem irF.on (i j : Int) (w : Wd) (h : -(2 ^ 62) ≤ i ∧ i < 2 ^ 62 ∧ -(2 ^ 62) ≤ j ∧ j < 2 ^ 62) : irF (.int i) (.int j) w = some (rgD i 1 (j - i).toNat, w) := if_pos h
def ir2 (a : D) : Option (D × Wd) → Option (List D × Wd)
  | some (b, w2) => irF a b w2
  | none => none
@[simp] theorem ir2.on (a : D)  (b : D) (w2 : Wd) : ir2 a (some (b, w2)) = irF a b w2 := rfl
def ir1 (fb : Ev) (ds : List Sl) : Option (D × Wd) → Option (List D × Wd)
  | some (a, w1) => ir2 a (fb ds w1)
  | none => none
@[simp] theorem ir1.on (fb : Ev) (ds : List Sl)  (a : D) (w1 : Wd) : ir1 fb ds (some (a, w1)) = ir2 a (fb ds w1) := rfl
@[simp] theorem iRg.ap (fa fb : Ev) (ds : List Sl) (w : Wd) : iRg fa fb ds w = ir1 fb ds (fa ds w) := by
  unfold iRg
  rcases fa ds w with _ | ⟨a, w1⟩
  · rfl
  · show (fb ds w1).bind _ = ir2 a (fb ds w1)
    rcases fb ds w1 with _ | ⟨b, w2⟩ <;> rfl
def isi3 (w : Wd) : Option Bool → Option Bool → Option (D × Wd)
  | some p, some q => some (.bl (p || q), w)
  | _, _ => none
@[simp] theorem isi3.on (w : Wd) (p q : Bool) : isi3 w (some p) (some q) = some (.bl (p || q), w) := rfl
def isi1 (n m : String) : Option (D × Wd) → Option (D × Wd)
  | some (a, w1) => isi3 w1 (isiD a n) (isiD a m)
  | none => none
@[simp] theorem isi1.on (n m : String)  (a : D) (w1 : Wd) : isi1 n m (some (a, w1)) = isi3 w1 (isiD a n) (isiD a m) := rfl
@[simp] theorem eIsi2.ap (f : Ev) (n m : String) (ds : List Sl) (w : Wd) : eIsi2 f n m ds w = isi1 n m (f ds w) := by
  unfold eIsi2
  rcases f ds w with _ | ⟨a, w1⟩
  · rfl
  · show (isiD a n).bind _ = isi3 w1 (isiD a n) (isiD a m)
    rcases isiD a n with _ | b <;> rcases isiD a m with _ | c <;> rfl
@[simp] theorem gN.ap (i : Nat) (ds : List Sl) (d : D) : gN i ds d = some (ds.set i (.d d)) := rfl
@[simp] theorem gsNil.ap (ds : List Sl) : gsNil ds [] = some ds := rfl
def gs1 (h : Egs) (r : List D) : Option (List Sl) → Option (List Sl)
  | some ds1 => h ds1 r
  | none => none
@[simp] theorem gs1.on (h : Egs) (r : List D) (ds1 : List Sl) : gs1 h r (some ds1) = h ds1 r := rfl
@[simp] theorem gsCons.ap (g : Eg) (h : Egs) (ds : List Sl) (x : D) (r : List D) : gsCons g h ds (x :: r) = gs1 h r (g ds x) := by
  show (g ds x).bind _ = _
  rcases g ds x with _ | y <;> rfl
@[simp] theorem gT.ap (n : Nat) (h : Egs) (ds : List Sl) (xs : List D) : gT n h ds (.tup xs) = if xs.length = n then h ds xs else none := rfl
def lc2 : Option (List D × Wd) → Option (List D × Wd)
  | some (xs, w1) => if xs.length ≤ line then some (xs, w1) else none
  | none => none
@[simp] theorem lc2.on (xs : List D) (w1 : Wd) : lc2 (some (xs, w1)) = if xs.length ≤ line then some (xs, w1) else none := rfl
def lc1 (tg : Eg) (c : Et) (e : Ev) (ds : List Sl) : Option (List D × Wd) → Option (List D × Wd)
  | some (xs, w1) => lc2 (lcGo tg c e ds xs w1)
  | none => none
@[simp] theorem lc1.on (tg : Eg) (c : Et) (e : Ev) (ds : List Sl) (xs : List D) (w1 : Wd) : lc1 tg c e ds (some (xs, w1)) = lc2 (lcGo tg c e ds xs w1) := rfl
@[simp] theorem fLc.ap (src : Ef) (tg : Eg) (c : Et) (e : Ev) (vs : List Nat) (ds : List Sl) (w : Wd) : fLc src tg c e vs ds w = lc1 tg c e (wipeS ds vs) (src ds w) := by
  unfold fLc
  rcases src ds w with _ | ⟨xs, w1⟩
  · rfl
  · show (lcGo tg c e (wipeS ds vs) xs w1).bind _ = lc2 (lcGo tg c e (wipeS ds vs) xs w1)
    rcases lcGo tg c e (wipeS ds vs) xs w1 with _ | ⟨b, w2⟩ <;> rfl
@[simp] theorem wipeS_nil (ds : List Sl) : wipeS ds [] = ds := rfl
@[simp] theorem wipeS_cons (ds : List Sl) (v : Nat) (vs : List Nat) : wipeS ds (v :: vs) = (wipeS ds vs).set v .no := rfl
@[simp] theorem tYesJ.ap (ds : List Sl) (w : Wd) : tYesJ ds w = some (true, w) := rfl
@[simp] theorem sNil.ap (ds : List Sl) (w : Wd) : sNil ds w = some (.nx ds w) := rfl
@[simp] theorem sPass.ap (ds : List Sl) (w : Wd) : sPass ds w = some (.nx ds w) := rfl
@[simp] theorem sBk.ap (ds : List Sl) (w : Wd) : sBk ds w = some (.bk ds w) := rfl
@[simp] theorem sCt.ap (ds : List Sl) (w : Wd) : sCt ds w = some (.ct ds w) := rfl
def sq1 (g : Es) : Option Out → Option Out
  | some (.nx ds w) => g ds w
  | some (.rt d w) => some (.rt d w)
  | some (.bk ds w) => some (.bk ds w)
  | some (.ct ds w) => some (.ct ds w)
  | none => none
@[simp] theorem sq1.on1 (g : Es) (ds : List Sl) (w : Wd) : sq1 g (some (.nx ds w)) = g ds w := rfl
@[simp] theorem sq1.on2 (g : Es) (d : D) (w : Wd) : sq1 g (some (.rt d w)) = some (.rt d w) := rfl
@[simp] theorem sq1.on3 (g : Es) (ds : List Sl) (w : Wd) : sq1 g (some (.bk ds w)) = some (.bk ds w) := rfl
@[simp] theorem sq1.on4 (g : Es) (ds : List Sl) (w : Wd) : sq1 g (some (.ct ds w)) = some (.ct ds w) := rfl
@[simp] theorem sSeq.ap (f g : Es) (ds : List Sl) (w : Wd) : sSeq f g ds w = sq1 g (f ds w) := by
  unfold sSeq
  rcases f ds w with _ | o
  · rfl
  · cases o <;> rfl
def fz1 (i : Nat) (g : Es) (ds : List Sl) (w : Wd) : Option Sl → Option Out
  | some (.own xs) => g (ds.set i (.d (.lst xs))) w
  | _ => g ds w
@[simp] theorem fz1.on1 (i : Nat) (g : Es) (ds : List Sl) (w : Wd) (xs : List D) : fz1 i g ds w (some (.own xs)) = g (ds.set i (.d (.lst xs))) w := rfl
@[simp] theorem fz1.on2 (i : Nat) (g : Es) (ds : List Sl) (w : Wd) (x : D) : fz1 i g ds w (some (.d x)) = g ds w := rfl
@[simp] theorem fz1.on3 (i : Nat) (g : Es) (ds : List Sl) (w : Wd) : fz1 i g ds w (some .no) = g ds w := rfl
@[simp] theorem sFrz.ap (i : Nat) (g : Es) (ds : List Sl) (w : Wd) : sFrz i g ds w = fz1 i g ds w ds[i]? := by
  unfold sFrz fz1
  rcases ds[i]? with _ | s
  · rfl
  · cases s <;> rfl
def set1 (i : Nat) (ds : List Sl) : Option (D × Wd) → Option Out
  | some (d, w1) => some (.nx (ds.set i (.d d)) w1)
  | none => none
@[simp] theorem set1.on (i : Nat) (ds : List Sl) (d : D) (w1 : Wd) : set1 i ds (some (d, w1)) = some (.nx (ds.set i (.d d)) w1) := rfl
@[simp] theorem sSet.ap (i : Nat) (f : Ev) (ds : List Sl) (w : Wd) : sSet i f ds w = set1 i ds (f ds w) := by
  unfold sSet
  rcases f ds w with _ | ⟨d, w1⟩ <;> rfl
def set2 (i : Nat) (ds : List Sl) : Option (List D × Wd) → Option Out
  | some (d, w1) => some (.nx (ds.set i (.own d)) w1)
  | none => none
@[simp] theorem set2.on (i : Nat) (ds : List Sl) (d : List D) (w1 : Wd) : set2 i ds (some (d, w1)) = some (.nx (ds.set i (.own d)) w1) := rfl
@[simp] theorem sSetO.ap (i : Nat) (f : Ef) (ds : List Sl) (w : Wd) : sSetO i f ds w = set2 i ds (f ds w) := by
  unfold sSetO
  rcases f ds w with _ | ⟨d, w1⟩ <;> rfl
def rt1 : Option (D × Wd) → Option Out
  | some (d, w1) => some (.rt d w1)
  | none => none
@[simp] theorem rt1.on (d : D) (w1 : Wd) : rt1 (some (d, w1)) = some (.rt d w1) := rfl
@[simp] theorem sRet.ap (f : Ev) (ds : List Sl) (w : Wd) : sRet f ds w = rt1 (f ds w) := by
  unfold sRet
  rcases f ds w with _ | ⟨d, w1⟩ <;> rfl
def dr1 (ds : List Sl) : Option (D × Wd) → Option Out
  | some (_, w1) => some (.nx ds w1)
  | none => none
@[simp] theorem dr1.on (ds : List Sl) (d : D) (w1 : Wd) : dr1 ds (some (d, w1)) = some (.nx ds w1) := rfl
@[simp] theorem sDrop.ap (f : Ev) (ds : List Sl) (w : Wd) : sDrop f ds w = dr1 ds (f ds w) := by
  unfold sDrop
  rcases f ds w with _ | ⟨d, w1⟩ <;> rfl
def fo1 (tg : Eg) (body : Es) (ds : List Sl) : Option (List D × Wd) → Option Out
  | some (xs, w1) => forGo tg body xs ds w1
  | none => none
@[simp] theorem fo1.on (tg : Eg) (body : Es) (ds : List Sl) (xs : List D) (w1 : Wd) : fo1 tg body ds (some (xs, w1)) = forGo tg body xs ds w1 := rfl
@[simp] theorem sFor.ap (src : Ef) (tg : Eg) (body : Es) (ds : List Sl) (w : Wd) : sFor src tg body ds w = fo1 tg body ds (src ds w) := by
  unfold sFor
  rcases src ds w with _ | ⟨d, w1⟩ <;> rfl
def owT (ds : List Sl) (i : Nat) (f : List D → Option (List D)) : Option Sl → Option (List Sl)
  | some (.own xs) => (f xs).bind fun ys => some (ds.set i (.own ys))
  | some (.mu k xs) => (f xs).bind fun ys => some (ds.set i (.mu k ys))
  | _ => none
def nx1 (w : Wd) : Option (List Sl) → Option Out
  | some ds => some (.nx ds w)
  | none => none
@[simp] theorem nx1.on (w : Wd) (ds : List Sl) : nx1 w (some ds) = some (.nx ds w) := rfl
def stO (ds : List Sl) (i : Nat) : Option (List D) → Option (List Sl)
  | some xs => some (ds.set i (.own xs))
  | none => none
@[simp] theorem stO.on (ds : List Sl) (i : Nat) (xs : List D) : stO ds i (some xs) = some (ds.set i (.own xs)) := rfl
def stM (ds : List Sl) (i k : Nat) : Option (List D) → Option (List Sl)
  | some xs => some (ds.set i (.mu k xs))
  | none => none
@[simp] theorem stM.on (ds : List Sl) (i k : Nat) (xs : List D) : stM ds i k (some xs) = some (ds.set i (.mu k xs)) := rfl
def apO (ds : List Sl) (i : Nat) (d : D) : Option Sl → Option (List Sl)
  | some (.own xs) => stO ds i (if xs.length < line then some (xs ++ [d]) else none)
  | some (.mu k xs) => stM ds i k (if xs.length < line then some (xs ++ [d]) else none)
  | _ => none
@[simp] theorem apO.on1 (ds : List Sl) (i : Nat) (d : D) (xs : List D) : apO ds i d (some (.own xs)) = stO ds i (if xs.length < line then some (xs ++ [d]) else none) := rfl
@[simp] theorem apO.on2 (ds : List Sl) (i : Nat) (d : D) (k : Nat) (xs : List D) : apO ds i d (some (.mu k xs)) = stM ds i k (if xs.length < line then some (xs ++ [d]) else none) := rfl
def ap1 (i : Nat) (ds : List Sl) : Option (D × Wd) → Option Out
  | some (d, w1) => nx1 w1 (apO ds i d ds[i]?)
  | none => none
@[simp] theorem ap1.on (i : Nat) (ds : List Sl) (d : D) (w1 : Wd) : ap1 i ds (some (d, w1)) = nx1 w1 (apO ds i d ds[i]?) := rfl
theorem ownTo_eq (ds : List Sl) (i : Nat) (d : D) : (ownTo ds i fun xs => if xs.length < line then some (xs ++ [d]) else none) = apO ds i d ds[i]? := by
  unfold ownTo apO
  rcases ds[i]? with _ | s
  · rfl
  · cases s <;> try rfl
    · rename_i xs
      dsimp only
      by_cases h : xs.length < line
      · rw [if_pos h]; rfl
      · rw [if_neg h]; rfl
    · rename_i k xs
      dsimp only
      by_cases h : xs.length < line
      · rw [if_pos h]; rfl
      · rw [if_neg h]; rfl
@[simp] theorem sApp.ap (i : Nat) (f : Ev) (ds : List Sl) (w : Wd) : sApp i f ds w = ap1 i ds (f ds w) := by
  unfold sApp
  rcases f ds w with _ | ⟨d, w1⟩
  · rfl
  · show (ownTo ds i fun xs => if xs.length < line then some (xs ++ [d]) else none).bind _ = nx1 w1 (apO ds i d ds[i]?)
    rw [ownTo_eq]
    rcases apO ds i d ds[i]? with _ | y <;> rfl
def gn1 (w : Wd) : Option (List Sl) → Option (List Sl × Wd)
  | some ds => some (ds, w)
  | none => none
@[simp] theorem gn1.on (w : Wd) (ds : List Sl) : gn1 w (some ds) = some (ds, w) := rfl
@[simp] theorem goN.ap (g : Eg) (ds : List Sl) (w : Wd) (d : D) : goN g ds w d = gn1 w (g ds d) := by
  unfold goN
  rcases g ds d with _ | y <;> rfl
def putI (xs : List D) (d : D) : Option Nat → Option (List D)
  | some j => some (xs.set j d)
  | none => none
@[simp] theorem putI.on (xs : List D) (d : D) (j : Nat) : putI xs d (some j) = some (xs.set j d) := rfl
def suO (ds : List Sl) (i : Nat) (k : Int) (d : D) : Option Sl → Option (List Sl)
  | some (.own xs) => stO ds i (putI xs d (ixN xs.length k))
  | some (.mu m xs) => stM ds i m (putI xs d (ixN xs.length k))
  | _ => none
@[simp] theorem suO.on1 (ds : List Sl) (i : Nat) (k : Int) (d : D) (xs : List D) : suO ds i k d (some (.own xs)) = stO ds i (putI xs d (ixN xs.length k)) := rfl
@[simp] theorem suO.on2 (ds : List Sl) (i : Nat) (k : Int) (d : D) (m : Nat) (xs : List D) : suO ds i k d (some (.mu m xs)) = stM ds i m (putI xs d (ixN xs.length k)) := rfl
def sb1 (i : Nat) (ds : List Sl) (d : D) : Option (D × Wd) → Option (List Sl × Wd)
  | some (.int k, w1) => gn1 w1 (suO ds i k d ds[i]?)
  | _ => none
@[simp] theorem sb1.on (i : Nat) (ds : List Sl) (d : D) (k : Int) (w1 : Wd) : sb1 i ds d (some (.int k, w1)) = gn1 w1 (suO ds i k d ds[i]?) := rfl
theorem ownTo_eq2 (ds : List Sl) (i : Nat) (k : Int) (d : D) : (ownTo ds i fun xs => (ixN xs.length k).bind fun j => some (xs.set j d)) = suO ds i k d ds[i]? := by
  unfold ownTo suO
  rcases ds[i]? with _ | s
  · rfl
  · cases s <;> try rfl
    · rename_i xs
      dsimp only
      rcases ixN xs.length k with _ | j <;> rfl
    · rename_i m xs
      dsimp only
      rcases ixN xs.length k with _ | j <;> rfl
@[simp] theorem goSub.ap (i : Nat) (f : Ev) (ds : List Sl) (w : Wd) (d : D) : goSub i f ds w d = sb1 i ds d (f ds w) := by
  unfold goSub
  rcases f ds w with _ | ⟨x, w1⟩
  · rfl
  · cases x <;> try rfl
    rename_i k
    show (ownTo ds i fun xs => (ixN xs.length k).bind fun j => some (xs.set j d)).bind _ = gn1 w1 (suO ds i k d ds[i]?)
    rw [ownTo_eq2]
    rcases suO ds i k d ds[i]? with _ | y <;> rfl
@[simp] theorem gosNil.ap (ds : List Sl) (w : Wd) : gosNil ds w [] = some (ds, w) := rfl
def go1 (h : EgsO) (r : List D) : Option (List Sl × Wd) → Option (List Sl × Wd)
  | some (ds1, w1) => h ds1 w1 r
  | none => none
@[simp] theorem go1.on (h : EgsO) (r : List D) (ds1 : List Sl) (w1 : Wd) : go1 h r (some (ds1, w1)) = h ds1 w1 r := rfl
@[simp] theorem gosCons.ap (g : EgO) (h : EgsO) (ds : List Sl) (w : Wd) (x : D) (r : List D) : gosCons g h ds w (x :: r) = go1 h r (g ds w x) := by
  show (g ds w x).bind _ = _
  rcases g ds w x with _ | ⟨y, z⟩ <;> rfl
@[simp] theorem goT.ap (n : Nat) (h : EgsO) (ds : List Sl) (w : Wd) (xs : List D) : goT n h ds w (.tup xs) = if xs.length = n then h ds w xs else none := rfl
def ag2 : Option (List Sl × Wd) → Option Out
  | some (ds, w) => some (.nx ds w)
  | none => none
@[simp] theorem ag2.on (ds : List Sl) (w : Wd) : ag2 (some (ds, w)) = some (.nx ds w) := rfl
def ag1 (g : EgO) (ds : List Sl) : Option (D × Wd) → Option Out
  | some (d, w1) => ag2 (g ds w1 d)
  | none => none
@[simp] theorem ag1.on (g : EgO) (ds : List Sl) (d : D) (w1 : Wd) : ag1 g ds (some (d, w1)) = ag2 (g ds w1 d) := rfl
@[simp] theorem sAsg.ap (f : Ev) (g : EgO) (ds : List Sl) (w : Wd) : sAsg f g ds w = ag1 g ds (f ds w) := by
  unfold sAsg
  rcases f ds w with _ | ⟨d, w1⟩
  · rfl
  · show (g ds w1 d).bind _ = ag2 (g ds w1 d)
    rcases g ds w1 d with _ | ⟨y, z⟩ <;> rfl
@[simp] theorem pNil.ap (ds : List Sl) (w : Wd) : pNil ds w = some ([], w) := rfl
def pc2 (u : Sl) : Option (List Sl × Wd) → Option (List Sl × Wd)
  | some (ts, w) => some (u :: ts, w)
  | none => none
@[simp] theorem pc2.on (u : Sl) (ts : List Sl) (w : Wd) : pc2 u (some (ts, w)) = some (u :: ts, w) := rfl
def pd1 (g : Ep) (ds : List Sl) : Option (D × Wd) → Option (List Sl × Wd)
  | some (d, w1) => pc2 (.d d) (g ds w1)
  | none => none
@[simp] theorem pd1.on (g : Ep) (ds : List Sl) (d : D) (w1 : Wd) : pd1 g ds (some (d, w1)) = pc2 (.d d) (g ds w1) := rfl
@[simp] theorem pD.ap (f : Ev) (g : Ep) (ds : List Sl) (w : Wd) : pD f g ds w = pd1 g ds (f ds w) := by
  unfold pD
  rcases f ds w with _ | ⟨d, w1⟩
  · rfl
  · show (g ds w1).bind _ = pc2 (.d d) (g ds w1)
    rcases g ds w1 with _ | ⟨y, z⟩ <;> rfl
def po1 (g : Ep) (ds : List Sl) : Option (List D × Wd) → Option (List Sl × Wd)
  | some (d, w1) => pc2 (.own d) (g ds w1)
  | none => none
@[simp] theorem po1.on (g : Ep) (ds : List Sl) (d : List D) (w1 : Wd) : po1 g ds (some (d, w1)) = pc2 (.own d) (g ds w1) := rfl
@[simp] theorem pO.ap (f : Ef) (g : Ep) (ds : List Sl) (w : Wd) : pO f g ds w = po1 g ds (f ds w) := by
  unfold pO
  rcases f ds w with _ | ⟨d, w1⟩
  · rfl
  · show (g ds w1).bind _ = pc2 (.own d) (g ds w1)
    rcases g ds w1 with _ | ⟨y, z⟩ <;> rfl
def pr2 (i j : Nat) (ds : List Sl) : Option (List Sl × Wd) → Option Out
  | some ([a, b], w) => some (.nx ((ds.set i a).set j b) w)
  | _ => none
@[simp] theorem pr2.on (i j : Nat) (ds : List Sl) (a b : Sl) (w : Wd) : pr2 i j ds (some ([a, b], w)) = some (.nx ((ds.set i a).set j b) w) := rfl
@[simp] theorem sPar2.ap (i j : Nat) (f : Ep) (ds : List Sl) (w : Wd) : sPar2 i j f ds w = pr2 i j ds (f ds w) := by
  unfold sPar2
  rcases f ds w with _ | ⟨ts, w1⟩
  · rfl
  · rcases ts with _ | ⟨a, _ | ⟨b, _ | ⟨c, r⟩⟩⟩ <;> rfl
def pr3 (i j l : Nat) (ds : List Sl) : Option (List Sl × Wd) → Option Out
  | some ([a, b, c], w) => some (.nx (((ds.set i a).set j b).set l c) w)
  | _ => none
@[simp] theorem pr3.on (i j l : Nat) (ds : List Sl) (a b c : Sl) (w : Wd) : pr3 i j l ds (some ([a, b, c], w)) = some (.nx (((ds.set i a).set j b).set l c) w) := rfl
@[simp] theorem sPar3.ap (i j l : Nat) (f : Ep) (ds : List Sl) (w : Wd) : sPar3 i j l f ds w = pr3 i j l ds (f ds w) := by
  unfold sPar3
  rcases f ds w with _ | ⟨ts, w1⟩
  · rfl
  · rcases ts with _ | ⟨a, _ | ⟨b, _ | ⟨c, _ | ⟨d, r⟩⟩⟩⟩ <;> rfl
def au3 (i : Nat) (ds : List Sl) (w : Wd) : Option D → Option Out
  | some z => some (.nx (ds.set i (.d z)) w)
  | none => none
@[simp] theorem au3.on (i : Nat) (ds : List Sl) (w : Wd) (z : D) : au3 i ds w (some z) = some (.nx (ds.set i (.d z)) w) := rfl
def au2 (i : Nat) (g : D → D → Option D) (ds : List Sl) (x : D) : Option (D × Wd) → Option Out
  | some (d, w1) => au3 i ds w1 (g x d)
  | none => none
@[simp] theorem au2.on (i : Nat) (g : D → D → Option D) (ds : List Sl) (x d : D) (w1 : Wd) : au2 i g ds x (some (d, w1)) = au3 i ds w1 (g x d) := rfl
def au1 (i : Nat) (g : D → D → Option D) (f : Ev) (ds : List Sl) (w : Wd) : Option Sl → Option Out
  | some (.d x) => au2 i g ds x (f ds w)
  | _ => none
@[simp] theorem au1.on (i : Nat) (g : D → D → Option D) (f : Ev) (ds : List Sl) (w : Wd) (x : D) : au1 i g f ds w (some (.d x)) = au2 i g ds x (f ds w) := rfl
@[simp] theorem sAug.ap (i : Nat) (g : D → D → Option D) (f : Ev) (ds : List Sl) (w : Wd) : sAug i g f ds w = au1 i g f ds w ds[i]? := by
  unfold sAug au1
  rcases ds[i]? with _ | s
  · rfl
  · cases s <;> try rfl
    rename_i x
    dsimp only
    rcases f ds w with _ | ⟨d, w1⟩
    · rfl
    · show (g x d).bind _ = au3 i ds w1 (g x d)
      rcases g x d with _ | z <;> rfl
def di3 (w : Wd) : D → D → Option (D × Wd)
  | .draw, .int 0 => some (.lst (w.ns.map D.int), w)
  | .draw, .int 1 => some (.int 0, w)
  | .draw, .int 2 => some (.int w.c, w)
  | _, _ => none
@[simp] theorem di3.on0 (w : Wd) : di3 w .draw (.int 0) = some (.lst (w.ns.map D.int), w) := rfl
@[simp] theorem di3.on1 (w : Wd) : di3 w .draw (.int 1) = some (.int 0, w) := rfl
@[simp] theorem di3.on2 (w : Wd) : di3 w .draw (.int 2) = some (.int w.c, w) := rfl
def di2 (a : D) : Option (D × Wd) → Option (D × Wd)
  | some (b, w2) => di3 w2 a b
  | none => none
@[simp] theorem di2.on (a b : D) (w2 : Wd) : di2 a (some (b, w2)) = di3 w2 a b := rfl
def di1 (g : Ev) (ds : List Sl) : Option (D × Wd) → Option (D × Wd)
  | some (a, w1) => di2 a (g ds w1)
  | none => none
@[simp] theorem di1.on (g : Ev) (ds : List Sl) (a : D) (w1 : Wd) : di1 g ds (some (a, w1)) = di2 a (g ds w1) := rfl
@[simp] theorem eDrIx.ap (f g : Ev) (ds : List Sl) (w : Wd) : eDrIx f g ds w = di1 g ds (f ds w) := by
  unfold eDrIx
  rcases f ds w with _ | ⟨a, w1⟩
  · rfl
  · show (g ds w1).bind _ = di2 a (g ds w1)
    rcases g ds w1 with _ | ⟨b, w2⟩
    · rfl
    · rfl
def gd3 (ds : List Sl) (w : Wd) : D → D → D → Option (List Sl × Wd)
  | .draw, .int 2, .int c => some (ds, ⟨w.ns, c⟩)
  | _, _, _ => none
@[simp] theorem gd3.on (ds : List Sl) (w : Wd) (c : Int) : gd3 ds w .draw (.int 2) (.int c) = some (ds, ⟨w.ns, c⟩) := rfl
def gd2 (ds : List Sl) (d a : D) : Option (D × Wd) → Option (List Sl × Wd)
  | some (b, w2) => gd3 ds w2 a b d
  | none => none
@[simp] theorem gd2.on (ds : List Sl) (d a b : D) (w2 : Wd) : gd2 ds d a (some (b, w2)) = gd3 ds w2 a b d := rfl
def gd1 (g : Ev) (ds : List Sl) (d : D) : Option (D × Wd) → Option (List Sl × Wd)
  | some (a, w1) => gd2 ds d a (g ds w1)
  | none => none
@[simp] theorem gd1.on (g : Ev) (ds : List Sl) (d a : D) (w1 : Wd) : gd1 g ds d (some (a, w1)) = gd2 ds d a (g ds w1) := rfl
@[simp] theorem goDr.ap (f g : Ev) (ds : List Sl) (w : Wd) (d : D) : goDr f g ds w d = gd1 g ds d (f ds w) := by
  unfold goDr
  rcases f ds w with _ | ⟨a, w1⟩
  · rfl
  · show (g ds w1).bind _ = gd2 ds d a (g ds w1)
    rcases g ds w1 with _ | ⟨b, w2⟩
    · rfl
    · rfl
def ec1 (n : Nat) (G : Fn) : Option (List D × Wd) → Option (D × Wd)
  | some (xs, w1) => if xs.length = n then G xs w1 else none
  | none => none
@[simp] theorem ec1.on (n : Nat) (G : Fn) (xs : List D) (w1 : Wd) : ec1 n G (some (xs, w1)) = if xs.length = n then G xs w1 else none := rfl
@[simp] theorem eCall.ap (n : Nat) (G : Fn) (fs : Ef) (ds : List Sl) (w : Wd) : eCall n G fs ds w = ec1 n G (fs ds w) := by
  unfold eCall
  rcases fs ds w with _ | ⟨a, w1⟩ <;> rfl
def mt1 (g : D → Es) (ds : List Sl) : Option (D × Wd) → Option Out
  | some (d, w1) => g d ds w1
  | none => none
@[simp] theorem mt1.on (g : D → Es) (ds : List Sl) (d : D) (w1 : Wd) : mt1 g ds (some (d, w1)) = g d ds w1 := rfl
@[simp] theorem sMatch.ap (f : Ev) (g : D → Es) (ds : List Sl) (w : Wd) : sMatch f g ds w = mt1 g ds (f ds w) := by
  unfold sMatch
  rcases f ds w with _ | ⟨a, w1⟩ <;> rfl
@[simp] theorem mcCons.ap (xs : List Str) (fb : Es) (rest : D → Es) (z : Str) (ds : List Sl) (w : Wd) : mcCons xs fb rest (.str z) ds w = if z ∈ xs then fb ds w else rest (.str z) ds w := rfl
@[simp] theorem mcNil.ap (d : D) (ds : List Sl) (w : Wd) : mcNil d ds w = some (.nx ds w) := rfl
@[simp] theorem mcAll.ap (fb : Es) (d : D) (ds : List Sl) (w : Wd) : mcAll fb d ds w = fb ds w := rfl
def cmO (ds : List Sl) (i : Nat) : Option (List D × Wd) → Option Out
  | some (xs, w) => some (.nx (ds.set i (.own xs)) w)
  | none => none
@[simp] theorem cmO.on (ds : List Sl) (i : Nat) (xs : List D) (w : Wd) : cmO ds i (some (xs, w)) = some (.nx (ds.set i (.own xs)) w) := rfl
def cmM (ds : List Sl) (i k : Nat) : Option (List D × Wd) → Option Out
  | some (xs, w) => some (.nx (ds.set i (.mu k xs)) w)
  | none => none
@[simp] theorem cmM.on (ds : List Sl) (i k : Nat) (xs : List D) (w : Wd) : cmM ds i k (some (xs, w)) = some (.nx (ds.set i (.mu k xs)) w) := rfl
def cm2 (i n : Nat) (G : Fm) (ds : List Sl) (as : List D) (w : Wd) : Option Sl → Option Out
  | some (.own xs) => if as.length + 1 = n then cmO ds i (G xs as w) else none
  | some (.mu k xs) => if as.length + 1 = n then cmM ds i k (G xs as w) else none
  | _ => none
@[simp] theorem cm2.on1 (i n : Nat) (G : Fm) (ds : List Sl) (as : List D) (w : Wd) (xs : List D) : cm2 i n G ds as w (some (.own xs)) = if as.length + 1 = n then cmO ds i (G xs as w) else none := rfl
@[simp] theorem cm2.on2 (i n : Nat) (G : Fm) (ds : List Sl) (as : List D) (w : Wd) (k : Nat) (xs : List D) : cm2 i n G ds as w (some (.mu k xs)) = if as.length + 1 = n then cmM ds i k (G xs as w) else none := rfl
def cm1 (i n : Nat) (G : Fm) (ds : List Sl) : Option (List D × Wd) → Option Out
  | some (as, w1) => cm2 i n G ds as w1 ds[i]?
  | none => none
@[simp] theorem cm1.on (i n : Nat) (G : Fm) (ds : List Sl) (as : List D) (w1 : Wd) : cm1 i n G ds (some (as, w1)) = cm2 i n G ds as w1 ds[i]? := rfl
@[simp] theorem sCallM.ap (i n : Nat) (G : Fm) (fs : Ef) (ds : List Sl) (w : Wd) : sCallM i n G fs ds w = cm1 i n G ds (fs ds w) := by
  unfold sCallM
  rcases fs ds w with _ | ⟨as, w1⟩
  · rfl
  · show (match ds[i]? with | some (.own xs) => _ | some (.mu k xs) => _ | _ => none) = cm2 i n G ds as w1 ds[i]?
    unfold cm2
    rcases ds[i]? with _ | s
    · rfl
    · cases s <;> try rfl
      · rename_i xs
        dsimp only
        by_cases h : as.length + 1 = n
        · rw [if_pos h, if_pos h]
          rcases G xs as w1 with _ | ⟨y, z⟩ <;> rfl
        · rw [if_neg h, if_neg h]
      · rename_i k xs
        dsimp only
        by_cases h : as.length + 1 = n
        · rw [if_pos h, if_pos h]
          rcases G xs as w1 with _ | ⟨y, z⟩ <;> rfl
        · rw [if_neg h, if_neg h]
@[simp] theorem fin_rt (d : D) (w : Wd) : fin (some (.rt d w)) = some (d, w) := rfl
@[simp] theorem fin_nx (ds : List Sl) (w : Wd) : fin (some (.nx ds w)) = some (.non, w) := rfl
@[simp] theorem v_idxL (xs : List D) (i : Int) : idxD (.lst xs) (.int i) = atI xs i := rfl
@[simp] theorem v_idxT (xs : List D) (i : Int) : idxD (.tup xs) (.int i) = atI xs i := rfl
theorem atI_of_nat {α : Type} (xs : List α) {i : Nat} (h : i < xs.length) : atI xs (i : Int) = xs[i]? := by
  unfold atI
  rw [ixN_nat h]
  rfl
@[simp] theorem atI_0 {α : Type} (a : α) (l : List α) : atI (a :: l) 0 = some a := by
  rw [show (0 : Int) = ((0 : Nat) : Int) from rfl, atI_of_nat _ (by simp)]
  rfl
@[simp] theorem atI_1 {α : Type} (a b : α) (l : List α) : atI (a :: b :: l) 1 = some b := by
  rw [show (1 : Int) = ((1 : Nat) : Int) from rfl, atI_of_nat _ (by simp)]
  rfl
@[simp] theorem atI_2 {α : Type} (a b c : α) (l : List α) : atI (a :: b :: c :: l) 2 = some c := by
  rw [show (2 : Int) = ((2 : Nat) : Int) from rfl, atI_of_nat _ (by simp)]
  rfl
@[simp] theorem atI_3 {α : Type} (a b c d : α) (l : List α) : atI (a :: b :: c :: d :: l) 3 = some d := by
  rw [show (3 : Int) = ((3 : Nat) : Int) from rfl, atI_of_nat _ (by simp)]
  rfl
@[simp] theorem atI_4 {α : Type} (a b c d e : α) (l : List α) : atI (a :: b :: c :: d :: e :: l) 4 = some e := by
  rw [show (4 : Int) = ((4 : Nat) : Int) from rfl, atI_of_nat _ (by simp)]
  rfl
@[simp] theorem v_eq_int (a b : Int) : eqD (.int a) (.int b) = some (.bl (decide (a = b))) := eqD_int a b
@[simp] theorem v_ne_int (a b : Int) : neD (.int a) (.int b) = some (.bl (!decide (a = b))) := neD_int a b
@[simp] theorem v_eq_bl (a b : Bool) : eqD (.bl a) (.bl b) = some (.bl (a == b)) := eqD_bl a b
@[simp] theorem v_ne_bl (a b : Bool) : neD (.bl a) (.bl b) = some (.bl (!(a == b))) := neD_bl a b
@[simp] theorem v_eq_str (a b : Str) (ha : lay (.str a) = true) (hb : lay (.str b) = true) : eqD (.str a) (.str b) = some (.bl (decide (a = b))) := by
  unfold eqD
  rw [ha, hb]
  show some (D.bl (PyData.eqv (.str a) (.str b))) = _
  rw [eqv_str]
@[simp] theorem v_ne_str (a b : Str) (ha : lay (.str a) = true) (hb : lay (.str b) = true) : neD (.str a) (.str b) = some (.bl (!decide (a = b))) := by
  unfold neD
  rw [ha, hb]
  show some (D.bl (!PyData.eqv (.str a) (.str b))) = _
  rw [eqv_str]
@[simp] theorem v_eq_ints (ns ms : List Int) : eqD (.lst (ns.map D.int)) (.lst (ms.map D.int)) = some (.bl (decide (ns = ms))) := eqD_ints ns ms
@[simp] theorem v_ne_ints (ns ms : List Int) : neD (.lst (ns.map D.int)) (.lst (ms.map D.int)) = some (.bl (!decide (ns = ms))) := neD_ints ns ms
@[simp] theorem v_ne_ints0 (ns : List Int) : neD (.lst (ns.map D.int)) (.lst []) = some (.bl (!decide (ns = []))) := neD_ints ns []
@[simp] theorem v_eq_ints0 (ns : List Int) : eqD (.lst (ns.map D.int)) (.lst []) = some (.bl (decide (ns = []))) := eqD_ints ns []
@[simp] theorem v_lt (i j : Int) : g2B pLt (.int i) (.int j) = some (.bl (decide (i < j))) := rfl
@[simp] theorem v_le (i j : Int) : g2B pLe (.int i) (.int j) = some (.bl (decide (i ≤ j))) := rfl
@[simp] theorem v_gt (i j : Int) : g2B pGt (.int i) (.int j) = some (.bl (decide (j < i))) := rfl
@[simp] theorem v_ge (i j : Int) : g2B pGe (.int i) (.int j) = some (.bl (decide (j ≤ i))) := rfl
@[simp] theorem v_add (i j : Int) : addD (.int i) (.int j) = some (.int (i + j)) := rfl
@[simp] theorem v_sub (i j : Int) : subD (.int i) (.int j) = some (.int (i - j)) := rfl
theorem v_mul {i j : Int} (h : okMul i j = true) : mulD (.int i) (.int j) = some (.int (i * j)) := by
  show (if okMul i j then _ else _) = _
  rw [if_pos h]
theorem okMul_r {i j : Int} (h1 : -(2 ^ 64) < j) (h2 : j < 2 ^ 64) : okMul i j = true := by
  unfold okMul
  rw [decide_eq_true (And.intro h1 h2), Bool.or_true]
theorem okMul_l {i j : Int} (h1 : -(2 ^ 64) < i) (h2 : i < 2 ^ 64) : okMul i j = true := by
  unfold okMul
  rw [decide_eq_true (And.intro h1 h2), Bool.true_or]
theorem v_mod {i j : Int} (h : 0 < j) : modD (.int i) (.int j) = some (.int (i % j)) := by
  show (if okMod i j then _ else _) = _
  rw [if_pos (show okMod i j = true from decide_eq_true h)]
theorem v_div {i j : Int} (h : okDiv i j = true) : divD (.int i) (.int j) = some (.int (i / j)) := by
  show (if okDiv i j then _ else _) = _
  rw [if_pos h]
@[simp] theorem v_addL (xs ys : List D) : addD (.lst xs) (.lst ys) = if xs.length + ys.length ≤ line then some (.lst (xs ++ ys)) else none := rfl
@[simp] theorem v_lenL (xs : List D) : gLen [.lst xs] = some (.int (xs.length : Int)) := rfl
@[simp] theorem v_lenT (xs : List D) : gLen [.tup xs] = some (.int (xs.length : Int)) := rfl
@[simp] theorem v_int (i : Int) : gInt [.int i] = some (.int i) := rfl
@[simp] theorem v_min2 (i j : Int) : gMin [.int i, .int j] = some (.int (f2min i j)) := rfl
@[simp] theorem v_max2 (i j : Int) : gMax [.int i, .int j] = some (.int (f2max i j)) := rfl
@[simp] theorem v_listL (xs : List D) : gfList [.lst xs] = some xs := rfl
@[simp] theorem v_listT (xs : List D) : gfList [.tup xs] = some xs := rfl
@[simp] theorem v_tupL (xs : List D) : gTuple [.lst xs] = some (.tup xs) := rfl
@[simp] theorem v_tupT (xs : List D) : gTuple [.tup xs] = some (.tup xs) := rfl
@[simp] theorem v_sum (ns : List Int) : gSum [.lst (ns.map D.int)] = some (.int ns.sum) := by
  show (intsOf (ns.map D.int)).bind _ = _
  rw [intsOf_map]
  rfl
@[simp] theorem v_all (ns : List Bool) : gAll [.lst (ns.map D.bl)] = some (.bl (ns.all id)) := by
  show (blsOf (ns.map D.bl)).bind _ = _
  rw [blsOf_map]
  rfl
@[simp] theorem v_any (ns : List Bool) : gAny [.lst (ns.map D.bl)] = some (.bl (ns.any id)) := by
  show (blsOf (ns.map D.bl)).bind _ = _
  rw [blsOf_map]
  rfl
@[simp] theorem v_sorted (ns : List Int) : gfSorted [.lst (ns.map D.int)] = some ((sortI ns).map D.int) := by
  show (intsOf (ns.map D.int)).bind _ = _
  rw [intsOf_map]
  rfl
@[simp] theorem v_isi_tup_tuple (xs : List D) : gIsi [.tup xs, .ty "tuple"] = some (.bl true) := rfl
@[simp] theorem v_isD_tup_tuple (xs : List D) : isiD (.tup xs) "tuple" = some true := rfl
@[simp] theorem v_isi_tup_list (xs : List D) : gIsi [.tup xs, .ty "list"] = some (.bl false) := rfl
@[simp] theorem v_isD_tup_list (xs : List D) : isiD (.tup xs) "list" = some false := rfl
@[simp] theorem v_isi_tup_int (xs : List D) : gIsi [.tup xs, .ty "int"] = some (.bl false) := rfl
@[simp] theorem v_isD_tup_int (xs : List D) : isiD (.tup xs) "int" = some false := rfl
@[simp] theorem v_isi_tup_str (xs : List D) : gIsi [.tup xs, .ty "str"] = some (.bl false) := rfl
@[simp] theorem v_isD_tup_str (xs : List D) : isiD (.tup xs) "str" = some false := rfl
@[simp] theorem v_isi_tup_bool (xs : List D) : gIsi [.tup xs, .ty "bool"] = some (.bl false) := rfl
@[simp] theorem v_isD_tup_bool (xs : List D) : isiD (.tup xs) "bool" = some false := rfl
@[simp] theorem v_isi_lst_tuple (xs : List D) : gIsi [.lst xs, .ty "tuple"] = some (.bl false) := rfl
@[simp] theorem v_isD_lst_tuple (xs : List D) : isiD (.lst xs) "tuple" = some false := rfl
@[simp] theorem v_isi_lst_list (xs : List D) : gIsi [.lst xs, .ty "list"] = some (.bl true) := rfl
@[simp] theorem v_isD_lst_list (xs : List D) : isiD (.lst xs) "list" = some true := rfl
@[simp] theorem v_isi_lst_int (xs : List D) : gIsi [.lst xs, .ty "int"] = some (.bl false) := rfl
@[simp] theorem v_isD_lst_int (xs : List D) : isiD (.lst xs) "int" = some false := rfl
@[simp] theorem v_isi_lst_str (xs : List D) : gIsi [.lst xs, .ty "str"] = some (.bl false) := rfl
@[simp] theorem v_isD_lst_str (xs : List D) : isiD (.lst xs) "str" = some false := rfl
@[simp] theorem v_isi_lst_bool (xs : List D) : gIsi [.lst xs, .ty "bool"] = some (.bl false) := rfl
@[simp] theorem v_isD_lst_bool (xs : List D) : isiD (.lst xs) "bool" = some false := rfl
@[simp] theorem v_isi_int_tuple (i : Int) : gIsi [.int i, .ty "tuple"] = some (.bl false) := rfl
@[simp] theorem v_isD_int_tuple (i : Int) : isiD (.int i) "tuple" = some false := rfl
@[simp] theorem v_isi_int_list (i : Int) : gIsi [.int i, .ty "list"] = some (.bl false) := rfl
@[simp] theorem v_isD_int_list (i : Int) : isiD (.int i) "list" = some false := rfl
@[simp] theorem v_isi_int_int (i : Int) : gIsi [.int i, .ty "int"] = some (.bl true) := rfl
@[simp] theorem v_isD_int_int (i : Int) : isiD (.int i) "int" = some true := rfl
@[simp] theorem v_isi_int_str (i : Int) : gIsi [.int i, .ty "str"] = some (.bl false) := rfl
@[simp] theorem v_isD_int_str (i : Int) : isiD (.int i) "str" = some false := rfl
@[simp] theorem v_isi_int_bool (i : Int) : gIsi [.int i, .ty "bool"] = some (.bl false) := rfl
@[simp] theorem v_isD_int_bool (i : Int) : isiD (.int i) "bool" = some false := rfl
@[simp] theorem v_isi_str_tuple (z : Str) : gIsi [.str z, .ty "tuple"] = some (.bl false) := rfl
@[simp] theorem v_isD_str_tuple (z : Str) : isiD (.str z) "tuple" = some false := rfl
@[simp] theorem v_isi_str_list (z : Str) : gIsi [.str z, .ty "list"] = some (.bl false) := rfl
@[simp] theorem v_isD_str_list (z : Str) : isiD (.str z) "list" = some false := rfl
@[simp] theorem v_isi_str_int (z : Str) : gIsi [.str z, .ty "int"] = some (.bl false) := rfl
@[simp] theorem v_isD_str_int (z : Str) : isiD (.str z) "int" = some false := rfl
@[simp] theorem v_isi_str_str (z : Str) : gIsi [.str z, .ty "str"] = some (.bl true) := rfl
@[simp] theorem v_isD_str_str (z : Str) : isiD (.str z) "str" = some true := rfl
@[simp] theorem v_isi_str_bool (z : Str) : gIsi [.str z, .ty "bool"] = some (.bl false) := rfl
@[simp] theorem v_isD_str_bool (z : Str) : isiD (.str z) "bool" = some false := rfl
@[simp] theorem v_isi_bl_tuple (p : Bool) : gIsi [.bl p, .ty "tuple"] = some (.bl false) := rfl
@[simp] theorem v_isD_bl_tuple (p : Bool) : isiD (.bl p) "tuple" = some false := rfl
@[simp] theorem v_isi_bl_list (p : Bool) : gIsi [.bl p, .ty "list"] = some (.bl false) := rfl
@[simp] theorem v_isD_bl_list (p : Bool) : isiD (.bl p) "list" = some false := rfl
@[simp] theorem v_isi_bl_int (p : Bool) : gIsi [.bl p, .ty "int"] = some (.bl true) := rfl
@[simp] theorem v_isD_bl_int (p : Bool) : isiD (.bl p) "int" = some true := rfl
@[simp] theorem v_isi_bl_str (p : Bool) : gIsi [.bl p, .ty "str"] = some (.bl false) := rfl
@[simp] theorem v_isD_bl_str (p : Bool) : isiD (.bl p) "str" = some false := rfl
@[simp] theorem v_isi_bl_bool (p : Bool) : gIsi [.bl p, .ty "bool"] = some (.bl true) := rfl
@[simp] theorem v_isD_bl_bool (p : Bool) : isiD (.bl p) "bool" = some true := rfl
@[simp] theorem v_isi_non_tuple  : gIsi [.non, .ty "tuple"] = some (.bl false) := rfl
@[simp] theorem v_isD_non_tuple  : isiD (.non) "tuple" = some false := rfl
@[simp] theorem v_isi_non_list  : gIsi [.non, .ty "list"] = some (.bl false) := rfl
@[simp] theorem v_isD_non_list  : isiD (.non) "list" = some false := rfl
@[simp] theorem v_isi_non_int  : gIsi [.non, .ty "int"] = some (.bl false) := rfl
@[simp] theorem v_isD_non_int  : isiD (.non) "int" = some false := rfl
@[simp] theorem v_isi_non_str  : gIsi [.non, .ty "str"] = some (.bl false) := rfl
@[simp] theorem v_isD_non_str  : isiD (.non) "str" = some false := rfl
@[simp] theorem v_isi_non_bool  : gIsi [.non, .ty "bool"] = some (.bl false) := rfl
@[simp] theorem v_isD_non_bool  : isiD (.non) "bool" = some false := rfl
theorem line_eq : line = 100000 := rfl
/-! conditions of symbolic truths -/
@[simp] theorem z_and (c : Prop) [Decidable c] (q : Bool) (w : Wd) : (if c then some (q, w) else some (false, w)) = some (decide c && q, w) := by
  by_cases h : c <;> simp [h]
@[simp] theorem z_or (c : Prop) [Decidable c] (q : Bool) (w : Wd) : (if c then some (true, w) else some (q, w)) = some (decide c || q, w) := by
  by_cases h : c <;> simp [h]
@[simp] theorem z_andD (c : Prop) [Decidable c] (q : Bool) (w : Wd) : (if c then some (D.bl q, w) else some (.bl false, w)) = some (.bl (decide c && q), w) := by
  by_cases h : c <;> simp [h]
@[simp] theorem z_orD (c : Prop) [Decidable c] (q : Bool) (w : Wd) : (if c then some (D.bl true, w) else some (.bl q, w)) = some (.bl (decide c || q), w) := by
  by_cases h : c <;> simp [h]
end J
namespace J
open PySem PyProof.Rows L2
/-! ### drawing: what every law draws by -/
noncomputable def g_cellat : Es :=
 (sSeq (sIf (eTest (eLt (eBor 1) (eLen (aCons (eBor 0) aNil)))) (sSeq (sRet (eIx (eBor 0) (eBor 1)))
 sNil) sNil)
 (sSeq (sRet (eC (.int 0)))
 sNil))
noncomputable def G_cellat : Fn := callS 2 g_cellat
noncomputable def g_drawn : Es :=
 (sSeq (sSet 3 (eTup (aCons (eC (.int 1000003)) (aCons (eC (.int 1000033)) (aCons (eC (.int 1000037)) (aCons (eC (.int 1000039)) (aCons (eC (.int 1000081)) (aCons (eC (.int 1000099)) (aCons (eC (.int 1000117)) (aCons (eC (.int 1000121)) (aCons (eC (.int 1000133)) (aCons (eC (.int 1000151)) (aCons (eC (.int 1000159)) (aCons (eC (.int 1000171)) (aCons (eC (.int 1000183)) (aCons (eC (.int 1000187)) (aCons (eC (.int 1000193)) (aCons (eC (.int 1000199)) aNil))))))))))))))))))
 (sSeq (sRet (eMod (eMod (eInt (aCons (eAdd (eMul (eBor 0) (eC (.int 48271))) (eMul (eBor 1) (eC (.int 69621)))) aNil)) (eIx (eBor 3) (eMod (eInt (aCons (eBor 1) aNil)) (eC (.int 16))))) (eBor 2)))
 sNil))
noncomputable def G_drawn : Fn := callS 4 g_drawn
noncomputable def g_numb : Es :=
 (sSeq (sSet 3 (eC (.int 1)))
 (sSeq (sFor (iRg (eC (.int 0)) (eMod (eInt (aCons (eBor 1) aNil)) (eC (.int 24)))) (gN 4) (sSeq (sSet 3 (eMul (eBor 3) (eC (.int 1009))))
 sNil))
 (sSeq (sSet 5 (eDiv (eSub (eBor 0) (ePow (eC (.int 10)) (eC (.int 18)))) (eBor 3)))
 (sSeq (sIf (eTest (eGt (eBor 5) (eC (.int 0)))) (sSeq (sRet (eMod (eMod (eInt (aCons (eBor 5) aNil)) (eC (.int 1009))) (eBor 2)))
 sNil) sNil)
 (sSeq (sSet 6 (eMod (eInt (aCons (eBor 0) aNil)) (eC (.int 1000003))))
 (sSeq (sRet (eMod (eCall 3 G_drawn (aCons (eMul (eAdd (eBor 6) (eMul (eC (.int 977)) (eBor 1))) (eAdd (eAdd (eBor 6) (eMul (eC (.int 31)) (eBor 1))) (eC (.int 5)))) (aCons (eAdd (eMod (eInt (aCons (eBor 1) aNil)) (eC (.int 9))) (eC (.int 1))) (aCons (eC (.int 999983)) aNil)))) (eBor 2)))
 sNil))))))
noncomputable def G_numb : Fn := callS 7 g_numb
noncomputable def g_next : Es :=
 (sSeq (sAsg (eAdd (eDrIx (eVar 0) (eC (.int 2))) (eC (.int 1))) (goDr (eVar 0) (eC (.int 2))))
 (sSeq (sSet 2 (eDiv (eDrIx (eVar 0) (eC (.int 2))) (eC (.int 12))))
 (sSeq (sSet 3 (eAdd (eCall 2 G_cellat (aCons (eDrIx (eVar 0) (eC (.int 0))) (aCons (eAdd (eDrIx (eVar 0) (eC (.int 1))) (eBor 2)) aNil))) (eMul (eC (.int 31)) (eBor 2))))
 (sSeq (sRet (eCall 3 G_numb (aCons (eVar 3) (aCons (eAdd (eMod (eInt (aCons (eDrIx (eVar 0) (eC (.int 2))) aNil)) (eC (.int 12))) (eC (.int 1))) (aCons (eVar 1) aNil)))))
 sNil))))
noncomputable def G_next : Fn := callS 4 g_next
theorem ap_cellat (a b : D) (w : Wd) : G_cellat [a, b] w = fin (g_cellat [.d a, .d b] w) := rfl
theorem ap_drawn (a b c : D) (w : Wd) : G_drawn [a, b, c] w = fin (g_drawn [.d a, .d b, .d c, .no] w) := rfl
theorem ap_numb (a b c : D) (w : Wd) : G_numb [a, b, c] w = fin (g_numb [.d a, .d b, .d c, .no, .no, .no, .no] w) := rfl
theorem ap_next (a b : D) (w : Wd) : G_next [a, b] w = fin (g_next [.d a, .d b, .no, .no] w) := rfl
theorem cellat_on (ns : List Int) (k : Int) (hk : 0 ≤ k) (w : Wd) : ∃ v, G_cellat [.lst (ns.map D.int), .int k] w = some (.int v, w) := by
  rw [ap_cellat]
  unfold g_cellat
  by_cases h : k < (ns.length : Int)
  · obtain ⟨n, rfl⟩ := Int.eq_ofNat_of_zero_le hk
    have h' : n < ns.length := by omega
    refine ⟨ns[n], ?_⟩
    simp [h', atI_of_nat]
  · refine ⟨0, ?_⟩
    simp [h]
theorem atI_lit {α : Type} (xs : List α) (k : Int) (h0 : 0 ≤ k) (h1 : k < (xs.length : Int)) : ∃ x, x ∈ xs ∧ atI xs k = some x := by
  obtain ⟨n, rfl⟩ := Int.eq_ofNat_of_zero_le h0
  have h' : n < xs.length := by omega
  exact ⟨xs[n], List.getElem_mem h', by rw [atI_of_nat _ h', List.getElem?_eq_getElem h']⟩
theorem drawn_on (a k b : Int) (hb : 0 < b) (w : Wd) : ∃ v, 0 ≤ v ∧ v < b ∧ G_drawn [.int a, .int k, .int b] w = some (.int v, w) := by
  have hm : (0 : Int) ≤ k % 16 ∧ k % 16 < 16 := ⟨Int.emod_nonneg _ (by decide), Int.emod_lt_of_pos _ (by decide)⟩
  obtain ⟨x, hx, ex⟩ := atI_lit ([.int 1000003, .int 1000033, .int 1000037, .int 1000039, .int 1000081, .int 1000099, .int 1000117, .int 1000121, .int 1000133, .int 1000151, .int 1000159, .int 1000171, .int 1000183, .int 1000187, .int 1000193, .int 1000199] : List D) (k % 16) hm.1 hm.2
  have hp : ∃ p : Int, x = .int p ∧ 0 < p := by
    simp only [List.mem_cons, List.not_mem_nil, or_false] at hx
    rcases hx with rfl | rfl | rfl | rfl | rfl | rfl | rfl | rfl | rfl | rfl | rfl | rfl | rfl | rfl | rfl | rfl <;> exact ⟨_, rfl, by decide⟩
  obtain ⟨p, rfl, hp⟩ := hp
  refine ⟨(a * 48271 + k * 69621) % p % b, Int.emod_nonneg _ (by omega), Int.emod_lt_of_pos _ hb, ?_⟩
  rw [ap_drawn]
  unfold g_drawn
  simp [line_eq, v_mul (okMul_r (i := a) (j := 48271) (by decide) (by decide)), v_mul (okMul_r (i := k) (j := 69621) (by decide) (by decide)), v_mod (i := k) (j := 16) (by decide), ex, v_mod (i := a * 48271 + k * 69621) hp, v_mod (j := b) hb]
theorem forGo_nx {tg : Eg} {body : Es} {x : D} {xs : List D} {ds ds1 ds2 : List Sl} {w w2 : Wd} (h1 : tg ds x = some ds1) (h2 : body ds1 w = some (.nx ds2 w2)) : forGo tg body (x :: xs) ds w = forGo tg body xs ds2 w2 := by
  show (tg ds x).bind _ = _
  rw [h1]
  show (body ds1 w).bind _ = _
  rw [h2]
  rfl
theorem numb_loop (a k b q : Int) (h1 : -(2 ^ 64) < q) (h2 : q < 2 ^ 64) (w : Wd) : ∀ (l : List Nat) (p : Int) (z : Sl), ∃ z', forGo (gN 4) (sSeq (sSet 3 (eMul (eBor 3) (eC (.int q)))) sNil) (l.map fun i : Nat => D.int (i : Int)) [.d (.int a), .d (.int k), .d (.int b), .d (.int p), z, .no, .no] w = some (.nx [.d (.int a), .d (.int k), .d (.int b), .d (.int (p * q ^ l.length)), z', .no, .no] w)
  | [], p, z => ⟨z, by rw [List.length_nil, Int.pow_zero, Int.mul_one]; rfl⟩
  | j :: l, p, z => by
    obtain ⟨z', h'⟩ := numb_loop a k b q h1 h2 w l (p * q) (.d (.int (j : Int)))
    refine ⟨z', ?_⟩
    have e : (sSeq (sSet 3 (eMul (eBor 3) (eC (.int q)))) sNil) [.d (.int a), .d (.int k), .d (.int b), .d (.int p), .d (.int (j : Int)), .no, .no] w = some (.nx [.d (.int a), .d (.int k), .d (.int b), .d (.int (p * q)), .d (.int (j : Int)), .no, .no] w) := by
      simp [v_mul (okMul_r (i := p) h1 h2)]
    rw [List.map_cons, forGo_nx (ds1 := [.d (.int a), .d (.int k), .d (.int b), .d (.int p), .d (.int (j : Int)), .no, .no]) rfl e, h', List.length_cons, Int.pow_succ, Int.mul_assoc, Int.mul_comm q]
theorem rgD_range (n : Nat) : rgD 0 1 n = (List.range' 0 n).map fun i : Nat => D.int (i : Int) := by
  unfold rgD
  rw [List.range_eq_range']
  apply List.map_congr_left
  intro i _
  simp
theorem okDiv_pow (i : Int) : ∀ j : Nat, j ≤ 24 → okDiv i (1009 ^ j) = true := by
  intro j hj
  have h : ∀ j : Nat, j < 25 → (decide ((0 : Int) < 1009 ^ j) && decide (((1009 : Int) ^ j).natAbs.log2 < 9000)) = true := by decide +kernel
  exact h j (by omega)
theorem numb_on (a k b : Int) (hk : 1 ≤ k) (hk2 : k ≤ 12) (hb : 0 < b) (w : Wd) : ∃ v, 0 ≤ v ∧ v < b ∧ G_numb [.int a, .int k, .int b] w = some (.int v, w) := by
  rw [ap_numb]
  unfold g_numb
  have em : k % 24 = k := Int.emod_eq_of_lt (by omega) (by omega)
  obtain ⟨z, hl⟩ := numb_loop a k b 1009 (by decide) (by decide) w (List.range' 0 k.toNat) 1 .no
  rw [List.length_range', Int.one_mul] at hl
  have hr := irF.on 0 k w ⟨by decide, by decide, by omega, by omega⟩
  rw [Int.sub_zero, rgD_range] at hr
  have hpow : powD (.int 10) (.int 18) = some (.int 1000000000000000000) := by
    show (if okPow 10 18 then some (D.int (10 ^ 18)) else none) = _
    rw [if_pos (by decide)]
    rfl
  have hdv := v_div (i := a - 1000000000000000000) (okDiv_pow (a - 1000000000000000000) k.toNat (by omega))
  by_cases hp : 0 < (a - 1000000000000000000) / 1009 ^ k.toNat
  · refine ⟨((a - 1000000000000000000) / 1009 ^ k.toNat) % 1009 % b, Int.emod_nonneg _ (by omega), Int.emod_lt_of_pos _ hb, ?_⟩
    simp [v_mod (i := k) (j := 24) (by decide), em, hr, hl, hpow, hdv, hp, v_mod (i := (a - 1000000000000000000) / 1009 ^ k.toNat) (j := 1009) (by decide), v_mod (i := ((a - 1000000000000000000) / 1009 ^ k.toNat) % 1009) hb]
  · have hs1 : 0 ≤ a % 1000003 := Int.emod_nonneg _ (by decide)
    have hs2 : a % 1000003 < 1000003 := Int.emod_lt_of_pos _ (by decide)
    obtain ⟨v, h1, h2, h3⟩ := drawn_on ((a % 1000003 + 977 * k) * (a % 1000003 + 31 * k + 5)) (k % 9 + 1) 999983 (by decide) w
    refine ⟨v % b, Int.emod_nonneg _ (by omega), Int.emod_lt_of_pos _ hb, ?_⟩
    simp [v_mod (i := k) (j := 24) (by decide), em, hr, hl, hpow, hdv, hp, v_mod (i := a) (j := 1000003) (by decide), v_mod (i := k) (j := 9) (by decide), v_mul (okMul_l (i := 977) (j := k) (by decide) (by decide)), v_mul (okMul_l (i := 31) (j := k) (by decide) (by decide)),
      v_mul (okMul_l (i := a % 1000003 + 977 * k) (j := a % 1000003 + 31 * k + 5) (by omega) (by omega)), h3, v_mod (i := v) hb]
/-- one drawing: a number below the bound; the counter goes on by one -/
theorem next_on (b : Int) (hb : 0 < b) (w : Wd) (hc : 0 ≤ w.c) : ∃ v, 0 ≤ v ∧ v < b ∧ G_next [.draw, .int b] w = some (.int v, ⟨w.ns, w.c + 1⟩) := by
  have hq : 0 ≤ (w.c + 1) / 12 := Int.ediv_nonneg (by omega) (by decide)
  obtain ⟨x, hx⟩ := cellat_on w.ns ((w.c + 1) / 12) hq ⟨w.ns, w.c + 1⟩
  have m1 : 0 ≤ (w.c + 1) % 12 := Int.emod_nonneg _ (by decide)
  have m2 : (w.c + 1) % 12 < 12 := Int.emod_lt_of_pos _ (by decide)
  obtain ⟨v, h1, h2, h3⟩ := numb_on (x + 31 * ((w.c + 1) / 12)) ((w.c + 1) % 12 + 1) b (by omega) (by omega) hb ⟨w.ns, w.c + 1⟩
  refine ⟨v, h1, h2, ?_⟩
  rw [ap_next]
  unfold g_next
  simp [v_div (i := w.c + 1) (j := 12) (by unfold okDiv; decide), hx, v_mul (okMul_l (i := 31) (j := (w.c + 1) / 12) (by decide) (by decide)), v_mod (i := w.c + 1) (j := 12) (by decide), h3]
end J
namespace K01
open PySem PyProof.Rows L2 J
def topS (i : Nat) : Stmt := PySem.Challenge.pw_strandloom_k01_whole_passes.main.body.getD i (.Pass ⟨0, 0, 0, 0⟩)
abbrev s_is_whole : Stmt := topS 5
abbrev N_is_whole : List Str := ["thing"]
theorem sc_is_whole : FnScope N_is_whole ["thing"] (defScope s_is_whole) := ⟨rfl, rfl, rfl, by decide +kernel, rfl, by decide +kernel, by decide +kernel⟩
noncomputable def g_is_whole : Es :=
 (sSeq (sRet (eAnd (eIsi (aCons (eBor 0) (aCons (eC (.ty "int")) aNil))) (eNot (eIsi (aCons (eBor 0) (aCons (eC (.ty "bool")) aNil))))))
 sNil)
noncomputable def G_is_whole : Fn := callS N_is_whole.length g_is_whole
abbrev s_is_word : Stmt := topS 11
abbrev N_is_word : List Str := ["thing", "words"]
theorem sc_is_word : FnScope N_is_word ["thing", "words"] (defScope s_is_word) := ⟨rfl, rfl, rfl, by decide +kernel, rfl, by decide +kernel, by decide +kernel⟩
noncomputable def g_is_word : Es :=
 (sSeq (sRet (eAnd (eIsi (aCons (eBor 0) (aCons (eC (.ty "str")) aNil))) (eIn (eBor 0) (eBor 1))))
 sNil)
noncomputable def G_is_word : Fn := callS N_is_word.length g_is_word
abbrev s_is_pass : Stmt := topS 10
abbrev N_is_pass : List Str := ["thing"]
theorem sc_is_pass : FnScope N_is_pass ["thing"] (defScope s_is_pass) := ⟨rfl, rfl, rfl, by decide +kernel, rfl, by decide +kernel, by decide +kernel⟩
noncomputable def g_is_pass : Es :=
 (sSeq (sIf (tOrJ (tNotJ (eTest (eIsi (aCons (eBor 0) (aCons (eC (.ty "tuple")) aNil))))) (tOrJ (eTest (eEq (eLen (aCons (eBor 0) aNil)) (eC (.int 0)))) (tNotJ (eTest (eIsi (aCons (eIx (eBor 0) (eC (.int 0))) (aCons (eC (.ty "str")) aNil))))))) (sSeq (sRet (eC (.bl false)))
 sNil) sNil)
 (sSeq (sMatch (eIx (eBor 0) (eC (.int 0))) (mcCons ["turn"] (sSeq (sRet (eEq (eLen (aCons (eBor 0) aNil)) (eC (.int 1))))
 sNil)
 (mcCons ["round"] (sSeq (sRet (eAnd (eEq (eLen (aCons (eBor 0) aNil)) (eC (.int 2))) (eCall 2 G_is_word (aCons (eIx (eBor 0) (eC (.int 1))) (aCons (eC (.tup [.str "right", .str "left"])) aNil)))))
 sNil)
 (mcCons ["chain", "ends"] (sSeq (sRet (eAnd (eEq (eLen (aCons (eBor 0) aNil)) (eC (.int 3))) (eAnd (eCall 2 G_is_word (aCons (eIx (eBor 0) (eC (.int 1))) (aCons (eC (.tup [.str "right", .str "left"])) aNil))) (eCall 2 G_is_word (aCons (eIx (eBor 0) (eC (.int 2))) (aCons (eC (.tup [.str "up", .str "down"])) aNil))))))
 sNil)
 (mcCons ["layer"] (sSeq (sIf (tOrJ (eTest (eNe (eLen (aCons (eBor 0) aNil)) (eC (.int 5)))) (tOrJ (tNotJ (eTest (eCall 2 G_is_word (aCons (eIx (eBor 0) (eC (.int 1))) (aCons (eC (.tup [.str "right", .str "left"])) aNil))))) (tNotJ (eTest (eCall 2 G_is_word (aCons (eIx (eBor 0) (eC (.int 4))) (aCons (eC (.tup [.str "up", .str "down"])) aNil))))))) (sSeq (sRet (eC (.bl false)))
 sNil) sNil)
 (sSeq (sRet (eAnd (eCall 1 G_is_whole (aCons (eIx (eBor 0) (eC (.int 2))) aNil)) (eAnd (eCall 1 G_is_whole (aCons (eIx (eBor 0) (eC (.int 3))) aNil)) (eAnd (eChain (g2B pLe) (g2B pLe) (eC (.int 2)) (eIx (eBor 0) (eC (.int 3))) (eC (.int 6))) (eChain (g2B pLe) (g2B pLt) (eC (.int 0)) (eIx (eBor 0) (eC (.int 2))) (eIx (eBor 0) (eC (.int 3))))))))
 sNil))
 mcNil)))))
 (sSeq (sRet (eC (.bl false)))
 sNil)))
noncomputable def G_is_pass : Fn := callS N_is_pass.length g_is_pass
abbrev s_check_passes : Stmt := topS 12
abbrev N_check_passes : List Str := ["passes", "place", "one"]
theorem sc_check_passes : FnScope N_check_passes ["passes"] (defScope s_check_passes) := ⟨rfl, rfl, rfl, by decide +kernel, rfl, by decide +kernel, by decide +kernel⟩
noncomputable def g_check_passes : Es :=
 (sSeq (sIf (tNotJ (eTest (eIsi2 (eBor 0) "list" "tuple"))) (sSeq sNone
 sNil) sNil)
 (sSeq (sFor (iEnumJ (aCons (eVar 0) aNil)) (gT 2 (gsCons (gN 1) (gsCons (gN 2) gsNil))) (sSeq (sIf (tNotJ (eTest (eCall 1 G_is_pass (aCons (eVar 2) aNil)))) (sSeq sNone
 sNil) sNil)
 sNil))
 sNil))
noncomputable def G_check_passes : Fn := callS N_check_passes.length g_check_passes
abbrev s_exchanges : Stmt := topS 13
abbrev N_exchanges : List Str := ["one", "width", "places", "first", "place"]
theorem sc_exchanges : FnScope N_exchanges ["one", "width"] (defScope s_exchanges) := ⟨rfl, rfl, rfl, by decide +kernel, rfl, by decide +kernel, by decide +kernel⟩
noncomputable def g_exchanges : Es :=
 (sSeq (sIf (eTest (eEq (eIx (eBor 0) (eC (.int 0))) (eC (.str "chain")))) (sSeq (sSet 2 (eL (fRg (eC (.int 0)) (eSub (eBor 1) (eC (.int 1))) (eC (.int 1)))))
 (sSeq (sRet (eL (fLc (iItems (eIf (eTest (eEq (eIx (eBor 0) (eC (.int 1))) (eC (.str "right")))) (eBor 2) (eL (fRev (eBor 2))))) (gN 4) tYesJ (eTup (aCons (eVar 4) (aCons (eAdd (eBor 4) (eC (.int 1))) (aCons (eIx (eBor 0) (eC (.int 2))) aNil)))) [4])))
 sNil)) sNil)
 (sSeq (sIf (eTest (eEq (eIx (eBor 0) (eC (.int 0))) (eC (.str "ends")))) (sSeq (sSet 3 (eIf (eTest (eEq (eIx (eBor 0) (eC (.int 1))) (eC (.str "left")))) (eC (.int 0)) (eSub (eBor 1) (eC (.int 2)))))
 (sSeq (sRet (eIf (eTest (eGt (eBor 1) (eC (.int 1)))) (eL (fLst (aCons (eTup (aCons (eVar 3) (aCons (eAdd (eBor 3) (eC (.int 1))) (aCons (eIx (eBor 0) (eC (.int 2))) aNil)))) aNil))) (eL (fLst aNil))))
 sNil)) sNil)
 (sSeq (sIf (eTest (eEq (eIx (eBor 0) (eC (.int 0))) (eC (.str "layer")))) (sSeq (sSet 2 (eL (fRg (eIx (eBor 0) (eC (.int 2))) (eSub (eBor 1) (eC (.int 1))) (eIx (eBor 0) (eC (.int 3))))))
 (sSeq (sIf (eTest (eEq (eIx (eBor 0) (eC (.int 1))) (eC (.str "left")))) (sSeq (sSetO 2 (fLc (iItems (eBor 2)) (gN 4) tYesJ (eSub (eSub (eBor 1) (eC (.int 2))) (eBor 4)) [4]))
 (sFrz 2 sNil)) sNil)
 (sSeq (sRet (eL (fLc (iItems (eL (fSorted (aCons (eBor 2) aNil)))) (gN 4) tYesJ (eTup (aCons (eVar 4) (aCons (eAdd (eBor 4) (eC (.int 1))) (aCons (eIx (eBor 0) (eC (.int 4))) aNil)))) [4])))
 sNil))) sNil)
 (sSeq (sRet (eL (fLst aNil)))
 sNil))))
noncomputable def G_exchanges : Fn := callS N_exchanges.length g_exchanges
abbrev s_through : Stmt := topS 14
abbrev N_through : List Str := ["one", "row", "late", "first", "second", "order"]
theorem sc_through : FnScope N_through ["one", "row"] (defScope s_through) := ⟨rfl, rfl, rfl, by decide +kernel, rfl, by decide +kernel, by decide +kernel⟩
noncomputable def g_through : Es :=
 (sSeq (sSetO 2 (fList (aCons (eBor 1) aNil)))
 (sSeq (sIf (eTest (eEq (eIx (eBor 0) (eC (.int 0))) (eC (.str "turn")))) (sSeq (sRet (eL (fRev (eBor 2))))
 sNil) sNil)
 (sSeq (sIf (tAndJ (eTest (eEq (eIx (eBor 0) (eC (.int 0))) (eC (.str "round")))) (eTest (eNe (eBor 2) (eL (fLst aNil))))) (sSeq (sRet (eIf (eTest (eEq (eIx (eBor 0) (eC (.int 1))) (eC (.str "left")))) (eL (fLst (aStar (eL (fSl (eBor 2) (oSo (eC (.int 1))) oNo)) (aCons (eIx (eBor 2) (eC (.int 0))) aNil)))) (eL (fLst (aCons (eIx (eBor 2) (eNeg (eC (.int 1)))) (aStar (eL (fSl (eBor 2) oNo (oSo (eNeg (eC (.int 1)))))) aNil))))))
 sNil) sNil)
 (sSeq (sFor (iItems (eCall 2 G_exchanges (aCons (eVar 0) (aCons (eLen (aCons (eBor 2) aNil)) aNil)))) (gT 3 (gsCons (gN 3) (gsCons (gN 4) (gsCons (gN 5) gsNil)))) (sSeq (sIf (tAndJ (eTest (eEq (eLt (eIx (eBor 2) (eBor 4)) (eIx (eBor 2) (eBor 3))) (eEq (eBor 5) (eC (.str "up"))))) (eTest (eNe (eIx (eBor 2) (eBor 3)) (eIx (eBor 2) (eBor 4))))) (sSeq (sAsg (eTup (aCons (eIx (eBor 2) (eBor 4)) (aCons (eIx (eBor 2) (eBor 3)) aNil))) (goT 2 (gosCons (goSub 2 (eBor 3)) (gosCons (goSub 2 (eBor 4)) gosNil))))
 sNil) sNil)
 sNil))
 (sFrz 2 (sSeq (sRet (eVar 2))
 sNil))))))
noncomputable def G_through : Fn := callS N_through.length g_through
abbrev s_woven : Stmt := topS 15
abbrev N_woven : List Str := ["passes", "row", "late", "one", "thing"]
theorem sc_woven : FnScope N_woven ["passes", "row"] (defScope s_woven) := ⟨rfl, rfl, rfl, by decide +kernel, rfl, by decide +kernel, by decide +kernel⟩
noncomputable def g_woven : Es :=
 (sSeq (sDrop (eCall 1 G_check_passes (aCons (eVar 0) aNil)))
 (sSeq (sIf (tOrJ (tNotJ (eTest (eIsi2 (eBor 1) "list" "tuple"))) (tNotJ (eTest (eAll (aCons (eL (fLc (iItems (eBor 1)) (gN 4) tYesJ (eCall 1 G_is_whole (aCons (eVar 4) aNil)) [4])) aNil))))) (sSeq sNone
 sNil) sNil)
 (sSeq (sSet 2 (eL (fList (aCons (eBor 1) aNil))))
 (sSeq (sFor (iItems (eVar 0)) (gN 3) (sSeq (sSet 2 (eCall 2 G_through (aCons (eVar 3) (aCons (eVar 2) aNil))))
 sNil))
 (sSeq (sRet (eVar 2))
 sNil)))))
noncomputable def G_woven : Fn := callS N_woven.length g_woven
abbrev s__law_cell_at : Stmt := topS 17
abbrev N__law_cell_at : List Str := ["_law_script", "_law_k"]
theorem sc__law_cell_at : FnScope N__law_cell_at ["_law_script", "_law_k"] (defScope s__law_cell_at) := ⟨rfl, rfl, rfl, by decide +kernel, rfl, by decide +kernel, by decide +kernel⟩
noncomputable def g__law_cell_at : Es :=
 (sSeq (sIf (eTest (eLt (eBor 1) (eLen (aCons (eBor 0) aNil)))) (sSeq (sRet (eIx (eBor 0) (eBor 1)))
 sNil) sNil)
 (sSeq (sRet (eC (.int 0)))
 sNil))
noncomputable def G__law_cell_at : Fn := callS N__law_cell_at.length g__law_cell_at
abbrev s__law_draw : Stmt := topS 18
abbrev N__law_draw : List Str := ["_law_cell", "_law_k", "_law_bound", "_law_primes"]
theorem sc__law_draw : FnScope N__law_draw ["_law_cell", "_law_k", "_law_bound"] (defScope s__law_draw) := ⟨rfl, rfl, rfl, by decide +kernel, rfl, by decide +kernel, by decide +kernel⟩
noncomputable def g__law_draw : Es :=
 (sSeq (sSet 3 (eTup (aCons (eC (.int 1000003)) (aCons (eC (.int 1000033)) (aCons (eC (.int 1000037)) (aCons (eC (.int 1000039)) (aCons (eC (.int 1000081)) (aCons (eC (.int 1000099)) (aCons (eC (.int 1000117)) (aCons (eC (.int 1000121)) (aCons (eC (.int 1000133)) (aCons (eC (.int 1000151)) (aCons (eC (.int 1000159)) (aCons (eC (.int 1000171)) (aCons (eC (.int 1000183)) (aCons (eC (.int 1000187)) (aCons (eC (.int 1000193)) (aCons (eC (.int 1000199)) aNil))))))))))))))))))
 (sSeq (sRet (eMod (eMod (eInt (aCons (eAdd (eMul (eBor 0) (eC (.int 48271))) (eMul (eBor 1) (eC (.int 69621)))) aNil)) (eIx (eBor 3) (eMod (eInt (aCons (eBor 1) aNil)) (eC (.int 16))))) (eBor 2)))
 sNil))
noncomputable def G__law_draw : Fn := callS N__law_draw.length g__law_draw
abbrev s__law_number : Stmt := topS 19
abbrev N__law_number : List Str := ["_law_cell", "_law_k", "_law_bound", "_law_power", "_law_lap", "_law_remains", "_law_small"]
theorem sc__law_number : FnScope N__law_number ["_law_cell", "_law_k", "_law_bound"] (defScope s__law_number) := ⟨rfl, rfl, rfl, by decide +kernel, rfl, by decide +kernel, by decide +kernel⟩
noncomputable def g__law_number : Es :=
 (sSeq (sSet 3 (eC (.int 1)))
 (sSeq (sFor (iRg (eC (.int 0)) (eMod (eInt (aCons (eBor 1) aNil)) (eC (.int 24)))) (gN 4) (sSeq (sSet 3 (eMul (eBor 3) (eC (.int 1009))))
 sNil))
 (sSeq (sSet 5 (eDiv (eSub (eBor 0) (ePow (eC (.int 10)) (eC (.int 18)))) (eBor 3)))
 (sSeq (sIf (eTest (eGt (eBor 5) (eC (.int 0)))) (sSeq (sRet (eMod (eMod (eInt (aCons (eBor 5) aNil)) (eC (.int 1009))) (eBor 2)))
 sNil) sNil)
 (sSeq (sSet 6 (eMod (eInt (aCons (eBor 0) aNil)) (eC (.int 1000003))))
 (sSeq (sRet (eMod (eCall 3 G__law_draw (aCons (eMul (eAdd (eBor 6) (eMul (eC (.int 977)) (eBor 1))) (eAdd (eAdd (eBor 6) (eMul (eC (.int 31)) (eBor 1))) (eC (.int 5)))) (aCons (eAdd (eMod (eInt (aCons (eBor 1) aNil)) (eC (.int 9))) (eC (.int 1))) (aCons (eC (.int 999983)) aNil)))) (eBor 2)))
 sNil))))))
noncomputable def G__law_number : Fn := callS N__law_number.length g__law_number
abbrev s__law_next : Stmt := topS 20
abbrev N__law_next : List Str := ["_law_draw_here", "_law_bound", "_law_at", "_law_cell"]
theorem sc__law_next : FnScope N__law_next ["_law_draw_here", "_law_bound"] (defScope s__law_next) := ⟨rfl, rfl, rfl, by decide +kernel, rfl, by decide +kernel, by decide +kernel⟩
noncomputable def g__law_next : Es :=
 (sSeq (sAsg (eAdd (eDrIx (eVar 0) (eC (.int 2))) (eC (.int 1))) (goDr (eVar 0) (eC (.int 2))))
 (sSeq (sSet 2 (eDiv (eDrIx (eVar 0) (eC (.int 2))) (eC (.int 12))))
 (sSeq (sSet 3 (eAdd (eCall 2 G__law_cell_at (aCons (eDrIx (eVar 0) (eC (.int 0))) (aCons (eAdd (eDrIx (eVar 0) (eC (.int 1))) (eBor 2)) aNil))) (eMul (eC (.int 31)) (eBor 2))))
 (sSeq (sRet (eCall 3 G__law_number (aCons (eVar 3) (aCons (eAdd (eMod (eInt (aCons (eDrIx (eVar 0) (eC (.int 2))) aNil)) (eC (.int 12))) (eC (.int 1))) (aCons (eVar 1) aNil)))))
 sNil))))
noncomputable def G__law_next : Fn := callS N__law_next.length g__law_next
abbrev s__law_pick : Stmt := topS 21
abbrev N__law_pick : List Str := ["_law_draw_here", "_law_things"]
theorem sc__law_pick : FnScope N__law_pick ["_law_draw_here", "_law_things"] (defScope s__law_pick) := ⟨rfl, rfl, rfl, by decide +kernel, rfl, by decide +kernel, by decide +kernel⟩
noncomputable def g__law_pick : Es :=
 (sSeq (sRet (eIx (eBor 1) (eCall 2 G__law_next (aCons (eVar 0) (aCons (eLen (aCons (eBor 1) aNil)) aNil)))))
 sNil)
noncomputable def G__law_pick : Fn := callS N__law_pick.length g__law_pick
abbrev s__law_pass : Stmt := topS 22
abbrev N__law_pass : List Str := ["_law_draw_here", "_law_kind", "_law_way", "_law_order", "_law_step"]
theorem sc__law_pass : FnScope N__law_pass ["_law_draw_here"] (defScope s__law_pass) := ⟨rfl, rfl, rfl, by decide +kernel, rfl, by decide +kernel, by decide +kernel⟩
noncomputable def g__law_pass : Es :=
 (sSeq (sPar3 1 2 3 (pD (eCall 2 G__law_next (aCons (eVar 0) (aCons (eC (.int 7)) aNil))) (pD (eCall 2 G__law_pick (aCons (eVar 0) (aCons (eL (fLst (aCons (eC (.str "right")) (aCons (eC (.str "left")) aNil)))) aNil))) (pD (eCall 2 G__law_pick (aCons (eVar 0) (aCons (eL (fLst (aCons (eC (.str "up")) (aCons (eC (.str "up")) (aCons (eC (.str "down")) aNil))))) aNil))) pNil))))
 (sSeq (sIf (tOrJ (eTest (eLt (eBor 1) (eC (.int 3)))) (eTest (eEq (eBor 1) (eC (.int 6))))) (sSeq (sRet (eTup (aCons (eIf (eTest (eLt (eBor 1) (eC (.int 3)))) (eC (.str "chain")) (eC (.str "ends"))) (aCons (eVar 2) (aCons (eVar 3) aNil)))))
 sNil) sNil)
 (sSeq (sIf (eTest (eLt (eBor 1) (eC (.int 5)))) (sSeq (sSet 4 (eAdd (eC (.int 2)) (eCall 2 G__law_next (aCons (eVar 0) (aCons (eC (.int 3)) aNil)))))
 (sSeq (sRet (eTup (aCons (eC (.str "layer")) (aCons (eVar 2) (aCons (eCall 2 G__law_next (aCons (eVar 0) (aCons (eVar 4) aNil))) (aCons (eVar 4) (aCons (eVar 3) aNil)))))))
 sNil)) sNil)
 (sSeq (sRet (eCall 2 G__law_pick (aCons (eVar 0) (aCons (eL (fLst (aCons (eTup (aCons (eC (.str "turn")) aNil)) (aCons (eTup (aCons (eC (.str "round")) (aCons (eVar 2) aNil))) aNil)))) aNil))))
 sNil))))
noncomputable def G__law_pass : Fn := callS N__law_pass.length g__law_pass
abbrev s__law_put : Stmt := topS 23
abbrev N__law_put : List Str := ["_law_row", "_law_first", "_law_second", "_law_order", "_law_low", "_law_high"]
theorem sc__law_put : FnScope N__law_put ["_law_row", "_law_first", "_law_second", "_law_order"] (defScope s__law_put) := ⟨rfl, rfl, rfl, by decide +kernel, rfl, by decide +kernel, by decide +kernel⟩
noncomputable def g__law_put : Es :=
 (sSeq (sPar2 4 5 (pD (eMin (aCons (eIx (eBor 0) (eBor 1)) (aCons (eIx (eBor 0) (eBor 2)) aNil))) (pD (eMax (aCons (eIx (eBor 0) (eBor 1)) (aCons (eIx (eBor 0) (eBor 2)) aNil))) pNil)))
 (sSeq (sAsg (eIf (eTest (eEq (eBor 3) (eC (.str "up")))) (eTup (aCons (eVar 4) (aCons (eVar 5) aNil))) (eTup (aCons (eVar 5) (aCons (eVar 4) aNil)))) (goT 2 (gosCons (goSub 0 (eBor 1)) (gosCons (goSub 0 (eBor 2)) gosNil))))
 sNil))
noncomputable def G__law_put : Fm := callM N__law_put.length g__law_put
abbrev s__law_through : Stmt := topS 24
abbrev N__law_through : List Str := ["_law_one", "_law_row", "_law_late", "_law_width", "_law_at", "_law_first"]
theorem sc__law_through : FnScope N__law_through ["_law_one", "_law_row"] (defScope s__law_through) := ⟨rfl, rfl, rfl, by decide +kernel, rfl, by decide +kernel, by decide +kernel⟩
noncomputable def g__law_through : Es :=
 (sSeq (sPar2 2 3 (pO (fList (aCons (eBor 1) aNil)) (pD (eLen (aCons (eBor 1) aNil)) pNil)))
 (sSeq (sIf (eTest (eEq (eIx (eBor 0) (eC (.int 0))) (eC (.str "turn")))) (sSeq (sRet (eL (fRev (eBor 2))))
 sNil) sNil)
 (sSeq (sIf (eTest (eEq (eIx (eBor 0) (eC (.int 0))) (eC (.str "round")))) (sSeq (sRet (eIf (eTest (eEq (eIx (eBor 0) (eC (.int 1))) (eC (.str "left")))) (eAdd (eL (fSl (eBor 2) (oSo (eC (.int 1))) oNo)) (eL (fSl (eBor 2) oNo (oSo (eC (.int 1)))))) (eAdd (eL (fSl (eBor 2) (oSo (eNeg (eC (.int 1)))) oNo)) (eL (fSl (eBor 2) oNo (oSo (eNeg (eC (.int 1)))))))))
 sNil) sNil)
 (sSeq (sIf (tAndJ (eTest (eEq (eIx (eBor 0) (eC (.int 0))) (eC (.str "ends")))) (eTest (eGt (eBor 3) (eC (.int 1))))) (sSeq (sCallM 2 4 G__law_put (aCons (eIf (eTest (eEq (eIx (eBor 0) (eC (.int 1))) (eC (.str "left")))) (eC (.int 0)) (eSub (eBor 3) (eC (.int 2)))) (aCons (eIf (eTest (eEq (eIx (eBor 0) (eC (.int 1))) (eC (.str "left")))) (eC (.int 1)) (eSub (eBor 3) (eC (.int 1)))) (aCons (eIx (eBor 0) (eC (.int 2))) aNil))))
 sNil) sNil)
 (sSeq (sIf (eTest (eEq (eIx (eBor 0) (eC (.int 0))) (eC (.str "ends")))) (sFrz 2 (sSeq (sRet (eVar 2))
 sNil)) sNil)
 (sSeq (sIf (eTest (eEq (eIx (eBor 0) (eC (.int 0))) (eC (.str "chain")))) (sSeq (sFor (iRg (eC (.int 0)) (eSub (eBor 3) (eC (.int 1)))) (gN 4) (sSeq (sSet 5 (eIf (eTest (eEq (eIx (eBor 0) (eC (.int 1))) (eC (.str "right")))) (eVar 4) (eSub (eSub (eBor 3) (eC (.int 2))) (eBor 4))))
 (sSeq (sCallM 2 4 G__law_put (aCons (eVar 5) (aCons (eAdd (eBor 5) (eC (.int 1))) (aCons (eIx (eBor 0) (eC (.int 2))) aNil))))
 sNil)))
 (sFrz 2 (sSeq (sRet (eVar 2))
 sNil))) sNil)
 (sSeq (sFor (iRg (eC (.int 0)) (eSub (eBor 3) (eC (.int 1)))) (gN 4) (sSeq (sIf (tAndJ (eTest (eGe (eBor 4) (eIx (eBor 0) (eC (.int 2))))) (eTest (eEq (eMod (eSub (eBor 4) (eIx (eBor 0) (eC (.int 2)))) (eIx (eBor 0) (eC (.int 3)))) (eC (.int 0))))) (sSeq (sSet 5 (eIf (eTest (eEq (eIx (eBor 0) (eC (.int 1))) (eC (.str "right")))) (eVar 4) (eSub (eSub (eBor 3) (eC (.int 2))) (eBor 4))))
 (sSeq (sCallM 2 4 G__law_put (aCons (eVar 5) (aCons (eAdd (eBor 5) (eC (.int 1))) (aCons (eIx (eBor 0) (eC (.int 4))) aNil))))
 sNil)) sNil)
 sNil))
 (sFrz 2 (sSeq (sRet (eVar 2))
 sNil)))))))))
noncomputable def G__law_through : Fn := callS N__law_through.length g__law_through
abbrev s__law_woven : Stmt := topS 25
abbrev N__law_woven : List Str := ["_law_passes", "_law_row", "_law_late", "_law_one"]
theorem sc__law_woven : FnScope N__law_woven ["_law_passes", "_law_row"] (defScope s__law_woven) := ⟨rfl, rfl, rfl, by decide +kernel, rfl, by decide +kernel, by decide +kernel⟩
noncomputable def g__law_woven : Es :=
 (sSeq (sSet 2 (eL (fList (aCons (eBor 1) aNil))))
 (sSeq (sFor (iItems (eVar 0)) (gN 3) (sSeq (sSet 2 (eCall 2 G__law_through (aCons (eVar 3) (aCons (eVar 2) aNil))))
 sNil))
 (sSeq (sRet (eVar 2))
 sNil)))
noncomputable def G__law_woven : Fn := callS N__law_woven.length g__law_woven
abbrev s_law : Stmt := topS 26
abbrev N_law : List Str := ["_law_script", "_law_draw_here", "_law_passes", "_law_row", "_law_one", "_law_late", "_law_first", "_law_second", "_law_order", "_law_turn"]
theorem sc_law : FnScope N_law ["_law_script"] (defScope s_law) := ⟨rfl, rfl, rfl, by decide +kernel, rfl, by decide +kernel, by decide +kernel⟩
noncomputable def g_law : Es :=
 (sSeq (sSetO 2 (fLc (iRg (eC (.int 0)) (eCall 2 G__law_next (aCons (eVar 1) (aCons (eC (.int 4)) aNil)))) (gN 9) tYesJ (eCall 1 G__law_pass (aCons (eVar 1) aNil)) [9]))
 (sFrz 2 (sSeq (sSetO 3 (fLc (iRg (eC (.int 0)) (eCall 2 G__law_next (aCons (eVar 1) (aCons (eC (.int 10)) aNil)))) (gN 9) tYesJ (eSub (eCall 2 G__law_next (aCons (eVar 1) (aCons (eC (.int 9)) aNil))) (eC (.int 4))) [9]))
 (sFrz 3 (sSeq (sIf (eTest (eNe (eCall 2 G_woven (aCons (eTuple (aCons (eBor 2) aNil)) (aCons (eTuple (aCons (eBor 3) aNil)) aNil))) (eCall 2 G__law_woven (aCons (eVar 2) (aCons (eVar 3) aNil))))) (sSeq (sRet (eC (.bl false)))
 sNil) sNil)
 (sSeq (sFor (iItems (eVar 2)) (gN 4) (sSeq (sSetO 5 (fList (aCons (eBor 3) aNil)))
 (sSeq (sFor (iItems (eCall 2 G_exchanges (aCons (eVar 4) (aCons (eLen (aCons (eBor 3) aNil)) aNil)))) (gT 3 (gsCons (gN 6) (gsCons (gN 7) (gsCons (gN 8) gsNil)))) (sSeq (sCallM 5 4 G__law_put (aCons (eVar 6) (aCons (eVar 7) (aCons (eVar 8) aNil))))
 sNil))
 (sSeq (sIf (tAndJ (eTest (eIn (eIx (eBor 4) (eC (.int 0))) (eTup (aCons (eC (.str "chain")) (aCons (eC (.str "layer")) aNil))))) (eTest (eNe (eBor 5) (eCall 2 G__law_through (aCons (eVar 4) (aCons (eVar 3) aNil)))))) (sSeq (sRet (eC (.bl false)))
 sNil) sNil)
 sNil))))
 (sSeq (sRet (eC (.bl true)))
 sNil)))))))
structure Txt (K : PySem.W.Frag) (mg : Str → Option Value) : Prop where
  n_all : mg "all" = none
  n_bool : mg "bool" = none
  n_enumerate : mg "enumerate" = none
  n_int : mg "int" = none
  n_isinstance : mg "isinstance" = none
  n_len : mg "len" = none
  n_list : mg "list" = none
  n_max : mg "max" = none
  n_min : mg "min" = none
  n_range : mg "range" = none
  n_sorted : mg "sorted" = none
  n_str : mg "str" = none
  n_tuple : mg "tuple" = none
  x_MOST_STEP : ∃ (v : V) (u : Value), mg "MOST_STEP" = some u ∧ RelV v u ∧ ∀ p F, Den K p F (.int 6) v
  x_ORDERS : ∃ (v : V) (u : Value), mg "ORDERS" = some u ∧ RelV v u ∧ ∀ p F, Den K p F (.tup [.str "up", .str "down"]) v
  x_WAYS : ∃ (v : V) (u : Value), mg "WAYS" = some u ∧ RelV v u ∧ ∀ p F, Den K p F (.tup [.str "right", .str "left"]) v
theorem Txt.e_MOST_STEP {K : PySem.W.Frag} {mg : Str → Option Value} (T : Txt K mg) : ∃ (v : V) (u : Value), mg "MOST_STEP" = some u ∧ RelV v u ∧ ∀ p F, Den K p F (.int 6) v := T.x_MOST_STEP
theorem Txt.m_MOST_STEP {K : PySem.W.Frag} {mg : Str → Option Value} (T : Txt K mg) : mg "MOST_STEP" = some T.e_MOST_STEP.choose_spec.choose := T.e_MOST_STEP.choose_spec.choose_spec.1
theorem Txt.r_MOST_STEP {K : PySem.W.Frag} {mg : Str → Option Value} (T : Txt K mg) : RelV T.e_MOST_STEP.choose T.e_MOST_STEP.choose_spec.choose := T.e_MOST_STEP.choose_spec.choose_spec.2.1
theorem Txt.d_MOST_STEP {K : PySem.W.Frag} {mg : Str → Option Value} (T : Txt K mg) : ∀ p F, Den K p F (.int 6) T.e_MOST_STEP.choose := T.e_MOST_STEP.choose_spec.choose_spec.2.2
theorem Txt.e_ORDERS {K : PySem.W.Frag} {mg : Str → Option Value} (T : Txt K mg) : ∃ (v : V) (u : Value), mg "ORDERS" = some u ∧ RelV v u ∧ ∀ p F, Den K p F (.tup [.str "up", .str "down"]) v := T.x_ORDERS
theorem Txt.m_ORDERS {K : PySem.W.Frag} {mg : Str → Option Value} (T : Txt K mg) : mg "ORDERS" = some T.e_ORDERS.choose_spec.choose := T.e_ORDERS.choose_spec.choose_spec.1
theorem Txt.r_ORDERS {K : PySem.W.Frag} {mg : Str → Option Value} (T : Txt K mg) : RelV T.e_ORDERS.choose T.e_ORDERS.choose_spec.choose := T.e_ORDERS.choose_spec.choose_spec.2.1
theorem Txt.d_ORDERS {K : PySem.W.Frag} {mg : Str → Option Value} (T : Txt K mg) : ∀ p F, Den K p F (.tup [.str "up", .str "down"]) T.e_ORDERS.choose := T.e_ORDERS.choose_spec.choose_spec.2.2
theorem Txt.e_WAYS {K : PySem.W.Frag} {mg : Str → Option Value} (T : Txt K mg) : ∃ (v : V) (u : Value), mg "WAYS" = some u ∧ RelV v u ∧ ∀ p F, Den K p F (.tup [.str "right", .str "left"]) v := T.x_WAYS
theorem Txt.m_WAYS {K : PySem.W.Frag} {mg : Str → Option Value} (T : Txt K mg) : mg "WAYS" = some T.e_WAYS.choose_spec.choose := T.e_WAYS.choose_spec.choose_spec.1
theorem Txt.r_WAYS {K : PySem.W.Frag} {mg : Str → Option Value} (T : Txt K mg) : RelV T.e_WAYS.choose T.e_WAYS.choose_spec.choose := T.e_WAYS.choose_spec.choose_spec.2.1
theorem Txt.d_WAYS {K : PySem.W.Frag} {mg : Str → Option Value} (T : Txt K mg) : ∀ p F, Den K p F (.tup [.str "right", .str "left"]) T.e_WAYS.choose := T.e_WAYS.choose_spec.choose_spec.2.2
section
variable {P : Program} {wd : World} {K : PySem.W.Frag} {mg : Str → Option Value} {base : Heap}
theorem j_is_whole {f : Addr} {fd : FuncData} (T : Txt K mg) (F : Fun K "is_whole" "is_whole" s_is_whole f fd) (hm : mg "is_whole" = some (.ref f)) (b : Binds K fd ["thing"] []) : CalJ P wd K mg base 1 "is_whole" 1 G_is_whole :=
  cal_J (k := 0) (N := N_is_whole) F hm b sc_is_whole fun cdv A outer s H E hr =>
 (jss_cons (js_ret (je_and (je_isi T.n_isinstance rfl (jr_cons (jb_var 0) (jr_cons (JE.toB (je_ty rfl T.n_int PyProof.Rows.boot_int)) jr_nil))) (je_one (je_not (je_isi T.n_isinstance rfl (jr_cons (jb_var 0) (jr_cons (JE.toB (je_ty rfl T.n_bool PyProof.Rows.boot_bool)) jr_nil)))))))
 jss_nil)
theorem j_is_word {f : Addr} {fd : FuncData} (T : Txt K mg) (F : Fun K "is_word" "is_word" s_is_word f fd) (hm : mg "is_word" = some (.ref f)) (b : Binds K fd ["thing", "words"] []) : CalJ P wd K mg base 1 "is_word" 2 G_is_word :=
  cal_J (k := 0) (N := N_is_word) F hm b sc_is_word fun cdv A outer s H E hr =>
 (jss_cons (js_ret (je_and (je_isi T.n_isinstance rfl (jr_cons (jb_var 0) (jr_cons (JE.toB (je_ty rfl T.n_str PyProof.Rows.boot_str)) jr_nil))) (je_one (je_in hr (jb_var 0) (jb_var 1)))))
 jss_nil)
theorem j_is_pass {f : Addr} {fd : FuncData} (T : Txt K mg) (c_is_whole : CalJ P wd K mg base 1 "is_whole" 1 G_is_whole) (c_is_word : CalJ P wd K mg base 1 "is_word" 2 G_is_word) (F : Fun K "is_pass" "is_pass" s_is_pass f fd) (hm : mg "is_pass" = some (.ref f)) (b : Binds K fd ["thing"] []) : CalJ P wd K mg base 2 "is_pass" 1 G_is_pass :=
  cal_J (k := 1) (N := N_is_pass) F hm b sc_is_pass fun cdv A outer s H E hr =>
 (jss_cons (js_if (JW.t (jw_or (jt_not (jt_val (je_isi T.n_isinstance rfl (jr_cons (jb_var 0) (jr_cons (JE.toB (je_ty rfl T.n_tuple PyProof.Rows.boot_tuple)) jr_nil))))) (jw_or (jt_eq hr (JE.toB (je_len T.n_len rfl (jr_cons (jb_var 0) jr_nil))) (JE.toB je_int)) (jw_or1 (jt_not (jt_val (je_isi T.n_isinstance rfl (jr_cons (JE.toB (je_ix (jb_var 0) (JE.toB je_int))) (jr_cons (JE.toB (je_ty rfl T.n_str PyProof.Rows.boot_str)) jr_nil))))))))) (jss_cons (js_ret je_bl)
 jss_nil) jss_nil)
 (jss_cons (js_match (je_ix (jb_var 0) (JE.toB je_int)) (mc_cons jp_one (jss_cons (js_ret (je_eq hr (JE.toB (je_len T.n_len rfl (jr_cons (jb_var 0) jr_nil))) (JE.toB je_int)))
 jss_nil)
 (mc_cons jp_one (jss_cons (js_ret (je_and (je_eq hr (JE.toB (je_len T.n_len rfl (jr_cons (jb_var 0) jr_nil))) (JE.toB je_int)) (je_one (je_call c_is_word hr (by decide) rfl (ja_cons (je_ix (jb_var 0) (JE.toB je_int)) (ja_cons (je_glob rfl T.m_WAYS T.r_WAYS T.d_WAYS) ja_nil))))))
 jss_nil)
 (mc_cons (jp_or (jfst_cons jp_one (jfst_cons jp_one jfst_nil))) (jss_cons (js_ret (je_and (je_eq hr (JE.toB (je_len T.n_len rfl (jr_cons (jb_var 0) jr_nil))) (JE.toB je_int)) (je_and (je_call c_is_word hr (by decide) rfl (ja_cons (je_ix (jb_var 0) (JE.toB je_int)) (ja_cons (je_glob rfl T.m_WAYS T.r_WAYS T.d_WAYS) ja_nil))) (je_one (je_call c_is_word hr (by decide) rfl (ja_cons (je_ix (jb_var 0) (JE.toB je_int)) (ja_cons (je_glob rfl T.m_ORDERS T.r_ORDERS T.d_ORDERS) ja_nil)))))))
 jss_nil)
 (mc_cons jp_one (jss_cons (js_if (JW.t (jw_or (jt_ne hr (JE.toB (je_len T.n_len rfl (jr_cons (jb_var 0) jr_nil))) (JE.toB je_int)) (jw_or (jt_not (jt_val (je_call c_is_word hr (by decide) rfl (ja_cons (je_ix (jb_var 0) (JE.toB je_int)) (ja_cons (je_glob rfl T.m_WAYS T.r_WAYS T.d_WAYS) ja_nil))))) (jw_or1 (jt_not (jt_val (je_call c_is_word hr (by decide) rfl (ja_cons (je_ix (jb_var 0) (JE.toB je_int)) (ja_cons (je_glob rfl T.m_ORDERS T.r_ORDERS T.d_ORDERS) ja_nil))))))))) (jss_cons (js_ret je_bl)
 jss_nil) jss_nil)
 (jss_cons (js_ret (je_and (je_call c_is_whole hr (by decide) rfl (ja_cons (je_ix (jb_var 0) (JE.toB je_int)) ja_nil)) (je_and (je_call c_is_whole hr (by decide) rfl (ja_cons (je_ix (jb_var 0) (JE.toB je_int)) ja_nil)) (je_and (je_lele (JE.toB je_int) (JE.toB (je_ix (jb_var 0) (JE.toB je_int))) (JE.toB (je_glob rfl T.m_MOST_STEP T.r_MOST_STEP T.d_MOST_STEP))) (je_one (je_lelt (JE.toB je_int) (JE.toB (je_ix (jb_var 0) (JE.toB je_int))) (JE.toB (je_ix (jb_var 0) (JE.toB je_int)))))))))
 jss_nil))
 mc_nil)))))
 (jss_cons (js_ret je_bl)
 jss_nil)))
theorem j_check_passes {f : Addr} {fd : FuncData} (T : Txt K mg) (c_is_pass : CalJ P wd K mg base 2 "is_pass" 1 G_is_pass) (F : Fun K "check_passes" "check_passes" s_check_passes f fd) (hm : mg "check_passes" = some (.ref f)) (b : Binds K fd ["passes"] []) : CalJ P wd K mg base 3 "check_passes" 1 G_check_passes :=
  cal_J (k := 2) (N := N_check_passes) F hm b sc_check_passes fun cdv A outer s H E hr =>
 (jss_cons (js_if (jt_not (jt_val (je_isi2 T.n_isinstance rfl (jb_var 0) (pe_bltn (v := .ty "list") rfl T.n_list PyProof.Rows.boot_list rfl) (pe_bltn (v := .ty "tuple") rfl T.n_tuple PyProof.Rows.boot_tuple rfl)))) (jss_cons js_never
 jss_nil) jss_nil)
 (jss_cons (js_for PassesOwn.never rfl (ji_enum rfl T.n_enumerate (ja_cons (je_var 0) ja_nil)) (jg_tup rfl (jgs_cons (jg_name 1 sc_check_passes.nd) (jgs_cons (jg_name 2 sc_check_passes.nd) jgs_nil))) (jss_cons (js_if (jt_not (jt_val (je_call c_is_pass hr (by decide) rfl (ja_cons (je_var 2) ja_nil)))) (jss_cons js_never
 jss_nil) jss_nil)
 jss_nil))
 jss_nil))
theorem j_exchanges {f : Addr} {fd : FuncData} (T : Txt K mg) (F : Fun K "exchanges" "exchanges" s_exchanges f fd) (hm : mg "exchanges" = some (.ref f)) (b : Binds K fd ["one", "width"] []) : CalJ P wd K mg base 1 "exchanges" 2 G_exchanges :=
  cal_J (k := 0) (N := N_exchanges) F hm b sc_exchanges fun cdv A outer s H E hr =>
 (jss_cons (js_if (jt_eq hr (JE.toB (je_ix (jb_var 0) (JE.toB je_int))) (JE.toB je_str)) (jss_cons (js_set 2 sc_exchanges.nd (JF.toE (jf_listrg rfl rfl T.n_list (prc_1 rfl T.n_range (JE.toB (je_sub (jb_var 1) (JE.toB je_int)))))))
 (jss_cons (js_ret (JF.toE (jf_lc (own := [("place", 4)]) rfl sc_exchanges.nd (jib_seq (jb_if (jt_eq hr (JE.toB (je_ix (jb_var 0) (JE.toB je_int))) (JE.toB je_str)) (jb_var 2) (JE.toB (JF.toE (jf_rev (jb_var 2)))))) (blkOk_by (own := [("place", 4)]) (N := N_exchanges) (sc := defScope s_exchanges) (by decide +kernel)) (fun _ _ _ _ _ => (jg_name 4 sc_exchanges.nd)) (fun _ _ _ _ _ => jts_nil) (fun _ _ _ _ _ => (je_tup (ja_cons (je_var 4) (ja_cons (je_add (jb_var 4) (JE.toB je_int)) (ja_cons (je_ix (jb_var 0) (JE.toB je_int)) ja_nil))))))))
 jss_nil)) jss_nil)
 (jss_cons (js_if (jt_eq hr (JE.toB (je_ix (jb_var 0) (JE.toB je_int))) (JE.toB je_str)) (jss_cons (js_set 3 sc_exchanges.nd (je_if (jt_eq hr (JE.toB (je_ix (jb_var 0) (JE.toB je_int))) (JE.toB je_str)) je_int (je_sub (jb_var 1) (JE.toB je_int))))
 (jss_cons (js_ret (je_if (jt_gt (jb_var 1) (JE.toB je_int)) (JF.toE (jf_lst (ja_cons (je_tup (ja_cons (je_var 3) (ja_cons (je_add (jb_var 3) (JE.toB je_int)) (ja_cons (je_ix (jb_var 0) (JE.toB je_int)) ja_nil)))) ja_nil))) (JF.toE (jf_lst ja_nil))))
 jss_nil)) jss_nil)
 (jss_cons (js_if (jt_eq hr (JE.toB (je_ix (jb_var 0) (JE.toB je_int))) (JE.toB je_str)) (jss_cons (js_set 2 sc_exchanges.nd (JF.toE (jf_listrg rfl rfl T.n_list (prc_3 rfl T.n_range (JE.toB (je_ix (jb_var 0) (JE.toB je_int))) (JE.toB (je_sub (jb_var 1) (JE.toB je_int))) (JE.toB (je_ix (jb_var 0) (JE.toB je_int)))))))
 (jss_cons (js_if (jt_eq hr (JE.toB (je_ix (jb_var 0) (JE.toB je_int))) (JE.toB je_str)) (jss_cons (js_setLc (own := [("place", 4)]) 2 rfl sc_exchanges.nd (sw_true rfl rfl rfl (by decide +kernel)) (jib_seq (jb_var 2)) (blkOk_by (own := [("place", 4)]) (N := N_exchanges) (sc := defScope s_exchanges) (by decide +kernel)) (fun _ _ _ _ _ => (jg_name 4 sc_exchanges.nd)) (fun _ _ _ _ _ => jts_nil) (fun _ _ _ _ _ => (je_sub (JE.toB (je_sub (jb_var 1) (JE.toB je_int))) (jb_var 4))))
 (jss_frz 2 jss_nil)) jss_nil)
 (jss_cons (js_ret (JF.toE (jf_lc (own := [("place", 4)]) rfl sc_exchanges.nd (jib_seq (JE.toB (JF.toE (jf_sorted T.n_sorted rfl (jr_cons (jb_var 2) jr_nil))))) (blkOk_by (own := [("place", 4)]) (N := N_exchanges) (sc := defScope s_exchanges) (by decide +kernel)) (fun _ _ _ _ _ => (jg_name 4 sc_exchanges.nd)) (fun _ _ _ _ _ => jts_nil) (fun _ _ _ _ _ => (je_tup (ja_cons (je_var 4) (ja_cons (je_add (jb_var 4) (JE.toB je_int)) (ja_cons (je_ix (jb_var 0) (JE.toB je_int)) ja_nil))))))))
 jss_nil))) jss_nil)
 (jss_cons (js_ret (JF.toE (jf_lst ja_nil)))
 jss_nil))))
theorem j_through {f : Addr} {fd : FuncData} (T : Txt K mg) (c_exchanges : CalJ P wd K mg base 1 "exchanges" 2 G_exchanges) (F : Fun K "through" "through" s_through f fd) (hm : mg "through" = some (.ref f)) (b : Binds K fd ["one", "row"] []) : CalJ P wd K mg base 2 "through" 2 G_through :=
  cal_J (k := 1) (N := N_through) F hm b sc_through fun cdv A outer s H E hr =>
 (jss_cons (js_setO 2 sc_through.nd (jf_list T.n_list rfl (jr_cons (jb_var 1) jr_nil)))
 (jss_cons (js_if (jt_eq hr (JE.toB (je_ix (jb_var 0) (JE.toB je_int))) (JE.toB je_str)) (jss_cons (js_ret (JF.toE (jf_rev (jb_var 2))))
 jss_nil) jss_nil)
 (jss_cons (js_if (JW.t (jw_and (jt_eq hr (JE.toB (je_ix (jb_var 0) (JE.toB je_int))) (JE.toB je_str)) (jw_and1 (jt_ne hr (jb_var 2) (JE.toB (JF.toE (jf_lst ja_nil))))))) (jss_cons (js_ret (je_if (jt_eq hr (JE.toB (je_ix (jb_var 0) (JE.toB je_int))) (JE.toB je_str)) (JF.toE (jf_lst (ja_star (JE.toB (JF.toE (jf_slice (jb_var 2) (jo_so (JE.toB je_int)) jo_no))) (ja_cons (je_ix (jb_var 2) (JE.toB je_int)) ja_nil)))) (JF.toE (jf_lst (ja_cons (je_ix (jb_var 2) (JE.toB (je_neg (JE.toB je_int)))) (ja_star (JE.toB (JF.toE (jf_slice (jb_var 2) jo_no (jo_so (JE.toB (je_neg (JE.toB je_int))))))) ja_nil))))))
 jss_nil) jss_nil)
 (jss_cons (js_for PassesOwn.never rfl (ji_seq (je_call c_exchanges hr (by decide) rfl (ja_cons (je_var 0) (ja_cons (je_len T.n_len rfl (jr_cons (jb_var 2) jr_nil)) ja_nil)))) (jg_tup rfl (jgs_cons (jg_name 3 sc_through.nd) (jgs_cons (jg_name 4 sc_through.nd) (jgs_cons (jg_name 5 sc_through.nd) jgs_nil)))) (jss_cons (js_if (JW.t (jw_and (jt_eq hr (JE.toB (je_lt (JE.toB (je_ix (jb_var 2) (jb_var 4))) (JE.toB (je_ix (jb_var 2) (jb_var 3))))) (JE.toB (je_eq hr (jb_var 5) (JE.toB je_str)))) (jw_and1 (jt_ne hr (JE.toB (je_ix (jb_var 2) (jb_var 3))) (JE.toB (je_ix (jb_var 2) (jb_var 4))))))) (jss_cons (js_asg (je_tup (ja_cons (je_ix (jb_var 2) (jb_var 4)) (ja_cons (je_ix (jb_var 2) (jb_var 3)) ja_nil))) (jgo_tup rfl (jgso_cons (jgo_sub 2 (jb_var 3)) (jgso_cons (jgo_sub 2 (jb_var 4)) jgso_nil))))
 jss_nil) jss_nil)
 jss_nil))
 (jss_frz 2 (jss_cons (js_ret (je_var 2))
 jss_nil))))))
theorem j_woven {f : Addr} {fd : FuncData} (T : Txt K mg) (c_is_whole : CalJ P wd K mg base 1 "is_whole" 1 G_is_whole) (c_check_passes : CalJ P wd K mg base 3 "check_passes" 1 G_check_passes) (c_through : CalJ P wd K mg base 2 "through" 2 G_through) (F : Fun K "woven" "woven" s_woven f fd) (hm : mg "woven" = some (.ref f)) (b : Binds K fd ["passes", "row"] []) : CalJ P wd K mg base 4 "woven" 2 G_woven :=
  cal_J (k := 3) (N := N_woven) F hm b sc_woven fun cdv A outer s H E hr =>
 (jss_cons (js_expr (je_call c_check_passes hr (by decide) rfl (ja_cons (je_var 0) ja_nil)))
 (jss_cons (js_if (JW.t (jw_or (jt_not (jt_val (je_isi2 T.n_isinstance rfl (jb_var 1) (pe_bltn (v := .ty "list") rfl T.n_list PyProof.Rows.boot_list rfl) (pe_bltn (v := .ty "tuple") rfl T.n_tuple PyProof.Rows.boot_tuple rfl)))) (jw_or1 (jt_not (jt_val (je_all rfl T.n_all rfl (jr_cons (JE.toB (JF.toE (jf_lc (own := [("thing", 4)]) rfl sc_woven.nd (jib_seq (jb_var 1)) (blkOk_by (own := [("thing", 4)]) (N := N_woven) (sc := defScope s_woven) (by decide +kernel)) (fun _ _ _ _ _ => (jg_name 4 sc_woven.nd)) (fun _ _ _ _ _ => jts_nil) (fun _ _ _ _ _ => (je_call c_is_whole hr (by decide) rfl (ja_cons (je_var 4) ja_nil)))))) jr_nil))))))) (jss_cons js_never
 jss_nil) jss_nil)
 (jss_cons (js_set 2 sc_woven.nd (JF.toE (jf_list T.n_list rfl (jr_cons (jb_var 1) jr_nil))))
 (jss_cons (js_for PassesOwn.never rfl (ji_seq (je_var 0)) (jg_name 3 sc_woven.nd) (jss_cons (js_set 2 sc_woven.nd (je_call c_through hr (by decide) rfl (ja_cons (je_var 3) (ja_cons (je_var 2) ja_nil))))
 jss_nil))
 (jss_cons (js_ret (je_var 2))
 jss_nil)))))
theorem j__law_cell_at {f : Addr} {fd : FuncData} (T : Txt K mg) (F : Fun K "_law_cell_at" "_law_cell_at" s__law_cell_at f fd) (hm : mg "_law_cell_at" = some (.ref f)) (b : Binds K fd ["_law_script", "_law_k"] []) : CalJ P wd K mg base 1 "_law_cell_at" 2 G__law_cell_at :=
  cal_J (k := 0) (N := N__law_cell_at) F hm b sc__law_cell_at fun cdv A outer s H E hr =>
 (jss_cons (js_if (jt_lt (jb_var 1) (JE.toB (je_len T.n_len rfl (jr_cons (jb_var 0) jr_nil)))) (jss_cons (js_ret (je_ix (jb_var 0) (jb_var 1)))
 jss_nil) jss_nil)
 (jss_cons (js_ret je_int)
 jss_nil))
theorem j__law_draw {f : Addr} {fd : FuncData} (T : Txt K mg) (F : Fun K "_law_draw" "_law_draw" s__law_draw f fd) (hm : mg "_law_draw" = some (.ref f)) (b : Binds K fd ["_law_cell", "_law_k", "_law_bound"] []) : CalJ P wd K mg base 1 "_law_draw" 3 G__law_draw :=
  cal_J (k := 0) (N := N__law_draw) F hm b sc__law_draw fun cdv A outer s H E hr =>
 (jss_cons (js_set 3 sc__law_draw.nd (je_tup (ja_cons je_int (ja_cons je_int (ja_cons je_int (ja_cons je_int (ja_cons je_int (ja_cons je_int (ja_cons je_int (ja_cons je_int (ja_cons je_int (ja_cons je_int (ja_cons je_int (ja_cons je_int (ja_cons je_int (ja_cons je_int (ja_cons je_int (ja_cons je_int ja_nil))))))))))))))))))
 (jss_cons (js_ret (je_mod (JE.toB (je_mod (JE.toB (je_intc T.n_int rfl (jr_cons (JE.toB (je_add (JE.toB (je_mul (jb_var 0) (JE.toB je_int))) (JE.toB (je_mul (jb_var 1) (JE.toB je_int))))) jr_nil))) (JE.toB (je_ix (jb_var 3) (JE.toB (je_mod (JE.toB (je_intc T.n_int rfl (jr_cons (jb_var 1) jr_nil))) (JE.toB je_int))))))) (jb_var 2)))
 jss_nil))
theorem j__law_number {f : Addr} {fd : FuncData} (T : Txt K mg) (c__law_draw : CalJ P wd K mg base 1 "_law_draw" 3 G__law_draw) (F : Fun K "_law_number" "_law_number" s__law_number f fd) (hm : mg "_law_number" = some (.ref f)) (b : Binds K fd ["_law_cell", "_law_k", "_law_bound"] []) : CalJ P wd K mg base 2 "_law_number" 3 G__law_number :=
  cal_J (k := 1) (N := N__law_number) F hm b sc__law_number fun cdv A outer s H E hr =>
 (jss_cons (js_set 3 sc__law_number.nd je_int)
 (jss_cons (js_for PassesOwn.never rfl (ji_rg1 rfl T.n_range (JE.toB (je_mod (JE.toB (je_intc T.n_int rfl (jr_cons (jb_var 1) jr_nil))) (JE.toB je_int)))) (jg_name 4 sc__law_number.nd) (jss_cons (js_set 3 sc__law_number.nd (je_mul (jb_var 3) (JE.toB je_int)))
 jss_nil))
 (jss_cons (js_set 5 sc__law_number.nd (je_div (JE.toB (je_sub (jb_var 0) (JE.toB (je_pow (JE.toB je_int) (JE.toB je_int))))) (jb_var 3)))
 (jss_cons (js_if (jt_gt (jb_var 5) (JE.toB je_int)) (jss_cons (js_ret (je_mod (JE.toB (je_mod (JE.toB (je_intc T.n_int rfl (jr_cons (jb_var 5) jr_nil))) (JE.toB je_int))) (jb_var 2)))
 jss_nil) jss_nil)
 (jss_cons (js_set 6 sc__law_number.nd (je_mod (JE.toB (je_intc T.n_int rfl (jr_cons (jb_var 0) jr_nil))) (JE.toB je_int)))
 (jss_cons (js_ret (je_mod (JE.toB (je_call c__law_draw hr (by decide) rfl (ja_cons (je_mul (JE.toB (je_add (jb_var 6) (JE.toB (je_mul (JE.toB je_int) (jb_var 1))))) (JE.toB (je_add (JE.toB (je_add (jb_var 6) (JE.toB (je_mul (JE.toB je_int) (jb_var 1))))) (JE.toB je_int)))) (ja_cons (je_add (JE.toB (je_mod (JE.toB (je_intc T.n_int rfl (jr_cons (jb_var 1) jr_nil))) (JE.toB je_int))) (JE.toB je_int)) (ja_cons je_int ja_nil))))) (jb_var 2)))
 jss_nil))))))
theorem j__law_next {f : Addr} {fd : FuncData} (T : Txt K mg) (c__law_cell_at : CalJ P wd K mg base 1 "_law_cell_at" 2 G__law_cell_at) (c__law_number : CalJ P wd K mg base 2 "_law_number" 3 G__law_number) (F : Fun K "_law_next" "_law_next" s__law_next f fd) (hm : mg "_law_next" = some (.ref f)) (b : Binds K fd ["_law_draw_here", "_law_bound"] []) : CalJ P wd K mg base 3 "_law_next" 2 G__law_next :=
  cal_J (k := 2) (N := N__law_next) F hm b sc__law_next fun cdv A outer s H E hr =>
 (jss_cons (js_asg (je_add (JE.toB (je_drix (je_var 0) je_int)) (JE.toB je_int)) (jgo_dr (je_var 0) je_int))
 (jss_cons (js_set 2 sc__law_next.nd (je_div (JE.toB (je_drix (je_var 0) je_int)) (JE.toB je_int)))
 (jss_cons (js_set 3 sc__law_next.nd (je_add (JE.toB (je_call c__law_cell_at hr (by decide) rfl (ja_cons (je_drix (je_var 0) je_int) (ja_cons (je_add (JE.toB (je_drix (je_var 0) je_int)) (jb_var 2)) ja_nil)))) (JE.toB (je_mul (JE.toB je_int) (jb_var 2)))))
 (jss_cons (js_ret (je_call c__law_number hr (by decide) rfl (ja_cons (je_var 3) (ja_cons (je_add (JE.toB (je_mod (JE.toB (je_intc T.n_int rfl (jr_cons (JE.toB (je_drix (je_var 0) je_int)) jr_nil))) (JE.toB je_int))) (JE.toB je_int)) (ja_cons (je_var 1) ja_nil)))))
 jss_nil))))
theorem j__law_pick {f : Addr} {fd : FuncData} (T : Txt K mg) (c__law_next : CalJ P wd K mg base 3 "_law_next" 2 G__law_next) (F : Fun K "_law_pick" "_law_pick" s__law_pick f fd) (hm : mg "_law_pick" = some (.ref f)) (b : Binds K fd ["_law_draw_here", "_law_things"] []) : CalJ P wd K mg base 4 "_law_pick" 2 G__law_pick :=
  cal_J (k := 3) (N := N__law_pick) F hm b sc__law_pick fun cdv A outer s H E hr =>
 (jss_cons (js_ret (je_ix (jb_var 1) (JE.toB (je_call c__law_next hr (by decide) rfl (ja_cons (je_var 0) (ja_cons (je_len T.n_len rfl (jr_cons (jb_var 1) jr_nil)) ja_nil))))))
 jss_nil)
theorem j__law_pass {f : Addr} {fd : FuncData} (T : Txt K mg) (c__law_next : CalJ P wd K mg base 3 "_law_next" 2 G__law_next) (c__law_pick : CalJ P wd K mg base 4 "_law_pick" 2 G__law_pick) (F : Fun K "_law_pass" "_law_pass" s__law_pass f fd) (hm : mg "_law_pass" = some (.ref f)) (b : Binds K fd ["_law_draw_here"] []) : CalJ P wd K mg base 5 "_law_pass" 1 G__law_pass :=
  cal_J (k := 4) (N := N__law_pass) F hm b sc__law_pass fun cdv A outer s H E hr =>
 (jss_cons (js_par3 1 2 3 rfl sc__law_pass.nd (jp_d (je_call c__law_next hr (by decide) rfl (ja_cons (je_var 0) (ja_cons je_int ja_nil))) (jp_d (je_call c__law_pick hr (by decide) rfl (ja_cons (je_var 0) (ja_cons (JF.toE (jf_lst (ja_cons je_str (ja_cons je_str ja_nil)))) ja_nil))) (jp_d (je_call c__law_pick hr (by decide) rfl (ja_cons (je_var 0) (ja_cons (JF.toE (jf_lst (ja_cons je_str (ja_cons je_str (ja_cons je_str ja_nil))))) ja_nil))) jp_nil))))
 (jss_cons (js_if (JW.t (jw_or (jt_lt (jb_var 1) (JE.toB je_int)) (jw_or1 (jt_eq hr (jb_var 1) (JE.toB je_int))))) (jss_cons (js_ret (je_tup (ja_cons (je_if (jt_lt (jb_var 1) (JE.toB je_int)) je_str je_str) (ja_cons (je_var 2) (ja_cons (je_var 3) ja_nil)))))
 jss_nil) jss_nil)
 (jss_cons (js_if (jt_lt (jb_var 1) (JE.toB je_int)) (jss_cons (js_set 4 sc__law_pass.nd (je_add (JE.toB je_int) (JE.toB (je_call c__law_next hr (by decide) rfl (ja_cons (je_var 0) (ja_cons je_int ja_nil))))))
 (jss_cons (js_ret (je_tup (ja_cons je_str (ja_cons (je_var 2) (ja_cons (je_call c__law_next hr (by decide) rfl (ja_cons (je_var 0) (ja_cons (je_var 4) ja_nil))) (ja_cons (je_var 4) (ja_cons (je_var 3) ja_nil)))))))
 jss_nil)) jss_nil)
 (jss_cons (js_ret (je_call c__law_pick hr (by decide) rfl (ja_cons (je_var 0) (ja_cons (JF.toE (jf_lst (ja_cons (je_tup (ja_cons je_str ja_nil)) (ja_cons (je_tup (ja_cons je_str (ja_cons (je_var 2) ja_nil))) ja_nil)))) ja_nil))))
 jss_nil))))
theorem j__law_put {f : Addr} {fd : FuncData} (T : Txt K mg) (F : Fun K "_law_put" "_law_put" s__law_put f fd) (hm : mg "_law_put" = some (.ref f)) (b : Binds K fd ["_law_row", "_law_first", "_law_second", "_law_order"] []) : CalM P wd K mg base 1 "_law_put" 4 G__law_put :=
  cal_M (k := 0) (N' := ["_law_first", "_law_second", "_law_order", "_law_low", "_law_high"]) F hm b sc__law_put fun cdv A outer s H E hr =>
 (jss_cons (js_par2 4 5 rfl sc__law_put.nd (jp_d (je_min rfl T.n_min rfl (jr_cons (JE.toB (je_ix (jb_var 0) (jb_var 1))) (jr_cons (JE.toB (je_ix (jb_var 0) (jb_var 2))) jr_nil))) (jp_d (je_max rfl T.n_max rfl (jr_cons (JE.toB (je_ix (jb_var 0) (jb_var 1))) (jr_cons (JE.toB (je_ix (jb_var 0) (jb_var 2))) jr_nil))) jp_nil)))
 (jss_cons (js_asg (je_if (jt_eq hr (jb_var 3) (JE.toB je_str)) (je_tup (ja_cons (je_var 4) (ja_cons (je_var 5) ja_nil))) (je_tup (ja_cons (je_var 5) (ja_cons (je_var 4) ja_nil)))) (jgo_tup rfl (jgso_cons (jgo_sub 0 (jb_var 1)) (jgso_cons (jgo_sub 0 (jb_var 2)) jgso_nil))))
 jss_nil))
theorem j__law_through {f : Addr} {fd : FuncData} (T : Txt K mg) (c__law_put : CalM P wd K mg base 1 "_law_put" 4 G__law_put) (F : Fun K "_law_through" "_law_through" s__law_through f fd) (hm : mg "_law_through" = some (.ref f)) (b : Binds K fd ["_law_one", "_law_row"] []) : CalJ P wd K mg base 2 "_law_through" 2 G__law_through :=
  cal_J (k := 1) (N := N__law_through) F hm b sc__law_through fun cdv A outer s H E hr =>
 (jss_cons (js_par2 2 3 rfl sc__law_through.nd (jp_o (jf_list T.n_list rfl (jr_cons (jb_var 1) jr_nil)) (jp_d (je_len T.n_len rfl (jr_cons (jb_var 1) jr_nil)) jp_nil)))
 (jss_cons (js_if (jt_eq hr (JE.toB (je_ix (jb_var 0) (JE.toB je_int))) (JE.toB je_str)) (jss_cons (js_ret (JF.toE (jf_rev (jb_var 2))))
 jss_nil) jss_nil)
 (jss_cons (js_if (jt_eq hr (JE.toB (je_ix (jb_var 0) (JE.toB je_int))) (JE.toB je_str)) (jss_cons (js_ret (je_if (jt_eq hr (JE.toB (je_ix (jb_var 0) (JE.toB je_int))) (JE.toB je_str)) (je_add (JE.toB (JF.toE (jf_slice (jb_var 2) (jo_so (JE.toB je_int)) jo_no))) (JE.toB (JF.toE (jf_slice (jb_var 2) jo_no (jo_so (JE.toB je_int)))))) (je_add (JE.toB (JF.toE (jf_slice (jb_var 2) (jo_so (JE.toB (je_neg (JE.toB je_int)))) jo_no))) (JE.toB (JF.toE (jf_slice (jb_var 2) jo_no (jo_so (JE.toB (je_neg (JE.toB je_int))))))))))
 jss_nil) jss_nil)
 (jss_cons (js_if (JW.t (jw_and (jt_eq hr (JE.toB (je_ix (jb_var 0) (JE.toB je_int))) (JE.toB je_str)) (jw_and1 (jt_gt (jb_var 3) (JE.toB je_int))))) (jss_cons (js_callM 2 c__law_put hr (by decide) rfl (ja_cons (je_if (jt_eq hr (JE.toB (je_ix (jb_var 0) (JE.toB je_int))) (JE.toB je_str)) je_int (je_sub (jb_var 3) (JE.toB je_int))) (ja_cons (je_if (jt_eq hr (JE.toB (je_ix (jb_var 0) (JE.toB je_int))) (JE.toB je_str)) je_int (je_sub (jb_var 3) (JE.toB je_int))) (ja_cons (je_ix (jb_var 0) (JE.toB je_int)) ja_nil))))
 jss_nil) jss_nil)
 (jss_cons (js_if (jt_eq hr (JE.toB (je_ix (jb_var 0) (JE.toB je_int))) (JE.toB je_str)) (jss_frz 2 (jss_cons (js_ret (je_var 2))
 jss_nil)) jss_nil)
 (jss_cons (js_if (jt_eq hr (JE.toB (je_ix (jb_var 0) (JE.toB je_int))) (JE.toB je_str)) (jss_cons (js_for PassesOwn.never rfl (ji_rg1 rfl T.n_range (JE.toB (je_sub (jb_var 3) (JE.toB je_int)))) (jg_name 4 sc__law_through.nd) (jss_cons (js_set 5 sc__law_through.nd (je_if (jt_eq hr (JE.toB (je_ix (jb_var 0) (JE.toB je_int))) (JE.toB je_str)) (je_var 4) (je_sub (JE.toB (je_sub (jb_var 3) (JE.toB je_int))) (jb_var 4))))
 (jss_cons (js_callM 2 c__law_put hr (by decide) rfl (ja_cons (je_var 5) (ja_cons (je_add (jb_var 5) (JE.toB je_int)) (ja_cons (je_ix (jb_var 0) (JE.toB je_int)) ja_nil))))
 jss_nil)))
 (jss_frz 2 (jss_cons (js_ret (je_var 2))
 jss_nil))) jss_nil)
 (jss_cons (js_for PassesOwn.never rfl (ji_rg1 rfl T.n_range (JE.toB (je_sub (jb_var 3) (JE.toB je_int)))) (jg_name 4 sc__law_through.nd) (jss_cons (js_if (JW.t (jw_and (jt_ge (jb_var 4) (JE.toB (je_ix (jb_var 0) (JE.toB je_int)))) (jw_and1 (jt_eq hr (JE.toB (je_mod (JE.toB (je_sub (jb_var 4) (JE.toB (je_ix (jb_var 0) (JE.toB je_int))))) (JE.toB (je_ix (jb_var 0) (JE.toB je_int))))) (JE.toB je_int))))) (jss_cons (js_set 5 sc__law_through.nd (je_if (jt_eq hr (JE.toB (je_ix (jb_var 0) (JE.toB je_int))) (JE.toB je_str)) (je_var 4) (je_sub (JE.toB (je_sub (jb_var 3) (JE.toB je_int))) (jb_var 4))))
 (jss_cons (js_callM 2 c__law_put hr (by decide) rfl (ja_cons (je_var 5) (ja_cons (je_add (jb_var 5) (JE.toB je_int)) (ja_cons (je_ix (jb_var 0) (JE.toB je_int)) ja_nil))))
 jss_nil)) jss_nil)
 jss_nil))
 (jss_frz 2 (jss_cons (js_ret (je_var 2))
 jss_nil)))))))))
theorem j__law_woven {f : Addr} {fd : FuncData} (T : Txt K mg) (c__law_through : CalJ P wd K mg base 2 "_law_through" 2 G__law_through) (F : Fun K "_law_woven" "_law_woven" s__law_woven f fd) (hm : mg "_law_woven" = some (.ref f)) (b : Binds K fd ["_law_passes", "_law_row"] []) : CalJ P wd K mg base 3 "_law_woven" 2 G__law_woven :=
  cal_J (k := 2) (N := N__law_woven) F hm b sc__law_woven fun cdv A outer s H E hr =>
 (jss_cons (js_set 2 sc__law_woven.nd (JF.toE (jf_list T.n_list rfl (jr_cons (jb_var 1) jr_nil))))
 (jss_cons (js_for PassesOwn.never rfl (ji_seq (je_var 0)) (jg_name 3 sc__law_woven.nd) (jss_cons (js_set 2 sc__law_woven.nd (je_call c__law_through hr (by decide) rfl (ja_cons (je_var 3) (ja_cons (je_var 2) ja_nil))))
 jss_nil))
 (jss_cons (js_ret (je_var 2))
 jss_nil)))
theorem j_law_body (T : Txt K mg) (c_exchanges : CalJ P wd K mg base 1 "exchanges" 2 G_exchanges) (c_woven : CalJ P wd K mg base 4 "woven" 2 G_woven) (c__law_next : CalJ P wd K mg base 3 "_law_next" 2 G__law_next) (c__law_pass : CalJ P wd K mg base 5 "_law_pass" 1 G__law_pass) (c__law_put : CalM P wd K mg base 1 "_law_put" 4 G__law_put) (c__law_through : CalJ P wd K mg base 2 "_law_through" 2 G__law_through) (c__law_woven : CalJ P wd K mg base 3 "_law_woven" 2 G__law_woven) (cdv : Value) (A : Around) (outer : List Env) (s : Shared) (H : Hp) (E : XK) {f : Addr} (hr : Room 5 (A.deeper (envOfC "law" (defScope s_law) s.heap.objs.size f cdv))) : JSs (cxOf CX0 P wd K mg base N_law "law" (defScope s_law) f cdv A outer s H E).nox ((defBody s_law).drop 1) g_law :=
 (jss_cons (js_setLc (own := [("_law_turn", 9)]) 2 rfl sc_law.nd (sw_true rfl rfl rfl (by decide +kernel)) (ji_rg1 rfl T.n_range (JE.toB (je_call c__law_next hr (by decide) rfl (ja_cons (je_var 1) (ja_cons je_int ja_nil))))) (blkOk_by (own := [("_law_turn", 9)]) (N := N_law) (sc := defScope s_law) (by decide +kernel)) (fun _ _ _ _ _ => (jg_name 9 sc_law.nd)) (fun _ _ _ _ _ => jts_nil) (fun _ _ _ _ _ => (je_call c__law_pass hr (by decide) rfl (ja_cons (je_var 1) ja_nil))))
 (jss_frz 2 (jss_cons (js_setLc (own := [("_law_turn", 9)]) 3 rfl sc_law.nd (sw_true rfl rfl rfl (by decide +kernel)) (ji_rg1 rfl T.n_range (JE.toB (je_call c__law_next hr (by decide) rfl (ja_cons (je_var 1) (ja_cons je_int ja_nil))))) (blkOk_by (own := [("_law_turn", 9)]) (N := N_law) (sc := defScope s_law) (by decide +kernel)) (fun _ _ _ _ _ => (jg_name 9 sc_law.nd)) (fun _ _ _ _ _ => jts_nil) (fun _ _ _ _ _ => (je_sub (JE.toB (je_call c__law_next hr (by decide) rfl (ja_cons (je_var 1) (ja_cons je_int ja_nil)))) (JE.toB je_int))))
 (jss_frz 3 (jss_cons (js_if (jt_ne hr (JE.toB (je_call c_woven hr (by decide) rfl (ja_cons (je_tuple T.n_tuple rfl (jr_cons (jb_var 2) jr_nil)) (ja_cons (je_tuple T.n_tuple rfl (jr_cons (jb_var 3) jr_nil)) ja_nil)))) (JE.toB (je_call c__law_woven hr (by decide) rfl (ja_cons (je_var 2) (ja_cons (je_var 3) ja_nil))))) (jss_cons (js_ret je_bl)
 jss_nil) jss_nil)
 (jss_cons (js_for PassesOwn.never rfl (ji_seq (je_var 2)) (jg_name 4 sc_law.nd) (jss_cons (js_setO 5 sc_law.nd (jf_list T.n_list rfl (jr_cons (jb_var 3) jr_nil)))
 (jss_cons (js_for PassesOwn.never rfl (ji_seq (je_call c_exchanges hr (by decide) rfl (ja_cons (je_var 4) (ja_cons (je_len T.n_len rfl (jr_cons (jb_var 3) jr_nil)) ja_nil)))) (jg_tup rfl (jgs_cons (jg_name 6 sc_law.nd) (jgs_cons (jg_name 7 sc_law.nd) (jgs_cons (jg_name 8 sc_law.nd) jgs_nil)))) (jss_cons (js_callM 5 c__law_put hr (by decide) rfl (ja_cons (je_var 6) (ja_cons (je_var 7) (ja_cons (je_var 8) ja_nil))))
 jss_nil))
 (jss_cons (js_if (JW.t (jw_and (jt_in hr (JE.toB (je_ix (jb_var 4) (JE.toB je_int))) (JE.toB (je_tup (ja_cons je_str (ja_cons je_str ja_nil))))) (jw_and1 (jt_ne hr (jb_var 5) (JE.toB (je_call c__law_through hr (by decide) rfl (ja_cons (je_var 4) (ja_cons (je_var 3) ja_nil)))))))) (jss_cons (js_ret je_bl)
 jss_nil) jss_nil)
 jss_nil))))
 (jss_cons (js_ret je_bl)
 jss_nil)))))))
end
end K01
namespace K01
open PySem PyProof.Rows L2 J
inductive Pass where
  | turn | round (r : Bool) | chain (r u : Bool) | ends (r u : Bool) | layer (r : Bool) (start step : Nat) (u : Bool)
def wayS (r : Bool) : Str := if r then "right" else "left"
def ordS (u : Bool) : Str := if u then "up" else "down"
def passD : Pass → D
  | .turn => .tup [.str "turn"]
  | .round r => .tup [.str "round", .str (wayS r)]
  | .chain r u => .tup [.str "chain", .str (wayS r), .str (ordS u)]
  | .ends r u => .tup [.str "ends", .str (wayS r), .str (ordS u)]
  | .layer r a s u => .tup [.str "layer", .str (wayS r), .int a, .int s, .str (ordS u)]
def Pass.ok : Pass → Prop
  | .layer _ a s _ => 2 ≤ s ∧ s ≤ 6 ∧ a < s
  | _ => True
@[simp] theorem l_turn : lay (.str "turn") = true := by decide +kernel
@[simp] theorem l_round : lay (.str "round") = true := by decide +kernel
@[simp] theorem l_chain : lay (.str "chain") = true := by decide +kernel
@[simp] theorem l_ends : lay (.str "ends") = true := by decide +kernel
@[simp] theorem l_layer : lay (.str "layer") = true := by decide +kernel
@[simp] theorem l_left : lay (.str "left") = true := by decide +kernel
@[simp] theorem l_right : lay (.str "right") = true := by decide +kernel
@[simp] theorem l_up : lay (.str "up") = true := by decide +kernel
@[simp] theorem l_down : lay (.str "down") = true := by decide +kernel
@[simp] theorem l_way (r : Bool) : lay (.str (wayS r)) = true := by cases r <;> decide +kernel
@[simp] theorem l_ord (r : Bool) : lay (.str (ordS r)) = true := by cases r <;> decide +kernel
@[simp] theorem wayS_r (r : Bool) : (wayS r = "right") = (r = true) := by cases r <;> decide +kernel
@[simp] theorem wayS_l (r : Bool) : (wayS r = "left") = (r = false) := by cases r <;> decide +kernel
@[simp] theorem ordS_u (r : Bool) : (ordS r = "up") = (r = true) := by cases r <;> decide +kernel
theorem ap_is_pass (a : D) (w : Wd) : G_is_pass [a] w = fin (g_is_pass [.d a] w) := rfl
theorem ap_check_passes (a : D) (w : Wd) : G_check_passes [a] w = fin (g_check_passes [.d a, .no, .no] w) := rfl
theorem ap_exchanges (a b : D) (w : Wd) : G_exchanges [a, b] w = fin (g_exchanges [.d a, .d b, .no, .no, .no] w) := rfl
theorem ap_through (a b : D) (w : Wd) : G_through [a, b] w = fin (g_through [.d a, .d b, .no, .no, .no, .no] w) := rfl
theorem ap_woven (a b : D) (w : Wd) : G_woven [a, b] w = fin (g_woven [.d a, .d b, .no, .no, .no] w) := rfl
theorem whole_int (i : Int) (w : Wd) : G_is_whole [.int i] w = some (.bl true, w) := rfl
theorem word_way (r : Bool) (w : Wd) : G_is_word [.str (wayS r), .tup [.str "right", .str "left"]] w = some (.bl true, w) := by cases r <;> rfl
theorem word_ord (r : Bool) (w : Wd) : G_is_word [.str (ordS r), .tup [.str "up", .str "down"]] w = some (.bl true, w) := by cases r <;> rfl
theorem is_pass_ok (p : Pass) (h : p.ok) (w : Wd) : G_is_pass [passD p] w = some (.bl true, w) := by
  rw [ap_is_pass]
  unfold g_is_pass
  cases p with
  | layer r a s u =>
    obtain ⟨h1, h2, h3⟩ := h
    unfold passD
    simp (decide := true) [word_way, word_ord, whole_int]
    omega
  | _ =>
    unfold passD
    simp (decide := true) [word_way, word_ord, line_eq]
theorem check_ok (ps : List Pass) (h : ∀ p ∈ ps, p.ok) (w : Wd) : G_check_passes [.tup (ps.map passD)] w = some (.non, w) := by
  have hl : ∀ (ps : List Pass) (n : Nat) (x y z : Sl), (∀ p ∈ ps, p.ok) → ∃ y' z', forGo (gT 2 (gsCons (gN 1) (gsCons (gN 2) gsNil))) (sSeq (sIf (tNotJ (eTest (eCall 1 G_is_pass (aCons (eVar 2) aNil)))) (sSeq sNone sNil) sNil) sNil) (enumD n (ps.map passD)) [x, y, z] w = some (.nx [x, y', z'] w) := by
    intro ps
    induction ps with
    | nil => exact fun n x y z _ => ⟨y, z, rfl⟩
    | cons p ps ih =>
      intro n x y z hp
      obtain ⟨y', z', h'⟩ := ih (n + 1) x (.d (.int (n : Int))) (.d (passD p)) fun q hq => hp q (List.mem_cons_of_mem _ hq)
      refine ⟨y', z', ?_⟩
      rw [List.map_cons]
      unfold enumD
      rw [forGo_nx (ds1 := [x, .d (.int (n : Int)), .d (passD p)]) (ds2 := [x, .d (.int (n : Int)), .d (passD p)]) (w2 := w) rfl (by simp [is_pass_ok p (hp p List.mem_cons_self)])]
      exact h'
  obtain ⟨y', z', h'⟩ := hl ps 0 (.d (.tup (ps.map passD))) .no .no h
  rw [ap_check_passes]
  unfold g_check_passes
  simp [h']
/-! ### the exchanges of a pass, in order: the first place, and whether the lesser comes first -/
def lay0 (a s n : Nat) : List Nat := (List.range n).map fun i => a + i * s
def exl : Pass → Nat → List (Nat × Bool)
  | .chain r u, n => (if r then List.range (n - 1) else (List.range (n - 1)).reverse).map fun i => (i, u)
  | .ends r u, n => if 1 < n then [(if r then n - 2 else 0, u)] else []
  | .layer r a s u, n => (if r then lay0 a s (rgN a ((n : Int) - 1) s) else ((lay0 a s (rgN a ((n : Int) - 1) s)).map fun i => n - 2 - i).reverse).map fun i => (i, u)
  | _, _ => []
def exD (q : Nat × Bool) : D := .tup [.int q.1, .int (q.1 + 1), .str (ordS q.2)]
theorem lay_rg (a s n : Nat) : rgD a s n = (lay0 a s n).map fun i : Nat => D.int (i : Int) := by
  unfold rgD lay0
  rw [List.map_map]
  apply List.map_congr_left
  intro i _
  simp
theorem ex_items (u : Bool) (l : List Nat) (ds : List Sl) (w : Wd) (t : D) (n : Int) (x y z : Sl) (k : Int) (hi : idxD t (.int k) = some (.str (ordS u))) :
    lcGo (gN 4) tYesJ (eTup (aCons (eVar 4) (aCons (eAdd (eBor 4) (eC (.int 1))) (aCons (eIx (eBor 0) (eC (.int k))) aNil)))) [.d t, .d (.int n), x, y, z] (l.map fun i : Nat => D.int (i : Int)) w = some ((l.map fun i => (i, u)).map exD, w) := by
  rw [List.map_map]
  exact lcGo_map (fun i : Nat => D.int (i : Int)) _ l fun i _ => ⟨_, rfl, by simp [hi, line_eq]; rfl⟩
theorem small_ok (a : Nat) (n s : Nat) (hn : n < 10) (hs : 0 < s) (h6 : s < 7) (ha : a < 7) : small2 a ((n : Int) - 1) s = true := by
  have h : ∀ n : Nat, n < 10 → ∀ s : Nat, s < 7 → ∀ a : Nat, a < 7 → 0 < s → small2 a ((n : Int) - 1) s = true := by decide +kernel
  exact h n hn s h6 a ha hs
def upB : List Nat → Bool
  | [] => true
  | a :: l => l.all (fun b => decide (a ≤ b)) && upB l
theorem upB_on : ∀ l : List Nat, upB l = true → l.Pairwise (· ≤ ·)
  | [], _ => List.Pairwise.nil
  | a :: l, h => by
    have h' := Bool.and_eq_true_iff.mp h
    exact List.Pairwise.cons (fun b hb => by simpa using (List.all_eq_true.mp h'.1) b hb) (upB_on l h'.2)
theorem lay_facts0 : ∀ n : Nat, n < 10 → ∀ s : Nat, s < 7 → ∀ a : Nat, a < 7 → (2 ≤ s ∧ a < s) →
    (upB (lay0 a s (rgN a ((n : Int) - 1) s)) && upB ((lay0 a s (rgN a ((n : Int) - 1) s)).map fun i => n - 2 - i).reverse && (lay0 a s (rgN a ((n : Int) - 1) s)).all fun i => decide (i + 2 ≤ n)) = true := by decide +kernel
theorem lay_facts (n : Nat) (hn : n < 10) (s : Nat) (h2 : 2 ≤ s) (h6 : s ≤ 6) (a : Nat) (ha : a < s) :
    (lay0 a s (rgN a ((n : Int) - 1) s)).Pairwise (· ≤ ·) ∧ ((lay0 a s (rgN a ((n : Int) - 1) s)).map fun i => n - 2 - i).reverse.Pairwise (· ≤ ·) ∧ ∀ i ∈ lay0 a s (rgN a ((n : Int) - 1) s), i + 2 ≤ n := by
  have h := lay_facts0 n hn s (by omega) a (by omega) ⟨h2, ha⟩
  rw [Bool.and_eq_true, Bool.and_eq_true] at h
  exact ⟨upB_on _ h.1.1, upB_on _ h.1.2, fun i hi => by simpa using (List.all_eq_true.mp h.2) i hi⟩
theorem chain_rg (n : Nat) : rgD 0 1 (rgN 0 ((n : Int) - 1) 1) = (List.range (n - 1)).map fun i : Nat => D.int (i : Int) := by
  rw [rgN_one, rgD_range, List.range_eq_range']
  congr 2
  omega
theorem sort_nats (l : List Nat) (h : l.Pairwise (· ≤ ·)) : sortI (l.map fun i : Nat => (i : Int)) = l.map fun i : Nat => (i : Int) := by
  refine sortI_id (List.pairwise_map.mpr (h.imp fun h => ?_))
  omega
theorem sort_rev (l : List Nat) (h : l.reverse.Pairwise (· ≤ ·)) : sortI (l.map fun i : Nat => (i : Int)) = l.reverse.map fun i : Nat => (i : Int) := by
  refine sortI_of ((List.reverse_perm l).map _) (List.pairwise_map.mpr (h.imp fun h => ?_))
  omega
theorem ints_nats (l : List Nat) : (l.map fun i : Nat => D.int (i : Int)) = (l.map fun i : Nat => (i : Int)).map D.int := by
  rw [List.map_map]
  rfl
theorem lay_short (n : Nat) (hn : n < 10) (s : Nat) (h2 : 2 ≤ s) (h6 : s ≤ 6) (a : Nat) (ha : a < s) : rgN a ((n : Int) - 1) s ≤ 100000 := by
  have h : ∀ n : Nat, n < 10 → ∀ s : Nat, s < 7 → ∀ a : Nat, a < 7 → rgN a ((n : Int) - 1) s ≤ 10 := by decide +kernel
  have h' := h n hn s (by omega) a (by omega)
  omega
theorem left_items (l : List Nat) (n : Nat) (h : ∀ i ∈ l, i + 2 ≤ n) (w : Wd) (t x y : Sl) :
    lcGo (gN 4) tYesJ (eSub (eSub (eBor 1) (eC (.int 2))) (eBor 4)) [t, .d (.int n), x, y, .no] (l.map fun i : Nat => D.int (i : Int)) w = some ((l.map fun i => n - 2 - i).map fun i : Nat => D.int (i : Int), w) := by
  rw [List.map_map]
  refine lcGo_map (fun i : Nat => D.int (i : Int)) _ l fun i hi => ⟨_, rfl, ?_⟩
  have := h i hi
  simp
  omega
theorem exchanges_on (p : Pass) (n : Nat) (hn : n < 10) (hp : p.ok) (w : Wd) : G_exchanges [passD p, .int n] w = some (.lst ((exl p n).map exD), w) := by
  have hc : small2 0 ((n : Int) - 1) 1 = true := small_ok 0 n 1 hn (by decide) (by decide) (by decide)
  have hl : n ≤ 100000 + 1 := by omega
  rw [ap_exchanges]
  unfold g_exchanges
  cases p with
  | turn =>
    unfold passD
    simp (decide := true) [exl, line_eq]
  | round r =>
    unfold passD
    simp (decide := true) [exl, line_eq]
  | chain r u =>
    unfold passD
    cases r with
    | true =>
      have e := ex_items u (List.range (n - 1)) [] w (passD (.chain true u)) n (.d (.lst ((List.range (n - 1)).map fun i : Nat => D.int (i : Int)))) .no .no 2 rfl
      unfold passD at e
      simp (decide := true) [hc, chain_rg, e, line_eq, hl, exl]
    | false =>
      have e := ex_items u (List.range (n - 1)).reverse [] w (passD (.chain false u)) n (.d (.lst ((List.range (n - 1)).map fun i : Nat => D.int (i : Int)))) .no .no 2 rfl
      unfold passD at e
      rw [List.map_reverse] at e
      simp (decide := true) [hc, chain_rg, e, line_eq, hl, exl]
  | ends r u =>
    unfold passD
    by_cases h1 : 1 < n
    · have h1' : (1 : Int) < n := by omega
      cases r with
      | true => simp (decide := true) [line_eq, exl, h1, h1', exD]; omega
      | false => simp (decide := true) [line_eq, exl, h1, h1', exD]
    · have h1' : ¬(1 : Int) < n := by omega
      cases r with
      | true => simp (decide := true) [line_eq, exl, h1, h1', exD]
      | false => simp (decide := true) [line_eq, exl, h1, h1', exD]
  | layer r a s u =>
    obtain ⟨h2, h6, ha⟩ := hp
    have hc := small_ok a n s hn (by omega) (by omega) (by omega)
    obtain ⟨f1, f2, f3⟩ := lay_facts n hn s h2 h6 a ha
    have f4 := lay_short n hn s h2 h6 a ha
    have f5 : (lay0 a s (rgN a ((n : Int) - 1) s)).length ≤ 100000 := by
      unfold lay0
      simpa using f4
    unfold passD
    cases r with
    | true =>
      have e := ex_items u (lay0 a s (rgN a ((n : Int) - 1) s)) [] w (passD (.layer true a s u)) n (.d (.lst ((lay0 a s (rgN a ((n : Int) - 1) s)).map fun i : Nat => D.int (i : Int)))) .no .no 4 rfl
      unfold passD at e
      have hsrt : gfSorted [.lst ((lay0 a s (rgN a ((n : Int) - 1) s)).map fun i : Nat => D.int (i : Int))] = some ((lay0 a s (rgN a ((n : Int) - 1) s)).map fun i : Nat => D.int (i : Int)) := by
        rw [ints_nats, v_sorted, sort_nats _ f1]
      simp (decide := true) [hc, lay_rg, hsrt, e, line_eq, f5, exl]
    | false =>
      have e := ex_items u ((lay0 a s (rgN a ((n : Int) - 1) s)).map fun i => n - 2 - i).reverse [] w (passD (.layer false a s u)) n (.d (.lst (((lay0 a s (rgN a ((n : Int) - 1) s)).map fun i => n - 2 - i).map fun i : Nat => D.int (i : Int)))) .no .no 4 rfl
      unfold passD at e
      have hsrt : gfSorted [.lst (((lay0 a s (rgN a ((n : Int) - 1) s)).map fun i => n - 2 - i).map fun i : Nat => D.int (i : Int))] = some (((lay0 a s (rgN a ((n : Int) - 1) s)).map fun i => n - 2 - i).reverse.map fun i : Nat => D.int (i : Int)) := by
        rw [ints_nats, v_sorted, sort_rev _ f2, ← ints_nats]
      have e2 := left_items (lay0 a s (rgN a ((n : Int) - 1) s)) n f3 w (.d (passD (.layer false a s u))) (.d (.lst ((lay0 a s (rgN a ((n : Int) - 1) s)).map fun i : Nat => D.int (i : Int)))) .no
      unfold passD at e2
      generalize hl0 : lay0 a s (rgN a ((n : Int) - 1) s) = l at *
      generalize hm : (l.map fun i => n - 2 - i) = m at *
      have hml : m.length ≤ 100000 := by rw [← hm, List.length_map]; exact f5
      simp (decide := true) [hc, lay_rg, hsrt, e, e2, line_eq, f5, hml, hl0, hm, exl, -List.map_map, -List.map_reverse]
end K01
namespace K01
open PySem PyProof.Rows L2 J
def put (row : List Int) (q : Nat × Bool) : List Int :=
  if q.2 then (row.set q.1 (f2min (row.getD q.1 0) (row.getD (q.1 + 1) 0))).set (q.1 + 1) (f2max (row.getD q.1 0) (row.getD (q.1 + 1) 0))
  else (row.set q.1 (f2max (row.getD q.1 0) (row.getD (q.1 + 1) 0))).set (q.1 + 1) (f2min (row.getD q.1 0) (row.getD (q.1 + 1) 0))
theorem put_len (row : List Int) (q : Nat × Bool) : (put row q).length = row.length := by
  unfold put
  split <;> simp
theorem atI_ints {row : List Int} {i : Nat} (h : i < row.length) : atI (row.map D.int) (i : Int) = some (.int (row.getD i 0)) := by
  rw [atI_of_nat _ (by simpa using h), List.getElem?_map, List.getElem?_eq_getElem h, List.getD_eq_getElem?_getD, List.getElem?_eq_getElem h]
  rfl
theorem atI_ints1 {row : List Int} {i : Nat} (h : i + 1 < row.length) : atI (row.map D.int) ((i : Int) + 1) = some (.int (row.getD (i + 1) 0)) := atI_ints h
theorem ixN_1 {n i : Nat} (h : i + 1 < n) : ixN n ((i : Int) + 1) = some (i + 1) := ixN_nat h
theorem set_self (row : List Int) (i : Nat) (h : i < row.length) : row.set i (row.getD i 0) = row := by
  rw [List.getD_eq_getElem?_getD, List.getElem?_eq_getElem h]
  exact List.set_getElem_self h
theorem swap_step (x y a b c : Sl) (row : List Int) (i : Nat) (u : Bool) (h : i + 1 < row.length) (w : Wd) :
    (sSeq (sIf (tAndJ (eTest (eEq (eLt (eIx (eBor 2) (eBor 4)) (eIx (eBor 2) (eBor 3))) (eEq (eBor 5) (eC (.str "up"))))) (eTest (eNe (eIx (eBor 2) (eBor 3)) (eIx (eBor 2) (eBor 4))))) (sSeq (sAsg (eTup (aCons (eIx (eBor 2) (eBor 4)) (aCons (eIx (eBor 2) (eBor 3)) aNil))) (goT 2 (gosCons (goSub 2 (eBor 3)) (gosCons (goSub 2 (eBor 4)) gosNil)))) sNil) sNil) sNil)
      [x, y, .own (row.map D.int), .d (.int i), .d (.int (i + 1)), .d (.str (ordS u))] w = some (.nx [x, y, .own ((put row (i, u)).map D.int), .d (.int i), .d (.int (i + 1)), .d (.str (ordS u))] w) := by
  have h0 : i < row.length := by omega
  have s0 := set_self row i h0
  have s1 := set_self row (i + 1) h
  generalize ha : row.getD i 0 = p at *
  generalize hb : row.getD (i + 1) 0 = q at *
  have e0 := atI_ints h0
  have e1 := atI_ints1 h
  rw [ha] at e0
  rw [hb] at e1
  unfold put
  dsimp only
  rw [ha, hb]
  unfold f2min f2max
  rcases Int.lt_trichotomy q p with hlt | heq | hgt
  · have n1 : ¬p < q := by omega
    have n2 : ¬p = q := by omega
    cases u with
    | true => simp [e0, e1, hlt, n1, n2, line_eq, ixN_nat h0, ixN_1 h, ← List.map_set]
    | false => simp [e0, e1, hlt, n1, n2, s0, s1]
  · subst heq
    cases u <;> simp [e0, e1, s0, s1]
  · have n1 : ¬q < p := by omega
    have n2 : ¬p = q := by omega
    cases u with
    | true => simp [e0, e1, hgt, n1, n2, s0, s1]
    | false => simp [e0, e1, hgt, n1, n2, line_eq, ixN_nat h0, ixN_1 h, ← List.map_set]
theorem swap_loop : ∀ (l : List (Nat × Bool)) (row : List Int) (x y a b c : Sl) (w : Wd), (∀ q ∈ l, q.1 + 1 < row.length) → ∃ a' b' c', forGo (gT 3 (gsCons (gN 3) (gsCons (gN 4) (gsCons (gN 5) gsNil)))) (sSeq (sIf (tAndJ (eTest (eEq (eLt (eIx (eBor 2) (eBor 4)) (eIx (eBor 2) (eBor 3))) (eEq (eBor 5) (eC (.str "up"))))) (eTest (eNe (eIx (eBor 2) (eBor 3)) (eIx (eBor 2) (eBor 4))))) (sSeq (sAsg (eTup (aCons (eIx (eBor 2) (eBor 4)) (aCons (eIx (eBor 2) (eBor 3)) aNil))) (goT 2 (gosCons (goSub 2 (eBor 3)) (gosCons (goSub 2 (eBor 4)) gosNil)))) sNil) sNil) sNil) (l.map exD)
      [x, y, .own (row.map D.int), a, b, c] w = some (.nx [x, y, .own ((l.foldl put row).map D.int), a', b', c'] w)
  | [], row, x, y, a, b, c, w, _ => ⟨a, b, c, rfl⟩
  | (i, u) :: l, row, x, y, a, b, c, w, h => by
    obtain ⟨a', b', c', h'⟩ := swap_loop l (put row (i, u)) x y (.d (.int i)) (.d (.int (i + 1))) (.d (.str (ordS u))) w fun q hq => by
      rw [put_len]
      exact h q (List.mem_cons_of_mem _ hq)
    refine ⟨a', b', c', ?_⟩
    rw [List.map_cons, forGo_nx (ds1 := [x, y, .own (row.map D.int), .d (.int i), .d (.int (i + 1)), .d (.str (ordS u))]) rfl (swap_step x y a b c row i u (h _ List.mem_cons_self) w), h']
    rfl
def thr : Pass → List Int → List Int
  | .turn, row => row.reverse
  | .round false, row => row.drop 1 ++ row.take 1
  | .round true, row => row.drop (row.length - 1) ++ row.take (row.length - 1)
  | p, row => (exl p row.length).foldl put row
theorem cut_f1 (xs : List D) : J.cutD xs (some 1) none = xs.drop 1 := by
  unfold J.cutD
  have e : HT.sIx xs.length 0 (some 1) = min 1 xs.length := HT.sIx_nat _ _ 1
  rw [HT.sIx_none, e]
  rcases xs with _ | ⟨a, r⟩
  · rfl
  · rw [Nat.min_eq_left (by simp), List.drop_one, List.tail_cons]
    exact List.take_of_length_le (by simp)
theorem cut_t1 (xs : List D) : J.cutD xs none (some 1) = xs.take 1 := by
  unfold J.cutD
  have e : HT.sIx xs.length xs.length (some 1) = min 1 xs.length := HT.sIx_nat _ _ 1
  rw [HT.sIx_none, e, List.drop_zero, Nat.sub_zero]
  rcases xs with _ | ⟨a, r⟩
  · rfl
  · rw [Nat.min_eq_left (by simp)]
theorem cut_fm (xs : List D) : J.cutD xs (some (-1)) none = xs.drop (xs.length - 1) := by
  unfold J.cutD
  have e : HT.sIx xs.length 0 (some (-1)) = xs.length - 1 := by
    show (if (-1 : Int) < 0 then (-1 + (xs.length : Int)).toNat else min (-1 : Int).toNat xs.length) = _
    rw [if_pos (by decide)]
    omega
  rw [HT.sIx_none, e]
  exact List.take_of_length_le (by simp)
theorem cut_tm (xs : List D) : J.cutD xs none (some (-1)) = xs.take (xs.length - 1) := by
  unfold J.cutD
  have e : HT.sIx xs.length xs.length (some (-1)) = xs.length - 1 := by
    show (if (-1 : Int) < 0 then (-1 + (xs.length : Int)).toNat else min (-1 : Int).toNat xs.length) = _
    rw [if_pos (by decide)]
    omega
  rw [HT.sIx_none, e, List.drop_zero, Nat.sub_zero]
theorem atI_m1 (row : List Int) (h : row ≠ []) : atI (row.map D.int) (-1) = some (.int (row.getLast h)) := by
  unfold atI ixN
  have hl : 0 < row.length := List.length_pos_iff.mpr h
  rw [List.length_map, if_neg (by omega), if_pos (by omega)]
  show (row.map D.int)[(-1 + (row.length : Int)).toNat]? = _
  rw [show (-1 + (row.length : Int)).toNat = row.length - 1 by omega, List.getElem?_map, ← List.getLast?_eq_getElem?, List.getLast?_eq_some_getLast h]
  rfl
theorem drop_last (row : List Int) (h : row ≠ []) : row.drop (row.length - 1) = [row.getLast h] := by
  have e := List.dropLast_concat_getLast h
  have e2 : (row.dropLast ++ [row.getLast h]).drop row.dropLast.length = [row.getLast h] := List.drop_left
  rw [e, List.length_dropLast] at e2
  exact e2
theorem exl_in (p : Pass) (hp : p.ok) (n : Nat) (hn : n < 10) : ∀ q ∈ exl p n, q.1 + 1 < n := by
  cases p with
  | turn => exact fun q hq => nomatch hq
  | round r => exact fun q hq => nomatch hq
  | chain r u =>
    intro q hq
    cases r <;> simp [exl] at hq <;> obtain ⟨a, h1, rfl⟩ := hq <;> dsimp only <;> omega
  | ends r u =>
    intro q hq
    have hq' : q ∈ (if 1 < n then [((if r then n - 2 else 0 : Nat), u)] else []) := hq
    split at hq'
    · cases r <;> simp at hq' <;> subst hq' <;> dsimp only <;> omega
    · cases hq'
  | layer r a s u =>
    obtain ⟨h2, h6, ha⟩ := hp
    have f := (lay_facts n hn s h2 h6 a ha).2.2
    intro q hq
    cases r <;> simp [exl] at hq <;> obtain ⟨i, h1, rfl⟩ := hq <;> have := f _ h1 <;> dsimp only <;> omega
theorem through_on (p : Pass) (hp : p.ok) (row : List Int) (hn : row.length < 10) (w : Wd) : G_through [passD p, .lst (row.map D.int)] w = some (.lst ((thr p row).map D.int), w) := by
  have hx := exchanges_on p row.length hn hp w
  obtain ⟨a, b, c, hl⟩ := swap_loop (exl p row.length) row (.d (passD p)) (.d (.lst (row.map D.int))) .no .no .no w (exl_in p hp row.length hn)
  rw [ap_through]
  unfold g_through
  cases p with
  | turn =>
    unfold passD
    simp (decide := true) [thr]
  | round r =>
    by_cases hr : row = []
    · subst hr
      have hx' : G_exchanges [passD (.round r), .int 0] w = some (.lst [], w) := hx
      unfold passD at hx' ⊢
      have e : neD (.lst []) (.lst []) = some (.bl false) := v_ne_ints [] []
      cases r <;> simp (decide := true) [thr, e, line_eq, hx'] <;> rfl
    · unfold passD
      obtain ⟨x, t, rfl⟩ := List.exists_cons_of_ne_nil hr
      have hn' : t.length + 1 < 10 := hn
      have e3 : neD (.lst (.int x :: t.map D.int)) (.lst []) = some (.bl true) := v_ne_ints0 (x :: t)
      have ht : t.length + 1 ≤ 100000 := by omega
      have ht' : t.length ≤ 100000 := by omega
      cases r with
      | false =>
        simp (decide := true) [thr, line_eq, cut_f1, e3, ht, ht']
      | true =>
        have e1 : atI (.int x :: t.map D.int) (-1) = some (.int ((x :: t).getLast hr)) := atI_m1 (x :: t) hr
        have e2 := drop_last (x :: t) hr
        have e4 : thr (.round true) (x :: t) = (x :: t).getLast hr :: (x :: t).take t.length := by
          show (x :: t).drop ((x :: t).length - 1) ++ (x :: t).take ((x :: t).length - 1) = _
          rw [e2]
          rfl
        rw [e4]
        simp (decide := true) [line_eq, cut_tm, e1, e3, ht, ht']
  | chain r u =>
    unfold passD at hx hl ⊢
    simp (decide := true) [thr, hx, hl]
  | ends r u =>
    unfold passD at hx hl ⊢
    simp (decide := true) [thr, hx, hl]
  | layer r a s u =>
    unfold passD at hx hl ⊢
    simp (decide := true) [thr, hx, hl]
end K01
namespace K01
open PySem PyProof.Rows L2 J
def finM (o : Option Out) : Option (List D × Wd) := match o with
  | some (.nx ds w) => match (ds[0]? : Option Sl) with | some (Sl.mu 0 ys) => some (ys, w) | _ => none
  | _ => none
@[simp] theorem finM.on (ys : List D) (r : List Sl) (w : Wd) : finM (some (.nx (.mu 0 ys :: r) w)) = some (ys, w) := rfl
theorem ap__law_put (xs : List D) (a b c : D) (w : Wd) : G__law_put xs [a, b, c] w = finM (g__law_put [.mu 0 xs, .d a, .d b, .d c, .no, .no] w) := rfl
theorem ap__law_through (a b : D) (w : Wd) : G__law_through [a, b] w = fin (g__law_through [.d a, .d b, .no, .no, .no, .no] w) := rfl
theorem ap__law_woven (a b : D) (w : Wd) : G__law_woven [a, b] w = fin (g__law_woven [.d a, .d b, .no, .no] w) := rfl
theorem put_on (row : List Int) (i : Nat) (u : Bool) (h : i + 1 < row.length) (w : Wd) : G__law_put (row.map D.int) [.int i, .int (i + 1), .str (ordS u)] w = some ((put row (i, u)).map D.int, w) := by
  have h0 : i < row.length := by omega
  rw [ap__law_put]
  unfold g__law_put put
  dsimp only
  cases u <;> simp [atI_ints h0, atI_ints1 h, line_eq, ixN_nat h0, ixN_1 h, ← List.map_set]
theorem thr_len (p : Pass) (row : List Int) : (thr p row).length = row.length := by
  have hf : ∀ (l : List (Nat × Bool)) (row : List Int), (l.foldl put row).length = row.length := by
    intro l
    induction l with
    | nil => exact fun _ => rfl
    | cons q l ih => exact fun row => (ih (put row q)).trans (put_len row q)
  cases p with
  | turn => exact List.length_reverse
  | round r =>
    cases r with
    | false =>
      show (row.drop 1 ++ row.take 1).length = _
      simp
      try omega
    | true =>
      show (row.drop (row.length - 1) ++ row.take (row.length - 1)).length = _
      simp
      try omega
  | _ => exact hf _ _
def wov (ps : List Pass) (row : List Int) : List Int := ps.foldl (fun r p => thr p r) row
theorem woven_on (ps : List Pass) (hp : ∀ p ∈ ps, p.ok) (row : List Int) (hn : row.length < 10) (w : Wd) : G_woven [.tup (ps.map passD), .tup (row.map D.int)] w = some (.lst ((wov ps row).map D.int), w) := by
  have hl : ∀ (ps : List Pass) (row : List Int) (x y z t : Sl), (∀ p ∈ ps, p.ok) → row.length < 10 → ∃ z', forGo (gN 3) (sSeq (sSet 2 (eCall 2 G_through (aCons (eVar 3) (aCons (eVar 2) aNil)))) sNil) (ps.map passD) [x, y, .d (.lst (row.map D.int)), z, t] w = some (.nx [x, y, .d (.lst ((wov ps row).map D.int)), z', t] w) := by
    intro ps
    induction ps with
    | nil => exact fun row x y z t _ _ => ⟨z, rfl⟩
    | cons p ps ih =>
      intro row x y z t hp hn
      obtain ⟨z', h'⟩ := ih (thr p row) x y (.d (passD p)) t (fun q hq => hp q (List.mem_cons_of_mem _ hq)) (by rw [thr_len]; exact hn)
      refine ⟨z', ?_⟩
      rw [List.map_cons, forGo_nx (ds1 := [x, y, .d (.lst (row.map D.int)), .d (passD p), t]) (ds2 := [x, y, .d (.lst ((thr p row).map D.int)), .d (passD p), t]) (w2 := w) rfl (by simp [through_on p (hp p List.mem_cons_self) row hn]), h']
      rfl
  obtain ⟨z', h'⟩ := hl ps row (.d (.tup (ps.map passD))) (.d (.tup (row.map D.int))) .no .no hp hn
  have hw : ∀ ds : List Sl, ds[4]? = some .no → lcGo (gN 4) tYesJ (eCall 1 G_is_whole (aCons (eVar 4) aNil)) ds (row.map D.int) w = some ((row.map fun _ => true).map D.bl, w) := by
    intro ds hd
    have h4 : 4 < ds.length := (List.getElem?_eq_some_iff.mp hd).1
    rw [List.map_map]
    exact lcGo_map D.int _ row fun i _ => ⟨_, rfl, by simp [whole_int, h4]⟩
  have hw' := hw [.d (.tup (ps.map passD)), .d (.tup (row.map D.int)), .no, .no, .no] rfl
  have ha : (row.map fun _ => true).all id = true := by simp
  have hb : row.length ≤ 100000 := by omega
  have hal := v_all (row.map fun _ => true)
  rw [ha] at hal
  rw [ap_woven]
  unfold g_woven
  simp [check_ok ps hp, hw', hal, line_eq, hb, h', -List.map_map, -J.v_all]
theorem lt_chain (r u : Bool) (n : Nat) (w : Wd) : ∀ (l : List Nat) (row : List Int) (y a b : Sl), row.length = n → (∀ i ∈ l, i + 1 < n) → ∃ a' b', forGo (gN 4) (sSeq (sSet 5 (eIf (eTest (eEq (eIx (eBor 0) (eC (.int 1))) (eC (.str "right")))) (eVar 4) (eSub (eSub (eBor 3) (eC (.int 2))) (eBor 4)))) (sSeq (sCallM 2 4 G__law_put (aCons (eVar 5) (aCons (eAdd (eBor 5) (eC (.int 1))) (aCons (eIx (eBor 0) (eC (.int 2))) aNil)))) sNil)) (l.map fun i : Nat => D.int (i : Int))
      [.d (passD (.chain r u)), y, .own (row.map D.int), .d (.int n), a, b] w = some (.nx [.d (passD (.chain r u)), y, .own (((l.map fun i => (if r then i else n - 2 - i, u)).foldl put row).map D.int), .d (.int n), a', b'] w)
  | [], row, y, a, b, _, _ => ⟨a, b, rfl⟩
  | i :: l, row, y, a, b, hr, h => by
    have hi := h i List.mem_cons_self
    obtain ⟨a', b', h'⟩ := lt_chain r u n w l (put row (if r then i else n - 2 - i, u)) y (.d (.int (i : Int))) (.d (.int ((if r then i else n - 2 - i : Nat) : Int))) (by rw [put_len]; exact hr) fun j hj => h j (List.mem_cons_of_mem _ hj)
    refine ⟨a', b', ?_⟩
    have hj : (if r then i else n - 2 - i) + 1 < row.length := by
      rw [hr]
      split <;> omega
    have hput := put_on row (if r then i else n - 2 - i) u hj w
    rw [List.map_cons, forGo_nx (ds1 := [.d (passD (.chain r u)), y, .own (row.map D.int), .d (.int n), .d (.int (i : Int)), b]) (ds2 := [.d (passD (.chain r u)), y, .own ((put row (if r then i else n - 2 - i, u)).map D.int), .d (.int n), .d (.int (i : Int)), .d (.int ((if r then i else n - 2 - i : Nat) : Int))]) (w2 := w) rfl ?_, h']
    · rfl
    · cases r with
      | true =>
        have hput' : G__law_put (row.map D.int) [.int i, .int (i + 1), .str (ordS u)] w = some ((put row (i, u)).map D.int, w) := hput
        unfold passD
        simp [hput']
      | false =>
        have hput' : G__law_put (row.map D.int) [.int ((n - 2 - i : Nat) : Int), .int (((n - 2 - i : Nat) : Int) + 1), .str (ordS u)] w = some ((put row (n - 2 - i, u)).map D.int, w) := hput
        have e : (n : Int) - 2 - (i : Int) = ((n - 2 - i : Nat) : Int) := by omega
        unfold passD
        simp [e, hput']
def hit (a s i : Nat) : Bool := decide (a ≤ i) && decide ((i - a) % s = 0)
theorem lt_layer (r u : Bool) (A S n : Nat) (hS : 0 < S) (w : Wd) : ∀ (l : List Nat) (row : List Int) (y a b : Sl), row.length = n → (∀ i ∈ l, i + 1 < n) → ∃ a' b', forGo (gN 4) (sSeq (sIf (tAndJ (eTest (eGe (eBor 4) (eIx (eBor 0) (eC (.int 2))))) (eTest (eEq (eMod (eSub (eBor 4) (eIx (eBor 0) (eC (.int 2)))) (eIx (eBor 0) (eC (.int 3)))) (eC (.int 0))))) (sSeq (sSet 5 (eIf (eTest (eEq (eIx (eBor 0) (eC (.int 1))) (eC (.str "right")))) (eVar 4) (eSub (eSub (eBor 3) (eC (.int 2))) (eBor 4)))) (sSeq (sCallM 2 4 G__law_put (aCons (eVar 5) (aCons (eAdd (eBor 5) (eC (.int 1))) (aCons (eIx (eBor 0) (eC (.int 4))) aNil)))) sNil)) sNil) sNil) (l.map fun i : Nat => D.int (i : Int))
      [.d (passD (.layer r A S u)), y, .own (row.map D.int), .d (.int n), a, b] w = some (.nx [.d (passD (.layer r A S u)), y, .own ((((l.filter (hit A S)).map fun i => (if r then i else n - 2 - i, u)).foldl put row).map D.int), .d (.int n), a', b'] w)
  | [], row, y, a, b, _, _ => ⟨a, b, rfl⟩
  | i :: l, row, y, a, b, hr, h => by
    have hi := h i List.mem_cons_self
    have hm := v_mod (i := (i : Int) - A) (j := S) (by omega)
    have hcast : A ≤ i → ((i : Int) - A) % S = (((i - A) % S : Nat) : Int) := fun h => by
      rw [show (i : Int) - A = ((i - A : Nat) : Int) by omega]
      exact (Int.natCast_emod _ _).symm
    by_cases hh : hit A S i = true
    · obtain ⟨a', b', h'⟩ := lt_layer r u A S n hS w l (put row (if r then i else n - 2 - i, u)) y (.d (.int (i : Int))) (.d (.int ((if r then i else n - 2 - i : Nat) : Int))) (by rw [put_len]; exact hr) fun j hj => h j (List.mem_cons_of_mem _ hj)
      refine ⟨a', b', ?_⟩
      have hj : (if r then i else n - 2 - i) + 1 < row.length := by
        rw [hr]
        split <;> omega
      have hput := put_on row (if r then i else n - 2 - i) u hj w
      unfold hit at hh
      simp only [Bool.and_eq_true, decide_eq_true_eq] at hh
      have h0 : (A : Int) ≤ i := by omega
      have h1 : ((i : Int) - A) % S = 0 := by rw [hcast hh.1, hh.2]; rfl
      rw [List.map_cons, forGo_nx (ds1 := [.d (passD (.layer r A S u)), y, .own (row.map D.int), .d (.int n), .d (.int (i : Int)), b]) (ds2 := [.d (passD (.layer r A S u)), y, .own ((put row (if r then i else n - 2 - i, u)).map D.int), .d (.int n), .d (.int (i : Int)), .d (.int ((if r then i else n - 2 - i : Nat) : Int))]) (w2 := w) rfl ?_, h', List.filter_cons_of_pos (by unfold hit; simp [hh])]
      · rfl
      · cases r with
        | true =>
          have hput' : G__law_put (row.map D.int) [.int i, .int (i + 1), .str (ordS u)] w = some ((put row (i, u)).map D.int, w) := hput
          unfold passD
          simp [hput', hm, h0, h1, hh.1]
        | false =>
          have hput' : G__law_put (row.map D.int) [.int ((n - 2 - i : Nat) : Int), .int (((n - 2 - i : Nat) : Int) + 1), .str (ordS u)] w = some ((put row (n - 2 - i, u)).map D.int, w) := hput
          have e : (n : Int) - 2 - (i : Int) = ((n - 2 - i : Nat) : Int) := by omega
          unfold passD
          simp [e, hput', hm, h0, h1, hh.1]
    · obtain ⟨a', b', h'⟩ := lt_layer r u A S n hS w l row y (.d (.int (i : Int))) b hr fun j hj => h j (List.mem_cons_of_mem _ hj)
      refine ⟨a', b', ?_⟩
      rw [List.map_cons, forGo_nx (ds1 := [.d (passD (.layer r A S u)), y, .own (row.map D.int), .d (.int n), .d (.int (i : Int)), b]) (ds2 := [.d (passD (.layer r A S u)), y, .own (row.map D.int), .d (.int n), .d (.int (i : Int)), b]) (w2 := w) rfl ?_, h', List.filter_cons_of_neg hh]
      unfold hit at hh
      unfold passD
      by_cases h0 : A ≤ i
      · have h1 : ¬((i : Int) - A) % S = 0 := by
          intro h1
          apply hh
          simp only [Bool.and_eq_true, decide_eq_true_eq]
          rw [hcast h0] at h1
          exact ⟨h0, by omega⟩
        simp [hm, h0, h1]
      · simp [h0]
def lawl (r : Bool) (n : Nat) (u : Bool) (l : List Nat) : List (Nat × Bool) := l.map fun i => (if r then i else n - 2 - i, u)
theorem chain_same : ∀ n : Nat, n < 10 → ∀ r u : Bool, lawl r n u (List.range (n - 1)) = exl (.chain r u) n := by decide +kernel
def apartB : List (Nat × Bool) → Bool
  | [] => true
  | q :: l => l.all (fun p => decide (p.1 + 2 ≤ q.1) || decide (q.1 + 2 ≤ p.1)) && apartB l
theorem layer_same0 : ∀ n : Nat, n < 10 → ∀ r u : Bool, ∀ s : Nat, s < 7 → ∀ a : Nat, a < 7 → (2 ≤ s ∧ a < s) →
    (decide (lawl r n u ((List.range (n - 1)).filter (hit a s)) = if r then exl (.layer r a s u) n else (exl (.layer r a s u) n).reverse) && apartB (exl (.layer r a s u) n)) = true := by decide +kernel
theorem put_comm (row : List Int) (p q : Nat × Bool) (h : p.1 + 2 ≤ q.1) : put (put row p) q = put (put row q) p := by
  obtain ⟨i, u⟩ := p
  obtain ⟨j, v⟩ := q
  have h' : i + 2 ≤ j := h
  have g : ∀ (l : List Int) (k m : Nat) (x : Int), k ≠ m → (l.set k x).getD m 0 = l.getD m 0 := fun l k m x hk => by
    rw [List.getD_eq_getElem?_getD, List.getD_eq_getElem?_getD, List.getElem?_set_ne hk]
  have n1 : i ≠ j := by omega
  have n2 : i ≠ j + 1 := by omega
  have n3 : i + 1 ≠ j := by omega
  have n4 : i + 1 ≠ j + 1 := by omega
  have c : ∀ (l : List Int) (k m : Nat) (x y : Int), k ≠ m → (l.set k x).set m y = (l.set m y).set k x := fun l k m x y hk => List.set_comm x y hk
  cases u <;> cases v <;> simp only [put, if_true, if_false, Bool.false_eq_true, g _ _ _ _ n1, g _ _ _ _ n2, g _ _ _ _ n3, g _ _ _ _ n4, g _ _ _ _ n1.symm, g _ _ _ _ n2.symm, g _ _ _ _ n3.symm, g _ _ _ _ n4.symm] <;>
    rw [c _ _ _ _ _ n3, c _ _ _ _ _ n1, c _ _ _ _ _ n4, c _ _ _ _ _ n2]
theorem fold_out (q : Nat × Bool) : ∀ (l : List (Nat × Bool)) (row : List Int), (∀ p ∈ l, p.1 + 2 ≤ q.1 ∨ q.1 + 2 ≤ p.1) → l.foldl put (put row q) = put (l.foldl put row) q
  | [], _, _ => rfl
  | p :: l, row, h => by
    show l.foldl put (put (put row q) p) = put (l.foldl put (put row p)) q
    rw [← fold_out q l (put row p) fun x hx => h x (List.mem_cons_of_mem _ hx)]
    congr 1
    rcases h p List.mem_cons_self with z | z
    · exact (put_comm row p q z).symm
    · exact put_comm row q p z
theorem fold_rev : ∀ (l : List (Nat × Bool)) (row : List Int), apartB l = true → l.reverse.foldl put row = l.foldl put row
  | [], _, _ => rfl
  | q :: l, row, h => by
    have h' := Bool.and_eq_true_iff.mp h
    rw [List.reverse_cons, List.foldl_append, fold_rev l row h'.2]
    show put (l.foldl put row) q = l.foldl put (put row q)
    rw [fold_out q l row fun p hp => by simpa using (List.all_eq_true.mp h'.1) p hp]
theorem layer_same (n : Nat) (hn : n < 10) (r u : Bool) (s a : Nat) (h2 : 2 ≤ s) (h6 : s ≤ 6) (ha : a < s) (row : List Int) :
    (lawl r n u ((List.range (n - 1)).filter (hit a s))).foldl put row = (exl (.layer r a s u) n).foldl put row := by
  have h := Bool.and_eq_true_iff.mp (layer_same0 n hn r u s (by omega) a (by omega) ⟨h2, ha⟩)
  rw [of_decide_eq_true h.1]
  cases r with
  | true => rfl
  | false => exact fold_rev _ row h.2
theorem law_through_on (p : Pass) (hp : p.ok) (row : List Int) (hn : row.length < 10) (w : Wd) : G__law_through [passD p, .lst (row.map D.int)] w = some (.lst ((thr p row).map D.int), w) := by
  have hr := irF.on 0 ((row.length : Int) - 1) w ⟨by decide, by decide, by omega, by omega⟩
  rw [show ((row.length : Int) - 1 - 0).toNat = row.length - 1 by omega, rgD_range, ← List.range_eq_range'] at hr
  have hb : row.length ≤ 100000 := by omega
  have hrange : ∀ i ∈ List.range (row.length - 1), i + 1 < row.length := fun i hi => by
    have := List.mem_range.mp hi
    omega
  rw [ap__law_through]
  unfold g__law_through
  cases p with
  | turn =>
    unfold passD
    simp (decide := true) [thr]
  | round r =>
    have hb1 : row.length - 1 + min 1 row.length ≤ 100000 := by omega
    have hb2 : row.length - (row.length - 1) + min (row.length - 1) row.length ≤ 100000 := by omega
    unfold passD
    cases r <;> simp (decide := true) [thr, line_eq, cut_f1, cut_t1, cut_fm, cut_tm, hb, hb1]
  | chain r u =>
    obtain ⟨a, b, hl⟩ := lt_chain r u row.length w (List.range (row.length - 1)) row (.d (.lst (row.map D.int))) .no .no rfl hrange
    have hs := chain_same row.length hn r u
    unfold lawl at hs
    rw [hs] at hl
    unfold passD at hl ⊢
    simp (decide := true) [thr, hr, hl]
  | ends r u =>
    by_cases h1 : 1 < row.length
    · have h1' : (1 : Int) < row.length := by omega
      have hput := put_on row (if r then row.length - 2 else 0) u (by split <;> omega) w
      unfold passD
      cases r with
      | true =>
        have e1 : (row.length : Int) - 2 = ((row.length - 2 : Nat) : Int) := by omega
        have e2 : (row.length : Int) - 1 = ((row.length - 2 : Nat) : Int) + 1 := by omega
        have hput' : G__law_put (row.map D.int) [.int ((row.length - 2 : Nat) : Int), .int (((row.length - 2 : Nat) : Int) + 1), .str (ordS u)] w = some ((put row (row.length - 2, u)).map D.int, w) := hput
        simp (decide := true) [thr, exl, h1, h1', e1, e2, hput']
      | false =>
        have hput' : G__law_put (row.map D.int) [.int 0, .int 1, .str (ordS u)] w = some ((put row (0, u)).map D.int, w) := hput
        simp (decide := true) [thr, exl, h1, h1', hput']
    · have h1' : ¬(1 : Int) < row.length := by omega
      unfold passD
      simp (decide := true) [thr, exl, h1, h1']
  | layer r A S u =>
    obtain ⟨h2, h6, ha⟩ := hp
    obtain ⟨a, b, hl⟩ := lt_layer r u A S row.length (by omega) w (List.range (row.length - 1)) row (.d (.lst (row.map D.int))) .no .no rfl hrange
    have hs := layer_same row.length hn r u S A h2 h6 ha row
    unfold lawl at hs
    rw [hs] at hl
    unfold passD at hl ⊢
    simp (decide := true) [thr, hr, hl]
end K01
namespace K01
open PySem PyProof.Rows L2 J
theorem next_eq : G__law_next = G_next := rfl
theorem draw_on (b : Int) (hb : 0 < b) (w : Wd) (hc : 0 ≤ w.c) : ∃ v, 0 ≤ v ∧ v < b ∧ G__law_next [.draw, .int b] w = some (.int v, ⟨w.ns, w.c + 1⟩) := by
  rw [next_eq]
  exact next_on b hb w hc
theorem ap__law_pick (a b : D) (w : Wd) : G__law_pick [a, b] w = fin (g__law_pick [.d a, .d b] w) := rfl
theorem ap__law_pass (a : D) (w : Wd) : G__law_pass [a] w = fin (g__law_pass [.d a, .no, .no, .no, .no] w) := rfl
theorem pick_on (ds : List D) (hd : 0 < ds.length) (w : Wd) (hc : 0 ≤ w.c) : ∃ x, x ∈ ds ∧ G__law_pick [.draw, .lst ds] w = some (x, ⟨w.ns, w.c + 1⟩) := by
  obtain ⟨v, h0, h1, h2⟩ := draw_on (ds.length : Int) (by omega) w hc
  obtain ⟨x, hx, e⟩ := atI_lit ds v h0 h1
  refine ⟨x, hx, ?_⟩
  rw [ap__law_pick]
  unfold g__law_pick
  simp [h2, e]
theorem pass_on (w : Wd) (hc : 0 ≤ w.c) : ∃ (p : Pass) (w' : Wd), G__law_pass [.draw] w = some (passD p, w') ∧ p.ok ∧ 0 ≤ w'.c := by
  obtain ⟨v, h0, h1, h2⟩ := draw_on 7 (by decide) w hc
  obtain ⟨x, hx, ex⟩ := pick_on [.str "right", .str "left"] (by decide) ⟨w.ns, w.c + 1⟩ (by dsimp only; omega)
  have hx' : ∃ r, x = .str (wayS r) := by
    simp only [List.mem_cons, List.not_mem_nil, or_false] at hx
    rcases hx with rfl | rfl
    · exact ⟨true, rfl⟩
    · exact ⟨false, rfl⟩
  obtain ⟨r, rfl⟩ := hx'
  obtain ⟨y, hy, ey⟩ := pick_on [.str "up", .str "up", .str "down"] (by decide) ⟨w.ns, w.c + 1 + 1⟩ (by dsimp only; omega)
  have hy' : ∃ u, y = .str (ordS u) := by
    simp only [List.mem_cons, List.not_mem_nil, or_false] at hy
    rcases hy with rfl | rfl | rfl
    · exact ⟨true, rfl⟩
    · exact ⟨true, rfl⟩
    · exact ⟨false, rfl⟩
  obtain ⟨u, rfl⟩ := hy'
  rw [ap__law_pass]
  unfold g__law_pass
  by_cases k3 : v < 3
  · refine ⟨.chain r u, ⟨w.ns, w.c + 1 + 1 + 1⟩, ?_, trivial, by dsimp only; omega⟩
    simp [h2, ex, ey, line_eq, k3, passD]
  · by_cases k6 : v = 6
    · refine ⟨.ends r u, ⟨w.ns, w.c + 1 + 1 + 1⟩, ?_, trivial, by dsimp only; omega⟩
      simp [h2, ex, ey, line_eq, k3, k6, passD]
    · by_cases k5 : v < 5
      · obtain ⟨z, z0, z1, z2⟩ := draw_on 3 (by decide) ⟨w.ns, w.c + 1 + 1 + 1⟩ (by dsimp only; omega)
        obtain ⟨t, t0, t1, t2⟩ := draw_on (2 + z) (by omega) ⟨w.ns, w.c + 1 + 1 + 1 + 1⟩ (by dsimp only; omega)
        have e1 : (((2 + z).toNat : Nat) : Int) = 2 + z := by omega
        have e2 : ((t.toNat : Nat) : Int) = t := by omega
        refine ⟨.layer r t.toNat (2 + z).toNat u, ⟨w.ns, w.c + 1 + 1 + 1 + 1 + 1⟩, ?_, ⟨by omega, by omega, by omega⟩, by dsimp only; omega⟩
        simp [h2, ex, ey, z2, t2, line_eq, k3, k6, k5, passD, e1, e2]
      · obtain ⟨q, hq, eq⟩ := pick_on [.tup [.str "turn"], .tup [.str "round", .str (wayS r)]] (Nat.succ_pos _) ⟨w.ns, w.c + 1 + 1 + 1⟩ (by dsimp only; omega)
        have hq' : ∃ p : Pass, q = passD p ∧ p.ok := by
          simp only [List.mem_cons, List.not_mem_nil, or_false] at hq
          rcases hq with rfl | rfl
          · exact ⟨.turn, rfl, trivial⟩
          · exact ⟨.round r, rfl, trivial⟩
        obtain ⟨p, rfl, hp⟩ := hq'
        refine ⟨p, ⟨w.ns, w.c + 1 + 1 + 1 + 1⟩, ?_, hp, by dsimp only; omega⟩
        simp [h2, ex, ey, line_eq, k3, k6, k5, eq]
theorem law_woven_on (ps : List Pass) (hp : ∀ p ∈ ps, p.ok) (row : List Int) (hn : row.length < 10) (w : Wd) : G__law_woven [.lst (ps.map passD), .lst (row.map D.int)] w = some (.lst ((wov ps row).map D.int), w) := by
  have hl : ∀ (ps : List Pass) (row : List Int) (x y z : Sl), (∀ p ∈ ps, p.ok) → row.length < 10 → ∃ z', forGo (gN 3) (sSeq (sSet 2 (eCall 2 G__law_through (aCons (eVar 3) (aCons (eVar 2) aNil)))) sNil) (ps.map passD) [x, y, .d (.lst (row.map D.int)), z] w = some (.nx [x, y, .d (.lst ((wov ps row).map D.int)), z'] w) := by
    intro ps
    induction ps with
    | nil => exact fun row x y z _ _ => ⟨z, rfl⟩
    | cons p ps ih =>
      intro row x y z hp hn
      obtain ⟨z', h'⟩ := ih (thr p row) x y (.d (passD p)) (fun q hq => hp q (List.mem_cons_of_mem _ hq)) (by rw [thr_len]; exact hn)
      refine ⟨z', ?_⟩
      rw [List.map_cons, forGo_nx (ds1 := [x, y, .d (.lst (row.map D.int)), .d (passD p)]) (ds2 := [x, y, .d (.lst ((thr p row).map D.int)), .d (passD p)]) (w2 := w) rfl (by simp [law_through_on p (hp p List.mem_cons_self) row hn]), h']
      rfl
  obtain ⟨z', h'⟩ := hl ps row (.d (.lst (ps.map passD))) (.d (.lst (row.map D.int))) .no hp hn
  rw [ap__law_woven]
  unfold g__law_woven
  simp [h']
theorem put_loop : ∀ (l : List (Nat × Bool)) (row : List Int) (s0 s1 s2 s3 s4 a b c t : Sl) (w : Wd), (∀ q ∈ l, q.1 + 1 < row.length) → ∃ a' b' c', forGo (gT 3 (gsCons (gN 6) (gsCons (gN 7) (gsCons (gN 8) gsNil)))) (sSeq (sCallM 5 4 G__law_put (aCons (eVar 6) (aCons (eVar 7) (aCons (eVar 8) aNil)))) sNil) (l.map exD)
      [s0, s1, s2, s3, s4, .own (row.map D.int), a, b, c, t] w = some (.nx [s0, s1, s2, s3, s4, .own ((l.foldl put row).map D.int), a', b', c', t] w)
  | [], row, s0, s1, s2, s3, s4, a, b, c, t, w, _ => ⟨a, b, c, rfl⟩
  | (i, u) :: l, row, s0, s1, s2, s3, s4, a, b, c, t, w, h => by
    obtain ⟨a', b', c', h'⟩ := put_loop l (put row (i, u)) s0 s1 s2 s3 s4 (.d (.int i)) (.d (.int (i + 1))) (.d (.str (ordS u))) t w fun q hq => by
      rw [put_len]
      exact h q (List.mem_cons_of_mem _ hq)
    refine ⟨a', b', c', ?_⟩
    rw [List.map_cons, forGo_nx (ds1 := [s0, s1, s2, s3, s4, .own (row.map D.int), .d (.int i), .d (.int (i + 1)), .d (.str (ordS u)), t]) (ds2 := [s0, s1, s2, s3, s4, .own ((put row (i, u)).map D.int), .d (.int i), .d (.int (i + 1)), .d (.str (ordS u)), t]) (w2 := w) rfl (by simp [put_on row i u (h _ List.mem_cons_self) w]), h']
    rfl
theorem thr_fold (p : Pass) (row : List Int) (h : (∃ r u, p = .chain r u) ∨ ∃ r a s u, p = .layer r a s u) : (exl p row.length).foldl put row = thr p row := by
  rcases h with ⟨r, u, rfl⟩ | ⟨r, a, s, u, rfl⟩ <;> rfl
noncomputable abbrev bodyP : Es := (sSeq (sSetO 5 (fList (aCons (eBor 3) aNil)))
 (sSeq (sFor (iItems (eCall 2 G_exchanges (aCons (eVar 4) (aCons (eLen (aCons (eBor 3) aNil)) aNil)))) (gT 3 (gsCons (gN 6) (gsCons (gN 7) (gsCons (gN 8) gsNil)))) (sSeq (sCallM 5 4 G__law_put (aCons (eVar 6) (aCons (eVar 7) (aCons (eVar 8) aNil))))
 sNil))
 (sSeq (sIf (tAndJ (eTest (eIn (eIx (eBor 4) (eC (.int 0))) (eTup (aCons (eC (.str "chain")) (aCons (eC (.str "layer")) aNil))))) (eTest (eNe (eBor 5) (eCall 2 G__law_through (aCons (eVar 4) (aCons (eVar 3) aNil)))))) (sSeq (sRet (eC (.bl false)))
 sNil) sNil)
 sNil)))
theorem in_turn : inD false (.str "turn") (.tup [.str "chain", .str "layer"]) = some (.bl false) := rfl
theorem in_round : inD false (.str "round") (.tup [.str "chain", .str "layer"]) = some (.bl false) := rfl
theorem in_ends : inD false (.str "ends") (.tup [.str "chain", .str "layer"]) = some (.bl false) := rfl
theorem in_chain : inD false (.str "chain") (.tup [.str "chain", .str "layer"]) = some (.bl true) := rfl
theorem in_layer : inD false (.str "layer") (.tup [.str "chain", .str "layer"]) = some (.bl true) := rfl
theorem body_on (p : Pass) (hp : p.ok) (row : List Int) (hn : row.length < 10) (s0 s1 s2 z5 z6 z7 z8 z9 : Sl) (w : Wd) : ∃ a b c d, bodyP [s0, s1, s2, .d (.lst (row.map D.int)), .d (passD p), z5, z6, z7, z8, z9] w = some (.nx [s0, s1, s2, .d (.lst (row.map D.int)), .d (passD p), a, b, c, d, z9] w) := by
  obtain ⟨b, c, d, hl⟩ := put_loop (exl p row.length) row s0 s1 s2 (.d (.lst (row.map D.int))) (.d (passD p)) z6 z7 z8 z9 w (exl_in p hp row.length hn)
  have hx := exchanges_on p row.length hn hp w
  have ht := law_through_on p hp row hn w
  refine ⟨.own (((exl p row.length).foldl put row).map D.int), b, c, d, ?_⟩
  cases p with
  | turn =>
    unfold passD at hx hl ht ⊢
    simp (decide := true) [hx, hl, line_eq, in_turn]
  | round r =>
    unfold passD at hx hl ht ⊢
    simp (decide := true) [hx, hl, line_eq, in_round]
  | ends r u =>
    unfold passD at hx hl ht ⊢
    simp (decide := true) [hx, hl, line_eq, in_ends]
  | chain r u =>
    have e := thr_fold (.chain r u) row (.inl ⟨r, u, rfl⟩)
    unfold passD at hx hl ht ⊢
    simp (decide := true) [hx, hl, line_eq, in_chain, ht, e]
  | layer r a s u =>
    have e := thr_fold (.layer r a s u) row (.inr ⟨r, a, s, u, rfl⟩)
    unfold passD at hx hl ht ⊢
    simp (decide := true) [hx, hl, line_eq, in_layer, ht, e]
theorem bodies_on (row : List Int) (hn : row.length < 10) (s0 s1 s2 z9 : Sl) (w : Wd) : ∀ (ps : List Pass) (z4 z5 z6 z7 z8 : Sl), (∀ p ∈ ps, p.ok) → ∃ z a b c d, forGo (gN 4) bodyP (ps.map passD) [s0, s1, s2, .d (.lst (row.map D.int)), z4, z5, z6, z7, z8, z9] w = some (.nx [s0, s1, s2, .d (.lst (row.map D.int)), z, a, b, c, d, z9] w)
  | [], z4, z5, z6, z7, z8, _ => ⟨z4, z5, z6, z7, z8, rfl⟩
  | p :: ps, z4, z5, z6, z7, z8, h => by
    obtain ⟨a, b, c, d, e⟩ := body_on p (h p List.mem_cons_self) row hn s0 s1 s2 z5 z6 z7 z8 z9 w
    obtain ⟨z, a', b', c', d', h'⟩ := bodies_on row hn s0 s1 s2 z9 w ps (.d (passD p)) a b c d fun q hq => h q (List.mem_cons_of_mem _ hq)
    exact ⟨z, a', b', c', d', by rw [List.map_cons, forGo_nx (ds1 := [s0, s1, s2, .d (.lst (row.map D.int)), .d (passD p), z5, z6, z7, z8, z9]) rfl e, h']⟩
theorem law_on (ns : List Int) (hns : ns.length ≤ 63) : ∃ w', g_law (.no :: .d .draw :: List.replicate 8 .no) ⟨ns, 0⟩ = some (.rt (.bl true) w') := by
  obtain ⟨np, p0, p1, p2⟩ := draw_on 4 (by decide) ⟨ns, 0⟩ (Int.le_refl 0)
  have hrp := irF.on 0 np ⟨ns, 1⟩ ⟨by decide, by decide, by omega, by omega⟩
  rw [Int.sub_zero, rgD_range] at hrp
  obtain ⟨ps, w1, ep, lp, hp, c1⟩ := lcGo_draw (fun i : Nat => D.int (i : Int)) passD (tg := gN 9) (e := eCall 1 G__law_pass (aCons (eVar 1) aNil)) (ds := [.no, .d .draw, .no, .no, .no, .no, .no, .no, .no, .no]) (fun _ p => p.ok) (fun w => 0 ≤ w.c) (List.range' 0 np.toNat) ⟨ns, 1⟩ (show (0 : Int) ≤ 1 by decide) (fun i hi w hc => by
    obtain ⟨p, w', e, o, c⟩ := pass_on w hc
    exact ⟨_, p, w', rfl, by simp [e], o, c⟩)
  have hok : ∀ p ∈ ps, p.ok := fun p h => (hp p h).elim fun _ z => z.2
  have lps : ps.length ≤ 100000 := by rw [lp, List.length_range']; omega
  obtain ⟨nr, r0, r1, r2⟩ := draw_on 10 (by decide) w1 c1
  have hrr := irF.on 0 nr ⟨w1.ns, w1.c + 1⟩ ⟨by decide, by decide, by omega, by omega⟩
  rw [Int.sub_zero, rgD_range] at hrr
  obtain ⟨row, w2, er, lr, hr, c2⟩ := lcGo_draw (fun i : Nat => D.int (i : Int)) D.int (tg := gN 9) (e := eSub (eCall 2 G__law_next (aCons (eVar 1) (aCons (eC (.int 9)) aNil))) (eC (.int 4))) (ds := [.no, .d .draw, .d (.lst (ps.map passD)), .no, .no, .no, .no, .no, .no, .no]) (fun _ _ => True) (fun w => 0 ≤ w.c) (List.range' 0 nr.toNat) ⟨w1.ns, w1.c + 1⟩ (by dsimp only; omega) (fun i hi w hc => by
    obtain ⟨v, v0, v1, v2⟩ := draw_on 9 (by decide) w hc
    exact ⟨_, v - 4, ⟨w.ns, w.c + 1⟩, rfl, by simp [v2], trivial, by dsimp only; omega⟩)
  have lrow : row.length < 10 := by rw [lr, List.length_range']; omega
  have lrow' : row.length ≤ 100000 := by omega
  have hw1 := woven_on ps hok row lrow w2
  have hw2 := law_woven_on ps hok row lrow w2
  obtain ⟨z, a, b, c, d, hl⟩ := bodies_on row lrow .no (.d .draw) (.d (.lst (ps.map passD))) .no w2 ps .no .no .no .no .no hok
  refine ⟨w2, ?_⟩
  unfold g_law
  unfold bodyP at hl
  simp [p2, hrp, ep, line_eq, lps, r2, hrr, er, lrow', hw1, hw2, hl, List.replicate_succ]
end K01
namespace K01
open PySem PyProof.Rows L2 J
theorem all_mk {l : PySem.W.OpenLaw} {w : World} {K : PySem.W.Frag} {h : Heap} {mg : Str → Option Value} {fa f_is_whole f_is_word f_is_pass f_check_passes f_exchanges f_through f_woven f__law_cell_at f__law_draw f__law_number f__law_next f__law_pick f__law_pass f__law_put f__law_through f__law_woven f_law : Addr} (X : K.In h) (G : h.Ns mainGlobals mg) (hfa : mg "law" = some (.ref fa))
    {od_is_whole an_is_whole od_is_word an_is_word od_is_pass an_is_pass od_check_passes an_check_passes od_exchanges an_exchanges od_through an_through od_woven an_woven od__law_cell_at an__law_cell_at od__law_draw an__law_draw od__law_number an__law_number od__law_next an__law_next od__law_pick an__law_pick od__law_pass an__law_pass od__law_put an__law_put od__law_through an__law_through od__law_woven an__law_woven od_law an_law : Option Addr} {sl_is_whole sl_is_word sl_is_pass sl_check_passes sl_exchanges sl_through sl_woven sl__law_cell_at sl__law_draw sl__law_number sl__law_next sl__law_pick sl__law_pass sl__law_put sl__law_through sl__law_woven sl_law : Array (Option Value)} {oc_is_whole kV_is_whole dc_is_whole pm_is_whole cd_is_whole ct_is_whole oc_is_word kV_is_word dc_is_word pm_is_word cd_is_word ct_is_word oc_is_pass kV_is_pass dc_is_pass pm_is_pass cd_is_pass ct_is_pass oc_check_passes kV_check_passes dc_check_passes pm_check_passes cd_check_passes ct_check_passes oc_exchanges kV_exchanges dc_exchanges pm_exchanges cd_exchanges ct_exchanges oc_through kV_through dc_through pm_through cd_through ct_through oc_woven kV_woven dc_woven pm_woven cd_woven ct_woven oc__law_cell_at kV__law_cell_at dc__law_cell_at pm__law_cell_at cd__law_cell_at ct__law_cell_at oc__law_draw kV__law_draw dc__law_draw pm__law_draw cd__law_draw ct__law_draw oc__law_number kV__law_number dc__law_number pm__law_number cd__law_number ct__law_number oc__law_next kV__law_next dc__law_next pm__law_next cd__law_next ct__law_next oc__law_pick kV__law_pick dc__law_pick pm__law_pick cd__law_pick ct__law_pick oc__law_pass kV__law_pass dc__law_pass pm__law_pass cd__law_pass ct__law_pass oc__law_put kV__law_put dc__law_put pm__law_put cd__law_put ct__law_put oc__law_through kV__law_through dc__law_through pm__law_through cd__law_through ct__law_through oc__law_woven kV__law_woven dc__law_woven pm__law_woven cd__law_woven ct__law_woven oc_law kV_law dc_law pm_law cd_law ct_law : Value}
    (a_is_whole : PySem.W.nsIn K mainGlobals "is_whole" = some (some (.ref f_is_whole))) (l_is_whole : K.lookup f_is_whole = some ⟨oc_is_whole, od_is_whole, .func (PySem.W.fnOf "is_whole" "is_whole" (defArgs s_is_whole) (defBody s_is_whole) (defScope s_is_whole) .none kV_is_whole dc_is_whole pm_is_whole an_is_whole cd_is_whole ct_is_whole), sl_is_whole⟩) (c_is_whole : PySem.W.codeIn K cd_is_whole "is_whole" = true) (k_is_whole : PySem.W.keepIn K (.ref f_is_whole) = true)
    (a_is_word : PySem.W.nsIn K mainGlobals "is_word" = some (some (.ref f_is_word))) (l_is_word : K.lookup f_is_word = some ⟨oc_is_word, od_is_word, .func (PySem.W.fnOf "is_word" "is_word" (defArgs s_is_word) (defBody s_is_word) (defScope s_is_word) .none kV_is_word dc_is_word pm_is_word an_is_word cd_is_word ct_is_word), sl_is_word⟩) (c_is_word : PySem.W.codeIn K cd_is_word "is_word" = true) (k_is_word : PySem.W.keepIn K (.ref f_is_word) = true)
    (a_is_pass : PySem.W.nsIn K mainGlobals "is_pass" = some (some (.ref f_is_pass))) (l_is_pass : K.lookup f_is_pass = some ⟨oc_is_pass, od_is_pass, .func (PySem.W.fnOf "is_pass" "is_pass" (defArgs s_is_pass) (defBody s_is_pass) (defScope s_is_pass) .none kV_is_pass dc_is_pass pm_is_pass an_is_pass cd_is_pass ct_is_pass), sl_is_pass⟩) (c_is_pass : PySem.W.codeIn K cd_is_pass "is_pass" = true) (k_is_pass : PySem.W.keepIn K (.ref f_is_pass) = true)
    (a_check_passes : PySem.W.nsIn K mainGlobals "check_passes" = some (some (.ref f_check_passes))) (l_check_passes : K.lookup f_check_passes = some ⟨oc_check_passes, od_check_passes, .func (PySem.W.fnOf "check_passes" "check_passes" (defArgs s_check_passes) (defBody s_check_passes) (defScope s_check_passes) .none kV_check_passes dc_check_passes pm_check_passes an_check_passes cd_check_passes ct_check_passes), sl_check_passes⟩) (c_check_passes : PySem.W.codeIn K cd_check_passes "check_passes" = true) (k_check_passes : PySem.W.keepIn K (.ref f_check_passes) = true)
    (a_exchanges : PySem.W.nsIn K mainGlobals "exchanges" = some (some (.ref f_exchanges))) (l_exchanges : K.lookup f_exchanges = some ⟨oc_exchanges, od_exchanges, .func (PySem.W.fnOf "exchanges" "exchanges" (defArgs s_exchanges) (defBody s_exchanges) (defScope s_exchanges) .none kV_exchanges dc_exchanges pm_exchanges an_exchanges cd_exchanges ct_exchanges), sl_exchanges⟩) (c_exchanges : PySem.W.codeIn K cd_exchanges "exchanges" = true) (k_exchanges : PySem.W.keepIn K (.ref f_exchanges) = true)
    (a_through : PySem.W.nsIn K mainGlobals "through" = some (some (.ref f_through))) (l_through : K.lookup f_through = some ⟨oc_through, od_through, .func (PySem.W.fnOf "through" "through" (defArgs s_through) (defBody s_through) (defScope s_through) .none kV_through dc_through pm_through an_through cd_through ct_through), sl_through⟩) (c_through : PySem.W.codeIn K cd_through "through" = true) (k_through : PySem.W.keepIn K (.ref f_through) = true)
    (a_woven : PySem.W.nsIn K mainGlobals "woven" = some (some (.ref f_woven))) (l_woven : K.lookup f_woven = some ⟨oc_woven, od_woven, .func (PySem.W.fnOf "woven" "woven" (defArgs s_woven) (defBody s_woven) (defScope s_woven) .none kV_woven dc_woven pm_woven an_woven cd_woven ct_woven), sl_woven⟩) (c_woven : PySem.W.codeIn K cd_woven "woven" = true) (k_woven : PySem.W.keepIn K (.ref f_woven) = true)
    (a__law_cell_at : PySem.W.nsIn K mainGlobals "_law_cell_at" = some (some (.ref f__law_cell_at))) (l__law_cell_at : K.lookup f__law_cell_at = some ⟨oc__law_cell_at, od__law_cell_at, .func (PySem.W.fnOf "_law_cell_at" "_law_cell_at" (defArgs s__law_cell_at) (defBody s__law_cell_at) (defScope s__law_cell_at) .none kV__law_cell_at dc__law_cell_at pm__law_cell_at an__law_cell_at cd__law_cell_at ct__law_cell_at), sl__law_cell_at⟩) (c__law_cell_at : PySem.W.codeIn K cd__law_cell_at "_law_cell_at" = true) (k__law_cell_at : PySem.W.keepIn K (.ref f__law_cell_at) = true)
    (a__law_draw : PySem.W.nsIn K mainGlobals "_law_draw" = some (some (.ref f__law_draw))) (l__law_draw : K.lookup f__law_draw = some ⟨oc__law_draw, od__law_draw, .func (PySem.W.fnOf "_law_draw" "_law_draw" (defArgs s__law_draw) (defBody s__law_draw) (defScope s__law_draw) .none kV__law_draw dc__law_draw pm__law_draw an__law_draw cd__law_draw ct__law_draw), sl__law_draw⟩) (c__law_draw : PySem.W.codeIn K cd__law_draw "_law_draw" = true) (k__law_draw : PySem.W.keepIn K (.ref f__law_draw) = true)
    (a__law_number : PySem.W.nsIn K mainGlobals "_law_number" = some (some (.ref f__law_number))) (l__law_number : K.lookup f__law_number = some ⟨oc__law_number, od__law_number, .func (PySem.W.fnOf "_law_number" "_law_number" (defArgs s__law_number) (defBody s__law_number) (defScope s__law_number) .none kV__law_number dc__law_number pm__law_number an__law_number cd__law_number ct__law_number), sl__law_number⟩) (c__law_number : PySem.W.codeIn K cd__law_number "_law_number" = true) (k__law_number : PySem.W.keepIn K (.ref f__law_number) = true)
    (a__law_next : PySem.W.nsIn K mainGlobals "_law_next" = some (some (.ref f__law_next))) (l__law_next : K.lookup f__law_next = some ⟨oc__law_next, od__law_next, .func (PySem.W.fnOf "_law_next" "_law_next" (defArgs s__law_next) (defBody s__law_next) (defScope s__law_next) .none kV__law_next dc__law_next pm__law_next an__law_next cd__law_next ct__law_next), sl__law_next⟩) (c__law_next : PySem.W.codeIn K cd__law_next "_law_next" = true) (k__law_next : PySem.W.keepIn K (.ref f__law_next) = true)
    (a__law_pick : PySem.W.nsIn K mainGlobals "_law_pick" = some (some (.ref f__law_pick))) (l__law_pick : K.lookup f__law_pick = some ⟨oc__law_pick, od__law_pick, .func (PySem.W.fnOf "_law_pick" "_law_pick" (defArgs s__law_pick) (defBody s__law_pick) (defScope s__law_pick) .none kV__law_pick dc__law_pick pm__law_pick an__law_pick cd__law_pick ct__law_pick), sl__law_pick⟩) (c__law_pick : PySem.W.codeIn K cd__law_pick "_law_pick" = true) (k__law_pick : PySem.W.keepIn K (.ref f__law_pick) = true)
    (a__law_pass : PySem.W.nsIn K mainGlobals "_law_pass" = some (some (.ref f__law_pass))) (l__law_pass : K.lookup f__law_pass = some ⟨oc__law_pass, od__law_pass, .func (PySem.W.fnOf "_law_pass" "_law_pass" (defArgs s__law_pass) (defBody s__law_pass) (defScope s__law_pass) .none kV__law_pass dc__law_pass pm__law_pass an__law_pass cd__law_pass ct__law_pass), sl__law_pass⟩) (c__law_pass : PySem.W.codeIn K cd__law_pass "_law_pass" = true) (k__law_pass : PySem.W.keepIn K (.ref f__law_pass) = true)
    (a__law_put : PySem.W.nsIn K mainGlobals "_law_put" = some (some (.ref f__law_put))) (l__law_put : K.lookup f__law_put = some ⟨oc__law_put, od__law_put, .func (PySem.W.fnOf "_law_put" "_law_put" (defArgs s__law_put) (defBody s__law_put) (defScope s__law_put) .none kV__law_put dc__law_put pm__law_put an__law_put cd__law_put ct__law_put), sl__law_put⟩) (c__law_put : PySem.W.codeIn K cd__law_put "_law_put" = true) (k__law_put : PySem.W.keepIn K (.ref f__law_put) = true)
    (a__law_through : PySem.W.nsIn K mainGlobals "_law_through" = some (some (.ref f__law_through))) (l__law_through : K.lookup f__law_through = some ⟨oc__law_through, od__law_through, .func (PySem.W.fnOf "_law_through" "_law_through" (defArgs s__law_through) (defBody s__law_through) (defScope s__law_through) .none kV__law_through dc__law_through pm__law_through an__law_through cd__law_through ct__law_through), sl__law_through⟩) (c__law_through : PySem.W.codeIn K cd__law_through "_law_through" = true) (k__law_through : PySem.W.keepIn K (.ref f__law_through) = true)
    (a__law_woven : PySem.W.nsIn K mainGlobals "_law_woven" = some (some (.ref f__law_woven))) (l__law_woven : K.lookup f__law_woven = some ⟨oc__law_woven, od__law_woven, .func (PySem.W.fnOf "_law_woven" "_law_woven" (defArgs s__law_woven) (defBody s__law_woven) (defScope s__law_woven) .none kV__law_woven dc__law_woven pm__law_woven an__law_woven cd__law_woven ct__law_woven), sl__law_woven⟩) (c__law_woven : PySem.W.codeIn K cd__law_woven "_law_woven" = true) (k__law_woven : PySem.W.keepIn K (.ref f__law_woven) = true)
    (a_law : PySem.W.nsIn K mainGlobals "law" = some (some (.ref f_law))) (l_law : K.lookup f_law = some ⟨oc_law, od_law, .func (PySem.W.fnOf "law" "law" (defArgs s_law) (defBody s_law) (defScope s_law) .none kV_law dc_law pm_law an_law cd_law ct_law), sl_law⟩) (c_law : PySem.W.codeIn K cd_law "law" = true) (k_law : PySem.W.keepIn K (.ref f_law) = true)
    (z_all : PySem.W.nsIn K mainGlobals "all" = some none)
    (z_bool : PySem.W.nsIn K mainGlobals "bool" = some none)
    (z_enumerate : PySem.W.nsIn K mainGlobals "enumerate" = some none)
    (z_int : PySem.W.nsIn K mainGlobals "int" = some none)
    (z_isinstance : PySem.W.nsIn K mainGlobals "isinstance" = some none)
    (z_len : PySem.W.nsIn K mainGlobals "len" = some none)
    (z_list : PySem.W.nsIn K mainGlobals "list" = some none)
    (z_max : PySem.W.nsIn K mainGlobals "max" = some none)
    (z_min : PySem.W.nsIn K mainGlobals "min" = some none)
    (z_range : PySem.W.nsIn K mainGlobals "range" = some none)
    (z_sorted : PySem.W.nsIn K mainGlobals "sorted" = some none)
    (z_str : PySem.W.nsIn K mainGlobals "str" = some none)
    (z_tuple : PySem.W.nsIn K mainGlobals "tuple" = some none)
    {t0 : Tok} (y_MOST_STEP : PySem.W.nsIn K mainGlobals "MOST_STEP" = some (some (.int 6 t0)))
    {t2 t3 : Tok} {r1 : Addr} {ro1 : Option Addr} {rs1 : Array (Option Value)} {rn1 : Nat} (y_ORDERS : PySem.W.nsIn K mainGlobals "ORDERS" = some (some (.ref r1)))
    (u1 : K.lookup r1 = some ⟨.type "tuple", ro1, .seq #[(.str "up" t2 : Value), (.str "down" t3 : Value)] rn1, rs1⟩)
    {t5 t6 : Tok} {r4 : Addr} {ro4 : Option Addr} {rs4 : Array (Option Value)} {rn4 : Nat} (y_WAYS : PySem.W.nsIn K mainGlobals "WAYS" = some (some (.ref r4)))
    (u4 : K.lookup r4 = some ⟨.type "tuple", ro4, .seq #[(.str "right" t5 : Value), (.str "left" t6 : Value)] rn4, rs4⟩)
    : ∃ fd : FuncData, (∀ (s : Shared) (v : Value), BindsTo s fd ⟨[v], []⟩ [("_law_script", v)]) ∧ ∀ base : Heap, K.In base → base.Ns mainGlobals mg → FnOk l.prog w K mg base CX0 6 fa fd ["_law_script"] (spLaw K) := by
  have e := hfa.symm.trans (PySem.W.mg_of X G a_law)
  cases e
  have T : Txt K mg := ⟨PySem.W.mg_none_of X G z_all, PySem.W.mg_none_of X G z_bool, PySem.W.mg_none_of X G z_enumerate, PySem.W.mg_none_of X G z_int, PySem.W.mg_none_of X G z_isinstance, PySem.W.mg_none_of X G z_len, PySem.W.mg_none_of X G z_list, PySem.W.mg_none_of X G z_max, PySem.W.mg_none_of X G z_min, PySem.W.mg_none_of X G z_range, PySem.W.mg_none_of X G z_sorted, PySem.W.mg_none_of X G z_str, PySem.W.mg_none_of X G z_tuple, ⟨V.int 6, _, PySem.W.mg_of X G y_MOST_STEP, ⟨t0, rfl⟩, fun p F => rfl⟩, ⟨V.ref r1, _, PySem.W.mg_of X G y_ORDERS, rfl, fun p F => ⟨r1, [V.str "up", V.str "down"], rfl, .inr (.inr ⟨_, _, _, u1, rfl, rfl, (show (2 : Nat) ≤ sizeLine by decide), (.cons (⟨t2, rfl⟩) (.cons (⟨t3, rfl⟩) .nil))⟩), ⟨_, _, rfl, rfl, ⟨_, _, rfl, rfl, rfl⟩⟩⟩⟩, ⟨V.ref r4, _, PySem.W.mg_of X G y_WAYS, rfl, fun p F => ⟨r4, [V.str "right", V.str "left"], rfl, .inr (.inr ⟨_, _, _, u4, rfl, rfl, (show (2 : Nat) ≤ sizeLine by decide), (.cons (⟨t5, rfl⟩) (.cons (⟨t6, rfl⟩) .nil))⟩), ⟨_, _, rfl, rfl, ⟨_, _, rfl, rfl, rfl⟩⟩⟩⟩⟩
  have F_is_whole := fun_mk (st := s_is_whole) l_is_whole c_is_whole k_is_whole
  have b_is_whole := F_is_whole.binds (ps := ["thing"]) fun _ _ _ _ _ _ us hl => match us, hl with | [_], _ => rfl
  have m_is_whole := PySem.W.mg_of X G a_is_whole
  have F_is_word := fun_mk (st := s_is_word) l_is_word c_is_word k_is_word
  have b_is_word := F_is_word.binds (ps := ["thing", "words"]) fun _ _ _ _ _ _ us hl => match us, hl with | [_, _], _ => rfl
  have m_is_word := PySem.W.mg_of X G a_is_word
  have F_is_pass := fun_mk (st := s_is_pass) l_is_pass c_is_pass k_is_pass
  have b_is_pass := F_is_pass.binds (ps := ["thing"]) fun _ _ _ _ _ _ us hl => match us, hl with | [_], _ => rfl
  have m_is_pass := PySem.W.mg_of X G a_is_pass
  have F_check_passes := fun_mk (st := s_check_passes) l_check_passes c_check_passes k_check_passes
  have b_check_passes := F_check_passes.binds (ps := ["passes"]) fun _ _ _ _ _ _ us hl => match us, hl with | [_], _ => rfl
  have m_check_passes := PySem.W.mg_of X G a_check_passes
  have F_exchanges := fun_mk (st := s_exchanges) l_exchanges c_exchanges k_exchanges
  have b_exchanges := F_exchanges.binds (ps := ["one", "width"]) fun _ _ _ _ _ _ us hl => match us, hl with | [_, _], _ => rfl
  have m_exchanges := PySem.W.mg_of X G a_exchanges
  have F_through := fun_mk (st := s_through) l_through c_through k_through
  have b_through := F_through.binds (ps := ["one", "row"]) fun _ _ _ _ _ _ us hl => match us, hl with | [_, _], _ => rfl
  have m_through := PySem.W.mg_of X G a_through
  have F_woven := fun_mk (st := s_woven) l_woven c_woven k_woven
  have b_woven := F_woven.binds (ps := ["passes", "row"]) fun _ _ _ _ _ _ us hl => match us, hl with | [_, _], _ => rfl
  have m_woven := PySem.W.mg_of X G a_woven
  have F__law_cell_at := fun_mk (st := s__law_cell_at) l__law_cell_at c__law_cell_at k__law_cell_at
  have b__law_cell_at := F__law_cell_at.binds (ps := ["_law_script", "_law_k"]) fun _ _ _ _ _ _ us hl => match us, hl with | [_, _], _ => rfl
  have m__law_cell_at := PySem.W.mg_of X G a__law_cell_at
  have F__law_draw := fun_mk (st := s__law_draw) l__law_draw c__law_draw k__law_draw
  have b__law_draw := F__law_draw.binds (ps := ["_law_cell", "_law_k", "_law_bound"]) fun _ _ _ _ _ _ us hl => match us, hl with | [_, _, _], _ => rfl
  have m__law_draw := PySem.W.mg_of X G a__law_draw
  have F__law_number := fun_mk (st := s__law_number) l__law_number c__law_number k__law_number
  have b__law_number := F__law_number.binds (ps := ["_law_cell", "_law_k", "_law_bound"]) fun _ _ _ _ _ _ us hl => match us, hl with | [_, _, _], _ => rfl
  have m__law_number := PySem.W.mg_of X G a__law_number
  have F__law_next := fun_mk (st := s__law_next) l__law_next c__law_next k__law_next
  have b__law_next := F__law_next.binds (ps := ["_law_draw_here", "_law_bound"]) fun _ _ _ _ _ _ us hl => match us, hl with | [_, _], _ => rfl
  have m__law_next := PySem.W.mg_of X G a__law_next
  have F__law_pick := fun_mk (st := s__law_pick) l__law_pick c__law_pick k__law_pick
  have b__law_pick := F__law_pick.binds (ps := ["_law_draw_here", "_law_things"]) fun _ _ _ _ _ _ us hl => match us, hl with | [_, _], _ => rfl
  have m__law_pick := PySem.W.mg_of X G a__law_pick
  have F__law_pass := fun_mk (st := s__law_pass) l__law_pass c__law_pass k__law_pass
  have b__law_pass := F__law_pass.binds (ps := ["_law_draw_here"]) fun _ _ _ _ _ _ us hl => match us, hl with | [_], _ => rfl
  have m__law_pass := PySem.W.mg_of X G a__law_pass
  have F__law_put := fun_mk (st := s__law_put) l__law_put c__law_put k__law_put
  have b__law_put := F__law_put.binds (ps := ["_law_row", "_law_first", "_law_second", "_law_order"]) fun _ _ _ _ _ _ us hl => match us, hl with | [_, _, _, _], _ => rfl
  have m__law_put := PySem.W.mg_of X G a__law_put
  have F__law_through := fun_mk (st := s__law_through) l__law_through c__law_through k__law_through
  have b__law_through := F__law_through.binds (ps := ["_law_one", "_law_row"]) fun _ _ _ _ _ _ us hl => match us, hl with | [_, _], _ => rfl
  have m__law_through := PySem.W.mg_of X G a__law_through
  have F__law_woven := fun_mk (st := s__law_woven) l__law_woven c__law_woven k__law_woven
  have b__law_woven := F__law_woven.binds (ps := ["_law_passes", "_law_row"]) fun _ _ _ _ _ _ us hl => match us, hl with | [_, _], _ => rfl
  have m__law_woven := PySem.W.mg_of X G a__law_woven
  refine ⟨PySem.W.fnOf "law" "law" (defArgs s_law) (defBody s_law) (defScope s_law) .none kV_law dc_law pm_law an_law cd_law ct_law, fun s v => .of_eq rfl, fun base _ _ => ?_⟩
  have C_is_whole := j_is_whole (P := l.prog) (wd := w) (base := base) T  F_is_whole m_is_whole b_is_whole
  have C_is_word := j_is_word (P := l.prog) (wd := w) (base := base) T  F_is_word m_is_word b_is_word
  have C_is_pass := j_is_pass (P := l.prog) (wd := w) (base := base) T C_is_whole C_is_word F_is_pass m_is_pass b_is_pass
  have C_check_passes := j_check_passes (P := l.prog) (wd := w) (base := base) T C_is_pass F_check_passes m_check_passes b_check_passes
  have C_exchanges := j_exchanges (P := l.prog) (wd := w) (base := base) T  F_exchanges m_exchanges b_exchanges
  have C_through := j_through (P := l.prog) (wd := w) (base := base) T C_exchanges F_through m_through b_through
  have C_woven := j_woven (P := l.prog) (wd := w) (base := base) T C_is_whole C_check_passes C_through F_woven m_woven b_woven
  have C__law_cell_at := j__law_cell_at (P := l.prog) (wd := w) (base := base) T  F__law_cell_at m__law_cell_at b__law_cell_at
  have C__law_draw := j__law_draw (P := l.prog) (wd := w) (base := base) T  F__law_draw m__law_draw b__law_draw
  have C__law_number := j__law_number (P := l.prog) (wd := w) (base := base) T C__law_draw F__law_number m__law_number b__law_number
  have C__law_next := j__law_next (P := l.prog) (wd := w) (base := base) T C__law_cell_at C__law_number F__law_next m__law_next b__law_next
  have C__law_pick := j__law_pick (P := l.prog) (wd := w) (base := base) T C__law_next F__law_pick m__law_pick b__law_pick
  have C__law_pass := j__law_pass (P := l.prog) (wd := w) (base := base) T C__law_next C__law_pick F__law_pass m__law_pass b__law_pass
  have C__law_put := j__law_put (P := l.prog) (wd := w) (base := base) T  F__law_put m__law_put b__law_put
  have C__law_through := j__law_through (P := l.prog) (wd := w) (base := base) T C__law_put F__law_through m__law_through b__law_through
  have C__law_woven := j__law_woven (P := l.prog) (wd := w) (base := base) T C__law_through F__law_woven m__law_woven b__law_woven
  exact law_J (k := 5) (fun_mk (st := s_law) l_law c_law k_law) rfl sc_law rfl (by first | exact .inl rfl | exact .inr (.inl rfl) | exact .inr (.inr rfl)) (by first | exact .inl rfl | exact .inr rfl) (by decide) (by decide) (fun _ _ _ _ _ _ => rfl) (fun cdv A outer s H E hr => j_law_body T C_exchanges C_woven C__law_next C__law_pass C__law_put C__law_through C__law_woven cdv A outer s H E hr) law_on
theorem walk {l : PySem.W.OpenLaw} {q : Program} {loose : List Str} {XP : (Str → Option Value) → Heap → Prop} {YP : World → Heap → Prop} {d : DefRec} {K : Params → PySem.W.Frag} (hn : l.most = some 63) (hdf : d.params.defaults = [])
    (hY : ∀ (w : World) (h : Heap), YP w h → (K w.params).In h)
    (Fa : ∀ (w : World) (mg : Str → Option Value) (fa : Addr) (h : Heap), (K w.params).In h → h.Ns mainGlobals mg → mg d.name = some (.ref fa) →
      ∃ fd : FuncData, (∀ (s : Shared) (u : Value), BindsTo s fd ⟨[u], []⟩ [("_law_script", u)]) ∧ ∀ base : Heap, (K w.params).In base → base.Ns mainGlobals mg → FnOk l.prog w (K w.params) mg base CX0 6 fa fd ["_law_script"] (spLaw (K w.params))) :
    PySem.W.WalkO q loose XP YP l.row.toRowW d [] (fun f vs => PySem.call f vs) :=
  L2.walk_of (n := 63) (k := 6) (x := "_law_script") (CX := fun _ => CX0) (sp := fun w => spLaw (K w.params)) hn (by decide) hdf ⟨rfl, by decide, by decide⟩ hY Fa (fun _ _ a ns hl _ hS => ⟨a, ns, rfl, hS, hl, fun _ => rfl⟩) fun _ _ _ _ _ z => z
end K01
open PySem PySem.W PyProof.Rows in
set_option maxRecDepth 100000 in
set_option maxHeartbeats 0 in
theorem PySem.Challenge.cw_strandloom_k01_whole_passes_holds : PySem.Challenge.rw_strandloom_k01_whole_passes.Holds := by
  w_on; o_law; k_head; (case hw => w_witness2)
  k_fill
  refine K01.walk (l := PySem.Challenge.rw_strandloom_k01_whole_passes) rfl rfl (fun w h Y => PySem.W.kIn_of Y) ?G0
  case G0 =>
    intro w mg fa h KX G hmg
    refine' K01.all_mk KX G hmg ?a_is_whole ?l_is_whole ?c_is_whole ?k_is_whole ?a_is_word ?l_is_word ?c_is_word ?k_is_word ?a_is_pass ?l_is_pass ?c_is_pass ?k_is_pass ?a_check_passes ?l_check_passes ?c_check_passes ?k_check_passes ?a_exchanges ?l_exchanges ?c_exchanges ?k_exchanges ?a_through ?l_through ?c_through ?k_through ?a_woven ?l_woven ?c_woven ?k_woven ?a__law_cell_at ?l__law_cell_at ?c__law_cell_at ?k__law_cell_at ?a__law_draw ?l__law_draw ?c__law_draw ?k__law_draw ?a__law_number ?l__law_number ?c__law_number ?k__law_number ?a__law_next ?l__law_next ?c__law_next ?k__law_next ?a__law_pick ?l__law_pick ?c__law_pick ?k__law_pick ?a__law_pass ?l__law_pass ?c__law_pass ?k__law_pass ?a__law_put ?l__law_put ?c__law_put ?k__law_put ?a__law_through ?l__law_through ?c__law_through ?k__law_through ?a__law_woven ?l__law_woven ?c__law_woven ?k__law_woven ?a_law ?l_law ?c_law ?k_law ?z_all ?z_bool ?z_enumerate ?z_int ?z_isinstance ?z_len ?z_list ?z_max ?z_min ?z_range ?z_sorted ?z_str ?z_tuple ?y_MOST_STEP ?y_ORDERS ?u1 ?y_WAYS ?u4
    (case a_is_whole => k_is)
    (case l_is_whole => k_is)
    (case c_is_whole => k_is)
    (case k_is_whole => k_is)
    (case a_is_word => k_is)
    (case l_is_word => k_is)
    (case c_is_word => k_is)
    (case k_is_word => k_is)
    (case a_is_pass => k_is)
    (case l_is_pass => k_is)
    (case c_is_pass => k_is)
    (case k_is_pass => k_is)
    (case a_check_passes => k_is)
    (case l_check_passes => k_is)
    (case c_check_passes => k_is)
    (case k_check_passes => k_is)
    (case a_exchanges => k_is)
    (case l_exchanges => k_is)
    (case c_exchanges => k_is)
    (case k_exchanges => k_is)
    (case a_through => k_is)
    (case l_through => k_is)
    (case c_through => k_is)
    (case k_through => k_is)
    (case a_woven => k_is)
    (case l_woven => k_is)
    (case c_woven => k_is)
    (case k_woven => k_is)
    (case a__law_cell_at => k_is)
    (case l__law_cell_at => k_is)
    (case c__law_cell_at => k_is)
    (case k__law_cell_at => k_is)
    (case a__law_draw => k_is)
    (case l__law_draw => k_is)
    (case c__law_draw => k_is)
    (case k__law_draw => k_is)
    (case a__law_number => k_is)
    (case l__law_number => k_is)
    (case c__law_number => k_is)
    (case k__law_number => k_is)
    (case a__law_next => k_is)
    (case l__law_next => k_is)
    (case c__law_next => k_is)
    (case k__law_next => k_is)
    (case a__law_pick => k_is)
    (case l__law_pick => k_is)
    (case c__law_pick => k_is)
    (case k__law_pick => k_is)
    (case a__law_pass => k_is)
    (case l__law_pass => k_is)
    (case c__law_pass => k_is)
    (case k__law_pass => k_is)
    (case a__law_put => k_is)
    (case l__law_put => k_is)
    (case c__law_put => k_is)
    (case k__law_put => k_is)
    (case a__law_through => k_is)
    (case l__law_through => k_is)
    (case c__law_through => k_is)
    (case k__law_through => k_is)
    (case a__law_woven => k_is)
    (case l__law_woven => k_is)
    (case c__law_woven => k_is)
    (case k__law_woven => k_is)
    (case a_law => k_is)
    (case l_law => k_is)
    (case c_law => k_is)
    (case k_law => k_is)
    (case z_all => k_is)
    (case z_bool => k_is)
    (case z_enumerate => k_is)
    (case z_int => k_is)
    (case z_isinstance => k_is)
    (case z_len => k_is)
    (case z_list => k_is)
    (case z_max => k_is)
    (case z_min => k_is)
    (case z_range => k_is)
    (case z_sorted => k_is)
    (case z_str => k_is)
    (case z_tuple => k_is)
    (case y_MOST_STEP => k_is)
    (case y_ORDERS => k_is)
    (case u1 => k_is)
    (case y_WAYS => k_is)
    (case u4 => k_is)
