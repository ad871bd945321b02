import PyProof.Rows.All
import Wide.All
import OpenK.AllK
import Wide.FinOn
import HandS.ForMost
import HandS.TupAny
import HandS.TupMul
import HandS.TupLe
import HandS.Deep
import HandS.IsInst
import KE.LtData
import KE.SortData
import PyProof.RowDictHeap
import PyProof.ReprRoads
import HandS.RaiseMore
import HandS.Strs
import HandS.Rev
import PySem.Challenge.RW_soundstore_k03_places_there_and_back
set_option Elab.async false
set_option linter.all false
set_option maxRecDepth 1000000
set_option maxHeartbeats 4000000
/-! Z0: data that stand in the heap (Rp), the state of a frame (SR), steps. -/
namespace Z
open PySem PySem.Spec PyProof.Rows L2

abbrev D := PyData
def keyD : Key → D
  | .inl i => .int i
  | .inr s => .str s

mutual
/-- the value v is the datum d, in the part G of the heap -/
inductive Rp (K : PySem.W.Frag) (G : Hp) : V → D → Prop
  | non : Rp K G .non .none
  | bl (b : Bool) : Rp K G (.bl b) (.bool b)
  | int (i : Int) : Rp K G (.int i) (.int i)
  | str (x : Str) : Rp K G (.str x) (.str x)
  | lst {a : Addr} {xs : List V} {ds : List D} : G a = some (.lst xs) → Rps K G xs ds → Rp K G (.ref a) (.list ds)
  | tup {a : Addr} {xs : List V} {ds : List D} : SqT K G a xs → Rps K G xs ds → Rp K G (.ref a) (.tuple ds)
  | dic {a : Addr} {kvs : List (Key × V)} {ds : List (D × D)} : G a = some (.dK kvs) → RpK K G kvs ds → Rp K G (.ref a) (.dict ds)
inductive Rps (K : PySem.W.Frag) (G : Hp) : List V → List D → Prop
  | nil : Rps K G [] []
  | cons {v : V} {vs : List V} {d : D} {ds : List D} : Rp K G v d → Rps K G vs ds → Rps K G (v :: vs) (d :: ds)
inductive RpK (K : PySem.W.Frag) (G : Hp) : List (Key × V) → List (D × D) → Prop
  | nil : RpK K G [] []
  | cons {k : Key} {v : V} {r : List (Key × V)} {d : D} {ds : List (D × D)} : Rp K G v d → RpK K G r ds → RpK K G ((k, v) :: r) ((keyD k, d) :: ds)
end

theorem Same.sqt {K : PySem.W.Frag} {H H' : Hp} {a : Addr} {xs : List V} (e : Same H H') (h : SqT K H a xs) : SqT K H' a xs := by
  rcases h with h | h
  · rcases h with h | ⟨o, h⟩
    · exact .inl (.inl (e _ _ h))
    · exact .inl (.inr ⟨o, e _ _ h⟩)
  · exact .inr h

section
variable {K : PySem.W.Frag} {G G' : Hp}
mutual
theorem Rp.mono (e : Same G G') : ∀ {v : V} {d : D}, Rp K G v d → Rp K G' v d
  | _, _, .non => .non
  | _, _, .bl b => .bl b
  | _, _, .int i => .int i
  | _, _, .str x => .str x
  | _, _, .lst h r => .lst (e _ _ h) (Rps.mono e r)
  | _, _, .tup h r => .tup (Same.sqt e h) (Rps.mono e r)
  | _, _, .dic h r => .dic (e _ _ h) (RpK.mono e r)
theorem Rps.mono (e : Same G G') : ∀ {vs : List V} {ds : List D}, Rps K G vs ds → Rps K G' vs ds
  | _, _, .nil => .nil
  | _, _, .cons h r => .cons (Rp.mono e h) (Rps.mono e r)
theorem RpK.mono (e : Same G G') : ∀ {vs : List (Key × V)} {ds : List (D × D)}, RpK K G vs ds → RpK K G' vs ds
  | _, _, .nil => .nil
  | _, _, .cons h r => .cons (Rp.mono e h) (RpK.mono e r)
end

theorem Rps.length : ∀ {vs : List V} {ds : List D}, Rps K G vs ds → vs.length = ds.length
  | _, _, .nil => rfl
  | _, _, .cons _ r => congrArg (· + 1) r.length
theorem Rps.append : ∀ {vs ws : List V} {ds es : List D}, Rps K G vs ds → Rps K G ws es → Rps K G (vs ++ ws) (ds ++ es)
  | _, _, _, _, .nil, s => s
  | _, _, _, _, .cons h r, s => .cons h (r.append s)
theorem Rps.take : ∀ {vs : List V} {ds : List D} (n : Nat), Rps K G vs ds → Rps K G (vs.take n) (ds.take n)
  | _, _, 0, _ => by simpa using Rps.nil
  | _, _, _ + 1, .nil => by simpa using Rps.nil
  | _, _, n + 1, .cons h r => by simpa using Rps.cons h (r.take n)
theorem Rps.drop : ∀ {vs : List V} {ds : List D} (n : Nat), Rps K G vs ds → Rps K G (vs.drop n) (ds.drop n)
  | _, _, 0, r => r
  | _, _, _ + 1, .nil => .nil
  | _, _, n + 1, .cons _ r => r.drop n
theorem Rps.get : ∀ {vs : List V} {ds : List D} {i : Nat} {d : D}, Rps K G vs ds → ds[i]? = some d → ∃ v, vs[i]? = some v ∧ Rp K G v d
  | _, _, _, _, .nil, e => by simp at e
  | _, _, 0, _, .cons h _, e => by simp at e; subst e; exact ⟨_, rfl, h⟩
  | _, _, i + 1, d, .cons _ r, e => by
    obtain ⟨v, h1, h2⟩ := Rps.get (i := i) (d := d) r (by simpa using e)
    exact ⟨v, by simpa using h1, h2⟩
theorem Rps.getV : ∀ {vs : List V} {ds : List D} {i : Nat} {v : V}, Rps K G vs ds → vs[i]? = some v → ∃ d, ds[i]? = some d ∧ Rp K G v d
  | _, _, _, _, .nil, e => by simp at e
  | _, _, 0, _, .cons h _, e => by simp at e; subst e; exact ⟨_, rfl, h⟩
  | _, _, i + 1, d, .cons _ r, e => by
    obtain ⟨v, h1, h2⟩ := Rps.getV (i := i) (v := d) r (by simpa using e)
    exact ⟨v, by simpa using h1, h2⟩
theorem Rps.set : ∀ {vs : List V} {ds : List D} {v : V} {d : D} (i : Nat), Rps K G vs ds → Rp K G v d → Rps K G (vs.set i v) (ds.set i d)
  | _, _, _, _, _, .nil, _ => .nil
  | _, _, _, _, 0, .cons _ r, h => .cons h r
  | _, _, _, _, i + 1, .cons q r, h => .cons q (r.set i h)
theorem Rps.eraseIdx : ∀ {vs : List V} {ds : List D} (i : Nat), Rps K G vs ds → Rps K G (vs.eraseIdx i) (ds.eraseIdx i)
  | _, _, _, .nil => .nil
  | _, _, 0, .cons _ r => r
  | _, _, i + 1, .cons q r => .cons q (r.eraseIdx i)
theorem Rps.ints : ∀ {vs : List V} {ns : List Int}, Rps K G vs (ns.map PyData.int) → vs = ns.map V.int
  | _, [], .nil => rfl
  | _, n :: ns, .cons h r => by
    cases h
    rw [r.ints]
    rfl
theorem rps_ints : ∀ (ns : List Int), Rps K G (ns.map V.int) (ns.map PyData.int)
  | [] => .nil
  | n :: ns => .cons (.int n) (rps_ints ns)
end

/-! ### no list, no dict within -/
mutual
def noL : D → Bool
  | .list _ => false
  | .dict _ => false
  | .tuple xs => noLs xs
  | _ => true
def noLs : List D → Bool
  | [] => true
  | x :: xs => noL x && noLs xs
end
section
variable {K : PySem.W.Frag} {G G' : Hp}
mutual
/-- tuples alone are looked at -/
theorem Rp.flat (e : ∀ a xs, SqT K G a xs → SqT K G' a xs) : ∀ {v : V} {d : D}, noL d = true → Rp K G v d → Rp K G' v d
  | _, _, _, .non => .non
  | _, _, _, .bl b => .bl b
  | _, _, _, .int i => .int i
  | _, _, _, .str x => .str x
  | _, _, h0, .lst _ _ => by simp [noL] at h0
  | _, _, h0, .tup h r => .tup (e _ _ h) (Rps.flat e (by simpa [noL] using h0) r)
  | _, _, h0, .dic _ _ => by simp [noL] at h0
theorem Rps.flat (e : ∀ a xs, SqT K G a xs → SqT K G' a xs) : ∀ {vs : List V} {ds : List D}, noLs ds = true → Rps K G vs ds → Rps K G' vs ds
  | _, _, _, .nil => .nil
  | _, _, h0, .cons h r => by
    simp only [noLs, Bool.and_eq_true] at h0
    exact .cons (Rp.flat e h0.1 h) (Rps.flat e h0.2 r)
end
end

/-! ### slots -/
inductive Sl where
  /-- nothing is known -/
  | no
  /-- a datum -/
  | fz (d : D)
  /-- a list or dict of the frame's own: nobody else knows it -/
  | ow (d : D)
  /-- a law's deck -/
  | dk (cs : List Int) (m n : Int)
  /-- the script -/
  | scr (ns : List Int)

/-- a list or dict that stands at p, its items data in F -/
def OwnR (K : PySem.W.Frag) (F H : Hp) (p : Addr) : D → Prop
  | .list ds => ∃ xs, H p = some (.lst xs) ∧ Rps K F xs ds
  | .dict ds => ∃ kvs, H p = some (.dK kvs) ∧ RpK K F kvs ds
  | _ => False
def SlotR (K : PySem.W.Frag) (F H : Hp) : Sl → Option V → List Addr → Prop
  | .no, _, A => A = []
  | .fz d, v, A => A = [] ∧ ∃ x, v = some x ∧ Rp K F x d
  | .ow d, v, A => ∃ p, v = some (.ref p) ∧ A = [p] ∧ OwnR K F H p d
  | .dk cs m n, v, A => ∃ p q, v = some (.ref p) ∧ A = [p, q] ∧ H p = some (.lst [.ref q, .int m, .int n]) ∧ H q = some (.lst (cs.map V.int))
  | .scr ns, v, A => A = [] ∧ ∃ a, v = some (.ref a) ∧ SqL K F a (ns.map V.int)
def jn (o : Option (Option V)) : Option V := o.join

/-- what is fixed through a def's body -/
structure Fx where
  io : Nat → Bool
  H0 : Hp
  F0 : Hp
  σ0 : L2.St
  A0 : Nat → List Addr
/-- nothing is asked -/
def Fx.any : Fx := ⟨fun _ => false, fun _ => none, fun _ => none, [], fun _ => []⟩

structure SR (K : PySem.W.Frag) (Y : Fx) (F H : Hp) (δ : List Sl) (σ : L2.St) (A : Nat → List Addr) : Prop where
  len : δ.length = σ.length
  slot : ∀ i s, δ[i]? = some s → SlotR K F H s (jn σ[i]?) (A i)
  out : ∀ i, δ[i]? = none → A i = []
  dis : ∀ i j a, a ∈ A i → a ∈ A j → i = j
  hid : ∀ i a, a ∈ A i → F a = none
  new : ∀ i a, a ∈ A i → Y.io i = false → Y.H0 a = none
  sub : Same F H
  fix : ∀ i, Y.io i = true → σ[i]? = Y.σ0[i]? ∧ A i = Y.A0 i
  ioA : ∀ i, Y.io i = true → Y.A0 i ≠ []
  kp : ∀ a o, Y.H0 a = some o → (∀ i, Y.io i = true → a ∉ Y.A0 i) → H a = some o
  nw : ∀ a, Y.F0 a = none → F a ≠ none → Y.H0 a = none
  f0 : Same Y.F0 F

theorem OwnR.mono {K : PySem.W.Frag} {F F' H H' : Hp} {p : Addr} {d : D} (e : Same F F') (k : H' p = H p) (h : OwnR K F H p d) : OwnR K F' H' p d := by
  cases d with
  | list ds => obtain ⟨xs, h1, h2⟩ := h; exact ⟨xs, by rw [k]; exact h1, h2.mono e⟩
  | dict ds => obtain ⟨xs, h1, h2⟩ := h; exact ⟨xs, by rw [k]; exact h1, h2.mono e⟩
  | _ => exact h.elim
theorem OwnR.there {K : PySem.W.Frag} {F H : Hp} {p : Addr} {d : D} (h : OwnR K F H p d) : (∃ xs, H p = some (.lst xs)) ∨ ∃ kvs, H p = some (.dK kvs) := by
  cases d with
  | list ds => obtain ⟨xs, h1, _⟩ := h; exact .inl ⟨_, h1⟩
  | dict ds => obtain ⟨xs, h1, _⟩ := h; exact .inr ⟨_, h1⟩
  | _ => exact h.elim
theorem SlotR.there {K : PySem.W.Frag} {F H : Hp} {s : Sl} {v : Option V} {A : List Addr} (h : SlotR K F H s v A) {a : Addr} (ha : a ∈ A) : (∃ xs, H a = some (.lst xs)) ∨ ∃ kvs, H a = some (.dK kvs) := by
  cases s with
  | no => cases h; simp at ha
  | fz d => obtain ⟨e, _⟩ := h; subst e; simp at ha
  | ow d => obtain ⟨p, _, e, o⟩ := h; subst e; simp at ha; subst ha; exact o.there
  | dk cs m n =>
    obtain ⟨p, q, _, e, h1, h2⟩ := h
    subst e
    simp at ha
    rcases ha with rfl | rfl
    · exact .inl ⟨_, h1⟩
    · exact .inl ⟨_, h2⟩
  | scr ns => obtain ⟨e, _⟩ := h; subst e; simp at ha
theorem SlotR.mono {K : PySem.W.Frag} {F F' H H' : Hp} {s : Sl} {v : Option V} {A : List Addr} (e : Same F F') (k : ∀ a ∈ A, H' a = H a) (h : SlotR K F H s v A) : SlotR K F' H' s v A := by
  cases s with
  | no => exact h
  | fz d => obtain ⟨e1, x, e2, r⟩ := h; exact ⟨e1, x, e2, r.mono e⟩
  | ow d => obtain ⟨p, e1, e2, o⟩ := h; subst e2; exact ⟨p, e1, rfl, o.mono e (k p (by simp))⟩
  | dk cs m n =>
    obtain ⟨p, q, e1, e2, h1, h2⟩ := h
    subst e2
    exact ⟨p, q, e1, rfl, by rw [k p (by simp)]; exact h1, by rw [k q (by simp)]; exact h2⟩
  | scr ns => obtain ⟨e1, a, e2, r⟩ := h; exact ⟨e1, a, e2, e.seq r⟩

section
variable {K : PySem.W.Frag} {Y : Fx} {F F' F1 F2 H H' H1 H2 : Hp} {δ δ' : List Sl} {σ : L2.St} {A : Nat → List Addr} {M M' R R' : List Nat}

theorem SR.there (S : SR K Y F H δ σ A) {i : Nat} {a : Addr} (ha : a ∈ A i) : (∃ xs, H a = some (.lst xs)) ∨ ∃ kvs, H a = some (.dK kvs) := by
  cases e : δ[i]? with
  | none => rw [S.out i e] at ha; simp at ha
  | some s => exact (S.slot i s e).there ha
theorem SR.isSome (S : SR K Y F H δ σ A) {i : Nat} {a : Addr} (ha : a ∈ A i) : H a ≠ none := by
  rcases S.there ha with ⟨_, e⟩ | ⟨_, e⟩ <;> rw [e] <;> simp
theorem SR.notup (S : SR K Y F H δ σ A) {i : Nat} {a : Addr} (ha : a ∈ A i) : ∀ xs o, H a ≠ some (.tup xs) ∧ H a ≠ some (.frz o (.tup xs)) := by
  intro xs o
  rcases S.there ha with ⟨_, e⟩ | ⟨_, e⟩ <;> rw [e] <;> simp

/-- a step: F grows by what is new, the heap is kept but for what the slots of M own -/
structure Stp (A : Nat → List Addr) (M : List Nat) (F H F' H' : Hp) : Prop where
  f : Same F F'
  nw : ∀ a, F a = none → F' a ≠ none → H a = none
  kp : ∀ a o, H a = some o → (∀ i ∈ M, a ∉ A i) → H' a = some o
theorem Stp.refl : Stp A M F H F H := ⟨Same.refl _, fun _ h h' => absurd h h', fun _ _ h _ => h⟩
theorem Stp.mono (h : Stp A M F H F' H') (s : ∀ i ∈ M, i ∈ M') : Stp A M' F H F' H' := ⟨h.f, h.nw, fun a o e n => h.kp a o e fun i hi => n i (s i hi)⟩
theorem Stp.trans (S1 : SR K Y F1 H1 δ' σ A) (h : Stp A M F H F1 H1) (h' : Stp A M' F1 H1 F2 H2) : Stp A (M ++ M') F H F2 H2 := by
  refine ⟨h.f.trans h'.f, fun a e n => ?_, fun a o e n => ?_⟩
  · cases e1 : F1 a with
    | some o => exact h.nw a e (by rw [e1]; simp)
    | none =>
      have q := h'.nw a e1 n
      cases e2 : H a with
      | none => rfl
      | some o =>
        by_cases c : ∃ i ∈ M, a ∈ A i
        · obtain ⟨i, _, hi⟩ := c
          exact absurd q (S1.isSome hi)
        · rw [h.kp a o e2 fun i hi z => c ⟨i, hi, z⟩] at q
          cases q
  · exact h'.kp a o (h.kp a o e fun i hi => n i (List.mem_append_left _ hi)) fun i hi => n i (List.mem_append_right _ hi)

/-- F with what the slots of R own -/
def ex (R : List Nat) (A : Nat → List Addr) (F H : Hp) : Hp := fun a => if ∃ i ∈ R, a ∈ A i then H a else F a
theorem ex_nil : ex [] A F H = F := by
  funext a
  unfold ex
  rw [if_neg]
  simp
theorem ex_sub (S : SR K Y F H δ σ A) : Same (ex R A F H) H := fun a o e => by
  unfold ex at e
  split at e
  · exact e
  · exact S.sub a o e
theorem sub_ex (S : SR K Y F H δ σ A) : Same F (ex R A F H) := fun a o e => by
  unfold ex
  rw [if_neg]
  · exact e
  · rintro ⟨i, _, h⟩
    rw [S.hid i a h] at e
    cases e
theorem ex_mono (S : SR K Y F H δ σ A) (s : ∀ i ∈ R, i ∈ R') : Same (ex R A F H) (ex R' A F H) := fun a o e => by
  unfold ex at e ⊢
  by_cases c : ∃ i ∈ R, a ∈ A i
  · rw [if_pos c] at e
    obtain ⟨i, hi, h⟩ := c
    rw [if_pos ⟨i, s i hi, h⟩]
    exact e
  · rw [if_neg c] at e
    rw [if_neg]
    · exact e
    · rintro ⟨i, _, h⟩
      rw [S.hid i a h] at e
      cases e
theorem ex_step (S : SR K Y F H δ σ A) (S' : SR K Y F' H' δ' σ A) (h : Stp A M F H F' H') (d : ∀ i ∈ R, i ∉ M) : Same (ex R A F H) (ex R A F' H') := fun a o e => by
  unfold ex at e ⊢
  by_cases c : ∃ i ∈ R, a ∈ A i
  · rw [if_pos c] at e ⊢
    obtain ⟨i, hi, hA⟩ := c
    refine h.kp a o e fun j hj z => ?_
    have : j = i := S.dis j i a z hA
    subst this
    exact d _ hi hj
  · rw [if_neg c] at e ⊢
    exact h.f a o e
theorem ex_flat (S : SR K Y F H δ σ A) : ∀ a xs, SqT K (ex R A F H) a xs → SqT K F a xs := fun a xs h => by
  rcases h with h | h
  · refine .inl ?_
    by_cases c : ∃ i ∈ R, a ∈ A i
    · exfalso
      obtain ⟨i, hi, hA⟩ := c
      rcases h with h | ⟨o, h⟩
      · have := ex_sub S _ _ h
        exact (S.notup hA xs default).1 this
      · have := ex_sub S _ _ h
        exact (S.notup hA xs o).2 this
    · have q : ex R A F H a = F a := if_neg c
      unfold Rd at h ⊢
      rw [q] at h
      exact h
  · exact .inr h

/-- something new is laid and known to all -/
theorem SR.laid (S : SR K Y F H δ σ A) {p : Addr} {o : HO} (hp : H p = none) : SR K Y (upd F p o) (upd H p o) δ σ A := by
  have hF : F p = none := S.sub.free hp
  have sF : Same F (upd F p o) := fun b x e => by rw [upd_ne (ne_of_none e hF)]; exact e
  have nA : ∀ i a, a ∈ A i → a ≠ p := fun i a h e => by subst e; exact S.isSome h hp
  refine ⟨S.len, fun i s e => (S.slot i s e).mono sF fun a ha => upd_ne (nA i a ha), S.out, S.dis, fun i a h => by rw [upd_ne (nA i a h)]; exact S.hid i a h, S.new, fun b x e => ?_, S.fix, S.ioA, fun a x e n => ?_, fun a e n => ?_, S.f0.trans sF⟩
  · by_cases c : b = p
    · subst c; rw [upd_same] at e ⊢; exact e
    · rw [upd_ne c] at e ⊢; exact S.sub _ _ e
  · have q := S.kp a x e n
    rw [upd_ne (ne_of_none q hp)]
    exact q
  · by_cases c : a = p
    · subst c
      cases e2 : Y.H0 a with
      | none => rfl
      | some x =>
        by_cases c2 : ∃ i, Y.io i = true ∧ a ∈ Y.A0 i
        · obtain ⟨i, hi, hA⟩ := c2
          rw [← (S.fix i hi).2] at hA
          exact absurd hp (S.isSome hA)
        · have := S.kp a x e2 fun i hi z => c2 ⟨i, hi, z⟩
          rw [hp] at this
          cases this
    · rw [upd_ne c] at n
      exact S.nw a e n
theorem Stp.laid (S : SR K Y F H δ σ A) {p : Addr} {o : HO} (hp : H p = none) : Stp A M F H (upd F p o) (upd H p o) := by
  have hF : F p = none := S.sub.free hp
  refine ⟨fun b x e => by rw [upd_ne (ne_of_none e hF)]; exact e, fun a e n => ?_, fun a x e _ => by rw [upd_ne (ne_of_none e hp)]; exact e⟩
  by_cases c : a = p
  · subst c; exact hp
  · rw [upd_ne c] at n
    exact absurd e n
/-- something new is laid that is nobody's yet -/
theorem SR.laidO (S : SR K Y F H δ σ A) {p : Addr} {o : HO} (hp : H p = none) : SR K Y F (upd H p o) δ σ A := by
  have nA : ∀ i a, a ∈ A i → a ≠ p := fun i a h e => by subst e; exact S.isSome h hp
  refine ⟨S.len, fun i s e => (S.slot i s e).mono (Same.refl _) fun a ha => upd_ne (nA i a ha), S.out, S.dis, S.hid, S.new, fun b x e => ?_, S.fix, S.ioA, fun a x e n => ?_, S.nw, S.f0⟩
  · have q := S.sub b x e
    rw [upd_ne (ne_of_none q hp)]
    exact q
  · have q := S.kp a x e n
    rw [upd_ne (ne_of_none q hp)]
    exact q
theorem Stp.laidO {p : Addr} {o : HO} (hp : H p = none) : Stp A M F H F (upd H p o) :=
  ⟨Same.refl _, fun a e n => absurd e n, fun a x e _ => by rw [upd_ne (ne_of_none e hp)]; exact e⟩
/-- what is nobody's is changed -/
theorem SR.upd_free (S : SR K Y F H δ σ A) {p : Addr} {o : HO} (hF : F p = none) (nA : ∀ j, p ∉ A j) (hY : Y.H0 p = none) : SR K Y F (upd H p o) δ σ A := by
  refine ⟨S.len, fun i s e => (S.slot i s e).mono (Same.refl _) fun a ha => upd_ne fun z => nA i (by rw [← z]; exact ha), S.out, S.dis, S.hid, S.new, fun b x e => ?_, S.fix, S.ioA, fun a x e n => ?_, S.nw, S.f0⟩
  · have q := S.sub b x e
    rw [upd_ne]
    · exact q
    · intro z
      subst z
      rw [hF] at e
      cases e
  · have q := S.kp a x e n
    rw [upd_ne]
    · exact q
    · intro z
      subst z
      rw [hY] at e
      cases e
theorem ex_laid (S : SR K Y F H δ σ A) {p : Addr} {o : HO} (hp : H p = none) : (ex R A (upd F p o) (upd H p o)) p = some o := by
  unfold ex
  rw [upd_same, upd_same]
  split <;> rfl

/-- v is the datum d, known to all, or it is what a slot of R owns -/
def Vw (K : PySem.W.Frag) (F H : Hp) (A : Nat → List Addr) (R : List Nat) (v : V) (d : D) : Prop := Rp K F v d ∨ ∃ i ∈ R, ∃ p, v = .ref p ∧ A i = [p] ∧ OwnR K F H p d
def Vws (K : PySem.W.Frag) (F H : Hp) (A : Nat → List Addr) (R : List Nat) : List V → List D → Prop
  | [], [] => True
  | v :: vs, d :: ds => Vw K F H A R v d ∧ Vws K F H A R vs ds
  | _, _ => False
theorem Vw.nil {v : V} {d : D} (h : Vw K F H A [] v d) : Rp K F v d := by
  rcases h with h | ⟨i, hi, _⟩
  · exact h
  · simp at hi
theorem Vw.mono {v : V} {d : D} (h : Vw K F H A R v d) (s : ∀ i ∈ R, i ∈ R') : Vw K F H A R' v d := by
  rcases h with h | ⟨i, hi, q⟩
  · exact .inl h
  · exact .inr ⟨i, s i hi, q⟩
theorem Vw.step {v : V} {d : D} (h : Vw K F H A R v d) (S : SR K Y F H δ σ A) (st : Stp A M F H F' H') (dj : ∀ i ∈ R, i ∉ M) : Vw K F' H' A R v d := by
  rcases h with h | ⟨i, hi, p, e, eA, o⟩
  · exact .inl (h.mono st.f)
  · refine .inr ⟨i, hi, p, e, eA, o.mono st.f ?_⟩
    have hp : p ∈ A i := by rw [eA]; simp
    have na : ∀ j ∈ M, p ∉ A j := fun j hj z => by
      have : j = i := S.dis j i p z hp
      subst this
      exact dj _ hi hj
    rcases o.there with ⟨xs, q⟩ | ⟨xs, q⟩
    · rw [q, st.kp p _ q na]
    · rw [q, st.kp p _ q na]
theorem Vws.nil : ∀ {vs : List V} {ds : List D}, Vws K F H A [] vs ds → Rps K F vs ds
  | [], [], _ => .nil
  | v :: vs, d :: ds, ⟨h, r⟩ => .cons h.nil (Vws.nil r)
  | [], _ :: _, h => h.elim
  | _ :: _, [], h => h.elim
theorem Vws.mono (s : ∀ i ∈ R, i ∈ R') : ∀ {vs : List V} {ds : List D}, Vws K F H A R vs ds → Vws K F H A R' vs ds
  | [], [], _ => trivial
  | v :: vs, d :: ds, ⟨h, r⟩ => ⟨h.mono s, Vws.mono s r⟩
  | [], _ :: _, h => h.elim
  | _ :: _, [], h => h.elim
/-- a list that is read: its items are known to all -/
theorem Vw.list {v : V} {ds : List D} (S : SR K Y F H δ σ A) (h : Vw K F H A R v (.list ds)) : ∃ p xs, v = .ref p ∧ H p = some (.lst xs) ∧ Rps K F xs ds := by
  rcases h with h | ⟨i, hi, p, e, _, o⟩
  · cases h with
    | lst h1 r => exact ⟨_, _, rfl, S.sub _ _ h1, r⟩
  · obtain ⟨xs, h1, r⟩ := o
    exact ⟨p, xs, e, h1, r⟩
theorem Vw.dict {v : V} {ds : List (D × D)} (S : SR K Y F H δ σ A) (h : Vw K F H A R v (.dict ds)) : ∃ p kvs, v = .ref p ∧ H p = some (.dK kvs) ∧ RpK K F kvs ds := by
  rcases h with h | ⟨i, hi, p, e, _, o⟩
  · cases h with
    | dic h1 r => exact ⟨_, _, rfl, S.sub _ _ h1, r⟩
  · obtain ⟨xs, h1, r⟩ := o
    exact ⟨p, xs, e, h1, r⟩
/-- what is not a list, not a dict, is known to all -/
theorem Vw.rp {v : V} {d : D} (h : Vw K F H A R v d) (hl : ∀ ds, d ≠ .list ds) (hd : ∀ ds, d ≠ .dict ds) : Rp K F v d := by
  rcases h with h | ⟨i, hi, p, e, _, o⟩
  · exact h
  · cases d with
    | list ds => exact absurd rfl (hl ds)
    | dict ds => exact absurd rfl (hd ds)
    | _ => exact o.elim
theorem Vw.tup {v : V} {ds : List D} (S : SR K Y F H δ σ A) (h : Vw K F H A R v (.tuple ds)) : ∃ p xs, v = .ref p ∧ SqT K F p xs ∧ SqT K H p xs ∧ Rps K F xs ds := by
  cases h.rp (fun _ => by simp) (fun _ => by simp) with
  | tup h1 r => exact ⟨_, _, rfl, h1, Same.sqt S.sub h1, r⟩
theorem Vw.int {v : V} {i : Int} (h : Vw K F H A R v (.int i)) : v = .int i := by
  cases h.rp (fun _ => by simp) (fun _ => by simp)
  rfl
theorem Vw.str {v : V} {i : Str} (h : Vw K F H A R v (.str i)) : v = .str i := by
  cases h.rp (fun _ => by simp) (fun _ => by simp)
  rfl
theorem Vw.bl {v : V} {i : Bool} (h : Vw K F H A R v (.bool i)) : v = .bl i := by
  cases h.rp (fun _ => by simp) (fun _ => by simp)
  rfl
/-- .. in a part of the heap that holds it whole -/
theorem Vw.ex {v : V} {d : D} (S : SR K Y F H δ σ A) (h : Vw K F H A R v d) : Rp K (ex R A F H) v d := by
  rcases h with h | ⟨i, hi, p, e, eA, o⟩
  · exact h.mono (sub_ex S)
  · subst e
    have g : Z.ex R A F H p = H p := if_pos ⟨i, hi, by rw [eA]; simp⟩
    cases d with
    | list ds => obtain ⟨xs, h1, h2⟩ := o; exact .lst (by rw [g]; exact h1) (h2.mono (sub_ex S))
    | dict ds => obtain ⟨xs, h1, h2⟩ := o; exact .dic (by rw [g]; exact h1) (h2.mono (sub_ex S))
    | _ => exact o.elim

/-! ### expressions -/
/-- e gives what f says; it may hand on what the slots of R own, and changes what the slots of M own -/
def EV (X : Cx) (e : Expr) (f : List Sl → Option (D × List Sl)) (R M : List Nat) : Prop :=
  ∃ t, PE X e t ∧ ∀ (Y : Fx) (F H : Hp) (δ : List Sl) (σ : L2.St) (A : Nat → List Addr), SR X.K Y F H δ σ A → ∀ (d : D) (δ' : List Sl), f δ = some (d, δ') → ∀ Q : VK,
    (∀ v F' H', Stp A M F H F' H' → SR X.K Y F' H' δ' σ A → Vw X.K F' H' A R v d → Q v H') → t σ H Q
/-- a test -/
def TV (X : Cx) (e : Expr) (f : List Sl → Option (Bool × List Sl)) (M : List Nat) : Prop :=
  ∃ t, PT X e t ∧ ∀ (Y : Fx) (F H : Hp) (δ : List Sl) (σ : L2.St) (A : Nat → List Addr), SR X.K Y F H δ σ A → ∀ (b : Bool) (δ' : List Sl), f δ = some (b, δ') → ∀ Q : Bool → Hp → Prop,
    (∀ F' H', Stp A M F H F' H' → SR X.K Y F' H' δ' σ A → Q b H') → t σ H Q
/-- several -/
def AV (X : Cx) (es : List Expr) (f : List Sl → Option (List D × List Sl)) (R M : List Nat) : Prop :=
  ∃ t, PA X es t ∧ ∀ (Y : Fx) (F H : Hp) (δ : List Sl) (σ : L2.St) (A : Nat → List Addr), SR X.K Y F H δ σ A → ∀ (ds : List D) (δ' : List Sl), f δ = some (ds, δ') → ∀ Q : List V → Hp → Prop,
    (∀ vs F' H', Stp A M F H F' H' → SR X.K Y F' H' δ' σ A → Vws X.K F' H' A R vs ds → Q vs H') → t σ H Q
/-- a new list or dict -/
def NV (X : Cx) (e : Expr) (f : List Sl → Option (D × List Sl)) (M : List Nat) : Prop :=
  ∃ t, PE X e t ∧ ∀ (Y : Fx) (F H : Hp) (δ : List Sl) (σ : L2.St) (A : Nat → List Addr), SR X.K Y F H δ σ A → ∀ (d : D) (δ' : List Sl), f δ = some (d, δ') → ∀ Q : VK,
    (∀ p F' H', Stp A M F H F' H' → SR X.K Y F' H' δ' σ A → H p = none → F' p = none → OwnR X.K F' H' p d → Q (.ref p) H') → t σ H Q
end
end Z

/-! Z1: names, constants, operators, comparisons, tests, displays, subscripts. -/
namespace Z
open PySem PySem.Spec PyProof.Rows L2
section
variable {X : Cx} {pos : Pos}

theorem EV.weak {e : Expr} {f} {R M R' M' : List Nat} (h : EV X e f R M) (hR : ∀ i ∈ R, i ∈ R') (hM : ∀ i ∈ M, i ∈ M') : EV X e f R' M' := by
  obtain ⟨t, p, q⟩ := h
  exact ⟨t, p, fun Y F H δ σ A S d δ' e Q k => q Y F H δ σ A S d δ' e Q fun v F' H' st S' r => k v F' H' (st.mono hM) S' (r.mono hR)⟩

/-! ### names, constants -/
def fCon (d : D) : List Sl → Option (D × List Sl) := fun δ => some (d, δ)
def fVar (i : Nat) : List Sl → Option (D × List Sl) := fun δ => match δ[i]? with | some (.fz d) => some (d, δ) | _ => none
def fTmp (i : Nat) : List Sl → Option (D × List Sl) := fun δ => match δ[i]? with | some (.ow d) => some (d, δ) | _ => none
theorem ev_const {e : Expr} {v : V} {d : D} (h : PE X e (tC v)) (r : ∀ G, Rp X.K G v d) : EV X e (fCon d) [] [] := by
  refine ⟨_, h, fun Y F H δ σ A S d' δ' e Q k => ?_⟩
  cases e
  exact k _ _ _ Stp.refl S (.inl (r _))
theorem ev_int {i j} : EV X (.Constant (.int i) j pos) (fCon (.int i)) [] [] := ev_const pe_int fun _ => .int _
theorem ev_bl {i j} : EV X (.Constant (.bool i) j pos) (fCon (.bool i)) [] [] := ev_const pe_bl fun _ => .bl _
theorem ev_str {i j} : EV X (.Constant (.str i) j pos) (fCon (.str i)) [] [] := ev_const pe_str fun _ => .str _
theorem ev_non {j} : EV X (.Constant .none j pos) (fCon .none) [] [] := ev_const pe_non fun _ => .non
theorem ev_var {i : Nat} {x : Str} (hN : X.N[i]? = some x) (hv : Vis X.env.scope x) (h1 : (x == ("__debug__" : Str)) = false := by decide) (h2 : (x == ("__classdict__" : Str)) = false := by decide) : EV X (.Name x pos) (fVar i) [] [] := by
  refine ⟨_, pe_var hN hv h1 h2, fun Y F H δ σ A S d δ' e Q k => ?_⟩
  unfold fVar at e
  split at e
  · rename_i d0 hd
    cases e
    obtain ⟨_, v, e2, r⟩ := S.slot i _ hd
    refine ⟨v, ?_, k v F H Stp.refl S (.inl r)⟩
    cases e3 : σ[i]? with
    | none => rw [e3] at e2; cases e2
    | some o => rw [e3] at e2; cases (show o = some v from e2); rfl
  · cases e
theorem jn_some {σ : L2.St} {i : Nat} {v : V} (h : jn σ[i]? = some v) : σ[i]? = some (some v) := by
  cases e3 : σ[i]? with
  | none => rw [e3] at h; cases h
  | some o => rw [e3] at h; cases (show o = some v from h); rfl
theorem own_rp {K : PySem.W.Frag} {F G H : Hp} {p : Addr} {d : D} (o : OwnR K F H p d) (s : Same F G) (g : G p = H p) : Rp K G (.ref p) d := by
  cases d with
  | list ds => obtain ⟨xs, h1, h2⟩ := o; exact .lst (by rw [g]; exact h1) (h2.mono s)
  | dict ds => obtain ⟨xs, h1, h2⟩ := o; exact .dic (by rw [g]; exact h1) (h2.mono s)
  | _ => exact o.elim
theorem ev_tmp {i : Nat} {x : Str} (hN : X.N[i]? = some x) (hv : Vis X.env.scope x) (h1 : (x == ("__debug__" : Str)) = false := by decide) (h2 : (x == ("__classdict__" : Str)) = false := by decide) : EV X (.Name x pos) (fTmp i) [i] [] := by
  refine ⟨_, pe_var hN hv h1 h2, fun Y F H δ σ A S d δ' e Q k => ?_⟩
  unfold fTmp at e
  split at e
  · rename_i d0 hd
    cases e
    obtain ⟨p, e2, e3, o⟩ := S.slot i _ hd
    exact ⟨_, jn_some e2, k _ F H Stp.refl S (.inr ⟨i, by simp, p, rfl, e3, o⟩)⟩
  · cases e

/-! ### two-place operations by data -/
/-- the operation with reading r does g, on data -/
def OpS (X : Cx) (r : R2) (g : D → D → Option D) : Prop :=
  ∀ (Y : Fx) (F H : Hp) (δ : List Sl) (σ : L2.St) (A : Nat → List Addr) (R : List Nat) (x y : V) (d e z : D), SR X.K Y F H δ σ A → Vw X.K F H A R x d → Vw X.K F H A R y e → g d e = some z →
    ∀ Q : VK, (∀ v F' H', Stp A [] F H F' H' → SR X.K Y F' H' δ σ A → Rp X.K F' v z → Q v H') → r x y H Q
/-- .. makes a new list -/
def OpN (X : Cx) (r : R2) (g : D → D → Option D) : Prop :=
  ∀ (Y : Fx) (F H : Hp) (δ : List Sl) (σ : L2.St) (A : Nat → List Addr) (R : List Nat) (x y : V) (d e z : D), SR X.K Y F H δ σ A → Vw X.K F H A R x d → Vw X.K F H A R y e → g d e = some z →
    ∀ Q : VK, (∀ p F' H', Stp A [] F H F' H' → SR X.K Y F' H' δ σ A → H p = none → F' p = none → OwnR X.K F' H' p z → Q (.ref p) H') → r x y H Q
def f2 (g : D → D → Option D) (fa fb : List Sl → Option (D × List Sl)) : List Sl → Option (D × List Sl) := fun δ => (fa δ).bind fun p => (fb p.2).bind fun q => (g p.1 q.1).map fun z => (z, q.2)
section
variable {a b c : Expr} {fa fb fc : List Sl → Option (D × List Sl)} {Ra Rb Rc Ma Mb Mc : List Nat} {g : D → D → Option D} {r : R2}
theorem f2_some {fa fb : List Sl → Option (D × List Sl)} {δ δ' : List Sl} {z : D} (h : f2 g fa fb δ = some (z, δ')) : ∃ d δ1 e, fa δ = some (d, δ1) ∧ fb δ1 = some (e, δ') ∧ g d e = some z := by
  unfold f2 at h
  cases e1 : fa δ with
  | none => rw [e1] at h; cases h
  | some p =>
    obtain ⟨d, δ1⟩ := p
    rw [e1] at h
    simp only [Option.bind_some] at h
    cases e2 : fb δ1 with
    | none => rw [e2] at h; cases h
    | some q =>
      obtain ⟨e, δ2⟩ := q
      rw [e2] at h
      simp only [Option.bind_some] at h
      cases e3 : g d e with
      | none => rw [e3] at h; cases h
      | some w =>
        rw [e3] at h
        cases h
        exact ⟨d, δ1, e, rfl, e2, e3⟩
/-- both operands, then the operation -/
theorem two (ha : EV X a fa Ra Ma) (hb : EV X b fb Rb Mb) (dj : ∀ i ∈ Ra, i ∉ Mb := by decide) : ∃ ta tb, PE X a ta ∧ PE X b tb ∧
    ∀ (Y : Fx) (F H : Hp) (δ : List Sl) (σ : L2.St) (A : Nat → List Addr), SR X.K Y F H δ σ A → ∀ (z : D) (δ' : List Sl), f2 g fa fb δ = some (z, δ') → ∀ Q : V → V → Hp → Prop,
      (∀ x y d e F' H', Stp A (Ma ++ Mb) F H F' H' → SR X.K Y F' H' δ' σ A → Vw X.K F' H' A (Ra ++ Rb) x d → Vw X.K F' H' A (Ra ++ Rb) y e → g d e = some z → Q x y H') → ta σ H fun x H1 => tb σ H1 fun y H2 => Q x y H2 := by
  obtain ⟨ta, pa, qa⟩ := ha
  obtain ⟨tb, pb, qb⟩ := hb
  refine ⟨ta, tb, pa, pb, fun Y F H δ σ A S z δ' e Q k => ?_⟩
  obtain ⟨d, δ1, e', e1, e2, e3⟩ := f2_some e
  refine qa Y F H δ σ A S d δ1 e1 _ fun x F1 H1 st1 S1 r1 => ?_
  refine qb Y F1 H1 δ1 σ A S1 e' δ' e2 _ fun y F2 H2 st2 S2 r2 => ?_
  refine k x y d e' F2 H2 (st1.trans S1 st2) S2 ?_ (r2.mono fun i hi => List.mem_append_right _ hi) e3
  exact (r1.step S1 st2 dj).mono fun i hi => List.mem_append_left _ hi
theorem stp_nil {A : Nat → List Addr} {M : List Nat} {F H F1 H1 F2 H2 : Hp} {K : PySem.W.Frag} {Y : Fx} {δ : List Sl} {σ : L2.St} (S1 : SR K Y F1 H1 δ σ A) (h : Stp A M F H F1 H1) (h' : Stp A [] F1 H1 F2 H2) : Stp A M F H F2 H2 := by
  have := h.trans S1 h'
  rwa [List.append_nil] at this
theorem ev_op {op : Operator} (ho : OpR X (binaryOp op) r) (hs : OpS X r g) (ha : EV X a fa Ra Ma) (hb : EV X b fb Rb Mb) (dj : ∀ i ∈ Ra, i ∉ Mb := by decide) : EV X (.BinOp a op b pos) (f2 g fa fb) [] (Ma ++ Mb) := by
  obtain ⟨ta, tb, pa, pb, q⟩ := two (g := g) ha hb dj
  refine ⟨_, pe_op ho pa pb, fun Y F H δ σ A S z δ' e Q k => ?_⟩
  refine q Y F H δ σ A S z δ' e _ fun x y d e F1 H1 st S1 r1 r2 hg => ?_
  refine hs Y F1 H1 δ' σ A _ x y d e z S1 r1 r2 hg Q fun v F2 H2 st2 S2 r3 => ?_
  exact k v F2 H2 (stp_nil S1 st st2) S2 (.inl r3)
theorem nv_op {op : Operator} (ho : OpR X (binaryOp op) r) (hs : OpN X r g) (ha : EV X a fa Ra Ma) (hb : EV X b fb Rb Mb) (dj : ∀ i ∈ Ra, i ∉ Mb := by decide) : NV X (.BinOp a op b pos) (f2 g fa fb) (Ma ++ Mb) := by
  obtain ⟨ta, tb, pa, pb, q⟩ := two (g := g) ha hb dj
  refine ⟨_, pe_op ho pa pb, fun Y F H δ σ A S z δ' e Q k => ?_⟩
  refine q Y F H δ σ A S z δ' e _ fun x y d e F1 H1 st S1 r1 r2 hg => ?_
  refine hs Y F1 H1 δ' σ A _ x y d e z S1 r1 r2 hg Q fun v F2 H2 st2 S2 n f3 r3 => ?_
  refine k v F2 H2 (stp_nil S1 st st2) S2 ?_ f3 r3
  cases e5 : H v with
  | none => rfl
  | some o =>
    by_cases c : ∃ i, v ∈ A i
    · obtain ⟨i, hi⟩ := c
      exact absurd n (S1.isSome hi)
    · have := st.kp v o e5 fun i _ hi => c ⟨i, hi⟩
      rw [n] at this
      cases this
/-- a comparison -/
theorem ev_cmp {op : CmpOp} (ho : OpR X (compareOp op) r) (hs : OpS X r g) (ha : EV X a fa Ra Ma) (hb : EV X b fb Rb Mb) (dj : ∀ i ∈ Ra, i ∉ Mb := by decide) (hm : behindInMarks op b = false := by rfl) : EV X (.Compare a [op] [b] pos) (f2 g fa fb) [] (Ma ++ Mb) := by
  obtain ⟨ta, tb, pa, pb, q⟩ := two (g := g) ha hb dj
  refine ⟨_, pe_cmpR ho pa pb hm, fun Y F H δ σ A S z δ' e Q k => ?_⟩
  refine q Y F H δ σ A S z δ' e _ fun x y d e F1 H1 st S1 r1 r2 hg => ?_
  refine hs Y F1 H1 δ' σ A _ x y d e z S1 r1 r2 hg Q fun v F2 H2 st2 S2 r3 => ?_
  exact k v F2 H2 (stp_nil S1 st st2) S2 (.inl r3)
/-- what is True or False, as a Bool -/
def toB (o : Option (D × List Sl)) : Option (Bool × List Sl) := o.bind fun p => match p.1 with | .bool b => some (b, p.2) | _ => none
theorem toB_some {o : Option (D × List Sl)} {b : Bool} {δ : List Sl} (h : toB o = some (b, δ)) : o = some (.bool b, δ) := by
  unfold toB at h
  cases o with
  | none => cases h
  | some p =>
    obtain ⟨d, δ1⟩ := p
    cases d <;> simp at h
    obtain ⟨rfl, rfl⟩ := h
    rfl
theorem rp_bool {K : PySem.W.Frag} {G : Hp} {v : V} {b : Bool} (h : Rp K G v (.bool b)) : v = .bl b := by
  cases h
  rfl
theorem tv_cmp {op : CmpOp} (ho : OpR X (compareOp op) r) (hs : OpS X r g) (ha : EV X a fa Ra Ma) (hb : EV X b fb Rb Mb) (dj : ∀ i ∈ Ra, i ∉ Mb := by decide) (hm : behindInMarks op b = false := by rfl) : TV X (.Compare a [op] [b] pos) (fun δ => toB (f2 g fa fb δ)) (Ma ++ Mb) := by
  obtain ⟨ta, tb, pa, pb, q⟩ := two (g := g) ha hb dj
  refine ⟨_, pt_cmpR ho pa pb hm, fun Y F H δ σ A S z δ' e Q k => ?_⟩
  refine q Y F H δ σ A S _ δ' (toB_some e) _ fun x y d e F1 H1 st S1 r1 r2 hg => ?_
  refine hs Y F1 H1 δ' σ A _ x y d e _ S1 r1 r2 hg _ fun v F2 H2 st2 S2 r3 => ?_
  exact ⟨z, rp_bool r3, k F2 H2 (stp_nil S1 st st2) S2⟩
/-- an expression that is True or False, as a test -/
theorem tv_val (h : EV X a fa Ra Ma) (he : ∀ whole, isTrue a X.env whole = (do let v ← whole; standAt a.pos; holding [v] (truthy v)) := by intro _; rfl) : TV X a (fun δ => toB (fa δ)) Ma := by
  obtain ⟨t, p, q⟩ := h
  refine ⟨_, pt_val p he, fun Y F H δ σ A S z δ' e Q k => ?_⟩
  refine q Y F H δ σ A S _ δ' (toB_some e) _ fun v F1 H1 st S1 r1 => ?_
  exact ⟨z, r1.bl, k F1 H1 st S1⟩

/-! ### a op b op c -/
def fChain (g g' : D → D → Option D) (fa fb fc : List Sl → Option (D × List Sl)) : List Sl → Option (D × List Sl) := fun δ => (fa δ).bind fun p => (fb p.2).bind fun q => (g p.1 q.1).bind fun z => match z with
  | .bool true => (fc q.2).bind fun u => (g' q.1 u.1).map fun z' => (z', u.2)
  | .bool false => some (.bool false, q.2)
  | _ => none
theorem ev_chain {op op' : CmpOp} {r r' : R2} {g g' : D → D → Option D} (ho : OpR X (compareOp op) r) (hs : OpS X r g) (ho' : OpR X (compareOp op') r') (hs' : OpS X r' g') (ha : EV X a fa Ra Ma) (hb : EV X b fb Rb Mb) (hc : EV X c fc Rc Mc)
    (dj : ∀ i ∈ Ra, i ∉ Mb := by decide) (dj2 : ∀ i ∈ Rb, i ∉ Mc := by decide) (hm : lastMarks [op, op'] [b, c] = false := by rfl) : EV X (.Compare a [op, op'] [b, c] pos) (fChain g g' fa fb fc) [] (Ma ++ Mb ++ Mc) := by
  obtain ⟨ta, pa, qa⟩ := ha
  obtain ⟨tb, pb, qb⟩ := hb
  obtain ⟨tc, pc, qc⟩ := hc
  refine ⟨_, pe_chain ho ho' pa pb pc hm, fun Y F H δ σ A S z δ' e Q k => ?_⟩
  unfold fChain at e
  cases e1 : fa δ with
  | none => rw [e1] at e; cases e
  | some p =>
    obtain ⟨d, δ1⟩ := p
    rw [e1] at e
    simp only [Option.bind_some] at e
    cases e2 : fb δ1 with
    | none => rw [e2] at e; cases e
    | some p =>
      obtain ⟨d2, δ2⟩ := p
      rw [e2] at e
      simp only [Option.bind_some] at e
      cases e3 : g d d2 with
      | none => rw [e3] at e; cases e
      | some w =>
        rw [e3] at e
        simp only [Option.bind_some] at e
        refine qa Y F H δ σ A S d δ1 e1 _ fun x F1 H1 st1 S1 r1 => ?_
        refine qb Y F1 H1 δ1 σ A S1 d2 δ2 e2 _ fun y F2 H2 st2 S2 r2 => ?_
        have r1' : Vw X.K F2 H2 A (Ra ++ Rb) x d := (r1.step S1 st2 dj).mono fun i hi => List.mem_append_left _ hi
        have r2' : Vw X.K F2 H2 A (Ra ++ Rb) y d2 := r2.mono fun i hi => List.mem_append_right _ hi
        refine hs Y F2 H2 δ2 σ A _ x y d d2 w S2 r1' r2' e3 _ fun v F3 H3 st3 S3 r3 => ?_
        have st : Stp A (Ma ++ Mb) F H F3 H3 := stp_nil S2 (st1.trans S1 st2) st3
        cases w with
        | bool k' =>
          refine ⟨k', rp_bool r3, ?_⟩
          cases k' with
          | false =>
            cases e
            rw [if_neg Bool.false_ne_true]
            exact k _ F3 H3 (st.mono fun i hi => List.mem_append_left _ hi) S3 (.inl (.bl _))
          | true =>
            rw [if_pos rfl]
            simp only at e
            cases e4 : fc δ2 with
            | none => rw [e4] at e; cases e
            | some p =>
              obtain ⟨d3, δ3⟩ := p
              rw [e4] at e
              simp only [Option.bind_some] at e
              cases e5 : g' d2 d3 with
              | none => rw [e5] at e; cases e
              | some w' =>
                rw [e5] at e
                cases e
                refine qc Y F3 H3 δ2 σ A S3 d3 _ e4 _ fun w1 F4 H4 st4 S4 r4 => ?_
                have r2'' : Vw X.K F4 H4 A (Rb ++ Rc) y d2 := ((r2.step S2 st3 (by simp)).step S3 st4 dj2).mono fun i hi => List.mem_append_left _ hi
                have r4' : Vw X.K F4 H4 A (Rb ++ Rc) w1 d3 := r4.mono fun i hi => List.mem_append_right _ hi
                refine hs' Y F4 H4 δ' σ A _ y w1 d2 d3 _ S4 r2'' r4' e5 Q fun v F5 H5 st5 S5 r5 => ?_
                exact k v F5 H5 (stp_nil S4 (st.trans S3 st4) st5) S5 (.inl r5)
        | _ => cases e
theorem tv_chain {op op' : CmpOp} {r r' : R2} {g g' : D → D → Option D} (ho : OpR X (compareOp op) r) (hs : OpS X r g) (ho' : OpR X (compareOp op') r') (hs' : OpS X r' g') (ha : EV X a fa Ra Ma) (hb : EV X b fb Rb Mb) (hc : EV X c fc Rc Mc)
    (dj : ∀ i ∈ Ra, i ∉ Mb := by decide) (dj2 : ∀ i ∈ Rb, i ∉ Mc := by decide) (hm : lastMarks [op, op'] [b, c] = false := by rfl) : TV X (.Compare a [op, op'] [b, c] pos) (fun δ => toB (fChain g g' fa fb fc δ)) (Ma ++ Mb ++ Mc) := by
  obtain ⟨ta, pa, qa⟩ := ha
  obtain ⟨tb, pb, qb⟩ := hb
  obtain ⟨tc, pc, qc⟩ := hc
  refine ⟨_, pt_chain ho ho' pa pb pc hm, fun Y F H δ σ A S z δ' e Q k => ?_⟩
  have e := toB_some e
  unfold fChain at e
  cases e1 : fa δ with
  | none => rw [e1] at e; cases e
  | some p =>
    obtain ⟨d, δ1⟩ := p
    rw [e1] at e
    simp only [Option.bind_some] at e
    cases e2 : fb δ1 with
    | none => rw [e2] at e; cases e
    | some p =>
      obtain ⟨d2, δ2⟩ := p
      rw [e2] at e
      simp only [Option.bind_some] at e
      cases e3 : g d d2 with
      | none => rw [e3] at e; cases e
      | some w =>
        rw [e3] at e
        simp only [Option.bind_some] at e
        refine qa Y F H δ σ A S d δ1 e1 _ fun x F1 H1 st1 S1 r1 => ?_
        refine qb Y F1 H1 δ1 σ A S1 d2 δ2 e2 _ fun y F2 H2 st2 S2 r2 => ?_
        have r1' : Vw X.K F2 H2 A (Ra ++ Rb) x d := (r1.step S1 st2 dj).mono fun i hi => List.mem_append_left _ hi
        have r2' : Vw X.K F2 H2 A (Ra ++ Rb) y d2 := r2.mono fun i hi => List.mem_append_right _ hi
        refine hs Y F2 H2 δ2 σ A _ x y d d2 w S2 r1' r2' e3 _ fun v F3 H3 st3 S3 r3 => ?_
        have st : Stp A (Ma ++ Mb) F H F3 H3 := stp_nil S2 (st1.trans S1 st2) st3
        cases w with
        | bool k' =>
          refine ⟨k', rp_bool r3, ?_⟩
          cases k' with
          | false =>
            cases e
            rw [if_neg Bool.false_ne_true]
            exact ⟨false, rfl, k F3 H3 (st.mono fun i hi => List.mem_append_left _ hi) S3⟩
          | true =>
            rw [if_pos rfl]
            simp only at e
            cases e4 : fc δ2 with
            | none => rw [e4] at e; cases e
            | some p =>
              obtain ⟨d3, δ3⟩ := p
              rw [e4] at e
              simp only [Option.bind_some] at e
              cases e5 : g' d2 d3 with
              | none => rw [e5] at e; cases e
              | some w' =>
                rw [e5] at e
                cases e
                refine qc Y F3 H3 δ2 σ A S3 d3 _ e4 _ fun w1 F4 H4 st4 S4 r4 => ?_
                have r2'' : Vw X.K F4 H4 A (Rb ++ Rc) y d2 := ((r2.step S2 st3 (by simp)).step S3 st4 dj2).mono fun i hi => List.mem_append_left _ hi
                have r4' : Vw X.K F4 H4 A (Rb ++ Rc) w1 d3 := r4.mono fun i hi => List.mem_append_right _ hi
                refine hs' Y F4 H4 δ' σ A _ y w1 d2 d3 _ S4 r2'' r4' e5 _ fun v F5 H5 st5 S5 r5 => ?_
                exact ⟨z, rp_bool r5, k F5 H5 (stp_nil S4 (st.trans S3 st4) st5) S5⟩
        | _ => cases e

/-! ### and, or, not, if -/
variable {ga gb : List Sl → Option (Bool × List Sl)} {rest : List Expr}
def gAnd (ga gb : List Sl → Option (Bool × List Sl)) : List Sl → Option (Bool × List Sl) := fun δ => (ga δ).bind fun p => match p.1 with | true => gb p.2 | false => some (false, p.2)
def gOr (ga gb : List Sl → Option (Bool × List Sl)) : List Sl → Option (Bool × List Sl) := fun δ => (ga δ).bind fun p => match p.1 with | true => some (true, p.2) | false => gb p.2
def gNot (ga : List Sl → Option (Bool × List Sl)) : List Sl → Option (Bool × List Sl) := fun δ => (ga δ).map fun p => (!p.1, p.2)
/-- a test whatever its whole is -/
def WV (X : Cx) (e : Expr) (f : List Sl → Option (Bool × List Sl)) (M : List Nat) : Prop :=
  ∃ t, PW X e t ∧ ∀ (Y : Fx) (F H : Hp) (δ : List Sl) (σ : L2.St) (A : Nat → List Addr), SR X.K Y F H δ σ A → ∀ (b : Bool) (δ' : List Sl), f δ = some (b, δ') → ∀ Q : Bool → Hp → Prop,
    (∀ F' H', Stp A M F H F' H' → SR X.K Y F' H' δ' σ A → Q b H') → t σ H Q
theorem WV.tv {e : Expr} {f M} (h : WV X e f M) : TV X e f M := by
  obtain ⟨t, p, q⟩ := h
  exact ⟨t, p.pt, q⟩
theorem wv_and1 (ha : TV X a ga Ma) : WV X (.BoolOp .And [a] pos) ga Ma := by
  obtain ⟨t, p, q⟩ := ha
  exact ⟨t, pw_and1 p, q⟩
theorem wv_or1 (ha : TV X a ga Ma) : WV X (.BoolOp .Or [a] pos) ga Ma := by
  obtain ⟨t, p, q⟩ := ha
  exact ⟨t, pw_or1 p, q⟩
theorem wv_and (ha : TV X a ga Ma) (hb : WV X (.BoolOp .And (b :: rest) pos) gb Mb) : WV X (.BoolOp .And (a :: b :: rest) pos) (gAnd ga gb) (Ma ++ Mb) := by
  obtain ⟨ta, pa, qa⟩ := ha
  obtain ⟨tb, pb, qb⟩ := hb
  refine ⟨_, pw_and pa pb, fun Y F H δ σ A S z δ' e Q k => ?_⟩
  unfold gAnd at e
  cases e1 : ga δ with
  | none => rw [e1] at e; cases e
  | some p =>
    obtain ⟨b1, δ1⟩ := p
    rw [e1] at e
    refine qa Y F H δ σ A S b1 δ1 e1 _ fun F1 H1 st1 S1 => ?_
    cases b1 with
    | true => exact iteT (qb Y F1 H1 δ1 σ A S1 z δ' e Q fun F2 H2 st2 S2 => k F2 H2 (st1.trans S1 st2) S2)
    | false =>
      cases e
      exact iteF (k F1 H1 (st1.mono fun i hi => List.mem_append_left _ hi) S1)
theorem wv_or (ha : TV X a ga Ma) (hb : WV X (.BoolOp .Or (b :: rest) pos) gb Mb) : WV X (.BoolOp .Or (a :: b :: rest) pos) (gOr ga gb) (Ma ++ Mb) := by
  obtain ⟨ta, pa, qa⟩ := ha
  obtain ⟨tb, pb, qb⟩ := hb
  refine ⟨_, pw_or pa pb, fun Y F H δ σ A S z δ' e Q k => ?_⟩
  unfold gOr at e
  cases e1 : ga δ with
  | none => rw [e1] at e; cases e
  | some p =>
    obtain ⟨b1, δ1⟩ := p
    rw [e1] at e
    refine qa Y F H δ σ A S b1 δ1 e1 _ fun F1 H1 st1 S1 => ?_
    cases b1 with
    | false => exact iteF (qb Y F1 H1 δ1 σ A S1 z δ' e Q fun F2 H2 st2 S2 => k F2 H2 (st1.trans S1 st2) S2)
    | true =>
      cases e
      exact iteT (k F1 H1 (st1.mono fun i hi => List.mem_append_left _ hi) S1)
theorem tv_not (ha : TV X a ga Ma) : TV X (.UnaryOp .Not a pos) (gNot ga) Ma := by
  obtain ⟨t, p, q⟩ := ha
  refine ⟨_, pt_not p, fun Y F H δ σ A S z δ' e Q k => ?_⟩
  unfold gNot at e
  cases e1 : ga δ with
  | none => rw [e1] at e; cases e
  | some p =>
    obtain ⟨b1, δ1⟩ := p
    rw [e1] at e
    cases e
    exact q Y F H δ σ A S b1 δ1 e1 _ fun F1 H1 st1 S1 => k F1 H1 st1 S1
/-- as values: the left ones True or False -/
def fAnd (fa fb : List Sl → Option (D × List Sl)) : List Sl → Option (D × List Sl) := fun δ => (toB (fa δ)).bind fun p => match p.1 with | true => fb p.2 | false => some (.bool false, p.2)
def fOr (fa fb : List Sl → Option (D × List Sl)) : List Sl → Option (D × List Sl) := fun δ => (toB (fa δ)).bind fun p => match p.1 with | true => some (.bool true, p.2) | false => fb p.2
def fNot (fa : List Sl → Option (D × List Sl)) : List Sl → Option (D × List Sl) := fun δ => (toB (fa δ)).map fun p => (.bool (!p.1), p.2)
theorem ev_and1 (ha : EV X a fa Ra Ma) : EV X (.BoolOp .And [a] pos) fa Ra Ma := by
  obtain ⟨t, p, q⟩ := ha
  exact ⟨t, pe_one p, q⟩
theorem ev_or1 (ha : EV X a fa Ra Ma) : EV X (.BoolOp .Or [a] pos) fa Ra Ma := by
  obtain ⟨t, p, q⟩ := ha
  exact ⟨t, pe_one p, q⟩
theorem ev_and (ha : EV X a fa Ra Ma) (hb : EV X (.BoolOp .And (b :: rest) pos) fb Rb Mb) : EV X (.BoolOp .And (a :: b :: rest) pos) (fAnd fa fb) Rb (Ma ++ Mb) := by
  obtain ⟨ta, pa, qa⟩ := ha
  obtain ⟨tb, pb, qb⟩ := hb
  refine ⟨_, pe_and pa pb, fun Y F H δ σ A S z δ' e Q k => ?_⟩
  unfold fAnd at e
  cases e1 : toB (fa δ) with
  | none => rw [e1] at e; cases e
  | some p =>
    obtain ⟨b1, δ1⟩ := p
    rw [e1] at e
    refine qa Y F H δ σ A S _ δ1 (toB_some e1) _ fun v F1 H1 st1 S1 r1 => ?_
    refine ⟨b1, r1.bl, ?_⟩
    cases b1 with
    | true => exact iteT (qb Y F1 H1 δ1 σ A S1 z δ' e Q fun v F2 H2 st2 S2 r2 => k v F2 H2 (st1.trans S1 st2) S2 r2)
    | false =>
      cases e
      exact iteF (k _ F1 H1 (st1.mono fun i hi => List.mem_append_left _ hi) S1 (.inl (.bl _)))
theorem ev_or (ha : EV X a fa Ra Ma) (hb : EV X (.BoolOp .Or (b :: rest) pos) fb Rb Mb) : EV X (.BoolOp .Or (a :: b :: rest) pos) (fOr fa fb) Rb (Ma ++ Mb) := by
  obtain ⟨ta, pa, qa⟩ := ha
  obtain ⟨tb, pb, qb⟩ := hb
  refine ⟨_, pe_or pa pb, fun Y F H δ σ A S z δ' e Q k => ?_⟩
  unfold fOr at e
  cases e1 : toB (fa δ) with
  | none => rw [e1] at e; cases e
  | some p =>
    obtain ⟨b1, δ1⟩ := p
    rw [e1] at e
    refine qa Y F H δ σ A S _ δ1 (toB_some e1) _ fun v F1 H1 st1 S1 r1 => ?_
    refine ⟨b1, r1.bl, ?_⟩
    cases b1 with
    | false => exact iteF (qb Y F1 H1 δ1 σ A S1 z δ' e Q fun v F2 H2 st2 S2 r2 => k v F2 H2 (st1.trans S1 st2) S2 r2)
    | true =>
      cases e
      exact iteT (k _ F1 H1 (st1.mono fun i hi => List.mem_append_left _ hi) S1 (.inl (.bl _)))
theorem ev_not (ha : EV X a fa Ra Ma) : EV X (.UnaryOp .Not a pos) (fNot fa) [] Ma := by
  obtain ⟨t, p, q⟩ := ha
  refine ⟨_, pe_not p, fun Y F H δ σ A S z δ' e Q k => ?_⟩
  unfold fNot at e
  cases e1 : toB (fa δ) with
  | none => rw [e1] at e; cases e
  | some p =>
    obtain ⟨b1, δ1⟩ := p
    rw [e1] at e
    cases e
    exact q Y F H δ σ A S _ δ1 (toB_some e1) _ fun v F1 H1 st1 S1 r1 => ⟨b1, r1.bl, k _ F1 H1 st1 S1 (.inl (.bl _))⟩
def fIte (gc : List Sl → Option (Bool × List Sl)) (fa fb : List Sl → Option (D × List Sl)) : List Sl → Option (D × List Sl) := fun δ => (gc δ).bind fun p => match p.1 with | true => fa p.2 | false => fb p.2
theorem ev_ite {gc} (hc : TV X c gc Mc) (ha : EV X a fa Ra Ma) (hb : EV X b fb Rb Mb) : EV X (.IfExp c a b pos) (fIte gc fa fb) (Ra ++ Rb) (Mc ++ (Ma ++ Mb)) := by
  obtain ⟨tc, pc, qc⟩ := hc
  obtain ⟨ta, pa, qa⟩ := ha
  obtain ⟨tb, pb, qb⟩ := hb
  refine ⟨_, pe_ifExp pc pa pb, fun Y F H δ σ A S z δ' e Q k => ?_⟩
  unfold fIte at e
  cases e1 : gc δ with
  | none => rw [e1] at e; cases e
  | some p =>
    obtain ⟨b1, δ1⟩ := p
    rw [e1] at e
    refine qc Y F H δ σ A S _ δ1 e1 _ fun F1 H1 st1 S1 => ?_
    cases b1 with
    | true => exact iteT (qa Y F1 H1 δ1 σ A S1 z δ' e Q fun v F2 H2 st2 S2 r2 => k v F2 H2 ((st1.trans S1 st2).mono fun i hi => by
        rcases List.mem_append.mp hi with h | h
        · exact List.mem_append_left _ h
        · exact List.mem_append_right _ (List.mem_append_left _ h)) S2 (r2.mono fun i hi => List.mem_append_left _ hi))
    | false => exact iteF (qb Y F1 H1 δ1 σ A S1 z δ' e Q fun v F2 H2 st2 S2 r2 => k v F2 H2 ((st1.trans S1 st2).mono fun i hi => by
        rcases List.mem_append.mp hi with h | h
        · exact List.mem_append_left _ h
        · exact List.mem_append_right _ (List.mem_append_right _ h)) S2 (r2.mono fun i hi => List.mem_append_right _ hi))
/-- a new list in one of two ways -/
theorem nv_ite {gc} (hc : TV X c gc Mc) (ha : NV X a fa Ma) (hb : NV X b fb Mb) : NV X (.IfExp c a b pos) (fIte gc fa fb) (Mc ++ (Ma ++ Mb)) := by
  obtain ⟨tc, pc, qc⟩ := hc
  obtain ⟨ta, pa, qa⟩ := ha
  obtain ⟨tb, pb, qb⟩ := hb
  refine ⟨_, pe_ifExp pc pa pb, fun Y F H δ σ A S z δ' e Q k => ?_⟩
  unfold fIte at e
  have back : ∀ {F1 H1 δ1 p}, Stp A Mc F H F1 H1 → SR X.K Y F1 H1 δ1 σ A → H1 p = none → H p = none := fun {F1 H1 δ1 p} st S1 n => by
    cases e5 : H p with
    | none => rfl
    | some o =>
      by_cases c : ∃ i, p ∈ A i
      · obtain ⟨i, hi⟩ := c
        exact absurd n (S1.isSome hi)
      · have := st.kp p o e5 fun i _ hi => c ⟨i, hi⟩
        rw [n] at this
        cases this
  cases e1 : gc δ with
  | none => rw [e1] at e; cases e
  | some p =>
    obtain ⟨b1, δ1⟩ := p
    rw [e1] at e
    refine qc Y F H δ σ A S _ δ1 e1 _ fun F1 H1 st1 S1 => ?_
    cases b1 with
    | true => exact iteT (qa Y F1 H1 δ1 σ A S1 z δ' e Q fun v F2 H2 st2 S2 n f r2 => k v F2 H2 ((st1.trans S1 st2).mono fun i hi => by
        rcases List.mem_append.mp hi with h | h
        · exact List.mem_append_left _ h
        · exact List.mem_append_right _ (List.mem_append_left _ h)) S2 (back st1 S1 n) f r2)
    | false => exact iteF (qb Y F1 H1 δ1 σ A S1 z δ' e Q fun v F2 H2 st2 S2 n f r2 => k v F2 H2 ((st1.trans S1 st2).mono fun i hi => by
        rcases List.mem_append.mp hi with h | h
        · exact List.mem_append_left _ h
        · exact List.mem_append_right _ (List.mem_append_right _ h)) S2 (back st1 S1 n) f r2)
/-- what is new is a datum -/
theorem NV.ev (h : NV X a fa Ma) : EV X a fa [] Ma := by
  obtain ⟨t, p, q⟩ := h
  refine ⟨t, p, fun Y F H δ σ A S z δ' e Q k => ?_⟩
  refine q Y F H δ σ A S z δ' e Q fun p F1 H1 st1 S1 n f o => ?_
  obtain ⟨u, hu⟩ : ∃ u, H1 p = some u := by
    rcases o.there with ⟨_, e⟩ | ⟨_, e⟩ <;> exact ⟨_, e⟩
  have nA : ∀ i, p ∉ A i := fun i hi => S.isSome hi n
  have sF : Same F1 (upd F1 p u) := fun b x e => by rw [upd_ne (ne_of_none e f)]; exact e
  refine k _ (upd F1 p u) H1 ⟨st1.f.trans sF, fun a e1 e2 => ?_, st1.kp⟩ ⟨S1.len, fun i s e => (S1.slot i s e).mono sF fun _ _ => rfl, S1.out, S1.dis, fun i a h => ?_, S1.new, fun b x e => ?_, S1.fix, S1.ioA, S1.kp, fun a e1 e2 => ?_, S1.f0.trans sF⟩ ?_
  · by_cases c : a = p
    · subst c; exact n
    · rw [upd_ne c] at e2; exact st1.nw a e1 e2
  · rw [upd_ne (fun c => by subst c; exact nA i h)]; exact S1.hid i a h
  · by_cases c : b = p
    · subst c; rw [upd_same] at e; cases e; exact hu
    · rw [upd_ne c] at e; exact S1.sub _ _ e
  · by_cases c : a = p
    · subst c
      cases e3 : Y.H0 a with
      | none => rfl
      | some x =>
        by_cases c2 : ∃ i, Y.io i = true ∧ a ∈ Y.A0 i
        · obtain ⟨i, hi, hA⟩ := c2
          rw [← (S.fix i hi).2] at hA
          exact absurd hA (nA i)
        · have := S.kp a x e3 fun i hi z => c2 ⟨i, hi, z⟩
          rw [n] at this
          cases this
    · rw [upd_ne c] at e2; exact S1.nw a e1 e2
  · exact .inl (own_rp o sF (by rw [upd_same, hu]))
end

/-! ### several expressions -/
def aNil : List Sl → Option (List D × List Sl) := fun δ => some ([], δ)
def aCons (fa : List Sl → Option (D × List Sl)) (fr : List Sl → Option (List D × List Sl)) : List Sl → Option (List D × List Sl) := fun δ => (fa δ).bind fun p => (fr p.2).map fun q => (p.1 :: q.1, q.2)
theorem av_nil : AV X [] aNil [] [] := by
  refine ⟨_, pa_nil, fun Y F H δ σ A S d' δ' e Q k => ?_⟩
  cases e
  exact k _ _ _ Stp.refl S trivial
theorem aCons_some {fa fr} {δ δ' : List Sl} {ds : List D} (h : aCons fa fr δ = some (ds, δ')) : ∃ d δ1 r, fa δ = some (d, δ1) ∧ fr δ1 = some (r, δ') ∧ ds = d :: r := by
  unfold aCons at h
  cases e1 : fa δ with
  | none => rw [e1] at h; cases h
  | some p =>
    obtain ⟨d, δ1⟩ := p
    rw [e1] at h
    simp only [Option.bind_some] at h
    cases e2 : fr δ1 with
    | none => rw [e2] at h; cases h
    | some q =>
      obtain ⟨e, δ2⟩ := q
      rw [e2] at h
      cases h
      exact ⟨d, δ1, e, rfl, e2, rfl⟩
theorem av_cons {a : Expr} {es : List Expr} {fa fr} {Ra Rr Ma Mr : List Nat} (ha : EV X a fa Ra Ma) (hr : AV X es fr Rr Mr) (dj : ∀ i ∈ Ra, i ∉ Mr := by decide) (hs : starEach (a :: es) X.env = (false, eval a X.env) :: starEach es X.env := by rfl) : AV X (a :: es) (aCons fa fr) (Ra ++ Rr) (Ma ++ Mr) := by
  obtain ⟨ta, pa, qa⟩ := ha
  obtain ⟨tb, pb, qb⟩ := hr
  refine ⟨_, pa_cons pa pb hs, fun Y F H δ σ A S ds δ' e Q k => ?_⟩
  obtain ⟨d, δ1, r, e1, e2, rfl⟩ := aCons_some e
  refine qa Y F H δ σ A S d δ1 e1 _ fun x F1 H1 st1 S1 r1 => ?_
  refine qb Y F1 H1 δ1 σ A S1 r δ' e2 _ fun y F2 H2 st2 S2 r2 => ?_
  exact k _ F2 H2 (st1.trans S1 st2) S2 ⟨(r1.step S1 st2 dj).mono fun i hi => List.mem_append_left _ hi, r2.mono fun i hi => List.mem_append_right _ hi⟩
/-! ### displays -/
def fTup (f : List Sl → Option (List D × List Sl)) : List Sl → Option (D × List Sl) := fun δ => (f δ).bind fun p => if p.1.length ≤ sizeLine then some (.tuple p.1, p.2) else none
def fLst (f : List Sl → Option (List D × List Sl)) : List Sl → Option (D × List Sl) := fun δ => (f δ).bind fun p => if p.1.length ≤ sizeLine then some (.list p.1, p.2) else none
theorem ev_tup {es : List Expr} {f} {M : List Nat} {x1} (h : AV X es f [] M) : EV X (.Tuple es x1 pos) (fTup f) [] M := by
  obtain ⟨t, p, q⟩ := h
  refine ⟨_, pe_tup p, fun Y F H δ σ A S d δ' e Q k => ?_⟩
  unfold fTup at e
  cases e1 : f δ with
  | none => rw [e1] at e; cases e
  | some p =>
    obtain ⟨ds, δ1⟩ := p
    rw [e1] at e
    simp only [Option.bind_some] at e
    split at e
    · rename_i hz
      cases e
      refine q Y F H δ σ A S ds δ' e1 _ fun vs F1 H1 st S1 r => ?_
      have r := r.nil
      refine ⟨by rw [r.length]; exact hz, fun p hp => ?_⟩
      exact k _ (upd F1 p (.tup vs)) (upd H1 p (.tup vs)) (stp_nil S1 st (Stp.laid S1 hp)) (S1.laid hp) (.inl (.tup (.inl (.inl upd_same)) (r.mono (Stp.laid (M := []) S1 hp).f)))
    · cases e
theorem nv_lst {es : List Expr} {f} {M : List Nat} (h : AV X es f [] M) : NV X (.List es pos) (fLst f) M := by
  obtain ⟨t, p, q⟩ := h
  refine ⟨_, pe_lst p, fun Y F H δ σ A S d δ' e Q k => ?_⟩
  unfold fLst at e
  cases e1 : f δ with
  | none => rw [e1] at e; cases e
  | some p =>
    obtain ⟨ds, δ1⟩ := p
    rw [e1] at e
    simp only [Option.bind_some] at e
    split at e
    · rename_i hz
      cases e
      refine q Y F H δ σ A S ds δ' e1 _ fun vs F1 H1 st S1 r => ?_
      have r := r.nil
      refine ⟨by rw [r.length]; exact hz, fun p hp => ?_⟩
      refine k p F1 (upd H1 p (.lst vs)) (stp_nil S1 st (Stp.laidO hp)) (S1.laidO hp) ?_ (S1.sub.free hp) ⟨vs, upd_same, r⟩
      cases e5 : H p with
      | none => rfl
      | some o =>
        by_cases c : ∃ i, p ∈ A i
        · obtain ⟨i, hi⟩ := c
          exact absurd hp (S1.isSome hi)
        · have := st.kp p o e5 fun i _ hi => c ⟨i, hi⟩
          rw [hp] at this
          cases this
    · cases e
end
end Z

/-! Z2: what the operations do, on data. -/
namespace Z
open PySem PySem.Spec PyProof.Rows L2
section
variable {X : Cx} {pins : List (Addr × Obj)} {σ : L2.St} {H G : Hp} {s : Shared}

theorem keyD_reads {h : Heap} {k : Key} {u : Value} (e : keyIs k u = true) : Reads h u (keyD k) [] := by
  rcases keyIs_shape e with ⟨i, t, rfl, rfl⟩ | ⟨x, t, rfl, rfl⟩
  · exact .int i t
  · exact .str x t
mutual
theorem Rp.reads (I : Inv X pins σ H s) (g : Same G H) : ∀ (d : D) (v : V) (u : Value), Rp X.K G v d → RelV v u → ∃ as, Reads s.heap u d as
  | .none, _, _, h, r => by
    cases h
    cases r
    exact ⟨_, Reads.none⟩
  | .bool b, _, _, h, r => by
    cases h
    cases r
    exact ⟨_, Reads.bool b⟩
  | .int i, _, _, h, r => by
    cases h
    obtain ⟨t, rfl⟩ := r
    exact ⟨_, Reads.int i t⟩
  | .str x, _, _, h, r => by
    cases h
    obtain ⟨t, rfl⟩ := r
    exact ⟨_, Reads.str x t⟩
  | .list ds, _, _, h, r => by
    cases h with
    | lst hs ha =>
      rename_i p xs
      cases r
      obtain ⟨its, rv, ⟨o, n, ho, hc, _, hd⟩, _⟩ := I.list (SqL.of (g _ _ hs))
      obtain ⟨as, hr⟩ := Rp.readsAll I g ds _ its ha rv
      exact ⟨_, Reads.list ho hc hd hr⟩
  | .tuple ds, _, _, h, r => by
    cases h with
    | tup hs ha =>
      cases r
      obtain ⟨its, rv, ⟨o, ho, hc, n, hd⟩, _⟩ := I.tuple (Same.sqt g hs)
      obtain ⟨as, hr⟩ := Rp.readsAll I g ds _ its ha rv
      exact ⟨_, Reads.tuple ho hc hd hr⟩
  | .dict ds, _, _, h, r => by
    cases h with
    | dic hs ha =>
      cases r
      obtain ⟨_, hsm, vs, rel, o, es, ep, ho, hx, hdat, _, hp, _⟩ := I.hok _ _ (g _ _ hs)
      obtain ⟨bs, h1, h2⟩ := Rp.readsKv I g ds _ vs es.toList ha rel hp
      exact ⟨_, Reads.dict ho hx.1 hdat h1 h2⟩
theorem Rp.readsAll (I : Inv X pins σ H s) (g : Same G H) : ∀ (ds : List D) (vs : List V) (us : List Value), Rps X.K G vs ds → Vals vs us → ∃ as, ReadsAll s.heap us ds as
  | [], _, _, h, r => by
    cases h
    cases r
    exact ⟨_, ReadsAll.nil⟩
  | d :: ds, _, _, h, r => by
    cases h with
    | cons h1 h2 =>
      cases r with
      | cons r1 r2 =>
        obtain ⟨as, q1⟩ := Rp.reads I g d _ _ h1 r1
        obtain ⟨bs, q2⟩ := Rp.readsAll I g ds _ _ h2 r2
        exact ⟨_, ReadsAll.cons q1 q2⟩
theorem Rp.readsKv (I : Inv X pins σ H s) (g : Same G H) : ∀ (ds : List (D × D)) (kvs : List (Key × V)) (vs : List (Key × Value)) (es : List DictEntry), RpK X.K G kvs ds → KV kvs vs → Pairs (mixKind X.prog X.w) es vs →
    ∃ bs, ReadsAll s.heap (es.map (·.key)) (ds.map (·.1)) [] ∧ ReadsAll s.heap (es.map (·.val)) (ds.map (·.2)) bs
  | [], _, _, _, h, r, p => by
    cases h
    cases r
    cases p
    exact ⟨_, ReadsAll.nil, ReadsAll.nil⟩
  | (dk, dv) :: ds, _, _, _, h, r, p => by
    cases h with
    | cons h1 h2 =>
      cases r with
      | cons r1 r2 =>
        rename_i q vs'
        obtain ⟨k', u⟩ := q
        obtain ⟨e1, r1⟩ := r1
        simp only at e1
        subst e1
        cases p with
        | cons p1 p2 p3 =>
          obtain ⟨as, q1⟩ := Rp.reads I g dv _ _ h1 r1
          obtain ⟨bs, q2, q3⟩ := Rp.readsKv I g ds _ _ _ h2 r2 p3
          refine ⟨as ++ bs, ?_, ?_⟩
          · exact ReadsAll.cons (as := []) (bs := []) (keyD_reads p1) q2
          · rw [List.map_cons, p2]
            exact ReadsAll.cons q1 q3
end
end

/-! ### operators -/
section
variable {X : Cx}
def addD : D → D → Option D
  | .int a, .int b => some (.int (a + b))
  | .str a, .str b => if a.length + b.length ≤ sizeLine then some (.str (a ++ b)) else none
  | .tuple a, .tuple b => if a.length + b.length ≤ sizeLine then some (.tuple (a ++ b)) else none
  | _, _ => none
def addL : D → D → Option D
  | .list a, .list b => if a.length + b.length ≤ sizeLine then some (.list (a ++ b)) else none
  | _, _ => none
def subD : D → D → Option D
  | .int a, .int b => some (.int (a - b))
  | _, _ => none
def lim64 (i : Int) : Bool := decide (-(2 ^ 64) < i) && decide (i < 2 ^ 64)
def mulD : D → D → Option D
  | .int a, .int b => if lim64 a || lim64 b then some (.int (a * b)) else none
  | .tuple xs, .int k => if (!xs.isEmpty) && decide (-1000 ≤ k) && decide (k ≤ 1000) && decide (xs.length ≤ 1000) then some (.tuple (List.replicate k.toNat xs).flatten) else none
  | _, _ => none
def mulL : D → D → Option D
  | .list xs, .int k => if decide (0 ≤ k) && decide (k < 2 ^ 62) && decide (xs.length * k.toNat ≤ sizeLine) then some (.list (List.replicate k.toNat xs).flatten) else none
  | _, _ => none
def fdivD : D → D → Option D
  | .int a, .int b => if decide (0 < b) && decide (b < 1073741824) then some (.int (a / b)) else none
  | _, _ => none
def modD : D → D → Option D
  | .int a, .int b => if 0 < b then some (.int (a % b)) else none
  | _, _ => none
def powD : D → D → Option D
  | .int a, .int b => if decide (0 ≤ b) && decide (b ≤ 1000000) && decide (a.natAbs < 2 ^ 64) then some (.int (a ^ b.toNat)) else none
  | _, _ => none

def rAdd3 (K : PySem.W.Frag) : R2 := fun x y H Q => rI0 (fun i j => .int (i + j)) x y H Q ∨ (∃ i j, x = .str i ∧ y = .str j ∧ i.length + j.length ≤ sizeLine ∧ Q (.str (i ++ j)) H) ∨ rCatA K x y H Q
theorem op_add3 : OpR X (binaryOp .Add) (rAdd3 X.K) := op_add.or (op_add_str.or op_catA)
theorem os_add : OpS X (rAdd3 X.K) addD := by
  intro Y F H δ σ A R x y d e z S rx ry hg Q k
  cases d with
  | int i =>
    cases e with
    | int j =>
      cases hg
      rw [rx.int, ry.int]
      exact .inl ⟨i, j, rfl, rfl, k _ F H Stp.refl S (.int _)⟩
    | _ => cases hg
  | str i =>
    cases e with
    | str j =>
      simp only [addD] at hg
      split at hg
      · rename_i hz
        cases hg
        rw [rx.str, ry.str]
        exact .inr (.inl ⟨i, j, rfl, rfl, hz, k _ F H Stp.refl S (.str _)⟩)
      · cases hg
    | _ => cases hg
  | tuple i =>
    cases e with
    | tuple j =>
      simp only [addD] at hg
      split at hg
      · rename_i hz
        cases hg
        obtain ⟨a, xs, rfl, h0, h1, r1⟩ := rx.tup S
        obtain ⟨b, ys, rfl, h3, h2, r2⟩ := ry.tup S
        refine .inr (.inr ⟨a, b, xs, ys, rfl, rfl, h1, h2, by rw [r1.length, r2.length]; exact hz, fun e0 => ?_, fun n1 e0 => ?_, fun n1 n2 p hp => ?_⟩)
        · subst e0
          cases r1
          exact k _ F H Stp.refl S (.tup h3 r2)
        · subst e0
          cases r2
          rw [List.append_nil] at k
          exact k _ F H Stp.refl S (.tup h0 r1)
        · exact k _ _ _ (Stp.laid S hp) (S.laid hp) (.tup (.inl (.inl upd_same)) ((r1.append r2).mono (Stp.laid (M := []) S hp).f))
      · cases hg
    | _ => cases hg
  | _ => cases hg
theorem on_add : OpN X rCat addL := by
  intro Y F H δ σ A R x y d e z S rx ry hg Q k
  cases d with
  | list i =>
    cases e with
    | list j =>
      simp only [addL] at hg
      split at hg
      · rename_i hz
        cases hg
        obtain ⟨a, xs, rfl, h1, r1⟩ := rx.list S
        obtain ⟨b, ys, rfl, h2, r2⟩ := ry.list S
        exact ⟨a, b, xs, ys, rfl, rfl, h1, h2, by rw [r1.length, r2.length]; exact hz, fun p hp => k p F _ (Stp.laidO hp) (S.laidO hp) hp (S.sub.free hp) ⟨_, upd_same, r1.append r2⟩⟩
      · cases hg
    | _ => cases hg
  | _ => cases hg
theorem Rps.rep {K : PySem.W.Frag} {G : Hp} {xs : List V} {ds : List D} (h : Rps K G xs ds) : ∀ k : Nat, Rps K G (List.replicate k xs).flatten (List.replicate k ds).flatten
  | 0 => .nil
  | k + 1 => by
    rw [List.replicate_succ, List.flatten_cons, List.replicate_succ, List.flatten_cons]
    exact h.append (h.rep k)
theorem on_rep : OpN X rRep mulL := by
  intro Y F H δ σ A R x y d e z S rx ry hg Q k
  cases d with
  | list i =>
    cases e with
    | int j =>
      simp only [mulL] at hg
      split at hg
      · rename_i hz
        cases hg
        simp only [Bool.and_eq_true, decide_eq_true_eq] at hz
        obtain ⟨⟨z1, z2⟩, z3⟩ := hz
        obtain ⟨a, xs, rfl, h1, r1⟩ := rx.list S
        rw [ry.int]
        refine ⟨a, j, xs, rfl, rfl, h1, by omega, by omega, by rw [r1.length]; exact z3, fun p hp => k p F _ (Stp.laidO hp) (S.laidO hp) hp (S.sub.free hp) ⟨_, upd_same, r1.rep _⟩⟩
      · cases hg
    | _ => cases hg
  | _ => cases hg
theorem os_sub : OpS X (rI0 fun i j => .int (i - j)) subD := by
  intro Y F H δ σ A R x y d e z S rx ry hg Q k
  cases d with
  | int i =>
    cases e with
    | int j =>
      cases hg
      rw [rx.int, ry.int]
      exact ⟨i, j, rfl, rfl, k _ F H Stp.refl S (.int _)⟩
    | _ => cases hg
  | _ => cases hg
theorem os_fdiv : OpS X (rI CDiv fun i j => .int (i / j)) fdivD := by
  intro Y F H δ σ A R x y d e z S rx ry hg Q k
  cases d with
  | int i =>
    cases e with
    | int j =>
      simp only [fdivD] at hg
      split at hg
      · rename_i hz
        cases hg
        simp only [Bool.and_eq_true, decide_eq_true_eq] at hz
        rw [rx.int, ry.int]
        exact ⟨i, j, rfl, rfl, hz, k _ F H Stp.refl S (.int _)⟩
      · cases hg
    | _ => cases hg
  | _ => cases hg
theorem os_mod : OpS X (rI (fun _ j => 0 < j) fun i j => .int (i % j)) modD := by
  intro Y F H δ σ A R x y d e z S rx ry hg Q k
  cases d with
  | int i =>
    cases e with
    | int j =>
      simp only [modD] at hg
      split at hg
      · rename_i hz
        cases hg
        rw [rx.int, ry.int]
        exact ⟨i, j, rfl, rfl, hz, k _ F H Stp.refl S (.int _)⟩
      · cases hg
    | _ => cases hg
  | _ => cases hg
theorem os_pow : OpS X (rI CPow fun i j => .int (i ^ j.toNat)) powD := by
  intro Y F H δ σ A R x y d e z S rx ry hg Q k
  cases d with
  | int i =>
    cases e with
    | int j =>
      simp only [powD] at hg
      split at hg
      · rename_i hz
        cases hg
        simp only [Bool.and_eq_true, decide_eq_true_eq] at hz
        rw [rx.int, ry.int]
        exact ⟨i, j, rfl, rfl, ⟨hz.1.1, hz.1.2, hz.2⟩, k _ F H Stp.refl S (.int _)⟩
      · cases hg
    | _ => cases hg
  | _ => cases hg
end
end Z

/-! Z3: a tuple times 0 or 1. -/
namespace Z
open PySem PySem.Spec PyProof.Rows L2
theorem mulW1 (l : Addr) (items : Array Value) (n : Nat) (sl : Array (Option Value)) (dd : Option Addr) (u : Tok) :
    Meets (Builtin.«tuple.__mul__» ⟨[.ref l, .int 1 u], []⟩) (fun _ R s => s.heap.get? l = some { cls := .type "tuple", dict := dd, data := .seq items n, slots := sl } ∧
      R (.ok (.ret (Value.ref l))) s) :=
  .of_wp fun prog w A R s h => by
    obtain ⟨hp, g, d, tk, os⟩ := s
    obtain ⟨hl, h⟩ := h
    have f1 := AutoSeq1.idx_int
    have c0 : (decide ((1 : Int) < -(2 ^ 63)) || decide ((1 : Int) ≥ 2 ^ 63)) = false := by decide
    have c1 : (items.isEmpty || ((1 : Int) == 1)) = true := by simp
    wp_walk using wpAny_loadPart' hl
    repeat (first
      | (refine wpAny_ite_false (decide_eq_false (by rw [c0]; exact Bool.false_ne_true)) ?_; wp_walk using wpAny_loadPart' hl)
      | (refine wpAny_ite_true (decide_eq_true c1) ?_; wp_walk using wpAny_loadPart' hl))
    exact ⟨_, rfl, h⟩
theorem mulW0 (l : Addr) (items : Array Value) (n : Nat) (sl : Array (Option Value)) (dd : Option Addr) (x : Int) (u : Tok) (hx : x ≤ 0) (hx2 : -(2 ^ 63) ≤ x) (hne : items.isEmpty = false) :
    Meets (Builtin.«tuple.__mul__» ⟨[.ref l, .int x u], []⟩) (fun _ R s => s.heap.get? l = some { cls := .type "tuple", dict := dd, data := .seq items n, slots := sl } ∧
      R (.ok (.ret (Value.ref s.heap.objs.size))) { s with heap := s.heap.push { cls := Value.type "tuple", data := Data.seq #[] }, toks := s.toks }) :=
  .of_wp fun prog w A R s h => by
    obtain ⟨hp, g, d, tk, os⟩ := s
    obtain ⟨hl, h⟩ := h
    have f1 := AutoSeq1.idx_int
    have c0 : (decide (x < -(2 ^ 63)) || decide (x ≥ 2 ^ 63)) = false := by
      rw [decide_eq_false (by omega), decide_eq_false (by omega)] <;> rfl
    have c1 : (items.isEmpty || x == 1) = false := by
      rw [hne, Bool.false_or]
      exact beq_eq_false_iff_ne.mpr (by omega)
    have c2 : (decide (x ≤ 0) || items.isEmpty) = true := by
      rw [decide_eq_true hx]
      rfl
    wp_walk using wpAny_loadPart' hl
    repeat (first
      | (refine wpAny_ite_false (decide_eq_false (by rw [c0]; exact Bool.false_ne_true)) ?_; wp_walk using wpAny_loadPart' hl)
      | (refine wpAny_ite_false (decide_eq_false (by rw [c1]; exact Bool.false_ne_true)) ?_; wp_walk using wpAny_loadPart' hl)
      | (refine wpAny_ite_true (decide_eq_true c2) ?_; wp_walk using wpAny_loadPart' hl))
    exact ⟨_, rfl, h⟩
section
variable {X : Cx}
def rRepZ (K : PySem.W.Frag) : R2 := fun x y H Q => ∃ l k xs, x = .ref l ∧ y = .int k ∧ SqT K H l xs ∧ xs ≠ [] ∧ -1000 ≤ k ∧ k ≤ 1000 ∧ xs.length ≤ 1000 ∧ (k = 1 → Q (.ref l) H) ∧ (k ≠ 1 → ∀ p, H p = none → Q (.ref p) (upd H p (.tup (List.replicate k.toNat xs).flatten)))
theorem op_repZ : OpR X (binaryOp .Mult) (rRepZ X.K) := by
  intro pins s σ H x y v u Q I rx ry h
  obtain ⟨l, k, xs, rfl, rfl, hT, hne, h1, h2, hz, q1, q2⟩ := h
  by_cases hk : 2 ≤ k
  · exact op_repT pins s σ H _ _ v u Q I rx ry ⟨l, k, xs, rfl, rfl, hT, hne, hk, h2, hz, q2 (by omega)⟩
  · cases rx
    obtain ⟨t, rfl⟩ := ry
    obtain ⟨its, r, ⟨⟨cls, dd, data, sl⟩, ho, hc, n, hd⟩, hs⟩ := I.tuple hT
    simp only at hc hd
    subst hc hd
    have hi : its.toArray.isEmpty = false := by
      cases its with
      | nil =>
        cases r
        exact absurd rfl hne
      | cons a b => rfl
    by_cases hk1 : k = 1
    · subst hk1
      refine wpAny_binaryOp_repeat_ref (T := "tuple") (U := "int") (by decide) ⟨_, ho, rfl⟩ (fun s' => typeIs_int s' 1 t) noFill_tuple_mul F.fills_int_mul F.slot_int_rmul repeat_tuple F.slot_int_index.lookup
        (call_meets F.slot_int_rmul (typeIs_int s 1 t) F.entry_int_rmul (F.args_int_rmul_2 _ _) (int_rmul_tuple 1 t l its.toArray n dd sl)
          ⟨ho, rfl, ⟨_, ho, rfl⟩, call_meets F.slot_tuple_mul ⟨_, ho, rfl⟩ F.entry_tuple_mul (F.args_tuple_mul_2 _ _) (mulW1 l its.toArray n sl dd t) ⟨ho, ?_⟩⟩)
      exact ⟨.ref l, H, I, rfl, q1 rfl⟩
    · refine wpAny_binaryOp_repeat_ref (T := "tuple") (U := "int") (by decide) ⟨_, ho, rfl⟩ (fun s' => typeIs_int s' k t) noFill_tuple_mul F.fills_int_mul F.slot_int_rmul repeat_tuple F.slot_int_index.lookup
        (call_meets F.slot_int_rmul (typeIs_int s k t) F.entry_int_rmul (F.args_int_rmul_2 _ _) (int_rmul_tuple k t l its.toArray n dd sl)
          ⟨ho, rfl, ⟨_, ho, rfl⟩, call_meets F.slot_tuple_mul ⟨_, ho, rfl⟩ F.entry_tuple_mul (F.args_tuple_mul_2 _ _) (mulW0 l its.toArray n sl dd k t (by omega) (by omega) hi) ⟨ho, ?_⟩⟩)
      have e0 : (List.replicate k.toNat xs).flatten = [] := by
        rw [show k.toNat = 0 by omega]
        rfl
      have q := q2 hk1
      rw [e0] at q
      exact ⟨.ref s.heap.objs.size, _, I.laid (t' := s.toks) (o := .tup []) (fun b ob q => Heap.get?_push_of_some _ q) (Nat.le_refl _) ⟨Nat.zero_le _, [], .nil, IsTup.new _ _⟩, rfl, q _ (I.hok.fresh (Nat.le_refl _))⟩
def rMul2 (K : PySem.W.Frag) : R2 := fun x y H Q => rI CMul (fun i j => .int (i * j)) x y H Q ∨ rRepZ K x y H Q
theorem op_mul2 : OpR X (binaryOp .Mult) (rMul2 X.K) := op_mul.or op_repZ
theorem os_mul : OpS X (rMul2 X.K) mulD := by
  intro Y F H δ σ A R x y d e z S rx ry hg Q k
  cases d with
  | int i =>
    cases e with
    | int j =>
      simp only [mulD] at hg
      split at hg
      · rename_i hz
        cases hg
        rw [rx.int, ry.int]
        refine .inl ⟨i, j, rfl, rfl, ?_, k _ F H Stp.refl S (.int _)⟩
        simp only [lim64, Bool.or_eq_true, Bool.and_eq_true, decide_eq_true_eq] at hz
        exact hz
      · cases hg
    | _ => cases hg
  | tuple i =>
    cases e with
    | int j =>
      simp only [mulD] at hg
      split at hg
      · rename_i hz
        cases hg
        simp only [Bool.and_eq_true, decide_eq_true_eq, Bool.not_eq_true'] at hz
        obtain ⟨⟨⟨z1, z0⟩, z2⟩, z3⟩ := hz
        obtain ⟨a, xs, rfl, h0, h1, r1⟩ := rx.tup S
        rw [ry.int]
        refine .inr ⟨a, j, xs, rfl, rfl, h1, ?_, z0, z2, by rw [r1.length]; exact z3, fun e1 => ?_, fun e1 p hp => ?_⟩
        · intro e0
          subst e0
          cases r1
          cases z1
        · subst e1
          exact k _ F H Stp.refl S (.tup h0 (by simpa using r1))
        · exact k _ _ _ (Stp.laid S hp) (S.laid hp) (.tup (.inl (.inl upd_same)) ((r1.rep _).mono (Stp.laid (M := []) S hp).f))
      · cases hg
    | _ => cases hg
  | _ => cases hg
end
end Z

/-! Z4: comparisons, on data. -/
namespace Z
open PySem PySem.Spec PyProof.Rows L2

def keyOf : D → Option Key
  | .int i => some (.inl i)
  | .str s => some (.inr s)
  | _ => none
theorem keyOf_keyD (k : Key) : keyOf (keyD k) = some k := by cases k <;> rfl
def dget (ds : List (D × D)) (k : Key) : Option D := (ds.find? fun p => decide (keyOf p.1 = some k)).map (·.2)
theorem RpK.val {K : PySem.W.Frag} {G : Hp} : ∀ {kvs : List (Key × V)} {ds : List (D × D)} (k : Key), RpK K G kvs ds → (valV kvs k = none ∧ dget ds k = none) ∨ ∃ v d, valV kvs k = some v ∧ dget ds k = some d ∧ Rp K G v d
  | _, _, _, .nil => .inl ⟨rfl, rfl⟩
  | _, _, k, .cons (k := k0) (v := v0) (r := r0) (d := d0) (ds := ds0) h r => by
    by_cases e : k0 = k
    · refine .inr ⟨_, _, valV_pos e, ?_, h⟩
      unfold dget
      rw [List.find?_cons_of_pos (by rw [keyOf_keyD, e]; simp)]
      rfl
    · have e1 : dget ((keyD k0, d0) :: ds0) k = dget ds0 k := by
        unfold dget
        rw [List.find?_cons_of_neg (by rw [keyOf_keyD]; simpa using e)]
      rw [valV_neg (p := (k0, v0)) e, e1]
      exact r.val k

def eqD (d e : D) : Option Bool := if SeqAt.shaped d && SeqAt.shaped e then some (PyData.eqv d e) else none
def neD (d e : D) : Option Bool := (eqD d e).map (!·)
def ltD : D → D → Option Bool
  | .int a, .int b => some (decide (a < b))
  | .tuple a, .tuple b => if PySem.W.alike (.tuple a) (.tuple b) && SeqAt.shaped (.tuple a) then some (PySem.W.dataLt (.tuple a) (.tuple b)) else none
  | _, _ => none
def leD : D → D → Option Bool
  | .int a, .int b => some (decide (a ≤ b))
  | _, _ => none
def gtD : D → D → Option Bool
  | .int a, .int b => some (decide (b < a))
  | _, _ => none
def geD : D → D → Option Bool
  | .int a, .int b => some (decide (b ≤ a))
  | _, _ => none
def inD (d : D) : D → Option Bool
  | .list ds => if SeqAt.shaped d && SeqAt.shaped (.list ds) then some (ds.any fun z => PyData.eqv z d) else none
  | .tuple ds => if SeqAt.shaped d && SeqAt.shaped (.tuple ds) then some (ds.any fun z => PyData.eqv z d) else none
  | .dict ds => (keyOf d).map fun k => (dget ds k).isSome
  | .str z => match d with
    | .str x => some (!(Builtin.Str.occurrences z x 0 z.length 1).isEmpty)
    | _ => none
  | _ => none
def notInD (d e : D) : Option Bool := (inD d e).map (!·)
def isNn : D → Bool
  | .none => true
  | _ => false
def isD (d : D) : D → Option Bool
  | .none => some (isNn d)
  | .bool b => match d with
    | .bool a => some (decide (a = b))
    | _ => none
  | _ => none
def isNotD (d e : D) : Option Bool := (isD d e).map (!·)

section
variable {X : Cx}
/-- the comparison does g on data -/
def CmpD (X : Cx) (op : CmpOp) (g : D → D → Option Bool) : Prop :=
  ∀ (pins : List (Addr × Obj)) (s : Shared) (σ : L2.St) (H : Hp) (x y : V) (v u : Value) (Q : VK), L2.Inv X pins σ H s → RelV x v → RelV y u → ∀ (G : Hp) (d e : D) (b : Bool), Same G H → Rp X.K G x d → Rp X.K G y e → g d e = some b → Q (.bl b) H →
    wpAny (model X.prog X.w) X.A (compareOp op v u) (EP X pins σ Q) X.xe s
def rCmpD (X : Cx) (g : D → D → Option Bool) : R2 := fun x y H Q => ∃ G d e b, Same G H ∧ Rp X.K G x d ∧ Rp X.K G y e ∧ g d e = some b ∧ Q (.bl b) H
def bD (g : D → D → Option Bool) : D → D → Option D := fun d e => (g d e).map PyData.bool
theorem CmpD.op {op : CmpOp} {g} (h : CmpD X op g) : OpR X (compareOp op) (rCmpD X g) := by
  intro pins s σ H x y v u Q I rx ry q
  obtain ⟨G, d, e, b, sG, r1, r2, hg, q⟩ := q
  exact h pins s σ H x y v u Q I rx ry G d e b sG r1 r2 hg q
theorem os_cmp {g} : OpS X (rCmpD X g) (bD g) := by
  intro Y F H δ σ A R x y d e z S rx ry hg Q k
  unfold bD at hg
  cases e1 : g d e with
  | none => rw [e1] at hg; cases hg
  | some b =>
    rw [e1] at hg
    cases hg
    exact ⟨_, d, e, b, ex_sub S, rx.ex S, ry.ex S, e1, k _ F H Stp.refl S (.bl _)⟩

theorem cd_eq (hu : X.A.units + 65 < cLine) : CmpD X .Eq eqD := by
  intro pins s σ H x y v u Q I rx ry G d e b sG r1 r2 hg q
  unfold eqD at hg
  split at hg
  · rename_i c
    cases hg
    rw [Bool.and_eq_true] at c
    obtain ⟨as, q1⟩ := Rp.reads I sG d x v r1 rx
    obtain ⟨bs, q2⟩ := Rp.reads I sG e y u r2 ry
    exact SeqAt.compareEq_shaped q1 q2 c.1 c.2 (by omega) ⟨.bl _, H, I, rfl, q⟩
  · cases hg
theorem cd_ne (hu : X.A.units + 65 < cLine) : CmpD X .NotEq neD := by
  intro pins s σ H x y v u Q I rx ry G d e b sG r1 r2 hg q
  unfold neD eqD at hg
  split at hg
  · rename_i c
    cases hg
    rw [Bool.and_eq_true] at c
    obtain ⟨as, q1⟩ := Rp.reads I sG d x v r1 rx
    obtain ⟨bs, q2⟩ := Rp.reads I sG e y u r2 ry
    exact SeqAt.compareNe_shaped q1 q2 c.1 c.2 (by omega) ⟨.bl _, H, I, rfl, q⟩
  · cases hg
theorem cd_lt (hu : X.A.units + 65 < cLine) : CmpD X .Lt ltD := by
  intro pins s σ H x y v u Q I rx ry G d e b sG r1 r2 hg q
  unfold ltD at hg
  split at hg
  · cases hg
    cases r1
    cases r2
    exact op_lt pins s σ H _ _ v u Q I rx ry ⟨_, _, rfl, rfl, q⟩
  · rename_i a b'
    split at hg
    · rename_i c
      cases hg
      rw [Bool.and_eq_true] at c
      obtain ⟨as, q1⟩ := Rp.reads I sG (.tuple a) x v r1 rx
      obtain ⟨bs, q2⟩ := Rp.reads I sG (.tuple b') y u r2 ry
      have h1 := SeqAt.depth_of_shaped c.2
      have h2 : min (PyData.tuple a).depth (PyData.tuple b').depth ≤ (PyData.tuple a).depth := Nat.min_le_left _ _
      exact PySem.W.rcLt_alike (.tuple a) (.tuple b') X.A s v u as bs q1 q2 c.1 (by simp) (by omega) X.prog X.w X.xe _ ⟨.bl _, H, I, rfl, q⟩
    · cases hg
  · cases hg
theorem cd_le : CmpD X .LtE leD := by
  intro pins s σ H x y v u Q I rx ry G d e b sG r1 r2 hg q
  unfold leD at hg
  split at hg
  · cases hg
    cases r1
    cases r2
    exact op_le pins s σ H _ _ v u Q I rx ry ⟨_, _, rfl, rfl, q⟩
  · cases hg
theorem cd_gt : CmpD X .Gt gtD := by
  intro pins s σ H x y v u Q I rx ry G d e b sG r1 r2 hg q
  unfold gtD at hg
  split at hg
  · cases hg
    cases r1
    cases r2
    exact op_gt pins s σ H _ _ v u Q I rx ry ⟨_, _, rfl, rfl, q⟩
  · cases hg
theorem cd_ge : CmpD X .GtE geD := by
  intro pins s σ H x y v u Q I rx ry G d e b sG r1 r2 hg q
  unfold geD at hg
  split at hg
  · cases hg
    cases r1
    cases r2
    exact op_ge pins s σ H _ _ v u Q I rx ry ⟨_, _, rfl, rfl, q⟩
  · cases hg
theorem rp_key {K : PySem.W.Frag} {G : Hp} {x : V} {d : D} {k : Key} (h : keyOf d = some k) (r : Rp K G x d) : x = kV k := by
  cases r with
  | int i => cases h; rfl
  | str i => cases h; rfl
  | _ => cases h
theorem cd_in (hu : X.A.units + 65 < cLine) : CmpD X .In inD := by
  intro pins s σ H x y v u Q I rx ry G d e b sG r1 r2 hg q
  obtain ⟨as, q1⟩ := Rp.reads I sG d x v r1 rx
  unfold inD at hg
  split at hg
  · split at hg
    · rename_i ds c
      cases hg
      rw [Bool.and_eq_true] at c
      obtain ⟨bs, q2⟩ := Rp.reads I sG (.list ds) y u r2 ry
      exact SeqAt.in_list_reads q2 q1 (SeqAt.canLay_of_shaped c.2) (SeqAt.canLay_of_shaped c.1) (room_in_shaped c.1 hu) ⟨.bl _, H, I, rfl, q⟩
    · cases hg
  · split at hg
    · rename_i ds c
      cases hg
      rw [Bool.and_eq_true] at c
      obtain ⟨bs, q2⟩ := Rp.reads I sG (.tuple ds) y u r2 ry
      exact SeqAt.in_tuple_reads q2 q1 (SeqAt.canLay_of_shaped c.2) (SeqAt.canLay_of_shaped c.1) (room_in_shaped c.1 hu) ⟨.bl _, H, I, rfl, q⟩
    · cases hg
  · rename_i ds
    cases e1 : keyOf d with
    | none => rw [e1] at hg; cases hg
    | some k =>
      rw [e1] at hg
      cases hg
      cases r2 with
      | dic h1 rk =>
        cases ry
        have ex := rp_key e1 r1
        subst ex
        refine d_in (by omega) I (DGet.k (sG _ _ h1)) rx fun s' I' => ⟨.bl _, H, I', rfl, ?_⟩
        rcases rk.val k with ⟨v1, v2⟩ | ⟨v0, d0, v1, v2, _⟩
        · simp only [v2] at q; rw [v1]; exact q
        · simp only [v2] at q; rw [v1]; exact q
  · split at hg
    · cases hg
      cases r1
      cases r2
      exact op_in_str pins s σ H _ _ v u Q I rx ry ⟨_, _, rfl, rfl, q⟩
    · cases hg
  · cases hg
theorem cd_notIn (hu : X.A.units + 65 < cLine) : CmpD X .NotIn notInD := by
  intro pins s σ H x y v u Q I rx ry G d e b sG r1 r2 hg q
  obtain ⟨as, q1⟩ := Rp.reads I sG d x v r1 rx
  unfold notInD inD at hg
  split at hg
  · split at hg
    · rename_i ds c
      cases hg
      rw [Bool.and_eq_true] at c
      obtain ⟨bs, q2⟩ := Rp.reads I sG (.list ds) y u r2 ry
      exact SeqAt.notIn_list_reads q2 q1 (SeqAt.canLay_of_shaped c.2) (SeqAt.canLay_of_shaped c.1) (room_in_shaped c.1 hu) ⟨.bl _, H, I, rfl, q⟩
    · cases hg
  · split at hg
    · rename_i ds c
      cases hg
      rw [Bool.and_eq_true] at c
      obtain ⟨bs, q2⟩ := Rp.reads I sG (.tuple ds) y u r2 ry
      exact SeqAt.notIn_tuple_reads q2 q1 (SeqAt.canLay_of_shaped c.2) (SeqAt.canLay_of_shaped c.1) (room_in_shaped c.1 hu) ⟨.bl _, H, I, rfl, q⟩
    · cases hg
  · rename_i ds
    cases e1 : keyOf d with
    | none => rw [e1] at hg; cases hg
    | some k =>
      rw [e1] at hg
      cases hg
      cases r2 with
      | dic h1 rk =>
        cases ry
        have ex := rp_key e1 r1
        subst ex
        refine d_notIn (by omega) I (DGet.k (sG _ _ h1)) rx fun s' I' => ⟨.bl _, H, I', rfl, ?_⟩
        rcases rk.val k with ⟨v1, v2⟩ | ⟨v0, d0, v1, v2, _⟩
        · simp only [v2] at q; rw [v1]; exact q
        · simp only [v2] at q; rw [v1]; exact q
  · split at hg
    · cases hg
      cases r1
      cases r2
      exact op_notIn_str pins s σ H _ _ v u Q I rx ry ⟨_, _, rfl, rfl, q⟩
    · cases hg
  · cases hg
theorem rp_none {K : PySem.W.Frag} {G : Hp} {x : V} {d : D} (r : Rp K G x d) : decide (x = V.non) = isNn d := by
  cases r <;> rfl
theorem cd_is : CmpD X .Is isD := by
  intro pins s σ H x y v u Q I rx ry G d e b sG r1 r2 hg q
  unfold isD at hg
  split at hg
  · have e1 := rp_none r1
    cases hg
    cases r2
    refine op_isN pins s σ H _ _ v u Q I rx ry ⟨rfl, ?_⟩
    rw [e1]
    exact q
  · split at hg
    · cases hg
      cases r1
      cases r2
      exact op_is_bl pins s σ H _ _ v u Q I rx ry ⟨_, _, rfl, rfl, q⟩
    · cases hg
  · cases hg
theorem cd_isNot : CmpD X .IsNot isNotD := by
  intro pins s σ H x y v u Q I rx ry G d e b sG r1 r2 hg q
  unfold isNotD isD at hg
  split at hg
  · have e1 := rp_none r1
    cases hg
    cases r2
    refine op_notN pins s σ H _ _ v u Q I rx ry ⟨rfl, ?_⟩
    rw [e1]
    exact q
  · split at hg
    · cases hg
      cases r1
      cases r2
      exact op_isnot_bl pins s σ H _ _ v u Q I rx ry ⟨_, _, rfl, rfl, q⟩
    · cases hg
  · cases hg
end
end Z

/-! Z5: subscripts, slices, calls of built-ins by values. -/
namespace Z
open PySem PySem.Spec PyProof.Rows L2
section
variable {X : Cx} {pos : Pos}

/-! ### + and * of anything; a list that comes of it is known to all -/
theorem SR.seen {K : PySem.W.Frag} {Y : Fx} {F H : Hp} {δ : List Sl} {σ : L2.St} {A : Nat → List Addr} (S : SR K Y F H δ σ A) {p : Addr} {o : HO} (hp : H p = none) : SR K Y (upd F p o) (upd H p o) δ σ A := S.laid hp
def addA (d e : D) : Option D := (addD d e).or (addL d e)
def mulA (d e : D) : Option D := (mulD d e).or (mulL d e)
def rAdd4 (K : PySem.W.Frag) : R2 := fun x y H Q => rAdd3 K x y H Q ∨ rCat x y H Q
theorem op_add4 : OpR X (binaryOp .Add) (rAdd4 X.K) := op_add3.or op_cat
theorem addL_list {d e z : D} (h : addL d e = some z) : ∃ a b, d = .list a ∧ e = .list b ∧ a.length + b.length ≤ sizeLine ∧ z = .list (a ++ b) := by
  unfold addL at h
  split at h
  · split at h
    · rename_i hz
      cases h
      exact ⟨_, _, rfl, rfl, hz, rfl⟩
    · cases h
  · cases h
theorem os_addA : OpS X (rAdd4 X.K) addA := by
  intro Y F H δ σ A R x y d e z S rx ry hg Q k
  unfold addA at hg
  cases e1 : addD d e with
  | some w =>
    rw [e1] at hg
    cases hg
    exact .inl (os_add Y F H δ σ A R x y d e _ S rx ry e1 Q k)
  | none =>
    rw [e1] at hg
    obtain ⟨i, j, rfl, rfl, hz, rfl⟩ := addL_list hg
    obtain ⟨a, xs, rfl, h1, r1⟩ := rx.list S
    obtain ⟨b, ys, rfl, h2, r2⟩ := ry.list S
    exact .inr ⟨a, b, xs, ys, rfl, rfl, h1, h2, by rw [r1.length, r2.length]; exact hz, fun p hp => k _ _ _ (Stp.laid S hp) (S.laid hp) (.lst upd_same ((r1.append r2).mono (Stp.laid (M := []) S hp).f))⟩
def rMul4 (K : PySem.W.Frag) : R2 := fun x y H Q => rMul2 K x y H Q ∨ rRep x y H Q
theorem op_mul4 : OpR X (binaryOp .Mult) (rMul4 X.K) := op_mul2.or op_rep
theorem mulL_list {d e z : D} (h : mulL d e = some z) : ∃ xs k, d = .list xs ∧ e = .int k ∧ 0 ≤ k ∧ k < 2 ^ 62 ∧ xs.length * k.toNat ≤ sizeLine ∧ z = .list (List.replicate k.toNat xs).flatten := by
  unfold mulL at h
  split at h
  · split at h
    · rename_i hz
      cases h
      simp only [Bool.and_eq_true, decide_eq_true_eq] at hz
      exact ⟨_, _, rfl, rfl, hz.1.1, hz.1.2, hz.2, rfl⟩
    · cases h
  · cases h
theorem os_mulA : OpS X (rMul4 X.K) mulA := by
  intro Y F H δ σ A R x y d e z S rx ry hg Q k
  unfold mulA at hg
  cases e1 : mulD d e with
  | some w =>
    rw [e1] at hg
    cases hg
    exact .inl (os_mul Y F H δ σ A R x y d e _ S rx ry e1 Q k)
  | none =>
    rw [e1] at hg
    obtain ⟨i, j, rfl, rfl, z1, z2, hz, rfl⟩ := mulL_list hg
    obtain ⟨a, xs, rfl, h1, r1⟩ := rx.list S
    rw [ry.int]
    exact .inr ⟨a, j, xs, rfl, rfl, h1, by omega, by omega, by rw [r1.length]; exact hz, fun p hp => k _ _ _ (Stp.laid S hp) (S.laid hp) (.lst upd_same ((r1.rep _).mono (Stp.laid (M := []) S hp).f))⟩

/-! ### -a -/
def negD : D → Option D
  | .int i => some (.int (-i))
  | _ => none
def f1 (g : D → Option D) (fa : List Sl → Option (D × List Sl)) : List Sl → Option (D × List Sl) := fun δ => (fa δ).bind fun p => (g p.1).map fun z => (z, p.2)
theorem f1_some {g : D → Option D} {fa : List Sl → Option (D × List Sl)} {δ δ' : List Sl} {z : D} (h : f1 g fa δ = some (z, δ')) : ∃ d, fa δ = some (d, δ') ∧ g d = some z := by
  unfold f1 at h
  cases e1 : fa δ with
  | none => rw [e1] at h; cases h
  | some p =>
    obtain ⟨d, δ1⟩ := p
    rw [e1] at h
    simp only [Option.bind_some] at h
    cases e3 : g d with
    | none => rw [e3] at h; cases h
    | some w =>
      rw [e3] at h
      cases h
      exact ⟨d, rfl, e3⟩
theorem ev_neg {a : Expr} {fa} {R M : List Nat} (ha : EV X a fa R M) : EV X (.UnaryOp .USub a pos) (f1 negD fa) [] M := by
  obtain ⟨t, p, q⟩ := ha
  refine ⟨_, pe_un un_neg p, fun Y F H δ σ A S z δ' e Q k => ?_⟩
  obtain ⟨d, e1, e2⟩ := f1_some e
  refine q Y F H δ σ A S d δ' e1 _ fun v F1 H1 st S1 r => ?_
  cases d with
  | int i =>
    cases e2
    exact ⟨i, r.int, k _ F1 H1 st S1 (.inl (.int _))⟩
  | _ => cases e2

/-! ### a[b] -/
def rIxM : R2 := fun x y H Q => ∃ a v, x = .ref a ∧ DGet H a y (some v) ∧ Q v H
theorem ix_dict (hu : X.A.units + 1 < cLine) : IxR X rIxM := by
  intro value slice pins s σ H x y v u Q I rx ry h hs
  obtain ⟨a, z, rfl, g, q⟩ := h
  cases rx
  exact tail_any (dict_typeIs I g) PySem.F.slot_dict_getitem.lookup (d_getItem hu I g ry fun w' s' I' r' => ⟨z, H, I', r', q⟩) hs
def rIx4 (K : PySem.W.Frag) : R2 := fun x y H Q => rIx K x y H Q ∨ rIxM x y H Q
theorem ix_4 (hu : X.A.units + 1 < cLine) : IxR X (rIx4 X.K) := ix_seq.or (ix_dict hu)
def idxD : D → D → Option D
  | .list ds, .int i => atI ds i
  | .tuple ds, .int i => atI ds i
  | .str z, .int i => if z.length ≤ sizeLine then (atI z.cps.toList i).map fun c => .str ⟨#[c]⟩ else none
  | .dict ds, k => (keyOf k).bind (dget ds)
  | _, _ => none
theorem Rps.at {K : PySem.W.Frag} {G : Hp} {xs : List V} {ds : List D} {i : Int} {d : D} (h : Rps K G xs ds) (e : atI ds i = some d) : ∃ v, atI xs i = some v ∧ Rp K G v d := by
  unfold atI at e ⊢
  rw [h.length]
  cases e1 : ixN ds.length i with
  | none => rw [e1] at e; cases e
  | some j =>
    rw [e1] at e
    exact h.get e
theorem os_idx : OpS X (rIx4 X.K) idxD := by
  intro Y F H δ σ A R x y d e z S rx ry hg Q k
  unfold idxD at hg
  split at hg
  · rename_i ds i
    obtain ⟨a, xs, rfl, h1, r1⟩ := rx.list S
    obtain ⟨v, e1, r⟩ := r1.at hg
    rw [ry.int]
    exact .inl (.inl ⟨a, xs, i, v, rfl, rfl, SqL.of h1, e1, k v F H Stp.refl S r⟩)
  · rename_i ds i
    obtain ⟨a, xs, rfl, _, h1, r1⟩ := rx.tup S
    obtain ⟨v, e1, r⟩ := r1.at hg
    rw [ry.int]
    exact .inl (.inr (.inl ⟨a, xs, i, v, rfl, rfl, h1, e1, k v F H Stp.refl S r⟩))
  · rename_i zz i
    split at hg
    · rename_i hz
      rw [rx.str, ry.int]
      cases e1 : atI zz.cps.toList i with
      | none => rw [e1] at hg; cases hg
      | some c =>
        rw [e1] at hg
        cases hg
        exact .inl (.inr (.inr ⟨zz, i, c, rfl, rfl, hz, e1, k _ F H Stp.refl S (.str _)⟩))
    · cases hg
  · rename_i ds _
    cases e1 : keyOf e with
    | none => rw [e1] at hg; cases hg
    | some k' =>
      rw [e1] at hg
      obtain ⟨a, kvs, rfl, h1, r1⟩ := rx.dict S
      have ey := rp_key e1 (ry.ex S)
      subst ey
      rcases r1.val k' with ⟨_, v2⟩ | ⟨v0, d0, v1, v2, r0⟩
      · simp only [Option.bind_some] at hg
        rw [v2] at hg; cases hg
      · simp only [Option.bind_some] at hg
        rw [v2] at hg; cases hg
        refine .inr ⟨a, v0, rfl, ?_, k v0 F H Stp.refl S r0⟩
        rw [← v1]
        exact DGet.k h1
  · cases hg
theorem ev_idx {a b : Expr} {fa fb} {Ra Rb Ma Mb : List Nat} (hu : X.A.units + 1 < cLine) (ha : EV X a fa Ra Ma) (hb : EV X b fb Rb Mb) (dj : ∀ i ∈ Ra, i ∉ Mb := by decide) (hs : PlainIx b := by intro _ _; rfl) : EV X (.Subscript a b pos) (f2 idxD fa fb) [] (Ma ++ Mb) := by
  obtain ⟨ta, tb, pa, pb, q⟩ := two (g := idxD) ha hb dj
  refine ⟨_, pe_ix (ix_4 hu) pa pb hs, fun Y F H δ σ A S z δ' e Q k => ?_⟩
  refine q Y F H δ σ A S z δ' e _ fun x y d e F1 H1 st S1 r1 r2 hg => ?_
  refine os_idx Y F1 H1 δ' σ A _ x y d e z S1 r1 r2 hg Q fun v F2 H2 st2 S2 r3 => ?_
  exact k v F2 H2 (stp_nil S1 st st2) S2 (.inl r3)

/-! ### a[lo:hi] -/
/-- a slice's end -/
def OV (X : Cx) (e : Option Expr) (f : List Sl → Option (Option Int × List Sl)) (M : List Nat) : Prop :=
  ∃ t, PO X e t ∧ ∀ (Y : Fx) (F H : Hp) (δ : List Sl) (σ : L2.St) (A : Nat → List Addr), SR X.K Y F H δ σ A → ∀ (d : Option Int) (δ' : List Sl), f δ = some (d, δ') → ∀ Q : Option Int → Hp → Prop,
    (∀ F' H', Stp A M F H F' H' → SR X.K Y F' H' δ' σ A → Q d H') → t σ H Q
def oNone : List Sl → Option (Option Int × List Sl) := fun δ => some (none, δ)
def oSome (fa : List Sl → Option (D × List Sl)) : List Sl → Option (Option Int × List Sl) := fun δ => (fa δ).bind fun p => match p.1 with | .int i => some (some i, p.2) | _ => none
theorem ov_none : OV X none oNone [] := by
  refine ⟨_, po_none, fun Y F H δ σ A S d δ' e Q k => ?_⟩
  cases e
  exact k F H Stp.refl S
theorem ov_some {a : Expr} {fa} {R M : List Nat} (ha : EV X a fa R M) : OV X (some a) (oSome fa) M := by
  obtain ⟨t, p, q⟩ := ha
  refine ⟨_, po_some p, fun Y F H δ σ A S d δ' e Q k => ?_⟩
  unfold oSome at e
  cases e1 : fa δ with
  | none => rw [e1] at e; cases e
  | some p =>
    obtain ⟨d1, δ1⟩ := p
    rw [e1] at e
    refine q Y F H δ σ A S d1 δ1 e1 _ fun v F1 H1 st S1 r => ?_
    cases d1 with
    | int i =>
      cases e
      exact ⟨i, r.int, k F1 H1 st S1⟩
    | _ => cases e
/-- the piece -/
def cutL {α : Type} (xs : List α) (lo hi : Option Int) : List α := (xs.drop (HT.sIx xs.length 0 lo)).take (HT.sIx xs.length xs.length hi - HT.sIx xs.length 0 lo)
theorem Rps.cut {K : PySem.W.Frag} {G : Hp} {xs : List V} {ds : List D} (h : Rps K G xs ds) (lo hi : Option Int) : Rps K G (cutV xs lo hi) (cutL ds lo hi) := by
  unfold cutV cutL
  rw [h.length]
  exact (h.drop _).take _
def slcD (d : D) (lo hi : Option Int) : Option D :=
  match d with
  | .list ds => some (.list (cutL ds lo hi))
  | .tuple ds => some (.tuple (cutL ds lo hi))
  | .str z => if z.length ≤ sizeLine then some (.str (cutS z lo hi)) else none
  | _ => none
def slcL (d : D) (lo hi : Option Int) : Option D :=
  match d with
  | .list ds => some (.list (cutL ds lo hi))
  | _ => none
def f3 (g : D → Option Int → Option Int → Option D) (fa : List Sl → Option (D × List Sl)) (fl fh : List Sl → Option (Option Int × List Sl)) : List Sl → Option (D × List Sl) := fun δ => (fa δ).bind fun p => (fl p.2).bind fun q => (fh q.2).bind fun r => (g p.1 q.1 r.1).map fun z => (z, r.2)
theorem f3_some {g : D → Option Int → Option Int → Option D} {fa fl fh} {δ δ' : List Sl} {z : D} (h : f3 g fa fl fh δ = some (z, δ')) : ∃ d δ1 lo δ2 hi, fa δ = some (d, δ1) ∧ fl δ1 = some (lo, δ2) ∧ fh δ2 = some (hi, δ') ∧ g d lo hi = some z := by
  unfold f3 at h
  cases e1 : fa δ with
  | none => rw [e1] at h; cases h
  | some p =>
    obtain ⟨d, δ1⟩ := p
    rw [e1] at h
    simp only [Option.bind_some] at h
    cases e2 : fl δ1 with
    | none => rw [e2] at h; cases h
    | some q =>
      obtain ⟨lo, δ2⟩ := q
      rw [e2] at h
      simp only [Option.bind_some] at h
      cases e3 : fh δ2 with
      | none => rw [e3] at h; cases h
      | some q =>
        obtain ⟨hi, δ3⟩ := q
        rw [e3] at h
        simp only [Option.bind_some] at h
        cases e4 : g d lo hi with
        | none => rw [e4] at h; cases h
        | some w =>
          rw [e4] at h
          cases h
          exact ⟨d, δ1, lo, δ2, hi, rfl, e2, e3, e4⟩
def rSl3 (K : PySem.W.Frag) : V → Option Int → Option Int → Hp → VK → Prop := fun x lo hi H Q => rSlL K x lo hi H Q ∨ rSlA K x lo hi H Q ∨ ∃ z, x = .str z ∧ z.length ≤ sizeLine ∧ Q (.str (cutS z lo hi)) H
theorem cut_all {α : Type} (xs : List α) (lo hi : Option Int) (h : HT.sIx xs.length 0 lo = 0 ∧ HT.sIx xs.length xs.length hi = xs.length) : cutL xs lo hi = xs := by
  unfold cutL
  rw [h.1, h.2]
  simp
theorem sl_3 : SlR X (rSl3 X.K) := sl_list.or (sl_tupA.or sl_str)
theorem ev_slice {a : Expr} {lo hi : Option Expr} {fa fl fh} {R M Ml Mh : List Nat} {p2 : Pos} (ha : EV X a fa R M) (hl : OV X lo fl Ml) (hh : OV X hi fh Mh) (d1 : ∀ i ∈ R, i ∉ Ml := by decide) (d2 : ∀ i ∈ R, i ∉ Mh := by decide) : EV X (.Subscript a (.Slice lo hi none p2) pos) (f3 slcD fa fl fh) [] (M ++ Ml ++ Mh) := by
  obtain ⟨t, p, q⟩ := ha
  obtain ⟨tl, pl, ql⟩ := hl
  obtain ⟨th, ph, qh⟩ := hh
  refine ⟨_, pe_slice sl_3 p pl ph, fun Y F H δ σ A S z δ' e Q k => ?_⟩
  obtain ⟨d, δ1, l, δ2, h, e1, e2, e3, e4⟩ := f3_some e
  refine q Y F H δ σ A S d δ1 e1 _ fun x F1 H1 st1 S1 r1 => ?_
  refine ql Y F1 H1 δ1 σ A S1 l δ2 e2 _ fun F2 H2 st2 S2 => ?_
  refine qh Y F2 H2 δ2 σ A S2 h δ' e3 _ fun F3 H3 st3 S3 => ?_
  have st : Stp A (M ++ Ml ++ Mh) F H F3 H3 := (st1.trans S1 st2).trans S2 st3
  have r3 : Vw X.K F3 H3 A R x d := (r1.step S1 st2 d1).step S2 st3 d2
  unfold slcD at e4
  split at e4
  · cases e4
    obtain ⟨a', xs, rfl, h1, r⟩ := r3.list S3
    exact .inl ⟨a', xs, rfl, SqL.of h1, fun p hp => k _ _ _ (stp_nil S3 st (Stp.laid S3 hp)) (S3.laid hp) (.inl (.lst upd_same ((r.cut l h).mono (Stp.laid (M := []) S3 hp).f)))⟩
  · cases e4
    obtain ⟨a', xs, rfl, h0, h1, r⟩ := r3.tup S3
    refine .inr (.inl ⟨a', xs, rfl, h1, fun c => ?_, fun c p hp => ?_⟩)
    · refine k _ F3 H3 st S3 (.inl ?_)
      rw [r.length] at c
      rw [cut_all _ _ _ c]
      exact .tup h0 r
    · exact k _ _ _ (stp_nil S3 st (Stp.laid S3 hp)) (S3.laid hp) (.inl (.tup (.inl (.inl upd_same)) ((r.cut l h).mono (Stp.laid (M := []) S3 hp).f)))
  · split at e4
    · rename_i hz
      cases e4
      exact .inr (.inr ⟨_, r3.str, hz, k _ F3 H3 st S3 (.inl (.str _))⟩)
    · cases e4
  · cases e4
theorem back {K : PySem.W.Frag} {Y : Fx} {F H F1 H1 : Hp} {δ1 : List Sl} {σ : L2.St} {A : Nat → List Addr} {M : List Nat} {p : Addr} (st : Stp A M F H F1 H1) (S1 : SR K Y F1 H1 δ1 σ A) (n : H1 p = none) : H p = none := by
  cases e5 : H p with
  | none => rfl
  | some o =>
    by_cases c : ∃ i, p ∈ A i
    · obtain ⟨i, hi⟩ := c
      exact absurd n (S1.isSome hi)
    · have := st.kp p o e5 fun i _ hi => c ⟨i, hi⟩
      rw [n] at this
      cases this
theorem nv_slice {a : Expr} {lo hi : Option Expr} {fa fl fh} {R M Ml Mh : List Nat} {p2 : Pos} (ha : EV X a fa R M) (hl : OV X lo fl Ml) (hh : OV X hi fh Mh) (d1 : ∀ i ∈ R, i ∉ Ml := by decide) (d2 : ∀ i ∈ R, i ∉ Mh := by decide) : NV X (.Subscript a (.Slice lo hi none p2) pos) (f3 slcL fa fl fh) (M ++ Ml ++ Mh) := by
  obtain ⟨t, p, q⟩ := ha
  obtain ⟨tl, pl, ql⟩ := hl
  obtain ⟨th, ph, qh⟩ := hh
  refine ⟨_, pe_slice sl_list p pl ph, fun Y F H δ σ A S z δ' e Q k => ?_⟩
  obtain ⟨d, δ1, l, δ2, h, e1, e2, e3, e4⟩ := f3_some e
  refine q Y F H δ σ A S d δ1 e1 _ fun x F1 H1 st1 S1 r1 => ?_
  refine ql Y F1 H1 δ1 σ A S1 l δ2 e2 _ fun F2 H2 st2 S2 => ?_
  refine qh Y F2 H2 δ2 σ A S2 h δ' e3 _ fun F3 H3 st3 S3 => ?_
  have st : Stp A (M ++ Ml ++ Mh) F H F3 H3 := (st1.trans S1 st2).trans S2 st3
  have r3 : Vw X.K F3 H3 A R x d := (r1.step S1 st2 d1).step S2 st3 d2
  unfold slcL at e4
  split at e4
  · cases e4
    obtain ⟨a', xs, rfl, h1, r⟩ := r3.list S3
    exact ⟨a', xs, rfl, SqL.of h1, fun p hp => k p F3 _ (stp_nil S3 st (Stp.laidO hp)) (S3.laidO hp) (back st S3 hp) (S3.sub.free hp) ⟨_, upd_same, r.cut l h⟩⟩
  · cases e4

/-! ### calls of built-ins by values -/
def CallS (X : Cx) (r : List V → Hp → VK → Prop) (g : List D → Option D) : Prop :=
  ∀ (Y : Fx) (F H : Hp) (δ : List Sl) (σ : L2.St) (A : Nat → List Addr) (R : List Nat) (xs : List V) (ds : List D) (z : D), SR X.K Y F H δ σ A → Vws X.K F H A R xs ds → g ds = some z →
    ∀ Q : VK, (∀ v F' H', Stp A [] F H F' H' → SR X.K Y F' H' δ σ A → Rp X.K F' v z → Q v H') → r xs H Q
def CallN (X : Cx) (r : List V → Hp → VK → Prop) (g : List D → Option D) : Prop :=
  ∀ (Y : Fx) (F H : Hp) (δ : List Sl) (σ : L2.St) (A : Nat → List Addr) (R : List Nat) (xs : List V) (ds : List D) (z : D), SR X.K Y F H δ σ A → Vws X.K F H A R xs ds → g ds = some z →
    ∀ Q : VK, (∀ p F' H', Stp A [] F H F' H' → SR X.K Y F' H' δ σ A → H p = none → F' p = none → OwnR X.K F' H' p z → Q (.ref p) H') → r xs H Q
def fA (g : List D → Option D) (f : List Sl → Option (List D × List Sl)) : List Sl → Option (D × List Sl) := fun δ => (f δ).bind fun p => (g p.1).map fun z => (z, p.2)
theorem fA_some {g : List D → Option D} {f : List Sl → Option (List D × List Sl)} {δ δ' : List Sl} {z : D} (h : fA g f δ = some (z, δ')) : ∃ d, f δ = some (d, δ') ∧ g d = some z := by
  unfold fA at h
  cases e1 : f δ with
  | none => rw [e1] at h; cases h
  | some p =>
    obtain ⟨d, δ1⟩ := p
    rw [e1] at h
    simp only [Option.bind_some] at h
    cases e3 : g d with
    | none => rw [e3] at h; cases h
    | some w =>
      rw [e3] at h
      cases h
      exact ⟨d, rfl, e3⟩
section
variable {x : Str} {id T : String} {e : Expr} {es : List Expr} {f : List Sl → Option (List D × List Sl)} {R M : List Nat} {r : List V → Hp → VK → Prop} {g : List D → Option D} {p : Pos}
/-- a built-in's name, not stored over by the module -/
structure Bn (X : Cx) (x : Str) (v : Value) : Prop where
  gl : Gl X x
  mg : X.mg x = none
  bt : bootBuiltins x = some v
  nn : x ≠ "__name__"
  db : (x == ("__debug__" : Str)) = false
theorem ev_callB (b : Bn X x (.builtin id)) (hc : CallR X (.builtin id) r) (hs : CallS X r g) (ha : AV X (e :: es) f R M) (h1 : starEach (e :: es) X.env = (false, eval e X.env) :: starEach es X.env := by rfl) (h2 : (backTo pos (starEach es X.env)).any (·.1) = false := by rfl) : EV X (.Call (.Name x p) (e :: es) [] pos) (fA g f) [] M := by
  obtain ⟨t, pa, q⟩ := ha
  refine ⟨_, pe_callB hc b.gl b.mg b.bt pa b.nn b.db h1 h2, fun Y F H δ σ A S z δ' e Q k => ?_⟩
  obtain ⟨d, e1, e2⟩ := fA_some e
  refine q Y F H δ σ A S d δ' e1 _ fun vs F1 H1 st S1 r1 => ?_
  exact hs Y F1 H1 δ' σ A _ vs d z S1 r1 e2 Q fun v F2 H2 st2 S2 r3 => k v F2 H2 (stp_nil S1 st st2) S2 (.inl r3)
theorem nv_callB (b : Bn X x (.builtin id)) (hc : CallR X (.builtin id) r) (hs : CallN X r g) (ha : AV X (e :: es) f R M) (h1 : starEach (e :: es) X.env = (false, eval e X.env) :: starEach es X.env := by rfl) (h2 : (backTo pos (starEach es X.env)).any (·.1) = false := by rfl) : NV X (.Call (.Name x p) (e :: es) [] pos) (fA g f) M := by
  obtain ⟨t, pa, q⟩ := ha
  refine ⟨_, pe_callB hc b.gl b.mg b.bt pa b.nn b.db h1 h2, fun Y F H δ σ A S z δ' e Q k => ?_⟩
  obtain ⟨d, e1, e2⟩ := fA_some e
  refine q Y F H δ σ A S d δ' e1 _ fun vs F1 H1 st S1 r1 => ?_
  exact hs Y F1 H1 δ' σ A _ vs d z S1 r1 e2 Q fun v F2 H2 st2 S2 n f3 r3 => k v F2 H2 (stp_nil S1 st st2) S2 (back st S1 n) f3 r3
theorem ev_callT (b : Bn X x (.type T)) (hc : CallR X (.type T) r) (hs : CallS X r g) (ha : AV X (e :: es) f R M) (h1 : starEach (e :: es) X.env = (false, eval e X.env) :: starEach es X.env := by rfl) (h2 : (backTo pos (starEach es X.env)).any (·.1) = false := by rfl) : EV X (.Call (.Name x p) (e :: es) [] pos) (fA g f) [] M := by
  obtain ⟨t, pa, q⟩ := ha
  refine ⟨_, pe_callTy hc b.gl b.mg b.bt pa b.nn b.db h1 h2, fun Y F H δ σ A S z δ' e Q k => ?_⟩
  obtain ⟨d, e1, e2⟩ := fA_some e
  refine q Y F H δ σ A S d δ' e1 _ fun vs F1 H1 st S1 r1 => ?_
  exact hs Y F1 H1 δ' σ A _ vs d z S1 r1 e2 Q fun v F2 H2 st2 S2 r3 => k v F2 H2 (stp_nil S1 st st2) S2 (.inl r3)
theorem nv_callT (b : Bn X x (.type T)) (hc : CallR X (.type T) r) (hs : CallN X r g) (ha : AV X (e :: es) f R M) (h1 : starEach (e :: es) X.env = (false, eval e X.env) :: starEach es X.env := by rfl) (h2 : (backTo pos (starEach es X.env)).any (·.1) = false := by rfl) : NV X (.Call (.Name x p) (e :: es) [] pos) (fA g f) M := by
  obtain ⟨t, pa, q⟩ := ha
  refine ⟨_, pe_callTy hc b.gl b.mg b.bt pa b.nn b.db h1 h2, fun Y F H δ σ A S z δ' e Q k => ?_⟩
  obtain ⟨d, e1, e2⟩ := fA_some e
  refine q Y F H δ σ A S d δ' e1 _ fun vs F1 H1 st S1 r1 => ?_
  exact hs Y F1 H1 δ' σ A _ vs d z S1 r1 e2 Q fun v F2 H2 st2 S2 n f3 r3 => k v F2 H2 (stp_nil S1 st st2) S2 (back st S1 n) f3 r3
end
end
end Z

/-! Z6: built-in functions, on data. -/
namespace Z
open PySem PySem.Spec PyProof.Rows L2
section
variable {X : Cx}
theorem Vws.one {K : PySem.W.Frag} {F H : Hp} {A : Nat → List Addr} {R : List Nat} {vs : List V} {d : D} (h : Vws K F H A R vs [d]) : ∃ v, vs = [v] ∧ Vw K F H A R v d := by
  match vs, h with
  | [v], ⟨h, _⟩ => exact ⟨v, rfl, h⟩
  | [], h => exact h.elim
  | _ :: _ :: _, ⟨_, h⟩ => exact h.elim
theorem Vws.two {K : PySem.W.Frag} {F H : Hp} {A : Nat → List Addr} {R : List Nat} {vs : List V} {d e : D} (h : Vws K F H A R vs [d, e]) : ∃ v u, vs = [v, u] ∧ Vw K F H A R v d ∧ Vw K F H A R u e := by
  match vs, h with
  | v :: r, ⟨h, h'⟩ =>
    obtain ⟨u, rfl, h2⟩ := Vws.one h'
    exact ⟨v, u, rfl, h, h2⟩
  | [], h => exact h.elim
theorem Vws.exs {K : PySem.W.Frag} {Y : Fx} {F H : Hp} {δ : List Sl} {σ : L2.St} {A : Nat → List Addr} {R : List Nat} (S : SR K Y F H δ σ A) : ∀ {vs : List V} {ds : List D}, Vws K F H A R vs ds → Rps K (ex R A F H) vs ds
  | [], [], _ => .nil
  | v :: vs, d :: ds, ⟨h, r⟩ => .cons (h.ex S) (Vws.exs S r)
  | [], _ :: _, h => h.elim
  | _ :: _, [], h => h.elim

/-- one argument -/
def g1 (g : D → Option D) : List D → Option D
  | [d] => g d
  | _ => none
def g2 (g : D → D → Option D) : List D → Option D
  | [d, e] => g d e
  | _ => none
theorem g1_some {g : D → Option D} {ds : List D} {z : D} (h : g1 g ds = some z) : ∃ d, ds = [d] ∧ g d = some z := by
  unfold g1 at h
  split at h
  · exact ⟨_, rfl, h⟩
  · cases h
theorem g2_some {g : D → D → Option D} {ds : List D} {z : D} (h : g2 g ds = some z) : ∃ d e, ds = [d, e] ∧ g d e = some z := by
  unfold g2 at h
  split at h
  · exact ⟨_, _, rfl, h⟩
  · cases h

/-! len -/
def lenD : D → Option D
  | .list ds => some (.int ds.length)
  | .tuple ds => some (.int ds.length)
  | .str z => if z.length ≤ sizeLine then some (.int z.length) else none
  | _ => none
def rLen (K : PySem.W.Frag) : List V → Hp → VK → Prop := fun xs H Q => (∃ p ys, xs = [.ref p] ∧ (SqL K H p ys ∨ SqT K H p ys) ∧ Q (.int ys.length) H) ∨ ∃ z, xs = [.str z] ∧ z.length ≤ sizeLine ∧ Q (.int z.length) H
theorem cr_len : CallR X (.builtin "len") (rLen X.K) := call_len_seq.or call_len_str
theorem cs_len : CallS X (rLen X.K) (g1 lenD) := by
  intro Y F H δ σ A R xs ds z S r hg Q k
  obtain ⟨d, rfl, hg'⟩ := g1_some hg
  clear hg
  have hg := hg'
  obtain ⟨v, rfl, rv⟩ := r.one
  unfold lenD at hg
  split at hg
  · cases hg
    obtain ⟨a, ys, rfl, h1, r1⟩ := rv.list S
    refine .inl ⟨a, ys, rfl, .inl (SqL.of h1), ?_⟩
    rw [r1.length]
    exact k _ F H Stp.refl S (.int _)
  · cases hg
    obtain ⟨a, ys, rfl, _, h1, r1⟩ := rv.tup S
    refine .inl ⟨a, ys, rfl, .inr h1, ?_⟩
    rw [r1.length]
    exact k _ F H Stp.refl S (.int _)
  · split at hg
    · rename_i hz
      cases hg
      exact .inr ⟨_, by rw [rv.str], hz, k _ F H Stp.refl S (.int _)⟩
    · cases hg
  · cases hg

/-! list, tuple -/
def listD : D → Option D
  | .list ds => some (.list ds)
  | .tuple ds => some (.list ds)
  | _ => none
def tupD : D → Option D
  | .list ds => some (.tuple ds)
  | .tuple ds => some (.tuple ds)
  | _ => none
def rList (K : PySem.W.Frag) : List V → Hp → VK → Prop := fun xs H Q => ∃ p ys, xs = [.ref p] ∧ (SqL K H p ys ∨ SqT K H p ys) ∧ ∀ l, H l = none → Q (.ref l) (upd H l (.lst ys))
theorem cr_list : CallR X (.type "list") (rList X.K) := call_list_of
theorem cn_list : CallN X (rList X.K) (g1 listD) := by
  intro Y F H δ σ A R xs ds z S r hg Q k
  obtain ⟨d, rfl, hg'⟩ := g1_some hg
  clear hg
  have hg := hg'
  obtain ⟨v, rfl, rv⟩ := r.one
  unfold listD at hg
  split at hg
  · cases hg
    obtain ⟨a, ys, rfl, h1, r1⟩ := rv.list S
    exact ⟨a, ys, rfl, .inl (SqL.of h1), fun p hp => k p F _ (Stp.laidO hp) (S.laidO hp) hp (S.sub.free hp) ⟨_, upd_same, r1⟩⟩
  · cases hg
    obtain ⟨a, ys, rfl, _, h1, r1⟩ := rv.tup S
    exact ⟨a, ys, rfl, .inr h1, fun p hp => k p F _ (Stp.laidO hp) (S.laidO hp) hp (S.sub.free hp) ⟨_, upd_same, r1⟩⟩
  · cases hg
def rTuple (K : PySem.W.Frag) : List V → Hp → VK → Prop := fun xs H Q => ∃ p ys, xs = [.ref p] ∧ ((SqL K H p ys ∧ ∀ l, H l = none → Q (.ref l) (upd H l (.tup ys))) ∨ (SqT K H p ys ∧ Q (.ref p) H))
theorem cr_tuple : CallR X (.type "tuple") (rTuple X.K) := call_tuple_of
theorem cs_tuple : CallS X (rTuple X.K) (g1 tupD) := by
  intro Y F H δ σ A R xs ds z S r hg Q k
  obtain ⟨d, rfl, hg'⟩ := g1_some hg
  clear hg
  have hg := hg'
  obtain ⟨v, rfl, rv⟩ := r.one
  unfold tupD at hg
  split at hg
  · cases hg
    obtain ⟨a, ys, rfl, h1, r1⟩ := rv.list S
    exact ⟨a, ys, rfl, .inl ⟨SqL.of h1, fun p hp => k _ _ _ (Stp.laid S hp) (S.laid hp) (.tup (.inl (.inl upd_same)) (r1.mono (Stp.laid (M := []) S hp).f))⟩⟩
  · cases hg
    obtain ⟨a, ys, rfl, h0, h1, r1⟩ := rv.tup S
    exact ⟨a, ys, rfl, .inr ⟨h1, k _ F H Stp.refl S (.tup h0 r1)⟩⟩
  · cases hg

/-! int, str, abs, max, min, sum -/
def intD : D → Option D
  | .int i => some (.int i)
  | .bool b => some (.int (if b then 1 else 0))
  | _ => none
def rInt : List V → Hp → VK → Prop := fun xs H Q => (∃ i, xs = [.int i] ∧ Q (.int i) H) ∨ ∃ k, xs = [.bl k] ∧ Q (.int (if k then 1 else 0)) H
theorem cr_int : CallR X (.type "int") rInt := call_int1
theorem cs_int : CallS X rInt (g1 intD) := by
  intro Y F H δ σ A R xs ds z S r hg Q k
  obtain ⟨d, rfl, hg'⟩ := g1_some hg
  clear hg
  have hg := hg'
  obtain ⟨v, rfl, rv⟩ := r.one
  unfold intD at hg
  split at hg
  · cases hg
    exact .inl ⟨_, by rw [rv.int], k _ F H Stp.refl S (.int _)⟩
  · cases hg
    exact .inr ⟨_, by rw [rv.bl], k _ F H Stp.refl S (.int _)⟩
  · cases hg
def strD : D → Option D
  | .int i => if i.natAbs.log2 < 1920 then some (.str (toString i)) else none
  | _ => none
def rStrI : List V → Hp → VK → Prop := fun xs H Q => ∃ i, xs = [.int i] ∧ i.natAbs.log2 < 1920 ∧ Q (.str (toString i)) H
theorem cr_str : CallR X (.type "str") rStrI := call_str_int
theorem cs_str : CallS X rStrI (g1 strD) := by
  intro Y F H δ σ A R xs ds z S r hg Q k
  obtain ⟨d, rfl, hg'⟩ := g1_some hg
  clear hg
  have hg := hg'
  obtain ⟨v, rfl, rv⟩ := r.one
  unfold strD at hg
  split at hg
  · split at hg
    · rename_i hz
      cases hg
      exact ⟨_, by rw [rv.int], hz, k _ F H Stp.refl S (.str _)⟩
    · cases hg
  · cases hg
def maxD : D → D → Option D
  | .int i, .int j => some (.int (if j > i then j else i))
  | _, _ => none
def minD : D → D → Option D
  | .int i, .int j => some (.int (if j < i then j else i))
  | _, _ => none
def rMax2 : List V → Hp → VK → Prop := fun xs H Q => ∃ i j, xs = [.int i, .int j] ∧ Q (.int (if j > i then j else i)) H
def rMin2 : List V → Hp → VK → Prop := fun xs H Q => ∃ i j, xs = [.int i, .int j] ∧ Q (.int (if j < i then j else i)) H
theorem cr_max2 (hc : X.calm = true) : CallR X (.builtin "max") rMax2 := call_max2 hc
theorem cr_min2 (hc : X.calm = true) : CallR X (.builtin "min") rMin2 := call_min2 hc
theorem cs_max2 : CallS X rMax2 (g2 maxD) := by
  intro Y F H δ σ A R xs ds z S r hg Q k
  obtain ⟨d, e, rfl, hg'⟩ := g2_some hg
  clear hg
  have hg := hg'
  obtain ⟨v, u, rfl, r1, r2⟩ := r.two
  unfold maxD at hg
  split at hg
  · cases hg
    exact ⟨_, _, by rw [r1.int, r2.int], k _ F H Stp.refl S (.int _)⟩
  · cases hg
theorem cs_min2 : CallS X rMin2 (g2 minD) := by
  intro Y F H δ σ A R xs ds z S r hg Q k
  obtain ⟨d, e, rfl, hg'⟩ := g2_some hg
  clear hg
  have hg := hg'
  obtain ⟨v, u, rfl, r1, r2⟩ := r.two
  unfold minD at hg
  split at hg
  · cases hg
    exact ⟨_, _, by rw [r1.int, r2.int], k _ F H Stp.refl S (.int _)⟩
  · cases hg
def intsOf : List D → Option (List Int)
  | [] => some []
  | .int i :: r => (intsOf r).map (i :: ·)
  | _ :: _ => none
theorem intsOf_some : ∀ {ds : List D} {ns : List Int}, intsOf ds = some ns → ds = ns.map PyData.int
  | [], _, h => by cases h; rfl
  | d :: r, ns, h => by
    cases d with
    | int i =>
      unfold intsOf at h
      cases e : intsOf r with
      | none => rw [e] at h; cases h
      | some m =>
        rw [e] at h
        cases h
        rw [intsOf_some e]
        rfl
    | _ => cases h
theorem intsOf_map : ∀ ns : List Int, intsOf (ns.map PyData.int) = some ns
  | [] => rfl
  | n :: ns => by
    show (intsOf (ns.map PyData.int)).map (n :: ·) = _
    rw [intsOf_map ns]
    rfl
def sumD : D → Option D
  | .list ds => (intsOf ds).map fun ns => .int ns.sum
  | _ => none
theorem cr_sumL (hc : X.calm = true) : CallR X (.builtin "sum") (rSum X.K) := cr_sum hc
theorem cs_sum : CallS X (rSum X.K) (g1 sumD) := by
  intro Y F H δ σ A R xs ds z S r hg Q k
  obtain ⟨d, rfl, hg'⟩ := g1_some hg
  clear hg
  have hg := hg'
  obtain ⟨v, rfl, rv⟩ := r.one
  unfold sumD at hg
  split at hg
  · rename_i ds'
    cases e : intsOf ds' with
    | none => rw [e] at hg; cases hg
    | some ns =>
      rw [e] at hg
      cases hg
      have e2 := intsOf_some e
      subst e2
      obtain ⟨a, ys, rfl, h1, r1⟩ := rv.list S
      have e3 := r1.ints
      subst e3
      exact ⟨a, ns, rfl, SqL.of h1, k _ F H Stp.refl S (.int _)⟩
  · cases hg

/-! repr -/
def reprD (d : D) : Option D := if d.showable && (!d.hasDict) && decide (d.shown.length ≤ sizeLine) && decide (d.depth ≤ 64) then some (.str d.shown) else none
def rRepr (X : Cx) : List V → Hp → VK → Prop := fun xs H Q => ∃ x G d, xs = [x] ∧ Same G H ∧ Rp X.K G x d ∧ d.showable = true ∧ d.hasDict = false ∧ d.shown.length ≤ sizeLine ∧ d.depth ≤ 64 ∧ Q (.str d.shown) H
theorem cr_repr (hg : X.A.guards = some []) (hu : X.A.units + 66 < cLine) : CallR X (.builtin "repr") (rRepr X) := by
  intro pins s σ H xs us Q I r h
  obtain ⟨x, G, d, rfl, sG, rp, h1, h2, h3, h4, q⟩ := h
  obtain ⟨u, rfl, rx⟩ := vals1 r
  obtain ⟨as, rd⟩ := Rp.reads I sG d x u rp rx
  have go : ∀ a, u = .ref a → wpAny (model X.prog X.w) X.A (call (.builtin "repr") [u]) (EP X pins σ Q) X.xe s := fun a e => by
    subst e
    exact repr_of_reads' rd h1 (fun z => by rw [h2] at z; cases z) hg (by omega) (fun _ _ e => e) (fun h' t tk hk => ⟨.str d.shown, H, I.kept (t' := tk) hk, ⟨_, rfl⟩, q⟩) h3
  cases rp with
  | int i =>
    obtain ⟨t, rfl⟩ := rx
    exact PySem.P.repr_of_int (by simpa [PyData.showable] using h1) ⟨.str _, H, I.tok _, ⟨_, rfl⟩, q⟩
  | lst _ _ => exact go _ rx
  | tup _ _ => exact go _ rx
  | dic _ _ => exact go _ rx
  | non => cases rx; exact PySem.P.repr_of_none ⟨.str _, H, I.tok _, ⟨_, rfl⟩, q⟩
  | bl b => cases rx; exact PySem.P.repr_of_bool ⟨.str _, H, I.tok _, ⟨_, rfl⟩, q⟩
  | str z => obtain ⟨t, rfl⟩ := rx; exact PySem.P.repr_of_str ⟨.str _, H, I.tok _, ⟨_, rfl⟩, q⟩ h3
theorem cs_repr : CallS X (rRepr X) (g1 reprD) := by
  intro Y F H δ σ A R xs ds z S r hg Q k
  obtain ⟨d, rfl, hg'⟩ := g1_some hg
  obtain ⟨v, rfl, rv⟩ := r.one
  unfold reprD at hg'
  split at hg'
  · rename_i c
    cases hg'
    simp only [Bool.and_eq_true, decide_eq_true_eq, Bool.not_eq_true'] at c
    exact ⟨v, _, d, rfl, ex_sub S, rv.ex S, c.1.1.1, c.1.1.2, c.1.2, c.2, k _ F H Stp.refl S (.str _)⟩
  · cases hg'

/-! sorted -/
theorem each_rps {K : PySem.W.Frag} {G : Hp} : ∀ {us : List Value} {ds : List D}, PySem.W.EachIs (fun u d => ∃ x, RelV x u ∧ Rp K G x d) us ds → ∃ xs, Vals xs us ∧ Rps K G xs ds
  | _, _, .nil => ⟨[], .nil, .nil⟩
  | _, _, .cons ⟨x, h1, h2⟩ t => by
    obtain ⟨xs, q1, q2⟩ := each_rps t
    exact ⟨x :: xs, .cons h1 q1, .cons h2 q2⟩
theorem rps_each {K : PySem.W.Frag} {G : Hp} : ∀ {xs : List V} {us : List Value} {ds : List D}, Vals xs us → Rps K G xs ds → PySem.W.EachIs (fun u d => ∃ x, RelV x u ∧ Rp K G x d) us ds
  | _, _, _, .nil, .nil => .nil
  | _, _, _, .cons h1 t1, .cons h2 t2 => .cons ⟨_, h1, h2⟩ (rps_each t1 t2)
def alikeB (ds : List D) : Bool := ds.all fun d => ds.all fun e => PySem.W.alike d e
def sortB (ds : List D) : Bool := (ds.all fun d => match d with | .tuple (_ :: _) => true | _ => false) || ds.all fun d => match d with | .int _ => true | .str _ => true | .bool _ => true | _ => false
theorem sortB_ok {ds : List D} (h : sortB ds = true) : PySem.W.Sortable ds := by
  unfold sortB at h
  rw [Bool.or_eq_true] at h
  rcases h with h | h
  · refine .inl fun d hd => ?_
    have := List.all_eq_true.mp h d hd
    split at this
    · exact ⟨_, _, rfl⟩
    · cases this
  · refine .inr fun d hd => ?_
    have := List.all_eq_true.mp h d hd
    split at this
    · exact ⟨by simp, by simp⟩
    · exact ⟨by simp, by simp⟩
    · exact ⟨by simp, by simp⟩
    · cases this
def sortL (ds : List D) : List D := ds.mergeSort (PySem.W.dataLe false id)
def sortD : D → Option D
  | .list ds => if alikeB ds && sortB ds && ds.all (fun d => decide (d.depth ≤ 64)) then some (.list (sortL ds)) else none
  | _ => none
def rSortD (X : Cx) : List V → Hp → VK → Prop := fun vs H Q => ∃ (a : Addr) (xs : List V) (G : Hp) (ds : List D), vs = [V.ref a] ∧ H a = some (.lst xs) ∧ Same G H ∧ Rps X.K G xs ds ∧ alikeB ds = true ∧ sortB ds = true ∧ (∀ d ∈ ds, d.depth ≤ 64) ∧
  ∀ (ys : List V) (p : Addr), H p = none → Rps X.K G ys (sortL ds) → Q (.ref p) (upd H p (.lst ys))
theorem cr_sortD (hu : X.A.units + 67 < cLine) : CallR X (.builtin "sorted") (rSortD X) := by
  intro pins s σ H vs us Q I r h
  obtain ⟨a, xs, G, ds, rfl, hs, sG, rp, h1, h2, h3, q⟩ := h
  obtain ⟨its, rv, hl, hz⟩ := I.list (SqL.of hs)
  rw [Vals.ref1 r]
  have hE := rps_each rv rp
  have hal : PySem.W.AllAlike (ds.map id) := by
    rw [List.map_id]
    intro d hd d' hd'
    exact List.all_eq_true.mp (List.all_eq_true.mp h1 d hd) d' hd'
  refine PySem.W.sorted_data (R := fun u d => ∃ x, RelV x u ∧ Rp X.K G x d) (enc := id) (bs := ds) hl.isList hE (hE.mono fun u d ⟨x, q1, q2⟩ => Rp.reads I sG d x u q2 q1) hal (by rw [List.map_id]; exact sortB_ok h2) (by rw [← rp.length]; exact hz) (fun b hb => by
    have := h3 b hb
    show X.A.units + 2 + b.depth < cLine
    omega) fun out ho eo => ?_
  obtain ⟨ys, q1, q2⟩ := each_rps eo
  obtain ⟨ep, he'⟩ := PyProof.Rows.sortedAll_at s.heap its (List.toArray out)
  have hlen : ys.length ≤ sizeLine := by rw [q1.length, ho, ← rp.length]; exact hz
  exact ⟨.ref _, upd H (s.heap.objs.size + 1) (.lst ys), I.laid (t' := s.toks) (fun _ _ => PyProof.Rows.sortedAll_old) (Nat.le_succ _) ⟨hlen, out, ep, q1, he'⟩, rfl, q ys _ (I.hok.fresh (Nat.le_succ _)) q2⟩
theorem cn_sort : CallN X (rSortD X) (g1 sortD) := by
  intro Y F H δ σ A R xs ds z S r hg Q k
  obtain ⟨d, rfl, hg'⟩ := g1_some hg
  obtain ⟨v, rfl, rv⟩ := r.one
  clear hg
  unfold sortD at hg'
  split at hg'
  · rename_i ds'
    split at hg'
    · rename_i c
      cases hg'
      simp only [Bool.and_eq_true, List.all_eq_true, decide_eq_true_eq] at c
      obtain ⟨a, ys, rfl, h1, r1⟩ := rv.list S
      exact ⟨a, ys, F, ds', rfl, h1, S.sub, r1, c.1.1, c.1.2, c.2, fun zs p hp r2 => k p F _ (Stp.laidO hp) (S.laidO hp) hp (S.sub.free hp) ⟨_, upd_same, r2⟩⟩
    · cases hg'
  · cases hg'
end
end Z

/-! Z7: the state's changes; statements without a loop. -/
namespace Z
open PySem PySem.Spec PyProof.Rows L2
def uA (A : Nat → List Addr) (i : Nat) (l : List Addr) : Nat → List Addr := fun j => if j = i then l else A j
theorem uA_same {A : Nat → List Addr} {i : Nat} {l : List Addr} : uA A i l i = l := if_pos rfl
theorem uA_ne {A : Nat → List Addr} {i j : Nat} {l : List Addr} (h : j ≠ i) : uA A i l j = A j := if_neg h
section
variable {K : PySem.W.Frag} {Y : Fx} {F F' H H' : Hp} {δ : List Sl} {σ : L2.St} {A : Nat → List Addr} {i : Nat}
theorem jn_set_same {v : Option V} (h : i < σ.length) : jn (σ.set i v)[i]? = v := by
  rw [List.getElem?_set_self h]
  rfl
theorem jn_set_ne {v : Option V} {j : Nat} (h : j ≠ i) : jn (σ.set i v)[j]? = jn σ[j]? := by
  rw [List.getElem?_set_ne (Ne.symm h)]
/-- a slot gets a value; what it owns then is l -/
theorem SR.put (S : SR K Y F H δ σ A) (hi : i < δ.length) (hio : Y.io i = false) {s : Sl} {v : Option V} {l : List Addr} (h : SlotR K F H s v l) (hF : ∀ a ∈ l, F a = none) (hY : ∀ a ∈ l, Y.H0 a = none) (hA : ∀ a ∈ l, ∀ j, j ≠ i → a ∉ A j) :
    SR K Y F H (δ.set i s) (σ.set i v) (uA A i l) := by
  have hs : i < σ.length := by rw [← S.len]; exact hi
  refine ⟨by rw [List.length_set, List.length_set]; exact S.len, fun j t e => ?_, fun j e => ?_, fun j k a h1 h2 => ?_, fun j a h1 => ?_, fun j a h1 h2 => ?_, S.sub, fun j h1 => ?_, S.ioA, S.kp, S.nw, S.f0⟩
  · by_cases c : j = i
    · subst c
      rw [List.getElem?_set_self hi] at e
      cases e
      rw [jn_set_same hs, uA_same]
      exact h
    · rw [List.getElem?_set_ne (Ne.symm c)] at e
      rw [jn_set_ne c, uA_ne c]
      exact S.slot j t e
  · by_cases c : j = i
    · subst c
      rw [List.getElem?_set_self hi] at e
      cases e
    · rw [List.getElem?_set_ne (Ne.symm c)] at e
      rw [uA_ne c]
      exact S.out j e
  · by_cases c : j = i
    · by_cases c2 : k = i
      · rw [c, c2]
      · subst c
        rw [uA_same] at h1
        rw [uA_ne c2] at h2
        exact absurd h2 (hA a h1 k c2)
    · by_cases c2 : k = i
      · subst c2
        rw [uA_same] at h2
        rw [uA_ne c] at h1
        exact absurd h1 (hA a h2 j c)
      · rw [uA_ne c] at h1
        rw [uA_ne c2] at h2
        exact S.dis j k a h1 h2
  · by_cases c : j = i
    · subst c
      rw [uA_same] at h1
      exact hF a h1
    · rw [uA_ne c] at h1
      exact S.hid j a h1
  · by_cases c : j = i
    · subst c
      rw [uA_same] at h1
      exact hY a h1
    · rw [uA_ne c] at h1
      exact S.new j a h1 h2
  · by_cases c : j = i
    · subst c
      rw [hio] at h1
      cases h1
    · rw [List.getElem?_set_ne (Ne.symm c), uA_ne c]
      exact S.fix j h1
theorem SR.putFz (S : SR K Y F H δ σ A) (hi : i < δ.length) (hio : Y.io i = false) {d : D} {v : V} (h : Rp K F v d) : SR K Y F H (δ.set i (.fz d)) (σ.set i (some v)) (uA A i []) :=
  S.put hi hio (show SlotR K F H (.fz d) (some v) [] from ⟨rfl, v, rfl, h⟩) (by simp) (by simp) (by simp)
theorem SR.putNo (S : SR K Y F H δ σ A) (hi : i < δ.length) (hio : Y.io i = false) {v : Option V} : SR K Y F H (δ.set i .no) (σ.set i v) (uA A i []) :=
  S.put hi hio (show SlotR K F H .no v [] from rfl) (by simp) (by simp) (by simp)
theorem SR.putOw (S : SR K Y F H δ σ A) (hi : i < δ.length) (hio : Y.io i = false) {d : D} {p : Addr} (hp : Y.H0 p = none) (hF : F p = none) (hA : ∀ j, p ∉ A j) (h : OwnR K F H p d) : SR K Y F H (δ.set i (.ow d)) (σ.set i (some (.ref p))) (uA A i [p]) :=
  S.put hi hio (show SlotR K F H (.ow d) (some (.ref p)) [p] from ⟨p, rfl, rfl, h⟩) (fun a ha => by simp at ha; subst ha; exact hF) (fun a ha => by simp at ha; subst ha; exact hp) (fun a ha j _ => by simp at ha; subst ha; exact hA j)
/-- new since the entry -/
theorem SR.fresh0 (S : SR K Y F H δ σ A) {p : Addr} (hp : H p = none) : Y.H0 p = none := by
  cases e : Y.H0 p with
  | none => rfl
  | some o =>
    by_cases c : ∃ i, Y.io i = true ∧ p ∈ Y.A0 i
    · obtain ⟨i, hi, hA⟩ := c
      rw [← (S.fix i hi).2] at hA
      exact absurd hp (S.isSome hA)
    · have := S.kp p o e fun i hi z => c ⟨i, hi, z⟩
      rw [hp] at this
      cases this
/-- what slot i owns is changed -/
theorem SR.chg (S : SR K Y F H δ σ A) {d d' : D} {p : Addr} {o : HO} (hd : δ[i]? = some (.ow d)) (hA : A i = [p]) (h : OwnR K F (upd H p o) p d') : SR K Y F (upd H p o) (δ.set i (.ow d')) σ A := by
  have hi : i < δ.length := (List.getElem?_eq_some_iff.mp hd).1
  obtain ⟨p', e1, e2, o1⟩ := S.slot i _ hd
  have hpA : p ∈ A i := by rw [hA]; simp
  have ep : p' = p := by
    rw [hA] at e2
    exact (List.cons.inj e2).1.symm
  subst ep
  refine ⟨by rw [List.length_set]; exact S.len, fun j t e => ?_, fun j e => ?_, S.dis, S.hid, S.new, fun b x e => ?_, S.fix, S.ioA, fun a x e n => ?_, S.nw, S.f0⟩
  · by_cases c : j = i
    · subst c
      rw [List.getElem?_set_self hi] at e
      cases e
      exact ⟨p', e1, hA, h⟩
    · rw [List.getElem?_set_ne (Ne.symm c)] at e
      refine (S.slot j t e).mono (Same.refl _) fun a ha => upd_ne fun z => ?_
      subst z
      exact c (S.dis j i _ ha hpA)
  · by_cases c : j = i
    · subst c
      rw [List.getElem?_set_self hi] at e
      cases e
    · rw [List.getElem?_set_ne (Ne.symm c)] at e
      exact S.out j e
  · have q := S.sub b x e
    rw [upd_ne]
    · exact q
    · intro z
      subst z
      rw [S.hid i _ hpA] at e
      cases e
  · rw [upd_ne]
    · exact S.kp a x e n
    · intro z
      subst z
      cases hio : Y.io i with
      | false =>
        rw [S.new i _ hpA hio] at e
        cases e
      | true =>
        have := (S.fix i hio).2
        rw [this] at hpA
        exact n i hio hpA
theorem Stp.chg {M : List Nat} {p : Addr} {o : HO} (hM : i ∈ M) (hA : p ∈ A i) : Stp A M F H F (upd H p o) :=
  ⟨Same.refl _, fun a e n => absurd e n, fun a x e n => by
    rw [upd_ne]
    · exact e
    · intro z
      subst z
      exact n i hM hA⟩
/-- a slot's own thing is known to all from here on -/
def frz (i : Nat) (δ : List Sl) : List Sl := match δ[i]? with
  | some (.ow d) => δ.set i (.fz d)
  | _ => δ
theorem SR.frz (S : SR K Y F H δ σ A) (hio : Y.io i = false) : ∃ F' A', Same F F' ∧ SR K Y F' H (frz i δ) σ A' := by
  unfold Z.frz
  split
  · rename_i d hd
    have hi : i < δ.length := (List.getElem?_eq_some_iff.mp hd).1
    obtain ⟨p, e1, e2, o⟩ := S.slot i _ hd
    obtain ⟨u, hu⟩ : ∃ u, H p = some u := by
      rcases o.there with ⟨_, e⟩ | ⟨_, e⟩ <;> exact ⟨_, e⟩
    have hpA : p ∈ A i := by rw [e2]; simp
    have hF : F p = none := S.hid i p hpA
    have sF : Same F (upd F p u) := fun b x e => by rw [upd_ne (ne_of_none e hF)]; exact e
    have other : ∀ j a, j ≠ i → a ∈ A j → a ≠ p := fun j a c ha z => by subst z; exact c (S.dis j i _ ha hpA)
    refine ⟨upd F p u, uA A i [], sF, ⟨by rw [List.length_set]; exact S.len, fun j t e => ?_, fun j e => ?_, fun j k a h1 h2 => ?_, fun j a h1 => ?_, fun j a h1 h2 => ?_, fun b x e => ?_, fun j h1 => ?_, S.ioA, S.kp, fun a e n => ?_, S.f0.trans sF⟩⟩
    · by_cases c : j = i
      · subst c
        rw [List.getElem?_set_self hi] at e
        cases e
        rw [uA_same]
        exact ⟨rfl, _, e1, own_rp o sF (by rw [upd_same, hu])⟩
      · rw [List.getElem?_set_ne (Ne.symm c)] at e
        rw [uA_ne c]
        exact (S.slot j t e).mono sF fun _ _ => rfl
    · by_cases c : j = i
      · subst c
        rw [uA_same]
      · rw [List.getElem?_set_ne (Ne.symm c)] at e
        rw [uA_ne c]
        exact S.out j e
    · by_cases c : j = i
      · subst c
        rw [uA_same] at h1
        simp at h1
      · by_cases c2 : k = i
        · subst c2
          rw [uA_same] at h2
          simp at h2
        · rw [uA_ne c] at h1
          rw [uA_ne c2] at h2
          exact S.dis j k a h1 h2
    · by_cases c : j = i
      · subst c
        rw [uA_same] at h1
        simp at h1
      · rw [uA_ne c] at h1
        rw [upd_ne (other j a c h1)]
        exact S.hid j a h1
    · by_cases c : j = i
      · subst c
        rw [uA_same] at h1
        simp at h1
      · rw [uA_ne c] at h1
        exact S.new j a h1 h2
    · by_cases c : b = p
      · subst c
        rw [upd_same] at e
        cases e
        exact hu
      · rw [upd_ne c] at e
        exact S.sub _ _ e
    · have c : j ≠ i := fun z => by subst z; rw [hio] at h1; cases h1
      rw [uA_ne c]
      exact S.fix j h1
    · by_cases c : a = p
      · subst c
        exact S.new i a hpA hio
      · rw [upd_ne c] at n
        exact S.nw a e n
  · exact ⟨F, A, Same.refl _, S⟩
end

/-! ### statements -/
inductive Out where
  | nx (δ : List Sl)
  | ct (δ : List Sl)
  | rt (d : D) (δ : List Sl)
/-- what is handed back -/
def RetR (K : PySem.W.Frag) (Y : Fx) (fr : Bool) (F H : Hp) (A : Nat → List Addr) (v : V) (d : D) : Prop :=
  match fr with
  | false => Rp K F v d
  | true => ∃ p, v = .ref p ∧ Y.H0 p = none ∧ F p = none ∧ (∀ i, Y.io i = true → p ∉ A i) ∧ OwnR K F H p d
def Post (K : PySem.W.Frag) (Y : Fx) (fr : Bool) (F : Hp) (D : Ends) : Out → Prop
  | .nx δ' => ∀ σ' F' H' A', Same F F' → SR K Y F' H' δ' σ' A' → D.nx σ' H'
  | .ct δ' => ∀ σ' F' H' A', Same F F' → SR K Y F' H' δ' σ' A' → D.ct σ' H'
  | .rt d δ' => ∀ v σ' F' H' A', Same F F' → SR K Y F' H' δ' σ' A' → RetR K Y fr F' H' A' v d → D.rt v H'
/-- the slots of io are not stored to -/
def SV (X : Cx) (io : Nat → Bool) (fr : Bool) (st : Stmt) (g : List Sl → Option Out) : Prop :=
  ∃ t, PS X st t ∧ ∀ (Y : Fx) (F H : Hp) (δ : List Sl) (σ : L2.St) (A : Nat → List Addr), Y.io = io → SR X.K Y F H δ σ A → ∀ (o : Out), g δ = some o → ∀ D : Ends, Post X.K Y fr F D o → t D σ H
def BV (X : Cx) (io : Nat → Bool) (fr : Bool) (st : List Stmt) (g : List Sl → Option Out) : Prop :=
  ∃ t, PSs X st t ∧ ∀ (Y : Fx) (F H : Hp) (δ : List Sl) (σ : L2.St) (A : Nat → List Addr), Y.io = io → SR X.K Y F H δ σ A → ∀ (o : Out), g δ = some o → ∀ D : Ends, Post X.K Y fr F D o → t D σ H
theorem Post.mono {K : PySem.W.Frag} {Y : Fx} {fr : Bool} {F F' : Hp} {D : Ends} {o : Out} (h : Post K Y fr F D o) (s : Same F F') : Post K Y fr F' D o := by
  cases o with
  | nx δ => exact fun σ' F1 H' A' s1 => h σ' F1 H' A' (s.trans s1)
  | ct δ => exact fun σ' F1 H' A' s1 => h σ' F1 H' A' (s.trans s1)
  | rt d δ => exact fun v σ' F1 H' A' s1 => h v σ' F1 H' A' (s.trans s1)
section
variable {X : Cx} {io : Nat → Bool} {fr : Bool} {st : Stmt} {rest : List Stmt} {pos : Pos} {g g' : List Sl → Option Out}
def sSeq (g g' : List Sl → Option Out) : List Sl → Option Out := fun δ => (g δ).bind fun o => match o with
  | .nx δ1 => g' δ1
  | .ct δ1 => some (.ct δ1)
  | .rt d δ1 => some (.rt d δ1)
def sNil : List Sl → Option Out := fun δ => some (.nx δ)
theorem bv_nil : BV X io fr [] sNil := by
  refine ⟨_, pss_nil, fun Y F H δ σ A _ S o e D k => ?_⟩
  cases e
  exact k σ F H A (Same.refl _) S
theorem bv_cons (h1 : SV X io fr st g) (h2 : BV X io fr rest g') : BV X io fr (st :: rest) (sSeq g g') := by
  obtain ⟨t, p, q⟩ := h1
  obtain ⟨t2, p2, q2⟩ := h2
  refine ⟨_, pss_cons p p2, fun Y F H δ σ A hY S o e D k => ?_⟩
  unfold sSeq at e
  cases e1 : g δ with
  | none => rw [e1] at e; cases e
  | some o1 =>
    rw [e1] at e
    refine q Y F H δ σ A hY S o1 e1 _ ?_
    cases o1 with
    | nx δ1 => exact fun σ' F' H' A' s S' => q2 Y F' H' δ1 σ' A' hY S' o e D (k.mono s)
    | ct δ1 => cases e; exact k
    | rt d δ1 => cases e; exact k
def sFrz (i : Nat) (g : List Sl → Option Out) : List Sl → Option Out := fun δ => g (frz i δ)
theorem sv_frz {i : Nat} (hio : io i = false) (h : SV X io fr st g) : SV X io fr st (sFrz i g) := by
  obtain ⟨t, p, q⟩ := h
  refine ⟨t, p, fun Y F H δ σ A hY S o e D k => ?_⟩
  obtain ⟨F', A', s, S'⟩ := S.frz (i := i) (by rw [hY]; exact hio)
  exact q Y F' H _ σ A' hY S' o e D (k.mono s)
/-! x = e -/
def sSet (i : Nat) (f : List Sl → Option (D × List Sl)) : List Sl → Option Out := fun δ => (f δ).bind fun p => if i < p.2.length then some (.nx (p.2.set i (.fz p.1))) else none
def sOwn (i : Nat) (f : List Sl → Option (D × List Sl)) : List Sl → Option Out := fun δ => (f δ).bind fun p => if i < p.2.length then some (.nx (p.2.set i (.ow p.1))) else none
structure Tg (X : Cx) (i : Nat) (x : Str) : Prop where
  nd : X.N.Nodup
  at_ : X.N[i]? = some x
  loc : Loc X.env.scope x
  fn : X.fn x = true ∨ X.env.scope.names.lookup x = some .local
theorem sv_set {i : Nat} {x : Str} {e : Expr} {f} {M : List Nat} {pos' : Pos} (hio : io i = false) (T : Tg X i x) (h : EV X e f [] M) (hs : swapsWith e (some (.Name x pos')) pos.line X.env = pure false := by rfl) : SV X io fr (.Assign [.Name x pos'] e pos) (sSet i f) := by
  obtain ⟨t, p, q⟩ := h
  refine ⟨_, ps_set T.nd T.at_ T.loc p hs T.fn, fun Y F H δ σ A hY S o e D k => ?_⟩
  unfold sSet at e
  cases e1 : f δ with
  | none => rw [e1] at e; cases e
  | some p =>
    obtain ⟨d, δ1⟩ := p
    rw [e1] at e
    simp only [Option.bind_some] at e
    split at e
    · rename_i hi
      cases e
      refine q Y F H δ σ A S d δ1 e1 _ fun v F1 H1 st S1 r => ?_
      exact k _ F1 H1 _ st.f (S1.putFz hi (by rw [hY]; exact hio) r.nil)
    · cases e
theorem sv_own {i : Nat} {x : Str} {e : Expr} {f} {M : List Nat} {pos' : Pos} (hio : io i = false) (T : Tg X i x) (h : NV X e f M) (hs : swapsWith e (some (.Name x pos')) pos.line X.env = pure false := by rfl) : SV X io fr (.Assign [.Name x pos'] e pos) (sOwn i f) := by
  obtain ⟨t, p, q⟩ := h
  refine ⟨_, ps_set T.nd T.at_ T.loc p hs T.fn, fun Y F H δ σ A hY S o e D k => ?_⟩
  unfold sOwn at e
  cases e1 : f δ with
  | none => rw [e1] at e; cases e
  | some p =>
    obtain ⟨d, δ1⟩ := p
    rw [e1] at e
    simp only [Option.bind_some] at e
    split at e
    · rename_i hi
      cases e
      refine q Y F H δ σ A S d δ1 e1 _ fun p F1 H1 st S1 n hF r => ?_
      exact k _ F1 H1 _ st.f (S1.putOw hi (by rw [hY]; exact hio) (S.fresh0 n) hF (fun j hj => S.isSome hj n) r)
    · cases e
/-! return e, an expression alone, continue, if -/
def sRet (f : List Sl → Option (D × List Sl)) : List Sl → Option Out := fun δ => (f δ).map fun p => .rt p.1 p.2
theorem sv_ret {e : Expr} {f} {M : List Nat} (h : EV X e f [] M) : SV X io false (.Return (some e) pos) (sRet f) := by
  obtain ⟨t, p, q⟩ := h
  refine ⟨_, ps_ret p, fun Y F H δ σ A hY S o e D k => ?_⟩
  unfold sRet at e
  cases e1 : f δ with
  | none => rw [e1] at e; cases e
  | some p =>
    obtain ⟨d, δ1⟩ := p
    rw [e1] at e
    cases e
    exact q Y F H δ σ A S d δ1 e1 _ fun v F1 H1 st S1 r => k v σ F1 H1 A st.f S1 r.nil
theorem sv_retN {e : Expr} {f} {M : List Nat} (h : NV X e f M) : SV X io true (.Return (some e) pos) (sRet f) := by
  obtain ⟨t, p, q⟩ := h
  refine ⟨_, ps_ret p, fun Y F H δ σ A hY S o e D k => ?_⟩
  unfold sRet at e
  cases e1 : f δ with
  | none => rw [e1] at e; cases e
  | some p =>
    obtain ⟨d, δ1⟩ := p
    rw [e1] at e
    cases e
    exact q Y F H δ σ A S d δ1 e1 _ fun p F1 H1 st S1 n hF r => k _ σ F1 H1 A st.f S1 ⟨p, rfl, S.fresh0 n, hF, fun i _ z => S.isSome z n, r⟩
/-- return x, x the frame's own -/
def sRetV (i : Nat) : List Sl → Option Out := fun δ => match δ[i]? with
  | some (.ow d) => some (.rt d δ)
  | _ => none
theorem sv_retV {i : Nat} {x : Str} {p' : Pos} (hio : io i = false) (hN : X.N[i]? = some x) (hv : Vis X.env.scope x) (h1 : (x == ("__debug__" : Str)) = false) (h2 : (x == ("__classdict__" : Str)) = false) : SV X io true (.Return (some (.Name x p')) pos) (sRetV i) := by
  refine ⟨_, ps_ret (pe_var hN hv h1 h2), fun Y F H δ σ A hY S o e D k => ?_⟩
  unfold sRetV at e
  split at e
  · rename_i d hd
    cases e
    obtain ⟨p, e2, e3, r⟩ := S.slot i _ hd
    have hp : p ∈ A i := by rw [e3]; simp
    refine ⟨_, jn_some e2, k _ σ F H A (Same.refl _) S ⟨p, rfl, S.new i p hp (by rw [hY]; exact hio), S.hid i p hp, fun j hj z => ?_, r⟩⟩
    have := S.dis i j p hp z
    subst this
    rw [hY, hio] at hj
    cases hj
  · cases e
def sExp (f : List Sl → Option (D × List Sl)) : List Sl → Option Out := fun δ => (f δ).map fun p => .nx p.2
theorem sv_exp {e : Expr} {f} {R M : List Nat} (h : EV X e f R M) (hs : swapsWith e none pos.line X.env = pure false := by rfl) : SV X io fr (.Expr e pos) (sExp f) := by
  obtain ⟨t, p, q⟩ := h
  refine ⟨_, ps_expr p hs, fun Y F H δ σ A hY S o e D k => ?_⟩
  unfold sExp at e
  cases e1 : f δ with
  | none => rw [e1] at e; cases e
  | some p =>
    obtain ⟨d, δ1⟩ := p
    rw [e1] at e
    cases e
    exact q Y F H δ σ A S d δ1 e1 _ fun v F1 H1 st S1 r => k σ F1 H1 A st.f S1
def sCont : List Sl → Option Out := fun δ => some (.ct δ)
theorem sv_cont : SV X io fr (.Continue pos) sCont := by
  refine ⟨_, ps_continue, fun Y F H δ σ A hY S o e D k => ?_⟩
  cases e
  exact k σ F H A (Same.refl _) S
theorem sv_pass : SV X io fr (.Pass pos) sNil := by
  refine ⟨_, ps_pass, fun Y F H δ σ A hY S o e D k => ?_⟩
  cases e
  exact k σ F H A (Same.refl _) S
def sIf (c : List Sl → Option (Bool × List Sl)) (g g' : List Sl → Option Out) : List Sl → Option Out := fun δ => (c δ).bind fun p => match p.1 with | true => g p.2 | false => g' p.2
theorem sv_if {c : Expr} {a b : List Stmt} {gc} {M : List Nat} (hc : TV X c gc M) (ha : BV X io fr a g) (hb : BV X io fr b g') : SV X io fr (.If c a b pos) (sIf gc g g') := by
  obtain ⟨t, p, q⟩ := hc
  obtain ⟨ta, pa, qa⟩ := ha
  obtain ⟨tb, pb, qb⟩ := hb
  refine ⟨_, ps_if p pa pb, fun Y F H δ σ A hY S o e D k => ?_⟩
  unfold sIf at e
  cases e1 : gc δ with
  | none => rw [e1] at e; cases e
  | some p =>
    obtain ⟨b1, δ1⟩ := p
    rw [e1] at e
    refine q Y F H δ σ A S b1 δ1 e1 _ fun F1 H1 st S1 => ?_
    cases b1 with
    | true => exact iteT (qa Y F1 H1 δ1 σ A hY S1 o e D (k.mono st.f))
    | false => exact iteF (qb Y F1 H1 δ1 σ A hY S1 o e D (k.mono st.f))
end
end Z

/-! Z8: what a frame's own lists and dicts go through. -/
namespace Z
open PySem PySem.Spec PyProof.Rows L2
section
variable {X : Cx} {pos : Pos}
/-- what the call of a method asks of the text -/
structure Mc (X : Cx) (o : Expr) (name : Str) (apos : Pos) (e : Expr) (es : List Expr) (cpos : Pos) : Prop where
  base : attributeBase o name X.env (eval o X.env) = eval o X.env
  few : ((backTo cpos (starEach (e :: es) X.env)).all (fun x => !x.1) && (backToKw cpos (keywordEach [] X.env)).all (fun x => x.1.isSome) && decide ((e :: es).length + ([] : List Keyword).length + (if ([] : List Keyword).isEmpty then 0 else 1) < 30)) = true
  line : (apos.endLine == cpos.line) = true
  star : starEach (e :: es) X.env = (false, eval e X.env) :: starEach es X.env
  plain : (backTo cpos (starEach es X.env)).any (·.1) = false
structure Mc0 (X : Cx) (o : Expr) (name : Str) (apos : Pos) (cpos : Pos) : Prop where
  base : attributeBase o name X.env (eval o X.env) = eval o X.env
  line : (apos.endLine == cpos.line) = true
/-- a name of the def that is read -/
structure Nm (X : Cx) (i : Nat) (x : Str) : Prop where
  at_ : X.N[i]? = some x
  vis : Vis X.env.scope x
  db : (x == ("__debug__" : Str)) = false
  cd : (x == ("__classdict__" : Str)) = false
theorem Nm.pe {i : Nat} {x : Str} (n : Nm X i x) : PE X (.Name x pos) (tVar i) := pe_var n.at_ n.vis n.db n.cd

def ownL (i : Nat) (δ : List Sl) : Option (List D) := match δ[i]? with
  | some (.ow (.list ds)) => some ds
  | _ => none
theorem ownL_some {i : Nat} {δ : List Sl} {ds : List D} (h : ownL i δ = some ds) : δ[i]? = some (.ow (.list ds)) := by
  unfold ownL at h
  split at h
  · rename_i e; cases h; exact e
  · cases h
theorem SR.ownL {K : PySem.W.Frag} {Y : Fx} {F H : Hp} {δ : List Sl} {σ : L2.St} {A : Nat → List Addr} {i : Nat} {ds : List D} (S : SR K Y F H δ σ A) (h : Z.ownL i δ = some ds) : ∃ p xs, σ[i]? = some (some (.ref p)) ∧ A i = [p] ∧ H p = some (.lst xs) ∧ Rps K F xs ds := by
  obtain ⟨p, e1, e2, xs, h1, h2⟩ := S.slot i _ (ownL_some h)
  exact ⟨p, xs, jn_some e1, e2, h1, h2⟩
/-- x.append(e) -/
def fApp (i : Nat) (f : List Sl → Option (D × List Sl)) : List Sl → Option (D × List Sl) := fun δ => (ownL i δ).bind fun _ => (f δ).bind fun p => (ownL i p.2).bind fun ds => if ds.length < sizeLine then some (.none, p.2.set i (.ow (.list (ds ++ [p.1])))) else none
theorem tyL {K : PySem.W.Frag} {H : Hp} {p : Addr} {xs : List V} (h : H p = some (.lst xs)) : tyV K "list" (.ref p) H := .inl ⟨rfl, xs, SqL.of h⟩
theorem ev_app {i : Nat} {x : Str} {e : Expr} {f} {M : List Nat} {p1 apos : Pos} (n : Nm X i x) (h : EV X e f [] M) (m : Mc X (.Name x p1) "append" apos e [] pos) : EV X (.Call (.Attribute (.Name x p1) "append" apos) [e] [] pos) (fApp i f) [] (i :: M) := by
  obtain ⟨t, p, q⟩ := h
  refine ⟨_, pe_bm PySem.F.plainAttrs_list PySem.F.slot_list_append PySem.F.type_list_append mt_append n.pe (pa_cons p pa_nil m.star) m.base m.few m.line m.star m.plain, fun Y F H δ σ A S z δ' e Q k => ?_⟩
  unfold fApp at e
  cases e0 : ownL i δ with
  | none => rw [e0] at e; cases e
  | some ds0 =>
    rw [e0] at e
    simp only [Option.bind_some] at e
    cases e1 : f δ with
    | none => rw [e1] at e; cases e
    | some w =>
      obtain ⟨d, δ1⟩ := w
      rw [e1] at e
      simp only [Option.bind_some] at e
      cases e2 : ownL i δ1 with
      | none => rw [e2] at e; cases e
      | some ds =>
        rw [e2] at e
        simp only [Option.bind_some] at e
        split at e
        · rename_i hz
          cases e
          obtain ⟨a, ys, s1, _, s2, _⟩ := S.ownL e0
          refine ⟨.ref a, s1, tyL s2, ?_⟩
          refine q Y F H δ σ A S d δ1 e1 _ fun v F1 H1 st S1 r => ?_
          obtain ⟨b, xs, s3, s4, s5, s6⟩ := S1.ownL e2
          have : b = a := by
            rw [s1] at s3
            cases s3
            rfl
          subst this
          refine ⟨b, xs, v, rfl, rfl, s5, by rw [s6.length]; exact hz, ?_⟩
          have hO : OwnR X.K F1 (upd H1 b (.lst (xs ++ [v]))) b (.list (ds ++ [d])) := ⟨_, upd_same, s6.append (.cons r.nil .nil)⟩
          refine k _ F1 _ ?_ (S1.chg (ownL_some e2) s4 hO) (.inl .non)
          exact ((st.mono (fun j hj => List.mem_cons_of_mem i hj)).trans S1 (Stp.chg (i := i) (M := [i]) (by simp) (by rw [s4]; simp))).mono fun j hj => by
            rcases List.mem_append.mp hj with z | z
            · exact z
            · simp at z; subst z; exact List.mem_cons_self
        · cases e
/-- x.extend(e) -/
def fExt (i : Nat) (f : List Sl → Option (D × List Sl)) : List Sl → Option (D × List Sl) := fun δ => (ownL i δ).bind fun _ => (f δ).bind fun p => match p.1 with
  | .list es => (ownL i p.2).bind fun ds => if ds.length + es.length ≤ sizeLine then some (.none, p.2.set i (.ow (.list (ds ++ es)))) else none
  | _ => none
theorem ev_ext {i : Nat} {x : Str} {e : Expr} {f} {R M : List Nat} {p1 apos : Pos} (n : Nm X i x) (h : EV X e f R M) (m : Mc X (.Name x p1) "extend" apos e [] pos) : EV X (.Call (.Attribute (.Name x p1) "extend" apos) [e] [] pos) (fExt i f) [] (i :: M) := by
  obtain ⟨t, p, q⟩ := h
  refine ⟨_, pe_bm PySem.F.plainAttrs_list PySem.F.slot_list_extend PySem.F.type_list_extend mt_extend n.pe (pa_cons p pa_nil m.star) m.base m.few m.line m.star m.plain, fun Y F H δ σ A S z δ' e Q k => ?_⟩
  unfold fExt at e
  cases e0 : ownL i δ with
  | none => rw [e0] at e; cases e
  | some ds0 =>
    rw [e0] at e
    simp only [Option.bind_some] at e
    cases e1 : f δ with
    | none => rw [e1] at e; cases e
    | some w =>
      obtain ⟨d, δ1⟩ := w
      rw [e1] at e
      simp only [Option.bind_some] at e
      split at e
      · rename_i es
        cases e2 : ownL i δ1 with
        | none => rw [e2] at e; cases e
        | some ds =>
          rw [e2] at e
          simp only [Option.bind_some] at e
          split at e
          · rename_i hz
            cases e
            obtain ⟨a, ys, s1, _, s2, _⟩ := S.ownL e0
            refine ⟨.ref a, s1, tyL s2, ?_⟩
            refine q Y F H δ σ A S _ δ1 e1 _ fun v F1 H1 st S1 r => ?_
            obtain ⟨c, zs, rfl, h1, h2⟩ := r.list S1
            obtain ⟨b, xs, s3, s4, s5, s6⟩ := S1.ownL e2
            have : b = a := by
              rw [s1] at s3
              cases s3
              rfl
            subst this
            refine ⟨b, c, xs, zs, rfl, rfl, s5, h1, by rw [s6.length, h2.length]; exact hz, ?_⟩
            have hO : OwnR X.K F1 (upd H1 b (.lst (xs ++ zs))) b (.list (ds ++ es)) := ⟨_, upd_same, s6.append h2⟩
            refine k _ F1 _ ?_ (S1.chg (ownL_some e2) s4 hO) (.inl .non)
            exact ((st.mono (fun j hj => List.mem_cons_of_mem i hj)).trans S1 (Stp.chg (i := i) (M := [i]) (by simp) (by rw [s4]; simp))).mono fun j hj => by
              rcases List.mem_append.mp hj with z | z
              · exact z
              · simp at z; subst z; exact List.mem_cons_self
          · cases e
      · cases e
/-- x.pop() -/
def fPop (i : Nat) : List Sl → Option (D × List Sl) := fun δ => (ownL i δ).bind fun ds => (ds[ds.length - 1]?).map fun d => (d, δ.set i (.ow (.list ds.dropLast)))
theorem Rps.dropLast {K : PySem.W.Frag} {G : Hp} {xs : List V} {ds : List D} (h : Rps K G xs ds) : Rps K G xs.dropLast ds.dropLast := by
  rw [List.dropLast_eq_take, List.dropLast_eq_take, h.length]
  exact h.take _
theorem ev_pop {i : Nat} {x : Str} {p1 apos : Pos} (n : Nm X i x) (m : Mc0 X (.Name x p1) "pop" apos pos) : EV X (.Call (.Attribute (.Name x p1) "pop" apos) [] [] pos) (fPop i) [] [i] := by
  refine ⟨_, pe_bm0 PySem.F.plainAttrs_list PySem.F.slot_list_pop PySem.F.type_list_pop mt_pop n.pe m.base m.line, fun Y F H δ σ A S z δ' e Q k => ?_⟩
  unfold fPop at e
  cases e0 : ownL i δ with
  | none => rw [e0] at e; cases e
  | some ds =>
    rw [e0] at e
    simp only [Option.bind_some] at e
    cases e1 : ds[ds.length - 1]? with
    | none => rw [e1] at e; cases e
    | some d =>
      rw [e1] at e
      cases e
      obtain ⟨a, xs, s1, s4, s2, s6⟩ := S.ownL e0
      obtain ⟨v, v1, v2⟩ := s6.get e1
      refine ⟨.ref a, s1, tyL s2, a, xs, v, rfl, rfl, s2, by rw [s6.length]; exact v1, ?_⟩
      exact k v F _ (Stp.chg (i := i) (by simp) (by rw [s4]; simp)) (S.chg (ownL_some e0) s4 ⟨_, upd_same, s6.dropLast⟩) (.inl v2)
/-- x.pop(e) -/
def fPopAt (i : Nat) (f : List Sl → Option (D × List Sl)) : List Sl → Option (D × List Sl) := fun δ => (ownL i δ).bind fun _ => (f δ).bind fun p => match p.1 with
  | .int n => (ownL i p.2).bind fun ds => if 0 ≤ n ∧ ds.length ≤ sizeLine then (ds[n.toNat]?).map fun d => (d, p.2.set i (.ow (.list (ds.eraseIdx n.toNat)))) else none
  | _ => none
theorem ev_popAt {i : Nat} {x : Str} {e : Expr} {f} {R M : List Nat} {p1 apos : Pos} (n : Nm X i x) (h : EV X e f R M) (m : Mc X (.Name x p1) "pop" apos e [] pos) : EV X (.Call (.Attribute (.Name x p1) "pop" apos) [e] [] pos) (fPopAt i f) [] (i :: M) := by
  obtain ⟨t, p, q⟩ := h
  refine ⟨_, pe_bm PySem.F.plainAttrs_list PySem.F.slot_list_pop PySem.F.type_list_pop mt_popAt n.pe (pa_cons p pa_nil m.star) m.base m.few m.line m.star m.plain, fun Y F H δ σ A S z δ' e Q k => ?_⟩
  unfold fPopAt at e
  cases e0 : ownL i δ with
  | none => rw [e0] at e; cases e
  | some ds0 =>
    rw [e0] at e
    simp only [Option.bind_some] at e
    cases e1 : f δ with
    | none => rw [e1] at e; cases e
    | some w =>
      obtain ⟨d, δ1⟩ := w
      rw [e1] at e
      simp only [Option.bind_some] at e
      split at e
      · rename_i nn
        cases e2 : ownL i δ1 with
        | none => rw [e2] at e; cases e
        | some ds =>
          rw [e2] at e
          simp only [Option.bind_some] at e
          split at e
          · rename_i hz
            cases e3 : ds[nn.toNat]? with
            | none => rw [e3] at e; cases e
            | some dd =>
              rw [e3] at e
              cases e
              obtain ⟨a, ys, s1, _, s2, _⟩ := S.ownL e0
              refine ⟨.ref a, s1, tyL s2, ?_⟩
              refine q Y F H δ σ A S _ δ1 e1 _ fun v F1 H1 st S1 r => ?_
              obtain ⟨b, xs, s3, s4, s5, s6⟩ := S1.ownL e2
              have : b = a := by
                rw [s1] at s3
                cases s3
                rfl
              subst this
              obtain ⟨v0, v1, v2⟩ := s6.get e3
              have hlt : nn.toNat < ds.length := (List.getElem?_eq_some_iff.mp e3).1
              have hsz := sizeLine_eq
              refine ⟨b, xs, nn, nn.toNat, v0, rfl, by rw [r.int], s5, by omega, by omega, ?_, v1, ?_⟩
              · rw [s6.length]
                exact seqIndex_of hz.1 (by omega)
              · have hO : OwnR X.K F1 (upd H1 b (.lst (xs.eraseIdx nn.toNat))) b (.list (ds.eraseIdx nn.toNat)) := ⟨_, upd_same, s6.eraseIdx _⟩
                refine k _ F1 _ ?_ (S1.chg (ownL_some e2) s4 hO) (.inl v2)
                exact ((st.mono (fun j hj => List.mem_cons_of_mem i hj)).trans S1 (Stp.chg (i := i) (M := [i]) (by simp) (by rw [s4]; simp))).mono fun j hj => by
                  rcases List.mem_append.mp hj with z | z
                  · exact z
                  · simp at z; subst z; exact List.mem_cons_self
          · cases e
      · cases e

/-! ### x[i] = e -/
def dput (ds : List (D × D)) (k : Key) (d : D) : List (D × D) := if ds.any (fun p => decide (keyOf p.1 = some k)) then ds.map (fun p => if keyOf p.1 = some k then (p.1, d) else p) else ds ++ [(keyD k, d)]
theorem RpK.length {K : PySem.W.Frag} {G : Hp} : ∀ {kvs : List (Key × V)} {ds : List (D × D)}, RpK K G kvs ds → kvs.length = ds.length
  | _, _, .nil => rfl
  | _, _, .cons _ r => congrArg (· + 1) r.length
theorem RpK.append {K : PySem.W.Frag} {G : Hp} : ∀ {kvs lws : List (Key × V)} {ds es : List (D × D)}, RpK K G kvs ds → RpK K G lws es → RpK K G (kvs ++ lws) (ds ++ es)
  | _, _, _, _, .nil, s => s
  | _, _, _, _, .cons h r, s => .cons h (r.append s)
theorem RpK.any {K : PySem.W.Frag} {G : Hp} (k : Key) : ∀ {kvs : List (Key × V)} {ds : List (D × D)}, RpK K G kvs ds → (kvs.any fun kv => decide (kv.1 = k)) = ds.any fun p => decide (keyOf p.1 = some k)
  | _, _, .nil => rfl
  | _, _, .cons (k := k0) h r => by
    rw [List.any_cons, List.any_cons, r.any k, keyOf_keyD]
    by_cases e : k0 = k <;> simp [e]
theorem RpK.repl {K : PySem.W.Frag} {G : Hp} (k : Key) {v : V} {d : D} (hv : Rp K G v d) : ∀ {kvs : List (Key × V)} {ds : List (D × D)}, RpK K G kvs ds → RpK K G (kvs.map fun kv => if kv.1 = k then (kv.1, v) else kv) (ds.map fun p => if keyOf p.1 = some k then (p.1, d) else p)
  | _, _, .nil => .nil
  | _, _, .cons (k := k0) h r => by
    rw [List.map_cons, List.map_cons]
    simp only [keyOf_keyD]
    by_cases e : k0 = k
    · rw [if_pos e, if_pos (congrArg some e)]
      exact .cons hv (r.repl k hv)
    · rw [if_neg e, if_neg fun z => e (Option.some.inj z)]
      exact .cons h (r.repl k hv)
theorem RpK.put {K : PySem.W.Frag} {G : Hp} {kvs : List (Key × V)} {ds : List (D × D)} (k : Key) {v : V} {d : D} (h : RpK K G kvs ds) (hv : Rp K G v d) : RpK K G (putK kvs k v) (dput ds k d) := by
  unfold putK dput
  rw [← h.any k]
  split
  · exact h.repl k hv
  · exact h.append (.cons hv .nil)
def setD (d k v : D) : Option D := match d with
  | .list ds => match k with
    | .int i => (ixN ds.length i).map fun j => .list (ds.set j v)
    | _ => none
  | .dict ds => (keyOf k).bind fun k => if ds.length < sizeLine then some (.dict (dput ds k v)) else none
  | _ => none
def rSet2 : TSet := fun o i v H Q => rSetL o i v H Q ∨ ∃ a H', o = .ref a ∧ DPut H a i v H' ∧ Q H'
theorem set_2 (hu : X.A.units + 1 < cLine) : PSet X rSet2 := by
  intro pins s σ H o i v ov iv u Q I ro ri rv h
  rcases h with h | ⟨a, H', rfl, g, q⟩
  · exact set_list pins s σ H o i v ov iv u Q I ro ri rv h
  · cases ro
    exact d_setItem hu I g ri rv fun s' I' => ⟨H', I', q⟩
theorem setD_own {K : PySem.W.Frag} {Y : Fx} {F H : Hp} {δ : List Sl} {σ : L2.St} {A : Nat → List Addr} {p : Addr} {d k v d' : D} {y z : V} (S : SR K Y F H δ σ A) (o : OwnR K F H p d) (ry : Rp K F y k ∨ ∃ R, Vw K F H A R y k) (rz : Rp K F z v) (h : setD d k v = some d') :
    ∃ u, OwnR K F (upd H p u) p d' ∧ ∀ Q : Hp → Prop, Q (upd H p u) → rSet2 (.ref p) y z H Q := by
  have ek : ∀ kk, keyOf k = some kk → y = kV kk := fun kk e => by
    rcases ry with r | ⟨R, r⟩
    · exact rp_key e r
    · exact rp_key e (r.ex S)
  have ei : ∀ i, k = .int i → y = .int i := fun i e => by
    subst e
    exact ek (.inl i) rfl
  unfold setD at h
  split at h
  · rename_i ds
    obtain ⟨xs, h1, r1⟩ := o
    split at h
    · rename_i i
      cases e1 : ixN ds.length i with
      | none => rw [e1] at h; cases h
      | some j =>
        rw [e1] at h
        cases h
        refine ⟨.lst (xs.set j z), ⟨_, upd_same, r1.set j rz⟩, fun Q q => .inl ⟨p, xs, i, j, rfl, ei i rfl, h1, by rw [r1.length]; exact e1, q⟩⟩
    · cases h
  · rename_i ds
    obtain ⟨kvs, h1, r1⟩ := o
    cases e1 : keyOf k with
    | none => rw [e1] at h; cases h
    | some kk =>
      rw [e1] at h
      simp only [Option.bind_some] at h
      split at h
      · rename_i hz
        cases h
        have := ek kk e1
        subst this
        exact ⟨.dK (putK kvs kk z), ⟨_, upd_same, r1.put kk rz⟩, fun Q q => .inr ⟨p, _, rfl, DPut.k h1 (by rw [r1.length]; exact hz), q⟩⟩
      · cases h
  · cases h
def ownD (i : Nat) (δ : List Sl) : Option D := match δ[i]? with
  | some (.ow d) => some d
  | _ => none
theorem ownD_some {i : Nat} {δ : List Sl} {d : D} (h : ownD i δ = some d) : δ[i]? = some (.ow d) := by
  unfold ownD at h
  split at h
  · rename_i e; cases h; exact e
  · cases h
def sPut (i : Nat) (fk fv : List Sl → Option (D × List Sl)) : List Sl → Option Out := fun δ => (fv δ).bind fun p => (ownD i p.2).bind fun _ => (fk p.2).bind fun q => (ownD i q.2).bind fun d => (setD d q.1 p.1).map fun d' => .nx (q.2.set i (.ow d'))
/-- what the statement asks of the text -/
structure Pc (X : Cx) (o i : Expr) (v : Expr) (tpos : Pos) (line : Nat) : Prop where
  sw : swapsWithSole [.Subscript o i tpos] v line X.env = pure false
  st : swappedStores [.Subscript o i tpos] v X.env = pure none
  ea : (assignEach [.Subscript o i tpos] X.env).map (·.2) = [assign (.Subscript o i tpos) X.env]
  as : ∀ u, assign (.Subscript o i tpos) X.env u = (do
      let ov ← holding [u] (eval o X.env)
      let iv ← holding [u, ov] (eval i X.env)
      standAt tpos
      holding [u, ov, iv] (setItem ov iv u)
      release [u, ov, iv] [])
theorem sv_put {io : Nat → Bool} {fr : Bool} {i : Nat} {x : Str} {ek v : Expr} {fk fv} {Rk Mk Mv : List Nat} {p1 tpos : Pos} (hu : X.A.units + 1 < cLine) (n : Nm X i x) (hk : EV X ek fk Rk Mk) (hv : EV X v fv [] Mv) (c : Pc X (.Name x p1) ek v tpos pos.line) :
    SV X io fr (.Assign [.Subscript (.Name x p1) ek tpos] v pos) (sPut i fk fv) := by
  obtain ⟨tk, pk, qk⟩ := hk
  obtain ⟨tv, pv, qv⟩ := hv
  refine ⟨_, ps_asg pv (pg_sub n.pe pk (set_2 hu) c.as) c.sw c.st c.ea, fun Y F H δ σ A hY S o e D k => ?_⟩
  unfold sPut at e
  cases e1 : fv δ with
  | none => rw [e1] at e; cases e
  | some w =>
    obtain ⟨d, δ1⟩ := w
    rw [e1] at e
    simp only [Option.bind_some] at e
    cases e2 : ownD i δ1 with
    | none => rw [e2] at e; cases e
    | some d0 =>
      rw [e2] at e
      simp only [Option.bind_some] at e
      cases e3 : fk δ1 with
      | none => rw [e3] at e; cases e
      | some w =>
        obtain ⟨dk, δ2⟩ := w
        rw [e3] at e
        simp only [Option.bind_some] at e
        cases e4 : ownD i δ2 with
        | none => rw [e4] at e; cases e
        | some d1 =>
          rw [e4] at e
          simp only [Option.bind_some] at e
          cases e5 : setD d1 dk d with
          | none => rw [e5] at e; cases e
          | some d' =>
            rw [e5] at e
            cases e
            refine qv Y F H δ σ A S d δ1 e1 _ fun z F1 H1 st1 S1 r1 => ?_
            obtain ⟨a, s1, _, _⟩ := S1.slot i _ (ownD_some e2)
            refine ⟨.ref a, jn_some s1, ?_⟩
            refine qk Y F1 H1 δ1 σ A S1 dk δ2 e3 _ fun y F2 H2 st2 S2 r2 => ?_
            obtain ⟨b, s3, s4, s5⟩ := S2.slot i _ (ownD_some e4)
            have : b = a := by
              rw [s1] at s3
              cases s3
              rfl
            subst this
            obtain ⟨u, o2, go⟩ := setD_own S2 s5 (.inr ⟨_, r2⟩) (r1.nil.mono st2.f) e5
            exact go _ (k σ F2 _ A (st1.f.trans st2.f) (S2.chg (ownD_some e4) s4 o2))
end
end Z

/-! Z9: targets, what is walked, for, while. -/
namespace Z
open PySem PySem.Spec PyProof.Rows L2
/-! ### targets -/
inductive Tt where
  | nm (i : Nat)
  | nil
  | cons (a b : Tt)
mutual
/-- a target takes a datum -/
def bindT : Tt → D → List Sl → Option (List Sl)
  | .nm i, d, δ => if i < δ.length then some (δ.set i (.fz d)) else none
  | .nil, d, δ => match d with
    | .tuple ds => bindTs .nil ds δ
    | _ => none
  | .cons a b, d, δ => match d with
    | .tuple ds => bindTs (.cons a b) ds δ
    | _ => none
def bindTs : Tt → List D → List Sl → Option (List Sl)
  | .nil, [], δ => some δ
  | .cons a b, d :: ds, δ => (bindT a d δ).bind fun δ1 => bindTs b ds δ1
  | _, _, _ => none
end
mutual
theorem bindT_length : ∀ {T : Tt} {d : D} {δ δ' : List Sl}, bindT T d δ = some δ' → δ'.length = δ.length
  | .nm i, d, δ, δ', h => by
    unfold bindT at h
    split at h
    · cases h
      rw [List.length_set]
    · cases h
  | .nil, d, δ, δ', h => by
    unfold bindT at h
    cases d with
    | tuple ds => exact bindTs_length h
    | _ => cases h
  | .cons a b, d, δ, δ', h => by
    unfold bindT at h
    cases d with
    | tuple ds => exact bindTs_length h
    | _ => cases h
theorem bindTs_length : ∀ {T : Tt} {ds : List D} {δ δ' : List Sl}, bindTs T ds δ = some δ' → δ'.length = δ.length
  | .nm i, ds, δ, δ', h => by
    unfold bindTs at h
    cases h
  | .nil, [], δ, δ', h => by
    unfold bindTs at h
    cases h
    rfl
  | .nil, _ :: _, δ, δ', h => by
    unfold bindTs at h
    cases h
  | .cons a b, [], δ, δ', h => by
    unfold bindTs at h
    cases h
  | .cons a b, d :: ds, δ, δ', h => by
    unfold bindTs at h
    cases e : bindT a d δ with
    | none => rw [e] at h; cases h
    | some δ1 =>
      rw [e] at h
      rw [bindTs_length (T := b) h, bindT_length e]
end
/-- the slots of a target -/
def tS : Tt → List Nat
  | .nm i => [i]
  | .nil => []
  | .cons a b => tS a ++ tS b
/-- but for the slots of l all is as it was -/
structure But (l : List Nat) (σ σ' : L2.St) (A A' : Nat → List Addr) : Prop where
  s : ∀ j, j ∉ l → σ'[j]? = σ[j]?
  a : ∀ j, j ∉ l → A' j = A j
  e : ∀ j, j ∈ l → A' j = []
theorem But.trans {l m : List Nat} {σ σ1 σ2 : L2.St} {A A1 A2 : Nat → List Addr} (h : But l σ σ1 A A1) (h' : But m σ1 σ2 A1 A2) : But (l ++ m) σ σ2 A A2 := by
  refine ⟨fun j hj => ?_, fun j hj => ?_, fun j hj => ?_⟩
  · simp only [List.mem_append, not_or] at hj
    rw [h'.s j hj.2, h.s j hj.1]
  · simp only [List.mem_append, not_or] at hj
    rw [h'.a j hj.2, h.a j hj.1]
  · by_cases c : j ∈ m
    · exact h'.e j c
    · rw [h'.a j c]
      exact h.e j ((List.mem_append.mp hj).resolve_right c)
section
variable {X : Cx} {io : Nat → Bool}
def GV (X : Cx) (e : Expr) (T : Tt) : Prop :=
  ∃ g, PG X e g ∧ ∀ (Y : Fx) (F H : Hp) (δ : List Sl) (σ : L2.St) (A : Nat → List Addr), (∀ j ∈ tS T, Y.io j = false) → SR X.K Y F H δ σ A → ∀ (x : V) (d : D) (δ' : List Sl), Rp X.K F x d → bindT T d δ = some δ' → ∀ Q : L2.St → Hp → Prop, (∀ σ' A', But (tS T) σ σ' A A' → SR X.K Y F H δ' σ' A' → Q σ' H) → g x σ H Q
def GsV (X : Cx) (es : List Expr) (T : Tt) : Prop :=
  ∃ g, PGs X es g ∧ ∀ (Y : Fx) (F H : Hp) (δ : List Sl) (σ : L2.St) (A : Nat → List Addr), (∀ j ∈ tS T, Y.io j = false) → SR X.K Y F H δ σ A → ∀ (xs : List V) (ds : List D) (δ' : List Sl), Rps X.K F xs ds → bindTs T ds δ = some δ' → ∀ Q : L2.St → Hp → Prop, (∀ σ' A', But (tS T) σ σ' A A' → SR X.K Y F H δ' σ' A' → Q σ' H) → g xs σ H Q
theorem gv_name {i : Nat} {x : Str} {pos : Pos} (T : Tg X i x) : GV X (.Name x pos) (.nm i) := by
  refine ⟨_, pg_name T.nd T.at_ T.loc T.fn, fun Y F H δ σ A hY S x d δ' r e Q k => ?_⟩
  unfold bindT at e
  split at e
  · rename_i hi
    cases e
    refine k _ _ ⟨fun j hj => ?_, fun j hj => ?_, fun j hj => ?_⟩ (S.putFz hi (hY i (by simp [tS])) r)
    · rw [List.getElem?_set_ne fun c => hj (by simp [tS, c])]
    · exact uA_ne fun c => hj (by simp [tS, c])
    · simp [tS] at hj
      subst hj
      exact uA_same
  · cases e
theorem gvs_nil : GsV X [] .nil := by
  refine ⟨_, pgs_nil, fun Y F H δ σ A hY S xs ds δ' r e Q k => ?_⟩
  cases r with
  | nil =>
    unfold bindTs at e
    cases e
    exact ⟨rfl, k _ _ ⟨fun _ _ => rfl, fun _ _ => rfl, fun j hj => by simp [tS] at hj⟩ S⟩
  | cons _ _ =>
    unfold bindTs at e
    cases e
theorem gvs_cons {a : Expr} {es : List Expr} {T U : Tt} (h1 : GV X a T) (h2 : GsV X es U) (hs : (assignEach (a :: es) X.env).map (·.2) = assign a X.env :: (assignEach es X.env).map (·.2) := by rfl) : GsV X (a :: es) (.cons T U) := by
  obtain ⟨g, p, q⟩ := h1
  obtain ⟨g2, p2, q2⟩ := h2
  refine ⟨_, pgs_cons p p2 hs, fun Y F H δ σ A hY S xs ds δ' r e Q k => ?_⟩
  cases r with
  | nil =>
    unfold bindTs at e
    cases e
  | cons h r =>
    rename_i v vs d ds
    unfold bindTs at e
    cases e1 : bindT T d δ with
    | none => rw [e1] at e; cases e
    | some δ1 =>
      rw [e1] at e
      exact ⟨v, vs, rfl, q Y F H δ σ A (fun j hj => hY j (List.mem_append_left _ hj)) S v d δ1 h e1 _ fun σ' A' b S' => q2 Y F H δ1 σ' A' (fun j hj => hY j (List.mem_append_right _ hj)) S' vs ds δ' r e Q fun σ2 A2 b2 S2 => k σ2 A2 (b.trans b2) S2⟩
theorem gv_tup {es : List Expr} {k : Nat} {pos : Pos} {T : Tt} {n : Nat} (hc : X.calm = true) (h : GsV X es T) (hT : ∀ i, T ≠ .nm i) (hn : (assignEach es X.env).length = n) (hlen : ∀ ds δ δ', bindTs T ds δ = some δ' → ds.length = n) (hst : (assignEach es X.env).findIdx? (·.1) = none := by rfl) : GV X (.Tuple es k pos) T := by
  obtain ⟨g, p, q⟩ := h
  refine ⟨_, pg_tup hc p hn hst, fun Y F H δ σ A hY S x d δ' r e Q k => ?_⟩
  have e2 : ∃ ds, d = .tuple ds ∧ bindTs T ds δ = some δ' := by
    cases T with
    | nm i => exact absurd rfl (hT i)
    | nil =>
      unfold bindT at e
      cases d with
      | tuple ds => exact ⟨ds, rfl, e⟩
      | _ => cases e
    | cons a b =>
      unfold bindT at e
      cases d with
      | tuple ds => exact ⟨ds, rfl, e⟩
      | _ => cases e
  obtain ⟨ds, rfl, e2⟩ := e2
  cases r with
  | tup h1 r1 =>
    exact ⟨_, _, rfl, Same.sqt S.sub h1, by rw [r1.length]; exact hlen _ _ _ e2, q Y F H δ σ A hY S _ ds δ' r1 e2 Q k⟩

/-! ### what is walked -/
def Yd (K : PySem.W.Frag) (G H : Hp) (x : V) (H' : Hp) (d : D) : Prop :=
  (H' = H ∧ Rp K G x d) ∨ ∃ T xs es, H T = none ∧ H' = upd H T (.tup xs) ∧ x = .ref T ∧ d = .tuple es ∧ Rps K G xs es
structure Wk (K : PySem.W.Frag) (G E : Hp) (J : It) (ds : List D) : Prop where
  go : ∀ i H, i < ds.length → Same E H → J.go i H
  yld : ∀ i H x H' d, Same E H → J.yld i H x H' → ds[i]? = some d → Yd K G H x H' d
  stop : ∀ H, Same E H → J.stop ds.length H
def IV (X : Cx) (tg iter : Expr) (f : List Sl → Option (List D × List Sl)) (R M : List Nat) : Prop :=
  ∃ wi, PI X tg iter wi ∧ ∀ (Y : Fx) (F H : Hp) (δ : List Sl) (σ : L2.St) (A : Nat → List Addr), SR X.K Y F H δ σ A → ∀ (ds : List D) (δ' : List Sl), f δ = some (ds, δ') → ∀ Q : It → Hp → Prop,
    (∀ J F' H', Stp A M F H F' H' → SR X.K Y F' H' δ' σ A → Wk X.K F' (ex R A F' H') J ds → Q J H') → wi σ H Q
theorem PI.or {tg iter : Expr} {w1 w2 : TI} (h1 : PI X tg iter w1) (h2 : PI X tg iter w2) : PI X tg iter (fun σ H R => w1 σ H R ∨ w2 σ H R) :=
  ⟨fun pins s σ H R I h => h.elim (h1.run pins s σ H R I) (h2.run pins s σ H R I)⟩
def itemsD : D → Option (List D)
  | .list ds => some ds
  | .tuple ds => some ds
  | .str z => some (z.cps.toList.map fun c => .str ⟨#[c]⟩)
  | _ => none
def fIt (fa : List Sl → Option (D × List Sl)) : List Sl → Option (List D × List Sl) := fun δ => (fa δ).bind fun p => (itemsD p.1).map fun ds => (ds, p.2)
/-- a list of which it is known where it stands, in E -/
theorem Vw.listE {K : PySem.W.Frag} {Y : Fx} {F H : Hp} {δ : List Sl} {σ : L2.St} {A : Nat → List Addr} {R : List Nat} {v : V} {ds : List D} (S : SR K Y F H δ σ A) (h : Vw K F H A R v (.list ds)) : ∃ p xs, v = .ref p ∧ Z.ex R A F H p = some (.lst xs) ∧ Rps K F xs ds := by
  rcases h with h | ⟨i, hi, p, e, eA, o⟩
  · cases h with
    | lst h1 r => exact ⟨_, _, rfl, sub_ex S _ _ h1, r⟩
  · obtain ⟨xs, h1, r⟩ := o
    exact ⟨p, xs, e, (if_pos ⟨i, hi, by rw [eA]; simp⟩ : Z.ex R A F H p = H p).trans h1, r⟩
theorem wk_list {K : PySem.W.Frag} {G E : Hp} {a : Addr} {xs : List V} {ds : List D} (h : E a = some (.lst xs)) (r : Rps K G xs ds) : Wk K G E (Itl K a) ds := by
  refine ⟨fun i H hi s => ?_, fun i H x H' d s y e => ?_, fun H s => ?_⟩
  · have : i < xs.length := by rw [r.length]; exact hi
    exact ⟨xs, xs[i], SqL.of (s _ _ h), List.getElem?_eq_getElem this⟩
  · obtain ⟨rfl, f⟩ := y
    obtain ⟨v, v1, v2⟩ := r.get e
    have := f xs (SqL.of (s _ _ h))
    rw [v1] at this
    cases this
    exact .inl ⟨rfl, v2⟩
  · exact ⟨xs, SqL.of (s _ _ h), by rw [r.length]; exact Nat.le_refl _⟩
theorem wk_tup {K : PySem.W.Frag} {G E : Hp} {a : Addr} {xs : List V} {ds : List D} (h : SqT K E a xs) (r : Rps K G xs ds) : Wk K G E (Itt K a) ds := by
  refine ⟨fun i H hi s => ?_, fun i H x H' d s y e => ?_, fun H s => ?_⟩
  · have : i < xs.length := by rw [r.length]; exact hi
    exact ⟨xs, xs[i], Same.sqt s h, List.getElem?_eq_getElem this⟩
  · obtain ⟨rfl, f⟩ := y
    obtain ⟨v, v1, v2⟩ := r.get e
    have := f xs (Same.sqt s h)
    rw [v1] at this
    cases this
    exact .inl ⟨rfl, v2⟩
  · exact ⟨xs, Same.sqt s h, by rw [r.length]; exact Nat.le_refl _⟩
theorem wk_str {K : PySem.W.Frag} {G E : Hp} {z : Str} : Wk K G E (Its z) (z.cps.toList.map fun c => .str ⟨#[c]⟩) := by
  refine ⟨fun i H hi s => ?_, fun i H x H' d s y e => ?_, fun H s => ?_⟩
  · simpa [Its] using hi
  · obtain ⟨rfl, c, h1, rfl⟩ := y
    rw [List.getElem?_map, Array.getElem?_toList, h1] at e
    cases e
    exact .inl ⟨rfl, .str _⟩
  · show z.cps.size ≤ _
    simp
theorem iv_seq {tg iter : Expr} {fa} {R M : List Nat} (h : EV X iter fa R M) : IV X tg iter (fIt fa) R M := by
  obtain ⟨t, p, q⟩ := h
  refine ⟨_, PI.or (pi_list p) (PI.or (pi_tup p) (pi_str p)), fun Y F H δ σ A S ds δ' e Q k => ?_⟩
  unfold fIt at e
  cases e1 : fa δ with
  | none => rw [e1] at e; cases e
  | some w =>
    obtain ⟨d, δ1⟩ := w
    rw [e1] at e
    simp only [Option.bind_some] at e
    unfold itemsD at e
    split at e
    · cases e
      refine .inl (q Y F H δ σ A S _ _ e1 _ fun v F1 H1 st S1 r => ?_)
      obtain ⟨a, xs, rfl, h1, h2⟩ := r.listE S1
      exact ⟨a, rfl, ⟨xs, SqL.of (ex_sub S1 _ _ h1)⟩, k _ F1 H1 st S1 (wk_list h1 h2)⟩
    · cases e
      refine .inr (.inl (q Y F H δ σ A S _ _ e1 _ fun v F1 H1 st S1 r => ?_))
      obtain ⟨a, xs, rfl, h0, h1, h2⟩ := r.tup S1
      exact ⟨a, rfl, ⟨xs, h1⟩, k _ F1 H1 st S1 (wk_tup (Same.sqt (sub_ex S1) h0) h2)⟩
    · cases e
      refine .inr (.inr (q Y F H δ σ A S _ _ e1 _ fun v F1 H1 st S1 r => ?_))
      exact ⟨_, r.str, k _ F1 H1 st S1 wk_str⟩
    · cases e
/-- range -/
def rngD (lo : Int) (n : Nat) : List D := (List.range n).map fun i => .int (lo + (i : Nat))
theorem rngD_length {lo : Int} {n : Nat} : (rngD lo n).length = n := by simp [rngD]
theorem wk_rng {K : PySem.W.Frag} {G E : Hp} {lo : Int} {n : Nat} : Wk K G E (Itr lo n) (rngD lo n) := by
  refine ⟨fun i H hi s => ?_, fun i H x H' d s y e => ?_, fun H s => ?_⟩
  · rw [rngD_length] at hi
    exact hi
  · obtain ⟨rfl, rfl⟩ := y
    unfold rngD at e
    rw [List.getElem?_map] at e
    cases e1 : (List.range n)[i]? with
    | none => rw [e1] at e; cases e
    | some j =>
      rw [e1] at e
      have : j = i := by
        have := List.getElem?_eq_some_iff.mp e1
        obtain ⟨_, h⟩ := this
        simpa using h.symm
      subst this
      cases e
      exact .inl ⟨rfl, .int _⟩
  · rw [rngD_length]
    exact Nat.le_refl _
def small62 (i : Int) : Bool := decide (-(2 ^ 62) ≤ i) && decide (i < 2 ^ 62)
def fRng (f : List Sl → Option (List D × List Sl)) : List Sl → Option (List D × List Sl) := fun δ => (f δ).bind fun p => match p.1 with
  | [.int j] => if small62 j then some (rngD 0 j.toNat, p.2) else none
  | [.int i, .int j] => if small62 i && small62 j then some (rngD i (j - i).toNat, p.2) else none
  | _ => none
theorem iv_range1 {tg a : Expr} {f} {R M : List Nat} {p pos : Pos} (hg : Gl X "range") (hm : X.mg "range" = none) (h : AV X [a] f R M) (hs : starEach [a] X.env = [(false, eval a X.env)] := by rfl) (h1 : ∀ δ ds δ', f δ = some (ds, δ') → ds.length = 1) : IV X tg (.Call (.Name "range" p) [a] [] pos) (fRng f) [] M := by
  obtain ⟨t, pa, q⟩ := h
  refine ⟨_, pi_range1 hg hm pa hs, fun Y F H δ σ A S ds δ' e Q k => ?_⟩
  unfold fRng at e
  cases e1 : f δ with
  | none => rw [e1] at e; cases e
  | some w =>
    obtain ⟨es, δ1⟩ := w
    have hl := h1 _ _ _ e1
    rw [e1] at e
    simp only [Option.bind_some] at e
    split at e
    · split at e
      · rename_i c
        cases e
        simp only [small62, Bool.and_eq_true, decide_eq_true_eq] at c
        refine q Y F H δ σ A S _ _ e1 _ fun vs F1 H1 st S1 r => ?_
        obtain ⟨v, rfl, rv⟩ := r.one
        exact ⟨_, by rw [rv.int], c.1, c.2, k _ F1 H1 st S1 wk_rng⟩
      · cases e
    · simp at hl
    · cases e
theorem iv_range2 {tg a b : Expr} {f} {R M : List Nat} {p pos : Pos} (hg : Gl X "range") (hm : X.mg "range" = none) (h : AV X [a, b] f R M) (hs : starEach [a, b] X.env = [(false, eval a X.env), (false, eval b X.env)] := by rfl) (hs2 : starEach [b] X.env = [(false, eval b X.env)] := by rfl) (h1 : ∀ δ ds δ', f δ = some (ds, δ') → ds.length = 2) : IV X tg (.Call (.Name "range" p) [a, b] [] pos) (fRng f) [] M := by
  obtain ⟨t, pa, q⟩ := h
  refine ⟨_, pi_range2 hg hm pa hs hs2, fun Y F H δ σ A S ds δ' e Q k => ?_⟩
  unfold fRng at e
  cases e1 : f δ with
  | none => rw [e1] at e; cases e
  | some w =>
    obtain ⟨es, δ1⟩ := w
    have hl := h1 _ _ _ e1
    rw [e1] at e
    simp only [Option.bind_some] at e
    split at e
    · simp at hl
    · split at e
      · rename_i c
        cases e
        simp only [small62, Bool.and_eq_true, decide_eq_true_eq] at c
        refine q Y F H δ σ A S _ _ e1 _ fun vs F1 H1 st S1 r => ?_
        obtain ⟨v, u, rfl, r1, r2⟩ := r.two
        exact ⟨_, _, by rw [r1.int, r2.int], ⟨c.1.1, c.1.2, c.2.1, c.2.2⟩, k _ F1 H1 st S1 wk_rng⟩
      · cases e
    · cases e
/-- enumerate of a list -/
def enumD (ds : List D) : List D := ds.zipIdx.map fun p => .tuple [.int (p.2 : Nat), p.1]
def fEnum (fa : List Sl → Option (D × List Sl)) : List Sl → Option (List D × List Sl) := fun δ => (fa δ).bind fun p => match p.1 with
  | .list ds => some (enumD ds, p.2)
  | _ => none
theorem wk_enum {K : PySem.W.Frag} {G E : Hp} {a : Addr} {xs : List V} {ds : List D} (h : E a = some (.lst xs)) (r : Rps K G xs ds) : Wk K G E (Ite K a) (enumD ds) := by
  have hl : (enumD ds).length = ds.length := by simp [enumD]
  refine ⟨fun i H hi s => ?_, fun i H x H' d s y e => ?_, fun H s => ?_⟩
  · have : i < xs.length := by rw [r.length, ← hl]; exact hi
    exact ⟨xs, xs[i], SqL.of (s _ _ h), List.getElem?_eq_getElem this⟩
  · obtain ⟨T, x', rfl, nT, rfl, f⟩ := y
    unfold enumD at e
    rw [List.getElem?_map, List.getElem?_zipIdx] at e
    cases e1 : ds[i]? with
    | none => rw [e1] at e; cases e
    | some d1 =>
      rw [e1] at e
      simp only [Option.map_some, Nat.zero_add, Option.some.injEq] at e
      subst e
      obtain ⟨v, v1, v2⟩ := r.get e1
      have := f xs (SqL.of (s _ _ h))
      rw [v1] at this
      cases this
      exact .inr ⟨T, _, _, nT, rfl, rfl, rfl, .cons (.int _) (.cons v2 .nil)⟩
  · exact ⟨xs, SqL.of (s _ _ h), by rw [r.length, hl]; exact Nat.le_refl _⟩
theorem iv_enum {e : Expr} {fa} {R M : List Nat} {p pos tpos : Pos} {elts : List Expr} {kk : Nat} (hg : Gl X "enumerate") (hm : X.mg "enumerate" = none) (h : EV X e fa R M) (hs : starEach [e] X.env = [(false, eval e X.env)] := by rfl) : IV X (.Tuple elts kk tpos) (.Call (.Name "enumerate" p) [e] [] pos) (fEnum fa) R M := by
  obtain ⟨t, pe, q⟩ := h
  refine ⟨_, pi_enum hg hm (pa_cons pe pa_nil hs) hs, fun Y F H δ σ A S ds δ' e Q k => ?_⟩
  unfold fEnum at e
  cases e1 : fa δ with
  | none => rw [e1] at e; cases e
  | some w =>
    obtain ⟨d, δ1⟩ := w
    rw [e1] at e
    simp only [Option.bind_some] at e
    split at e
    · cases e
      refine q Y F H δ σ A S _ _ e1 _ fun v F1 H1 st S1 r => ?_
      obtain ⟨a, xs, rfl, h1, h2⟩ := r.listE S1
      exact ⟨a, xs, rfl, SqL.of (ex_sub S1 _ _ h1), k _ F1 H1 st S1 (wk_enum h1 h2)⟩
    · cases e
/-- zip of two lists -/
def zipD (ds es : List D) : List D := (ds.zip es).map fun p => .tuple [p.1, p.2]
def fZip (f : List Sl → Option (List D × List Sl)) : List Sl → Option (List D × List Sl) := fun δ => (f δ).bind fun p => match p.1 with
  | [.list ds, .list es] => some (zipD ds es, p.2)
  | _ => none
theorem wk_zip {K : PySem.W.Frag} {G E : Hp} {a b : Addr} {xs ys : List V} {ds es : List D} (h : E a = some (.lst xs)) (h' : E b = some (.lst ys)) (r : Rps K G xs ds) (r' : Rps K G ys es) : Wk K G E (Itz K a b) (zipD ds es) := by
  have hl : (zipD ds es).length = min ds.length es.length := by simp [zipD]
  refine ⟨fun i H hi s => ?_, fun i H x H' d s y e => ?_, fun H s => ?_⟩
  · rw [hl] at hi
    have h1 : i < xs.length := by rw [r.length]; omega
    have h2 : i < ys.length := by rw [r'.length]; omega
    exact ⟨xs, ys, xs[i], ys[i], SqL.of (s _ _ h), SqL.of (s _ _ h'), List.getElem?_eq_getElem h1, List.getElem?_eq_getElem h2⟩
  · obtain ⟨T, x', y', rfl, nT, rfl, f, f'⟩ := y
    unfold zipD at e
    rw [List.getElem?_map] at e
    cases e1 : (ds.zip es)[i]? with
    | none => rw [e1] at e; cases e
    | some w =>
      obtain ⟨d1, d2⟩ := w
      rw [e1] at e
      cases e
      obtain ⟨e2, e3⟩ := List.getElem?_zip_eq_some.mp e1
      obtain ⟨v, v1, v2⟩ := r.get e2
      obtain ⟨u, u1, u2⟩ := r'.get e3
      have z1 := f xs (SqL.of (s _ _ h))
      have z2 := f' ys (SqL.of (s _ _ h'))
      rw [v1] at z1
      rw [u1] at z2
      cases z1
      cases z2
      exact .inr ⟨T, _, _, nT, rfl, rfl, rfl, .cons v2 (.cons u2 .nil)⟩
  · refine ⟨xs, ys, SqL.of (s _ _ h), SqL.of (s _ _ h'), ?_⟩
    rw [hl, r.length, r'.length]
    omega
theorem iv_zip {e e2 : Expr} {f} {R M : List Nat} {p pos tpos : Pos} {elts : List Expr} {kk : Nat} (hg : Gl X "zip") (hm : X.mg "zip" = none) (h : AV X [e, e2] f R M) (hs : starEach [e, e2] X.env = [(false, eval e X.env), (false, eval e2 X.env)] := by rfl) (hs2 : starEach [e2] X.env = [(false, eval e2 X.env)] := by rfl) : IV X (.Tuple elts kk tpos) (.Call (.Name "zip" p) [e, e2] [] pos) (fZip f) R M := by
  obtain ⟨t, pe, q⟩ := h
  refine ⟨_, pi_zip hg hm pe (hs.trans (by rw [hs2])) (by rw [hs2]; rfl), fun Y F H δ σ A S ds δ' e Q k => ?_⟩
  unfold fZip at e
  cases e1 : f δ with
  | none => rw [e1] at e; cases e
  | some w =>
    obtain ⟨d, δ1⟩ := w
    rw [e1] at e
    simp only [Option.bind_some] at e
    split at e
    · cases e
      refine q Y F H δ σ A S _ _ e1 _ fun v F1 H1 st S1 r => ?_
      obtain ⟨v, u, rfl, r1, r2⟩ := r.two
      obtain ⟨a, xs, rfl, h1, h2⟩ := r1.listE S1
      obtain ⟨b, ys, rfl, h3, h4⟩ := r2.listE S1
      exact ⟨a, b, xs, ys, rfl, SqL.of (ex_sub S1 _ _ h1), SqL.of (ex_sub S1 _ _ h3), k _ F1 H1 st S1 (wk_zip h1 h3 h2 h4)⟩
    · cases e

/-! ### for -/
def forL (T : Tt) (b : List Sl → Option Out) : List D → List Sl → Option Out
  | [], δ => some (.nx δ)
  | d :: r, δ => (bindT T d δ).bind fun δ1 => (b δ1).bind fun o => match o with
    | .nx δ2 => forL T b r δ2
    | .ct δ2 => forL T b r δ2
    | .rt d' δ2 => some (.rt d' δ2)
def sFor (T : Tt) (f : List Sl → Option (List D × List Sl)) (b : List Sl → Option Out) : List Sl → Option Out := fun δ => (f δ).bind fun p => forL T b p.1 p.2
theorem sv_for {fr : Bool} {tg iter : Expr} {body : List Stmt} {pos : Pos} {T : Tt} {f} {M : List Nat} {b} (hp : PassesOwn (model X.prog X.w) X.A X.env X.xe) (hc : X.calm = true) (hi : IV X tg iter f [] M) (hg : GV X tg T) (hT : ∀ j ∈ tS T, io j = false := by decide) (hb : BV X io fr body b) (hs : ∀ x, foldedSetIterable iter X.env x = pure x := by intro _; rfl) : SV X io fr (.For tg iter body [] pos) (sFor T f b) := by
  obtain ⟨wi, pw, qi⟩ := hi
  obtain ⟨g, pg, qg⟩ := hg
  obtain ⟨tb, pb, qb⟩ := hb
  refine ⟨_, ps_for hp hc pw pg pb hs, fun Y F H δ σ A hY S o e D k => ?_⟩
  unfold sFor at e
  cases e1 : f δ with
  | none => rw [e1] at e; cases e
  | some w =>
    obtain ⟨ds, δ1⟩ := w
    rw [e1] at e
    simp only [Option.bind_some] at e
    refine qi Y F H δ σ A S ds δ1 e1 _ fun J F1 H1 st S1 wk => ?_
    rw [ex_nil] at wk
    refine ⟨fun i m σ' H' => m = ds.length - i ∧ i ≤ ds.length ∧ ∃ F' A' δ', Same F1 F' ∧ SR X.K Y F' H' δ' σ' A' ∧ forL T b (ds.drop i) δ' = some o, ⟨ds.length, by simp, Nat.zero_le _, F1, A, δ1, Same.refl _, S1, by rw [List.drop_zero]; exact e⟩, ?_⟩
    rintro i m σ' H' ⟨rfl, hi, F', A', δ', sF, S', ef⟩
    by_cases hlt : i < ds.length
    · have hd : ds.drop i = ds[i] :: ds.drop (i + 1) := List.drop_eq_getElem_cons hlt
      rw [hd] at ef
      unfold forL at ef
      cases e2 : bindT T ds[i] δ' with
      | none => rw [e2] at ef; cases ef
      | some δ2 =>
        rw [e2] at ef
        simp only [Option.bind_some] at ef
        cases e3 : b δ2 with
        | none => rw [e3] at ef; cases ef
        | some o1 =>
          rw [e3] at ef
          simp only [Option.bind_some] at ef
          refine .inr ⟨wk.go i H' hlt (sF.trans S'.sub), fun σ2 H2 => ∃ F2 A2 δ3, Same F' F2 ∧ SR X.K Y F2 H2 δ3 σ2 A2 ∧ forL T b (ds.drop (i + 1)) δ3 = some o, fun σ2 H2 ⟨F2, A2, δ3, s2, S2, e4⟩ => ⟨ds.length - (i + 1), by omega, rfl, by omega, F2, A2, δ3, sF.trans s2, S2, e4⟩, fun x H2 y => ?_⟩
          have main : ∀ (F2 : Hp), Same F' F2 → SR X.K Y F2 H2 δ' σ' A' → Rp X.K F2 x ds[i] → g x σ' H2 fun σ2 H2 => tb { D with nx := fun σ2 H2 => ∃ F2 A2 δ3, Same F' F2 ∧ SR X.K Y F2 H2 δ3 σ2 A2 ∧ forL T b (ds.drop (i + 1)) δ3 = some o, ct := fun σ2 H2 => ∃ F2 A2 δ3, Same F' F2 ∧ SR X.K Y F2 H2 δ3 σ2 A2 ∧ forL T b (ds.drop (i + 1)) δ3 = some o, bk := D.nx } σ2 H2 := by
            intro F2 s2 S2 r2
            refine qg Y F2 H2 δ' σ' A' (fun j hj => by rw [hY]; exact hT j hj) S2 x _ δ2 r2 e2 _ fun σ3 A3 _ S3 => ?_
            refine qb Y F2 H2 δ2 σ3 A3 hY S3 o1 e3 _ ?_
            cases o1 with
            | nx δ3 => exact fun σ4 F4 H4 A4 s4 S4 => ⟨F4, A4, δ3, s2.trans s4, S4, ef⟩
            | ct δ3 => exact fun σ4 F4 H4 A4 s4 S4 => ⟨F4, A4, δ3, s2.trans s4, S4, ef⟩
            | rt d' δ3 =>
              cases ef
              exact fun v σ4 F4 H4 A4 s4 S4 r => k v σ4 F4 H4 A4 (st.f.trans (sF.trans (s2.trans s4))) S4 r
          rcases wk.yld i H' x H2 _ (sF.trans S'.sub) y (List.getElem?_eq_getElem hlt) with ⟨rfl, r⟩ | ⟨U, xs, es, nU, rfl, rfl, e5, r⟩
          · exact main F' (Same.refl _) S' (r.mono sF)
          · have l := Stp.laid (M := []) (o := .tup xs) S' nU
            refine main _ l.f (S'.laid nU) ?_
            rw [e5]
            exact .tup (.inl (.inl upd_same)) (r.mono (sF.trans l.f))
    · have hi2 : i = ds.length := by omega
      subst hi2
      rw [List.drop_length] at ef
      unfold forL at ef
      cases ef
      exact .inl ⟨wk.stop H' (sF.trans S'.sub), k σ' F' H' A' (st.f.trans sF) S'⟩

/-! ### while -/
def whileF (c : List Sl → Option (Bool × List Sl)) (b : List Sl → Option Out) : Nat → List Sl → Option Out
  | 0, _ => none
  | n + 1, δ => (c δ).bind fun p => match p.1 with
    | false => some (.nx p.2)
    | true => (b p.2).bind fun o => match o with
      | .nx δ2 => whileF c b n δ2
      | .ct δ2 => whileF c b n δ2
      | .rt d' δ2 => some (.rt d' δ2)
theorem sv_while {fr : Bool} {c : Expr} {body : List Stmt} {pos : Pos} {gc} {M : List Nat} {b} {n : Nat} (hp : PassesOwn (model X.prog X.w) X.A X.env X.xe) (hc : TV X c gc M) (hb : BV X io fr body b) : SV X io fr (.While c body [] pos) (whileF gc b n) := by
  obtain ⟨tc, pc, qc⟩ := hc
  obtain ⟨tb, pb, qb⟩ := hb
  refine ⟨_, ps_while hp pc pb, fun Y F H δ σ A hY S o e D k => ?_⟩
  refine ⟨fun m σ' H' => ∃ F' A' δ', Same F F' ∧ SR X.K Y F' H' δ' σ' A' ∧ whileF gc b m δ' = some o, ⟨n, F, A, δ, Same.refl _, S, e⟩, ?_⟩
  rintro m σ' H' ⟨F', A', δ', sF, S', ef⟩
  cases m with
  | zero => cases ef
  | succ m =>
    unfold whileF at ef
    cases e1 : gc δ' with
    | none => rw [e1] at ef; cases ef
    | some w =>
      obtain ⟨b1, δ1⟩ := w
      rw [e1] at ef
      refine qc Y F' H' δ' σ' A' S' b1 δ1 e1 _ fun F1 H1 st S1 => ?_
      cases b1 with
      | false =>
        cases ef
        exact iteF (k σ' F1 H1 A' (sF.trans st.f) S1)
      | true =>
        refine iteT ?_
        simp only [Option.bind_some] at ef
        cases e3 : b δ1 with
        | none => rw [e3] at ef; cases ef
        | some o1 =>
          rw [e3] at ef
          simp only [Option.bind_some] at ef
          refine ⟨fun σ2 H2 => ∃ F2 A2 δ3, Same F F2 ∧ SR X.K Y F2 H2 δ3 σ2 A2 ∧ whileF gc b m δ3 = some o, fun σ2 H2 h => ⟨m, by omega, h⟩, ?_⟩
          refine qb Y F1 H1 δ1 σ' A' hY S1 o1 e3 _ ?_
          cases o1 with
          | nx δ3 => exact fun σ4 F4 H4 A4 s4 S4 => ⟨F4, A4, δ3, (sF.trans st.f).trans s4, S4, ef⟩
          | ct δ3 => exact fun σ4 F4 H4 A4 s4 S4 => ⟨F4, A4, δ3, (sF.trans st.f).trans s4, S4, ef⟩
          | rt d' δ3 =>
            cases ef
            exact fun v σ4 F4 H4 A4 s4 S4 r => k v σ4 F4 H4 A4 ((sF.trans st.f).trans s4) S4 r
end
end Z

/-! Za: list comprehensions. -/
namespace Z
open PySem PySem.Spec PyProof.Rows L2
/-! ### readings that hang on the data alone -/
def tEV (K : PySem.W.Frag) (f : List Sl → Option (D × List Sl)) (R M : List Nat) : TE := fun σ H Q =>
  ∃ (Y : Fx) (F : Hp) (δ : List Sl) (A : Nat → List Addr) (d : D) (δ' : List Sl), SR K Y F H δ σ A ∧ f δ = some (d, δ') ∧ ∀ v F' H', Stp A M F H F' H' → SR K Y F' H' δ' σ A → Vw K F' H' A R v d → Q v H'
def tTV (K : PySem.W.Frag) (f : List Sl → Option (Bool × List Sl)) (M : List Nat) : TT := fun σ H Q =>
  ∃ (Y : Fx) (F : Hp) (δ : List Sl) (A : Nat → List Addr) (b : Bool) (δ' : List Sl), SR K Y F H δ σ A ∧ f δ = some (b, δ') ∧ ∀ F' H', Stp A M F H F' H' → SR K Y F' H' δ' σ A → Q b H'
def tGV (K : PySem.W.Frag) (T : Tt) : TG := fun x σ H Q =>
  ∃ (Y : Fx) (F : Hp) (δ : List Sl) (A : Nat → List Addr) (d : D) (δ' : List Sl), (∀ j ∈ tS T, Y.io j = false) ∧ SR K Y F H δ σ A ∧ Rp K F x d ∧ bindT T d δ = some δ' ∧ ∀ σ' A', But (tS T) σ σ' A A' → SR K Y F H δ' σ' A' → Q σ' H
theorem EV.pe {X : Cx} {e : Expr} {f R M} (h : EV X e f R M) : PE X e (tEV X.K f R M) := by
  obtain ⟨t, p, q⟩ := h
  refine ⟨fun pins s σ H Q I z => ?_⟩
  obtain ⟨Y, F, δ, A, d, δ', S, e1, k⟩ := z
  exact p.run pins s σ H Q I (q Y F H δ σ A S d δ' e1 Q k)
theorem TV.pt {X : Cx} {e : Expr} {f M} (h : TV X e f M) : PT X e (tTV X.K f M) := by
  obtain ⟨t, p, q⟩ := h
  refine ⟨fun pins s σ H Q I z => ?_⟩
  obtain ⟨Y, F, δ, A, d, δ', S, e1, k⟩ := z
  exact p.run pins s σ H Q I (q Y F H δ σ A S d δ' e1 Q k)
theorem GV.pg {X : Cx} {e : Expr} {T : Tt} (h : GV X e T) : PG X e (tGV X.K T) := by
  obtain ⟨g, p, q⟩ := h
  refine ⟨fun pins s σ H v u Q I r z => ?_⟩
  obtain ⟨Y, F, δ, A, d, δ', hY, S, r1, e1, k⟩ := z
  exact p.run pins s σ H v u Q I r (q Y F H δ σ A hY S v d δ' r1 e1 Q k)

/-! ### the block's own slots -/
theorem wipe_in {σ : L2.St} {j : Nat} : ∀ {vs : List Nat}, j ∈ vs → j < σ.length → (wipe σ vs)[j]? = some none
  | v :: vs, h, hj => by
    unfold wipe
    by_cases c : v = j
    · subst c
      exact List.getElem?_set_self (by rw [wipe_length]; exact hj)
    · rw [List.getElem?_set_ne c]
      exact wipe_in ((List.mem_cons.mp h).resolve_left fun z => c z.symm) hj
theorem wipe_out' {σ : L2.St} {j : Nat} : ∀ {vs : List Nat}, j ∉ vs → (wipe σ vs)[j]? = σ[j]?
  | [], _ => rfl
  | v :: vs, h => by
    simp only [List.mem_cons, not_or] at h
    unfold wipe
    rw [List.getElem?_set_ne (Ne.symm h.1)]
    exact wipe_out' h.2
theorem wipe_eq {σ σ' : L2.St} {vs : List Nat} (hl : σ'.length = σ.length) (h : ∀ j, j ∉ vs → σ'[j]? = σ[j]?) : wipe σ' vs = wipe σ vs := by
  apply List.ext_getElem?
  intro j
  by_cases c : j ∈ vs
  · by_cases cl : j < σ.length
    · rw [wipe_in c cl, wipe_in c (by omega)]
    · rw [List.getElem?_eq_none (by rw [wipe_length]; omega), List.getElem?_eq_none (by rw [wipe_length]; omega)]
  · rw [wipe_out' c, wipe_out' c, h j c]
def wipeS (vs : List Nat) (δ : List Sl) : List Sl := vs.foldr (fun j δ => δ.set j .no) δ
theorem wipeS_length {δ : List Sl} : ∀ {vs : List Nat}, (wipeS vs δ).length = δ.length
  | [] => rfl
  | v :: vs => by
    show ((wipeS vs δ).set v .no).length = _
    rw [List.length_set, wipeS_length]
theorem wipeS_in {δ : List Sl} {j : Nat} : ∀ {vs : List Nat}, j ∈ vs → j < δ.length → (wipeS vs δ)[j]? = some .no
  | v :: vs, h, hj => by
    show ((wipeS vs δ).set v .no)[j]? = _
    by_cases c : v = j
    · subst c
      exact List.getElem?_set_self (by rw [wipeS_length]; exact hj)
    · rw [List.getElem?_set_ne c]
      exact wipeS_in ((List.mem_cons.mp h).resolve_left fun z => c z.symm) hj
theorem wipeS_out {δ : List Sl} {j : Nat} : ∀ {vs : List Nat}, j ∉ vs → (wipeS vs δ)[j]? = δ[j]?
  | [], _ => rfl
  | v :: vs, h => by
    simp only [List.mem_cons, not_or] at h
    show ((wipeS vs δ).set v .no)[j]? = _
    rw [List.getElem?_set_ne (Ne.symm h.1)]
    exact wipeS_out h.2
def noS (vs : List Nat) (δ : List Sl) : Bool := vs.all fun j => match δ[j]? with
  | some .no => true
  | _ => false
section
variable {K : PySem.W.Frag} {Y : Fx} {F H : Hp} {δ : List Sl} {σ σ' : L2.St} {A : Nat → List Addr} {vs : List Nat}
theorem noS_at (h : noS vs δ = true) {j : Nat} (hj : j ∈ vs) : δ[j]? = some .no := by
  have := List.all_eq_true.mp h j hj
  split at this
  · assumption
  · cases this
theorem SR.wiped (S : SR K Y F H δ σ' A) (hw : wipe σ' vs = wipe σ vs) (hA : ∀ j ∈ vs, A j = []) (hio : ∀ j ∈ vs, Y.io j = false) (hl : ∀ j ∈ vs, j < δ.length) : SR K Y F H (wipeS vs δ) (wipe σ vs) A := by
  have hlen : (wipe σ vs).length = σ'.length := by rw [← hw, wipe_length]
  have out : ∀ j, j ∉ vs → (wipe σ vs)[j]? = σ'[j]? := fun j hj => by rw [← hw, wipe_out' hj]
  refine ⟨by rw [wipeS_length, hlen]; exact S.len, fun j t e => ?_, fun j e => ?_, S.dis, S.hid, S.new, S.sub, fun j h1 => ?_, S.ioA, S.kp, S.nw, S.f0⟩
  · by_cases c : j ∈ vs
    · rw [wipeS_in c (hl j c)] at e
      cases e
      exact hA j c
    · rw [wipeS_out c] at e
      rw [out j c]
      exact S.slot j t e
  · by_cases c : j ∈ vs
    · exact hA j c
    · rw [wipeS_out c] at e
      exact S.out j e
  · have c : j ∉ vs := fun c => by rw [hio j c] at h1; cases h1
    rw [out j c]
    exact S.fix j h1
theorem SR.noA (S : SR K Y F H δ σ A) (h : noS vs δ = true) : ∀ j ∈ vs, A j = [] := fun j hj => S.slot j _ (noS_at h hj)
theorem wipeS_no (h : noS vs δ = true) : wipeS vs δ = δ := by
  apply List.ext_getElem?
  intro j
  by_cases c : j ∈ vs
  · rw [noS_at h c, wipeS_in c (List.getElem?_eq_some_iff.mp (noS_at h c)).1]
  · rw [wipeS_out c]
end

/-! ### [e for t in it if c] -/
def compL (T : Tt) (vs : List Nat) (c : List Sl → Option (Bool × List Sl)) (f : List Sl → Option (D × List Sl)) : List D → List Sl → Option (List D × List Sl)
  | [], δ => some ([], δ)
  | d :: r, δ => (bindT T d δ).bind fun δ1 => (c δ1).bind fun p => match p.1 with
    | true => (f p.2).bind fun q => (compL T vs c f r (wipeS vs q.2)).map fun z => (q.1 :: z.1, z.2)
    | false => compL T vs c f r (wipeS vs p.2)
def fLc (T : Tt) (vs : List Nat) (it : List Sl → Option (List D × List Sl)) (c : List Sl → Option (Bool × List Sl)) (f : List Sl → Option (D × List Sl)) : List Sl → Option (D × List Sl) := fun δ => (it δ).bind fun p =>
  if noS vs p.2 && decide (p.1.length ≤ sizeLine) then (compL T vs c f p.1 p.2).map fun q => (.list q.1, q.2) else none
def cYes : List Sl → Option (Bool × List Sl) := fun δ => some (true, δ)
/-- the tests of a comprehension -/
def TsV (X : Cx) (es : List Expr) (f : List Sl → Option (Bool × List Sl)) (M : List Nat) : Prop :=
  ∃ t, PTs X es t ∧ ∀ (Y : Fx) (F H : Hp) (δ : List Sl) (σ : L2.St) (A : Nat → List Addr), SR X.K Y F H δ σ A → ∀ (b : Bool) (δ' : List Sl), f δ = some (b, δ') → ∀ Q : Bool → Hp → Prop,
    (∀ F' H', Stp A M F H F' H' → SR X.K Y F' H' δ' σ A → Q b H') → t σ H Q
theorem tsv_nil {X : Cx} : TsV X [] cYes [] := by
  refine ⟨_, pts_nil, fun Y F H δ σ A S b δ' e Q k => ?_⟩
  cases e
  exact k F H Stp.refl S
theorem tsv_one {X : Cx} {e : Expr} {f M} (h : TV X e f M) : TsV X [e] f M := by
  obtain ⟨t, p, q⟩ := h
  exact ⟨t, pts_one p, q⟩
theorem TsV.pts {X : Cx} {es : List Expr} {f M} (h : TsV X es f M) : PTs X es (tTV X.K f M) := by
  obtain ⟨t, p, q⟩ := h
  refine ⟨fun pins s σ H Q I z => ?_⟩
  obtain ⟨Y, F, δ, A, d, δ', S, e1, k⟩ := z
  exact p.run pins s σ H Q I (q Y F H δ σ A S d δ' e1 Q k)
abbrev Bk (X : Cx) (scope : Scope) (s : Shared) (H : Hp) (C : Addr) (cl : List (Str × Addr)) (fp : List Addr) : Cx := X.blk s H scope (compEnvC scope cl C X.env) fp
theorem lc_read {X : Cx} {T : Tt} {vs : List Nat} {f c fe} {R M Mt Me : List Nat} {wi : TI}
    (hi : ∀ (Y : Fx) (F H : Hp) (δ : List Sl) (σ : L2.St) (A : Nat → List Addr), SR X.K Y F H δ σ A → ∀ (ds : List D) (δ' : List Sl), f δ = some (ds, δ') → ∀ Q : It → Hp → Prop,
      (∀ J F' H', Stp A M F H F' H' → SR X.K Y F' H' δ' σ A → Wk X.K F' (ex R A F' H') J ds → Q J H') → wi σ H Q)
    (hT : ∀ j ∈ tS T, j ∈ vs) (dj : ∀ i ∈ R, i ∉ Mt ++ Me := by decide) (Y : Fx) (F H : Hp) (δ : List Sl) (σ : L2.St) (A : Nat → List Addr) (S : SR X.K Y F H δ σ A) (z : D) (δ' : List Sl) (e : fLc T vs f c fe δ = some (z, δ')) (Q : VK)
    (k : ∀ p F' H', Stp A (M ++ (Mt ++ Me)) F H F' H' → SR X.K Y F' H' δ' σ A → H p = none → F' p = none → OwnR X.K F' H' p z → Q (.ref p) H') :
    tLc wi (tGV X.K T) (tTV X.K c Mt) (tEV X.K fe [] Me) vs σ H Q := by
  unfold fLc at e
  cases e1 : f δ with
  | none => rw [e1] at e; cases e
  | some w =>
    obtain ⟨ds, δ1⟩ := w
    rw [e1] at e
    simp only [Option.bind_some] at e
    split at e
    · rename_i cn
      rw [Bool.and_eq_true, decide_eq_true_eq] at cn
      obtain ⟨cn, csz⟩ := cn
      cases e2 : compL T vs c fe ds δ1 with
      | none => rw [e2] at e; cases e
      | some w =>
        obtain ⟨zs, δ2⟩ := w
        rw [e2] at e
        cases e
        refine hi Y F H δ σ A S ds δ1 e1 _ fun J F1 H1 st S1 wk => ?_
        intro p hp
        have hpF : F1 p = none := S1.sub.free hp
        have hA : ∀ j ∈ vs, A j = [] := S1.noA cn
        have hio : ∀ j ∈ vs, Y.io j = false := fun j hj => by
          cases q : Y.io j with
          | false => rfl
          | true =>
            have h1 := (S1.fix j q).2
            rw [hA j hj] at h1
            exact absurd h1.symm (S1.ioA j q)
        have hl1 : ∀ j ∈ vs, j < δ1.length := fun j hj => (List.getElem?_eq_some_iff.mp (noS_at cn hj)).1
        have Sw : SR X.K Y F1 H1 δ1 (wipe σ vs) A := by
          have q := S1.wiped (vs := vs) (σ := σ) rfl hA hio hl1
          rw [wipeS_no cn] at q
          exact q
        -- the invariant
        let Inv_ : Nat → Hp → Prop := fun i H' => ∃ F' δ' zs' acc, Stp A (Mt ++ Me) F1 H1 F' H' ∧ SR X.K Y F' H' δ' (wipe σ vs) A ∧ H' p = some (.lst acc) ∧ F' p = none ∧ Rps X.K F' acc zs' ∧ acc.length ≤ i ∧ δ'.length = δ1.length ∧ noS vs δ' = true ∧
          ∃ zr, compL T vs c fe (ds.drop i) δ' = some (zr, δ2) ∧ zs = zs' ++ zr
        have start : Inv_ 0 (upd H1 p (.lst [])) := ⟨F1, δ1, [], [], Stp.laidO hp, Sw.laidO hp, upd_same, hpF, .nil, Nat.le_refl _, rfl, cn, zs, by rw [List.drop_zero]; exact e2, rfl⟩
        have seen : ∀ {F' H' δ'}, Stp A (Mt ++ Me) F1 H1 F' H' → SR X.K Y F' H' δ' (wipe σ vs) A → Same (ex R A F1 H1) H' := fun {F' H' δ'} st' S' a o ea => by
          unfold ex at ea
          by_cases ca : ∃ i ∈ R, a ∈ A i
          · rw [if_pos ca] at ea
            obtain ⟨i, hi, ha⟩ := ca
            refine st'.kp a o ea fun j hj hz => ?_
            have := S1.dis j i a hz ha
            subst this
            exact dj _ hi hj
          · rw [if_neg ca] at ea
            exact S'.sub a o (st'.f a o ea)
        refine ⟨fun i m H' => m = ds.length - i ∧ i ≤ ds.length ∧ Inv_ i H', ⟨ds.length, by simp, Nat.zero_le _, start⟩, ?_⟩
        rintro i m H' ⟨rfl, hi, F', δ', zs', acc, st', S', hD, hDF, ra, hal, hl, hno, zr, ec, ezs⟩
        have nA : ∀ j, p ∉ A j := fun j hj => S1.isSome hj hp
        by_cases hlt : i < ds.length
        · have hd : ds.drop i = ds[i] :: ds.drop (i + 1) := List.drop_eq_getElem_cons hlt
          rw [hd] at ec
          unfold compL at ec
          cases e3 : bindT T ds[i] δ' with
          | none => rw [e3] at ec; cases ec
          | some δ3 =>
            rw [e3] at ec
            simp only [Option.bind_some] at ec
            cases e4 : c δ3 with
            | none => rw [e4] at ec; cases ec
            | some w =>
              obtain ⟨b, δ4⟩ := w
              rw [e4] at ec
              simp only [Option.bind_some] at ec
              refine .inr ⟨wk.go i H' hlt (seen st' S'), fun H2 => Inv_ (i + 1) H2, fun H2 h => ⟨ds.length - (i + 1), by omega, rfl, by omega, h⟩, fun x H2 y => ?_⟩
              have main : ∀ F2, Stp A (Mt ++ Me) F1 H1 F2 H2 → Same F' F2 → SR X.K Y F2 H2 δ' (wipe σ vs) A → H2 p = some (.lst acc) → F2 p = none → Rp X.K F2 x ds[i] →
                  tGV X.K T x (wipe σ vs) H2 fun σ2 H2 => wipe σ2 vs = wipe σ vs ∧ tTV X.K c Mt σ2 H2 fun b H3 =>
                    if b = true then tEV X.K fe [] Me σ2 H3 fun y H4 => ∃ acc, H4 p = some (.lst acc) ∧ acc.length < sizeLine ∧ Inv_ (i + 1) (upd H4 p (.lst (acc ++ [y]))) else Inv_ (i + 1) H3 := by
                intro F2 st2 s2 S2 hD2 hF2 r2
                refine ⟨Y, F2, δ', A, ds[i], δ3, fun j hj => hio j (hT j hj), S2, r2, e3, fun σ3 A3 bt S3 => ?_⟩
                have eA : A3 = A := by
                  funext j
                  by_cases c : j ∈ tS T
                  · rw [bt.e j c, hA j (hT j c)]
                  · exact bt.a j c
                subst eA
                have hl3 : σ3.length = (wipe σ vs).length := by
                  rw [← S3.len, ← S2.len]
                  exact bindT_length e3
                have hw : wipe σ3 vs = wipe σ vs := by
                  have q : wipe σ3 vs = wipe (wipe σ vs) vs := wipe_eq hl3 fun j hj => bt.s j fun z => hj (hT j z)
                  rw [q]
                  exact wipe_eq (wipe_length _ _) fun j hj => wipe_out' hj
                refine ⟨hw, Y, F2, δ3, A3, b, δ4, S3, e4, fun F3 H3 st3 S4 => ?_⟩
                have st3' := (st2.trans S2 st3).mono (M' := Mt ++ Me) fun j hj => by
                  rcases List.mem_append.mp hj with z | z
                  · exact z
                  · exact List.mem_append_left _ z
                have hD3 : H3 p = some (.lst acc) := st3.kp p _ hD2 fun j _ hz => nA j hz
                have hF3 : F3 p = none := by
                  cases q : F3 p with
                  | none => rfl
                  | some o =>
                    have := st3.nw p hF2 (by rw [q]; simp)
                    rw [hD2] at this
                    cases this
                have hl4 : δ4.length = δ1.length := by
                  rw [S4.len, hl3, ← S2.len]
                  exact hl
                have hls4 : ∀ j ∈ vs, j < δ4.length := fun j hj => by rw [hl4]; exact hl1 j hj
                cases b with
                | false =>
                  refine iteF ⟨F3, wipeS vs δ4, zs', acc, st3', S4.wiped hw hA hio hls4, hD3, hF3, ra.mono (s2.trans st3.f), by omega, by rw [wipeS_length]; exact hl4, ?_, zr, ec, ezs⟩
                  exact List.all_eq_true.mpr fun j hj => by rw [wipeS_in hj (hls4 j hj)]
                | true =>
                  refine iteT ?_
                  simp only at ec
                  cases e5 : fe δ4 with
                  | none => rw [e5] at ec; cases ec
                  | some w =>
                    obtain ⟨d, δ5⟩ := w
                    rw [e5] at ec
                    simp only [Option.bind_some] at ec
                    cases e6 : compL T vs c fe (ds.drop (i + 1)) (wipeS vs δ5) with
                    | none => rw [e6] at ec; cases ec
                    | some w =>
                      obtain ⟨zr', δ6⟩ := w
                      rw [e6] at ec
                      simp only [Option.map_some, Option.some.injEq, Prod.mk.injEq] at ec
                      obtain ⟨rfl, rfl⟩ := ec
                      refine ⟨Y, F3, δ4, A3, d, δ5, S4, e5, fun v F4 H4 st4 S5 r4 => ?_⟩
                      have st4' := (st3'.trans S4 st4).mono (M' := Mt ++ Me) fun j hj => by
                        rcases List.mem_append.mp hj with z | z
                        · exact z
                        · exact List.mem_append_right _ z
                      have hD4 : H4 p = some (.lst acc) := st4.kp p _ hD3 fun j _ hz => nA j hz
                      have hF4 : F4 p = none := by
                        cases q : F4 p with
                        | none => rfl
                        | some o =>
                          have := st4.nw p hF3 (by rw [q]; simp)
                          rw [hD3] at this
                          cases this
                      have hl5 : δ5.length = δ1.length := by
                        rw [S5.len, hl3, ← S2.len]
                        exact hl
                      have hls5 : ∀ j ∈ vs, j < δ5.length := fun j hj => by rw [hl5]; exact hl1 j hj
                      have Sf : SR X.K Y F4 (upd H4 p (.lst (acc ++ [v]))) δ5 σ3 A3 := S5.upd_free hF4 nA (by
                        cases q : Y.H0 p with
                        | none => rfl
                        | some o => rw [S1.fresh0 hp] at q; cases q)
                      refine ⟨acc, hD4, by omega, F4, wipeS vs δ5, zs' ++ [d], acc ++ [v], ?_, Sf.wiped hw hA hio hls5, upd_same, hF4, ((ra.mono ((s2.trans st3.f).trans st4.f)).append (.cons r4.nil .nil)), by rw [List.length_append]; simp; omega, by rw [wipeS_length]; exact hl5, ?_, zr', e6, by rw [ezs, List.append_assoc]; rfl⟩
                      · exact ⟨st4'.f, st4'.nw, fun a o ea hn => by rw [upd_ne (ne_of_none ea hp)]; exact st4'.kp a o ea hn⟩
                      · exact List.all_eq_true.mpr fun j hj => by rw [wipeS_in hj (hls5 j hj)]
              have sE := seen st' S'
              rcases wk.yld i H' x H2 _ sE y (List.getElem?_eq_getElem hlt) with ⟨rfl, r⟩ | ⟨U, xs, es, nU, rfl, rfl, e5, r⟩
              · exact main F' st' (Same.refl _) S' hD hDF (r.mono st'.f)
              · have l := Stp.laid (M := []) (o := .tup xs) S' nU
                have npU : p ≠ U := ne_of_none hD nU
                refine main _ (stp_nil S' st' l) l.f (S'.laid nU) (by rw [upd_ne npU]; exact hD) (by rw [upd_ne npU]; exact hDF) ?_
                rw [e5]
                exact .tup (.inl (.inl upd_same)) (r.mono (st'.f.trans l.f))
        · have hi2 : i = ds.length := by omega
          subst hi2
          rw [List.drop_length] at ec
          unfold compL at ec
          simp only [Option.some.injEq, Prod.mk.injEq] at ec
          obtain ⟨rfl, rfl⟩ := ec
          rw [List.append_nil] at ezs
          subst ezs
          refine .inl ⟨wk.stop H' (seen st' S'), k p F' H' (st.trans S1 st') ?_ (back st S1 hp) hDF ⟨acc, hD, ra⟩⟩
          -- the outer slots again
          refine ⟨by rw [S'.len, wipe_length], fun j t et => ?_, S'.out, S'.dis, S'.hid, S'.new, S'.sub, fun j h1 => ?_, S'.ioA, S'.kp, S'.nw, S'.f0⟩
          · by_cases cj : j ∈ vs
            · rw [noS_at hno cj] at et
              cases et
              exact hA j cj
            · have := S'.slot j t et
              rw [wipe_out' cj] at this
              exact this
          · have cj : j ∉ vs := fun z => by rw [hio j z] at h1; cases h1
            have := S'.fix j h1
            rw [wipe_out' cj] at this
            exact this
    · cases e
section
variable {X : Cx} {T : Tt} {f c fe} {R M Mt Me : List Nat} {elt tg iter : Expr} {ifs : List Expr} {scope : Scope} {own : List (Str × Nat)} {pos : Pos}
/-- [elt for tg in iter if ..] -/
theorem nv_lc (hc : X.calm = true) (hN : X.N.Nodup) (hi : IV X tg iter f R M) (ok : BlkOk X.N X.env.scope scope own) (hg : ∀ s H C cl fp, GV (Bk X scope s H C cl fp) tg T) (ht : ∀ s H C cl fp, TsV (Bk X scope s H C cl fp) ifs c Mt) (he : ∀ s H C cl fp, EV (Bk X scope s H C cl fp) elt fe [] Me)
    (hs : ∀ x, foldedSetIterable iter X.env x = pure x := by intro _; rfl) (hT : ∀ j ∈ tS T, j ∈ own.map (·.2) := by decide) (dj : ∀ i ∈ R, i ∉ Mt ++ Me := by decide) : NV X (.ListComp elt [⟨tg, iter, ifs, 0⟩] scope pos) (fLc T (own.map (·.2)) f c fe) (M ++ (Mt ++ Me)) := by
  obtain ⟨wi, pw, qi⟩ := hi
  refine ⟨_, pe_lc (g := tGV X.K T) (tt := tTV X.K c Mt) (te := tEV X.K fe [] Me) hc hN pw ok (fun s H C cl fp => (hg s H C cl fp).pg) (fun s H C cl fp => (ht s H C cl fp).pts) (fun s H C cl fp => (he s H C cl fp).pe) hs, fun Y F H δ σ A S z δ' e Q k => ?_⟩
  exact lc_read qi hT dj Y F H δ σ A S z δ' e Q k
/-- x = [..] on one line -/
theorem sv_lc {io : Nat → Bool} {fr : Bool} {i : Nat} {y : Str} {py spos : Pos} (hc : X.calm = true) (hN : X.N.Nodup) (hy : X.N[i]? = some y) (hyl : X.env.scope.names.lookup y = some .local) (hsw : swapsWith (.ListComp elt [⟨tg, iter, ifs, 0⟩] scope pos) (some (.Name y py)) spos.line X.env = pure true)
    (hi : IV X tg iter f R M) (ok : BlkOk X.N X.env.scope scope own) (hg : ∀ s H C cl fp, GV (Bk X scope s H C cl fp) tg T) (ht : ∀ s H C cl fp, TsV (Bk X scope s H C cl fp) ifs c Mt) (he : ∀ s H C cl fp, EV (Bk X scope s H C cl fp) elt fe [] Me)
    (hs : ∀ x, foldedSetIterable iter X.env x = pure x := by intro _; rfl) (hT : ∀ j ∈ tS T, j ∈ own.map (·.2) := by decide) (dj : ∀ i ∈ R, i ∉ Mt ++ Me := by decide) (hio : io i = false) : SV X io fr (.Assign [.Name y py] (.ListComp elt [⟨tg, iter, ifs, 0⟩] scope pos) spos) (sOwn i (fLc T (own.map (·.2)) f c fe)) := by
  obtain ⟨wi, pw, qi⟩ := hi
  refine ⟨_, ps_setLc (g := tGV X.K T) (tt := tTV X.K c Mt) (te := tEV X.K fe [] Me) hc hN hy hyl hsw pw ok (fun s H C cl fp => (hg s H C cl fp).pg) (fun s H C cl fp => (ht s H C cl fp).pts) (fun s H C cl fp => (he s H C cl fp).pe) hs, fun Y F H δ σ A hY S o e D k => ?_⟩
  unfold sOwn at e
  cases e1 : fLc T (own.map (·.2)) f c fe δ with
  | none => rw [e1] at e; cases e
  | some w =>
    obtain ⟨d, δ1⟩ := w
    rw [e1] at e
    simp only [Option.bind_some] at e
    split at e
    · rename_i hi
      cases e
      refine lc_read qi hT dj Y F H δ σ A S d δ1 e1 _ fun p F1 H1 st S1 n hF r => ?_
      exact k _ F1 H1 _ st.f (S1.putOw hi (by rw [hY]; exact hio) (S.fresh0 n) hF (fun j hj => S.isSome hj n) r)
    · cases e
end
end Z

/-! Zb: the defs of the text: what each promises, its call, its body. -/
namespace Z
open PySem PySem.Spec PyProof.Rows L2

/-- a def keeps its promise, called where no text of an object is being made -/
structure FnG (P : Program) (w : World) (K : PySem.W.Frag) (mg : Str → Option Value) (base : Heap) (CX : CXT) (k : Nat) (f : Addr) (fd : FuncData) (ps : List Str) (sp : Sp) : Prop where
  len : ∀ us G Q E, sp us G Q E → us.length = ps.length
  run : ∀ (A : Around) (out : List Env) (s : Shared) (G : Hp) (ar : Args) (ws : List Value) (us : List V) (Q : VK) (E : XK), A.guards = some [] → Room k A → Env0 P w K mg base A out s G → BindsTo s fd ar (ps.zip ws) → Vals us ws → sp us G Q E →
    codeAny (model P w) A (.call (.ref f) ar) (CR CX out P w G s Q E) s

section
variable {P : Program} {w : World} {K : PySem.W.Frag} {mg : Str → Option Value} {base : Heap} {CX : CXT} {k : Nat} {f : Addr} {fd : FuncData} {ps : List Str} {sp : Sp}
/-- a def of the text, by its body -/
theorem FnG.mk' {x qual : Str} {st : Stmt} {N : List Str} (Fu : Fun K x qual st f fd) (S : FnScope N ps (defScope st)) (len : ∀ us G Q E, sp us G Q E → us.length = ps.length)
    (body : ∀ (cd : Value) (A : Around) (out : List Env) (s : Shared) (G : Hp) (us : List V) (Q : VK) (E : XK), A.guards = some [] → Room k (A.deeper (envOfC qual (defScope st) s.heap.objs.size f cd)) → sp us G Q E →
      ∃ t, PSs (cxOf CX P w K mg base N qual (defScope st) f cd A out s G E) (defBody st) t ∧ t { nx := fun _ G' => Q .non G', rt := Q } (start N us) G) : FnG P w K mg base CX (k + 1) f fd ps sp := by
  obtain ⟨oc, od, kV, doc, pm, an, cd, ct, osl, rfl, lk, hcd⟩ := Fu.ex
  refine ⟨len, ?_⟩
  intro A out s G ar ws us Q E hG hR e0 hb hv hsp
  have n := len _ _ _ _ hsp
  have inK : K.In s.heap := e0.mod.kin.keeps (fun b o e => (e0.bs b o e).1)
  have room : s.heap.NoLimit := e0.mod.nolimit.keeps (fun b o e => (e0.bs b o e).1)
  have kinds : ∀ y ∈ ps.zip ws, (defScope st).names.lookup y.1 = some .local ∨ ((defScope st).names.lookup y.1 = some .cell ∧ ((cellsFrom (s.heap.objs.size + 1) (defScope st).names []).lookup y.1).isSome = true) := by
    rintro ⟨m, v⟩ hy
    rcases S.par m (List.of_mem_zip hy).1 with q | q
    · exact .inl q
    · exact .inr ⟨q, PySem.W.cellsFrom_some _ _ _ (.inl q)⟩
  refine codeAny_call_function hR.depth (inK _ _ lk) rfl S.co S.gen rfl (PySem.W.codeRec_of inK hcd) (hb _ _ _ _ ?_)
  refine wpAny_newFunctionEnv_cells S.kind kinds fun env he s1 x => ?_
  subst he
  refine ⟨room.keeps x.toInCall.keep, codeAny_func ?_⟩
  obtain ⟨t, ht, hq⟩ := body cd A out s G us Q E hG (hR.deeper _) hsp
  have J0 := inv_start (CX := CX) (E := E) S hR.hd e0 n hv x
  refine wpAny_mono (ht.run [] s1 (start N us) G _ J0 hq) (fun fl s2 hs => ?_) (fun _ _ hs => hs)
  cases fl with
  | ret u =>
    obtain ⟨v, σ2, G2, J, rv, q⟩ := hs
    exact ⟨v, G2, J.os, J.bare, J.base, J.hok, rv, q⟩
  | next =>
    obtain ⟨σ2, G2, J, q⟩ := hs
    exact ⟨.non, G2, J.os, J.bare, J.base, J.hok, rfl, q⟩
  | brk =>
    obtain ⟨_, _, _, q⟩ := hs
    exact q.elim
  | cont =>
    obtain ⟨_, _, _, q⟩ := hs
    exact q.elim
end
section
variable {X : Cx} {CX : CXT} {k : Nat} {f : Addr} {fd : FuncData} {ps : List Str} {sp : Sp} {E : XK} {x : Str} {p pos : Pos} {e : Expr} {es : List Expr} {t : TA}
/-- its call by name -/
theorem FnG.pe (Fn : FnG X.prog X.w X.K X.mg X.base CX k f fd ps sp) (hG : X.A.guards = some []) (hR : Room k X.A) (gl : Gl X x) (m : X.mg x = some (.ref f)) (kp : PySem.W.keepIn X.K (.ref f) = true) (hb : Binds X.K fd ps []) (hx : Passes CX X E)
    (ha : PA X (e :: es) t) (db : (x == ("__debug__" : Str)) = false) (h1 : starEach (e :: es) X.env = (false, eval e X.env) :: starEach es X.env) (h2 : (backTo pos (starEach es X.env)).any (·.1) = false) :
    PE X (.Call (.Name x p) (e :: es) [] pos) (tCall sp [] E t) := by
  constructor
  intro pins s σ G Q I h
  refine wpAny_Call_Name_kw (ld_glob I gl m ?_ db)
  refine PySem.W.callWith_K (h₀ := X.base) I.ok.mod.kin kp (thn (ha.run pos pins s σ G _ I h) ?_) h1 h2
  rintro ws s1 ⟨us, G1, I1, r, q⟩
  refine ⟨I1.kIn, ?_⟩
  rw [List.append_nil] at q
  have n := Fn.len _ _ _ _ q
  have n2 : (ws ++ []).length = ps.length := by rw [List.append_nil, ← r.length]; exact n
  have b := hb s1 ws I1.kIn n2
  rw [List.append_nil] at b
  refine wpAny_call (codeAny_mono (Fn.run X.A X.stack s1 G1 ⟨ws, []⟩ ws us Q E hG hR I1.env0 b r q) ?_)
  intro res s2 hq
  cases res with
  | error er => exact hx pins σ G1 s1 er s2 I1 hq
  | ok fl =>
    cases fl with
    | ret u => exact I1.after hq
    | next => exact hq.elim
    | brk => exact hq.elim
    | cont => exact hq.elim
end

/-! ### the promise, by data -/
def isOwn : Sl → Bool
  | .ow _ => true
  | .dk _ _ _ => true
  | _ => false
def Ret (K : PySem.W.Frag) (fr : Bool) (H F' H' : Hp) (v : V) (d : D) : Prop :=
  match fr with
  | false => Rp K F' v d
  | true => ∃ p, v = .ref p ∧ H p = none ∧ F' p = none ∧ OwnR K F' H' p d
def spF (K : PySem.W.Frag) (n : Nat) (fr : Bool) (φ : List Sl → Option (D × List Sl)) : Sp := fun us H Q _ =>
  ∃ (F : Hp) (as : List Sl) (A : Nat → List Addr), as.length = n ∧ SR K Fx.any F H as (us.map some) A ∧ ∃ d outs, φ as = some (d, outs) ∧
    ∀ v F' H', Stp A (List.range n) F H F' H' → SR K Fx.any F' H' outs (us.map some) A → Ret K fr H F' H' v d → Q v H'
theorem spF_len {K : PySem.W.Frag} {n : Nat} {fr : Bool} {φ} {us : List V} {H : Hp} {Q : VK} {E : XK} (h : spF K n fr φ us H Q E) : us.length = n := by
  obtain ⟨F, as, A, hn, S, _⟩ := h
  have := S.len
  rw [List.length_map] at this
  omega
/-- the arguments as they are behind the call -/
def mergeO : List Sl → List Sl → Option (List Sl)
  | [], _ => some []
  | a :: r, b :: s => match isOwn a with
    | true => match isOwn b with
      | true => (mergeO r s).map (b :: ·)
      | false => none
    | false => (mergeO r s).map (a :: ·)
  | _ :: _, [] => none
def okArgs (sg : List Bool) (as : List Sl) : Bool := decide (as.map isOwn = sg)
/-- what a def does, by its body -/
def fnF (sg : List Bool) (m : Nat) (fr : Bool) (g : List Sl → Option Out) : List Sl → Option (D × List Sl) := fun as =>
  if okArgs sg as then
    match g (as ++ List.replicate (m - sg.length) .no) with
    | some (.rt d δ) => (mergeO as δ).map fun o => (d, o)
    | some (.nx δ) => match fr with
      | false => (mergeO as δ).map fun o => (.none, o)
      | true => none
    | _ => none
  else none
theorem mergeO_length : ∀ {as δ o : List Sl}, mergeO as δ = some o → o.length = as.length
  | [], _, _, h => by cases h; rfl
  | a :: r, b :: s, o, h => by
    unfold mergeO at h
    split at h
    · split at h
      · cases e : mergeO r s with
        | none => rw [e] at h; cases h
        | some z => rw [e] at h; cases h; exact congrArg (· + 1) (mergeO_length e)
      · cases h
    · cases e : mergeO r s with
      | none => rw [e] at h; cases h
      | some z => rw [e] at h; cases h; exact congrArg (· + 1) (mergeO_length e)
  | _ :: _, [], _, h => by cases h
theorem mergeO_get : ∀ {as δ o : List Sl} {i : Nat} {a : Sl}, mergeO as δ = some o → as[i]? = some a → (isOwn a = true ∧ ∃ b, δ[i]? = some b ∧ isOwn b = true ∧ o[i]? = some b) ∨ (isOwn a = false ∧ o[i]? = some a)
  | [], _, _, _, _, _, e => by simp at e
  | a :: r, b :: s, o, i, c, h, e => by
    unfold mergeO at h
    split at h
    · rename_i ha
      split at h
      · rename_i hb
        cases e1 : mergeO r s with
        | none => rw [e1] at h; cases h
        | some z =>
          rw [e1] at h
          cases h
          cases i with
          | zero => cases e; exact .inl ⟨ha, b, rfl, hb, rfl⟩
          | succ i => exact mergeO_get (i := i) e1 e
      · cases h
    · rename_i ha
      cases e1 : mergeO r s with
      | none => rw [e1] at h; cases h
      | some z =>
        rw [e1] at h
        cases h
        cases i with
        | zero =>
          cases e
          refine .inr ⟨?_, rfl⟩
          cases q : isOwn a with
          | false => rfl
          | true => exact absurd q (by simpa using ha)
        | succ i => exact mergeO_get (i := i) e1 e
  | _ :: _, [], _, _, _, h, _ => by cases h
def ioOf (sg : List Bool) (i : Nat) : Bool := sg.getD i false
section
variable {K : PySem.W.Frag} {F H F' H' : Hp} {as : List Sl} {us : List V} {A : Nat → List Addr}
theorem own_none {s : Sl} {v : Option V} {B : List Addr} (h : SlotR K F H s v B) (n : isOwn s = false) : B = [] := by
  cases s with
  | no => exact h
  | fz d => exact h.1
  | ow d => cases n
  | dk _ _ _ => cases n
  | scr _ => exact h.1
theorem own_some {s : Sl} {v : Option V} {B : List Addr} (h : SlotR K F H s v B) (n : isOwn s = true) : B ≠ [] := by
  cases s with
  | no => cases n
  | fz d => cases n
  | ow d => obtain ⟨p, _, e, _⟩ := h; rw [e]; simp
  | dk _ _ _ => obtain ⟨p, q, _, e, _⟩ := h; rw [e]; simp
  | scr _ => cases n
/-- the entry of a body -/
theorem SR.entry {sg : List Bool} {N : List Str} (S : SR K Fx.any F H as (us.map some) A) (h : okArgs sg as = true) (hN : sg.length ≤ N.length) :
    SR K ⟨ioOf sg, H, F, start N us, A⟩ F H (as ++ List.replicate (N.length - sg.length) .no) (start N us) A := by
  have hsg : as.map isOwn = sg := by simpa [okArgs] using h
  have l1 : as.length = sg.length := by rw [← hsg, List.length_map]
  have l2 : as.length = us.length := by have := S.len; rwa [List.length_map] at this
  have own : ∀ i a, as[i]? = some a → ioOf sg i = isOwn a := fun i a e => by
    unfold ioOf
    rw [← hsg, List.getD_eq_getElem?_getD, List.getElem?_map, e]
    rfl
  have ino : ∀ i, ioOf sg i = true → ∃ a, as[i]? = some a ∧ isOwn a = true := fun i h => by
    cases e : as[i]? with
    | none =>
      unfold ioOf at h
      rw [← hsg, List.getD_eq_getElem?_getD, List.getElem?_map, e] at h
      cases h
    | some a => exact ⟨a, rfl, by rw [← own i a e]; exact h⟩
  refine ⟨?_, fun i s e => ?_, fun i e => ?_, S.dis, S.hid, fun i a ha hi => ?_, S.sub, fun i _ => ⟨rfl, rfl⟩, fun i hi => ?_, fun _ _ e _ => e, fun _ e n => absurd e n, Same.refl _⟩
  · unfold L2.start
    rw [List.length_append, List.length_replicate, List.length_append, List.length_map, List.length_replicate]
    omega
  · by_cases c : i < as.length
    · rw [List.getElem?_append_left c] at e
      have := S.slot i s e
      unfold L2.start
      rw [List.getElem?_append_left (by rw [List.length_map]; omega)]
      exact this
    · rw [List.getElem?_append_right (by omega), List.getElem?_replicate] at e
      split at e
      · cases e
        exact S.out i (List.getElem?_eq_none (by omega))
      · cases e
  · have : as.length ≤ i := by
      have := List.getElem?_eq_none_iff.mp e
      rw [List.length_append] at this
      omega
    exact S.out i (List.getElem?_eq_none this)
  · cases e : as[i]? with
    | none => rw [S.out i e] at ha; simp at ha
    | some s =>
      rw [own_none (S.slot i s e) (by rw [← own i s e]; exact hi)] at ha
      simp at ha
  · obtain ⟨a, e, ho⟩ := ino i hi
    exact own_some (S.slot i a e) ho
/-- its end -/
theorem SR.leave {sg : List Bool} {N : List Str} {δ' outs : List Sl} {σ' : L2.St} {A' : Nat → List Addr} (S : SR K Fx.any F H as (us.map some) A) (h : okArgs sg as = true) (hN : sg.length ≤ N.length) (S' : SR K ⟨ioOf sg, H, F, start N us, A⟩ F' H' δ' σ' A') (hm : mergeO as δ' = some outs) :
    Stp A (List.range sg.length) F H F' H' ∧ SR K Fx.any F' H' outs (us.map some) A := by
  have hsg : as.map isOwn = sg := by simpa [okArgs] using h
  have l1 : as.length = sg.length := by rw [← hsg, List.length_map]
  have l2 : as.length = us.length := by have := S.len; rwa [List.length_map] at this
  have own : ∀ i a, as[i]? = some a → ioOf sg i = isOwn a := fun i a e => by
    unfold ioOf
    rw [← hsg, List.getD_eq_getElem?_getD, List.getElem?_map, e]
    rfl
  have nul : ∀ i, ioOf sg i = false → A i = [] := fun i hi => by
    cases e : as[i]? with
    | none => exact S.out i e
    | some s => exact own_none (S.slot i s e) (by rw [← own i s e]; exact hi)
  have lo := mergeO_length hm
  have eqA : ∀ i, ioOf sg i = true → A' i = A i := fun i hi => (S'.fix i hi).2
  have small : ∀ i, ioOf sg i = true → i < sg.length := fun i hi => by
    cases Nat.lt_or_ge i sg.length with
    | inl h => exact h
    | inr h =>
      unfold ioOf at hi
      rw [List.getD_eq_getElem?_getD, List.getElem?_eq_none h] at hi
      cases hi
  refine ⟨⟨S'.f0, S'.nw, fun a o e n => S'.kp a o e fun i hi z => n i (List.mem_range.mpr (small i hi)) z⟩, ?_⟩
  refine ⟨by rw [lo]; exact S.len, fun i s e => ?_, fun i e => ?_, S.dis, fun i a ha => ?_, fun _ _ _ _ => rfl, S'.sub, fun i hi => ?_, fun i hi => ?_, fun _ _ e => ?_, fun _ _ _ => rfl, fun _ _ e => ?_⟩
  · have hi : i < as.length := by rw [← lo]; exact (List.getElem?_eq_some_iff.mp e).1
    obtain ⟨a, ea⟩ : ∃ a, as[i]? = some a := ⟨_, List.getElem?_eq_getElem hi⟩
    rcases mergeO_get hm ea with ⟨h1, b, h2, h3, h4⟩ | ⟨h1, h2⟩
    · rw [e] at h4
      cases h4
      have io : ioOf sg i = true := by rw [own i a ea]; exact h1
      have q := S'.slot i s h2
      obtain ⟨f1, f2⟩ := S'.fix i io
      rw [f1, f2] at q
      have : (start N us)[i]? = (us.map some)[i]? := by
        unfold L2.start
        rw [List.getElem?_append_left (by rw [List.length_map]; omega)]
      rw [show (⟨ioOf sg, H, F, start N us, A⟩ : Fx).σ0 = start N us from rfl, this] at q
      exact q
    · rw [e] at h2
      cases h2
      have io : ioOf sg i = false := by rw [own i s ea]; exact h1
      refine (S.slot i s ea).mono S'.f0 fun a ha => ?_
      rw [nul i io] at ha
      simp at ha
  · exact S.out i (List.getElem?_eq_none (by rw [← lo]; exact List.getElem?_eq_none_iff.mp e))
  · cases c : ioOf sg i with
    | true =>
      rw [← eqA i c] at ha
      exact S'.hid i a ha
    | false =>
      rw [nul i c] at ha
      simp at ha
  · cases hi
  · cases hi
  · cases e
  · cases e
end
section
variable {P : Program} {w : World} {K : PySem.W.Frag} {mg : Str → Option Value} {base : Heap} {CX : CXT} {k : Nat} {f : Addr} {fd : FuncData} {ps : List Str}
/-- THE RULE: a def does what its body does -/
theorem fn_ok {x qual : Str} {st : Stmt} {N : List Str} {sg : List Bool} {fr : Bool} {g : List Sl → Option Out} (Fu : Fun K x qual st f fd) (S : FnScope N ps (defScope st)) (hl : sg.length = ps.length)
    (body : ∀ (cd : Value) (A : Around) (out : List Env) (s : Shared) (G : Hp) (E : XK), A.guards = some [] → Room k (A.deeper (envOfC qual (defScope st) s.heap.objs.size f cd)) → BV (cxOf CX P w K mg base N qual (defScope st) f cd A out s G E) (ioOf sg) fr (defBody st) g) :
    FnG P w K mg base CX (k + 1) f fd ps (spF K ps.length fr (fnF sg N.length fr g)) := by
  have hN : sg.length ≤ N.length := by
    rw [hl]
    have := congrArg List.length S.pre
    rw [List.length_take] at this
    omega
  refine FnG.mk' Fu S (fun us G Q E h => spF_len h) fun cd A out s G us Q E hG hR h => ?_
  obtain ⟨t, p, q⟩ := body cd A out s G E hG hR
  refine ⟨t, p, ?_⟩
  obtain ⟨F, as, B, hn, S0, d, outs, hφ, kk⟩ := h
  unfold fnF at hφ
  split at hφ
  · rename_i ok
    have S1 := S0.entry ok hN
    cases e : g (as ++ List.replicate (N.length - sg.length) .no) with
    | none => rw [e] at hφ; cases hφ
    | some o =>
      rw [e] at hφ
      refine q ⟨ioOf sg, G, F, start N us, B⟩ F G _ (start N us) B rfl S1 o e _ ?_
      cases o with
      | rt d1 δ1 =>
        simp only at hφ
        cases e2 : mergeO as δ1 with
        | none => rw [e2] at hφ; cases hφ
        | some o =>
          rw [e2] at hφ
          cases hφ
          intro v σ' F' G' B' sF S2 r
          obtain ⟨st', S3⟩ := S0.leave ok hN S2 e2
          rw [hl] at st'
          refine kk v F' G' st' S3 ?_
          cases fr with
          | false => exact r
          | true =>
            obtain ⟨p', rv, h0, hF, _, ow⟩ := r
            exact ⟨p', rv, h0, hF, ow⟩
      | nx δ1 =>
        cases fr with
        | true => cases hφ
        | false =>
          simp only at hφ
          cases e2 : mergeO as δ1 with
          | none => rw [e2] at hφ; cases hφ
          | some o =>
            rw [e2] at hφ
            cases hφ
            intro σ' F' G' B' sF S2
            obtain ⟨st', S3⟩ := S0.leave ok hN S2 e2
            rw [hl] at st'
            exact kk .non F' G' st' S3 .non
      | ct δ1 => cases hφ
  · cases hφ
end
end Z

/-! Zc: calls of the text's own defs, by data. -/
namespace Z
open PySem PySem.Spec PyProof.Rows L2
/-- an argument: a datum, or what a slot owns, handed on -/
inductive Ar where
  | d (d : D)
  | io (i : Nat)
def ArR (K : PySem.W.Frag) (F H : Hp) (A : Nat → List Addr) (R : List Nat) (σ : L2.St) : List V → List Ar → Prop
  | [], [] => True
  | v :: vs, .d d :: r => Vw K F H A R v d ∧ ArR K F H A R σ vs r
  | v :: vs, .io i :: r => σ[i]? = some (some v) ∧ ArR K F H A R σ vs r
  | _, _ => False
def CV (X : Cx) (es : List Expr) (f : List Sl → Option (List Ar × List Sl)) (R M : List Nat) : Prop :=
  ∃ t, PA X es t ∧ ∀ (Y : Fx) (F H : Hp) (δ : List Sl) (σ : L2.St) (A : Nat → List Addr), SR X.K Y F H δ σ A → ∀ (as : List Ar) (δ' : List Sl), f δ = some (as, δ') → ∀ Q : List V → Hp → Prop,
    (∀ vs F' H', Stp A M F H F' H' → SR X.K Y F' H' δ' σ A → ArR X.K F' H' A R σ vs as → Q vs H') → t σ H Q
def kNil : List Sl → Option (List Ar × List Sl) := fun δ => some ([], δ)
def kCons (fa : List Sl → Option (D × List Sl)) (fr : List Sl → Option (List Ar × List Sl)) : List Sl → Option (List Ar × List Sl) := fun δ => (fa δ).bind fun p => (fr p.2).map fun q => (.d p.1 :: q.1, q.2)
def ownAt (i : Nat) (δ : List Sl) : Bool := match δ[i]? with
  | some s => isOwn s
  | none => false
def kIo (i : Nat) (fr : List Sl → Option (List Ar × List Sl)) : List Sl → Option (List Ar × List Sl) := fun δ => if ownAt i δ then (fr δ).map fun q => (.io i :: q.1, q.2) else none
section
variable {X : Cx}
theorem ArR.mono {K : PySem.W.Frag} {F H : Hp} {A : Nat → List Addr} {R R' : List Nat} {σ : L2.St} (s : ∀ i ∈ R, i ∈ R') : ∀ {vs : List V} {as : List Ar}, ArR K F H A R σ vs as → ArR K F H A R' σ vs as
  | [], [], _ => trivial
  | v :: vs, .d d :: r, ⟨h, t⟩ => ⟨h.mono s, ArR.mono s t⟩
  | v :: vs, .io i :: r, ⟨h, t⟩ => ⟨h, ArR.mono s t⟩
  | [], _ :: _, h => h.elim
  | _ :: _, [], h => h.elim
theorem cv_nil : CV X [] kNil [] [] := by
  refine ⟨_, pa_nil, fun Y F H δ σ A S d' δ' e Q k => ?_⟩
  cases e
  exact k _ _ _ Stp.refl S trivial
theorem cv_cons {a : Expr} {es : List Expr} {fa fr} {Ra Rr Ma Mr : List Nat} (ha : EV X a fa Ra Ma) (hr : CV X es fr Rr Mr) (dj : ∀ i ∈ Ra, i ∉ Mr := by decide) (hs : starEach (a :: es) X.env = (false, eval a X.env) :: starEach es X.env := by rfl) : CV X (a :: es) (kCons fa fr) (Ra ++ Rr) (Ma ++ Mr) := by
  obtain ⟨ta, pa, qa⟩ := ha
  obtain ⟨tb, pb, qb⟩ := hr
  refine ⟨_, pa_cons pa pb hs, fun Y F H δ σ A S ds δ' e Q k => ?_⟩
  unfold kCons at e
  cases e1 : fa δ with
  | none => rw [e1] at e; cases e
  | some p =>
    obtain ⟨d, δ1⟩ := p
    rw [e1] at e
    simp only [Option.bind_some] at e
    cases e2 : fr δ1 with
    | none => rw [e2] at e; cases e
    | some q =>
      obtain ⟨r, δ2⟩ := q
      rw [e2] at e
      cases e
      refine qa Y F H δ σ A S d δ1 e1 _ fun x F1 H1 st1 S1 r1 => ?_
      refine qb Y F1 H1 δ1 σ A S1 r _ e2 _ fun y F2 H2 st2 S2 r2 => ?_
      exact k _ F2 H2 (st1.trans S1 st2) S2 ⟨(r1.step S1 st2 dj).mono fun i hi => List.mem_append_left _ hi, r2.mono fun i hi => List.mem_append_right _ hi⟩
theorem own_ref {K : PySem.W.Frag} {F H : Hp} {s : Sl} {v : Option V} {B : List Addr} (h : SlotR K F H s v B) (n : isOwn s = true) : ∃ p, v = some (.ref p) := by
  cases s with
  | no => cases n
  | fz d => cases n
  | ow d => obtain ⟨p, e, _⟩ := h; exact ⟨p, e⟩
  | dk _ _ _ => obtain ⟨p, q, e, _⟩ := h; exact ⟨p, e⟩
  | scr _ => cases n
theorem cv_io {i : Nat} {x : Str} {pos : Pos} {es : List Expr} {fr} {R M : List Nat} (n : Nm X i x) (hr : CV X es fr R M) (hs : starEach (.Name x pos :: es) X.env = (false, eval (.Name x pos) X.env) :: starEach es X.env := by rfl) : CV X (.Name x pos :: es) (kIo i fr) R M := by
  obtain ⟨tb, pb, qb⟩ := hr
  refine ⟨_, pa_cons n.pe pb hs, fun Y F H δ σ A S ds δ' e Q k => ?_⟩
  unfold kIo at e
  split at e
  · rename_i ho
    cases e2 : fr δ with
    | none => rw [e2] at e; cases e
    | some q =>
      obtain ⟨r, δ2⟩ := q
      rw [e2] at e
      cases e
      unfold ownAt at ho
      split at ho
      · rename_i s hs'
        obtain ⟨p, ep⟩ := own_ref (S.slot i s hs') ho
        refine ⟨.ref p, jn_some ep, ?_⟩
        exact qb Y F H δ σ A S r _ e2 _ fun y F2 H2 st2 S2 r2 => k _ F2 H2 st2 S2 ⟨jn_some ep, r2⟩
      · cases ho
  · cases e

/-! ### a call -/
def ios : List Ar → List Nat
  | [] => []
  | .d _ :: r => ios r
  | .io i :: r => i :: ios r
def reso (δ : List Sl) : Ar → Sl
  | .d d => .fz d
  | .io i => δ[i]?.getD .no
/-- what the slots handed on are behind the call -/
def wback : List Ar → List Sl → List Sl → List Sl
  | .io i :: r, b :: s, δ => wback r s (δ.set i b)
  | .d _ :: r, _ :: s, δ => wback r s δ
  | _, _, δ => δ
def isDk : Sl → Bool
  | .dk _ _ _ => true
  | _ => false
def iosOk (R : List Nat) (δ : List Sl) (as : List Ar) : Bool := decide ((ios as).Nodup) && (ios as).all (fun i => ownAt i δ && !(R.contains i) && (R.isEmpty || (match δ[i]? with | some s => isDk s | none => false)))
def outsOk (R : List Nat) : List Ar → List Sl → Bool
  | .io _ :: r, b :: s => isOwn b && (R.isEmpty || isDk b) && outsOk R r s
  | .d _ :: r, _ :: s => outsOk R r s
  | [], [] => true
  | _, _ => false
def callF (R : List Nat) (flat : Bool) (φ : List Sl → Option (D × List Sl)) (f : List Sl → Option (List Ar × List Sl)) : List Sl → Option (D × List Sl) := fun δ => (f δ).bind fun p =>
  if iosOk R p.2 p.1 then (φ (p.1.map (reso p.2))).bind fun q => if outsOk R p.1 q.2 && (R.isEmpty || (flat && noL q.1)) then some (q.1, wback p.1 q.2 p.2) else none else none
end
section
variable {K : PySem.W.Frag} {Y : Fx} {F H : Hp} {δ : List Sl} {σ : L2.St} {A : Nat → List Addr} {R : List Nat}
/-- what the arguments own, by their places -/
def argA (A : Nat → List Addr) (as : List Ar) : Nat → List Addr := fun j => match as[j]? with
  | some (.io i) => A i
  | _ => []
theorem ios_mem {as : List Ar} {i : Nat} : i ∈ ios as ↔ ∃ j : Nat, as[j]? = some (Ar.io i) := by
  induction as with
  | nil => simp [ios]
  | cons a r ih =>
    cases a with
    | d d =>
      rw [show ios (.d d :: r) = ios r from rfl, ih]
      constructor
      · rintro ⟨j, h⟩
        exact ⟨j + 1, h⟩
      · rintro ⟨j, h⟩
        cases j with
        | zero => cases h
        | succ j => exact ⟨j, h⟩
    | io k =>
      rw [show ios (.io k :: r) = k :: ios r from rfl, List.mem_cons, ih]
      constructor
      · rintro (rfl | ⟨j, h⟩)
        · exact ⟨0, rfl⟩
        · exact ⟨j + 1, h⟩
      · rintro ⟨j, h⟩
        cases j with
        | zero => cases h; exact .inl rfl
        | succ j => exact .inr ⟨j, h⟩
theorem ios_inj {as : List Ar} (h : (ios as).Nodup) : ∀ {j k i : Nat}, as[j]? = some (.io i) → as[k]? = some (.io i) → j = k := by
  induction as with
  | nil => intro j k i e; simp at e
  | cons a r ih =>
    intro j k i e1 e2
    cases a with
    | d d =>
      cases j with
      | zero => cases e1
      | succ j =>
        cases k with
        | zero => cases e2
        | succ k => rw [ih h e1 e2]
    | io m =>
      rw [show ios (.io m :: r) = m :: ios r from rfl, List.nodup_cons] at h
      cases j with
      | zero =>
        cases e1
        cases k with
        | zero => rfl
        | succ k => exact absurd (ios_mem.mpr ⟨k, e2⟩) h.1
      | succ j =>
        cases k with
        | zero =>
          cases e2
          exact absurd (ios_mem.mpr ⟨j, e1⟩) h.1
        | succ k => rw [ih h.2 e1 e2]
theorem ArR.get : ∀ {vs : List V} {as : List Ar} {j : Nat} {a : Ar}, ArR K F H A R σ vs as → as[j]? = some a → ∃ v, vs[j]? = some v ∧ (match a with | .d d => Vw K F H A R v d | .io i => σ[i]? = some (some v))
  | [], [], _, _, _, e => by simp at e
  | v :: vs, .d d :: r, 0, _, ⟨h, t⟩, e => by cases e; exact ⟨v, rfl, h⟩
  | v :: vs, .io i :: r, 0, _, ⟨h, t⟩, e => by cases e; exact ⟨v, rfl, h⟩
  | v :: vs, .d d :: r, j + 1, a, ⟨h, t⟩, e => ArR.get (j := j) t e
  | v :: vs, .io i :: r, j + 1, a, ⟨h, t⟩, e => ArR.get (j := j) t e
  | [], _ :: _, _, _, h, _ => h.elim
  | _ :: _, [], _, _, h, _ => h.elim
theorem ArR.length : ∀ {vs : List V} {as : List Ar}, ArR K F H A R σ vs as → vs.length = as.length
  | [], [], _ => rfl
  | v :: vs, .d d :: r, ⟨h, t⟩ => congrArg (· + 1) t.length
  | v :: vs, .io i :: r, ⟨h, t⟩ => congrArg (· + 1) t.length
  | [], _ :: _, h => h.elim
  | _ :: _, [], h => h.elim
theorem iosOk_at {as : List Ar} (h : iosOk R δ as = true) {i : Nat} (hi : i ∈ ios as) : ∃ s, δ[i]? = some s ∧ isOwn s = true ∧ i ∉ R ∧ (R = [] ∨ isDk s = true) := by
  unfold iosOk at h
  rw [Bool.and_eq_true] at h
  have := List.all_eq_true.mp h.2 i hi
  simp only [Bool.and_eq_true, Bool.or_eq_true, Bool.not_eq_true', List.isEmpty_iff] at this
  obtain ⟨⟨h1, h2⟩, h3⟩ := this
  unfold ownAt at h1
  cases e : δ[i]? with
  | none => rw [e] at h1; cases h1
  | some s =>
    rw [e] at h1 h3
    exact ⟨s, rfl, h1, by simpa using h2, h3⟩
theorem iosOk_nd {as : List Ar} (h : iosOk R δ as = true) : (ios as).Nodup := by
  unfold iosOk at h
  rw [Bool.and_eq_true] at h
  exact of_decide_eq_true h.1
/-- the callee's entry -/
theorem SR.args {vs : List V} {as : List Ar} (S : SR K Y F H δ σ A) (ok : iosOk R δ as = true) (r : ArR K F H A R σ vs as) : SR K Fx.any (ex R A F H) H (as.map (reso δ)) (vs.map some) (argA A as) := by
  have nd := iosOk_nd ok
  have mem : ∀ j a, a ∈ argA A as j → ∃ i, as[j]? = some (.io i) ∧ a ∈ A i := fun j a h => by
    unfold argA at h
    split at h
    · rename_i i e
      exact ⟨i, e, h⟩
    · simp at h
  refine ⟨by rw [List.length_map, List.length_map, r.length], fun j s e => ?_, fun j e => ?_, fun j k a h1 h2 => ?_, fun j a h => ?_, fun _ _ _ _ => rfl, ex_sub S, fun i hi => ?_, fun i hi => ?_, fun _ _ e => ?_, fun _ _ _ => rfl, fun _ _ e => ?_⟩
  · rw [List.getElem?_map] at e
    cases e1 : as[j]? with
    | none => rw [e1] at e; cases e
    | some a =>
      rw [e1] at e
      cases e
      obtain ⟨v, v1, v2⟩ := r.get e1
      have jv : jn (vs.map some)[j]? = some v := by
        rw [List.getElem?_map, v1]
        rfl
      rw [jv]
      cases a with
      | d d =>
        have : argA A as j = [] := by unfold argA; rw [e1]
        rw [this]
        exact ⟨rfl, v, rfl, v2.ex S⟩
      | io i =>
        have : argA A as j = A i := by unfold argA; rw [e1]
        rw [this]
        obtain ⟨s, h1, h2, _⟩ := iosOk_at ok (ios_mem.mpr ⟨j, e1⟩)
        show SlotR K _ H (δ[i]?.getD .no) (some v) (A i)
        rw [h1]
        have q := S.slot i s h1
        rw [v2] at q
        exact q.mono (sub_ex S) fun _ _ => rfl
  · rw [List.getElem?_map] at e
    cases e1 : as[j]? with
    | none => unfold argA; rw [e1]
    | some a => rw [e1] at e; cases e
  · obtain ⟨i, e1, m1⟩ := mem j a h1
    obtain ⟨i', e2, m2⟩ := mem k a h2
    have := S.dis i i' a m1 m2
    subst this
    exact ios_inj nd e1 e2
  · obtain ⟨i, e1, m1⟩ := mem j a h
    obtain ⟨s, h1, h2, h3, _⟩ := iosOk_at ok (ios_mem.mpr ⟨j, e1⟩)
    unfold ex
    rw [if_neg]
    · exact S.hid i a m1
    · rintro ⟨i', hi', m2⟩
      have := S.dis i i' a m1 m2
      subst this
      exact h3 hi'
  · cases hi
  · cases hi
  · cases e
  · cases e
/-- without what the slots of R own -/
def unex (R : List Nat) (A : Nat → List Addr) (F : Hp) : Hp := fun a => if ∃ i ∈ R, a ∈ A i then none else F a
theorem unex_nil {F : Hp} : unex [] A F = F := by
  funext a
  unfold unex
  rw [if_neg]
  simp
theorem wback_length : ∀ {as : List Ar} {s δ : List Sl}, (wback as s δ).length = δ.length
  | [], _, _ => by simp [wback]
  | .d _ :: r, [], _ => by simp [wback]
  | .io _ :: r, [], _ => by simp [wback]
  | .d _ :: r, b :: s, δ => wback_length (as := r) (s := s) (δ := δ)
  | .io i :: r, b :: s, δ => by rw [show wback (.io i :: r) (b :: s) δ = wback r s (δ.set i b) from rfl, wback_length, List.length_set]
theorem wback_out : ∀ {as : List Ar} {s δ : List Sl} {i : Nat}, i ∉ ios as → (wback as s δ)[i]? = δ[i]?
  | [], _, _, _, _ => by simp [wback]
  | .d _ :: r, [], _, _, _ => by simp [wback]
  | .io _ :: r, [], _, _, _ => by simp [wback]
  | .d _ :: r, b :: s, δ, i, h => by
    show (wback r s δ)[i]? = δ[i]?
    exact wback_out (as := r) h
  | .io k :: r, b :: s, δ, i, h => by
    rw [show ios (.io k :: r) = k :: ios r from rfl, List.mem_cons, not_or] at h
    rw [show wback (.io k :: r) (b :: s) δ = wback r s (δ.set k b) from rfl, wback_out h.2, List.getElem?_set_ne (Ne.symm h.1)]
theorem wback_in : ∀ {as : List Ar} {s δ : List Sl} {i j : Nat} {b : Sl}, (ios as).Nodup → as[j]? = some (.io i) → s[j]? = some b → i < δ.length → (wback as s δ)[i]? = some b
  | [], _, _, _, _, _, _, e, _, _ => by simp at e
  | .d _ :: r, [], _, _, _, _, _, _, e, _ => by simp at e
  | .io _ :: r, [], _, _, _, _, _, _, e, _ => by simp at e
  | .d _ :: r, c :: s, δ, i, j, b, nd, e, e2, hi => by
    cases j with
    | zero => cases e
    | succ j => exact wback_in (as := r) (s := s) (j := j) nd e e2 hi
  | .io k :: r, c :: s, δ, i, j, b, nd, e, e2, hi => by
    rw [show ios (.io k :: r) = k :: ios r from rfl, List.nodup_cons] at nd
    rw [show wback (.io k :: r) (c :: s) δ = wback r s (δ.set k c) from rfl]
    cases j with
    | zero =>
      cases e
      cases e2
      rw [wback_out nd.1, List.getElem?_set_self hi]
    | succ j => exact wback_in (as := r) (s := s) (j := j) nd.2 e e2 (by rw [List.length_set]; exact hi)
theorem outsOk_at : ∀ {as : List Ar} {s : List Sl} {i j : Nat} {b : Sl}, outsOk R as s = true → as[j]? = some (.io i) → s[j]? = some b → isOwn b = true ∧ (R = [] ∨ isDk b = true)
  | [], _, _, _, _, _, e, _ => by simp at e
  | .d _ :: r, [], _, _, _, h, _, _ => by cases h
  | .io _ :: r, [], _, _, _, h, _, _ => by cases h
  | .d _ :: r, c :: s, i, j, b, h, e, e2 => by
    cases j with
    | zero => cases e
    | succ j => exact outsOk_at (as := r) (s := s) (j := j) h e e2
  | .io k :: r, c :: s, i, j, b, h, e, e2 => by
    rw [show outsOk R (.io k :: r) (c :: s) = (isOwn c && (R.isEmpty || isDk c) && outsOk R r s) from rfl] at h
    simp only [Bool.and_eq_true, Bool.or_eq_true, List.isEmpty_iff] at h
    cases j with
    | zero =>
      cases e2
      exact h.1
    | succ j => exact outsOk_at (as := r) (s := s) (j := j) h.2 e e2
theorem outsOk_len : ∀ {as : List Ar} {s : List Sl}, outsOk R as s = true → s.length = as.length
  | [], [], _ => rfl
  | [], _ :: _, h => by cases h
  | .d _ :: r, [], h => by cases h
  | .io _ :: r, [], h => by cases h
  | .d _ :: r, c :: s, h => congrArg (· + 1) (outsOk_len (as := r) (s := s) h)
  | .io k :: r, c :: s, h => by
    rw [show outsOk R (.io k :: r) (c :: s) = (isOwn c && (R.isEmpty || isDk c) && outsOk R r s) from rfl] at h
    simp only [Bool.and_eq_true] at h
    exact congrArg (· + 1) (outsOk_len (as := r) (s := s) h.2)
/-- behind the call -/
theorem SR.behind {vs : List V} {as : List Ar} {F2 H2 : Hp} {outs : List Sl} (S : SR K Y F H δ σ A) (ok : iosOk R δ as = true) (r : ArR K F H A R σ vs as) (st : Stp (argA A as) (List.range as.length) (ex R A F H) H F2 H2)
    (S2 : SR K Fx.any F2 H2 outs (vs.map some) (argA A as)) (oo : outsOk R as outs = true) : Stp A (ios as) F H (unex R A F2) H2 ∧ SR K Y (unex R A F2) H2 (wback as outs δ) σ A ∧ Same (unex R A F2) F2 := by
  have nd := iosOk_nd ok
  have nR : ∀ a, F a ≠ none → ¬ ∃ i ∈ R, a ∈ A i := fun a h => by
    rintro ⟨i, _, m⟩
    exact h (S.hid i a m)
  have notarg : ∀ i a, a ∈ A i → i ∉ ios as → ∀ j ∈ List.range as.length, a ∉ argA A as j := fun i a m hi j _ h => by
    unfold argA at h
    split at h
    · rename_i i' e
      have := S.dis i i' a m h
      subst this
      exact hi (ios_mem.mpr ⟨j, e⟩)
    · simp at h
  have keep : ∀ a o, H a = some o → (∀ i ∈ ios as, a ∉ A i) → H2 a = some o := fun a o e n => st.kp a o e fun j _ h => by
    unfold argA at h
    split at h
    · rename_i i' e'
      exact n i' (ios_mem.mpr ⟨j, e'⟩) h
    · simp at h
  have sU : Same (unex R A F2) F2 := fun a o e => by
    unfold unex at e
    split at e
    · cases e
    · exact e
  have sF : Same F (unex R A F2) := fun a o e => by
    have c := nR a (by rw [e]; simp)
    have q : ex R A F H a = some o := (if_neg c : ex R A F H a = F a).trans e
    show unex R A F2 a = some o
    unfold unex
    rw [if_neg c]
    exact st.f a o q
  have newH : ∀ a, F a = none → unex R A F2 a ≠ none → H a = none := fun a e n => by
    unfold unex at n
    split at n
    · exact absurd rfl n
    · rename_i c
      have q : ex R A F H a = none := (if_neg c : ex R A F H a = F a).trans e
      exact st.nw a q n
  have hidU : ∀ i a, a ∈ A i → unex R A F2 a = none := fun i a m => by
    cases q : unex R A F2 a with
    | none => rfl
    | some o =>
      have := newH a (S.hid i a m) (by rw [q]; simp)
      exact absurd this (S.isSome m)
  refine ⟨⟨sF, newH, keep⟩, ⟨by rw [wback_length]; exact S.len, fun i s e => ?_, fun i e => ?_, S.dis, hidU, S.new, sU.trans S2.sub, S.fix, S.ioA, fun a o e n => ?_, fun a e n => ?_, S.f0.trans sF⟩, sU⟩
  · by_cases c : i ∈ ios as
    · obtain ⟨j, ej⟩ := ios_mem.mp c
      obtain ⟨s0, h1, h2, h3, h4⟩ := iosOk_at ok c
      have hj : j < as.length := (List.getElem?_eq_some_iff.mp ej).1
      have lo := outsOk_len oo
      obtain ⟨b, eb⟩ : ∃ b, outs[j]? = some b := ⟨_, List.getElem?_eq_getElem (by omega)⟩
      have := wback_in (δ := δ) nd ej eb (List.getElem?_eq_some_iff.mp h1).1
      have e : s = b := Option.some.inj (e.symm.trans this)
      subst e
      obtain ⟨o1, o2⟩ := outsOk_at oo ej eb
      have q := S2.slot j s eb
      obtain ⟨v, v1, v2⟩ := r.get ej
      have jv : jn (vs.map some)[j]? = some v := by
        rw [List.getElem?_map, v1]
        rfl
      have eA : argA A as j = A i := by unfold argA; rw [ej]
      rw [jv, eA] at q
      rw [v2]
      rcases o2 with o2 | o2
      · subst o2
        rw [unex_nil]
        exact q
      · cases s with
        | dk cs m n => exact q
        | _ => cases o2
    · rw [wback_out c] at e
      refine (S.slot i s e).mono sF fun a ha => ?_
      rcases S.there ha with ⟨xs, q⟩ | ⟨xs, q⟩
      · rw [q, keep a _ q fun j hj z => c (by rw [S.dis i j a ha z]; exact hj)]
      · rw [q, keep a _ q fun j hj z => c (by rw [S.dis i j a ha z]; exact hj)]
  · have : δ[i]? = none := by
      have := List.getElem?_eq_none_iff.mp e
      rw [wback_length] at this
      exact List.getElem?_eq_none this
    exact S.out i this
  · refine keep a o (S.kp a o e n) fun i hi m => ?_
    cases c : Y.io i with
    | true =>
      have := (S.fix i c).2
      rw [this] at m
      exact n i c m
    | false =>
      rw [S.new i a m c] at e
      cases e
  · cases q : F a with
    | some o => exact S.nw a e (by rw [q]; simp)
    | none => exact S.fresh0 (newH a q n)
end
section
variable {X : Cx} {x : Str} {p pos : Pos} {e : Expr} {es : List Expr} {R M : List Nat} {f : List Sl → Option (List Ar × List Sl)} {φ : List Sl → Option (D × List Sl)}
/-- a def that may be called: where it stands, its promise -/
structure Kn (X : Cx) (x : Str) (n : Nat) (fr : Bool) (φ : List Sl → Option (D × List Sl)) : Prop where
  ex : ∃ (CX : CXT) (k : Nat) (a : Addr) (fd : FuncData) (ps : List Str), FnG X.prog X.w X.K X.mg X.base CX k a fd ps (spF X.K ps.length fr φ) ∧ ps.length = n ∧ Room k X.A ∧ X.mg x = some (.ref a) ∧ PySem.W.keepIn X.K (.ref a) = true ∧ Binds X.K fd ps [] ∧ Passes CX X E0
  gd : X.A.guards = some []
  gl : Gl X x
  db : (x == ("__debug__" : Str)) = false
theorem callF_some {flat : Bool} {δ δ' : List Sl} {z : D} (h : callF R flat φ f δ = some (z, δ')) : ∃ as δ1 outs, f δ = some (as, δ1) ∧ iosOk R δ1 as = true ∧ φ (as.map (reso δ1)) = some (z, outs) ∧ outsOk R as outs = true ∧ (R = [] ∨ noL z = true) ∧ δ' = wback as outs δ1 := by
  unfold callF at h
  cases e1 : f δ with
  | none => rw [e1] at h; cases h
  | some w =>
    obtain ⟨as, δ1⟩ := w
    rw [e1] at h
    simp only [Option.bind_some] at h
    split at h
    · rename_i ok
      cases e2 : φ (as.map (reso δ1)) with
      | none => rw [e2] at h; cases h
      | some w =>
        obtain ⟨d, outs⟩ := w
        rw [e2] at h
        simp only [Option.bind_some] at h
        split at h
        · rename_i oo
          cases h
          simp only [Bool.and_eq_true, Bool.or_eq_true, List.isEmpty_iff] at oo
          exact ⟨as, δ1, outs, rfl, ok, e2, oo.1, oo.2.imp id (·.2), rfl⟩
        · cases h
    · cases h
theorem range_len {K : PySem.W.Frag} {F H : Hp} {A : Nat → List Addr} {σ : L2.St} {vs : List V} {as : List Ar} (h : ArR K F H A R σ vs as) : (as.map (reso [])).length = as.length := by simp
theorem ev_call {n : Nat} {flat : Bool} {B : List Nat} (kn : Kn X x n false φ) (hf : ∀ δ as δ', f δ = some (as, δ') → as.length = n ∧ ∀ i ∈ ios as, i ∈ B) (ha : CV X (e :: es) f R M) (h1 : starEach (e :: es) X.env = (false, eval e X.env) :: starEach es X.env := by rfl) (h2 : (backTo pos (starEach es X.env)).any (·.1) = false := by rfl) :
    EV X (.Call (.Name x p) (e :: es) [] pos) (callF R flat φ f) [] (M ++ B) := by
  obtain ⟨CX, k, a, fd, ps, Fn, hn, hR, hm, hk, hb, hx⟩ := kn.ex
  obtain ⟨t, pa, q⟩ := ha
  refine ⟨_, Fn.pe kn.gd hR kn.gl hm hk hb hx pa kn.db h1 h2, fun Y F H δ σ A S z δ' e Q kk => ?_⟩
  obtain ⟨as, δ1, outs, e1, ok, e2, oo, ef, rfl⟩ := callF_some e
  obtain ⟨hl, hB⟩ := hf _ _ _ e1
  refine q Y F H δ σ A S as δ1 e1 _ fun vs F1 H1 st S1 r => ?_
  show spF X.K ps.length false φ (vs ++ []) H1 Q E0
  rw [List.append_nil]
  refine ⟨ex R A F1 H1, as.map (reso δ1), argA A as, by rw [List.length_map, hl, hn], S1.args ok r, z, outs, e2, fun v F2 H2 st2 S2 rv => ?_⟩
  rw [hn, ← hl] at st2
  obtain ⟨st3, S3, sU⟩ := S1.behind ok r st2 S2 oo
  refine kk v _ H2 ((st.trans S1 st3).mono fun i hi => ?_) S3 (.inl ?_)
  · rcases List.mem_append.mp hi with z | z
    · exact List.mem_append_left _ z
    · exact List.mem_append_right _ (hB i z)
  · have rv : Rp X.K F2 v z := rv
    rcases ef with ef | ef
    · subst ef
      rw [unex_nil]
      exact rv
    · refine rv.flat (fun b xs h => ?_) ef
      rcases h with h | h
      · refine .inl ?_
        have nb : ¬ ∃ i ∈ R, b ∈ A i := by
          rintro ⟨i, hi, m⟩
          have hb : ∀ o, H1 b = some o → F2 b = some o := fun o eo => st2.f b o ((if_pos ⟨i, hi, m⟩ : ex R A F1 H1 b = H1 b).trans eo)
          rcases S1.there m with ⟨ys, q⟩ | ⟨ys, q⟩
          · have := hb _ q
            rcases h with h | ⟨o, h⟩ <;> rw [this] at h <;> cases h
          · have := hb _ q
            rcases h with h | ⟨o, h⟩ <;> rw [this] at h <;> cases h
        have q : unex R A F2 b = F2 b := if_neg nb
        unfold Rd at h ⊢
        rw [q]
        exact h
      · exact .inr h
theorem nv_call {n : Nat} {flat : Bool} {B : List Nat} (kn : Kn X x n true φ) (hf : ∀ δ as δ', f δ = some (as, δ') → as.length = n ∧ ∀ i ∈ ios as, i ∈ B) (ha : CV X (e :: es) f [] M) (h1 : starEach (e :: es) X.env = (false, eval e X.env) :: starEach es X.env := by rfl) (h2 : (backTo pos (starEach es X.env)).any (·.1) = false := by rfl) :
    NV X (.Call (.Name x p) (e :: es) [] pos) (callF [] flat φ f) (M ++ B) := by
  obtain ⟨CX, k, a, fd, ps, Fn, hn, hR, hm, hk, hb, hx⟩ := kn.ex
  obtain ⟨t, pa, q⟩ := ha
  refine ⟨_, Fn.pe kn.gd hR kn.gl hm hk hb hx pa kn.db h1 h2, fun Y F H δ σ A S z δ' e Q kk => ?_⟩
  obtain ⟨as, δ1, outs, e1, ok, e2, oo, ef, rfl⟩ := callF_some e
  obtain ⟨hl, hB⟩ := hf _ _ _ e1
  refine q Y F H δ σ A S as δ1 e1 _ fun vs F1 H1 st S1 r => ?_
  show spF X.K ps.length true φ (vs ++ []) H1 Q E0
  rw [List.append_nil]
  refine ⟨ex [] A F1 H1, as.map (reso δ1), argA A as, by rw [List.length_map, hl, hn], S1.args ok r, z, outs, e2, fun v F2 H2 st2 S2 rv => ?_⟩
  rw [hn, ← hl] at st2
  obtain ⟨st3, S3, sU⟩ := S1.behind ok r st2 S2 oo
  rw [unex_nil] at st3 S3
  obtain ⟨b, rfl, nb, fb, ob⟩ := rv
  refine kk b _ H2 ((st.trans S1 st3).mono fun i hi => ?_) S3 (back st S1 nb) fb ob
  rcases List.mem_append.mp hi with z | z
  · exact List.mem_append_left _ z
  · exact List.mem_append_right _ (hB i z)
end
end Z

/-! Zd: isinstance, all, any, a tuple's index, several names at once, the module's constants. -/
namespace Z
open PySem PySem.Spec PyProof.Rows L2
section
variable {X : Cx} {pos : Pos}
/-! isinstance -/
def tyD : D → String
  | .none => "NoneType"
  | .bool _ => "bool"
  | .int _ => "int"
  | .str _ => "str"
  | .list _ => "list"
  | .tuple _ => "tuple"
  | .dict _ => "dict"
theorem Rp.tyx {K : PySem.W.Frag} {G H : Hp} {v : V} {d : D} (sG : Same G H) (h : Rp K G v d) : TyX K H v (.type (tyD d)) := by
  cases h with
  | non => exact .base .non
  | bl b => exact .base (.bl b)
  | int i => exact .base (.int i)
  | str x => exact .base (.str x)
  | lst e _ => exact .base (.lst (sG _ _ e))
  | dic e _ => exact .base (.dK (sG _ _ e))
  | tup e _ =>
    rcases e with (e | ⟨o, e⟩) | ⟨o, its, n, e1, e2, _⟩
    · exact .base (.tup (sG _ _ e))
    · exact .fTuple (sG _ _ e)
    · exact .kTuple e1 e2
def isiB (T : String) (d : D) : Bool := match d with
  | .none => T == "NoneType"
  | .bool _ => T == "bool" || T == "int"
  | .int _ => T == "int"
  | .str _ => T == "str"
  | .list _ => T == "list"
  | .tuple _ => T == "tuple"
  | .dict _ => T == "dict"
/-- the types that are asked for -/
def tyOk (T : String) : Bool := ["int", "bool", "str", "list", "tuple", "dict"].contains T
theorem kit_isi {T : String} (hT : tyOk T = true := by rfl) (d : D) : kitB (tyD d) T = some (isiB T d) := by
  have : T ∈ ["int", "bool", "str", "list", "tuple", "dict"] := by simpa [tyOk] using hT
  simp only [List.mem_cons, List.not_mem_nil, or_false] at this
  rcases this with rfl | rfl | rfl | rfl | rfl | rfl <;> cases d <;> dsimp only [tyD, isiB] <;> decide +kernel
def isiD (T : String) (d : D) : Option D := some (.bool (isiB T d))
theorem ev_isi {T : String} {x T' : Str} {a : Expr} {fa} {R M : List Nat} {p p2 : Pos} (hT : tyOk T = true := by rfl) (b : Bn X x (.builtin "isinstance")) (c : Bn X T' (.type T)) (ha : EV X a fa R M)
    (h1 : starEach [a, .Name T' p2] X.env = (false, eval a X.env) :: starEach [.Name T' p2] X.env := by rfl) (h2 : (backTo pos (starEach [.Name T' p2] X.env)).any (·.1) = false := by rfl) (h3 : starEach [.Name T' p2] X.env = [(false, eval (.Name T' p2) X.env)] := by rfl) :
    EV X (.Call (.Name x p) [a, .Name T' p2] [] pos) (f1 (isiD T) fa) [] M := by
  obtain ⟨t, pa, q⟩ := ha
  have pT : PE X (.Name T' p2) (tC (.ty T)) := pe_bltn c.gl c.mg c.bt rfl c.nn c.db
  refine ⟨_, pe_callB call_isi b.gl b.mg b.bt (pa_cons pa (pa_cons pT pa_nil h3) h1) b.nn b.db h1 h2, fun Y F H δ σ A S z δ' e Q k => ?_⟩
  obtain ⟨d, e1, e2⟩ := f1_some e
  refine q Y F H δ σ A S d δ' e1 _ fun v F1 H1 st S1 r1 => ?_
  refine ⟨v, .ty T, .type (tyD d), .type T, isiB T d, rfl, .ty T, (r1.ex S1).tyx (ex_sub S1), kit_ty (kit_isi hT d), ?_⟩
  cases e2
  exact k _ F1 H1 st S1 (.inl (.bl _))
/-! all, any -/
def boolsOf : List D → Option (List Bool)
  | [] => some []
  | .bool b :: r => (boolsOf r).map (b :: ·)
  | _ => none
theorem boolsOf_some : ∀ {ds : List D} {bs : List Bool}, boolsOf ds = some bs → ds = bs.map PyData.bool
  | [], bs, h => by cases h; rfl
  | d :: r, bs, h => by
    cases d <;> simp only [boolsOf] at h <;> try (cases h; done)
    cases e : boolsOf r with
    | none => rw [e] at h; cases h
    | some cs =>
      rw [e] at h
      cases h
      rw [boolsOf_some e]
      rfl
theorem boolsOf_map (bs : List Bool) : boolsOf (bs.map PyData.bool) = some bs := by
  induction bs with
  | nil => rfl
  | cons b r ih => simp [boolsOf, ih]
theorem Rps.bools {K : PySem.W.Frag} {G : Hp} : ∀ {vs : List V} {ns : List Bool}, Rps K G vs (ns.map PyData.bool) → vs = ns.map V.bl
  | _, [], .nil => rfl
  | _, n :: ns, .cons h r => by
    cases h
    rw [r.bools]
    rfl
def allD : D → Option D
  | .list ds => (boolsOf ds).map fun bs => .bool (bs.all id)
  | _ => none
def anyD : D → Option D
  | .list ds => (boolsOf ds).map fun bs => .bool (bs.any id)
  | _ => none
theorem cs_all : CallS X (rAll X.K) (g1 allD) := by
  intro Y F H δ σ A R xs ds z S r hg Q k
  obtain ⟨d, rfl, hg'⟩ := g1_some hg
  clear hg
  have hg := hg'
  obtain ⟨v, rfl, rv⟩ := r.one
  unfold allD at hg
  split at hg
  · rename_i ds'
    cases e : boolsOf ds' with
    | none => rw [e] at hg; cases hg
    | some ns =>
      rw [e] at hg
      cases hg
      have e2 := boolsOf_some e
      subst e2
      obtain ⟨a, ys, rfl, h1, r1⟩ := rv.list S
      have e3 := r1.bools
      subst e3
      exact ⟨a, ns, rfl, SqL.of h1, k _ F H Stp.refl S (.bl _)⟩
  · cases hg
theorem cs_any : CallS X (rAny X.K) (g1 anyD) := by
  intro Y F H δ σ A R xs ds z S r hg Q k
  obtain ⟨d, rfl, hg'⟩ := g1_some hg
  clear hg
  have hg := hg'
  obtain ⟨v, rfl, rv⟩ := r.one
  unfold anyD at hg
  split at hg
  · rename_i ds'
    cases e : boolsOf ds' with
    | none => rw [e] at hg; cases hg
    | some ns =>
      rw [e] at hg
      cases hg
      have e2 := boolsOf_some e
      subst e2
      obtain ⟨a, ys, rfl, h1, r1⟩ := rv.list S
      have e3 := r1.bools
      subst e3
      exact ⟨a, ns, rfl, SqL.of h1, k _ F H Stp.refl S (.bl _)⟩
  · cases hg
/-! a tuple's index -/
def strsOf : List D → Option (List Str)
  | [] => some []
  | .str b :: r => (strsOf r).map (b :: ·)
  | _ => none
theorem strsOf_some : ∀ {ds : List D} {bs : List Str}, strsOf ds = some bs → ds = bs.map PyData.str
  | [], bs, h => by cases h; rfl
  | d :: r, bs, h => by
    cases d <;> simp only [strsOf] at h <;> try (cases h; done)
    cases e : strsOf r with
    | none => rw [e] at h; cases h
    | some cs =>
      rw [e] at h
      cases h
      rw [strsOf_some e]
      rfl
theorem Rps.strs {K : PySem.W.Frag} {G : Hp} : ∀ {vs : List V} {ns : List Str}, Rps K G vs (ns.map PyData.str) → vs = ns.map V.str
  | _, [], .nil => rfl
  | _, n :: ns, .cons h r => by
    cases h
    rw [r.strs]
    rfl
def tixD (d e : D) : Option D := match d, e with
  | .tuple ds, .str z => (strsOf ds).bind fun ys => if ys.idxOf z < ys.length then some (.int (ys.idxOf z : Nat)) else none
  | _, _ => none
/-! a, b = x, y -/
def sPar2 (i j : Nat) (f : List Sl → Option (List D × List Sl)) : List Sl → Option Out := fun δ => (f δ).bind fun p => match p.1 with
  | [a, b] => if i < p.2.length ∧ j < p.2.length then some (.nx ((p.2.set i (.fz a)).set j (.fz b))) else none
  | _ => none
theorem sv_par2 {io : Nat → Bool} {fr : Bool} {i j : Nat} {x y : Str} {a b : Expr} {f} {M : List Nat} {px py pt pt2 : Pos} {kt k2} (hi : io i = false) (hj : io j = false) (hc : X.calm = true) (T : Tg X i x) (U : Tg X j y) (hij : i ≠ j)
    (hx : X.env.scope.names.lookup x = some .local) (hy : X.env.scope.names.lookup y = some .local) (ha : AV X [a, b] f [] M)
    (hw : swappedStores [.Tuple [.Name x px, .Name y py] kt pt] (.Tuple [a, b] k2 pt2) X.env = pure (some [x, y]) := by rfl)
    (hs : swapsWithSole [.Tuple [.Name x px, .Name y py] kt pt] (.Tuple [a, b] k2 pt2) pos.line X.env = pure false := by rfl) :
    SV X io fr (.Assign [.Tuple [.Name x px, .Name y py] kt pt] (.Tuple [a, b] k2 pt2) pos) (sPar2 i j f) := by
  obtain ⟨t, p, q⟩ := ha
  refine ⟨_, ps_par hc T.nd T.at_ U.at_ hij hx hy p hw hs, fun Y F H δ σ A hY S o e D k => ?_⟩
  unfold sPar2 at e
  cases e1 : f δ with
  | none => rw [e1] at e; cases e
  | some w =>
    obtain ⟨ds, δ1⟩ := w
    rw [e1] at e
    simp only [Option.bind_some] at e
    split at e
    · rename_i d1 d2
      split at e
      · rename_i hl
        cases e
        refine q Y F H δ σ A S _ δ1 e1 _ fun vs F1 H1 st S1 r => ?_
        obtain ⟨v, u, rfl, rv, ru⟩ := r.two
        refine ⟨v, u, rfl, ?_⟩
        have S2 := S1.putFz hl.1 (by rw [hY]; exact hi) rv.nil
        have S3 := S2.putFz (i := j) (by simpa using hl.2) (by rw [hY]; exact hj) ru.nil
        exact k _ F1 H1 _ st.f S3
      · cases e
    · cases e
/-! T = e -/
def sAsg (T : Tt) (f : List Sl → Option (D × List Sl)) : List Sl → Option Out := fun δ => (f δ).bind fun p => (bindT T p.1 p.2).map .nx
theorem sv_asg {io : Nat → Bool} {fr : Bool} {tg e : Expr} {T : Tt} {f} {M : List Nat} (hT : ∀ j ∈ tS T, io j = false) (h : EV X e f [] M) (hg : GV X tg T) (hs : swapsWithSole [tg] e pos.line X.env = pure false := by rfl) (hw : swappedStores [tg] e X.env = pure none := by rfl)
    (h1 : (assignEach [tg] X.env).map (·.2) = [assign tg X.env] := by rfl) : SV X io fr (.Assign [tg] e pos) (sAsg T f) := by
  obtain ⟨t, p, q⟩ := h
  obtain ⟨g, pg, qg⟩ := hg
  refine ⟨_, ps_asg p pg hs hw h1, fun Y F H δ σ A hY S o e D k => ?_⟩
  unfold sAsg at e
  cases e1 : f δ with
  | none => rw [e1] at e; cases e
  | some w =>
    obtain ⟨d, δ1⟩ := w
    rw [e1] at e
    simp only [Option.bind_some] at e
    cases e2 : bindT T d δ1 with
    | none => rw [e2] at e; cases e
    | some δ2 =>
      rw [e2] at e
      cases e
      refine q Y F H δ σ A S d δ1 e1 _ fun v F1 H1 st S1 r => ?_
      exact qg Y F1 H1 δ1 σ A (fun j hj => by rw [hY]; exact hT j hj) S1 v d δ2 r.nil e2 _ fun σ' A' _ S2 => k _ F1 H1 A' st.f S2
/-! the module's constants -/
mutual
def kRp (K : PySem.W.Frag) : Nat → Value → Option (V × D)
  | 0, _ => none
  | n + 1, u => match u with
    | .none => some (.non, .none)
    | .bool b => some (.bl b, .bool b)
    | .int i _ => some (.int i, .int i)
    | .str x _ => some (.str x, .str x)
    | .ref a => match K.lookup a with
      | some ⟨.type "tuple", _, .seq its _, _⟩ => if its.size ≤ sizeLine then (kRps K n its.toList).map fun p => (.ref a, .tuple p.2) else none
      | _ => none
    | _ => none
def kRps (K : PySem.W.Frag) : Nat → List Value → Option (List V × List D)
  | 0, _ => none
  | n + 1, us => match us with
    | [] => some ([], [])
    | u :: r => match kRp K n u, kRps K n r with
      | some p, some q => some (p.1 :: q.1, p.2 :: q.2)
      | _, _ => none
end
mutual
theorem kRp_ok {K : PySem.W.Frag} {G : Hp} : ∀ {n : Nat} {u : Value} {v : V} {d : D}, kRp K n u = some (v, d) → RelV v u ∧ Rp K G v d
  | 0, _, _, _, h => by unfold kRp at h; cases h
  | n + 1, u, v, d, h => by
    unfold kRp at h
    split at h
    · cases h; exact ⟨rfl, .non⟩
    · cases h; exact ⟨rfl, .bl _⟩
    · cases h; exact ⟨⟨_, rfl⟩, .int _⟩
    · cases h; exact ⟨⟨_, rfl⟩, .str _⟩
    · rename_i a
      split at h
      · rename_i dd its m sl e
        split at h
        · rename_i hz
          cases e2 : kRps K n its.toList with
          | none => rw [e2] at h; cases h
          | some p =>
            obtain ⟨vs, ds⟩ := p
            rw [e2] at h
            cases h
            obtain ⟨h1, h2⟩ := kRps_ok (G := G) e2
            exact ⟨rfl, .tup (.inr ⟨_, its, m, e, rfl, rfl, hz, h1⟩) h2⟩
        · cases h
      · cases h
    · cases h
theorem kRps_ok {K : PySem.W.Frag} {G : Hp} : ∀ {n : Nat} {us : List Value} {vs : List V} {ds : List D}, kRps K n us = some (vs, ds) → Vals vs us ∧ Rps K G vs ds
  | 0, _, _, _, h => by unfold kRps at h; cases h
  | n + 1, us, vs, ds, h => by
    unfold kRps at h
    split at h
    · cases h; exact ⟨.nil, .nil⟩
    · rename_i u r
      split at h
      · rename_i p q e1 e2
        obtain ⟨v1, d1⟩ := p
        obtain ⟨v2, d2⟩ := q
        cases h
        obtain ⟨h1, h2⟩ := kRp_ok (G := G) e1
        obtain ⟨h3, h4⟩ := kRps_ok (G := G) e2
        exact ⟨.cons h1 h3, .cons h2 h4⟩
      · cases h
end
/-- a global name that is a written datum -/
structure Gc (X : Cx) (x : Str) (d : D) : Prop where
  ex : ∃ u v, X.mg x = some u ∧ kRp X.K 40 u = some (v, d)
  db : (x == ("__debug__" : Str)) = false
theorem ev_gc {x : Str} {d : D} (hg : Gl X x) (c : Gc X x d) : EV X (.Name x pos) (fCon d) [] [] := by
  obtain ⟨u, v, h1, h2⟩ := c.ex
  exact ev_const (pe_glob hg h1 (kRp_ok (G := fun _ => none) h2).1 c.db) fun G => (kRp_ok h2).2
/-- a tuple of the written part, without a dict of its own -/
def kDn (K : PySem.W.Frag) : Value → Bool
  | .ref a => match K.lookup a with
    | some ⟨.type "tuple", none, _, _⟩ => true
    | _ => false
  | _ => false
theorem kDn_ty {K : PySem.W.Frag} {H : Hp} {u : Value} {v : V} (h : kDn K u = true) (r : RelV v u) : tyV K "tuple" v H := by
  unfold kDn at h
  split at h
  · rename_i a
    split at h
    · rename_i dt sl e
      cases v with
      | ref b => cases r; exact .inr (.inl ⟨rfl, _, e, rfl, rfl⟩)
      | _ => first | (obtain ⟨_, r⟩ := r; cases r; done) | (cases r; done)
    · cases h
  · cases h
/-- x.index(e), x a written tuple of texts -/
theorem ev_tix {x : Str} {ds : List D} {e : Expr} {fe} {Re Me : List Nat} {p1 apos : Pos} (hg : Gl X x) (c : ∃ u v, X.mg x = some u ∧ kRp X.K 40 u = some (v, .tuple ds) ∧ kDn X.K u = true) (db : (x == ("__debug__" : Str)) = false) (he : EV X e fe Re Me) (m : Mc X (.Name x p1) "index" apos e [] pos) :
    EV X (.Call (.Attribute (.Name x p1) "index" apos) [e] [] pos) (f1 (tixD (.tuple ds)) fe) [] Me := by
  obtain ⟨te, pe, qe⟩ := he
  obtain ⟨u, v, c1, c2, c3⟩ := c
  have po : PE X (.Name x p1) (tC v) := pe_glob hg c1 (kRp_ok (G := fun _ => none) c2).1 db
  refine ⟨_, pe_bm PySem.F.plainAttrs_tuple PySem.F.slot_tuple_index PySem.F.type_tuple_index mt_tup_index po (pa_cons pe pa_nil m.star) m.base m.few m.line m.star m.plain, fun Y F H δ σ A S z δ' e Q k => ?_⟩
  obtain ⟨d, e2, e3⟩ := f1_some e
  refine ⟨kDn_ty c3 (kRp_ok (G := fun _ => none) c2).1, ?_⟩
  refine qe Y F H δ σ A S _ δ' e2 _ fun y F2 H2 st2 S2 r2 => ?_
  unfold tixD at e3
  split at e3
  · rename_i ds' z' e9
    cases e9
    have e5 := r2.str
    subst e5
    cases e6 : strsOf ds with
    | none => rw [e6] at e3; cases e3
    | some ys =>
      rw [e6] at e3
      simp only [Option.bind_some] at e3
      split at e3
      · rename_i hlt
        cases e3
        have e7 := strsOf_some e6
        subst e7
        cases (kRp_ok (G := H2) c2).2 with
        | tup hq rr =>
          have e8 := rr.strs
          subst e8
          refine ⟨_, ys, z', ys.idxOf z', rfl, rfl, hq, ?_, ?_, ?_⟩
          · rw [List.getElem?_eq_getElem hlt, List.getElem_idxOf hlt]
          · intro m hm z
            obtain ⟨hm', z⟩ := List.getElem?_eq_some_iff.mp z
            have h1 := List.not_of_lt_findIdx (p := (· == z')) (xs := ys) (i := m) hm
            have h2 : (ys[m] == z') = true := by rw [z]; exact beq_self_eq_true _
            rw [h2] at h1
            cases h1
          · exact k _ F2 H2 st2 S2 (.inl (.int _))
      · cases e3
  · cases e3
end
end Z

/-! Ze: list(reversed(a list)). -/
namespace Z
open PySem PySem.Spec PyProof.Rows L2 RT
section
variable {prog : Program} {w : World} {A : Around} {E : Value → Shared → Prop} {s : Shared}
theorem init_rev {R : Result → Shared → Prop} {it l S : Addr} {items : Array Value} (hh : A.handled = none) (hit : s.heap.IsRevIter it l ((items.size : Int) - 1)) (hl : s.heap.IsList l items) (hne : l ≠ it) (hn : items.size ≤ sizeLine)
    (hS : s.heap.get? S = some { cls := .type "list", data := .seq #[] }) (hSi : S ≠ it) (hSl : S ≠ l)
    (hR : ∀ (h' : Heap) (tk : Nat) (acc : Array Value) (c : Nat), (∀ b o, b ≠ S → b ≠ it → s.heap.get? b = some o → h'.get? b = some o) → h'.get? S = some { cls := .type "list", dict := none, data := .seq acc c, slots := #[] } → ItemsOf (fun i v => items[items.size - 1 - i]? = some v) acc items.size → R (.ok (.ret .none)) { s with heap := h', toks := tk }) :
    wpAny (model prog w) A.in1 (Builtin.«list.__init__» ⟨[.ref S, .ref it], []⟩)
      (fun fin s' => match fin with | .done f => R (.ok f) s' | .again c' => c'.quiet = true ∧ codeAny (model prog w) A c' R s') (fun e s' => R (.error e) s') s := by
  have W := (Walks.listRev (prog := prog) (w := w) (A := A.in1) hh it l hne items).toS
  show wpAny _ A.in1 (do let old ← Builtin.List.listItems (.ref S); Builtin.List.listUpdate (.ref S) (fun _ => #[]); letGo old.toList.reverse; Builtin.List.listExtendWith (.ref S) (.ref it) .none) _ _ s
  refine wpAny_bind ?_
  unfold Builtin.List.listItems
  refine wpAny_bind (wpAny_seqItems hS rfl (wpAny_pure ?_))
  show wpAny _ A.in1 (updateSeq S (fun _ => #[]) >>= fun _ => letGo (#[] : Array Value).toList.reverse >>= fun _ => Builtin.List.listExtendWith (.ref S) (.ref it) .none) _ _ s
  refine wpAny_bind (wpAny_updateSeq hS rfl ?_)
  have hS₂ := Heap.get?_update_self (Obj.mapSeq (fun _ => (#[] : Array Value))) hS rfl
  have oth : ∀ b o, b ≠ S → s.heap.get? b = some o → (s.heap.update S (Obj.mapSeq (fun _ => (#[] : Array Value)))).get? b = some o :=
    fun b o hb e => (Heap.get?_update_other _ _ (Ne.symm hb)).trans e
  refine wpAny_bind (wpAny_letGo ?_)
  generalize hs1 : ({ s with heap := s.heap.update S (Obj.mapSeq (fun _ => (#[] : Array Value))) } : Shared) = s1
  have hit1 : s1.heap.IsRevIter it l ((items.size : Int) - 1) := by
    subst hs1
    exact hit.at fun o e => oth it o (Ne.symm hSi) e
  have hl1 : s1.heap.IsList l items := by
    subst hs1
    obtain ⟨o, e, c⟩ := hl
    exact ⟨o, oth l o (Ne.symm hSl) e, c⟩
  have hT : s1.TypeIs (.ref it) "list_reverseiterator" := Heap.IsRevIter.typeIs hit1
  have hS₁ : s1.heap.get? S = some { cls := .type "list", data := .seq #[] } := by
    subst hs1
    exact hS₂
  have oth1 : ∀ b o, b ≠ S → s.heap.get? b = some o → s1.heap.get? b = some o := by
    subst hs1
    exact oth
  have hSf : S ∉ [it, l] := by simp only [List.mem_cons, List.not_mem_nil, or_false, not_or]; exact ⟨hSi, hSl⟩
  have es : ∀ h' tk, ({ s with heap := h', toks := tk } : Shared) = { s1 with heap := h', toks := tk } := by
    subst hs1
    intro h' tk
    rfl
  have h1 : Builtin.List.listSameRef (.ref S) (.ref it) = false := by simp [Builtin.List.listSameRef, hSi]
  unfold Builtin.List.listExtendWith
  refine wpAny_bind (wpAny_typeOf hT ?_)
  rw [if_neg (by rw [h1]; decide)]
  refine wpAny_bind (wpAny_pyIter_revIter hit1 ?_)
  refine wpAny_bind (wpAny_holding ?_)
  unfold Builtin.List.listLengthHint
  refine wpAny_bind (wpAny_specialOf hT nolen_lri ?_)
  show wpAny _ A.in1 (specialOf (Value.ref it) (Str.ofString "__length_hint__") >>= _) _ _ _
  refine wpAny_bind (wpAny_specialOf hT hint_lri ?_)
  generalize hid : ("list_reverseiterator.__length_hint__" : String) = id0
  wp_delta
  rw [show splitId id0 = some ("list_reverseiterator", "__length_hint__") from by subst hid; decide +kernel]
  subst hid
  refine wpAny_bind (wpAny_isInstance (b := true) hT (by rw [isSubtype_type]; kernel_rfl) ?_)
  refine wpAny_pure ?_
  rw [if_neg (by decide)]
  have e0 : ((items.size : Nat) : Int) - 1 - ((0 : Nat) : Int) = (items.size : Int) - 1 := by omega
  refine wpAny_pure ⟨plainId_quiet F.plain_extend_loop _, codeAny_extend_loopS W hn _ hSf _ items.size 0 _ _ _ rfl (Nat.zero_le _) ⟨Nat.zero_le _, by rw [e0]; exact hit1, hl1⟩ hS₁ (ItemsOf.nil _) fun s' acc' c' hm hS' hacc => ?_⟩
  rw [Moved.eq_with hm, ← es]
  refine hR s'.heap s'.toks acc' c' (fun b o hb hb2 e => hm.heap b o (fun hmem => ?_) (oth1 b o hb e)) hS' hacc
  rcases List.mem_cons.mp hmem with e' | hmem
  · exact hb e'
  · exact hb2 (List.mem_singleton.mp hmem)
theorem call_list_rev {it l : Addr} {items : Array Value} {Q : Value → Shared → Prop} (hh : A.handled = none) (hit : s.heap.IsRevIter it l ((items.size : Int) - 1)) (hl : s.heap.IsList l items) (hne : l ≠ it) (hn : items.size ≤ sizeLine)
    (hQ : ∀ (h' : Heap) (tk : Nat) (acc : Array Value) (c : Nat), (∀ b o, b ≠ it → s.heap.get? b = some o → h'.get? b = some o) → h'.get? s.heap.objs.size = some { cls := .type "list", dict := none, data := .seq acc c, slots := #[] } → ItemsOf (fun i v => items[items.size - 1 - i]? = some v) acc items.size →
      Q (.ref s.heap.objs.size) { s with heap := h', toks := tk }) :
    wpAny (model prog w) A (call (.type "list") [.ref it]) Q E s := by
  obtain ⟨oi, hoi, _⟩ := id hit
  obtain ⟨ol, hol, _⟩ := id hl
  refine callType_codes (Q₁ := fun obj s₁ => obj = .ref s.heap.objs.size ∧ s₁ = { s with heap := s.heap.push { cls := .type "list", data := .seq #[] } }) F.called_list (F.typeCall_list_1 _) F.entry_list_init
    (code_list_new _ ⟨rfl, rfl⟩) fun obj s₁ h₁ => ?_
  obtain ⟨rfl, rfl⟩ := h₁
  have hS : (s.heap.push { cls := .type "list", data := .seq #[] }).get? s.heap.objs.size = some { cls := .type "list", data := .seq #[] } := Heap.get?_push_size _ rfl
  refine ⟨⟨_, hS, rfl⟩, F.args_list_init_2 _ _, init_rev (A := A.in1) (s := { s with heap := s.heap.push { cls := .type "list", data := .seq #[] } }) hh (hit.at fun o e => Heap.get?_push_of_some _ e) (hl.push _) hne hn hS (Nat.ne_of_gt (Heap.lt_size hoi)) (Nat.ne_of_gt (Heap.lt_size hol)) fun h' tk acc c hk hS' hacc => ?_⟩
  exact ⟨rfl, hQ h' tk acc c (fun b o hb e => hk b o (Nat.ne_of_lt (Heap.lt_size e)) hb (Heap.get?_push_of_some _ e)) hS' hacc⟩
end
/-- list(reversed(x)), x a list: a new list -/
def tLstRev (K : PySem.W.Frag) (te : TE) : TE := fun σ H Q => te σ H fun v H1 => ∃ (a : Addr) (xs : List V), v = .ref a ∧ SqL K H1 a xs ∧ ∀ q, H1 q = none → Q (.ref q) (upd H1 q (.lst xs.reverse))
section
variable {X : Cx}
theorem pe_lstRev {e : Expr} {te : TE} {p p2 pos pos2 : Pos} (hc : X.calm = true) (hg : Gl X "list") (hm : X.mg "list" = none) (hg2 : Gl X "reversed") (hm2 : X.mg "reversed" = none) (he : PE X e te)
    (hs : starEach [e] X.env = (false, eval e X.env) :: starEach [] X.env := by rfl)
    (hs2 : starEach [.Call (.Name "reversed" p2) [e] [] pos2] X.env = (false, eval (.Call (.Name "reversed" p2) [e] [] pos2) X.env) :: starEach [] X.env := by rfl) :
    PE X (.Call (.Name "list" p) [.Call (.Name "reversed" p2) [e] [] pos2] [] pos) (tLstRev X.K te) := by
  refine ⟨fun pins s σ H Q I h => ?_⟩
  refine Call_ (ld_blt I hg hm boot_list (PyProof.Rows.callWith_type1 (args_cons (Call_ (ld_blt I hg2 hm2 PyProof.Rows.boot_reversed (PyProof.Rows.callWith_type1 (args_cons (thn (he.run pins s σ H _ I h) fun u s1 ⟨v, H1, I1, r1, q1⟩ => args_nil ?_) hs) hs rfl))) hs2) hs2 rfl))
  obtain ⟨a, xs, ev, hq, q⟩ := q1
  subst ev
  obtain rfl : u = Value.ref a := r1
  obtain ⟨its, rv, p', hz⟩ := I1.list hq
  refine call_reversed_list p'.isList (args_nil ?_)
  have k0 : ∀ b o, s1.heap.get? b = some o → (s1.heap.push (revObj a ((its.toArray.size : Int) - 1))).get? b = some o := fun b o e => Heap.get?_push_of_some _ e
  have I2 : Inv X pins σ H1 { s1 with heap := s1.heap.push (revObj a ((its.toArray.size : Int) - 1)) } := I1.kept (t' := s1.toks) k0
  obtain ⟨f0, f1, f2, f3, f4, f5⟩ := I1.fpOk (H' := H1) (b := s1.heap.objs.size) (Nat.le_refl _) (I1.hok.fresh (Nat.le_refl _))
  have hl := p'.isList
  obtain ⟨ol, hol, _⟩ := id hl
  have hne : a ≠ s1.heap.objs.size := Nat.ne_of_lt (Heap.lt_size hol)
  have hn : its.toArray.size ≤ sizeLine := by rw [List.size_toArray, ← rv.length]; exact hz
  refine call_list_rev (s := { s1 with heap := s1.heap.push (revObj a ((its.toArray.size : Int) - 1)) }) (I1.ok.hd hc) ⟨_, Heap.get?_push_size _ rfl, rfl, rfl⟩ (hl.push _) hne hn fun h' tk acc c hk hS hi => ?_
  have hL : Inv X pins σ (upd H1 (s1.heap.push (revObj a ((its.toArray.size : Int) - 1))).objs.size (.lst xs.reverse)) { s1 with heap := (s1.heap.push (revObj a ((its.toArray.size : Int) - 1))).push { cls := .type "list", dict := none, data := .seq acc c, slots := #[] } } :=
    I2.laid (t' := s1.toks) (fun b o e => Heap.get?_push_of_some _ e) (Nat.le_refl _) (show ObjOk X.prog X.w _ _ _ (.lst xs.reverse) from ⟨by rw [List.length_reverse]; exact hz, acc.toList, c, vals_rev rv hi, by rw [Array.toArray_toList]; exact Heap.get?_push_size _ rfl⟩)
  have hf : H1 (s1.heap.push (revObj a ((its.toArray.size : Int) - 1))).objs.size = none := I2.hok.fresh (Nat.le_refl _)
  have hne2 : s1.heap.objs.size ≠ (s1.heap.push (revObj a ((its.toArray.size : Int) - 1))).objs.size := Nat.ne_of_lt (Heap.lt_size (Heap.get?_push_size s1.heap (o := revObj a ((its.toArray.size : Int) - 1)) rfl))
  have I4 : Inv X pins σ (upd H1 (s1.heap.push (revObj a ((its.toArray.size : Int) - 1))).objs.size (.lst xs.reverse)) { s1 with heap := h', toks := tk } := by
    refine Inv.turned (s := { s1 with heap := (s1.heap.push (revObj a ((its.toArray.size : Int) - 1))).push { cls := .type "list", dict := none, data := .seq acc c, slots := #[] } }) (h' := h') (t' := tk) (it := s1.heap.objs.size) hL (fun b o hb e => ?_) (by rw [upd_ne hne2]; exact f0) f1 f3 f4 f5
    by_cases cq : b = (s1.heap.push (revObj a ((its.toArray.size : Int) - 1))).objs.size
    · subst cq
      have e := (Heap.get?_push_size (s1.heap.push (revObj a ((its.toArray.size : Int) - 1))) (o := { cls := .type "list", dict := none, data := .seq acc c, slots := #[] }) rfl).symm.trans e
      cases e
      exact hS
    · have hlt := Heap.lt_size e
      have e' : (s1.heap.push (revObj a ((its.toArray.size : Int) - 1))).get? b = some o := by
        rcases Heap.get?_push_cases e with z | z
        · exact absurd z.1 cq
        · exact z
      exact hk b o hb e'
  exact ⟨.ref _, _, I4, rfl, q _ hf⟩
end
end Z

/-! Zf: a law's deck. -/
namespace Z
open PySem PySem.Spec PyProof.Rows L2
section
variable {K : PySem.W.Frag} {Y : Fx} {F F' H H' : Hp} {δ : List Sl} {σ : L2.St} {A : Nat → List Addr} {i : Nat}
theorem SR.chgS (S : SR K Y F H δ σ A) (hi : i < δ.length) {s' : Sl} (hH : ∀ a, a ∉ A i → H' a = H a) (h : SlotR K F H' s' (jn σ[i]?) (A i)) : SR K Y F H' (δ.set i s') σ A := by
  refine ⟨by rw [List.length_set]; exact S.len, fun j t e => ?_, fun j e => ?_, S.dis, S.hid, S.new, fun b x e => ?_, S.fix, S.ioA, fun a x e n => ?_, S.nw, S.f0⟩
  · by_cases c : j = i
    · subst c
      rw [List.getElem?_set_self hi] at e
      cases e
      exact h
    · rw [List.getElem?_set_ne (Ne.symm c)] at e
      refine (S.slot j t e).mono (Same.refl _) fun a ha => hH a fun z => c (S.dis j i a ha z)
  · by_cases c : j = i
    · subst c
      rw [List.getElem?_set_self hi] at e
      cases e
    · rw [List.getElem?_set_ne (Ne.symm c)] at e
      exact S.out j e
  · rw [hH]
    · exact S.sub b x e
    · intro z
      rw [S.hid i b z] at e
      cases e
  · rw [hH]
    · exact S.kp a x e n
    · intro z
      cases hio : Y.io i with
      | false =>
        rw [S.new i a z hio] at e
        cases e
      | true =>
        rw [(S.fix i hio).2] at z
        exact n i hio z
theorem Stp.chgS {M : List Nat} (hM : i ∈ M) (hH : ∀ a, a ∉ A i → H' a = H a) : Stp A M F H F H' :=
  ⟨Same.refl _, fun a e n => absurd e n, fun a x e n => by rw [hH a (n i hM)]; exact e⟩
def dkAt (i : Nat) (δ : List Sl) : Option (List Int × Int × Int) := match δ[i]? with
  | some (.dk cs m n) => some (cs, m, n)
  | _ => none
theorem dkAt_some {w : List Int × Int × Int} (h : dkAt i δ = some w) : δ[i]? = some (.dk w.1 w.2.1 w.2.2) := by
  unfold dkAt at h
  split at h
  · rename_i e; cases h; exact e
  · cases h
theorem SR.dk (S : SR K Y F H δ σ A) {w : List Int × Int × Int} (h : dkAt i δ = some w) : ∃ p q, σ[i]? = some (some (.ref p)) ∧ A i = [p, q] ∧ H p = some (.lst [.ref q, .int w.2.1, .int w.2.2]) ∧ H q = some (.lst (w.1.map V.int)) := by
  obtain ⟨p, q, e1, e2, h1, h2⟩ := S.slot i _ (dkAt_some h)
  exact ⟨p, q, jn_some e1, e2, h1, h2⟩
theorem SR.dkI (S : SR K Y F H δ σ A) {w : List Int × Int × Int} (h : dkAt i δ = some w) : i < δ.length := (List.getElem?_eq_some_iff.mp (dkAt_some h)).1
theorem dk_ne {w : List Int} {H : Hp} {p q : Addr} {m n : Int} (h1 : H p = some (.lst [.ref q, .int m, .int n])) (h2 : H q = some (.lst (w.map V.int))) : p ≠ q := by
  intro e
  subst e
  rw [h1] at h2
  have h3 : [V.ref p, V.int m, V.int n] = w.map V.int := by
    injection h2 with h2
    injection h2
  cases w with
  | nil => cases h3
  | cons a b =>
    rw [List.map_cons] at h3
    injection h3 with h4
    cases h4
end
section
variable {X : Cx} {x : Str} {i : Nat} {pos p1 p2 apos : Pos}
/-- d[1] -/
def fDkM (i : Nat) : List Sl → Option (D × List Sl) := fun δ => (dkAt i δ).map fun w => (.int w.2.1, δ)
/-- d[2] -/
def fDkN (i : Nat) : List Sl → Option (D × List Sl) := fun δ => (dkAt i δ).map fun w => (.int w.2.2, δ)
theorem ev_dkM {j} {p3} (hu : X.A.units + 1 < cLine) (n : Nm X i x) (hs : PlainIx (.Constant (.int 1) j p3) := by intro _ _; rfl) : EV X (.Subscript (.Name x p1) (.Constant (.int 1) j p3) pos) (fDkM i) [] [] := by
  refine ⟨_, pe_ix (ix_4 hu) n.pe pe_int hs, fun Y F H δ σ A S z δ' e Q k => ?_⟩
  unfold fDkM at e
  cases e0 : dkAt i δ with
  | none => rw [e0] at e; cases e
  | some w =>
    rw [e0] at e
    cases e
    obtain ⟨p, q, s1, s2, s3, s4⟩ := S.dk e0
    exact ⟨.ref p, s1, .inl (.inl ⟨p, _, 1, .int w.2.1, rfl, rfl, SqL.of s3, rfl, k _ F H Stp.refl S (.inl (.int _))⟩)⟩
theorem ev_dkN {j} {p3} (hu : X.A.units + 1 < cLine) (n : Nm X i x) (hs : PlainIx (.Constant (.int 2) j p3) := by intro _ _; rfl) : EV X (.Subscript (.Name x p1) (.Constant (.int 2) j p3) pos) (fDkN i) [] [] := by
  refine ⟨_, pe_ix (ix_4 hu) n.pe pe_int hs, fun Y F H δ σ A S z δ' e Q k => ?_⟩
  unfold fDkN at e
  cases e0 : dkAt i δ with
  | none => rw [e0] at e; cases e
  | some w =>
    rw [e0] at e
    cases e
    obtain ⟨p, q, s1, s2, s3, s4⟩ := S.dk e0
    exact ⟨.ref p, s1, .inl (.inl ⟨p, _, 2, .int w.2.2, rfl, rfl, SqL.of s3, rfl, k _ F H Stp.refl S (.inl (.int _))⟩)⟩
/-- d[0] == [] -/
def gDkE (i : Nat) : List Sl → Option (Bool × List Sl) := fun δ => (dkAt i δ).bind fun w => (eqD (.list (w.1.map PyData.int)) (.list [])).map fun b => (b, δ)
theorem tv_dkE {j} {p3 p4} (hu : X.A.units + 65 < cLine) (n : Nm X i x) (hs : PlainIx (.Constant (.int 0) j p3) := by intro _ _; rfl) (hm : behindInMarks .Eq (.List [] p4) = false := by rfl) : TV X (.Compare (.Subscript (.Name x p1) (.Constant (.int 0) j p3) p2) [.Eq] [.List [] p4] pos) (gDkE i) [] := by
  refine ⟨_, pt_cmpR (cd_eq hu).op (pe_ix (ix_4 (by omega)) n.pe pe_int hs) (pe_lst pa_nil) hm, fun Y F H δ σ A S z δ' e Q k => ?_⟩
  unfold gDkE at e
  cases e0 : dkAt i δ with
  | none => rw [e0] at e; cases e
  | some w =>
    rw [e0] at e
    simp only [Option.bind_some] at e
    cases e1 : eqD (.list (w.1.map PyData.int)) (.list []) with
    | none => rw [e1] at e; cases e
    | some b =>
      rw [e1] at e
      cases e
      obtain ⟨p, q, s1, s2, s3, s4⟩ := S.dk e0
      refine ⟨.ref p, s1, .inl (.inl ⟨p, _, 0, .ref q, rfl, rfl, SqL.of s3, rfl, ?_⟩)⟩
      refine ⟨Nat.zero_le _, fun c hc => ?_⟩
      have ne : q ≠ c := fun z => by rw [z] at s4; rw [s4] at hc; cases hc
      refine ⟨upd H c (.lst []), _, _, z, Same.refl _, .lst (by rw [upd_ne ne]; exact s4) (rps_ints _), .lst upd_same .nil, e1, ?_⟩
      exact ⟨z, rfl, k F _ (Stp.laidO hc) (S.laidO hc)⟩
/-- d[0].pop() -/
def fDkPop (i : Nat) : List Sl → Option (D × List Sl) := fun δ => (dkAt i δ).bind fun w => (w.1[w.1.length - 1]?).map fun d => (.int d, δ.set i (.dk w.1.dropLast w.2.1 w.2.2))
theorem ev_dkPop {j} {p3} (hu : X.A.units + 1 < cLine) (n : Nm X i x) (hs : PlainIx (.Constant (.int 0) j p3) := by intro _ _; rfl) (m : Mc0 X (.Subscript (.Name x p1) (.Constant (.int 0) j p3) p2) "pop" apos pos) :
    EV X (.Call (.Attribute (.Subscript (.Name x p1) (.Constant (.int 0) j p3) p2) "pop" apos) [] [] pos) (fDkPop i) [] [i] := by
  refine ⟨_, pe_bm0 PySem.F.plainAttrs_list PySem.F.slot_list_pop PySem.F.type_list_pop mt_pop (pe_ix (ix_4 hu) n.pe pe_int hs) m.base m.line, fun Y F H δ σ A S z δ' e Q k => ?_⟩
  unfold fDkPop at e
  cases e0 : dkAt i δ with
  | none => rw [e0] at e; cases e
  | some w =>
    rw [e0] at e
    simp only [Option.bind_some] at e
    cases e1 : w.1[w.1.length - 1]? with
    | none => rw [e1] at e; cases e
    | some d =>
      rw [e1] at e
      cases e
      obtain ⟨p, q, s1, s2, s3, s4⟩ := S.dk e0
      have hpq := dk_ne s3 s4
      refine ⟨.ref p, s1, .inl (.inl ⟨p, _, 0, .ref q, rfl, rfl, SqL.of s3, rfl, ?_⟩)⟩
      refine ⟨tyL s4, q, _, .int d, rfl, rfl, s4, by rw [List.length_map, List.getElem?_map, e1]; rfl, ?_⟩
      have out : ∀ a, a ∉ A i → upd H q (.lst (w.1.map V.int).dropLast) a = H a := fun a ha => upd_ne fun z => ha (by rw [s2, z]; simp)
      refine k _ F _ (Stp.chgS (i := i) (by simp) out) (S.chgS (S.dkI e0) out ⟨p, q, by rw [s1]; rfl, s2, ?_, ?_⟩) (.inl (.int _))
      · rw [upd_ne hpq]
        exact s3
      · rw [upd_same, List.map_dropLast]
/-- d[0].append(e) -/
def fDkPush (i : Nat) (f : List Sl → Option (D × List Sl)) : List Sl → Option (D × List Sl) := fun δ => (dkAt i δ).bind fun _ => (f δ).bind fun p => match p.1 with
  | .int v => (dkAt i p.2).bind fun w => if w.1.length < sizeLine then some (.none, p.2.set i (.dk (w.1 ++ [v]) w.2.1 w.2.2)) else none
  | _ => none
theorem ev_dkPush {j} {p3} {e : Expr} {f} (hu : X.A.units + 1 < cLine) (n : Nm X i x) (hs : PlainIx (.Constant (.int 0) j p3) := by intro _ _; rfl) (h : EV X e f [] []) (m : Mc X (.Subscript (.Name x p1) (.Constant (.int 0) j p3) p2) "append" apos e [] pos) :
    EV X (.Call (.Attribute (.Subscript (.Name x p1) (.Constant (.int 0) j p3) p2) "append" apos) [e] [] pos) (fDkPush i f) [] [i] := by
  obtain ⟨t, pe, q⟩ := h
  refine ⟨_, pe_bm PySem.F.plainAttrs_list PySem.F.slot_list_append PySem.F.type_list_append mt_append (pe_ix (ix_4 hu) n.pe pe_int hs) (pa_cons pe pa_nil m.star) m.base m.few m.line m.star m.plain, fun Y F H δ σ A S z δ' e Q k => ?_⟩
  unfold fDkPush at e
  cases e0 : dkAt i δ with
  | none => rw [e0] at e; cases e
  | some w0 =>
    rw [e0] at e
    simp only [Option.bind_some] at e
    cases e1 : f δ with
    | none => rw [e1] at e; cases e
    | some u =>
      obtain ⟨d, δ1⟩ := u
      rw [e1] at e
      simp only [Option.bind_some] at e
      split at e
      · rename_i v
        cases e2 : dkAt i δ1 with
        | none => rw [e2] at e; cases e
        | some w =>
          rw [e2] at e
          simp only [Option.bind_some] at e
          split at e
          · rename_i hz
            cases e
            obtain ⟨p, q0, s1, s2, s3, s4⟩ := S.dk e0
            refine ⟨.ref p, s1, .inl (.inl ⟨p, _, 0, .ref q0, rfl, rfl, SqL.of s3, rfl, ?_⟩)⟩
            refine ⟨tyL s4, ?_⟩
            refine q Y F H δ σ A S _ δ1 e1 _ fun y F1 H1 st S1 r => ?_
            obtain ⟨p', q', t1, t2, t3, t4⟩ := S1.dk e2
            have : q' = q0 := by
              rw [s2] at t2
              injection t2 with _ t2
              injection t2 with t2
              exact t2.symm
            subst this
            rw [r.int]
            have hpq := dk_ne t3 t4
            refine ⟨q', _, .int v, rfl, rfl, t4, by rw [List.length_map]; exact hz, ?_⟩
            have out : ∀ a, a ∉ A i → upd H1 q' (.lst (w.1.map V.int ++ [.int v])) a = H1 a := fun a ha => upd_ne fun z => ha (by rw [t2, z]; simp)
            refine k _ F1 _ (((st.mono fun _ h => h).trans S1 (Stp.chgS (M := [i]) (i := i) (by simp) out)).mono fun j hj => by simpa using hj) (S1.chgS (S1.dkI e2) out ⟨p', q', by rw [t1]; rfl, t2, ?_, ?_⟩) (.inl .non)
            · rw [upd_ne hpq]
              exact t3
            · rw [upd_same, List.map_append]
              rfl
          · cases e
      · cases e
/-- d[2] = e -/
def sDkN (i : Nat) (f : List Sl → Option (D × List Sl)) : List Sl → Option Out := fun δ => (f δ).bind fun p => match p.1 with
  | .int v => (dkAt i p.2).map fun w => .nx (p.2.set i (.dk w.1 w.2.1 v))
  | _ => none
theorem sv_dkN {io : Nat → Bool} {fr : Bool} {j} {p3} {v : Expr} {fv} {M : List Nat} {p1 tpos : Pos} (hu : X.A.units + 1 < cLine) (n : Nm X i x) (hv : EV X v fv [] M) (c : Pc X (.Name x p1) (.Constant (.int 2) j p3) v tpos pos.line) :
    SV X io fr (.Assign [.Subscript (.Name x p1) (.Constant (.int 2) j p3) tpos] v pos) (sDkN i fv) := by
  obtain ⟨tv, pv, qv⟩ := hv
  refine ⟨_, ps_asg pv (pg_sub n.pe pe_int (set_2 hu) c.as) c.sw c.st c.ea, fun Y F H δ σ A hY S o e D k => ?_⟩
  unfold sDkN at e
  cases e1 : fv δ with
  | none => rw [e1] at e; cases e
  | some u =>
    obtain ⟨d, δ1⟩ := u
    rw [e1] at e
    simp only [Option.bind_some] at e
    split at e
    · rename_i v'
      cases e2 : dkAt i δ1 with
      | none => rw [e2] at e; cases e
      | some w =>
        rw [e2] at e
        cases e
        refine qv Y F H δ σ A S _ δ1 e1 _ fun y F1 H1 st S1 r => ?_
        obtain ⟨p, q, s1, s2, s3, s4⟩ := S1.dk e2
        refine ⟨.ref p, s1, ?_⟩
        rw [r.int]
        have hpq := dk_ne s3 s4
        refine .inl ⟨p, _, 2, 2, rfl, rfl, s3, rfl, ?_⟩
        have out : ∀ a, a ∉ A i → upd H1 p (.lst ([V.ref q, .int w.2.1, .int w.2.2].set 2 (.int v'))) a = H1 a := fun a ha => upd_ne fun z => ha (by rw [s2, z]; simp)
        refine k σ F1 _ A st.f (S1.chgS (S1.dkI e2) out ⟨p, q, by rw [s1]; rfl, s2, ?_, ?_⟩)
        · rw [upd_same]
          rfl
        · rw [upd_ne (Ne.symm hpq)]
          exact s4
    · cases e
end
end Z

/-! Zg: a law's deck: how it is made. -/
namespace Z
open PySem PySem.Spec PyProof.Rows L2
def deckOf (ns : List Int) : List Int := (ns.take 63).reverse
def mixOf (ns : List Int) : Int := (deckOf ns).sum % 2147483629 + 48271 * (deckOf ns).length
theorem cut63 {α : Type} (xs : List α) : cutL xs none (some 63) = xs.take 63 := by
  unfold cutL
  rw [show HT.sIx xs.length 0 none = 0 from rfl, List.drop_zero, Nat.sub_zero]
  have h : HT.sIx xs.length xs.length (some 63) = min 63 xs.length := by
    unfold HT.sIx
    simp
    try omega
  rw [h]
  by_cases c : xs.length ≤ 63
  · rw [Nat.min_eq_right c, List.take_of_length_le (Nat.le_refl _), List.take_of_length_le c]
  · rw [Nat.min_eq_left (by omega)]
section
variable {X : Cx} {x : Str} {i : Nat} {pos : Pos}
def fRevScr (i : Nat) : List Sl → Option (D × List Sl) := fun δ => match δ[i]? with
  | some (.scr ns) => some (.list ((deckOf ns).map PyData.int), δ)
  | _ => none
theorem nv_revScr {p p2 pos2 p3 p4 p5 p6 : Pos} {j} (hc : X.calm = true) (hg : Gl X "list") (hm : X.mg "list" = none) (hg2 : Gl X "reversed") (hm2 : X.mg "reversed" = none) (n : Nm X i x)
    (hs : starEach [.Subscript (.Name x p3) (.Slice none (some (.Constant (.int 63) j p6)) none p4) p5] X.env = (false, eval (.Subscript (.Name x p3) (.Slice none (some (.Constant (.int 63) j p6)) none p4) p5) X.env) :: starEach [] X.env)
    (hs2 : starEach [.Call (.Name "reversed" p2) [.Subscript (.Name x p3) (.Slice none (some (.Constant (.int 63) j p6)) none p4) p5] [] pos2] X.env = (false, eval (.Call (.Name "reversed" p2) [.Subscript (.Name x p3) (.Slice none (some (.Constant (.int 63) j p6)) none p4) p5] [] pos2) X.env) :: starEach [] X.env) :
    NV X (.Call (.Name "list" p) [.Call (.Name "reversed" p2) [.Subscript (.Name x p3) (.Slice none (some (.Constant (.int 63) j p6)) none p4) p5] [] pos2] [] pos) (fRevScr i) [] := by
  refine ⟨_, pe_lstRev hc hg hm hg2 hm2 (pe_slice sl_list n.pe po_none (po_some pe_int)) hs hs2, fun Y F H δ σ A S z δ' e Q k => ?_⟩
  unfold fRevScr at e
  split at e
  · rename_i ns e0
    cases e
    obtain ⟨e1, a, e2, e3⟩ := S.slot i _ e0
    refine ⟨.ref a, jn_some e2, 63, rfl, a, ns.map V.int, rfl, S.sub.seq e3, fun b hb => ?_⟩
    have ec : cutV (ns.map V.int) none (some 63) = (ns.take 63).map V.int := by
      show cutL (ns.map V.int) none (some 63) = _
      rw [cut63, List.map_take]
    refine ⟨b, _, rfl, .inl (.inl upd_same), fun c hc2 => ?_⟩
    rw [ec] at hc2 ⊢
    rw [← List.map_reverse]
    have hcb : H c = none := by
      by_cases z : c = b
      · subst z
        exact hb
      · rw [upd_ne z] at hc2
        exact hc2
    have S1 := S.laidO (o := .lst ((ns.take 63).map V.int)) hb
    have S2 := S1.laidO (p := c) (o := .lst ((ns.take 63).reverse.map V.int)) hc2
    have st : Stp A [] F H F (upd (upd H b (.lst ((ns.take 63).map V.int))) c (.lst ((ns.take 63).reverse.map V.int))) :=
      stp_nil S1 (Stp.laidO hb) (Stp.laidO hc2)
    exact k c F _ st S2 hcb (S.sub.free hcb) ⟨_, upd_same, rps_ints _⟩
  · cases e
end
/-- the promise of a law's _law_deck -/
def spDk (K : PySem.W.Frag) : Sp := fun us H Q _ => ∃ (u : V) (F : Hp) (ns : List Int), us = [u] ∧ Same F H ∧ (∃ a, u = .ref a ∧ SqL K F a (ns.map V.int)) ∧
  ∀ p q F' H', Stp (fun _ => []) [] F H F' H' → Same F' H' → H p = none → H q = none → F' p = none → F' q = none → p ≠ q → H' p = some (.lst [.ref q, .int (mixOf ns), .int 0]) → H' q = some (.lst ((deckOf ns).map V.int)) → Q (.ref p) H'
section
variable {P : Program} {w : World} {K : PySem.W.Frag} {mg : Str → Option Value} {base : Heap} {CX : CXT} {k : Nat} {f : Addr} {fd : FuncData} {x y : Str}
theorem deck_ok {qual : Str} {st : Stmt} {nm : Str} {s1 : Stmt} {e1 e2 : Expr} {f1 : List Sl → Option (D × List Sl)} {p1 p2 p3 : Pos} (Fu : Fun K nm qual st f fd) (S : FnScope [x, y] [x] (defScope st)) (hbd : defBody st = [s1, .Return (some (.List [.Name y p1, e1, e2] p2)) p3])
    (hf : ∀ ns, f1 [.scr ns, .ow (.list ((deckOf ns).map PyData.int))] = some (.int (mixOf ns), [.scr ns, .ow (.list ((deckOf ns).map PyData.int))]))
    (body : ∀ (cd : Value) (A : Around) (out : List Env) (s : Shared) (G : Hp) (E : XK), A.guards = some [] → Room k (A.deeper (envOfC qual (defScope st) s.heap.objs.size f cd)) →
      SV (cxOf CX P w K mg base [x, y] qual (defScope st) f cd A out s G E) (fun _ => false) false s1 (sOwn 1 (fRevScr 0)) ∧
      CV (cxOf CX P w K mg base [x, y] qual (defScope st) f cd A out s G E) [.Name y p1, e1, e2] (kIo 1 (kCons f1 (kCons (fCon (.int 0)) kNil))) [] []) :
    FnG P w K mg base CX (k + 1) f fd [x] (spDk K) := by
  refine FnG.mk' Fu S (fun us G Q E h => by obtain ⟨u, _, _, rfl, _⟩ := h; rfl) fun cd A out s G us Q E hG hR h => ?_
  obtain ⟨⟨t1, q1, b1⟩, ⟨t2, q2, b2⟩⟩ := body cd A out s G E hG hR
  obtain ⟨u, F, ns, rfl, sF, ⟨a, rfl, hs⟩, kk⟩ := h
  rw [hbd]
  refine ⟨_, pss_cons q1 (pss_cons (ps_ret (pe_lst q2)) pss_nil), ?_⟩
  have S0 : SR K ⟨fun _ => false, G, F, [], fun _ => []⟩ F G [.scr ns, .no] (L2.start [x, y] [.ref a]) (fun _ => []) := by
    refine ⟨rfl, fun i s e => ?_, fun _ _ => rfl, fun _ _ _ h => by simp at h, fun _ _ h => by simp at h, fun _ _ h => by simp at h, sF, fun _ h => by simp at h, fun _ h => by simp at h, fun _ _ e _ => e, fun _ e n => absurd e n, Same.refl _⟩
    match i, e with
    | 0, e => cases e; exact ⟨rfl, a, rfl, hs⟩
    | 1, e => cases e; exact rfl
    | _ + 2, e => simp at e
  refine b1 _ F G _ _ _ rfl S0 (.nx [.scr ns, .ow (.list ((deckOf ns).map PyData.int))]) rfl _ ?_
  intro σ' F1 H1 A1 s01 S1
  refine b2 _ F1 H1 _ _ _ S1 [.io 1, .d (.int (mixOf ns)), .d (.int 0)] [.scr ns, .ow (.list ((deckOf ns).map PyData.int))] ?_ _ ?_
  · simp only [kIo, kCons, kNil, hf ns]
    rfl
  · intro vs F2 H2 st2 S2 r
    match vs, r with
    | [v0, v1, v2], ⟨r0, r1, r2, _⟩ =>
      have e1 := r1.int
      have e2 := r2.int
      subst e1
      subst e2
      obtain ⟨q, g1, g2, xs, g3, g4⟩ := S2.slot 1 _ rfl
      have e0 : v0 = .ref q := by
        have := jn_some g1
        rw [r0] at this
        cases this
        rfl
      subst e0
      have e3 := g4.ints
      subst e3
      refine ⟨by show 3 ≤ sizeLine; decide, fun p hp => ?_⟩
      have hq2 : F2 q = none := S2.hid 1 q (by rw [g2]; simp)
      have hqG : G q = none := S2.new 1 q (by rw [g2]; simp) rfl
      have hpq : p ≠ q := fun z => by rw [z, g3] at hp; cases hp
      have keep : ∀ b o, G b = some o → H2 b = some o := fun b o e => S2.kp b o e fun i hi => by cases hi
      have hpG : G p = none := by
        cases z : G p with
        | none => rfl
        | some o => rw [keep p o z] at hp; cases hp
      refine kk p q F2 _ ⟨S2.f0, S2.nw, fun b o e _ => ?_⟩ (fun b o e => ?_) hpG hqG (S2.sub.free hp) hq2 hpq upd_same ?_
      · rw [upd_ne (ne_of_none (keep b o e) hp)]
        exact keep b o e
      · rw [upd_ne (ne_of_none (S2.sub b o e) hp)]
        exact S2.sub b o e
      · rw [upd_ne (Ne.symm hpq)]
        exact g3
    | [], r => exact r.elim
    | [_], r => exact r.2.elim
    | [_, _], r => exact r.2.2.elim
    | _ :: _ :: _ :: _ :: _, r => exact r.2.2.2.elim
end
section
variable {X : Cx} {nm x y : Str} {p pos py p1 : Pos}
/-- _law_deck, known -/
structure KnD (X : Cx) (x : Str) : Prop where
  ex : ∃ (CX : CXT) (k : Nat) (a : Addr) (fd : FuncData) (ps : List Str), FnG X.prog X.w X.K X.mg X.base CX k a fd ps (spDk X.K) ∧ Room k X.A ∧ X.mg x = some (.ref a) ∧ PySem.W.keepIn X.K (.ref a) = true ∧ Binds X.K fd ps [] ∧ Passes CX X E0
  gd : X.A.guards = some []
  gl : Gl X x
  db : (x == ("__debug__" : Str)) = false
def sDeck (i j : Nat) : List Sl → Option Out := fun δ => match δ[j]? with
  | some (.scr ns) => if i < δ.length then some (.nx (δ.set i (.dk (deckOf ns) (mixOf ns) 0))) else none
  | _ => none
theorem sv_deck {io : Nat → Bool} {fr : Bool} {i j : Nat} (hio : io i = false) (T : Tg X i y) (n : Nm X j x) (kn : KnD X nm)
    (h1 : starEach [.Name x p1] X.env = (false, eval (.Name x p1) X.env) :: starEach [] X.env := by rfl) (h2 : (backTo p (starEach [] X.env)).any (·.1) = false := by rfl)
    {pst : Pos} (hs : swapsWith (.Call (.Name nm pos) [.Name x p1] [] p) (some (.Name y py)) pst.line X.env = pure false := by rfl) :
    SV X io fr (.Assign [.Name y py] (.Call (.Name nm pos) [.Name x p1] [] p) pst) (sDeck i j) := by
  obtain ⟨CX, k, a, fd, ps, Fn, hR, hm, hk, hb, hx⟩ := kn.ex
  refine ⟨_, ps_set T.nd T.at_ T.loc (Fn.pe kn.gd hR kn.gl hm hk hb hx (pa_cons n.pe pa_nil h1) kn.db h1 h2) hs T.fn, fun Y F H δ σ A hY S o e D kk => ?_⟩
  unfold sDeck at e
  split at e
  · rename_i ns e0
    split at e
    · rename_i hi
      cases e
      obtain ⟨e1, b, e2, e3⟩ := S.slot j _ e0
      refine ⟨.ref b, jn_some e2, .ref b, F, ns, rfl, S.sub, ⟨b, rfl, e3⟩, fun p q F' H' st sFH hp hq hpF hqF hpq hp' hq' => ?_⟩
      have st0 : Stp (argA A []) (List.range ([] : List Ar).length) (ex [] A F H) H F' H' := by
        rw [ex_nil]
        exact ⟨st.f, st.nw, fun a o e _ => st.kp a o e (by simp)⟩
      have S0 : SR X.K Fx.any F' H' [] (([] : List V).map some) (argA A []) := by
        refine ⟨rfl, fun i s e => by simp at e, fun _ _ => rfl, fun _ _ _ h => by simp [argA] at h, fun _ _ h => by simp [argA] at h, fun _ _ h => by simp [argA] at h, sFH, fun _ h => (by cases h), fun _ h => (by cases h), fun _ _ e => (by cases e), fun _ _ _ => rfl, fun _ _ e => (by cases e)⟩
      obtain ⟨st3, S3, _⟩ := S.behind (as := []) (vs := []) (R := []) (outs := []) rfl trivial st0 S0 rfl
      rw [unex_nil] at st3 S3
      have S3 : SR X.K Y F' H' δ σ A := S3
      have nA : ∀ c, H c = none → ∀ j, c ∉ A j := fun c hc j m => S.isSome m hc
      have S4 := S3.put (i := i) hi (by rw [hY]; exact hio) (s := .dk (deckOf ns) (mixOf ns) 0) (v := some (.ref p)) (l := [p, q]) ⟨p, q, rfl, rfl, hp', hq'⟩
        (fun c hc => by simp at hc; rcases hc with rfl | rfl <;> assumption) (fun c hc => by simp at hc; rcases hc with rfl | rfl; exact S.fresh0 hp; exact S.fresh0 hq)
        (fun c hc j _ => by simp at hc; rcases hc with rfl | rfl; exact nA _ hp j; exact nA _ hq j)
      exact kk _ F' H' _ st.f S4
    · cases e
  · cases e
end
end Z

/-! Zh: what a printed walk leans on; the head. -/
namespace Z
open PySem PySem.Spec PyProof.Rows L2
/-! ### units -/
theorem hu1 {A : Around} {k : Nat} (hr : Room k A) : A.units + 1 < cLine := by have := hr.un; omega
theorem hu65 {A : Around} {k : Nat} (hr : Room k A) : A.units + 65 < cLine := by have := hr.un; omega
theorem hu66 {A : Around} {k : Nat} (hr : Room k A) : A.units + 66 < cLine := by have := hr.un; omega
/-! ### arguments with their number -/
def CVn (X : Cx) (es : List Expr) (f : List Sl → Option (List Ar × List Sl)) (R M : List Nat) (n : Nat) (B : List Nat) : Prop := CV X es f R M ∧ ∀ δ as δ', f δ = some (as, δ') → as.length = n ∧ ∀ i ∈ ios as, i ∈ B
section
variable {X : Cx} {a : Expr} {es : List Expr} {fa fr} {Ra Rr Ma Mr B : List Nat} {n : Nat} {pos : Pos}
theorem kn_nil : CVn X [] kNil [] [] 0 [] := ⟨cv_nil, fun δ as δ' e => by cases e; exact ⟨rfl, fun _ h => h⟩⟩
theorem kn_cons (ha : EV X a fa Ra Ma) (hr : CVn X es fr Rr Mr n B) (dj : ∀ i ∈ Ra, i ∉ Mr := by decide) (hs : starEach (a :: es) X.env = (false, eval a X.env) :: starEach es X.env := by rfl) : CVn X (a :: es) (kCons fa fr) (Ra ++ Rr) (Ma ++ Mr) (n + 1) B := by
  refine ⟨cv_cons ha hr.1 dj hs, fun δ as δ' e => ?_⟩
  unfold kCons at e
  cases e1 : fa δ with
  | none => rw [e1] at e; cases e
  | some p =>
    rw [e1] at e
    simp only [Option.bind_some] at e
    cases e2 : fr p.2 with
    | none => rw [e2] at e; cases e
    | some q =>
      rw [e2] at e
      cases e
      obtain ⟨h1, h2⟩ := hr.2 _ q.1 q.2 e2
      exact ⟨by rw [List.length_cons, h1], h2⟩
theorem kn_io {i : Nat} {x : Str} (nm : Nm X i x) (hr : CVn X es fr Rr Mr n B) (hs : starEach (.Name x pos :: es) X.env = (false, eval (.Name x pos) X.env) :: starEach es X.env := by rfl) : CVn X (.Name x pos :: es) (kIo i fr) Rr Mr (n + 1) (i :: B) := by
  refine ⟨cv_io nm hr.1 hs, fun δ as δ' e => ?_⟩
  unfold kIo at e
  split at e
  · cases e2 : fr δ with
    | none => rw [e2] at e; cases e
    | some q =>
      rw [e2] at e
      cases e
      obtain ⟨h1, h2⟩ := hr.2 _ q.1 q.2 e2
      exact ⟨by rw [List.length_cons, h1], fun j hj => by
        rcases List.mem_cons.mp hj with z | z
        · subst z; exact List.mem_cons_self
        · exact List.mem_cons_of_mem _ (h2 j z)⟩
  · cases e
theorem al_nil : ∀ δ ds δ', aNil δ = some (ds, δ') → ds.length = 0 := fun _ _ _ e => by cases e; rfl
theorem al_cons {n : Nat} (h : ∀ δ ds δ', (fr : List Sl → Option (List D × List Sl)) δ = some (ds, δ') → ds.length = n) : ∀ δ ds δ', aCons fa fr δ = some (ds, δ') → ds.length = n + 1 := fun δ ds δ' e => by
  obtain ⟨d, δ1, r, _, e2, rfl⟩ := aCons_some e
  rw [List.length_cons, h _ _ _ e2]
end
/-! ### a tuple of targets -/
def tN : Tt → Nat
  | .nm _ => 0
  | .nil => 0
  | .cons _ b => tN b + 1
def tOk : Tt → Bool
  | .nm _ => true
  | .nil => true
  | .cons _ (.nm _) => false
  | .cons _ b => tOk b
theorem tN_len : ∀ (T : Tt) (ds : List D) (δ δ' : List Sl), (∀ i, T ≠ .nm i) → tOk T = true → bindTs T ds δ = some δ' → ds.length = tN T
  | .nm i, _, _, _, h, _, _ => absurd rfl (h i)
  | .nil, [], _, _, _, _, _ => rfl
  | .nil, _ :: _, _, _, _, _, e => by unfold bindTs at e; cases e
  | .cons a b, [], _, _, _, _, e => by unfold bindTs at e; cases e
  | .cons a b, d :: ds, δ, δ', _, ok, e => by
    unfold bindTs at e
    cases e1 : bindT a d δ with
    | none => rw [e1] at e; cases e
    | some δ1 =>
      rw [e1] at e
      have hb : ∀ i, b ≠ .nm i := fun i z => by subst z; cases ok
      have ok2 : tOk b = true := by
        cases b with
        | nm i => exact absurd rfl (hb i)
        | nil => rfl
        | cons _ _ => exact ok
      exact congrArg (· + 1) (tN_len b ds δ1 δ' hb ok2 e)
theorem gv_t {X : Cx} {es : List Expr} {k : Nat} {pos : Pos} {T : Tt} (hc : X.calm = true) (h : GsV X es T) (hT : ∀ i, T ≠ .nm i := by intro _ z; cases z) (ok : tOk T = true := by rfl) (hn : (assignEach es X.env).length = tN T := by rfl) (hst : (assignEach es X.env).findIdx? (·.1) = none := by rfl) : GV X (.Tuple es k pos) T :=
  gv_tup hc h hT hn (fun ds δ δ' e => tN_len T ds δ δ' hT ok e) hst
/-! ### the defs that are known -/
structure GK (P : Program) (w : World) (K : PySem.W.Frag) (mg : Str → Option Value) (base : Heap) (x : Str) (k n : Nat) (fr : Bool) (φ : List Sl → Option (D × List Sl)) : Prop where
  ex : ∃ (a : Addr) (fd : FuncData) (ps : List Str), FnG P w K mg base CX0 k a fd ps (spF K ps.length fr φ) ∧ ps.length = n ∧ mg x = some (.ref a) ∧ PySem.W.keepIn K (.ref a) = true ∧ Binds K fd ps []
structure GKD (P : Program) (w : World) (K : PySem.W.Frag) (mg : Str → Option Value) (base : Heap) (x : Str) (k : Nat) : Prop where
  ex : ∃ (a : Addr) (fd : FuncData) (ps : List Str), FnG P w K mg base CX0 k a fd ps (spDk K) ∧ mg x = some (.ref a) ∧ PySem.W.keepIn K (.ref a) = true ∧ Binds K fd ps []
section
variable {X : Cx} {x : Str} {k j n : Nat} {fr : Bool} {φ : List Sl → Option (D × List Sl)}
theorem GK.kn (g : GK X.prog X.w X.K X.mg X.base x k n fr φ) (hR : Room j X.A) (hG : X.A.guards = some []) (gl : Gl X x := by rfl) (hk : k ≤ j := by decide) (db : (x == ("__debug__" : Str)) = false := by decide) : Kn X x n fr φ := by
  obtain ⟨a, fd, ps, h1, h2, h3, h4, h5⟩ := g.ex
  exact ⟨⟨CX0, k, a, fd, ps, h1, h2, hR.mono hk, h3, h4, h5, pass0⟩, hG, gl, db⟩
theorem GKD.kn (g : GKD X.prog X.w X.K X.mg X.base x k) (hR : Room j X.A) (hG : X.A.guards = some []) (gl : Gl X x := by rfl) (hk : k ≤ j := by decide) (db : (x == ("__debug__" : Str)) = false := by decide) : KnD X x := by
  obtain ⟨a, fd, ps, h1, h3, h4, h5⟩ := g.ex
  exact ⟨⟨CX0, k, a, fd, ps, h1, hR.mono hk, h3, h4, h5, pass0⟩, hG, gl, db⟩
end
/-- a constant of the module -/
def GC (K : PySem.W.Frag) (mg : Str → Option Value) (x : Str) (d : D) : Prop := ∃ u v, mg x = some u ∧ kRp K 40 u = some (v, d)
/-- .. a tuple with no dict of its own -/
def GCt (K : PySem.W.Frag) (mg : Str → Option Value) (x : Str) (ds : List D) : Prop := ∃ u v, mg x = some u ∧ kRp K 40 u = some (v, .tuple ds) ∧ kDn K u = true
theorem GCt.c {K : PySem.W.Frag} {mg : Str → Option Value} {x : Str} {ds : List D} (h : GCt K mg x ds) : GC K mg x (.tuple ds) := by
  obtain ⟨u, v, h1, h2, _⟩ := h
  exact ⟨u, v, h1, h2⟩
theorem ev_g {X : Cx} {x : Str} {d : D} {pos : Pos} (c : GC X.K X.mg x d) (hg : Gl X x := by rfl) (db : (x == ("__debug__" : Str)) = false := by decide) : EV X (.Name x pos) (fCon d) [] [] := ev_gc hg ⟨c, db⟩
theorem ev_ti {X : Cx} {x : Str} {ds : List D} {e : Expr} {fe} {Re Me : List Nat} {p1 apos pos : Pos} (c : GCt X.K X.mg x ds) (he : EV X e fe Re Me) (hg : Gl X x := by rfl) (db : (x == ("__debug__" : Str)) = false := by decide) (m : Mc X (.Name x p1) "index" apos e [] pos := by exact ⟨rfl, rfl, rfl, rfl, rfl⟩) :
    EV X (.Call (.Attribute (.Name x p1) "index" apos) [e] [] pos) (f1 (tixD (.tuple ds)) fe) [] Me := ev_tix hg c db he m
/-! ### the head -/
theorem frz_some {H : Hp} (hO : L2.Only H) {b : Addr} {o : HO} (e : H b = some o) : ∃ ob xs, o = .frz ob (.lst xs) := by
  rcases hO b with z | ⟨ob, xs, z⟩
  · rw [e] at z; cases z
  · rw [e] at z; cases z; exact ⟨ob, xs, rfl⟩
theorem spF_script {K : PySem.W.Frag} {φ : List Sl → Option (D × List Sl)} {H : Hp} {a : Addr} {ns : List Int} (hS : SqL K H a (ns.map V.int)) {outs : List Sl} (hφ : φ [.scr ns] = some (.bool true, outs)) : spF K 1 false φ [.ref a] H (fun v _ => v = .bl true) (fun _ _ _ => False) := by
  refine ⟨H, [.scr ns], fun _ => [], rfl, ?_, .bool true, outs, hφ, fun v F' H' _ _ r => ?_⟩
  · refine ⟨rfl, fun i s e => ?_, fun _ _ => rfl, fun _ _ _ h => by simp at h, fun _ _ h => by simp at h, fun _ _ h => by simp at h, Same.refl _, fun _ h => (by cases h), fun _ h => (by cases h), fun _ _ e => (by cases e), fun _ _ _ => rfl, fun _ _ e => (by cases e)⟩
    match i, e with
    | 0, e => cases e; exact ⟨rfl, a, rfl, hS⟩
    | _ + 1, e => simp at e
  · exact rp_bool r
/-- the law's call, from its promise -/
theorem zcall {P : Program} {w : World} {K : PySem.W.Frag} {mg mb : Str → Option Value} {k : Nat} {fa a : Addr} {fd : FuncData} {x : Str} {φ : List Sl → Option (D × List Sl)} {s1 : Shared} {vs : List Value} {ns : List Int}
    (KX : K.In s1.heap) (hns : s1.heap.Ns mainGlobals mg) (hb : s1.heap.Ns builtinsNs mb) (hbb : ∀ x : Str, x ≠ "__name__" → mb x = bootBuiltins x) (hlim : s1.heap.NoLimit) (hg : s1.gens = #[])
    (ha : s1.heap.get? a = some { cls := .type "list", data := .seq vs.toArray }) (hi : IntsAre vs ns) (hl : ns.length ≤ sizeLine) (hr : Room k callerA)
    (Fn : ∀ base : Heap, K.In base → base.Ns mainGlobals mg → FnG P w K mg base CX0 k fa fd [x] (spF K 1 false φ)) (hbind : ∀ (s : Shared) (u : Value), BindsTo s fd ⟨[u], []⟩ [(x, u)])
    (hφ : ∃ outs, φ [.scr ns] = some (.bool true, outs)) :
    codeAny (model P w) callerA (.call (.ref fa) ⟨[.ref a], []⟩) (fun r s' => r = .ok (.ret (.bool true)) ∧ OldK s1.heap s'.heap ∧ s'.os = s1.os ∧ AllBare s'.gens) s1 := by
  obtain ⟨outs, hφ⟩ := hφ
  have rv := vals_ints hi
  have lv := hi.length
  -- the heap H: nothing, or the script alone
  have go : ∀ H : Hp, L2.Only H → SqL K H a (ns.map V.int) → HOk P w H s1.heap → (∀ b, H b ≠ none → b = a) → (H a ≠ none → K.lookup a = none) →
      codeAny (model P w) callerA (.call (.ref fa) ⟨[.ref a], []⟩) (fun r s' => r = .ok (.ret (.bool true)) ∧ OldK s1.heap s'.heap ∧ s'.os = s1.os ∧ AllBare s'.gens) s1 := by
    intro H hO hS hok hA hK
    have free : ∀ {b : Addr} {o : Obj}, s1.heap.get? b = some o → o.data ≠ .seq vs.toArray → H b = none := fun {b o} e d => by
      cases q : H b with
      | none => rfl
      | some u =>
        obtain rfl := hA b (by rw [q]; simp)
        rw [ha] at e
        cases e
        exact absurd rfl d
    have there : ∀ {b : Addr} {o : Obj}, s1.heap.get? b = some o → H b = none → (hidT s1.heap H).get? b = some o := fun e n => hidT_get e n
    have nsK : ∀ {b : Addr} {m : Str → Option Value}, s1.heap.Ns b m → (hidT s1.heap H).Ns b m := fun {b m} ⟨o, es, ep, e, d, r⟩ => ⟨o, es, ep, there e (free e (by rw [d]; intro z; cases z)), d, r⟩
    have hKb : K.In (hidT s1.heap H) := fun b o e => there (KX b o e) (by
      cases q : H b with
      | none => rfl
      | some u =>
        obtain rfl := hA b (by rw [q]; simp)
        have := hK (by rw [q]; simp)
        rw [e] at this
        cases this)
    have hM : Mod K mg (hidT s1.heap H) := by
      obtain ⟨mc, l1, l2⟩ := hlim
      exact ⟨hKb, nsK hns, ⟨mb, nsK hb, hbb⟩, mc, nsK l1, l2⟩
    have e0 : Env0 P w K mg (hidT s1.heap H) callerA [] s1 H := ⟨rfl, hM, fun b o e => of_hidT e, Nat.le_of_eq (hidT_size _ _), trivial, fun b hb => absurd (show b ∈ ([] : List Addr) from hb) (by simp), hok, .of_eq hg⟩
    have run := (Fn _ hKb (nsK hns)).run callerA [] s1 H ⟨[.ref a], []⟩ [.ref a] [.ref a] _ _ rfl hr e0 (hbind s1 (.ref a)) (.cons rfl .nil) (spF_script hS hφ)
    refine codeAny_mono run fun r s' h => ?_
    match r, h with
    | .error _, h => exact h.elim
    | .ok .next, h => exact h.elim
    | .ok .brk, h => exact h.elim
    | .ok .cont, h => exact h.elim
    | .ok (.ret u), h =>
      obtain ⟨v, H', os, bare, un, hok', r', q⟩ := h
      obtain rfl : v = .bl true := q
      obtain rfl : u = Value.bool true := r'
      refine ⟨rfl, OldK.of_keep fun b o e => ?_, os, bare⟩
      cases q : H b with
      | none => exact un.keep b o e q (fun z => absurd (show b ∈ ([] : List Addr) from z) (by simp)) (by simp)
      | some u =>
        obtain ⟨ob, xs, rfl⟩ := frz_some hO q
        obtain ⟨e1, _⟩ := hok b _ q
        obtain ⟨e2, _⟩ := hok' b _ (un.frzs b ob _ q)
        rw [e] at e1
        cases e1
        exact e2
  cases hk : K.lookup a with
  | some o =>
    have e := KX a o hk
    rw [ha] at e
    cases e
    exact go (fun _ => none) (fun _ => .inl rfl) (.inr ⟨_, vs.toArray, _, hk, rfl, rfl, rfl, by rw [List.size_toArray, lv]; exact hl, by simpa using rv⟩) (fun b u z => by cases (show (none : Option HO) = some u from z)) (fun b z => absurd rfl z) (fun z => absurd rfl z)
  | none =>
    have yes : ∀ b, b = a → (if b = a then some (HO.frz { cls := .type "list", data := .seq vs.toArray } (.lst (ns.map V.int))) else none) = some (HO.frz { cls := .type "list", data := .seq vs.toArray } (.lst (ns.map V.int))) := fun b h => if_pos h
    refine go (fun b => if b = a then some (.frz { cls := .type "list", data := .seq vs.toArray } (.lst (ns.map V.int))) else none) (fun b => ?_) (.inl (.inr ⟨_, yes a rfl⟩)) (fun b u z => ?_) (fun b z => ?_) fun _ => hk
    · by_cases c : b = a
      · exact .inr ⟨_, _, yes b c⟩
      · exact .inl (if_neg c)
    · by_cases c : b = a
      · subst c
        cases (yes b rfl).symm.trans z
        exact ⟨ha, by rw [List.length_map]; exact hl, vs, _, rv, ha⟩
      · cases (if_neg c : (if b = a then some (HO.frz { cls := .type "list", data := .seq vs.toArray } (.lst (ns.map V.int))) else none) = none).symm.trans z
    · by_cases c : b = a
      · exact c
      · exact absurd (if_neg c) z
/-- the goal that k_head leaves -/
theorem zwalk {l : PySem.W.OpenLaw} {n k : Nat} {q : Program} {loose : List Str} {XP : (Str → Option Value) → Heap → Prop} {YP : World → Heap → Prop} {d : DefRec} {K : Params → PySem.W.Frag} {φ : List Sl → Option (D × List Sl)} {x : Str}
    (hn : l.most = some n) (hn2 : n ≤ sizeLine) (hdf : d.params.defaults = []) (hr : Room k callerA) (hY : ∀ (w : World) (h : Heap), YP w h → (K w.params).In h)
    (Fn : ∀ (w : World) (mg : Str → Option Value) (fa : Addr) (h : Heap), (K w.params).In h → h.Ns mainGlobals mg → mg d.name = some (.ref fa) →
      ∃ fd : FuncData, (∀ (s : Shared) (u : Value), BindsTo s fd ⟨[u], []⟩ [(x, u)]) ∧ ∀ base : Heap, (K w.params).In base → base.Ns mainGlobals mg → FnG l.prog w (K w.params) mg base CX0 k fa fd [x] (spF (K w.params) 1 false φ))
    (hφ : ∀ ns : List Int, ns.length ≤ n → ∃ outs, φ [.scr ns] = some (.bool true, outs)) :
    PySem.W.WalkO q loose XP YP l.row.toRowW d [] (fun f vs => PySem.call f vs) := by
  refine Att.attach_call hn hdf fun w s0 s1 mg mb fa o pm cd doc a vs ns G Y ho hd hcd hmg hobj hints hlen hg => ?_
  have KX := hY w _ Y
  obtain ⟨fd, hb, hF⟩ := Fn w mg fa _ KX G.T.g hmg
  exact zcall KX G.T.g G.T.b G.T.builtins G.T.nolimit hg hobj hints (Nat.le_trans hlen hn2) hr hF hb (hφ ns hlen)
end Z

/-! Zi: short forms for printed walks. -/
namespace Z
open PySem PySem.Spec PyProof.Rows L2
section
variable {X : Cx} {x : Str} {i : Nat} {pos : Pos}
theorem nmk (i : Nat) (h : X.N[i]? = some x := by rfl) (v : Vis X.env.scope x := by first | exact .inl rfl | exact .inr (.inl rfl) | exact .inr (.inr rfl)) (db : (x == ("__debug__" : Str)) = false := by decide) (cd : (x == ("__classdict__" : Str)) = false := by decide) : Nm X i x := ⟨h, v, db, cd⟩
theorem tgk (i : Nat) (nd : X.N.Nodup) (h : X.N[i]? = some x := by rfl) (l : Loc X.env.scope x := by first | exact .inl rfl | exact .inr rfl) (f : X.fn x = true ∨ X.env.scope.names.lookup x = some .local := by first | exact .inr rfl | exact .inl rfl) : Tg X i x := ⟨nd, h, l, f⟩
theorem bnk {v : Value} (m : X.mg x = none) (gl : Gl X x := by rfl) (bt : bootBuiltins x = some v := by decide +kernel) (nn : x ≠ "__name__" := by decide) (db : (x == ("__debug__" : Str)) = false := by decide) : Bn X x v := ⟨gl, m, bt, nn, db⟩
theorem ev_v (i : Nat) (h : X.N[i]? = some x := by rfl) (v : Vis X.env.scope x := by first | exact .inl rfl | exact .inr (.inl rfl) | exact .inr (.inr rfl)) (db : (x == ("__debug__" : Str)) = false := by decide) (cd : (x == ("__classdict__" : Str)) = false := by decide) : EV X (.Name x pos) (fVar i) [] [] := ev_var h v db cd
/-- a name that holds a datum or what is its own -/
def fRd (i : Nat) : List Sl → Option (D × List Sl) := fun δ => match δ[i]? with
  | some (.fz d) => some (d, δ)
  | some (.ow d) => some (d, δ)
  | _ => none
theorem ev_rd (i : Nat) (h : X.N[i]? = some x := by rfl) (v : Vis X.env.scope x := by first | exact .inl rfl | exact .inr (.inl rfl) | exact .inr (.inr rfl)) (db : (x == ("__debug__" : Str)) = false := by decide) (cd : (x == ("__classdict__" : Str)) = false := by decide) : EV X (.Name x pos) (fRd i) [i] [] := by
  obtain ⟨t, p, q⟩ := ev_var (pos := pos) h v db cd
  obtain ⟨t2, p2, q2⟩ := ev_tmp (pos := pos) h v db cd
  refine ⟨_, pe_var h v db cd, fun Y F H δ σ A S d δ' e Q k => ?_⟩
  unfold fRd at e
  split at e
  · rename_i d0 hd
    cases e
    obtain ⟨_, u, e2, r⟩ := S.slot i _ hd
    exact ⟨u, jn_some e2, k u F H Stp.refl S (.inl r)⟩
  · rename_i d0 hd
    cases e
    obtain ⟨u, e2, e3, o⟩ := S.slot i _ hd
    exact ⟨_, jn_some e2, k _ F H Stp.refl S (.inr ⟨i, by simp, u, rfl, e3, o⟩)⟩
  · cases e
end
section
variable {X : Cx} {x : Str} {p pos : Pos} {e : Expr} {es : List Expr} {R M : List Nat} {f : List Sl → Option (List Ar × List Sl)} {φ : List Sl → Option (D × List Sl)} {n : Nat} {B : List Nat}
theorem ev_fn (kn : Kn X x n false φ) (h : CVn X (e :: es) f R M n B) (h1 : starEach (e :: es) X.env = (false, eval e X.env) :: starEach es X.env := by rfl) (h2 : (backTo pos (starEach es X.env)).any (·.1) = false := by rfl) : EV X (.Call (.Name x p) (e :: es) [] pos) (callF R true φ f) [] (M ++ B) := ev_call kn h.2 h.1 h1 h2
theorem nv_fn (kn : Kn X x n true φ) (h : CVn X (e :: es) f [] M n B) (h1 : starEach (e :: es) X.env = (false, eval e X.env) :: starEach es X.env := by rfl) (h2 : (backTo pos (starEach es X.env)).any (·.1) = false := by rfl) : NV X (.Call (.Name x p) (e :: es) [] pos) (callF [] true φ f) (M ++ B) := nv_call kn h.2 h.1 h1 h2
theorem hu67 {A : Around} {k : Nat} (hr : Room k A) : A.units + 67 < cLine := by have := hr.un; omega
end
/-- a block's names, looked at -/
def blkB (N : List Str) (sc scope : Scope) (own : List (Str × Nat)) : Bool :=
  decide (scope.kind = .function) && scope.names.all (fun y => decide (scope.names.lookup y.1 = some y.2)) && own.all (fun p => decide (N[p.2]? = some p.1)) && scope.names.all (fun y => decide (y.2 ≠ .free) || decide (sc.names.lookup y.1 = some .cell) || decide (sc.names.lookup y.1 = some .free))
    && scope.names.all (fun y => decide (y.2 ≠ .local ∧ y.2 ≠ .cell) || (own.map (·.1)).contains y.1 || !(N.contains y.1))
theorem blk_of {N : List Str} {sc scope : Scope} {own : List (Str × Nat)} (h : blkB N sc scope own = true) : BlkOk N sc scope own := by
  unfold blkB at h
  simp only [Bool.and_eq_true, decide_eq_true_eq, List.all_eq_true, Bool.or_eq_true, List.contains_iff_mem, Bool.not_eq_true'] at h
  obtain ⟨⟨⟨⟨h1, h2⟩, h3⟩, h4⟩, h5⟩ := h
  refine ⟨h1, h2, h3, fun y hy e => ?_, fun y hy e => ?_⟩
  · rcases h4 y hy with (z | z) | z
    · exact absurd e z
    · exact .inl z
    · exact .inr z
  · rcases h5 y hy with (z | z) | z
    · rcases e with e | e
      · exact absurd e z.1
      · exact absurd e z.2
    · exact .inl z
    · refine .inr fun m => ?_
      rw [List.contains_iff_mem.mpr m] at z
      cases z
theorem deck_f1 (ns : List Int) : f2 addA (f2 modD (fA (g1 sumD) (aCons (fRd 1) aNil)) (fCon (.int 2147483629))) (f2 mulA (fCon (.int 48271)) (fA (g1 lenD) (aCons (fRd 1) aNil))) [.scr ns, .ow (.list ((deckOf ns).map PyData.int))] = some (.int (mixOf ns), [.scr ns, .ow (.list ((deckOf ns).map PyData.int))]) := by
  have e1 : aCons (fRd 1) aNil [.scr ns, .ow (.list ((deckOf ns).map PyData.int))] = some ([.list ((deckOf ns).map PyData.int)], [.scr ns, .ow (.list ((deckOf ns).map PyData.int))]) := rfl
  have e2 : g1 sumD [.list ((deckOf ns).map PyData.int)] = some (.int (deckOf ns).sum) := by
    simp only [g1, sumD, intsOf_map, Option.map_some]
  have e3 : g1 lenD [.list ((deckOf ns).map PyData.int)] = some (.int ((deckOf ns).length : Nat)) := by
    simp only [g1, lenD, List.length_map]
  have e4 : modD (.int (deckOf ns).sum) (.int 2147483629) = some (.int ((deckOf ns).sum % 2147483629)) := by
    simp [modD]
  simp only [f2, fA, fCon, e1, e2, e3, e4, Option.bind_some, Option.map_some]
  rfl
theorem gcs {K : PySem.W.Frag} {u : Value} {d : D} (h : (kRp K 40 u).map (·.2) = some d) : kRp K 40 u = some ((((kRp K 40 u).map (·.1)).getD .non), d) := by
  cases e : kRp K 40 u with
  | none => rw [e] at h; cases h
  | some p =>
    rw [e] at h
    cases h
    rfl
end Z

/-! Zj: plain laws: the deck's draw. -/
namespace Z
open PySem PySem.Spec PyProof.Rows L2
theorem lay_ints : ∀ cs : List Int, PyData.canLayAll0 (cs.map PyData.int) = true
  | [] => rfl
  | c :: r => by
    show (PyData.canLay0 (.int c) && PyData.canLayAll0 (r.map PyData.int)) = true
    rw [lay_ints r]
    rfl
theorem dep_ints : ∀ cs : List Int, PyData.depthAll (cs.map PyData.int) ≤ 1
  | [] => Nat.zero_le _
  | c :: r => by
    have := dep_ints r
    simp only [List.map_cons, PyData.depthAll, PyData.depth]
    omega
theorem shaped_ints (cs : List Int) : SeqAt.shaped (.list (cs.map PyData.int)) = true := by
  have h1 := lay_ints cs
  have h2 := dep_ints cs
  unfold SeqAt.shaped
  rw [Bool.and_eq_true, decide_eq_true_eq]
  refine ⟨h1, ?_⟩
  simp only [PyData.depth]
  omega
theorem eqD_ints_nil (cs : List Int) : eqD (.list (cs.map PyData.int)) (.list []) = some cs.isEmpty := by
  unfold eqD
  rw [shaped_ints, show SeqAt.shaped (.list []) = true from rfl]
  cases cs <;> rfl
def gDrawT : List Sl → Option Out := sSeq (sIf (fun δ => toB (f2 (bD geD) (fVar 2) (f2 powD (fCon (.int 10)) (fCon (.int 18))) δ)) (sSeq (sExp (fDkPush 0 (f2 fdivD (fVar 2) (fVar 1)))) (sSeq (sRet (f2 modD (fVar 2) (fVar 1))) (sNil))) (sNil)) (sSeq (sSet 3 (f2 modD (f2 mulA (f2 addA (f2 addA (f2 modD (fVar 2) (fCon (.int 2147483629))) (f2 mulA (fCon (.int 104729)) (fDkN 0))) (fCon (.int 1))) (fCon (.int 48271))) (fCon (.int 2147483647)))) (sSeq (sSet 3 (f2 modD (f2 addA (f2 addA (f2 mulA (fVar 3) (fVar 3)) (f2 mulA (fCon (.int 69621)) (fDkN 0))) (fCon (.int 7))) (fCon (.int 2147483587)))) (sSeq (sRet (f2 modD (f2 fdivD (f2 modD (f2 mulA (fVar 3) (f2 addA (f2 fdivD (fVar 3) (fCon (.int 3))) (fCon (.int 39373)))) (fCon (.int 2305843009213693951))) (fCon (.int 128))) (fVar 1))) (sNil))))
def gDraw : List Sl → Option Out := sSeq (sDkN 0 (f2 addA (fDkN 0) (fCon (.int 1)))) (sSeq (sSet 2 (fIte (gDkE 0) (fDkM 0) (fDkPop 0))) gDrawT)
theorem addA_int (a b : Int) : addA (.int a) (.int b) = some (.int (a + b)) := rfl
theorem mulA_l (a b : Int) (h : lim64 a = true) : mulA (.int a) (.int b) = some (.int (a * b)) := by simp [mulA, mulD, h]
theorem mulA_r (a b : Int) (h : lim64 b = true) : mulA (.int a) (.int b) = some (.int (a * b)) := by simp [mulA, mulD, h]
theorem lim64_mod (a k : Int) (h : 0 < k) (h2 : k ≤ 2 ^ 62) : lim64 (a % k) = true := by
  have h3 := Int.emod_nonneg a (Int.ne_of_gt h)
  have h4 := Int.emod_lt_of_pos a h
  unfold lim64
  simp
  omega
theorem subD_int (a b : Int) : subD (.int a) (.int b) = some (.int (a - b)) := rfl
theorem modD_int (a b : Int) (h : 0 < b) : modD (.int a) (.int b) = some (.int (a % b)) := if_pos h
theorem fdivD_int (a b : Int) (h : 0 < b) (h2 : b < 2 ^ 30) : fdivD (.int a) (.int b) = some (.int (a / b)) := by
  show (if (decide (0 < b) && decide (b < 1073741824)) = true then some (PyData.int (a / b)) else none) = _
  rw [if_pos (by simp [h]; omega)]
/-- behind the cell -/
theorem draw_tail (cs : List Int) (m n c M : Int) (hM : 0 < M) (hM2 : M < 2 ^ 30) (hc : cs.length < 1000) :
    ∃ (r : Int) (cs' : List Int) (z : Sl), 0 ≤ r ∧ r < M ∧ cs'.length ≤ cs.length + 1 ∧ gDrawT [.dk cs m n, .fz (.int M), .fz (.int c), .no] = some (.rt (.int r) [.dk cs' m n, .fz (.int M), .fz (.int c), z]) := by
  have hs : cs.length < sizeLine := Nat.lt_of_lt_of_le hc (by decide)
  by_cases h : (10 : Int) ^ 18 ≤ c
  · refine ⟨c % M, cs ++ [c / M], .no, Int.emod_nonneg _ (by omega), Int.emod_lt_of_pos _ hM, by simp, ?_⟩
    have e1 : geD (.int c) (.int (10 ^ 18)) = some true := by
      simp [geD]
      omega
    have e2 : powD (.int 10) (.int 18) = some (.int (10 ^ 18)) := rfl
    simp only [gDrawT, sSeq, sIf, sExp, sRet, toB, f2, fVar, fCon, fDkPush, dkAt, bD, e1, e2, fdivD_int _ _ hM hM2, modD_int _ _ hM, hs, List.getElem?_cons_zero, List.getElem?_cons_succ, Option.bind_some, Option.map_some, if_true, List.set_cons_zero]
  · refine ⟨(((((c % 2147483629 + 104729 * n + 1) * 48271) % 2147483647) * (((c % 2147483629 + 104729 * n + 1) * 48271) % 2147483647) + 69621 * n + 7) % 2147483587 * ((((((c % 2147483629 + 104729 * n + 1) * 48271) % 2147483647) * (((c % 2147483629 + 104729 * n + 1) * 48271) % 2147483647) + 69621 * n + 7) % 2147483587) / 3 + 39373) % 2305843009213693951 / 128) % M, cs, .fz (.int (((((c % 2147483629 + 104729 * n + 1) * 48271) % 2147483647) * (((c % 2147483629 + 104729 * n + 1) * 48271) % 2147483647) + 69621 * n + 7) % 2147483587)), Int.emod_nonneg _ (Int.ne_of_gt hM), Int.emod_lt_of_pos _ hM, by omega, ?_⟩
    have e1 : geD (.int c) (.int (10 ^ 18)) = some false := by simp [geD]; omega
    have e2 : powD (.int 10) (.int 18) = some (.int (10 ^ 18)) := rfl
    have m1 : ∀ a : Int, modD (.int a) (.int 2147483629) = some (.int (a % 2147483629)) := fun a => modD_int a _ (by decide)
    have m2 : ∀ a : Int, modD (.int a) (.int 2147483647) = some (.int (a % 2147483647)) := fun a => modD_int a _ (by decide)
    have m3 : ∀ a : Int, modD (.int a) (.int 2147483587) = some (.int (a % 2147483587)) := fun a => modD_int a _ (by decide)
    have m4 : ∀ a : Int, modD (.int a) (.int 2305843009213693951) = some (.int (a % 2305843009213693951)) := fun a => modD_int a _ (by decide)
    have d1 : ∀ a : Int, fdivD (.int a) (.int 3) = some (.int (a / 3)) := fun a => fdivD_int a _ (by decide) (by decide)
    have d2 : ∀ a : Int, fdivD (.int a) (.int 128) = some (.int (a / 128)) := fun a => fdivD_int a _ (by decide) (by decide)
    have l1 : ∀ a : Int, mulA (.int 104729) (.int a) = some (.int (104729 * a)) := fun a => mulA_l _ _ rfl
    have l2 : ∀ a : Int, mulA (.int 69621) (.int a) = some (.int (69621 * a)) := fun a => mulA_l _ _ rfl
    have l3 : ∀ a : Int, mulA (.int a) (.int 48271) = some (.int (a * 48271)) := fun a => mulA_r _ _ rfl
    have l4 : ∀ a b : Int, mulA (.int (a % 2147483647)) (.int b) = some (.int ((a % 2147483647) * b)) := fun a b => mulA_l _ _ (lim64_mod _ _ (by decide) (by decide))
    have l5 : ∀ a b : Int, mulA (.int (a % 2147483587)) (.int b) = some (.int ((a % 2147483587) * b)) := fun a b => mulA_l _ _ (lim64_mod _ _ (by decide) (by decide))
    have mM : ∀ a : Int, modD (.int a) (.int M) = some (.int (a % M)) := fun a => modD_int a _ hM
    simp only [gDrawT, sSeq, sIf, sSet, sExp, sRet, sNil, toB, f2, fVar, fCon, fDkN, dkAt, bD, e1, e2, m1, m2, m3, m4, d1, d2, mM, addA_int, l1, l2, l3, l4, l5, hs, List.getElem?_cons_zero, List.getElem?_cons_succ, Option.bind_some, Option.map_some, List.length_cons, List.length_nil, List.set_cons_zero, List.set_cons_succ, Nat.reduceAdd, Nat.reduceLT, if_true]
theorem fnF_rt {sg : List Bool} {m : Nat} {fr : Bool} {g : List Sl → Option Out} {as δ o : List Sl} {d : D} (h1 : okArgs sg as = true) (h2 : g (as ++ List.replicate (m - sg.length) .no) = some (.rt d δ)) (h3 : mergeO as δ = some o) : fnF sg m fr g as = some (d, o) := by
  unfold fnF
  rw [h1, h2]
  show (mergeO as δ).map (fun o => (d, o)) = _
  rw [h3]
  rfl
def φDraw : List Sl → Option (D × List Sl) := fnF [true, false] 4 false gDraw
theorem draw_ok (cs : List Int) (m n M : Int) (hM : 0 < M) (hM2 : M < 2 ^ 30) (hc : cs.length ≤ 63) : ∃ (r : Int) (cs' : List Int) (n' : Int), 0 ≤ r ∧ r < M ∧ cs'.length ≤ 63 ∧ φDraw [.dk cs m n, .fz (.int M)] = some (.int r, [.dk cs' m n', .fz (.int M)]) := by
  have fin : ∀ (cs0 : List Int) (c : Int), cs0.length ≤ 62 → gDraw [.dk cs m n, .fz (.int M), .no, .no] = gDrawT [.dk cs0 m (n + 1), .fz (.int M), .fz (.int c), .no] →
      ∃ (r : Int) (cs' : List Int) (n' : Int), 0 ≤ r ∧ r < M ∧ cs'.length ≤ 63 ∧ φDraw [.dk cs m n, .fz (.int M)] = some (.int r, [.dk cs' m n', .fz (.int M)]) := fun cs0 c hl e => by
    obtain ⟨r, cs', z, h1, h2, h3, h4⟩ := draw_tail cs0 m (n + 1) c M hM hM2 (by omega)
    refine ⟨r, cs', n + 1, h1, h2, by omega, ?_⟩
    exact fnF_rt rfl (e.trans h4) rfl
  have en : ∀ a b : Int, addA (.int a) (.int b) = some (.int (a + b)) := fun _ _ => rfl
  cases cs with
  | nil =>
    refine fin [] m (by simp) ?_
    simp only [gDraw, sSeq, sDkN, sSet, fIte, gDkE, fDkM, fDkN, f2, fCon, dkAt, en, eqD_ints_nil, List.isEmpty_nil, List.getElem?_cons_zero, Option.bind_some, Option.map_some, List.length_cons, List.length_nil, List.set_cons_zero, List.set_cons_succ, Nat.reduceAdd, Nat.reduceLT, if_true]
  | cons x r =>
    have he : (x :: r).isEmpty = false := rfl
    generalize (x :: r) = cs at he hc fin ⊢
    have h0 : 0 < cs.length := by
      cases cs with
      | nil => cases he
      | cons _ _ => simp
    obtain ⟨c, hl⟩ : ∃ c, cs[cs.length - 1]? = some c := ⟨_, List.getElem?_eq_getElem (by omega)⟩
    refine fin cs.dropLast c (by rw [List.length_dropLast]; omega) ?_
    simp only [gDraw, sSeq, sDkN, sSet, fIte, gDkE, fDkPop, fDkN, f2, fCon, dkAt, en, eqD_ints_nil, hl, he, List.getElem?_cons_zero, Option.bind_some, Option.map_some, List.set_cons_zero, List.set_cons_succ, List.length_cons, List.length_nil, Nat.reduceAdd, Nat.reduceLT, if_true]
theorem deckOf_len (ns : List Int) : (deckOf ns).length ≤ 63 := by
  unfold deckOf
  rw [List.length_reverse, List.length_take]
  omega
/-- no argument is its own: they stay -/
theorem mergeO_flat : ∀ {as δ o : List Sl}, as.all (fun a => !isOwn a) = true → mergeO as δ = some o → o = as
  | [], _, _, _, h => by cases h; rfl
  | a :: r, b :: s, o, ha, h => by
    rw [List.all_cons, Bool.and_eq_true, Bool.not_eq_true'] at ha
    unfold mergeO at h
    rw [ha.1] at h
    cases e : mergeO r s with
    | none => rw [e] at h; cases h
    | some z =>
      rw [e] at h
      cases h
      rw [mergeO_flat ha.2 e]
  | _ :: _, [], _, _, h => by cases h
theorem fnF_flat {sg : List Bool} {m : Nat} {fr : Bool} {g : List Sl → Option Out} {as o : List Sl} {d : D} (ha : as.all (fun a => !isOwn a) = true) (h : fnF sg m fr g as = some (d, o)) : o = as := by
  unfold fnF at h
  split at h
  · split at h
    · rename_i δ _
      cases e : mergeO as δ with
      | none => rw [e] at h; cases h
      | some z => rw [e] at h; cases h; exact mergeO_flat ha e
    · split at h
      · rename_i δ _ _
        cases e : mergeO as δ with
        | none => rw [e] at h; cases h
        | some z => rw [e] at h; cases h; exact mergeO_flat ha e
      · cases h
    · cases h
  · cases h
/-! calls by data alone -/
theorem iosOk_d (δ : List Sl) : ∀ ds : List D, iosOk [] δ (ds.map Ar.d) = true := fun ds => by
  have h : ∀ ds : List D, ios (ds.map Ar.d) = [] := fun ds => by
    induction ds with
    | nil => rfl
    | cons d r ih => exact ih
  unfold iosOk
  rw [h]
  rfl
theorem outsOk_d : ∀ ds : List D, outsOk [] (ds.map Ar.d) (ds.map Sl.fz) = true
  | [] => rfl
  | _ :: r => outsOk_d r
theorem wback_d (δ : List Sl) : ∀ ds : List D, wback (ds.map Ar.d) (ds.map Sl.fz) δ = δ
  | [] => rfl
  | _ :: r => wback_d δ r
theorem callF_d {fl : Bool} {φ : List Sl → Option (D × List Sl)} {f : List Sl → Option (List Ar × List Sl)} {δ δ' : List Sl} {d : D} (ds : List D) (h : f δ = some (ds.map Ar.d, δ')) (hφ : φ (ds.map Sl.fz) = some (d, ds.map Sl.fz)) : callF [] fl φ f δ = some (d, δ') := by
  unfold callF
  rw [h]
  simp only [Option.bind_some]
  rw [iosOk_d, if_pos rfl, List.map_map, show (reso δ' ∘ Ar.d) = Sl.fz from rfl, hφ]
  simp only [Option.bind_some]
  rw [outsOk_d, wback_d]
  rfl
/-! loops -/
theorem forL_inv {T : Tt} {b : List Sl → Option Out} (I : Nat → List Sl → Prop) : ∀ (ds : List D) (k : Nat) (δ : List Sl), (∀ (i : Nat) (d : D) (δ : List Sl), ds[i]? = some d → I (k + i) δ → ∃ δ1 δ2, bindT T d δ = some δ1 ∧ b δ1 = some (.nx δ2) ∧ I (k + i + 1) δ2) → I k δ →
    ∃ δ', forL T b ds δ = some (.nx δ') ∧ I (k + ds.length) δ'
  | [], k, δ, _, h => ⟨δ, rfl, h⟩
  | d :: r, k, δ, st, h => by
    obtain ⟨δ1, δ2, e1, e2, e3⟩ := st 0 d δ rfl h
    obtain ⟨δ', e4, e5⟩ := forL_inv I r (k + 1) δ2 (fun i d δ hi hI => by
      have := st (i + 1) d δ (by simpa using hi) (by rw [show k + (i + 1) = k + 1 + i by omega]; exact hI)
      rw [show k + (i + 1) + 1 = k + 1 + i + 1 by omega] at this
      exact this) e3
    refine ⟨δ', ?_, by rw [List.length_cons, show k + (r.length + 1) = k + 1 + r.length by omega]; exact e5⟩
    unfold forL
    rw [e1, Option.bind_some, e2, Option.bind_some]
    exact e4
theorem rngD_at {lo : Int} {n i : Nat} {d : D} (h : (rngD lo n)[i]? = some d) : i < n ∧ d = .int (lo + (i : Nat)) := by
  unfold rngD at h
  rw [List.getElem?_map] at h
  by_cases c : i < n
  · rw [List.getElem?_range c] at h
    cases h
    exact ⟨c, rfl⟩
  · rw [List.getElem?_eq_none (by rw [List.length_range]; omega)] at h
    cases h
/-- a comprehension without tests, each turn by itself -/
theorem compL_map {T : Tt} {vs : List Nat} {f : List Sl → Option (D × List Sl)} {δ : List Sl} (g : D → D) : ∀ (ds : List D), (∀ d ∈ ds, ∃ δ1 δ2, bindT T d δ = some δ1 ∧ f δ1 = some (g d, δ2) ∧ wipeS vs δ2 = δ) → compL T vs cYes f ds δ = some (ds.map g, δ)
  | [], _ => rfl
  | d :: r, h => by
    obtain ⟨δ1, δ2, e1, e2, e3⟩ := h d List.mem_cons_self
    unfold compL
    rw [e1, Option.bind_some]
    show (f δ1).bind _ = _
    rw [e2, Option.bind_some, e3, compL_map g r fun d hd => h d (List.mem_cons_of_mem _ hd)]
    rfl
theorem line_big : 1000000 ≤ sizeLine := by decide
theorem small62_of {i : Int} (h0 : -1000000 ≤ i) (h1 : i ≤ 1000000) : small62 i = true := by
  unfold small62
  simp
  omega
theorem map_add (W : Nat → D) (n k : Nat) : (List.range (n + k)).map W = (List.range n).map W ++ (List.range k).map fun j => W (n + j) := by
  rw [List.range_add, List.map_append, List.map_map]
  rfl
end Z

/-! The walk of law_k03_places_there_and_back, printed by gen.py. -/
namespace K03
open PySem PySem.Spec PyProof.Rows L2 Z
def top (i : Nat) : Stmt := PySem.Challenge.pw_soundstore_k03_places_there_and_back.main.body.getD i (.Pass ⟨0, 0, 0, 0⟩)
/-- what the text leans on -/
structure Txt (K : PySem.W.Frag) (mg : Str → Option Value) : Prop where
  c_BLOCK_CELLS : GC K mg "BLOCK_CELLS" (.int 4)
  c_FIRST_BLOCKS : GC K mg "FIRST_BLOCKS" (.tuple [.int 1, .int 2, .int 3])
  c_HEAD_CELLS : GC K mg "HEAD_CELLS" (.int 7)
  c_HEAD_PARTS : GC K mg "HEAD_PARTS" (.tuple [.str "kind", .str "count", .str "length", .str "sum"])
  c_LEAST_BLOCKS : GC K mg "LEAST_BLOCKS" (.int 3)
  c_LEAST_HEADS : GC K mg "LEAST_HEADS" (.int 2)
  c_LOG_CELLS : GC K mg "LOG_CELLS" (.int 82)
  c_LOG_HEAD : GC K mg "LOG_HEAD" (.tuple [.str "mark", .str "seal"])
  c_MOST_BLOCKS : GC K mg "MOST_BLOCKS" (.int 12)
  c_MOST_HEADS : GC K mg "MOST_HEADS" (.int 8)
  c_PAIR_PARTS : GC K mg "PAIR_PARTS" (.tuple [.str "place", .str "worth"])
  t_HEAD_PARTS : GCt K mg "HEAD_PARTS" [.str "kind", .str "count", .str "length", .str "sum"]
  t_LOG_HEAD : GCt K mg "LOG_HEAD" [.str "mark", .str "seal"]
  t_PAIR_PARTS : GCt K mg "PAIR_PARTS" [.str "place", .str "worth"]
  m_all : mg "all" = none
  m_bool : mg "bool" = none
  m_enumerate : mg "enumerate" = none
  m_int : mg "int" = none
  m_isinstance : mg "isinstance" = none
  m_len : mg "len" = none
  m_list : mg "list" = none
  m_range : mg "range" = none
  m_repr : mg "repr" = none
  m_reversed : mg "reversed" = none
  m_sum : mg "sum" = none
  m_tuple : mg "tuple" = none
section
variable {P : Program} {w : World} {K : PySem.W.Frag} {mg : Str → Option Value} {base : Heap}
/-! is_number -/
abbrev s_is_number : Stmt := top 10
theorem sc_is_number : FnScope ["thing"] ["thing"] (defScope s_is_number) := ⟨rfl, rfl, rfl, by decide +kernel, rfl, by decide +kernel, by decide +kernel⟩
def g_is_number : List Sl → Option Out := sSeq (sRet (fAnd (f1 (isiD "int") (fVar 0)) (fNot (f1 (isiD "bool") (fVar 0))))) (sNil)
def φ_is_number : List Sl → Option (D × List Sl) := fnF [false] 1 false g_is_number
theorem ok_is_number (T : Txt K mg)  {f : Addr} {fd : FuncData} (Fu : Fun K "is_number" "is_number" s_is_number f fd) (m : mg "is_number" = some (.ref f)) : GK P w K mg base "is_number" 1 1 false φ_is_number := by
  refine ⟨f, fd, ["thing"], fn_ok Fu sc_is_number rfl (fun cd A out s G E hG hr => ?_), rfl, m, Fu.kp, Fu.binds fun _ _ _ _ _ _ us hl => match us, hl with | [_], _ => rfl⟩
  have S := sc_is_number; have h1 := hu1 hr; have h65 := hu65 hr; have h66 := hu66 hr; have h67 := hu67 hr
  exact bv_cons (sv_ret (ev_and (ev_isi (T := "int") rfl (bnk T.m_isinstance) (bnk T.m_int) (ev_v 0)) (ev_and1 (ev_not (ev_isi (T := "bool") rfl (bnk T.m_isinstance) (bnk T.m_bool) (ev_v 0)))))) (bv_nil)
/-! is_shape -/
abbrev s_is_shape : Stmt := top 11
theorem sc_is_shape : FnScope ["heads", "blocks"] ["heads", "blocks"] (defScope s_is_shape) := ⟨rfl, rfl, rfl, by decide +kernel, rfl, by decide +kernel, by decide +kernel⟩
def g_is_shape : List Sl → Option Out := sSeq (sIf (gOr (gNot (fun δ => toB (callF [] true φ_is_number (kCons (fVar 0) (kNil)) δ))) (gNot (fun δ => toB (callF [] true φ_is_number (kCons (fVar 1) (kNil)) δ)))) (sSeq (sRet (fCon (.bool false))) (sNil)) (sNil)) (sSeq (sRet (fAnd (fChain (bD leD) (bD leD) (fCon (.int 2)) (fVar 0) (fCon (.int 8))) (fChain (bD leD) (bD leD) (fCon (.int 3)) (fVar 1) (fCon (.int 12))))) (sNil))
def φ_is_shape : List Sl → Option (D × List Sl) := fnF [false, false] 2 false g_is_shape
theorem ok_is_shape (T : Txt K mg) (k_is_number : GK P w K mg base "is_number" 1 1 false φ_is_number) {f : Addr} {fd : FuncData} (Fu : Fun K "is_shape" "is_shape" s_is_shape f fd) (m : mg "is_shape" = some (.ref f)) : GK P w K mg base "is_shape" 2 2 false φ_is_shape := by
  refine ⟨f, fd, ["heads", "blocks"], fn_ok Fu sc_is_shape rfl (fun cd A out s G E hG hr => ?_), rfl, m, Fu.kp, Fu.binds fun _ _ _ _ _ _ us hl => match us, hl with | [_, _], _ => rfl⟩
  have S := sc_is_shape; have h1 := hu1 hr; have h65 := hu65 hr; have h66 := hu66 hr; have h67 := hu67 hr
  exact bv_cons (sv_if (WV.tv (wv_or (tv_not (tv_val (ev_fn (k_is_number.kn hr hG) (kn_cons (ev_v 0) (kn_nil))))) (wv_or1 (tv_not (tv_val (ev_fn (k_is_number.kn hr hG) (kn_cons (ev_v 1) (kn_nil)))))))) (bv_cons (sv_ret (ev_bl)) (bv_nil)) (bv_nil)) (bv_cons (sv_ret (ev_and (ev_chain cd_le.op os_cmp cd_le.op os_cmp (ev_g T.c_LEAST_HEADS) (ev_v 0) (ev_g T.c_MOST_HEADS)) (ev_and1 (ev_chain cd_le.op os_cmp cd_le.op os_cmp (ev_g T.c_LEAST_BLOCKS) (ev_v 1) (ev_g T.c_MOST_BLOCKS))))) (bv_nil))
/-! many_cells -/
abbrev s_many_cells : Stmt := top 12
theorem sc_many_cells : FnScope ["heads", "blocks"] ["heads", "blocks"] (defScope s_many_cells) := ⟨rfl, rfl, rfl, by decide +kernel, rfl, by decide +kernel, by decide +kernel⟩
def g_many_cells : List Sl → Option Out := sSeq (sRet (f2 addA (f2 addA (f2 mulA (fCon (.int 7)) (fVar 0)) (f2 mulA (f2 addA (fCon (.int 1)) (fCon (.int 4))) (fVar 1))) (fCon (.int 82)))) (sNil)
def φ_many_cells : List Sl → Option (D × List Sl) := fnF [false, false] 2 false g_many_cells
theorem ok_many_cells (T : Txt K mg)  {f : Addr} {fd : FuncData} (Fu : Fun K "many_cells" "many_cells" s_many_cells f fd) (m : mg "many_cells" = some (.ref f)) : GK P w K mg base "many_cells" 1 2 false φ_many_cells := by
  refine ⟨f, fd, ["heads", "blocks"], fn_ok Fu sc_many_cells rfl (fun cd A out s G E hG hr => ?_), rfl, m, Fu.kp, Fu.binds fun _ _ _ _ _ _ us hl => match us, hl with | [_, _], _ => rfl⟩
  have S := sc_many_cells; have h1 := hu1 hr; have h65 := hu65 hr; have h66 := hu66 hr; have h67 := hu67 hr
  exact bv_cons (sv_ret (ev_op op_add4 os_addA (ev_op op_add4 os_addA (ev_op op_mul4 os_mulA (ev_g T.c_HEAD_CELLS) (ev_v 0)) (ev_op op_mul4 os_mulA (ev_op op_add4 os_addA (ev_int) (ev_g T.c_BLOCK_CELLS)) (ev_v 1))) (ev_g T.c_LOG_CELLS))) (bv_nil)
/-! is_store -/
abbrev s_is_store : Stmt := top 13
theorem sc_is_store : FnScope ["thing", "cells", "cell"] ["thing"] (defScope s_is_store) := ⟨rfl, rfl, rfl, by decide +kernel, rfl, by decide +kernel, by decide +kernel⟩
def g_is_store : List Sl → Option Out := sSeq (sIf (gOr (gNot (fun δ => toB ((f1 (isiD "tuple") (fVar 0)) δ))) (gOr (fun δ => toB (f2 (bD neD) (fA (g1 lenD) (aCons (fVar 0) (aNil))) (fCon (.int 3)) δ)) (gNot (fun δ => toB (callF [] true φ_is_shape (kCons (f2 idxD (fVar 0) (fCon (.int 0))) (kCons (f2 idxD (fVar 0) (fCon (.int 1))) (kNil))) δ))))) (sSeq (sRet (fCon (.bool false))) (sNil)) (sNil)) (sSeq (sSet 1 (f2 idxD (fVar 0) (fCon (.int 2)))) (sSeq (sIf (gOr (gNot (fun δ => toB ((f1 (isiD "tuple") (fVar 1)) δ))) (fun δ => toB (f2 (bD neD) (fA (g1 lenD) (aCons (fVar 1) (aNil))) (callF [] true φ_many_cells (kCons (f2 idxD (fVar 0) (fCon (.int 0))) (kCons (f2 idxD (fVar 0) (fCon (.int 1))) (kNil)))) δ))) (sSeq (sRet (fCon (.bool false))) (sNil)) (sNil)) (sSeq (sRet (fA (g1 allD) (aCons (fLc (.nm 2) [2] (fIt (fVar 1)) (cYes) (callF [] true φ_is_number (kCons (fVar 2) (kNil)))) (aNil)))) (sNil))))
def φ_is_store : List Sl → Option (D × List Sl) := fnF [false] 3 false g_is_store
theorem ok_is_store (T : Txt K mg) (k_is_number : GK P w K mg base "is_number" 1 1 false φ_is_number) (k_is_shape : GK P w K mg base "is_shape" 2 2 false φ_is_shape) (k_many_cells : GK P w K mg base "many_cells" 1 2 false φ_many_cells) {f : Addr} {fd : FuncData} (Fu : Fun K "is_store" "is_store" s_is_store f fd) (m : mg "is_store" = some (.ref f)) : GK P w K mg base "is_store" 3 1 false φ_is_store := by
  refine ⟨f, fd, ["thing"], fn_ok Fu sc_is_store rfl (fun cd A out s G E hG hr => ?_), rfl, m, Fu.kp, Fu.binds fun _ _ _ _ _ _ us hl => match us, hl with | [_], _ => rfl⟩
  have S := sc_is_store; have h1 := hu1 hr; have h65 := hu65 hr; have h66 := hu66 hr; have h67 := hu67 hr
  exact bv_cons (sv_if (WV.tv (wv_or (tv_not (tv_val (ev_isi (T := "tuple") rfl (bnk T.m_isinstance) (bnk T.m_tuple) (ev_v 0)))) (wv_or (tv_cmp (cd_ne h65).op os_cmp (ev_callB (bnk T.m_len) cr_len cs_len (av_cons (ev_v 0) (av_nil))) (ev_int)) (wv_or1 (tv_not (tv_val (ev_fn (k_is_shape.kn hr hG) (kn_cons (ev_idx h1 (ev_v 0) (ev_int)) (kn_cons (ev_idx h1 (ev_v 0) (ev_int)) (kn_nil)))))))))) (bv_cons (sv_ret (ev_bl)) (bv_nil)) (bv_nil)) (bv_cons (sv_set rfl (tgk 1 S.nd) (ev_idx h1 (ev_v 0) (ev_int))) (bv_cons (sv_if (WV.tv (wv_or (tv_not (tv_val (ev_isi (T := "tuple") rfl (bnk T.m_isinstance) (bnk T.m_tuple) (ev_v 1)))) (wv_or1 (tv_cmp (cd_ne h65).op os_cmp (ev_callB (bnk T.m_len) cr_len cs_len (av_cons (ev_v 1) (av_nil))) (ev_fn (k_many_cells.kn hr hG) (kn_cons (ev_idx h1 (ev_v 0) (ev_int)) (kn_cons (ev_idx h1 (ev_v 0) (ev_int)) (kn_nil)))))))) (bv_cons (sv_ret (ev_bl)) (bv_nil)) (bv_nil)) (bv_cons (sv_ret (ev_callB (bnk T.m_all) (cr_all rfl) cs_all (av_cons (NV.ev (nv_lc (own := [("cell", 2)]) rfl S.nd (iv_seq (ev_v 1)) (blk_of (N := ["thing", "cells", "cell"]) (sc := defScope s_is_store) (by decide +kernel)) (fun _ _ _ _ _ => gv_name (tgk 2 S.nd)) (fun _ _ _ _ _ => tsv_nil) (fun _ _ _ _ _ => ev_fn (k_is_number.kn hr hG) (kn_cons (ev_v 2) (kn_nil))))) (av_nil)))) (bv_nil))))
/-! new_store -/
abbrev s_new_store : Stmt := top 14
theorem sc_new_store : FnScope ["heads", "blocks", "first", "second", "free", "used"] ["heads", "blocks"] (defScope s_new_store) := ⟨rfl, rfl, rfl, by decide +kernel, rfl, by decide +kernel, by decide +kernel⟩
def g_new_store : List Sl → Option Out := sSeq (sSet 2 (fTup (aCons (fCon (.int 2)) (aCons (fCon (.int 0)) (aCons (fCon (.int 0)) (aCons (fCon (.int 0)) (aCons (fCon (.int 0)) (aCons (fCon (.int 0)) (aCons (fCon (.int 0)) (aNil)))))))))) (sSeq (sSet 3 (f2 addA (fTup (aCons (fCon (.int 2)) (aCons (fCon (.int 0)) (aCons (fCon (.int 0)) (aCons (fCon (.int 0)) (aNil)))))) (fCon (.tuple [.int 1, .int 2, .int 3])))) (sSeq (sSet 4 (f2 mulA (fTup (aCons (fCon (.int 0)) (aNil))) (f2 mulA (fCon (.int 7)) (f2 subD (fVar 0) (fCon (.int 2)))))) (sSeq (sSet 5 (f2 addA (f2 mulA (fTup (aCons (fCon (.int 1)) (aNil))) (fA (g1 lenD) (aCons (fCon (.tuple [.int 1, .int 2, .int 3])) (aNil)))) (f2 mulA (fTup (aCons (fCon (.int 0)) (aNil))) (f2 subD (fVar 1) (fA (g1 lenD) (aCons (fCon (.tuple [.int 1, .int 2, .int 3])) (aNil))))))) (sSeq (sRet (fTup (aCons (fVar 0) (aCons (fVar 1) (aCons (f2 addA (f2 addA (f2 addA (f2 addA (fVar 2) (fVar 3)) (fVar 4)) (fVar 5)) (f2 mulA (fTup (aCons (fCon (.int 0)) (aNil))) (f2 addA (f2 mulA (fCon (.int 4)) (fVar 1)) (fCon (.int 82))))) (aNil)))))) (sNil)))))
def φ_new_store : List Sl → Option (D × List Sl) := fnF [false, false] 6 false g_new_store
theorem ok_new_store (T : Txt K mg)  {f : Addr} {fd : FuncData} (Fu : Fun K "new_store" "new_store" s_new_store f fd) (m : mg "new_store" = some (.ref f)) : GK P w K mg base "new_store" 1 2 false φ_new_store := by
  refine ⟨f, fd, ["heads", "blocks"], fn_ok Fu sc_new_store rfl (fun cd A out s G E hG hr => ?_), rfl, m, Fu.kp, Fu.binds fun _ _ _ _ _ _ us hl => match us, hl with | [_, _], _ => rfl⟩
  have S := sc_new_store; have h1 := hu1 hr; have h65 := hu65 hr; have h66 := hu66 hr; have h67 := hu67 hr
  exact bv_cons (sv_set rfl (tgk 2 S.nd) (ev_tup (av_cons (ev_int) (av_cons (ev_int) (av_cons (ev_int) (av_cons (ev_int) (av_cons (ev_int) (av_cons (ev_int) (av_cons (ev_int) (av_nil)))))))))) (bv_cons (sv_set rfl (tgk 3 S.nd) (ev_op op_add4 os_addA (ev_tup (av_cons (ev_int) (av_cons (ev_int) (av_cons (ev_int) (av_cons (ev_int) (av_nil)))))) (ev_g T.c_FIRST_BLOCKS))) (bv_cons (sv_set rfl (tgk 4 S.nd) (ev_op op_mul4 os_mulA (ev_tup (av_cons (ev_int) (av_nil))) (ev_op op_mul4 os_mulA (ev_g T.c_HEAD_CELLS) (ev_op op_sub os_sub (ev_v 0) (ev_int))))) (bv_cons (sv_set rfl (tgk 5 S.nd) (ev_op op_add4 os_addA (ev_op op_mul4 os_mulA (ev_tup (av_cons (ev_int) (av_nil))) (ev_callB (bnk T.m_len) cr_len cs_len (av_cons (ev_g T.c_FIRST_BLOCKS) (av_nil)))) (ev_op op_mul4 os_mulA (ev_tup (av_cons (ev_int) (av_nil))) (ev_op op_sub os_sub (ev_v 1) (ev_callB (bnk T.m_len) cr_len cs_len (av_cons (ev_g T.c_FIRST_BLOCKS) (av_nil))))))) (bv_cons (sv_ret (ev_tup (av_cons (ev_v 0) (av_cons (ev_v 1) (av_cons (ev_op op_add4 os_addA (ev_op op_add4 os_addA (ev_op op_add4 os_addA (ev_op op_add4 os_addA (ev_v 2) (ev_v 3)) (ev_v 4)) (ev_v 5)) (ev_op op_mul4 os_mulA (ev_tup (av_cons (ev_int) (av_nil))) (ev_op op_add4 os_addA (ev_op op_mul4 os_mulA (ev_g T.c_BLOCK_CELLS) (ev_v 1)) (ev_g T.c_LOG_CELLS)))) (av_nil)))))) (bv_nil)))))
/-! map_first -/
abbrev s_map_first : Stmt := top 19
theorem sc_map_first : FnScope ["heads"] ["heads"] (defScope s_map_first) := ⟨rfl, rfl, rfl, by decide +kernel, rfl, by decide +kernel, by decide +kernel⟩
def g_map_first : List Sl → Option Out := sSeq (sRet (f2 mulA (fCon (.int 7)) (fVar 0))) (sNil)
def φ_map_first : List Sl → Option (D × List Sl) := fnF [false] 1 false g_map_first
theorem ok_map_first (T : Txt K mg)  {f : Addr} {fd : FuncData} (Fu : Fun K "map_first" "map_first" s_map_first f fd) (m : mg "map_first" = some (.ref f)) : GK P w K mg base "map_first" 1 1 false φ_map_first := by
  refine ⟨f, fd, ["heads"], fn_ok Fu sc_map_first rfl (fun cd A out s G E hG hr => ?_), rfl, m, Fu.kp, Fu.binds fun _ _ _ _ _ _ us hl => match us, hl with | [_], _ => rfl⟩
  have S := sc_map_first; have h1 := hu1 hr; have h65 := hu65 hr; have h66 := hu66 hr; have h67 := hu67 hr
  exact bv_cons (sv_ret (ev_op op_mul4 os_mulA (ev_g T.c_HEAD_CELLS) (ev_v 0))) (bv_nil)
/-! block_first -/
abbrev s_block_first : Stmt := top 20
theorem sc_block_first : FnScope ["heads", "blocks"] ["heads", "blocks"] (defScope s_block_first) := ⟨rfl, rfl, rfl, by decide +kernel, rfl, by decide +kernel, by decide +kernel⟩
def g_block_first : List Sl → Option Out := sSeq (sRet (f2 addA (callF [] true φ_map_first (kCons (fVar 0) (kNil))) (fVar 1))) (sNil)
def φ_block_first : List Sl → Option (D × List Sl) := fnF [false, false] 2 false g_block_first
theorem ok_block_first (T : Txt K mg) (k_map_first : GK P w K mg base "map_first" 1 1 false φ_map_first) {f : Addr} {fd : FuncData} (Fu : Fun K "block_first" "block_first" s_block_first f fd) (m : mg "block_first" = some (.ref f)) : GK P w K mg base "block_first" 2 2 false φ_block_first := by
  refine ⟨f, fd, ["heads", "blocks"], fn_ok Fu sc_block_first rfl (fun cd A out s G E hG hr => ?_), rfl, m, Fu.kp, Fu.binds fun _ _ _ _ _ _ us hl => match us, hl with | [_, _], _ => rfl⟩
  have S := sc_block_first; have h1 := hu1 hr; have h65 := hu65 hr; have h66 := hu66 hr; have h67 := hu67 hr
  exact bv_cons (sv_ret (ev_op op_add4 os_addA (ev_fn (k_map_first.kn hr hG) (kn_cons (ev_v 0) (kn_nil))) (ev_v 1))) (bv_nil)
/-! log_first -/
abbrev s_log_first : Stmt := top 21
theorem sc_log_first : FnScope ["heads", "blocks"] ["heads", "blocks"] (defScope s_log_first) := ⟨rfl, rfl, rfl, by decide +kernel, rfl, by decide +kernel, by decide +kernel⟩
def g_log_first : List Sl → Option Out := sSeq (sRet (f2 addA (callF [] true φ_block_first (kCons (fVar 0) (kCons (fVar 1) (kNil)))) (f2 mulA (fCon (.int 4)) (fVar 1)))) (sNil)
def φ_log_first : List Sl → Option (D × List Sl) := fnF [false, false] 2 false g_log_first
theorem ok_log_first (T : Txt K mg) (k_block_first : GK P w K mg base "block_first" 2 2 false φ_block_first) {f : Addr} {fd : FuncData} (Fu : Fun K "log_first" "log_first" s_log_first f fd) (m : mg "log_first" = some (.ref f)) : GK P w K mg base "log_first" 3 2 false φ_log_first := by
  refine ⟨f, fd, ["heads", "blocks"], fn_ok Fu sc_log_first rfl (fun cd A out s G E hG hr => ?_), rfl, m, Fu.kp, Fu.binds fun _ _ _ _ _ _ us hl => match us, hl with | [_, _], _ => rfl⟩
  have S := sc_log_first; have h1 := hu1 hr; have h65 := hu65 hr; have h66 := hu66 hr; have h67 := hu67 hr
  exact bv_cons (sv_ret (ev_op op_add4 os_addA (ev_fn (k_block_first.kn hr hG) (kn_cons (ev_v 0) (kn_cons (ev_v 1) (kn_nil)))) (ev_op op_mul4 os_mulA (ev_g T.c_BLOCK_CELLS) (ev_v 1)))) (bv_nil)
/-! place_of -/
abbrev s_place_of : Stmt := top 22
theorem sc_place_of : FnScope ["heads", "blocks", "what", "word"] ["heads", "blocks", "what"] (defScope s_place_of) := ⟨rfl, rfl, rfl, by decide +kernel, rfl, by decide +kernel, by decide +kernel⟩
def g_place_of : List Sl → Option Out := sSeq (sSet 3 (f2 idxD (fVar 2) (fCon (.int 0)))) (sSeq (sIf (fun δ => toB (f2 (bD inD) (fVar 3) (fCon (.tuple [.str "kind", .str "count", .str "length", .str "sum"])) δ)) (sSeq (sRet (f2 addA (f2 mulA (fCon (.int 7)) (f2 subD (f2 idxD (fVar 2) (fCon (.int 1))) (fCon (.int 1)))) (f1 (tixD (.tuple [.str "kind", .str "count", .str "length", .str "sum"])) (fVar 3)))) (sNil)) (sNil)) (sSeq (sIf (fun δ => toB (f2 (bD eqD) (fVar 3) (fCon (.str "slot")) δ)) (sSeq (sRet (f2 addA (f2 addA (f2 mulA (fCon (.int 7)) (f2 subD (f2 idxD (fVar 2) (fCon (.int 1))) (fCon (.int 1)))) (fA (g1 lenD) (aCons (fCon (.tuple [.str "kind", .str "count", .str "length", .str "sum"])) (aNil)))) (f2 idxD (fVar 2) (fCon (.int 2))))) (sNil)) (sNil)) (sSeq (sIf (fun δ => toB (f2 (bD eqD) (fVar 3) (fCon (.str "map")) δ)) (sSeq (sRet (f2 subD (f2 addA (callF [] true φ_map_first (kCons (fVar 0) (kNil))) (f2 idxD (fVar 2) (fCon (.int 1)))) (fCon (.int 1)))) (sNil)) (sNil)) (sSeq (sIf (fun δ => toB (f2 (bD eqD) (fVar 3) (fCon (.str "cell")) δ)) (sSeq (sRet (f2 addA (f2 addA (callF [] true φ_block_first (kCons (fVar 0) (kCons (fVar 1) (kNil)))) (f2 mulA (fCon (.int 4)) (f2 subD (f2 idxD (fVar 2) (fCon (.int 1))) (fCon (.int 1))))) (f2 idxD (fVar 2) (fCon (.int 2))))) (sNil)) (sNil)) (sSeq (sIf (fun δ => toB (f2 (bD inD) (fVar 3) (fCon (.tuple [.str "mark", .str "seal"])) δ)) (sSeq (sRet (f2 addA (callF [] true φ_log_first (kCons (fVar 0) (kCons (fVar 1) (kNil)))) (f1 (tixD (.tuple [.str "mark", .str "seal"])) (fVar 3)))) (sNil)) (sNil)) (sSeq (sRet (f2 addA (f2 addA (f2 addA (callF [] true φ_log_first (kCons (fVar 0) (kCons (fVar 1) (kNil)))) (fA (g1 lenD) (aCons (fCon (.tuple [.str "mark", .str "seal"])) (aNil)))) (f2 mulA (fCon (.int 2)) (f2 idxD (fVar 2) (fCon (.int 1))))) (f1 (tixD (.tuple [.str "place", .str "worth"])) (fVar 3)))) (sNil)))))))
def φ_place_of : List Sl → Option (D × List Sl) := fnF [false, false, false] 4 false g_place_of
theorem ok_place_of (T : Txt K mg) (k_block_first : GK P w K mg base "block_first" 2 2 false φ_block_first) (k_log_first : GK P w K mg base "log_first" 3 2 false φ_log_first) (k_map_first : GK P w K mg base "map_first" 1 1 false φ_map_first) {f : Addr} {fd : FuncData} (Fu : Fun K "place_of" "place_of" s_place_of f fd) (m : mg "place_of" = some (.ref f)) : GK P w K mg base "place_of" 4 3 false φ_place_of := by
  refine ⟨f, fd, ["heads", "blocks", "what"], fn_ok Fu sc_place_of rfl (fun cd A out s G E hG hr => ?_), rfl, m, Fu.kp, Fu.binds fun _ _ _ _ _ _ us hl => match us, hl with | [_, _, _], _ => rfl⟩
  have S := sc_place_of; have h1 := hu1 hr; have h65 := hu65 hr; have h66 := hu66 hr; have h67 := hu67 hr
  exact bv_cons (sv_set rfl (tgk 3 S.nd) (ev_idx h1 (ev_v 2) (ev_int))) (bv_cons (sv_if (tv_cmp (cd_in h65).op os_cmp (ev_v 3) (ev_g T.c_HEAD_PARTS)) (bv_cons (sv_ret (ev_op op_add4 os_addA (ev_op op_mul4 os_mulA (ev_g T.c_HEAD_CELLS) (ev_op op_sub os_sub (ev_idx h1 (ev_v 2) (ev_int)) (ev_int))) (ev_ti T.t_HEAD_PARTS (ev_v 3)))) (bv_nil)) (bv_nil)) (bv_cons (sv_if (tv_cmp (cd_eq h65).op os_cmp (ev_v 3) (ev_str)) (bv_cons (sv_ret (ev_op op_add4 os_addA (ev_op op_add4 os_addA (ev_op op_mul4 os_mulA (ev_g T.c_HEAD_CELLS) (ev_op op_sub os_sub (ev_idx h1 (ev_v 2) (ev_int)) (ev_int))) (ev_callB (bnk T.m_len) cr_len cs_len (av_cons (ev_g T.c_HEAD_PARTS) (av_nil)))) (ev_idx h1 (ev_v 2) (ev_int)))) (bv_nil)) (bv_nil)) (bv_cons (sv_if (tv_cmp (cd_eq h65).op os_cmp (ev_v 3) (ev_str)) (bv_cons (sv_ret (ev_op op_sub os_sub (ev_op op_add4 os_addA (ev_fn (k_map_first.kn hr hG) (kn_cons (ev_v 0) (kn_nil))) (ev_idx h1 (ev_v 2) (ev_int))) (ev_int))) (bv_nil)) (bv_nil)) (bv_cons (sv_if (tv_cmp (cd_eq h65).op os_cmp (ev_v 3) (ev_str)) (bv_cons (sv_ret (ev_op op_add4 os_addA (ev_op op_add4 os_addA (ev_fn (k_block_first.kn hr hG) (kn_cons (ev_v 0) (kn_cons (ev_v 1) (kn_nil)))) (ev_op op_mul4 os_mulA (ev_g T.c_BLOCK_CELLS) (ev_op op_sub os_sub (ev_idx h1 (ev_v 2) (ev_int)) (ev_int)))) (ev_idx h1 (ev_v 2) (ev_int)))) (bv_nil)) (bv_nil)) (bv_cons (sv_if (tv_cmp (cd_in h65).op os_cmp (ev_v 3) (ev_g T.c_LOG_HEAD)) (bv_cons (sv_ret (ev_op op_add4 os_addA (ev_fn (k_log_first.kn hr hG) (kn_cons (ev_v 0) (kn_cons (ev_v 1) (kn_nil)))) (ev_ti T.t_LOG_HEAD (ev_v 3)))) (bv_nil)) (bv_nil)) (bv_cons (sv_ret (ev_op op_add4 os_addA (ev_op op_add4 os_addA (ev_op op_add4 os_addA (ev_fn (k_log_first.kn hr hG) (kn_cons (ev_v 0) (kn_cons (ev_v 1) (kn_nil)))) (ev_callB (bnk T.m_len) cr_len cs_len (av_cons (ev_g T.c_LOG_HEAD) (av_nil)))) (ev_op op_mul4 os_mulA (ev_int) (ev_idx h1 (ev_v 2) (ev_int)))) (ev_ti T.t_PAIR_PARTS (ev_v 3)))) (bv_nil)))))))
/-! head_cell -/
abbrev s_head_cell : Stmt := top 23
theorem sc_head_cell : FnScope ["number", "head", "part"] ["number"] (defScope s_head_cell) := ⟨rfl, rfl, rfl, by decide +kernel, rfl, by decide +kernel, by decide +kernel⟩
def g_head_cell : List Sl → Option Out := sSeq (sPar2 1 2 (aCons (f2 addA (fCon (.int 1)) (f2 fdivD (fVar 0) (fCon (.int 7)))) (aCons (f2 modD (fVar 0) (fCon (.int 7))) (aNil)))) (sSeq (sIf (fun δ => toB (f2 (bD ltD) (fVar 2) (fA (g1 lenD) (aCons (fCon (.tuple [.str "kind", .str "count", .str "length", .str "sum"])) (aNil))) δ)) (sSeq (sRet (fTup (aCons (f2 idxD (fCon (.tuple [.str "kind", .str "count", .str "length", .str "sum"])) (fVar 2)) (aCons (fVar 1) (aNil))))) (sNil)) (sNil)) (sSeq (sRet (fTup (aCons (fCon (.str "slot")) (aCons (fVar 1) (aCons (f2 subD (fVar 2) (fA (g1 lenD) (aCons (fCon (.tuple [.str "kind", .str "count", .str "length", .str "sum"])) (aNil)))) (aNil)))))) (sNil)))
def φ_head_cell : List Sl → Option (D × List Sl) := fnF [false] 3 false g_head_cell
theorem ok_head_cell (T : Txt K mg)  {f : Addr} {fd : FuncData} (Fu : Fun K "head_cell" "head_cell" s_head_cell f fd) (m : mg "head_cell" = some (.ref f)) : GK P w K mg base "head_cell" 1 1 false φ_head_cell := by
  refine ⟨f, fd, ["number"], fn_ok Fu sc_head_cell rfl (fun cd A out s G E hG hr => ?_), rfl, m, Fu.kp, Fu.binds fun _ _ _ _ _ _ us hl => match us, hl with | [_], _ => rfl⟩
  have S := sc_head_cell; have h1 := hu1 hr; have h65 := hu65 hr; have h66 := hu66 hr; have h67 := hu67 hr
  exact bv_cons (sv_par2 rfl rfl rfl (tgk 1 S.nd) (tgk 2 S.nd) (by decide) rfl rfl (av_cons (ev_op op_add4 os_addA (ev_int) (ev_op op_fdiv os_fdiv (ev_v 0) (ev_g T.c_HEAD_CELLS))) (av_cons (ev_op op_mod os_mod (ev_v 0) (ev_g T.c_HEAD_CELLS)) (av_nil)))) (bv_cons (sv_if (tv_cmp (cd_lt h65).op os_cmp (ev_v 2) (ev_callB (bnk T.m_len) cr_len cs_len (av_cons (ev_g T.c_HEAD_PARTS) (av_nil)))) (bv_cons (sv_ret (ev_tup (av_cons (ev_idx h1 (ev_g T.c_HEAD_PARTS) (ev_v 2)) (av_cons (ev_v 1) (av_nil))))) (bv_nil)) (bv_nil)) (bv_cons (sv_ret (ev_tup (av_cons (ev_str) (av_cons (ev_v 1) (av_cons (ev_op op_sub os_sub (ev_v 2) (ev_callB (bnk T.m_len) cr_len cs_len (av_cons (ev_g T.c_HEAD_PARTS) (av_nil)))) (av_nil)))))) (bv_nil)))
/-! log_cell -/
abbrev s_log_cell : Stmt := top 24
theorem sc_log_cell : FnScope ["number", "behind"] ["number"] (defScope s_log_cell) := ⟨rfl, rfl, rfl, by decide +kernel, rfl, by decide +kernel, by decide +kernel⟩
def g_log_cell : List Sl → Option Out := sSeq (sIf (fun δ => toB (f2 (bD ltD) (fVar 0) (fA (g1 lenD) (aCons (fCon (.tuple [.str "mark", .str "seal"])) (aNil))) δ)) (sSeq (sRet (fTup (aCons (f2 idxD (fCon (.tuple [.str "mark", .str "seal"])) (fVar 0)) (aNil)))) (sNil)) (sNil)) (sSeq (sSet 1 (f2 subD (fVar 0) (fA (g1 lenD) (aCons (fCon (.tuple [.str "mark", .str "seal"])) (aNil))))) (sSeq (sRet (fTup (aCons (f2 idxD (fCon (.tuple [.str "place", .str "worth"])) (f2 modD (fVar 1) (fCon (.int 2)))) (aCons (f2 fdivD (fVar 1) (fCon (.int 2))) (aNil))))) (sNil)))
def φ_log_cell : List Sl → Option (D × List Sl) := fnF [false] 2 false g_log_cell
theorem ok_log_cell (T : Txt K mg)  {f : Addr} {fd : FuncData} (Fu : Fun K "log_cell" "log_cell" s_log_cell f fd) (m : mg "log_cell" = some (.ref f)) : GK P w K mg base "log_cell" 1 1 false φ_log_cell := by
  refine ⟨f, fd, ["number"], fn_ok Fu sc_log_cell rfl (fun cd A out s G E hG hr => ?_), rfl, m, Fu.kp, Fu.binds fun _ _ _ _ _ _ us hl => match us, hl with | [_], _ => rfl⟩
  have S := sc_log_cell; have h1 := hu1 hr; have h65 := hu65 hr; have h66 := hu66 hr; have h67 := hu67 hr
  exact bv_cons (sv_if (tv_cmp (cd_lt h65).op os_cmp (ev_v 0) (ev_callB (bnk T.m_len) cr_len cs_len (av_cons (ev_g T.c_LOG_HEAD) (av_nil)))) (bv_cons (sv_ret (ev_tup (av_cons (ev_idx h1 (ev_g T.c_LOG_HEAD) (ev_v 0)) (av_nil)))) (bv_nil)) (bv_nil)) (bv_cons (sv_set rfl (tgk 1 S.nd) (ev_op op_sub os_sub (ev_v 0) (ev_callB (bnk T.m_len) cr_len cs_len (av_cons (ev_g T.c_LOG_HEAD) (av_nil))))) (bv_cons (sv_ret (ev_tup (av_cons (ev_idx h1 (ev_g T.c_PAIR_PARTS) (ev_op op_mod os_mod (ev_v 1) (ev_int))) (av_cons (ev_op op_fdiv os_fdiv (ev_v 1) (ev_int)) (av_nil))))) (bv_nil)))
/-! what_is -/
abbrev s_what_is : Stmt := top 25
theorem sc_what_is : FnScope ["heads", "blocks", "place", "number"] ["heads", "blocks", "place"] (defScope s_what_is) := ⟨rfl, rfl, rfl, by decide +kernel, rfl, by decide +kernel, by decide +kernel⟩
def g_what_is : List Sl → Option Out := sSeq (sIf (fun δ => toB (f2 (bD ltD) (fVar 2) (callF [] true φ_map_first (kCons (fVar 0) (kNil))) δ)) (sSeq (sRet (callF [] true φ_head_cell (kCons (fVar 2) (kNil)))) (sNil)) (sNil)) (sSeq (sIf (fun δ => toB (f2 (bD ltD) (fVar 2) (callF [] true φ_block_first (kCons (fVar 0) (kCons (fVar 1) (kNil)))) δ)) (sSeq (sRet (fTup (aCons (fCon (.str "map")) (aCons (f2 subD (f2 addA (fCon (.int 1)) (fVar 2)) (callF [] true φ_map_first (kCons (fVar 0) (kNil)))) (aNil))))) (sNil)) (sNil)) (sSeq (sIf (fun δ => toB (f2 (bD ltD) (fVar 2) (callF [] true φ_log_first (kCons (fVar 0) (kCons (fVar 1) (kNil)))) δ)) (sSeq (sSet 3 (f2 subD (fVar 2) (callF [] true φ_block_first (kCons (fVar 0) (kCons (fVar 1) (kNil)))))) (sSeq (sRet (fTup (aCons (fCon (.str "cell")) (aCons (f2 addA (fCon (.int 1)) (f2 fdivD (fVar 3) (fCon (.int 4)))) (aCons (f2 modD (fVar 3) (fCon (.int 4))) (aNil)))))) (sNil))) (sNil)) (sSeq (sRet (callF [] true φ_log_cell (kCons (f2 subD (fVar 2) (callF [] true φ_log_first (kCons (fVar 0) (kCons (fVar 1) (kNil))))) (kNil)))) (sNil))))
def φ_what_is : List Sl → Option (D × List Sl) := fnF [false, false, false] 4 false g_what_is
theorem ok_what_is (T : Txt K mg) (k_block_first : GK P w K mg base "block_first" 2 2 false φ_block_first) (k_head_cell : GK P w K mg base "head_cell" 1 1 false φ_head_cell) (k_log_cell : GK P w K mg base "log_cell" 1 1 false φ_log_cell) (k_log_first : GK P w K mg base "log_first" 3 2 false φ_log_first) (k_map_first : GK P w K mg base "map_first" 1 1 false φ_map_first) {f : Addr} {fd : FuncData} (Fu : Fun K "what_is" "what_is" s_what_is f fd) (m : mg "what_is" = some (.ref f)) : GK P w K mg base "what_is" 4 3 false φ_what_is := by
  refine ⟨f, fd, ["heads", "blocks", "place"], fn_ok Fu sc_what_is rfl (fun cd A out s G E hG hr => ?_), rfl, m, Fu.kp, Fu.binds fun _ _ _ _ _ _ us hl => match us, hl with | [_, _, _], _ => rfl⟩
  have S := sc_what_is; have h1 := hu1 hr; have h65 := hu65 hr; have h66 := hu66 hr; have h67 := hu67 hr
  exact bv_cons (sv_if (tv_cmp (cd_lt h65).op os_cmp (ev_v 2) (ev_fn (k_map_first.kn hr hG) (kn_cons (ev_v 0) (kn_nil)))) (bv_cons (sv_ret (ev_fn (k_head_cell.kn hr hG) (kn_cons (ev_v 2) (kn_nil)))) (bv_nil)) (bv_nil)) (bv_cons (sv_if (tv_cmp (cd_lt h65).op os_cmp (ev_v 2) (ev_fn (k_block_first.kn hr hG) (kn_cons (ev_v 0) (kn_cons (ev_v 1) (kn_nil))))) (bv_cons (sv_ret (ev_tup (av_cons (ev_str) (av_cons (ev_op op_sub os_sub (ev_op op_add4 os_addA (ev_int) (ev_v 2)) (ev_fn (k_map_first.kn hr hG) (kn_cons (ev_v 0) (kn_nil)))) (av_nil))))) (bv_nil)) (bv_nil)) (bv_cons (sv_if (tv_cmp (cd_lt h65).op os_cmp (ev_v 2) (ev_fn (k_log_first.kn hr hG) (kn_cons (ev_v 0) (kn_cons (ev_v 1) (kn_nil))))) (bv_cons (sv_set rfl (tgk 3 S.nd) (ev_op op_sub os_sub (ev_v 2) (ev_fn (k_block_first.kn hr hG) (kn_cons (ev_v 0) (kn_cons (ev_v 1) (kn_nil)))))) (bv_cons (sv_ret (ev_tup (av_cons (ev_str) (av_cons (ev_op op_add4 os_addA (ev_int) (ev_op op_fdiv os_fdiv (ev_v 3) (ev_g T.c_BLOCK_CELLS))) (av_cons (ev_op op_mod os_mod (ev_v 3) (ev_g T.c_BLOCK_CELLS)) (av_nil)))))) (bv_nil))) (bv_nil)) (bv_cons (sv_ret (ev_fn (k_log_cell.kn hr hG) (kn_cons (ev_op op_sub os_sub (ev_v 2) (ev_fn (k_log_first.kn hr hG) (kn_cons (ev_v 0) (kn_cons (ev_v 1) (kn_nil))))) (kn_nil)))) (bv_nil))))
/-! _law_deck -/
abbrev s__law_deck : Stmt := top 27
theorem sc__law_deck : FnScope ["_law_script", "_law_cells"] ["_law_script"] (defScope s__law_deck) := ⟨rfl, rfl, rfl, by decide +kernel, rfl, by decide +kernel, by decide +kernel⟩
theorem ok__law_deck (T : Txt K mg) {f : Addr} {fd : FuncData} (Fu : Fun K "_law_deck" "_law_deck" s__law_deck f fd) (m : mg "_law_deck" = some (.ref f)) : GKD P w K mg base "_law_deck" 1 := by
  refine ⟨f, fd, ["_law_script"], deck_ok (f1 := f2 addA (f2 modD (fA (g1 sumD) (aCons (fRd 1) (aNil))) (fCon (.int 2147483629))) (f2 mulA (fCon (.int 48271)) (fA (g1 lenD) (aCons (fRd 1) (aNil))))) Fu sc__law_deck rfl (fun ns => ?_) (fun cd A out s G E hG hr => ?_), m, Fu.kp, Fu.binds fun _ _ _ _ _ _ us hl => match us, hl with | [_], _ => rfl⟩
  · exact deck_f1 ns
  · have S := sc__law_deck; have h1 := hu1 hr; have h65 := hu65 hr
    exact ⟨sv_own rfl (tgk 1 S.nd) (nv_revScr rfl rfl T.m_list rfl T.m_reversed (nmk 0) rfl rfl), cv_io (nmk 1) (cv_cons (ev_op op_add4 os_addA (ev_op op_mod os_mod (ev_callB (bnk T.m_sum) (cr_sumL rfl) cs_sum (av_cons (ev_rd 1) (av_nil))) (ev_int)) (ev_op op_mul4 os_mulA (ev_int) (ev_callB (bnk T.m_len) cr_len cs_len (av_cons (ev_rd 1) (av_nil))))) (cv_cons ev_int cv_nil))⟩
/-! _law_draw -/
abbrev s__law_draw : Stmt := top 28
theorem sc__law_draw : FnScope ["_law_deck_here", "_law_most", "_law_cell", "_law_number"] ["_law_deck_here", "_law_most"] (defScope s__law_draw) := ⟨rfl, rfl, rfl, by decide +kernel, rfl, by decide +kernel, by decide +kernel⟩
def g__law_draw : List Sl → Option Out := sSeq (sDkN 0 (f2 addA (fDkN 0) (fCon (.int 1)))) (sSeq (sSet 2 (fIte (gDkE 0) (fDkM 0) (fDkPop 0))) (sSeq (sIf (fun δ => toB (f2 (bD geD) (fVar 2) (f2 powD (fCon (.int 10)) (fCon (.int 18))) δ)) (sSeq (sExp (fDkPush 0 (f2 fdivD (fVar 2) (fVar 1)))) (sSeq (sRet (f2 modD (fVar 2) (fVar 1))) (sNil))) (sNil)) (sSeq (sSet 3 (f2 modD (f2 mulA (f2 addA (f2 addA (f2 modD (fVar 2) (fCon (.int 2147483629))) (f2 mulA (fCon (.int 104729)) (fDkN 0))) (fCon (.int 1))) (fCon (.int 48271))) (fCon (.int 2147483647)))) (sSeq (sSet 3 (f2 modD (f2 addA (f2 addA (f2 mulA (fVar 3) (fVar 3)) (f2 mulA (fCon (.int 69621)) (fDkN 0))) (fCon (.int 7))) (fCon (.int 2147483587)))) (sSeq (sRet (f2 modD (f2 fdivD (f2 modD (f2 mulA (fVar 3) (f2 addA (f2 fdivD (fVar 3) (fCon (.int 3))) (fCon (.int 39373)))) (fCon (.int 2305843009213693951))) (fCon (.int 128))) (fVar 1))) (sNil))))))
def φ__law_draw : List Sl → Option (D × List Sl) := fnF [true, false] 4 false g__law_draw
theorem ok__law_draw (T : Txt K mg)  {f : Addr} {fd : FuncData} (Fu : Fun K "_law_draw" "_law_draw" s__law_draw f fd) (m : mg "_law_draw" = some (.ref f)) : GK P w K mg base "_law_draw" 1 2 false φ__law_draw := by
  refine ⟨f, fd, ["_law_deck_here", "_law_most"], fn_ok Fu sc__law_draw rfl (fun cd A out s G E hG hr => ?_), rfl, m, Fu.kp, Fu.binds fun _ _ _ _ _ _ us hl => match us, hl with | [_, _], _ => rfl⟩
  have S := sc__law_draw; have h1 := hu1 hr; have h65 := hu65 hr; have h66 := hu66 hr; have h67 := hu67 hr
  exact bv_cons (sv_dkN h1 (nmk 0) (ev_op op_add4 os_addA (ev_dkN h1 (nmk 0)) (ev_int)) ⟨rfl, rfl, rfl, fun _ => rfl⟩) (bv_cons (sv_set rfl (tgk 2 S.nd) (ev_ite (tv_dkE h65 (nmk 0)) (ev_dkM h1 (nmk 0)) (ev_dkPop h1 (nmk 0) (by intro _ _; rfl) ⟨rfl, rfl⟩))) (bv_cons (sv_if (tv_cmp cd_ge.op os_cmp (ev_v 2) (ev_op op_pow os_pow (ev_int) (ev_int))) (bv_cons (sv_exp (ev_dkPush h1 (nmk 0) (by intro _ _; rfl) (ev_op op_fdiv os_fdiv (ev_v 2) (ev_v 1)) ⟨rfl, rfl, rfl, rfl, rfl⟩)) (bv_cons (sv_ret (ev_op op_mod os_mod (ev_v 2) (ev_v 1))) (bv_nil))) (bv_nil)) (bv_cons (sv_set rfl (tgk 3 S.nd) (ev_op op_mod os_mod (ev_op op_mul4 os_mulA (ev_op op_add4 os_addA (ev_op op_add4 os_addA (ev_op op_mod os_mod (ev_v 2) (ev_int)) (ev_op op_mul4 os_mulA (ev_int) (ev_dkN h1 (nmk 0)))) (ev_int)) (ev_int)) (ev_int))) (bv_cons (sv_set rfl (tgk 3 S.nd) (ev_op op_mod os_mod (ev_op op_add4 os_addA (ev_op op_add4 os_addA (ev_op op_mul4 os_mulA (ev_v 3) (ev_v 3)) (ev_op op_mul4 os_mulA (ev_int) (ev_dkN h1 (nmk 0)))) (ev_int)) (ev_int))) (bv_cons (sv_ret (ev_op op_mod os_mod (ev_op op_fdiv os_fdiv (ev_op op_mod os_mod (ev_op op_mul4 os_mulA (ev_v 3) (ev_op op_add4 os_addA (ev_op op_fdiv os_fdiv (ev_v 3) (ev_int)) (ev_int))) (ev_int)) (ev_int)) (ev_v 1))) (bv_nil))))))
/-! _law_laid_out -/
abbrev s__law_laid_out : Stmt := top 30
theorem sc__law_laid_out : FnScope ["_law_heads", "_law_blocks", "_law_found", "_law_h", "_law_b", "_law_k", "_law_i"] ["_law_heads", "_law_blocks"] (defScope s__law_laid_out) := ⟨rfl, rfl, rfl, by decide +kernel, rfl, by decide +kernel, by decide +kernel⟩
def g__law_laid_out : List Sl → Option Out := sSeq (sOwn 2 (fLst (aNil))) (sSeq (sFor (.nm 3) (fRng (aCons (fCon (.int 1)) (aCons (f2 addA (fVar 0) (fCon (.int 1))) (aNil)))) (sSeq (sExp (fExt 2 (fLst (aCons (fTup (aCons (fCon (.str "kind")) (aCons (fVar 3) (aNil)))) (aCons (fTup (aCons (fCon (.str "count")) (aCons (fVar 3) (aNil)))) (aCons (fTup (aCons (fCon (.str "length")) (aCons (fVar 3) (aNil)))) (aCons (fTup (aCons (fCon (.str "sum")) (aCons (fVar 3) (aNil)))) (aCons (fTup (aCons (fCon (.str "slot")) (aCons (fVar 3) (aCons (fCon (.int 0)) (aNil))))) (aCons (fTup (aCons (fCon (.str "slot")) (aCons (fVar 3) (aCons (fCon (.int 1)) (aNil))))) (aCons (fTup (aCons (fCon (.str "slot")) (aCons (fVar 3) (aCons (fCon (.int 2)) (aNil))))) (aNil))))))))))) (sNil))) (sSeq (sExp (fExt 2 (fLc (.nm 4) [4] (fRng (aCons (fCon (.int 1)) (aCons (f2 addA (fVar 1) (fCon (.int 1))) (aNil)))) (cYes) (fTup (aCons (fCon (.str "map")) (aCons (fVar 4) (aNil))))))) (sSeq (sFor (.nm 4) (fRng (aCons (fCon (.int 1)) (aCons (f2 addA (fVar 1) (fCon (.int 1))) (aNil)))) (sSeq (sExp (fExt 2 (fLc (.nm 5) [5] (fRng (aCons (fCon (.int 4)) (aNil))) (cYes) (fTup (aCons (fCon (.str "cell")) (aCons (fVar 4) (aCons (fVar 5) (aNil)))))))) (sNil))) (sSeq (sExp (fExt 2 (fLst (aCons (fTup (aCons (fCon (.str "mark")) (aNil))) (aCons (fTup (aCons (fCon (.str "seal")) (aNil))) (aNil)))))) (sSeq (sFor (.nm 6) (fRng (aCons (fCon (.int 40)) (aNil))) (sSeq (sExp (fExt 2 (fLst (aCons (fTup (aCons (fCon (.str "place")) (aCons (fVar 6) (aNil)))) (aCons (fTup (aCons (fCon (.str "worth")) (aCons (fVar 6) (aNil)))) (aNil)))))) (sNil))) (sSeq (sRetV 2) (sNil)))))))
def φ__law_laid_out : List Sl → Option (D × List Sl) := fnF [false, false] 7 true g__law_laid_out
theorem ok__law_laid_out (T : Txt K mg)  {f : Addr} {fd : FuncData} (Fu : Fun K "_law_laid_out" "_law_laid_out" s__law_laid_out f fd) (m : mg "_law_laid_out" = some (.ref f)) : GK P w K mg base "_law_laid_out" 1 2 true φ__law_laid_out := by
  refine ⟨f, fd, ["_law_heads", "_law_blocks"], fn_ok Fu sc__law_laid_out rfl (fun cd A out s G E hG hr => ?_), rfl, m, Fu.kp, Fu.binds fun _ _ _ _ _ _ us hl => match us, hl with | [_, _], _ => rfl⟩
  have S := sc__law_laid_out; have h1 := hu1 hr; have h65 := hu65 hr; have h66 := hu66 hr; have h67 := hu67 hr
  exact bv_cons (sv_own rfl (tgk 2 S.nd) (nv_lst (av_nil))) (bv_cons (sv_for (passes_of rfl) rfl (iv_range2 rfl T.m_range (av_cons (ev_int) (av_cons (ev_op op_add4 os_addA (ev_v 0) (ev_int)) (av_nil))) rfl rfl (al_cons (al_cons (al_nil)))) (gv_name (tgk 3 S.nd)) (by decide) (bv_cons (sv_exp (ev_ext (nmk 2) (NV.ev (nv_lst (av_cons (ev_tup (av_cons (ev_str) (av_cons (ev_v 3) (av_nil)))) (av_cons (ev_tup (av_cons (ev_str) (av_cons (ev_v 3) (av_nil)))) (av_cons (ev_tup (av_cons (ev_str) (av_cons (ev_v 3) (av_nil)))) (av_cons (ev_tup (av_cons (ev_str) (av_cons (ev_v 3) (av_nil)))) (av_cons (ev_tup (av_cons (ev_str) (av_cons (ev_v 3) (av_cons (ev_int) (av_nil))))) (av_cons (ev_tup (av_cons (ev_str) (av_cons (ev_v 3) (av_cons (ev_int) (av_nil))))) (av_cons (ev_tup (av_cons (ev_str) (av_cons (ev_v 3) (av_cons (ev_int) (av_nil))))) (av_nil)))))))))) ⟨rfl, rfl, rfl, rfl, rfl⟩)) (bv_nil))) (bv_cons (sv_exp (ev_ext (nmk 2) (NV.ev (nv_lc (own := [("_law_b", 4)]) rfl S.nd (iv_range2 rfl T.m_range (av_cons (ev_int) (av_cons (ev_op op_add4 os_addA (ev_v 1) (ev_int)) (av_nil))) rfl rfl (al_cons (al_cons (al_nil)))) (blk_of (N := ["_law_heads", "_law_blocks", "_law_found", "_law_h", "_law_b", "_law_k", "_law_i"]) (sc := defScope s__law_laid_out) (by decide +kernel)) (fun _ _ _ _ _ => gv_name (tgk 4 S.nd)) (fun _ _ _ _ _ => tsv_nil) (fun _ _ _ _ _ => ev_tup (av_cons (ev_str) (av_cons (ev_v 4) (av_nil)))))) ⟨rfl, rfl, rfl, rfl, rfl⟩)) (bv_cons (sv_for (passes_of rfl) rfl (iv_range2 rfl T.m_range (av_cons (ev_int) (av_cons (ev_op op_add4 os_addA (ev_v 1) (ev_int)) (av_nil))) rfl rfl (al_cons (al_cons (al_nil)))) (gv_name (tgk 4 S.nd)) (by decide) (bv_cons (sv_exp (ev_ext (nmk 2) (NV.ev (nv_lc (own := [("_law_k", 5)]) rfl S.nd (iv_range1 rfl T.m_range (av_cons (ev_int) (av_nil)) rfl (al_cons (al_nil))) (blk_of (N := ["_law_heads", "_law_blocks", "_law_found", "_law_h", "_law_b", "_law_k", "_law_i"]) (sc := defScope s__law_laid_out) (by decide +kernel)) (fun _ _ _ _ _ => gv_name (tgk 5 S.nd)) (fun _ _ _ _ _ => tsv_nil) (fun _ _ _ _ _ => ev_tup (av_cons (ev_str) (av_cons (ev_v 4) (av_cons (ev_v 5) (av_nil))))))) ⟨rfl, rfl, rfl, rfl, rfl⟩)) (bv_nil))) (bv_cons (sv_exp (ev_ext (nmk 2) (NV.ev (nv_lst (av_cons (ev_tup (av_cons (ev_str) (av_nil))) (av_cons (ev_tup (av_cons (ev_str) (av_nil))) (av_nil))))) ⟨rfl, rfl, rfl, rfl, rfl⟩)) (bv_cons (sv_for (passes_of rfl) rfl (iv_range1 rfl T.m_range (av_cons (ev_int) (av_nil)) rfl (al_cons (al_nil))) (gv_name (tgk 6 S.nd)) (by decide) (bv_cons (sv_exp (ev_ext (nmk 2) (NV.ev (nv_lst (av_cons (ev_tup (av_cons (ev_str) (av_cons (ev_v 6) (av_nil)))) (av_cons (ev_tup (av_cons (ev_str) (av_cons (ev_v 6) (av_nil)))) (av_nil))))) ⟨rfl, rfl, rfl, rfl, rfl⟩)) (bv_nil))) (bv_cons (sv_retV (i := 2) rfl rfl (by first | exact .inl rfl | exact .inr (.inl rfl)) (by decide) (by decide)) (bv_nil)))))))
/-! _law_is_so -/
abbrev s__law_is_so : Stmt := top 31
theorem sc__law_is_so : FnScope ["_law_heads", "_law_blocks", "_law_due", "_law_store", "_law_place", "_law_what", "_law_told", "_law_back"] ["_law_heads", "_law_blocks"] (defScope s__law_is_so) := ⟨rfl, rfl, rfl, by decide +kernel, rfl, by decide +kernel, by decide +kernel⟩
def g__law_is_so : List Sl → Option Out := sSeq (sSet 2 (callF [] true φ__law_laid_out (kCons (fVar 0) (kCons (fVar 1) (kNil))))) (sSeq (sSet 3 (callF [] true φ_new_store (kCons (fVar 0) (kCons (fVar 1) (kNil))))) (sSeq (sIf (gOr (fun δ => toB (f2 (bD isNotD) (callF [] true φ_is_store (kCons (fVar 3) (kNil))) (fCon (.bool true)) δ)) (fun δ => toB (f2 (bD neD) (fA (g1 lenD) (aCons (f2 idxD (fVar 3) (fCon (.int 2))) (aNil))) (fA (g1 lenD) (aCons (fVar 2) (aNil))) δ))) (sSeq (sRet (fCon (.bool false))) (sNil)) (sNil)) (sSeq (sFor (.cons (.nm 4) (.cons (.nm 5) (.nil))) (fEnum (fVar 2)) (sSeq (sSet 6 (callF [] true φ_what_is (kCons (fVar 0) (kCons (fVar 1) (kCons (fVar 4) (kNil)))))) (sSeq (sSet 7 (callF [] true φ_place_of (kCons (fVar 0) (kCons (fVar 1) (kCons (fVar 5) (kNil)))))) (sSeq (sIf (gOr (gNot (fun δ => toB ((f1 (isiD "tuple") (fVar 6)) δ))) (gOr (fun δ => toB (f2 (bD neD) (fA (g1 reprD) (aCons (fVar 6) (aNil))) (fA (g1 reprD) (aCons (fVar 5) (aNil))) δ)) (fun δ => toB (f2 (bD neD) (fA (g1 reprD) (aCons (fVar 7) (aNil))) (fA (g1 reprD) (aCons (fVar 4) (aNil))) δ)))) (sSeq (sRet (fCon (.bool false))) (sNil)) (sNil)) (sNil))))) (sSeq (sRet (fCon (.bool true))) (sNil)))))
def φ__law_is_so : List Sl → Option (D × List Sl) := fnF [false, false] 8 false g__law_is_so
theorem ok__law_is_so (T : Txt K mg) (k__law_laid_out : GK P w K mg base "_law_laid_out" 1 2 true φ__law_laid_out) (k_is_store : GK P w K mg base "is_store" 3 1 false φ_is_store) (k_new_store : GK P w K mg base "new_store" 1 2 false φ_new_store) (k_place_of : GK P w K mg base "place_of" 4 3 false φ_place_of) (k_what_is : GK P w K mg base "what_is" 4 3 false φ_what_is) {f : Addr} {fd : FuncData} (Fu : Fun K "_law_is_so" "_law_is_so" s__law_is_so f fd) (m : mg "_law_is_so" = some (.ref f)) : GK P w K mg base "_law_is_so" 5 2 false φ__law_is_so := by
  refine ⟨f, fd, ["_law_heads", "_law_blocks"], fn_ok Fu sc__law_is_so rfl (fun cd A out s G E hG hr => ?_), rfl, m, Fu.kp, Fu.binds fun _ _ _ _ _ _ us hl => match us, hl with | [_, _], _ => rfl⟩
  have S := sc__law_is_so; have h1 := hu1 hr; have h65 := hu65 hr; have h66 := hu66 hr; have h67 := hu67 hr
  exact bv_cons (sv_set rfl (tgk 2 S.nd) (NV.ev (nv_fn (k__law_laid_out.kn hr hG) (kn_cons (ev_v 0) (kn_cons (ev_v 1) (kn_nil)))))) (bv_cons (sv_set rfl (tgk 3 S.nd) (ev_fn (k_new_store.kn hr hG) (kn_cons (ev_v 0) (kn_cons (ev_v 1) (kn_nil))))) (bv_cons (sv_if (WV.tv (wv_or (tv_cmp cd_isNot.op os_cmp (ev_fn (k_is_store.kn hr hG) (kn_cons (ev_v 3) (kn_nil))) (ev_bl)) (wv_or1 (tv_cmp (cd_ne h65).op os_cmp (ev_callB (bnk T.m_len) cr_len cs_len (av_cons (ev_idx h1 (ev_v 3) (ev_int)) (av_nil))) (ev_callB (bnk T.m_len) cr_len cs_len (av_cons (ev_v 2) (av_nil))))))) (bv_cons (sv_ret (ev_bl)) (bv_nil)) (bv_nil)) (bv_cons (sv_for (passes_of rfl) rfl (iv_enum rfl T.m_enumerate (ev_v 2)) (gv_t rfl (gvs_cons (gv_name (tgk 4 S.nd)) (gvs_cons (gv_name (tgk 5 S.nd)) (gvs_nil)))) (by decide) (bv_cons (sv_set rfl (tgk 6 S.nd) (ev_fn (k_what_is.kn hr hG) (kn_cons (ev_v 0) (kn_cons (ev_v 1) (kn_cons (ev_v 4) (kn_nil)))))) (bv_cons (sv_set rfl (tgk 7 S.nd) (ev_fn (k_place_of.kn hr hG) (kn_cons (ev_v 0) (kn_cons (ev_v 1) (kn_cons (ev_v 5) (kn_nil)))))) (bv_cons (sv_if (WV.tv (wv_or (tv_not (tv_val (ev_isi (T := "tuple") rfl (bnk T.m_isinstance) (bnk T.m_tuple) (ev_v 6)))) (wv_or (tv_cmp (cd_ne h65).op os_cmp (ev_callB (bnk T.m_repr) (cr_repr hG h66) cs_repr (av_cons (ev_v 6) (av_nil))) (ev_callB (bnk T.m_repr) (cr_repr hG h66) cs_repr (av_cons (ev_v 5) (av_nil)))) (wv_or1 (tv_cmp (cd_ne h65).op os_cmp (ev_callB (bnk T.m_repr) (cr_repr hG h66) cs_repr (av_cons (ev_v 7) (av_nil))) (ev_callB (bnk T.m_repr) (cr_repr hG h66) cs_repr (av_cons (ev_v 4) (av_nil)))))))) (bv_cons (sv_ret (ev_bl)) (bv_nil)) (bv_nil)) (bv_nil))))) (bv_cons (sv_ret (ev_bl)) (bv_nil)))))
/-! law -/
abbrev s_law : Stmt := top 32
theorem sc_law : FnScope ["_law_script", "_law_deck_here", "_law_heads", "_law_blocks", "_law_one", "_law_other"] ["_law_script"] (defScope s_law) := ⟨rfl, rfl, rfl, by decide +kernel, rfl, by decide +kernel, by decide +kernel⟩
def g_law : List Sl → Option Out := sSeq (sDeck 1 0) (sSeq (sPar2 2 3 (aCons (f2 addA (fCon (.int 2)) (callF [] true φ__law_draw (kIo 1 (kCons (fCon (.int 7)) (kNil))))) (aCons (f2 addA (fCon (.int 3)) (callF [] true φ__law_draw (kIo 1 (kCons (fCon (.int 10)) (kNil))))) (aNil)))) (sSeq (sFor (.cons (.nm 4) (.cons (.nm 5) (.nil))) (fIt (fLst (aCons (fTup (aCons (fVar 2) (aCons (fVar 3) (aNil)))) (aCons (fTup (aCons (fCon (.int 2)) (aCons (fCon (.int 3)) (aNil)))) (aCons (fTup (aCons (fCon (.int 8)) (aCons (fCon (.int 12)) (aNil)))) (aCons (fTup (aCons (fCon (.int 8)) (aCons (fCon (.int 3)) (aNil)))) (aCons (fTup (aCons (fCon (.int 2)) (aCons (fCon (.int 12)) (aNil)))) (aCons (fTup (aCons (fVar 2) (aCons (fVar 3) (aNil)))) (aNil))))))))) (sSeq (sIf (gNot (fun δ => toB (callF [] true φ__law_is_so (kCons (fVar 4) (kCons (fVar 5) (kNil))) δ))) (sSeq (sRet (fCon (.bool false))) (sNil)) (sNil)) (sNil))) (sSeq (sRet (fCon (.bool true))) (sNil))))
def φ_law : List Sl → Option (D × List Sl) := fnF [false] 6 false g_law
theorem fn_law (T : Txt K mg) (k__law_deck : GKD P w K mg base "_law_deck" 1) (k__law_draw : GK P w K mg base "_law_draw" 1 2 false φ__law_draw) (k__law_is_so : GK P w K mg base "_law_is_so" 5 2 false φ__law_is_so) {f : Addr} {fd : FuncData} (Fu : Fun K "law" "law" s_law f fd) : FnG P w K mg base CX0 6 f fd ["_law_script"] (spF K 1 false φ_law) := by
  refine fn_ok Fu sc_law rfl fun cd A out s G E hG hr => ?_
  have S := sc_law; have h1 := hu1 hr; have h65 := hu65 hr; have h66 := hu66 hr; have h67 := hu67 hr
  exact bv_cons (sv_deck rfl (tgk 1 S.nd) (nmk 0) (k__law_deck.kn hr hG)) (bv_cons (sv_par2 rfl rfl rfl (tgk 2 S.nd) (tgk 3 S.nd) (by decide) rfl rfl (av_cons (ev_op op_add4 os_addA (ev_int) (ev_fn (k__law_draw.kn hr hG) (kn_io (nmk 1) (kn_cons (ev_int) (kn_nil))))) (av_cons (ev_op op_add4 os_addA (ev_int) (ev_fn (k__law_draw.kn hr hG) (kn_io (nmk 1) (kn_cons (ev_int) (kn_nil))))) (av_nil)))) (bv_cons (sv_for (passes_of rfl) rfl (iv_seq (NV.ev (nv_lst (av_cons (ev_tup (av_cons (ev_v 2) (av_cons (ev_v 3) (av_nil)))) (av_cons (ev_tup (av_cons (ev_int) (av_cons (ev_int) (av_nil)))) (av_cons (ev_tup (av_cons (ev_int) (av_cons (ev_int) (av_nil)))) (av_cons (ev_tup (av_cons (ev_int) (av_cons (ev_int) (av_nil)))) (av_cons (ev_tup (av_cons (ev_int) (av_cons (ev_int) (av_nil)))) (av_cons (ev_tup (av_cons (ev_v 2) (av_cons (ev_v 3) (av_nil)))) (av_nil)))))))))) (gv_t rfl (gvs_cons (gv_name (tgk 4 S.nd)) (gvs_cons (gv_name (tgk 5 S.nd)) (gvs_nil)))) (by decide) (bv_cons (sv_if (tv_not (tv_val (ev_fn (k__law_is_so.kn hr hG) (kn_cons (ev_v 4) (kn_cons (ev_v 5) (kn_nil)))))) (bv_cons (sv_ret (ev_bl)) (bv_nil)) (bv_nil)) (bv_nil))) (bv_cons (sv_ret (ev_bl)) (bv_nil))))
end
end K03

namespace K03
open PySem PySem.Spec PyProof.Rows L2 Z
theorem map_first_ok (h : Int) : φ_map_first [.fz (.int h)] = some (.int (7 * h), [.fz (.int h)]) := by
  refine fnF_rt (δ := [.fz (.int h)]) rfl ?_ rfl
  simp [g_map_first, sSeq, sRet, f2, fCon, fVar, mulA_l 7 h rfl]
theorem c_map_first (h : D) (i : Int) (r : List Sl) (e : h = .int i) : callF [] true φ_map_first (kCons (fVar 0) kNil) (.fz h :: r) = some (.int (7 * i), .fz h :: r) := by
  subst e
  exact callF_d [.int i] rfl (map_first_ok i)
theorem block_first_ok (h b : Int) : φ_block_first [.fz (.int h), .fz (.int b)] = some (.int (7 * h + b), [.fz (.int h), .fz (.int b)]) := by
  refine fnF_rt (δ := [.fz (.int h), .fz (.int b)]) rfl ?_ rfl
  simp [g_block_first, sSeq, sRet, f2, fCon, fVar, c_map_first _ h _ rfl, addA_int]
theorem c_block_first (h b : Int) (r : List Sl) : callF [] true φ_block_first (kCons (fVar 0) (kCons (fVar 1) kNil)) (.fz (.int h) :: .fz (.int b) :: r) = some (.int (7 * h + b), .fz (.int h) :: .fz (.int b) :: r) :=
  callF_d [.int h, .int b] rfl (block_first_ok h b)
theorem log_first_ok (h b : Int) : φ_log_first [.fz (.int h), .fz (.int b)] = some (.int (7 * h + b + 4 * b), [.fz (.int h), .fz (.int b)]) := by
  refine fnF_rt (δ := [.fz (.int h), .fz (.int b)]) rfl ?_ rfl
  simp [g_log_first, sSeq, sRet, f2, fCon, fVar, c_block_first, addA_int, mulA_l 4 b rfl]
theorem c_log_first (h b : Int) (r : List Sl) : callF [] true φ_log_first (kCons (fVar 0) (kCons (fVar 1) kNil)) (.fz (.int h) :: .fz (.int b) :: r) = some (.int (7 * h + b + 4 * b), .fz (.int h) :: .fz (.int b) :: r) :=
  callF_d [.int h, .int b] rfl (log_first_ok h b)
def headS (k : Int) : Str := if k = 0 then "kind" else if k = 1 then "count" else if k = 2 then "length" else "sum"
def logS (k : Int) : Str := if k = 0 then "mark" else "seal"
def pairS (k : Int) : Str := if k = 0 then "place" else "worth"
theorem at_head (k : Int) (h0 : 0 ≤ k) (h1 : k < 4) : idxD (.tuple [.str "kind", .str "count", .str "length", .str "sum"]) (.int k) = some (.str (headS k)) := by
  have : k = 0 ∨ k = 1 ∨ k = 2 ∨ k = 3 := by omega
  rcases this with rfl | rfl | rfl | rfl <;> rfl
theorem at_log (k : Int) (h0 : 0 ≤ k) (h1 : k < 2) : idxD (.tuple [.str "mark", .str "seal"]) (.int k) = some (.str (logS k)) := by
  have : k = 0 ∨ k = 1 := by omega
  rcases this with rfl | rfl <;> rfl
theorem at_pair (k : Int) (h0 : 0 ≤ k) (h1 : k < 2) : idxD (.tuple [.str "place", .str "worth"]) (.int k) = some (.str (pairS k)) := by
  have : k = 0 ∨ k = 1 := by omega
  rcases this with rfl | rfl <;> rfl
def headM (n : Int) : D := if n % 7 < 4 then .tuple [.str (headS (n % 7)), .int (1 + n / 7)] else .tuple [.str "slot", .int (1 + n / 7), .int (n % 7 - 4)]
def logM (n : Int) : D := if n < 2 then .tuple [.str (logS n)] else .tuple [.str (pairS ((n - 2) % 2)), .int ((n - 2) / 2)]
theorem head_cell_ok (n : Int) : φ_head_cell [.fz (.int n)] = some (headM n, [.fz (.int n)]) := by
  have m0 := Int.emod_nonneg n (show (7 : Int) ≠ 0 by decide)
  by_cases c : n % 7 < 4
  · refine fnF_rt (δ := [.fz (.int n), .fz (.int (1 + n / 7)), .fz (.int (n % 7))]) rfl ?_ rfl
    simp [g_head_cell, headM, sSeq, sPar2, sIf, sRet, aCons, aNil, f2, fA, g1, lenD, fTup, fCon, fVar, bD, toB, ltD, c, sizeLine, fdivD_int n 7 (by decide) (by decide), modD_int n 7 (by decide), addA_int, at_head _ m0 c]
  · refine fnF_rt (δ := [.fz (.int n), .fz (.int (1 + n / 7)), .fz (.int (n % 7))]) rfl ?_ rfl
    simp [g_head_cell, headM, sSeq, sPar2, sIf, sRet, sNil, aCons, aNil, f2, fA, g1, lenD, fTup, fCon, fVar, bD, toB, ltD, c, sizeLine, fdivD_int n 7 (by decide) (by decide), modD_int n 7 (by decide), addA_int, subD_int]
theorem log_cell_ok (n : Int) (h0 : 0 ≤ n) : φ_log_cell [.fz (.int n)] = some (logM n, [.fz (.int n)]) := by
  by_cases c : n < 2
  · refine fnF_rt (δ := [.fz (.int n), .no]) rfl ?_ rfl
    simp [g_log_cell, logM, sSeq, sIf, sRet, aCons, aNil, f2, fA, g1, lenD, fTup, fCon, fVar, bD, toB, ltD, c, sizeLine, at_log _ h0 c]
  · have m0 := Int.emod_nonneg n (show (2 : Int) ≠ 0 by decide)
    have m1 := Int.emod_lt_of_pos n (show (0 : Int) < 2 by decide)
    refine fnF_rt (δ := [.fz (.int n), .fz (.int (n - 2))]) rfl ?_ rfl
    simp [g_log_cell, logM, sSeq, sSet, sIf, sRet, sNil, aCons, aNil, f2, fA, g1, lenD, fTup, fCon, fVar, bD, toB, ltD, c, sizeLine, fdivD_int (n - 2) 2 (by decide) (by decide), modD_int (n - 2) 2 (by decide), subD_int, at_pair _ m0 m1]
def whatM (h b n : Int) : D := if n < 7 * h then headM n else if n < 7 * h + b then .tuple [.str "map", .int (1 + n - 7 * h)] else if n < 7 * h + b + 4 * b then .tuple [.str "cell", .int (1 + (n - (7 * h + b)) / 4), .int ((n - (7 * h + b)) % 4)] else logM (n - (7 * h + b + 4 * b))
theorem what_is_ok (h b n : Int) (h0 : 0 ≤ n) : φ_what_is [.fz (.int h), .fz (.int b), .fz (.int n)] = some (whatM h b n, [.fz (.int h), .fz (.int b), .fz (.int n)]) := by
  by_cases c1 : n < 7 * h
  · refine fnF_rt (δ := [.fz (.int h), .fz (.int b), .fz (.int n), .no]) rfl ?_ rfl
    have e : callF [] true φ_head_cell (kCons (fVar 2) kNil) [.fz (.int h), .fz (.int b), .fz (.int n), .no] = some (headM n, [.fz (.int h), .fz (.int b), .fz (.int n), .no]) := callF_d [.int n] rfl (head_cell_ok n)
    simp [g_what_is, whatM, c1, sSeq, sIf, sRet, f2, fVar, bD, toB, ltD, c_map_first _ h _ rfl, e]
  · by_cases c2 : n < 7 * h + b
    · refine fnF_rt (δ := [.fz (.int h), .fz (.int b), .fz (.int n), .no]) rfl ?_ rfl
      simp [g_what_is, whatM, c1, c2, sSeq, sIf, sRet, sNil, f2, fCon, fVar, bD, toB, ltD, aCons, aNil, fTup, sizeLine, c_map_first _ h _ rfl, c_block_first, addA_int, subD_int]
    · by_cases c3 : n < 7 * h + b + 4 * b
      · refine fnF_rt (δ := [.fz (.int h), .fz (.int b), .fz (.int n), .fz (.int (n - (7 * h + b)))]) rfl ?_ rfl
        simp [g_what_is, whatM, c1, c2, c3, sSeq, sSet, sIf, sRet, sNil, f2, fCon, fVar, bD, toB, ltD, aCons, aNil, fTup, sizeLine, c_map_first _ h _ rfl, c_block_first, c_log_first, addA_int, subD_int, fdivD_int _ 4 (by decide) (by decide), modD_int _ 4 (by decide)]
      · refine fnF_rt (δ := [.fz (.int h), .fz (.int b), .fz (.int n), .no]) rfl ?_ rfl
        have e : callF [] true φ_log_cell (kCons (f2 subD (fVar 2) (callF [] true φ_log_first (kCons (fVar 0) (kCons (fVar 1) kNil)))) kNil) [.fz (.int h), .fz (.int b), .fz (.int n), .no] = some (logM (n - (7 * h + b + 4 * b)), [.fz (.int h), .fz (.int b), .fz (.int n), .no]) := by
          refine callF_d [.int (n - (7 * h + b + 4 * b))] ?_ (log_cell_ok _ (by omega))
          simp [kCons, kNil, f2, fVar, c_log_first, subD_int]
        simp [g_what_is, whatM, c1, c2, c3, sSeq, sIf, sRet, sNil, f2, fVar, bD, toB, ltD, c_map_first _ h _ rfl, c_block_first, c_log_first, e]
/-! there and back -/
def inH (s : Str) : Option Bool := inD (.str s) (.tuple [.str "kind", .str "count", .str "length", .str "sum"])
theorem in_head (k : Int) (h0 : 0 ≤ k) (h1 : k < 4) : inD (.str (headS k)) (.tuple [.str "kind", .str "count", .str "length", .str "sum"]) = some true := by
  have : k = 0 ∨ k = 1 ∨ k = 2 ∨ k = 3 := by omega
  rcases this with rfl | rfl | rfl | rfl <;> decide +kernel
theorem ix_head (k : Int) (h0 : 0 ≤ k) (h1 : k < 4) : tixD (.tuple [.str "kind", .str "count", .str "length", .str "sum"]) (.str (headS k)) = some (.int k) := by
  have : k = 0 ∨ k = 1 ∨ k = 2 ∨ k = 3 := by omega
  rcases this with rfl | rfl | rfl | rfl <;> rfl
theorem place_head (h b n : Int) (h0 : 0 ≤ n) (c : n % 7 < 4) : φ_place_of [.fz (.int h), .fz (.int b), .fz (.tuple [.str (headS (n % 7)), .int (1 + n / 7)])] = some (.int n, [.fz (.int h), .fz (.int b), .fz (.tuple [.str (headS (n % 7)), .int (1 + n / 7)])]) := by
  have m0 := Int.emod_nonneg n (show (7 : Int) ≠ 0 by decide)
  refine fnF_rt (δ := [.fz (.int h), .fz (.int b), .fz (.tuple [.str (headS (n % 7)), .int (1 + n / 7)]), .fz (.str (headS (n % 7)))]) rfl ?_ rfl
  have i0 : ∀ x y : D, idxD (.tuple [x, y]) (.int 0) = some x := fun _ _ => rfl
  have i1 : ∀ x y : D, idxD (.tuple [x, y]) (.int 1) = some y := fun _ _ => rfl
  have e : 7 * (1 + n / 7 - 1) + n % 7 = n := by omega
  simp [g_place_of, sSeq, sSet, sIf, sRet, f1, f2, fCon, fVar, bD, toB, i0, i1, in_head _ m0 c, ix_head _ m0 c, addA_int, subD_int, mulA_l 7 _ rfl, e]
theorem t0 (x : D) (r : List D) : idxD (.tuple (x :: r)) (.int 0) = some x := by
  show atI (x :: r) 0 = some x
  exact atI_nat (j := 0) rfl
theorem t1 (x y : D) (r : List D) : idxD (.tuple (x :: y :: r)) (.int 1) = some y := by
  show atI (x :: y :: r) 1 = some y
  exact atI_nat (j := 1) rfl
theorem t2 (x y z : D) (r : List D) : idxD (.tuple (x :: y :: z :: r)) (.int 2) = some z := by
  show atI (x :: y :: z :: r) 2 = some z
  exact atI_nat (j := 2) rfl
theorem place_slot (h b n : Int) (h0 : 0 ≤ n) (c : ¬ n % 7 < 4) : φ_place_of [.fz (.int h), .fz (.int b), .fz (.tuple [.str "slot", .int (1 + n / 7), .int (n % 7 - 4)])] = some (.int n, [.fz (.int h), .fz (.int b), .fz (.tuple [.str "slot", .int (1 + n / 7), .int (n % 7 - 4)])]) := by
  refine fnF_rt (δ := [.fz (.int h), .fz (.int b), .fz (.tuple [.str "slot", .int (1 + n / 7), .int (n % 7 - 4)]), .fz (.str "slot")]) rfl ?_ rfl
  have e : 7 * (1 + n / 7 - 1) + 4 + (n % 7 - 4) = n := by omega
  have w1 : inD (.str "slot") (.tuple [.str "kind", .str "count", .str "length", .str "sum"]) = some false := by decide +kernel
  have w2 : eqD (.str "slot") (.str "slot") = some true := by decide +kernel
  simp [g_place_of, sSeq, sSet, sIf, sRet, sNil, f1, f2, fA, aCons, aNil, g1, lenD, fCon, fVar, bD, toB, t0, t1, t2, w1, w2, addA_int, subD_int, mulA_l 7 _ rfl, e]
theorem place_map (h b n : Int) : φ_place_of [.fz (.int h), .fz (.int b), .fz (.tuple [.str "map", .int (1 + n - 7 * h)])] = some (.int n, [.fz (.int h), .fz (.int b), .fz (.tuple [.str "map", .int (1 + n - 7 * h)])]) := by
  refine fnF_rt (δ := [.fz (.int h), .fz (.int b), .fz (.tuple [.str "map", .int (1 + n - 7 * h)]), .fz (.str "map")]) rfl ?_ rfl
  have e : 7 * h + (1 + n - 7 * h) - 1 = n := by omega
  have w1 : inD (.str "map") (.tuple [.str "kind", .str "count", .str "length", .str "sum"]) = some false := by decide +kernel
  have w2 : eqD (.str "map") (.str "slot") = some false := by decide +kernel
  have w3 : eqD (.str "map") (.str "map") = some true := by decide +kernel
  simp [g_place_of, sSeq, sSet, sIf, sRet, sNil, f1, f2, fA, aCons, aNil, g1, lenD, fCon, fVar, bD, toB, t0, t1, w1, w2, w3, c_map_first _ h _ rfl, addA_int, subD_int, e]
theorem place_cell (h b n : Int) (k : Int) : φ_place_of [.fz (.int h), .fz (.int b), .fz (.tuple [.str "cell", .int (1 + k / 4), .int (k % 4)])] = some (.int (7 * h + b + k), [.fz (.int h), .fz (.int b), .fz (.tuple [.str "cell", .int (1 + k / 4), .int (k % 4)])]) := by
  refine fnF_rt (δ := [.fz (.int h), .fz (.int b), .fz (.tuple [.str "cell", .int (1 + k / 4), .int (k % 4)]), .fz (.str "cell")]) rfl ?_ rfl
  have e : 7 * h + b + 4 * (1 + k / 4 - 1) + k % 4 = 7 * h + b + k := by omega
  have w1 : inD (.str "cell") (.tuple [.str "kind", .str "count", .str "length", .str "sum"]) = some false := by decide +kernel
  have w2 : eqD (.str "cell") (.str "slot") = some false := by decide +kernel
  have w3 : eqD (.str "cell") (.str "map") = some false := by decide +kernel
  have w4 : eqD (.str "cell") (.str "cell") = some true := by decide +kernel
  simp [g_place_of, sSeq, sSet, sIf, sRet, sNil, f1, f2, fA, aCons, aNil, g1, lenD, fCon, fVar, bD, toB, t0, t1, t2, w1, w2, w3, w4, c_block_first, addA_int, subD_int, mulA_l 4 _ rfl, e]
theorem place_log (h b k : Int) (h0 : 0 ≤ k) (h1 : k < 2) : φ_place_of [.fz (.int h), .fz (.int b), .fz (.tuple [.str (logS k)])] = some (.int (7 * h + b + 4 * b + k), [.fz (.int h), .fz (.int b), .fz (.tuple [.str (logS k)])]) := by
  refine fnF_rt (δ := [.fz (.int h), .fz (.int b), .fz (.tuple [.str (logS k)]), .fz (.str (logS k))]) rfl ?_ rfl
  have kk : k = 0 ∨ k = 1 := by omega
  have w1 : inD (.str (logS k)) (.tuple [.str "kind", .str "count", .str "length", .str "sum"]) = some false := by rcases kk with rfl | rfl <;> decide +kernel
  have w2 : eqD (.str (logS k)) (.str "slot") = some false := by rcases kk with rfl | rfl <;> decide +kernel
  have w3 : eqD (.str (logS k)) (.str "map") = some false := by rcases kk with rfl | rfl <;> decide +kernel
  have w4 : eqD (.str (logS k)) (.str "cell") = some false := by rcases kk with rfl | rfl <;> decide +kernel
  have w5 : inD (.str (logS k)) (.tuple [.str "mark", .str "seal"]) = some true := by rcases kk with rfl | rfl <;> decide +kernel
  have w6 : tixD (.tuple [.str "mark", .str "seal"]) (.str (logS k)) = some (.int k) := by rcases kk with rfl | rfl <;> rfl
  simp [g_place_of, sSeq, sSet, sIf, sRet, sNil, f1, f2, fA, aCons, aNil, g1, lenD, fCon, fVar, bD, toB, t0, w1, w2, w3, w4, w5, w6, c_log_first, addA_int]
theorem place_pair (h b k m : Int) (h0 : 0 ≤ k) (h1 : k < 2) : φ_place_of [.fz (.int h), .fz (.int b), .fz (.tuple [.str (pairS k), .int m])] = some (.int (7 * h + b + 4 * b + 2 + 2 * m + k), [.fz (.int h), .fz (.int b), .fz (.tuple [.str (pairS k), .int m])]) := by
  refine fnF_rt (δ := [.fz (.int h), .fz (.int b), .fz (.tuple [.str (pairS k), .int m]), .fz (.str (pairS k))]) rfl ?_ rfl
  have kk : k = 0 ∨ k = 1 := by omega
  have w1 : inD (.str (pairS k)) (.tuple [.str "kind", .str "count", .str "length", .str "sum"]) = some false := by rcases kk with rfl | rfl <;> decide +kernel
  have w2 : eqD (.str (pairS k)) (.str "slot") = some false := by rcases kk with rfl | rfl <;> decide +kernel
  have w3 : eqD (.str (pairS k)) (.str "map") = some false := by rcases kk with rfl | rfl <;> decide +kernel
  have w4 : eqD (.str (pairS k)) (.str "cell") = some false := by rcases kk with rfl | rfl <;> decide +kernel
  have w5 : inD (.str (pairS k)) (.tuple [.str "mark", .str "seal"]) = some false := by rcases kk with rfl | rfl <;> decide +kernel
  have w6 : tixD (.tuple [.str "place", .str "worth"]) (.str (pairS k)) = some (.int k) := by rcases kk with rfl | rfl <;> rfl
  simp [g_place_of, sSeq, sSet, sIf, sRet, sNil, f1, f2, fA, aCons, aNil, g1, lenD, fCon, fVar, bD, toB, t0, t1, w1, w2, w3, w4, w5, w6, c_log_first, addA_int, mulA_l 2 _ rfl]
theorem place_ok (h b n : Int) (h0 : 0 ≤ n) (hb : 0 ≤ b) : φ_place_of [.fz (.int h), .fz (.int b), .fz (whatM h b n)] = some (.int n, [.fz (.int h), .fz (.int b), .fz (whatM h b n)]) := by
  unfold whatM
  split
  · unfold headM
    split
    · rename_i c; exact place_head h b n h0 c
    · rename_i c; exact place_slot h b n h0 c
  · split
    · exact place_map h b n
    · split
      · have := place_cell h b n (n - (7 * h + b))
        rw [show 7 * h + b + (n - (7 * h + b)) = n by omega] at this
        exact this
      · unfold logM
        split
        · have := place_log h b (n - (7 * h + b + 4 * b)) (by omega) (by omega)
          rw [show 7 * h + b + 4 * b + (n - (7 * h + b + 4 * b)) = n by omega] at this
          exact this
        · have := place_pair h b ((n - (7 * h + b + 4 * b) - 2) % 2) ((n - (7 * h + b + 4 * b) - 2) / 2) (by omega) (by omega)
          rw [show 7 * h + b + 4 * b + 2 + 2 * ((n - (7 * h + b + 4 * b) - 2) / 2) + ((n - (7 * h + b + 4 * b) - 2) % 2) = n by omega] at this
          exact this
/-! what is shown -/
def okR (d : D) : Bool := match reprD d with
  | some (.str s) => (match neD (.str s) (.str s) with | some false => true | _ => false)
  | _ => false
theorem okR_spec {d : D} (h : okR d = true) : ∃ s, reprD d = some (.str s) ∧ neD (.str s) (.str s) = some false := by
  unfold okR at h
  split at h
  · rename_i s e
    split at h
    · rename_i e2; exact ⟨s, e, e2⟩
    · cases h
  · cases h
theorem ok_n : (List.range 200).all (fun p => okR (.int (p : Nat))) = true := by decide +kernel
theorem ok_h : (List.range 4).all (fun k => (List.range 10).all fun a => okR (.tuple [.str (headS (k : Nat)), .int (a : Nat)])) = true := by decide +kernel
theorem ok_s : (List.range 10).all (fun a => (List.range 3).all fun k => okR (.tuple [.str "slot", .int (a : Nat), .int (k : Nat)])) = true := by decide +kernel
theorem ok_m : (List.range 13).all (fun a => okR (.tuple [.str "map", .int (a : Nat)])) = true := by decide +kernel
theorem ok_c : (List.range 13).all (fun a => (List.range 4).all fun k => okR (.tuple [.str "cell", .int (a : Nat), .int (k : Nat)])) = true := by decide +kernel
theorem ok_l : (List.range 2).all (fun k => okR (.tuple [.str (logS (k : Nat))])) = true := by decide +kernel
theorem ok_p : (List.range 2).all (fun k => (List.range 40).all fun a => okR (.tuple [.str (pairS (k : Nat)), .int (a : Nat)])) = true := by decide +kernel
theorem all_at {n : Nat} {f : Nat → Bool} (h : (List.range n).all f = true) (i : Int) (h0 : 0 ≤ i) (h1 : i < n) : f i.toNat = true := List.all_eq_true.mp h _ (List.mem_range.mpr (by omega))
theorem nat_of {i : Int} (h : 0 ≤ i) : ((i.toNat : Nat) : Int) = i := Int.toNat_of_nonneg h
theorem ok_what (h b n : Int) (h1 : 2 ≤ h) (h2 : h ≤ 8) (b1 : 3 ≤ b) (b2 : b ≤ 12) (n0 : 0 ≤ n) (n1 : n < 7 * h + 5 * b + 82) : okR (whatM h b n) = true ∧ isiB "tuple" (whatM h b n) = true := by
  unfold whatM
  split
  · unfold headM
    split
    · have := all_at (all_at ok_h (n % 7) (by omega) (by omega)) (1 + n / 7) (by omega) (by omega)
      rw [nat_of (by omega), nat_of (by omega)] at this
      exact ⟨this, rfl⟩
    · have := all_at (all_at ok_s (1 + n / 7) (by omega) (by omega)) (n % 7 - 4) (by omega) (by omega)
      rw [nat_of (by omega), nat_of (by omega)] at this
      exact ⟨this, rfl⟩
  · split
    · have := all_at ok_m (1 + n - 7 * h) (by omega) (by omega)
      rw [nat_of (by omega)] at this
      exact ⟨this, rfl⟩
    · split
      · have := all_at (all_at ok_c (1 + (n - (7 * h + b)) / 4) (by omega) (by omega)) ((n - (7 * h + b)) % 4) (by omega) (by omega)
        rw [nat_of (by omega), nat_of (by omega)] at this
        exact ⟨this, rfl⟩
      · unfold logM
        split
        · have := all_at ok_l (n - (7 * h + b + 4 * b)) (by omega) (by omega)
          rw [nat_of (by omega)] at this
          exact ⟨this, rfl⟩
        · have := all_at (all_at ok_p ((n - (7 * h + b + 4 * b) - 2) % 2) (by omega) (by omega)) ((n - (7 * h + b + 4 * b) - 2) / 2) (by omega) (by omega)
          rw [nat_of (by omega), nat_of (by omega)] at this
          exact ⟨this, rfl⟩
def gTurn : List Sl → Option Out := sSeq (sSet 6 (callF [] true φ_what_is (kCons (fVar 0) (kCons (fVar 1) (kCons (fVar 4) (kNil)))))) (sSeq (sSet 7 (callF [] true φ_place_of (kCons (fVar 0) (kCons (fVar 1) (kCons (fVar 5) (kNil)))))) (sSeq (sIf (gOr (gNot (fun δ => toB ((f1 (isiD "tuple") (fVar 6)) δ))) (gOr (fun δ => toB (f2 (bD neD) (fA (g1 reprD) (aCons (fVar 6) (aNil))) (fA (g1 reprD) (aCons (fVar 5) (aNil))) δ)) (fun δ => toB (f2 (bD neD) (fA (g1 reprD) (aCons (fVar 7) (aNil))) (fA (g1 reprD) (aCons (fVar 4) (aNil))) δ)))) (sSeq (sRet (fCon (.bool false))) (sNil)) (sNil)) (sNil)))
theorem turn_ok (h b n : Int) (due st x4 x5 x6 x7 : Sl) (h1 : 2 ≤ h) (h2 : h ≤ 8) (b1 : 3 ≤ b) (b2 : b ≤ 12) (n0 : 0 ≤ n) (n1 : n < 7 * h + 5 * b + 82) :
    gTurn [.fz (.int h), .fz (.int b), due, st, .fz (.int n), .fz (whatM h b n), x6, x7] = some (.nx [.fz (.int h), .fz (.int b), due, st, .fz (.int n), .fz (whatM h b n), .fz (whatM h b n), .fz (.int n)]) := by
  obtain ⟨q1, q2⟩ := ok_what h b n h1 h2 b1 b2 n0 n1
  obtain ⟨s, q3, q4⟩ := okR_spec q1
  have q5 := all_at ok_n n n0 (by omega)
  rw [nat_of n0] at q5
  obtain ⟨z, q6, q7⟩ := okR_spec q5
  have e1 : ∀ x6 x7, callF [] true φ_what_is (kCons (fVar 0) (kCons (fVar 1) (kCons (fVar 4) kNil))) [.fz (.int h), .fz (.int b), due, st, .fz (.int n), .fz (whatM h b n), x6, x7] = some (whatM h b n, [.fz (.int h), .fz (.int b), due, st, .fz (.int n), .fz (whatM h b n), x6, x7]) := fun x6 x7 => callF_d [.int h, .int b, .int n] rfl (what_is_ok h b n n0)
  have e2 : ∀ x6 x7, callF [] true φ_place_of (kCons (fVar 0) (kCons (fVar 1) (kCons (fVar 5) kNil))) [.fz (.int h), .fz (.int b), due, st, .fz (.int n), .fz (whatM h b n), x6, x7] = some (.int n, [.fz (.int h), .fz (.int b), due, st, .fz (.int n), .fz (whatM h b n), x6, x7]) := fun x6 x7 => callF_d [.int h, .int b, whatM h b n] rfl (place_ok h b n n0 (by omega))
  simp [gTurn, sSeq, sSet, sIf, sNil, gOr, gNot, f1, f2, fA, aCons, aNil, g1, fVar, bD, toB, isiD, e1, e2, q2, q3, q4, q6, q7]
theorem loop_ok (h b : Int) (due st : Sl) (h1 : 2 ≤ h) (h2 : h ≤ 8) (b1 : 3 ≤ b) (b2 : b ≤ 12) : ∀ (l : List Nat) (x4 x5 x6 x7 : Sl), (∀ n ∈ l, (n : Int) < 7 * h + 5 * b + 82) →
    ∃ y4 y5 y6 y7, forL (.cons (.nm 4) (.cons (.nm 5) .nil)) gTurn (l.map fun n => .tuple [.int (n : Nat), whatM h b (n : Nat)]) [.fz (.int h), .fz (.int b), due, st, x4, x5, x6, x7] = some (.nx [.fz (.int h), .fz (.int b), due, st, y4, y5, y6, y7])
  | [], x4, x5, x6, x7, _ => ⟨x4, x5, x6, x7, rfl⟩
  | n :: r, x4, x5, x6, x7, hl => by
    obtain ⟨y4, y5, y6, y7, e⟩ := loop_ok h b due st h1 h2 b1 b2 r (.fz (.int n)) (.fz (whatM h b n)) (.fz (whatM h b n)) (.fz (.int n)) (fun m hm => hl m (List.mem_cons_of_mem _ hm))
    refine ⟨y4, y5, y6, y7, ?_⟩
    have t := turn_ok h b n due st x4 x5 x6 x7 h1 h2 b1 b2 (by omega) (hl n List.mem_cons_self)
    rw [List.map_cons]
    unfold forL
    have eb : bindT (.cons (.nm 4) (.cons (.nm 5) .nil)) (.tuple [.int (n : Nat), whatM h b (n : Nat)]) [.fz (.int h), .fz (.int b), due, st, x4, x5, x6, x7] = some [.fz (.int h), .fz (.int b), due, st, .fz (.int n), .fz (whatM h b n), x6, x7] := by simp [bindT, bindTs]
    rw [eb, Option.bind_some, t, Option.bind_some]
    exact e
theorem zip_range (f : Nat → D) (n : Nat) : enumD ((List.range n).map f) = (List.range n).map fun i => .tuple [.int (i : Nat), f i] := by
  unfold enumD
  apply List.ext_getElem
  · simp
  · intro i h1 h2
    simp
/-! the shapes -/
mutual
def dq : D → D → Bool
  | .none, .none => true
  | .bool a, .bool b => a == b
  | .int a, .int b => decide (a = b)
  | .str a, .str b => decide (a = b)
  | .tuple a, .tuple b => dqs a b
  | _, _ => false
def dqs : List D → List D → Bool
  | [], [] => true
  | a :: r, b :: s => dq a b && dqs r s
  | _, _ => false
end
mutual
theorem dq_eq : ∀ {a b : D}, dq a b = true → a = b
  | .none, .none, _ => rfl
  | .bool a, .bool b, h => by rw [show a = b from eq_of_beq h]
  | .int a, .int b, h => by rw [show a = b from of_decide_eq_true h]
  | .str a, .str b, h => by rw [show a = b from of_decide_eq_true h]
  | .tuple a, .tuple b, h => by rw [dqs_eq (show dqs a b = true from h)]
theorem dqs_eq : ∀ {a b : List D}, dqs a b = true → a = b
  | [], [], _ => rfl
  | a :: r, b :: s, h => by
    have h : (dq a b && dqs r s) = true := h
    rw [Bool.and_eq_true] at h
    rw [dq_eq h.1, dqs_eq h.2]
end
def cnt (h b : Nat) : Nat := 7 * h + 5 * b + 82
/-! all places, in order -/
theorem W_head (h b i : Nat) (hi : i < h) : (List.range 7).map (fun j => whatM (h : Nat) (b : Nat) ((7 * i + j : Nat) : Int)) = [.tuple [.str "kind", .int (1 + (i : Nat))], .tuple [.str "count", .int (1 + (i : Nat))], .tuple [.str "length", .int (1 + (i : Nat))], .tuple [.str "sum", .int (1 + (i : Nat))], .tuple [.str "slot", .int (1 + (i : Nat)), .int 0], .tuple [.str "slot", .int (1 + (i : Nat)), .int 1], .tuple [.str "slot", .int (1 + (i : Nat)), .int 2]] := by
  have go : ∀ j : Nat, j < 7 → whatM (h : Nat) (b : Nat) ((7 * i + j : Nat) : Int) = if (j : Int) < 4 then .tuple [.str (headS (j : Nat)), .int (1 + (i : Nat))] else .tuple [.str "slot", .int (1 + (i : Nat)), .int ((j : Nat) - 4)] := fun j hj => by
    have c : ((7 * i + j : Nat) : Int) < 7 * (h : Nat) := by omega
    have e1 : ((7 * i + j : Nat) : Int) % 7 = (j : Nat) := by omega
    have e2 : ((7 * i + j : Nat) : Int) / 7 = (i : Nat) := by omega
    unfold whatM
    rw [if_pos c]
    unfold headM
    rw [e1, e2]
  exact (List.map_congr_left fun j hj => go j (List.mem_range.mp hj)).trans (by rfl)
theorem W_map (h b j : Nat) (hj : j < b) : whatM (h : Nat) (b : Nat) ((7 * h + j : Nat) : Int) = .tuple [.str "map", .int (1 + (j : Nat))] := by
  unfold whatM
  rw [if_neg (by omega), if_pos (by omega), show 1 + ((7 * h + j : Nat) : Int) - 7 * (h : Nat) = 1 + (j : Nat) by omega]
theorem W_cell (h b i : Nat) (hi : i < b) : (List.range 4).map (fun j => whatM (h : Nat) (b : Nat) ((7 * h + b + 4 * i + j : Nat) : Int)) = [.tuple [.str "cell", .int (1 + (i : Nat)), .int 0], .tuple [.str "cell", .int (1 + (i : Nat)), .int 1], .tuple [.str "cell", .int (1 + (i : Nat)), .int 2], .tuple [.str "cell", .int (1 + (i : Nat)), .int 3]] := by
  have go : ∀ j : Nat, j < 4 → whatM (h : Nat) (b : Nat) ((7 * h + b + 4 * i + j : Nat) : Int) = .tuple [.str "cell", .int (1 + (i : Nat)), .int (j : Nat)] := fun j hj => by
    unfold whatM
    rw [if_neg (by omega), if_neg (by omega), if_pos (by omega), show (((7 * h + b + 4 * i + j : Nat) : Int) - (7 * (h : Nat) + (b : Nat))) / 4 = (i : Nat) by omega, show (((7 * h + b + 4 * i + j : Nat) : Int) - (7 * (h : Nat) + (b : Nat))) % 4 = (j : Nat) by omega]
  exact (List.map_congr_left fun j hj => go j (List.mem_range.mp hj)).trans (by rfl)
theorem W_log (h b : Nat) : (List.range 2).map (fun j => whatM (h : Nat) (b : Nat) ((7 * h + b + 4 * b + j : Nat) : Int)) = [.tuple [.str "mark"], .tuple [.str "seal"]] := by
  have go : ∀ j : Nat, j < 2 → whatM (h : Nat) (b : Nat) ((7 * h + b + 4 * b + j : Nat) : Int) = .tuple [.str (logS (j : Nat))] := fun j hj => by
    unfold whatM
    rw [if_neg (by omega), if_neg (by omega), if_neg (by omega)]
    unfold logM
    rw [if_pos (by omega), show ((7 * h + b + 4 * b + j : Nat) : Int) - (7 * (h : Nat) + (b : Nat) + 4 * (b : Nat)) = (j : Nat) by omega]
  exact (List.map_congr_left fun j hj => go j (List.mem_range.mp hj)).trans (by rfl)
theorem W_pair (h b i : Nat) : (List.range 2).map (fun j => whatM (h : Nat) (b : Nat) ((7 * h + b + 4 * b + 2 + 2 * i + j : Nat) : Int)) = [.tuple [.str "place", .int (i : Nat)], .tuple [.str "worth", .int (i : Nat)]] := by
  have go : ∀ j : Nat, j < 2 → whatM (h : Nat) (b : Nat) ((7 * h + b + 4 * b + 2 + 2 * i + j : Nat) : Int) = .tuple [.str (pairS (j : Nat)), .int (i : Nat)] := fun j hj => by
    unfold whatM
    rw [if_neg (by omega), if_neg (by omega), if_neg (by omega)]
    unfold logM
    rw [if_neg (by omega), show (((7 * h + b + 4 * b + 2 + 2 * i + j : Nat) : Int) - (7 * (h : Nat) + (b : Nat) + 4 * (b : Nat)) - 2) % 2 = (j : Nat) by omega, show (((7 * h + b + 4 * b + 2 + 2 * i + j : Nat) : Int) - (7 * (h : Nat) + (b : Nat) + 4 * (b : Nat)) - 2) / 2 = (i : Nat) by omega]
  exact (List.map_congr_left fun j hj => go j (List.mem_range.mp hj)).trans (by rfl)
def Wl (h b n : Nat) : List D := (List.range n).map fun n => whatM (h : Nat) (b : Nat) (n : Nat)
theorem Wl_len (h b n : Nat) : (Wl h b n).length = n := by simp [Wl]
end K03

namespace K03
open PySem PySem.Spec PyProof.Rows L2 Z
theorem st_e1 (h b : Nat) (b2 : b ≤ 12) (w x3 : Sl) : fRng (aCons (fCon (.int 1)) (aCons (f2 addA (fVar 1) (fCon (.int 1))) (aNil))) [.fz (.int (h : Nat)), .fz (.int (b : Nat)), w, x3, .no, .no, .no] = some (rngD 1 b, [.fz (.int (h : Nat)), .fz (.int (b : Nat)), w, x3, .no, .no, .no]) := by
  have s1 : small62 ((b : Int) + 1) = true := small62_of (by omega) (by omega)
  have s2 : small62 1 = true := small62_of (by omega) (by omega)
  have e : aCons (fCon (.int 1)) (aCons (f2 addA (fVar 1) (fCon (.int 1))) (aNil)) [.fz (.int (h : Nat)), .fz (.int (b : Nat)), w, x3, .no, .no, .no] = some ([.int 1, .int ((b : Int) + 1)], [.fz (.int (h : Nat)), .fz (.int (b : Nat)), w, x3, .no, .no, .no]) := rfl
  unfold fRng
  rw [e, Option.bind_some]
  show (if small62 1 && small62 ((b : Int) + 1) then some (rngD 1 ((b : Int) + 1 - 1).toNat, _) else none) = _
  rw [s1, s2, show ((b : Int) + 1 - 1).toNat = b by omega]
  rfl
theorem st_e2 (w0 w1 w x3 : Sl) (ds : List D) : compL (.nm 4) [4] cYes (fTup (aCons (fCon (.str "map")) (aCons (fVar 4) (aNil)))) ds [w0, w1, w, x3, .no, .no, .no] = some (ds.map (fun d => .tuple [.str "map", d]), [w0, w1, w, x3, .no, .no, .no]) := by
  have big := line_big
  refine compL_map _ _ fun d _ => ⟨[w0, w1, w, x3, .fz d, .no, .no], [w0, w1, w, x3, .fz d, .no, .no], ?_, ?_, rfl⟩
  · simp [bindT]
  · have z : 2 ≤ sizeLine := by omega
    simp [fTup, aCons, aNil, fCon, fVar, z]
theorem st_e3 (h b : Nat) : (rngD 1 b).map (fun d => PyData.tuple [.str "map", d]) = (List.range b).map fun j => whatM (h : Nat) (b : Nat) ((7 * h + j : Nat) : Int) := by
  unfold rngD
  rw [List.map_map]
  exact List.map_congr_left fun j hj => (W_map h b j (List.mem_range.mp hj)).symm
theorem st_map (h b : Nat) (b2 : b ≤ 12) (w x3 : Sl) : fLc (.nm 4) [4] (fRng (aCons (fCon (.int 1)) (aCons (f2 addA (fVar 1) (fCon (.int 1))) (aNil)))) (cYes) (fTup (aCons (fCon (.str "map")) (aCons (fVar 4) (aNil)))) [.fz (.int (h : Nat)), .fz (.int (b : Nat)), w, x3, .no, .no, .no] = some (.list ((List.range b).map fun j => whatM (h : Nat) (b : Nat) ((7 * h + j : Nat) : Int)), [.fz (.int (h : Nat)), .fz (.int (b : Nat)), w, x3, .no, .no, .no]) := by
  have big := line_big
  have z : b ≤ sizeLine := by omega
  have e4 : (noS [4] [.fz (.int (h : Nat)), .fz (.int (b : Nat)), w, x3, .no, .no, .no] && decide ((rngD 1 b).length ≤ sizeLine)) = true := by
    rw [rngD_length, decide_eq_true z]
    rfl
  unfold fLc
  rw [st_e1 h b b2, Option.bind_some, if_pos e4, st_e2, st_e3 h b]
  rfl
theorem st_c1 (w0 w1 w x3 x4 : Sl) : fRng (aCons (fCon (.int 4)) (aNil)) [w0, w1, w, x3, x4, .no, .no] = some (rngD 0 4, [w0, w1, w, x3, x4, .no, .no]) := by
  have s2 : small62 4 = true := small62_of (by omega) (by omega)
  have e : aCons (fCon (.int 4)) (aNil) [w0, w1, w, x3, x4, .no, .no] = some ([.int 4], [w0, w1, w, x3, x4, .no, .no]) := rfl
  unfold fRng
  rw [e, Option.bind_some]
  show (if small62 4 then some (rngD 0 (4 : Int).toNat, _) else none) = _
  rw [s2]
  rfl
theorem st_cell (w0 w1 w x3 : Sl) (i : Int) : fLc (.nm 5) [5] (fRng (aCons (fCon (.int 4)) (aNil))) (cYes) (fTup (aCons (fCon (.str "cell")) (aCons (fVar 4) (aCons (fVar 5) (aNil))))) [w0, w1, w, x3, .fz (.int i), .no, .no] = some (.list [.tuple [.str "cell", .int i, .int 0], .tuple [.str "cell", .int i, .int 1], .tuple [.str "cell", .int i, .int 2], .tuple [.str "cell", .int i, .int 3]], [w0, w1, w, x3, .fz (.int i), .no, .no]) := by
  have big := line_big
  have e2 := compL_map (T := .nm 5) (vs := [5]) (f := fTup (aCons (fCon (.str "cell")) (aCons (fVar 4) (aCons (fVar 5) (aNil))))) (δ := [w0, w1, w, x3, .fz (.int i), .no, .no]) (fun d => .tuple [.str "cell", .int i, d]) (rngD 0 4) fun d _ => by
    refine ⟨[w0, w1, w, x3, .fz (.int i), .fz d, .no], [w0, w1, w, x3, .fz (.int i), .fz d, .no], ?_, ?_, rfl⟩
    · simp [bindT]
    · have z : 3 ≤ sizeLine := by omega
      simp [fTup, aCons, aNil, fCon, fVar, z]
  have z : 4 ≤ sizeLine := by omega
  have e4 : (noS [5] [w0, w1, w, x3, .fz (.int i), .no, .no] && decide ((rngD 0 4).length ≤ sizeLine)) = true := by
    rw [rngD_length, decide_eq_true z]
    rfl
  unfold fLc
  rw [st_c1, Option.bind_some, if_pos e4, e2]
  rfl
theorem st_p1 (w0 w1 w x3 x4 : Sl) : fRng (aCons (fCon (.int 40)) (aNil)) [w0, w1, w, x3, x4, .no, .no] = some (rngD 0 40, [w0, w1, w, x3, x4, .no, .no]) := by
  have s2 : small62 40 = true := small62_of (by omega) (by omega)
  have e : aCons (fCon (.int 40)) (aNil) [w0, w1, w, x3, x4, .no, .no] = some ([.int 40], [w0, w1, w, x3, x4, .no, .no]) := rfl
  unfold fRng
  rw [e, Option.bind_some]
  show (if small62 40 then some (rngD 0 (40 : Int).toNat, _) else none) = _
  rw [s2]
  rfl
theorem st_h1 (h b : Nat) (h2 : h ≤ 8) (w : Sl) : fRng (aCons (fCon (.int 1)) (aCons (f2 addA (fVar 0) (fCon (.int 1))) (aNil))) [.fz (.int (h : Nat)), .fz (.int (b : Nat)), w, .no, .no, .no, .no] = some (rngD 1 h, [.fz (.int (h : Nat)), .fz (.int (b : Nat)), w, .no, .no, .no, .no]) := by
  have s1 : small62 ((h : Int) + 1) = true := small62_of (by omega) (by omega)
  have s2 : small62 1 = true := small62_of (by omega) (by omega)
  have e : aCons (fCon (.int 1)) (aCons (f2 addA (fVar 0) (fCon (.int 1))) (aNil)) [.fz (.int (h : Nat)), .fz (.int (b : Nat)), w, .no, .no, .no, .no] = some ([.int 1, .int ((h : Int) + 1)], [.fz (.int (h : Nat)), .fz (.int (b : Nat)), w, .no, .no, .no, .no]) := rfl
  unfold fRng
  rw [e, Option.bind_some]
  show (if small62 1 && small62 ((h : Int) + 1) then some (rngD 1 ((h : Int) + 1 - 1).toNat, _) else none) = _
  rw [s1, s2, show ((h : Int) + 1 - 1).toNat = h by omega]
  rfl
end K03

namespace K03
open PySem PySem.Spec PyProof.Rows L2 Z
theorem sSeq_nx {g g' : List Sl → Option Out} {δ δ1 : List Sl} (h : g δ = some (.nx δ1)) : sSeq g g' δ = g' δ1 := by
  unfold sSeq
  rw [h]
  rfl
theorem sFor_at {T : Tt} {f : List Sl → Option (List D × List Sl)} {b : List Sl → Option Out} {δ δ1 : List Sl} {ds : List D} (h : f δ = some (ds, δ1)) : sFor T f b δ = forL T b ds δ1 := by
  unfold sFor
  rw [h]
  rfl
theorem ext_at {f : List Sl → Option (D × List Sl)} {w0 w1 x3 x4 x5 x6 : Sl} {ds es : List D} (h : f [w0, w1, .ow (.list ds), x3, x4, x5, x6] = some (.list es, [w0, w1, .ow (.list ds), x3, x4, x5, x6])) (hz : ds.length + es.length ≤ sizeLine) :
    sExp (fExt 2 f) [w0, w1, .ow (.list ds), x3, x4, x5, x6] = some (.nx [w0, w1, .ow (.list (ds ++ es)), x3, x4, x5, x6]) := by
  simp [sExp, fExt, ownL, h, hz]
theorem laid_ok (h b : Nat) (h2 : h ≤ 8) (b2 : b ≤ 12) : φ__law_laid_out [.fz (.int (h : Nat)), .fz (.int (b : Nat))] = some (.list (Wl h b (cnt h b)), [.fz (.int (h : Nat)), .fz (.int (b : Nat))]) := by
  have big := line_big
  -- the heads
  obtain ⟨δ1, f1, x3, rfl⟩ := forL_inv (T := .nm 3) (b := sSeq (sExp (fExt 2 (fLst (aCons (fTup (aCons (fCon (.str "kind")) (aCons (fVar 3) (aNil)))) (aCons (fTup (aCons (fCon (.str "count")) (aCons (fVar 3) (aNil)))) (aCons (fTup (aCons (fCon (.str "length")) (aCons (fVar 3) (aNil)))) (aCons (fTup (aCons (fCon (.str "sum")) (aCons (fVar 3) (aNil)))) (aCons (fTup (aCons (fCon (.str "slot")) (aCons (fVar 3) (aCons (fCon (.int 0)) (aNil))))) (aCons (fTup (aCons (fCon (.str "slot")) (aCons (fVar 3) (aCons (fCon (.int 1)) (aNil))))) (aCons (fTup (aCons (fCon (.str "slot")) (aCons (fVar 3) (aCons (fCon (.int 2)) (aNil))))) (aNil))))))))))) (sNil))
    (fun k δ => ∃ x3, δ = [.fz (.int (h : Nat)), .fz (.int (b : Nat)), .ow (.list (Wl h b (7 * k))), x3, .no, .no, .no]) (rngD 1 h) 0 [.fz (.int (h : Nat)), .fz (.int (b : Nat)), .ow (.list []), .no, .no, .no, .no]
    (fun i d δ hd hI => by
      obtain ⟨x3, rfl⟩ := hI
      obtain ⟨hi, rfl⟩ := rngD_at hd
      refine ⟨[.fz (.int (h : Nat)), .fz (.int (b : Nat)), .ow (.list (Wl h b (7 * (0 + i)))), .fz (.int (1 + (i : Nat))), .no, .no, .no], [.fz (.int (h : Nat)), .fz (.int (b : Nat)), .ow (.list (Wl h b (7 * (0 + i + 1)))), .fz (.int (1 + (i : Nat))), .no, .no, .no], by simp [bindT], ?_, _, rfl⟩
      have e : Wl h b (7 * (0 + i + 1)) = Wl h b (7 * i) ++ [.tuple [.str "kind", .int (1 + (i : Nat))], .tuple [.str "count", .int (1 + (i : Nat))], .tuple [.str "length", .int (1 + (i : Nat))], .tuple [.str "sum", .int (1 + (i : Nat))], .tuple [.str "slot", .int (1 + (i : Nat)), .int 0], .tuple [.str "slot", .int (1 + (i : Nat)), .int 1], .tuple [.str "slot", .int (1 + (i : Nat)), .int 2]] := by
        rw [← W_head h b i hi, show 7 * (0 + i + 1) = 7 * i + 7 by omega]
        exact map_add _ _ _
      have z : 7 * i + 7 ≤ sizeLine := by omega
      have z2 : 7 ≤ sizeLine := by omega
      have z3 : 2 ≤ sizeLine := by omega
      have z4 : 3 ≤ sizeLine := by omega
      rw [e]
      simp [sSeq, sExp, sNil, fExt, ownL, fLst, fTup, aCons, aNil, fCon, fVar, Wl_len, z, z2, z3, z4])
    ⟨.no, rfl⟩
  rw [rngD_length, Nat.zero_add] at f1
  -- the cells of the blocks
  obtain ⟨δ2, f3, x4, rfl⟩ := forL_inv (T := .nm 4) (b := sSeq (sExp (fExt 2 (fLc (.nm 5) [5] (fRng (aCons (fCon (.int 4)) (aNil))) (cYes) (fTup (aCons (fCon (.str "cell")) (aCons (fVar 4) (aCons (fVar 5) (aNil)))))))) (sNil))
    (fun k δ => ∃ x4, δ = [.fz (.int (h : Nat)), .fz (.int (b : Nat)), .ow (.list (Wl h b (7 * h + b + 4 * k))), x3, x4, .no, .no]) (rngD 1 b) 0 [.fz (.int (h : Nat)), .fz (.int (b : Nat)), .ow (.list (Wl h b (7 * h + b))), x3, .no, .no, .no]
    (fun i d δ hd hI => by
      obtain ⟨x4, rfl⟩ := hI
      obtain ⟨hi, rfl⟩ := rngD_at hd
      refine ⟨[.fz (.int (h : Nat)), .fz (.int (b : Nat)), .ow (.list (Wl h b (7 * h + b + 4 * (0 + i)))), x3, .fz (.int (1 + (i : Nat))), .no, .no], [.fz (.int (h : Nat)), .fz (.int (b : Nat)), .ow (.list (Wl h b (7 * h + b + 4 * (0 + i + 1)))), x3, .fz (.int (1 + (i : Nat))), .no, .no], by simp [bindT], ?_, _, rfl⟩
      have e : Wl h b (7 * h + b + 4 * (0 + i + 1)) = Wl h b (7 * h + b + 4 * i) ++ [.tuple [.str "cell", .int (1 + (i : Nat)), .int 0], .tuple [.str "cell", .int (1 + (i : Nat)), .int 1], .tuple [.str "cell", .int (1 + (i : Nat)), .int 2], .tuple [.str "cell", .int (1 + (i : Nat)), .int 3]] := by
        rw [← W_cell h b i hi, show 7 * h + b + 4 * (0 + i + 1) = 7 * h + b + 4 * i + 4 by omega]
        exact map_add _ _ _
      have ec := fun w : Sl => st_cell (.fz (.int (h : Nat))) (.fz (.int (b : Nat))) w x3 (1 + (i : Nat))
      have z : 7 * h + b + 4 * i + 4 ≤ sizeLine := by omega
      rw [e]
      simp [sSeq, sExp, sNil, fExt, ownL, ec, Wl_len, z])
    ⟨.no, rfl⟩
  rw [rngD_length, Nat.zero_add] at f3
  -- the log
  have e3 : Wl h b (7 * h + b + 4 * b) ++ [.tuple [.str "mark"], .tuple [.str "seal"]] = Wl h b (7 * h + b + 4 * b + 2) := by
    rw [← W_log h b]
    exact (map_add _ _ _).symm
  obtain ⟨δ3, f4, x6, rfl⟩ := forL_inv (T := .nm 6) (b := sSeq (sExp (fExt 2 (fLst (aCons (fTup (aCons (fCon (.str "place")) (aCons (fVar 6) (aNil)))) (aCons (fTup (aCons (fCon (.str "worth")) (aCons (fVar 6) (aNil)))) (aNil)))))) (sNil))
    (fun k δ => ∃ x6, δ = [.fz (.int (h : Nat)), .fz (.int (b : Nat)), .ow (.list (Wl h b (7 * h + b + 4 * b + 2 + 2 * k))), x3, x4, .no, x6]) (rngD 0 40) 0 [.fz (.int (h : Nat)), .fz (.int (b : Nat)), .ow (.list (Wl h b (7 * h + b + 4 * b + 2))), x3, x4, .no, .no]
    (fun i d δ hd hI => by
      obtain ⟨x6, rfl⟩ := hI
      obtain ⟨hi, rfl⟩ := rngD_at hd
      rw [Int.zero_add]
      refine ⟨[.fz (.int (h : Nat)), .fz (.int (b : Nat)), .ow (.list (Wl h b (7 * h + b + 4 * b + 2 + 2 * (0 + i)))), x3, x4, .no, .fz (.int (i : Nat))], [.fz (.int (h : Nat)), .fz (.int (b : Nat)), .ow (.list (Wl h b (7 * h + b + 4 * b + 2 + 2 * (0 + i + 1)))), x3, x4, .no, .fz (.int (i : Nat))], by simp [bindT], ?_, _, rfl⟩
      have e : Wl h b (7 * h + b + 4 * b + 2 + 2 * (0 + i + 1)) = Wl h b (7 * h + b + 4 * b + 2 + 2 * i) ++ [.tuple [.str "place", .int (i : Nat)], .tuple [.str "worth", .int (i : Nat)]] := by
        rw [← W_pair h b i, show 7 * h + b + 4 * b + 2 + 2 * (0 + i + 1) = 7 * h + b + 4 * b + 2 + 2 * i + 2 by omega]
        exact map_add _ _ _
      have z : 7 * h + b + 4 * b + 2 + 2 * i + 2 ≤ sizeLine := by omega
      have z2 : 2 ≤ sizeLine := by omega
      rw [e]
      simp [sSeq, sExp, sNil, fExt, ownL, fLst, fTup, aCons, aNil, fCon, fVar, Wl_len, z, z2])
    ⟨.no, rfl⟩
  rw [rngD_length, Nat.zero_add, show 7 * h + b + 4 * b + 2 + 2 * 40 = cnt h b by unfold cnt; omega] at f4
  refine fnF_rt (δ := [.fz (.int (h : Nat)), .fz (.int (b : Nat)), .ow (.list (Wl h b (cnt h b))), x3, x4, .no, x6]) rfl ?_ rfl
  unfold g__law_laid_out
  refine (sSeq_nx (δ1 := [.fz (.int (h : Nat)), .fz (.int (b : Nat)), .ow (.list []), .no, .no, .no, .no]) rfl).trans ?_
  refine (sSeq_nx ((sFor_at (st_h1 h b h2 _)).trans f1)).trans ?_
  refine (sSeq_nx (ext_at (st_map h b b2 _ x3) (by rw [Wl_len, List.length_map, List.length_range]; omega))).trans ?_
  rw [show Wl h b (7 * h) ++ ((List.range b).map fun j => whatM (h : Nat) (b : Nat) ((7 * h + j : Nat) : Int)) = Wl h b (7 * h + b) from (map_add _ _ _).symm]
  refine (sSeq_nx ((sFor_at (st_e1 h b b2 _ x3)).trans f3)).trans ?_
  refine (sSeq_nx (ext_at (es := [.tuple [.str "mark"], .tuple [.str "seal"]]) (by simp [fLst, fTup, aCons, aNil, fCon, show 1 ≤ sizeLine by omega, show 2 ≤ sizeLine by omega]) (by rw [Wl_len, List.length_cons, List.length_cons, List.length_nil]; omega))).trans ?_
  rw [e3]
  refine (sSeq_nx ((sFor_at (st_p1 _ _ _ x3 x4)).trans f4)).trans ?_
  rfl
end K03

namespace K03
open PySem PySem.Spec PyProof.Rows L2 Z
theorem mul_one (x : D) (k : Int) (h0 : -1000 ≤ k) (h1 : k ≤ 1000) : mulA (.tuple [x]) (.int k) = some (.tuple (List.replicate k.toNat x)) := by
  have e : mulD (.tuple [x]) (.int k) = some (.tuple (List.replicate k.toNat [x]).flatten) := by
    show (if ((!([x] : List D).isEmpty) && decide (-1000 ≤ k) && decide (k ≤ 1000) && decide (([x] : List D).length ≤ 1000)) = true then _ else none) = _
    rw [decide_eq_true h0, decide_eq_true h1]
    rfl
  unfold mulA
  rw [e, Option.some_or]
  have : (List.replicate k.toNat [x]).flatten = List.replicate k.toNat x := by
    induction k.toNat with
    | zero => rfl
    | succ n ih => rw [List.replicate_succ, List.replicate_succ, List.flatten_cons, ih]; rfl
  rw [this]
theorem add_tup (a b : List D) (h : a.length + b.length ≤ 1000000) : addA (.tuple a) (.tuple b) = some (.tuple (a ++ b)) := by
  have big := line_big
  have e : addD (.tuple a) (.tuple b) = some (.tuple (a ++ b)) := if_pos (by omega)
  unfold addA
  rw [e, Option.some_or]
def C1 : List D := [.int 2, .int 0, .int 0, .int 0, .int 0, .int 0, .int 0]
def C2 : List D := [.int 2, .int 0, .int 0, .int 0, .int 1, .int 2, .int 3]
def C3 (h : Nat) : List D := List.replicate (7 * (h - 2)) (.int 0)
def C4 (b : Nat) : List D := List.replicate 3 (.int 1) ++ List.replicate (b - 3) (.int 0)
def C5 (b : Nat) : List D := List.replicate (4 * b + 82) (.int 0)
def Cs (h b : Nat) : List D := (((C1 ++ C2) ++ C3 h) ++ C4 b) ++ C5 b
theorem Cs_len (h b : Nat) (h1 : 2 ≤ h) (b1 : 3 ≤ b) : (Cs h b).length = cnt h b := by
  simp [Cs, C1, C2, C3, C4, C5, cnt]
  omega
theorem Cs_int (h b : Nat) : ∀ d ∈ Cs h b, ∃ i : Int, d = .int i := by
  intro d hd
  simp only [Cs, C1, C2, C3, C4, C5, List.mem_append, List.mem_cons, List.mem_replicate, List.not_mem_nil, or_false] at hd
  rcases hd with (((hd | hd) | hd) | (hd | hd)) | hd
  · rcases hd with rfl | rfl | rfl | rfl | rfl | rfl | rfl <;> exact ⟨_, rfl⟩
  · rcases hd with rfl | rfl | rfl | rfl | rfl | rfl | rfl <;> exact ⟨_, rfl⟩
  · exact ⟨0, hd.2⟩
  · exact ⟨1, hd.2⟩
  · exact ⟨0, hd.2⟩
  · exact ⟨0, hd.2⟩
theorem new_ok (h b : Nat) (h1 : 2 ≤ h) (h2 : h ≤ 8) (b1 : 3 ≤ b) (b2 : b ≤ 12) : φ_new_store [.fz (.int (h : Nat)), .fz (.int (b : Nat))] = some (.tuple [.int (h : Nat), .int (b : Nat), .tuple (Cs h b)], [.fz (.int (h : Nat)), .fz (.int (b : Nat))]) := by
  have big := line_big
  have z7 : 7 ≤ sizeLine := by omega
  have z4 : 4 ≤ sizeLine := by omega
  have z3 : 3 ≤ sizeLine := by omega
  have z1 : 1 ≤ sizeLine := by omega
  have a1 : addA (.tuple [.int 2, .int 0, .int 0, .int 0]) (.tuple [.int 1, .int 2, .int 3]) = some (.tuple C2) := add_tup _ _ (by decide)
  have a2 : mulA (.int 7) (.int ((h : Int) - 2)) = some (.int (7 * ((h : Int) - 2))) := mulA_l _ _ rfl
  have a3 : mulA (.tuple [.int 0]) (.int (7 * ((h : Int) - 2))) = some (.tuple (C3 h)) := by
    rw [mul_one _ _ (by omega) (by omega), show (7 * ((h : Int) - 2)).toNat = 7 * (h - 2) by omega]
    rfl
  have a4 : mulA (.tuple [.int 1]) (.int 3) = some (.tuple (List.replicate 3 (.int 1))) := mul_one _ _ (by decide) (by decide)
  have a5 : mulA (.tuple [.int 0]) (.int ((b : Int) - 3)) = some (.tuple (List.replicate (b - 3) (.int 0))) := by
    rw [mul_one _ _ (by omega) (by omega), show ((b : Int) - 3).toNat = b - 3 by omega]
  have a6 : addA (.tuple (List.replicate 3 (.int 1))) (.tuple (List.replicate (b - 3) (.int 0))) = some (.tuple (C4 b)) := add_tup _ _ (by simp; omega)
  have a7 : mulA (.int 4) (.int (b : Nat)) = some (.int (4 * (b : Nat))) := mulA_l _ _ rfl
  have a8 : mulA (.tuple [.int 0]) (.int (4 * (b : Nat) + 82)) = some (.tuple (C5 b)) := by
    rw [mul_one _ _ (by omega) (by omega), show (4 * (b : Int) + 82).toNat = 4 * b + 82 by omega]
    rfl
  have b0 : addA (.tuple C1) (.tuple C2) = some (.tuple (C1 ++ C2)) := add_tup _ _ (by decide)
  have b3 : addA (.tuple (C1 ++ C2)) (.tuple (C3 h)) = some (.tuple ((C1 ++ C2) ++ C3 h)) := add_tup _ _ (by simp [C1, C2, C3]; omega)
  have b4 : addA (.tuple ((C1 ++ C2) ++ C3 h)) (.tuple (C4 b)) = some (.tuple (((C1 ++ C2) ++ C3 h) ++ C4 b)) := add_tup _ _ (by simp [C1, C2, C3, C4]; omega)
  have b5 : addA (.tuple (((C1 ++ C2) ++ C3 h) ++ C4 b)) (.tuple (C5 b)) = some (.tuple (Cs h b)) := add_tup _ _ (by simp [C1, C2, C3, C4, C5]; omega)
  have l3 : lenD (.tuple [.int 1, .int 2, .int 3]) = some (.int 3) := rfl
  refine fnF_rt (δ := [.fz (.int (h : Nat)), .fz (.int (b : Nat)), .fz (.tuple C1), .fz (.tuple C2), .fz (.tuple (C3 h)), .fz (.tuple (C4 b))]) rfl ?_ rfl
  unfold g_new_store
  refine (sSeq_nx (δ1 := [.fz (.int (h : Nat)), .fz (.int (b : Nat)), .fz (.tuple C1), .no, .no, .no]) (by simp [sSet, fTup, aCons, aNil, fCon, z7, C1])).trans ?_
  refine (sSeq_nx (δ1 := [.fz (.int (h : Nat)), .fz (.int (b : Nat)), .fz (.tuple C1), .fz (.tuple C2), .no, .no]) (by simp [sSet, f2, fTup, aCons, aNil, fCon, z4, a1])).trans ?_
  refine (sSeq_nx (δ1 := [.fz (.int (h : Nat)), .fz (.int (b : Nat)), .fz (.tuple C1), .fz (.tuple C2), .fz (.tuple (C3 h)), .no]) (by simp [sSet, f2, fTup, aCons, aNil, fCon, fVar, z1, subD_int, a2, a3])).trans ?_
  refine (sSeq_nx (δ1 := [.fz (.int (h : Nat)), .fz (.int (b : Nat)), .fz (.tuple C1), .fz (.tuple C2), .fz (.tuple (C3 h)), .fz (.tuple (C4 b))]) (by simp only [sSet, f2, fA, g1, fTup, aCons, aNil, fCon, fVar, z1, l3, subD_int, a4, a5, a6, List.getElem?_cons_zero, List.getElem?_cons_succ, Option.bind_some, Option.map_some, List.length_cons, List.length_nil, Nat.zero_add, if_true, List.set_cons_zero, List.set_cons_succ, Nat.reduceAdd, Nat.reduceLT])).trans ?_
  simp only [sSeq, sRet, f2, fTup, aCons, aNil, fCon, fVar, z1, z3, addA_int, a7, a8, b0, b3, b4, b5, List.getElem?_cons_zero, List.getElem?_cons_succ, Option.bind_some, Option.map_some, List.length_cons, List.length_nil, Nat.zero_add, Nat.reduceAdd, if_true]
theorem num_ok (i : Int) : φ_is_number [.fz (.int i)] = some (.bool true, [.fz (.int i)]) := rfl
theorem shape_ok (h b : Nat) (h1 : 2 ≤ h) (h2 : h ≤ 8) (b1 : 3 ≤ b) (b2 : b ≤ 12) : φ_is_shape [.fz (.int (h : Nat)), .fz (.int (b : Nat))] = some (.bool true, [.fz (.int (h : Nat)), .fz (.int (b : Nat))]) := by
  have e1 : callF [] true φ_is_number (kCons (fVar 0) kNil) [.fz (.int (h : Nat)), .fz (.int (b : Nat))] = some (.bool true, [.fz (.int (h : Nat)), .fz (.int (b : Nat))]) := callF_d [.int (h : Nat)] rfl (num_ok _)
  have e2 : callF [] true φ_is_number (kCons (fVar 1) kNil) [.fz (.int (h : Nat)), .fz (.int (b : Nat))] = some (.bool true, [.fz (.int (h : Nat)), .fz (.int (b : Nat))]) := callF_d [.int (b : Nat)] rfl (num_ok _)
  have l : ∀ x y : Int, x ≤ y → leD (.int x) (.int y) = some true := fun x y h => by
    show some (decide (x ≤ y)) = _
    rw [decide_eq_true h]
  have c1 := l 2 (h : Nat) (by omega)
  have c2 := l (h : Nat) 8 (by omega)
  have c3 := l 3 (b : Nat) (by omega)
  have c4 := l (b : Nat) 12 (by omega)
  refine fnF_rt (δ := [.fz (.int (h : Nat)), .fz (.int (b : Nat))]) rfl ?_ rfl
  simp only [g_is_shape, sSeq, sIf, sRet, sNil, gOr, gNot, fAnd, fChain, toB, bD, fCon, fVar, e1, e2, c1, c2, c3, c4, List.append_nil, List.getElem?_cons_zero, List.getElem?_cons_succ, Option.bind_some, Option.map_some, Bool.not_true, List.length_cons, List.length_nil, List.replicate_zero, Nat.sub_self, Nat.zero_add, Nat.reduceAdd]
theorem many_ok (h b : Nat) : φ_many_cells [.fz (.int (h : Nat)), .fz (.int (b : Nat))] = some (.int (cnt h b : Nat), [.fz (.int (h : Nat)), .fz (.int (b : Nat))]) := by
  refine fnF_rt (δ := [.fz (.int (h : Nat)), .fz (.int (b : Nat))]) rfl ?_ rfl
  have e : 7 * (h : Int) + (1 + 4) * (b : Int) + 82 = (cnt h b : Nat) := by unfold cnt; omega
  simp only [g_many_cells, sSeq, sRet, f2, fCon, fVar, addA_int, mulA_l 7 _ rfl, mulA_l (1 + 4) _ rfl, e, List.append_nil, List.getElem?_cons_zero, List.getElem?_cons_succ, Option.bind_some, Option.map_some, List.length_cons, List.length_nil, List.replicate_zero, Nat.sub_self, Nat.zero_add, Nat.reduceAdd]
end K03

namespace K03
open PySem PySem.Spec PyProof.Rows L2 Z
theorem bools_true : ∀ n : Nat, boolsOf (List.replicate n (.bool true)) = some (List.replicate n true)
  | 0 => rfl
  | n + 1 => by
    rw [List.replicate_succ, List.replicate_succ]
    show (boolsOf (List.replicate n (.bool true))).map (true :: ·) = _
    rw [bools_true n]
    rfl
theorem is_store_ok (h b : Nat) (h1 : 2 ≤ h) (h2 : h ≤ 8) (b1 : 3 ≤ b) (b2 : b ≤ 12) : φ_is_store [.fz (.tuple [.int (h : Nat), .int (b : Nat), .tuple (Cs h b)])] = some (.bool true, [.fz (.tuple [.int (h : Nat), .int (b : Nat), .tuple (Cs h b)])]) := by
  have big := line_big
  generalize hst : PyData.tuple [.int (h : Nat), .int (b : Nat), .tuple (Cs h b)] = st
  have q0 : idxD st (.int 0) = some (.int (h : Nat)) := by rw [← hst]; exact t0 _ _
  have q1 : idxD st (.int 1) = some (.int (b : Nat)) := by rw [← hst]; exact t1 _ _ _
  have q2 : idxD st (.int 2) = some (.tuple (Cs h b)) := by rw [← hst]; exact t2 _ _ _ _
  have q3 : lenD st = some (.int 3) := by rw [← hst]; rfl
  have q4 : isiB "tuple" st = true := by rw [← hst]; rfl
  have l1 : lenD (.tuple (Cs h b)) = some (.int (cnt h b : Nat)) := by
    show some (PyData.int ((Cs h b).length : Nat)) = _
    rw [Cs_len h b h1 b1]
  have ne : ∀ a : Int, neD (.int a) (.int a) = some false := fun a => by
    have e : eqD (.int a) (.int a) = some (a == a) := rfl
    unfold neD
    rw [e, beq_self_eq_true]
    rfl
  have e1 : ∀ x y, callF [] true φ_is_shape (kCons (f2 idxD (fVar 0) (fCon (.int 0))) (kCons (f2 idxD (fVar 0) (fCon (.int 1))) kNil)) [.fz st, x, y] = some (.bool true, [.fz st, x, y]) := fun x y => callF_d [.int (h : Nat), .int (b : Nat)] (by simp only [kCons, kNil, f2, fCon, fVar, q0, q1, List.getElem?_cons_zero, Option.bind_some, Option.map_some, List.map_cons, List.map_nil]) (shape_ok h b h1 h2 b1 b2)
  have e2 : ∀ x y, callF [] true φ_many_cells (kCons (f2 idxD (fVar 0) (fCon (.int 0))) (kCons (f2 idxD (fVar 0) (fCon (.int 1))) kNil)) [.fz st, x, y] = some (.int (cnt h b : Nat), [.fz st, x, y]) := fun x y => callF_d [.int (h : Nat), .int (b : Nat)] (by simp only [kCons, kNil, f2, fCon, fVar, q0, q1, List.getElem?_cons_zero, Option.bind_some, Option.map_some, List.map_cons, List.map_nil]) (many_ok h b)
  have e3 : compL (.nm 2) [2] cYes (callF [] true φ_is_number (kCons (fVar 2) kNil)) (Cs h b) [.fz st, .fz (.tuple (Cs h b)), .no] = some ((Cs h b).map (fun _ => .bool true), [.fz st, .fz (.tuple (Cs h b)), .no]) := compL_map _ _ fun d hd => by
    obtain ⟨i, rfl⟩ := Cs_int h b d hd
    exact ⟨[.fz st, .fz (.tuple (Cs h b)), .fz (.int i)], [.fz st, .fz (.tuple (Cs h b)), .fz (.int i)], by simp [bindT], callF_d [.int i] rfl (num_ok i), rfl⟩
  have e4 : fLc (.nm 2) [2] (fIt (fVar 1)) cYes (callF [] true φ_is_number (kCons (fVar 2) kNil)) [.fz st, .fz (.tuple (Cs h b)), .no] = some (.list (List.replicate (cnt h b) (.bool true)), [.fz st, .fz (.tuple (Cs h b)), .no]) := by
    have e5 : fIt (fVar 1) [.fz st, .fz (.tuple (Cs h b)), .no] = some (Cs h b, [.fz st, .fz (.tuple (Cs h b)), .no]) := rfl
    have z : cnt h b ≤ sizeLine := by unfold cnt; omega
    have e6 : (noS [2] [.fz st, .fz (.tuple (Cs h b)), .no] && decide ((Cs h b).length ≤ sizeLine)) = true := by
      rw [Cs_len h b h1 b1, decide_eq_true z]
      rfl
    have e7 : (Cs h b).map (fun _ => PyData.bool true) = List.replicate (cnt h b) (.bool true) := by
      rw [List.map_const', Cs_len h b h1 b1]
    unfold fLc
    rw [e5, Option.bind_some, if_pos e6, e3, e7]
    rfl
  have e8 : allD (.list (List.replicate (cnt h b) (.bool true))) = some (.bool true) := by
    show (boolsOf (List.replicate (cnt h b) (.bool true))).map (fun bs => PyData.bool (bs.all id)) = _
    rw [bools_true]
    simp
  have q5 : isiB "tuple" (.tuple (Cs h b)) = true := rfl
  refine fnF_rt (δ := [.fz st, .fz (.tuple (Cs h b)), .no]) rfl ?_ rfl
  unfold g_is_store
  refine (sSeq_nx (δ1 := [.fz st, .no, .no]) (by
    show sIf _ _ _ [.fz st, .no, .no] = _
    simp only [sIf, sNil, gOr, gNot, toB, f1, f2, fA, g1, aCons, aNil, bD, isiD, fCon, fVar, e1, q3, q4, ne, List.getElem?_cons_zero, Option.bind_some, Option.map_some, Bool.not_true])).trans ?_
  refine (sSeq_nx (δ1 := [.fz st, .fz (.tuple (Cs h b)), .no]) (by simp only [sSet, f2, fCon, fVar, q2, List.getElem?_cons_zero, Option.bind_some, Option.map_some]; rfl)).trans ?_
  refine (sSeq_nx (δ1 := [.fz st, .fz (.tuple (Cs h b)), .no]) (by simp only [sIf, sNil, gOr, gNot, toB, f1, f2, fA, g1, aCons, aNil, bD, isiD, fVar, e2, l1, q5, ne, List.getElem?_cons_zero, List.getElem?_cons_succ, Option.bind_some, Option.map_some, Bool.not_true])).trans ?_
  simp only [sSeq, sRet, fA, g1, aCons, aNil, e4, e8, Option.bind_some, Option.map_some]
theorem ne_int (a : Int) : neD (.int a) (.int a) = some false := by
  have e : eqD (.int a) (.int a) = some (a == a) := rfl
  unfold neD
  rw [e, beq_self_eq_true]
  rfl
theorem is_so_ok (h b : Nat) (h1 : 2 ≤ h) (h2 : h ≤ 8) (b1 : 3 ≤ b) (b2 : b ≤ 12) : φ__law_is_so [.fz (.int (h : Nat)), .fz (.int (b : Nat))] = some (.bool true, [.fz (.int (h : Nat)), .fz (.int (b : Nat))]) := by
  have s1 := new_ok h b h1 h2 b1 b2
  have s2 := Cs_len h b h1 b1
  have s3 := is_store_ok h b h1 h2 b1 b2
  obtain ⟨y4, y5, y6, y7, lp⟩ := loop_ok (h : Nat) (b : Nat) (.fz (.list (Wl h b (cnt h b)))) (.fz (.tuple [.int (h : Nat), .int (b : Nat), .tuple (Cs h b)])) (by omega) (by omega) (by omega) (by omega) (List.range (cnt h b)) .no .no .no .no (fun n hn => by
    have := List.mem_range.mp hn
    unfold cnt at this
    omega)
  have e1 : callF [] true φ__law_laid_out (kCons (fVar 0) (kCons (fVar 1) kNil)) [.fz (.int (h : Nat)), .fz (.int (b : Nat)), .no, .no, .no, .no, .no, .no] = some (.list (Wl h b (cnt h b)), [.fz (.int (h : Nat)), .fz (.int (b : Nat)), .no, .no, .no, .no, .no, .no]) := callF_d [.int (h : Nat), .int (b : Nat)] rfl (laid_ok h b h2 b2)
  have e2 : ∀ z, callF [] true φ_new_store (kCons (fVar 0) (kCons (fVar 1) kNil)) [.fz (.int (h : Nat)), .fz (.int (b : Nat)), z, .no, .no, .no, .no, .no] = some (.tuple [.int (h : Nat), .int (b : Nat), .tuple (Cs h b)], [.fz (.int (h : Nat)), .fz (.int (b : Nat)), z, .no, .no, .no, .no, .no]) := fun z => callF_d [.int (h : Nat), .int (b : Nat)] rfl s1
  have e3 : ∀ u v z, callF [] true φ_is_store (kCons (fVar 3) kNil) [u, v, z, .fz (.tuple [.int (h : Nat), .int (b : Nat), .tuple (Cs h b)]), .no, .no, .no, .no] = some (.bool true, [u, v, z, .fz (.tuple [.int (h : Nat), .int (b : Nat), .tuple (Cs h b)]), .no, .no, .no, .no]) := fun u v z => callF_d [.tuple [.int (h : Nat), .int (b : Nat), .tuple (Cs h b)]] rfl s3
  refine fnF_rt (δ := [.fz (.int (h : Nat)), .fz (.int (b : Nat)), .fz (.list (Wl h b (cnt h b))), .fz (.tuple [.int (h : Nat), .int (b : Nat), .tuple (Cs h b)]), y4, y5, y6, y7]) rfl ?_ rfl
  have w : isNotD (.bool true) (.bool true) = some false := rfl
  have i2 : ∀ x y z : D, idxD (.tuple [x, y, z]) (.int 2) = some z := fun x y z => t2 x y z []
  rw [show g__law_is_so = sSeq (sSet 2 (callF [] true φ__law_laid_out (kCons (fVar 0) (kCons (fVar 1) (kNil))))) (sSeq (sSet 3 (callF [] true φ_new_store (kCons (fVar 0) (kCons (fVar 1) (kNil))))) (sSeq (sIf (gOr (fun δ => toB (f2 (bD isNotD) (callF [] true φ_is_store (kCons (fVar 3) (kNil))) (fCon (.bool true)) δ)) (fun δ => toB (f2 (bD neD) (fA (g1 lenD) (aCons (f2 idxD (fVar 3) (fCon (.int 2))) (aNil))) (fA (g1 lenD) (aCons (fVar 2) (aNil))) δ))) (sSeq (sRet (fCon (.bool false))) (sNil)) (sNil)) (sSeq (sFor (.cons (.nm 4) (.cons (.nm 5) (.nil))) (fEnum (fVar 2)) gTurn) (sSeq (sRet (fCon (.bool true))) (sNil))))) from rfl]
  have wz : enumD (Wl h b (cnt h b)) = (List.range (cnt h b)).map fun n => .tuple [.int (n : Nat), whatM (h : Nat) (b : Nat) (n : Nat)] := zip_range _ _
  have l1 : lenD (.tuple (Cs h b)) = some (.int (cnt h b : Nat)) := by
    show some (PyData.int ((Cs h b).length : Nat)) = _
    rw [s2]
  have l2 : lenD (.list (Wl h b (cnt h b))) = some (.int (cnt h b : Nat)) := by
    show some (PyData.int ((Wl h b (cnt h b)).length : Nat)) = _
    rw [Wl_len]
  refine (sSeq_nx (δ1 := [.fz (.int (h : Nat)), .fz (.int (b : Nat)), .fz (.list (Wl h b (cnt h b))), .no, .no, .no, .no, .no]) (by simp only [sSet]; erw [e1]; rfl)).trans ?_
  refine (sSeq_nx (δ1 := [.fz (.int (h : Nat)), .fz (.int (b : Nat)), .fz (.list (Wl h b (cnt h b))), .fz (.tuple [.int (h : Nat), .int (b : Nat), .tuple (Cs h b)]), .no, .no, .no, .no]) (by simp only [sSet, e2, Option.bind_some]; rfl)).trans ?_
  refine (sSeq_nx (δ1 := [.fz (.int (h : Nat)), .fz (.int (b : Nat)), .fz (.list (Wl h b (cnt h b))), .fz (.tuple [.int (h : Nat), .int (b : Nat), .tuple (Cs h b)]), .no, .no, .no, .no]) (by simp only [sIf, sNil, gOr, toB, f2, fA, g1, aCons, aNil, bD, fCon, fVar, e3, w, i2, l1, l2, ne_int, List.getElem?_cons_zero, List.getElem?_cons_succ, Option.bind_some, Option.map_some])).trans ?_
  refine (sSeq_nx ((sFor_at (ds := (List.range (cnt h b)).map fun n => .tuple [.int (n : Nat), whatM (h : Nat) (b : Nat) (n : Nat)]) (δ1 := [.fz (.int (h : Nat)), .fz (.int (b : Nat)), .fz (.list (Wl h b (cnt h b))), .fz (.tuple [.int (h : Nat), .int (b : Nat), .tuple (Cs h b)]), .no, .no, .no, .no]) (by simp only [fEnum, fVar, List.getElem?_cons_zero, List.getElem?_cons_succ, Option.bind_some, wz])).trans lp)).trans ?_
  rfl
theorem aCons_at {fa : List Sl → Option (D × List Sl)} {fr : List Sl → Option (List D × List Sl)} {δ : List Sl} {a : D} {r : List D} (h : fa δ = some (a, δ)) (hr : fr δ = some (r, δ)) : aCons fa fr δ = some (a :: r, δ) := by
  unfold aCons
  rw [h, Option.bind_some, hr]
  rfl
theorem fTup_at {f : List Sl → Option (List D × List Sl)} {δ : List Sl} {r : List D} (h : f δ = some (r, δ)) (hz : r.length ≤ 1000000) : fTup f δ = some (.tuple r, δ) := by
  unfold fTup
  rw [h, Option.bind_some]
  exact if_pos (Nat.le_trans hz line_big)
theorem fLst_at {f : List Sl → Option (List D × List Sl)} {δ : List Sl} {r : List D} (h : f δ = some (r, δ)) (hz : r.length ≤ 1000000) : fLst f δ = some (.list r, δ) := by
  unfold fLst
  rw [h, Option.bind_some]
  exact if_pos (Nat.le_trans hz line_big)
theorem fIt_at {f : List Sl → Option (D × List Sl)} {δ : List Sl} {r : List D} (h : f δ = some (.list r, δ)) : fIt f δ = some (r, δ) := by
  unfold fIt
  rw [h, Option.bind_some]
  rfl
theorem pair_at {fa fb : List Sl → Option (D × List Sl)} {δ : List Sl} {a b : D} (h : fa δ = some (a, δ)) (hr : fb δ = some (b, δ)) : fTup (aCons fa (aCons fb aNil)) δ = some (.tuple [a, b], δ) := fTup_at (aCons_at h (aCons_at hr rfl)) (by simp)
theorem law_turn (h b : Nat) (h1 : 2 ≤ h) (h2 : h ≤ 8) (b1 : 3 ≤ b) (b2 : b ≤ 12) (s d x y : Sl) : sSeq (sIf (gNot (fun δ => toB (callF [] true φ__law_is_so (kCons (fVar 4) (kCons (fVar 5) (kNil))) δ))) (sSeq (sRet (fCon (.bool false))) (sNil)) (sNil)) (sNil) [s, d, x, y, .fz (.int (h : Nat)), .fz (.int (b : Nat))] = some (.nx [s, d, x, y, .fz (.int (h : Nat)), .fz (.int (b : Nat))]) := by
  have e : callF [] true φ__law_is_so (kCons (fVar 4) (kCons (fVar 5) (kNil))) [s, d, x, y, .fz (.int (h : Nat)), .fz (.int (b : Nat))] = some (.bool true, [s, d, x, y, .fz (.int (h : Nat)), .fz (.int (b : Nat))]) := callF_d [.int (h : Nat), .int (b : Nat)] rfl (is_so_ok h b h1 h2 b1 b2)
  simp only [sSeq, sIf, sNil, gNot, toB, e, Option.bind_some, Option.map_some, Bool.not_true]
theorem law_loop (s d x y : Sl) : ∀ (l : List (Nat × Nat)) (u v : Sl), (∀ p ∈ l, 2 ≤ p.1 ∧ p.1 ≤ 8 ∧ 3 ≤ p.2 ∧ p.2 ≤ 12) → ∃ u' v', forL (.cons (.nm 4) (.cons (.nm 5) .nil)) (sSeq (sIf (gNot (fun δ => toB (callF [] true φ__law_is_so (kCons (fVar 4) (kCons (fVar 5) (kNil))) δ))) (sSeq (sRet (fCon (.bool false))) (sNil)) (sNil)) (sNil)) (l.map fun p => .tuple [.int (p.1 : Nat), .int (p.2 : Nat)]) [s, d, x, y, u, v] = some (.nx [s, d, x, y, u', v'])
  | [], u, v, _ => ⟨u, v, rfl⟩
  | (h, b) :: r, u, v, hl => by
    obtain ⟨h1, h2, b1, b2⟩ := hl (h, b) List.mem_cons_self
    obtain ⟨u', v', e⟩ := law_loop s d x y r (.fz (.int (h : Nat))) (.fz (.int (b : Nat))) (fun p hp => hl p (List.mem_cons_of_mem _ hp))
    refine ⟨u', v', ?_⟩
    have eb : bindT (.cons (.nm 4) (.cons (.nm 5) .nil)) (.tuple [.int (h : Nat), .int (b : Nat)]) [s, d, x, y, u, v] = some [s, d, x, y, .fz (.int (h : Nat)), .fz (.int (b : Nat))] := by simp [bindT, bindTs]
    rw [List.map_cons]
    unfold forL
    rw [eb, Option.bind_some, law_turn h b h1 h2 b1 b2, Option.bind_some]
    exact e
theorem call_draw (ns : List Int) (cs : List Int) (m n M : Int) (hM : 0 < M) (hM2 : M < 2 ^ 30) (hc : cs.length ≤ 63) : ∃ (r : Int) (cs' : List Int) (n' : Int), 0 ≤ r ∧ r < M ∧ cs'.length ≤ 63 ∧ callF [] true φ__law_draw (kIo 1 (kCons (fCon (.int M)) kNil)) [.scr ns, .dk cs m n, .no, .no, .no, .no] = some (.int r, [.scr ns, .dk cs' m n', .no, .no, .no, .no]) := by
  obtain ⟨r, cs', n', h1, h2, h3, h4⟩ := draw_ok cs m n M hM hM2 hc
  refine ⟨r, cs', n', h1, h2, h3, ?_⟩
  have e : kIo 1 (kCons (fCon (.int M)) kNil) [.scr ns, .dk cs m n, .no, .no, .no, .no] = some ([.io 1, .d (.int M)], [.scr ns, .dk cs m n, .no, .no, .no, .no]) := rfl
  have e2 : φ__law_draw [.dk cs m n, .fz (.int M)] = some (.int r, [.dk cs' m n', .fz (.int M)]) := h4
  unfold callF
  rw [e, Option.bind_some]
  show (if true then (φ__law_draw [.dk cs m n, .fz (.int M)]).bind _ else none) = _
  rw [if_pos rfl, e2]
  rfl
theorem law_true (ns : List Int) (_hn : ns.length ≤ 63) : ∃ outs, φ_law [.scr ns] = some (.bool true, outs) := by
  have big := line_big
  obtain ⟨r1, c1, n1, p1, p2, p3, p4⟩ := call_draw ns (deckOf ns) (mixOf ns) 0 7 (by decide) (by decide) (deckOf_len ns)
  obtain ⟨r2, c2, n2, q1, q2, q3, q4⟩ := call_draw ns c1 (mixOf ns) n1 10 (by decide) (by decide) p3
  obtain ⟨h, rfl⟩ : ∃ k : Nat, r1 = (k : Nat) := ⟨r1.toNat, by omega⟩
  obtain ⟨b, rfl⟩ : ∃ k : Nat, r2 = (k : Nat) := ⟨r2.toNat, by omega⟩
  have eh : (2 : Int) + (h : Nat) = ((2 + h : Nat) : Int) := by omega
  have eb : (3 : Int) + (b : Nat) = ((3 + b : Nat) : Int) := by omega
  obtain ⟨u, v, lp⟩ := law_loop (.scr ns) (.dk c2 (mixOf ns) n2) (.fz (.int ((2 + h : Nat) : Int))) (.fz (.int ((3 + b : Nat) : Int))) [(2 + h, 3 + b), (2, 3), (8, 12), (8, 3), (2, 12), (2 + h, 3 + b)] .no .no (by
    intro p hp
    simp only [List.mem_cons, List.not_mem_nil, or_false] at hp
    rcases hp with rfl | rfl | rfl | rfl | rfl | rfl <;> (dsimp only; omega))
  refine ⟨[.scr ns], fnF_rt (δ := [.scr ns, .dk c2 (mixOf ns) n2, .fz (.int ((2 + h : Nat) : Int)), .fz (.int ((3 + b : Nat) : Int)), u, v]) rfl ?_ rfl⟩
  have z2 : 2 ≤ sizeLine := by omega
  have z6 : 6 ≤ sizeLine := by omega
  have ed : ([(2 + h, 3 + b), (2, 3), (8, 12), (8, 3), (2, 12), (2 + h, 3 + b)] : List (Nat × Nat)).map (fun p => PyData.tuple [.int (p.1 : Nat), .int (p.2 : Nat)]) = [.tuple [.int ((2 + h : Nat) : Int), .int ((3 + b : Nat) : Int)], .tuple [.int 2, .int 3], .tuple [.int 8, .int 12], .tuple [.int 8, .int 3], .tuple [.int 2, .int 12], .tuple [.int ((2 + h : Nat) : Int), .int ((3 + b : Nat) : Int)]] := rfl
  rw [ed] at lp
  unfold g_law
  refine (sSeq_nx (δ1 := [.scr ns, .dk (deckOf ns) (mixOf ns) 0, .no, .no, .no, .no]) rfl).trans ?_
  refine (sSeq_nx (δ1 := [.scr ns, .dk c2 (mixOf ns) n2, .fz (.int ((2 + h : Nat) : Int)), .fz (.int ((3 + b : Nat) : Int)), .no, .no]) (by simp only [sPar2, aCons, aNil, f2, fCon, p4, q4, addA_int, eh, eb, Option.bind_some, Option.map_some]; rfl)).trans ?_
  refine (sSeq_nx ((sFor_at (ds := [.tuple [.int ((2 + h : Nat) : Int), .int ((3 + b : Nat) : Int)], .tuple [.int 2, .int 3], .tuple [.int 8, .int 12], .tuple [.int 8, .int 3], .tuple [.int 2, .int 12], .tuple [.int ((2 + h : Nat) : Int), .int ((3 + b : Nat) : Int)]]) (δ1 := [.scr ns, .dk c2 (mixOf ns) n2, .fz (.int ((2 + h : Nat) : Int)), .fz (.int ((3 + b : Nat) : Int)), .no, .no]) (fIt_at (fLst_at (aCons_at (pair_at rfl rfl) (aCons_at (pair_at rfl rfl) (aCons_at (pair_at rfl rfl) (aCons_at (pair_at rfl rfl) (aCons_at (pair_at rfl rfl) (aCons_at (pair_at rfl rfl) rfl)))))) (by simp)))).trans lp)).trans ?_
  rfl
end K03

namespace K03
open PySem PySem.Spec PyProof.Rows L2 Z
theorem all_mk {l : PySem.W.OpenLaw} {w : World} {K : PySem.W.Frag} {h : Heap} {mg : Str → Option Value} {fa : Addr} (X : K.In h) (G : h.Ns mainGlobals mg) (hfa : mg "law" = some (.ref fa))
    {f0 : Addr} {od0 an0 : Option Addr} {sl0 : Array (Option Value)} {oc0 kV0 dc0 pm0 cd0 ct0 : Value}
    {f1 : Addr} {od1 an1 : Option Addr} {sl1 : Array (Option Value)} {oc1 kV1 dc1 pm1 cd1 ct1 : Value}
    {f2 : Addr} {od2 an2 : Option Addr} {sl2 : Array (Option Value)} {oc2 kV2 dc2 pm2 cd2 ct2 : Value}
    {f3 : Addr} {od3 an3 : Option Addr} {sl3 : Array (Option Value)} {oc3 kV3 dc3 pm3 cd3 ct3 : Value}
    {f4 : Addr} {od4 an4 : Option Addr} {sl4 : Array (Option Value)} {oc4 kV4 dc4 pm4 cd4 ct4 : Value}
    {f5 : Addr} {od5 an5 : Option Addr} {sl5 : Array (Option Value)} {oc5 kV5 dc5 pm5 cd5 ct5 : Value}
    {f6 : Addr} {od6 an6 : Option Addr} {sl6 : Array (Option Value)} {oc6 kV6 dc6 pm6 cd6 ct6 : Value}
    {f7 : Addr} {od7 an7 : Option Addr} {sl7 : Array (Option Value)} {oc7 kV7 dc7 pm7 cd7 ct7 : Value}
    {f8 : Addr} {od8 an8 : Option Addr} {sl8 : Array (Option Value)} {oc8 kV8 dc8 pm8 cd8 ct8 : Value}
    {f9 : Addr} {od9 an9 : Option Addr} {sl9 : Array (Option Value)} {oc9 kV9 dc9 pm9 cd9 ct9 : Value}
    {f10 : Addr} {od10 an10 : Option Addr} {sl10 : Array (Option Value)} {oc10 kV10 dc10 pm10 cd10 ct10 : Value}
    {f11 : Addr} {od11 an11 : Option Addr} {sl11 : Array (Option Value)} {oc11 kV11 dc11 pm11 cd11 ct11 : Value}
    {f12 : Addr} {od12 an12 : Option Addr} {sl12 : Array (Option Value)} {oc12 kV12 dc12 pm12 cd12 ct12 : Value}
    {f13 : Addr} {od13 an13 : Option Addr} {sl13 : Array (Option Value)} {oc13 kV13 dc13 pm13 cd13 ct13 : Value}
    {f14 : Addr} {od14 an14 : Option Addr} {sl14 : Array (Option Value)} {oc14 kV14 dc14 pm14 cd14 ct14 : Value}
    {f15 : Addr} {od15 an15 : Option Addr} {sl15 : Array (Option Value)} {oc15 kV15 dc15 pm15 cd15 ct15 : Value}
    {f16 : Addr} {od16 an16 : Option Addr} {sl16 : Array (Option Value)} {oc16 kV16 dc16 pm16 cd16 ct16 : Value}
    {u0 : Value}
    {u1 : Value}
    {u2 : Value}
    {u3 : Value}
    {u4 : Value}
    {u5 : Value}
    {u6 : Value}
    {u7 : Value}
    {u8 : Value}
    {u9 : Value}
    {u10 : Value}
    (a0 : PySem.W.nsIn K mainGlobals "is_number" = some (some (.ref f0))) (l0 : K.lookup f0 = some ⟨oc0, od0, .func (PySem.W.fnOf "is_number" "is_number" (defArgs s_is_number) (defBody s_is_number) (defScope s_is_number) .none kV0 dc0 pm0 an0 cd0 ct0), sl0⟩) (c0 : PySem.W.codeIn K cd0 "is_number" = true) (k0 : PySem.W.keepIn K (.ref f0) = true)
    (a1 : PySem.W.nsIn K mainGlobals "is_shape" = some (some (.ref f1))) (l1 : K.lookup f1 = some ⟨oc1, od1, .func (PySem.W.fnOf "is_shape" "is_shape" (defArgs s_is_shape) (defBody s_is_shape) (defScope s_is_shape) .none kV1 dc1 pm1 an1 cd1 ct1), sl1⟩) (c1 : PySem.W.codeIn K cd1 "is_shape" = true) (k1 : PySem.W.keepIn K (.ref f1) = true)
    (a2 : PySem.W.nsIn K mainGlobals "many_cells" = some (some (.ref f2))) (l2 : K.lookup f2 = some ⟨oc2, od2, .func (PySem.W.fnOf "many_cells" "many_cells" (defArgs s_many_cells) (defBody s_many_cells) (defScope s_many_cells) .none kV2 dc2 pm2 an2 cd2 ct2), sl2⟩) (c2 : PySem.W.codeIn K cd2 "many_cells" = true) (k2 : PySem.W.keepIn K (.ref f2) = true)
    (a3 : PySem.W.nsIn K mainGlobals "is_store" = some (some (.ref f3))) (l3 : K.lookup f3 = some ⟨oc3, od3, .func (PySem.W.fnOf "is_store" "is_store" (defArgs s_is_store) (defBody s_is_store) (defScope s_is_store) .none kV3 dc3 pm3 an3 cd3 ct3), sl3⟩) (c3 : PySem.W.codeIn K cd3 "is_store" = true) (k3 : PySem.W.keepIn K (.ref f3) = true)
    (a4 : PySem.W.nsIn K mainGlobals "new_store" = some (some (.ref f4))) (l4 : K.lookup f4 = some ⟨oc4, od4, .func (PySem.W.fnOf "new_store" "new_store" (defArgs s_new_store) (defBody s_new_store) (defScope s_new_store) .none kV4 dc4 pm4 an4 cd4 ct4), sl4⟩) (c4 : PySem.W.codeIn K cd4 "new_store" = true) (k4 : PySem.W.keepIn K (.ref f4) = true)
    (a5 : PySem.W.nsIn K mainGlobals "map_first" = some (some (.ref f5))) (l5 : K.lookup f5 = some ⟨oc5, od5, .func (PySem.W.fnOf "map_first" "map_first" (defArgs s_map_first) (defBody s_map_first) (defScope s_map_first) .none kV5 dc5 pm5 an5 cd5 ct5), sl5⟩) (c5 : PySem.W.codeIn K cd5 "map_first" = true) (k5 : PySem.W.keepIn K (.ref f5) = true)
    (a6 : PySem.W.nsIn K mainGlobals "block_first" = some (some (.ref f6))) (l6 : K.lookup f6 = some ⟨oc6, od6, .func (PySem.W.fnOf "block_first" "block_first" (defArgs s_block_first) (defBody s_block_first) (defScope s_block_first) .none kV6 dc6 pm6 an6 cd6 ct6), sl6⟩) (c6 : PySem.W.codeIn K cd6 "block_first" = true) (k6 : PySem.W.keepIn K (.ref f6) = true)
    (a7 : PySem.W.nsIn K mainGlobals "log_first" = some (some (.ref f7))) (l7 : K.lookup f7 = some ⟨oc7, od7, .func (PySem.W.fnOf "log_first" "log_first" (defArgs s_log_first) (defBody s_log_first) (defScope s_log_first) .none kV7 dc7 pm7 an7 cd7 ct7), sl7⟩) (c7 : PySem.W.codeIn K cd7 "log_first" = true) (k7 : PySem.W.keepIn K (.ref f7) = true)
    (a8 : PySem.W.nsIn K mainGlobals "place_of" = some (some (.ref f8))) (l8 : K.lookup f8 = some ⟨oc8, od8, .func (PySem.W.fnOf "place_of" "place_of" (defArgs s_place_of) (defBody s_place_of) (defScope s_place_of) .none kV8 dc8 pm8 an8 cd8 ct8), sl8⟩) (c8 : PySem.W.codeIn K cd8 "place_of" = true) (k8 : PySem.W.keepIn K (.ref f8) = true)
    (a9 : PySem.W.nsIn K mainGlobals "head_cell" = some (some (.ref f9))) (l9 : K.lookup f9 = some ⟨oc9, od9, .func (PySem.W.fnOf "head_cell" "head_cell" (defArgs s_head_cell) (defBody s_head_cell) (defScope s_head_cell) .none kV9 dc9 pm9 an9 cd9 ct9), sl9⟩) (c9 : PySem.W.codeIn K cd9 "head_cell" = true) (k9 : PySem.W.keepIn K (.ref f9) = true)
    (a10 : PySem.W.nsIn K mainGlobals "log_cell" = some (some (.ref f10))) (l10 : K.lookup f10 = some ⟨oc10, od10, .func (PySem.W.fnOf "log_cell" "log_cell" (defArgs s_log_cell) (defBody s_log_cell) (defScope s_log_cell) .none kV10 dc10 pm10 an10 cd10 ct10), sl10⟩) (c10 : PySem.W.codeIn K cd10 "log_cell" = true) (k10 : PySem.W.keepIn K (.ref f10) = true)
    (a11 : PySem.W.nsIn K mainGlobals "what_is" = some (some (.ref f11))) (l11 : K.lookup f11 = some ⟨oc11, od11, .func (PySem.W.fnOf "what_is" "what_is" (defArgs s_what_is) (defBody s_what_is) (defScope s_what_is) .none kV11 dc11 pm11 an11 cd11 ct11), sl11⟩) (c11 : PySem.W.codeIn K cd11 "what_is" = true) (k11 : PySem.W.keepIn K (.ref f11) = true)
    (a12 : PySem.W.nsIn K mainGlobals "_law_deck" = some (some (.ref f12))) (l12 : K.lookup f12 = some ⟨oc12, od12, .func (PySem.W.fnOf "_law_deck" "_law_deck" (defArgs s__law_deck) (defBody s__law_deck) (defScope s__law_deck) .none kV12 dc12 pm12 an12 cd12 ct12), sl12⟩) (c12 : PySem.W.codeIn K cd12 "_law_deck" = true) (k12 : PySem.W.keepIn K (.ref f12) = true)
    (a13 : PySem.W.nsIn K mainGlobals "_law_draw" = some (some (.ref f13))) (l13 : K.lookup f13 = some ⟨oc13, od13, .func (PySem.W.fnOf "_law_draw" "_law_draw" (defArgs s__law_draw) (defBody s__law_draw) (defScope s__law_draw) .none kV13 dc13 pm13 an13 cd13 ct13), sl13⟩) (c13 : PySem.W.codeIn K cd13 "_law_draw" = true) (k13 : PySem.W.keepIn K (.ref f13) = true)
    (a14 : PySem.W.nsIn K mainGlobals "_law_laid_out" = some (some (.ref f14))) (l14 : K.lookup f14 = some ⟨oc14, od14, .func (PySem.W.fnOf "_law_laid_out" "_law_laid_out" (defArgs s__law_laid_out) (defBody s__law_laid_out) (defScope s__law_laid_out) .none kV14 dc14 pm14 an14 cd14 ct14), sl14⟩) (c14 : PySem.W.codeIn K cd14 "_law_laid_out" = true) (k14 : PySem.W.keepIn K (.ref f14) = true)
    (a15 : PySem.W.nsIn K mainGlobals "_law_is_so" = some (some (.ref f15))) (l15 : K.lookup f15 = some ⟨oc15, od15, .func (PySem.W.fnOf "_law_is_so" "_law_is_so" (defArgs s__law_is_so) (defBody s__law_is_so) (defScope s__law_is_so) .none kV15 dc15 pm15 an15 cd15 ct15), sl15⟩) (c15 : PySem.W.codeIn K cd15 "_law_is_so" = true) (k15 : PySem.W.keepIn K (.ref f15) = true)
    (a16 : PySem.W.nsIn K mainGlobals "law" = some (some (.ref f16))) (l16 : K.lookup f16 = some ⟨oc16, od16, .func (PySem.W.fnOf "law" "law" (defArgs s_law) (defBody s_law) (defScope s_law) .none kV16 dc16 pm16 an16 cd16 ct16), sl16⟩) (c16 : PySem.W.codeIn K cd16 "law" = true) (k16 : PySem.W.keepIn K (.ref f16) = true)
    (b0 : PySem.W.nsIn K mainGlobals "BLOCK_CELLS" = some (some u0)) (r0 : (kRp K 40 u0).map (·.2) = some (.int 4))
    (b1 : PySem.W.nsIn K mainGlobals "FIRST_BLOCKS" = some (some u1)) (r1 : (kRp K 40 u1).map (·.2) = some (.tuple [.int 1, .int 2, .int 3]))
    (b2 : PySem.W.nsIn K mainGlobals "HEAD_CELLS" = some (some u2)) (r2 : (kRp K 40 u2).map (·.2) = some (.int 7))
    (b3 : PySem.W.nsIn K mainGlobals "HEAD_PARTS" = some (some u3)) (r3 : (kRp K 40 u3).map (·.2) = some (.tuple [.str "kind", .str "count", .str "length", .str "sum"]))
    (b4 : PySem.W.nsIn K mainGlobals "LEAST_BLOCKS" = some (some u4)) (r4 : (kRp K 40 u4).map (·.2) = some (.int 3))
    (b5 : PySem.W.nsIn K mainGlobals "LEAST_HEADS" = some (some u5)) (r5 : (kRp K 40 u5).map (·.2) = some (.int 2))
    (b6 : PySem.W.nsIn K mainGlobals "LOG_CELLS" = some (some u6)) (r6 : (kRp K 40 u6).map (·.2) = some (.int 82))
    (b7 : PySem.W.nsIn K mainGlobals "LOG_HEAD" = some (some u7)) (r7 : (kRp K 40 u7).map (·.2) = some (.tuple [.str "mark", .str "seal"]))
    (b8 : PySem.W.nsIn K mainGlobals "MOST_BLOCKS" = some (some u8)) (r8 : (kRp K 40 u8).map (·.2) = some (.int 12))
    (b9 : PySem.W.nsIn K mainGlobals "MOST_HEADS" = some (some u9)) (r9 : (kRp K 40 u9).map (·.2) = some (.int 8))
    (b10 : PySem.W.nsIn K mainGlobals "PAIR_PARTS" = some (some u10)) (r10 : (kRp K 40 u10).map (·.2) = some (.tuple [.str "place", .str "worth"]))
    (t3 : kDn K u3 = true)
    (t7 : kDn K u7 = true)
    (t10 : kDn K u10 = true)
    (z0 : PySem.W.nsIn K mainGlobals "all" = some none)
    (z1 : PySem.W.nsIn K mainGlobals "bool" = some none)
    (z2 : PySem.W.nsIn K mainGlobals "enumerate" = some none)
    (z3 : PySem.W.nsIn K mainGlobals "int" = some none)
    (z4 : PySem.W.nsIn K mainGlobals "isinstance" = some none)
    (z5 : PySem.W.nsIn K mainGlobals "len" = some none)
    (z6 : PySem.W.nsIn K mainGlobals "list" = some none)
    (z7 : PySem.W.nsIn K mainGlobals "range" = some none)
    (z8 : PySem.W.nsIn K mainGlobals "repr" = some none)
    (z9 : PySem.W.nsIn K mainGlobals "reversed" = some none)
    (z10 : PySem.W.nsIn K mainGlobals "sum" = some none)
    (z11 : PySem.W.nsIn K mainGlobals "tuple" = some none)
    : ∃ fd : FuncData, (∀ (s : Shared) (v : Value), BindsTo s fd ⟨[v], []⟩ [("_law_script", v)]) ∧ ∀ base : Heap, K.In base → base.Ns mainGlobals mg → FnG l.prog w K mg base CX0 6 fa fd ["_law_script"] (spF K 1 false φ_law) := by
  cases hfa.symm.trans (PySem.W.mg_of X G a16)
  have T : Txt K mg := { c_BLOCK_CELLS := ⟨_, _, PySem.W.mg_of X G b0, gcs r0⟩, c_FIRST_BLOCKS := ⟨_, _, PySem.W.mg_of X G b1, gcs r1⟩, c_HEAD_CELLS := ⟨_, _, PySem.W.mg_of X G b2, gcs r2⟩, c_HEAD_PARTS := ⟨_, _, PySem.W.mg_of X G b3, gcs r3⟩, c_LEAST_BLOCKS := ⟨_, _, PySem.W.mg_of X G b4, gcs r4⟩, c_LEAST_HEADS := ⟨_, _, PySem.W.mg_of X G b5, gcs r5⟩, c_LOG_CELLS := ⟨_, _, PySem.W.mg_of X G b6, gcs r6⟩, c_LOG_HEAD := ⟨_, _, PySem.W.mg_of X G b7, gcs r7⟩, c_MOST_BLOCKS := ⟨_, _, PySem.W.mg_of X G b8, gcs r8⟩, c_MOST_HEADS := ⟨_, _, PySem.W.mg_of X G b9, gcs r9⟩, c_PAIR_PARTS := ⟨_, _, PySem.W.mg_of X G b10, gcs r10⟩, t_HEAD_PARTS := ⟨_, _, PySem.W.mg_of X G b3, gcs r3, t3⟩, t_LOG_HEAD := ⟨_, _, PySem.W.mg_of X G b7, gcs r7, t7⟩, t_PAIR_PARTS := ⟨_, _, PySem.W.mg_of X G b10, gcs r10, t10⟩, m_all := PySem.W.mg_none_of X G z0, m_bool := PySem.W.mg_none_of X G z1, m_enumerate := PySem.W.mg_none_of X G z2, m_int := PySem.W.mg_none_of X G z3, m_isinstance := PySem.W.mg_none_of X G z4, m_len := PySem.W.mg_none_of X G z5, m_list := PySem.W.mg_none_of X G z6, m_range := PySem.W.mg_none_of X G z7, m_repr := PySem.W.mg_none_of X G z8, m_reversed := PySem.W.mg_none_of X G z9, m_sum := PySem.W.mg_none_of X G z10, m_tuple := PySem.W.mg_none_of X G z11 }
  refine ⟨PySem.W.fnOf "law" "law" (defArgs s_law) (defBody s_law) (defScope s_law) .none kV16 dc16 pm16 an16 cd16 ct16, fun s v => .of_eq rfl, fun base _ _ => ?_⟩
  have h_is_number := ok_is_number (P := l.prog) (w := w) (base := base) T  (fun_mk (st := s_is_number) l0 c0 k0) (PySem.W.mg_of X G a0)
  have h_is_shape := ok_is_shape (P := l.prog) (w := w) (base := base) T h_is_number (fun_mk (st := s_is_shape) l1 c1 k1) (PySem.W.mg_of X G a1)
  have h_many_cells := ok_many_cells (P := l.prog) (w := w) (base := base) T  (fun_mk (st := s_many_cells) l2 c2 k2) (PySem.W.mg_of X G a2)
  have h_is_store := ok_is_store (P := l.prog) (w := w) (base := base) T h_is_number h_is_shape h_many_cells (fun_mk (st := s_is_store) l3 c3 k3) (PySem.W.mg_of X G a3)
  have h_new_store := ok_new_store (P := l.prog) (w := w) (base := base) T  (fun_mk (st := s_new_store) l4 c4 k4) (PySem.W.mg_of X G a4)
  have h_map_first := ok_map_first (P := l.prog) (w := w) (base := base) T  (fun_mk (st := s_map_first) l5 c5 k5) (PySem.W.mg_of X G a5)
  have h_block_first := ok_block_first (P := l.prog) (w := w) (base := base) T h_map_first (fun_mk (st := s_block_first) l6 c6 k6) (PySem.W.mg_of X G a6)
  have h_log_first := ok_log_first (P := l.prog) (w := w) (base := base) T h_block_first (fun_mk (st := s_log_first) l7 c7 k7) (PySem.W.mg_of X G a7)
  have h_place_of := ok_place_of (P := l.prog) (w := w) (base := base) T h_block_first h_log_first h_map_first (fun_mk (st := s_place_of) l8 c8 k8) (PySem.W.mg_of X G a8)
  have h_head_cell := ok_head_cell (P := l.prog) (w := w) (base := base) T  (fun_mk (st := s_head_cell) l9 c9 k9) (PySem.W.mg_of X G a9)
  have h_log_cell := ok_log_cell (P := l.prog) (w := w) (base := base) T  (fun_mk (st := s_log_cell) l10 c10 k10) (PySem.W.mg_of X G a10)
  have h_what_is := ok_what_is (P := l.prog) (w := w) (base := base) T h_block_first h_head_cell h_log_cell h_log_first h_map_first (fun_mk (st := s_what_is) l11 c11 k11) (PySem.W.mg_of X G a11)
  have h__law_deck := ok__law_deck (P := l.prog) (w := w) (base := base) T  (fun_mk (st := s__law_deck) l12 c12 k12) (PySem.W.mg_of X G a12)
  have h__law_draw := ok__law_draw (P := l.prog) (w := w) (base := base) T  (fun_mk (st := s__law_draw) l13 c13 k13) (PySem.W.mg_of X G a13)
  have h__law_laid_out := ok__law_laid_out (P := l.prog) (w := w) (base := base) T  (fun_mk (st := s__law_laid_out) l14 c14 k14) (PySem.W.mg_of X G a14)
  have h__law_is_so := ok__law_is_so (P := l.prog) (w := w) (base := base) T h__law_laid_out h_is_store h_new_store h_place_of h_what_is (fun_mk (st := s__law_is_so) l15 c15 k15) (PySem.W.mg_of X G a15)
  exact fn_law T h__law_deck h__law_draw h__law_is_so (fun_mk (st := s_law) l16 c16 k16)
end K03
open PySem PySem.W PyProof.Rows
set_option maxHeartbeats 0 in
theorem PySem.Challenge.cw_soundstore_k03_places_there_and_back_holds : PySem.Challenge.rw_soundstore_k03_places_there_and_back.Holds := by
  w_on; o_law; k_head; (case hw => w_witness2)
  k_fill
  refine Z.zwalk (l := PySem.Challenge.rw_soundstore_k03_places_there_and_back) (n := 63) (k := 6) (x := "_law_script") (φ := K03.φ_law) rfl (by decide) rfl ⟨rfl, by decide, by decide⟩ (fun w h Y => PySem.W.kIn_of Y) ?F K03.law_true
  case F =>
    intro w mg fa h KX G hmg
    refine' K03.all_mk KX G hmg ?a0 ?l0 ?c0 ?k0 ?a1 ?l1 ?c1 ?k1 ?a2 ?l2 ?c2 ?k2 ?a3 ?l3 ?c3 ?k3 ?a4 ?l4 ?c4 ?k4 ?a5 ?l5 ?c5 ?k5 ?a6 ?l6 ?c6 ?k6 ?a7 ?l7 ?c7 ?k7 ?a8 ?l8 ?c8 ?k8 ?a9 ?l9 ?c9 ?k9 ?a10 ?l10 ?c10 ?k10 ?a11 ?l11 ?c11 ?k11 ?a12 ?l12 ?c12 ?k12 ?a13 ?l13 ?c13 ?k13 ?a14 ?l14 ?c14 ?k14 ?a15 ?l15 ?c15 ?k15 ?a16 ?l16 ?c16 ?k16 ?b0 ?r0 ?b1 ?r1 ?b2 ?r2 ?b3 ?r3 ?b4 ?r4 ?b5 ?r5 ?b6 ?r6 ?b7 ?r7 ?b8 ?r8 ?b9 ?r9 ?b10 ?r10 ?t3 ?t7 ?t10 ?z0 ?z1 ?z2 ?z3 ?z4 ?z5 ?z6 ?z7 ?z8 ?z9 ?z10 ?z11
    (case a0 => k_is); (case l0 => k_is); (case c0 => k_is); (case k0 => k_is); (case a1 => k_is); (case l1 => k_is); (case c1 => k_is); (case k1 => k_is); (case a2 => k_is); (case l2 => k_is); (case c2 => k_is); (case k2 => k_is); (case a3 => k_is); (case l3 => k_is); (case c3 => k_is); (case k3 => k_is); (case a4 => k_is); (case l4 => k_is); (case c4 => k_is); (case k4 => k_is); (case a5 => k_is); (case l5 => k_is); (case c5 => k_is); (case k5 => k_is); (case a6 => k_is); (case l6 => k_is); (case c6 => k_is); (case k6 => k_is); (case a7 => k_is); (case l7 => k_is); (case c7 => k_is); (case k7 => k_is); (case a8 => k_is); (case l8 => k_is); (case c8 => k_is); (case k8 => k_is); (case a9 => k_is); (case l9 => k_is); (case c9 => k_is); (case k9 => k_is); (case a10 => k_is); (case l10 => k_is); (case c10 => k_is); (case k10 => k_is); (case a11 => k_is); (case l11 => k_is); (case c11 => k_is); (case k11 => k_is); (case a12 => k_is); (case l12 => k_is); (case c12 => k_is); (case k12 => k_is); (case a13 => k_is); (case l13 => k_is); (case c13 => k_is); (case k13 => k_is); (case a14 => k_is); (case l14 => k_is); (case c14 => k_is); (case k14 => k_is); (case a15 => k_is); (case l15 => k_is); (case c15 => k_is); (case k15 => k_is); (case a16 => k_is); (case l16 => k_is); (case c16 => k_is); (case k16 => k_is); (case b0 => k_is); (case r0 => kernel_rfl); (case b1 => k_is); (case r1 => kernel_rfl); (case b2 => k_is); (case r2 => kernel_rfl); (case b3 => k_is); (case r3 => kernel_rfl); (case b4 => k_is); (case r4 => kernel_rfl); (case b5 => k_is); (case r5 => kernel_rfl); (case b6 => k_is); (case r6 => kernel_rfl); (case b7 => k_is); (case r7 => kernel_rfl); (case b8 => k_is); (case r8 => kernel_rfl); (case b9 => k_is); (case r9 => kernel_rfl); (case b10 => k_is); (case r10 => kernel_rfl); (case t3 => kernel_rfl); (case t7 => kernel_rfl); (case t10 => kernel_rfl); (case z0 => k_is); (case z1 => k_is); (case z2 => k_is); (case z3 => k_is); (case z4 => k_is); (case z5 => k_is); (case z6 => k_is); (case z7 => k_is); (case z8 => k_is); (case z9 => k_is); (case z10 => k_is); (case z11 => k_is)

