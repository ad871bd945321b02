import PyProof.Rows.All
import Wide.All
import OpenK.AllK
import Wide.FinOn
import HandS.ForMost
import HandS.Iter
import HandS.TupAny
import HandS.TupMul
import HandS.TupLe
import HandS.Deep
import HandS.IsInst
import KE.LtData
import KE.SortData
import PyProof.RowDictHeap
import PyProof.ReprRoads
import KE.DataEq
import HandS.RaiseMore
import HandS.Strs
import HandS.Rev
import HandS.Conv
import HandS.Style
import HandS.More
import KE.GoesMore
import KE.GoesEnum
import HandS.SetFor
import PySem.Challenge.RW_soundstore_k28_entries_and_worths
set_option Elab.async false
set_option linter.all false
set_option maxRecDepth 1000000
set_option maxHeartbeats 4000000
/-! Z0: data that stand in the heap (Rp), the state of a frame (SR), steps. -/
namespace Z
open PySem PySem.Spec PyProof.Rows L2

abbrev D := PyData
def keyD : Key → D
  | .inl i => .int i
  | .inr s => .str s

mutual
/-- the value v is the datum d, in the part G of the heap -/
inductive Rp (K : PySem.W.Frag) (G : Hp) : V → D → Prop
  | non : Rp K G .non .none
  | bl (b : Bool) : Rp K G (.bl b) (.bool b)
  | int (i : Int) : Rp K G (.int i) (.int i)
  | str (x : Str) : Rp K G (.str x) (.str x)
  | lst {a : Addr} {xs : List V} {ds : List D} : G a = some (.lst xs) → Rps K G xs ds → Rp K G (.ref a) (.list ds)
  | tup {a : Addr} {xs : List V} {ds : List D} : SqT K G a xs → Rps K G xs ds → Rp K G (.ref a) (.tuple ds)
  | dic {a : Addr} {o : Obj} {kvs : List (Key × V)} {ds : List (D × D)} : G a = some (.frz o (.dK kvs)) → RpK K G kvs ds → Rp K G (.ref a) (.dict ds)
inductive Rps (K : PySem.W.Frag) (G : Hp) : List V → List D → Prop
  | nil : Rps K G [] []
  | cons {v : V} {vs : List V} {d : D} {ds : List D} : Rp K G v d → Rps K G vs ds → Rps K G (v :: vs) (d :: ds)
inductive RpK (K : PySem.W.Frag) (G : Hp) : List (Key × V) → List (D × D) → Prop
  | nil : RpK K G [] []
  | cons {k : Key} {v : V} {r : List (Key × V)} {d : D} {ds : List (D × D)} : Rp K G v d → RpK K G r ds → RpK K G ((k, v) :: r) ((keyD k, d) :: ds)
end

theorem Same.sqt {K : PySem.W.Frag} {H H' : Hp} {a : Addr} {xs : List V} (e : Same H H') (h : SqT K H a xs) : SqT K H' a xs := by
  rcases h with h | h
  · rcases h with h | ⟨o, h⟩
    · exact .inl (.inl (e _ _ h))
    · exact .inl (.inr ⟨o, e _ _ h⟩)
  · exact .inr h

section
variable {K : PySem.W.Frag} {G G' : Hp}
mutual
theorem Rp.mono (e : Same G G') : ∀ {v : V} {d : D}, Rp K G v d → Rp K G' v d
  | _, _, .non => .non
  | _, _, .bl b => .bl b
  | _, _, .int i => .int i
  | _, _, .str x => .str x
  | _, _, .lst h r => .lst (e _ _ h) (Rps.mono e r)
  | _, _, .tup h r => .tup (Same.sqt e h) (Rps.mono e r)
  | _, _, .dic h r => .dic (e _ _ h) (RpK.mono e r)
theorem Rps.mono (e : Same G G') : ∀ {vs : List V} {ds : List D}, Rps K G vs ds → Rps K G' vs ds
  | _, _, .nil => .nil
  | _, _, .cons h r => .cons (Rp.mono e h) (Rps.mono e r)
theorem RpK.mono (e : Same G G') : ∀ {vs : List (Key × V)} {ds : List (D × D)}, RpK K G vs ds → RpK K G' vs ds
  | _, _, .nil => .nil
  | _, _, .cons h r => .cons (Rp.mono e h) (RpK.mono e r)
end

theorem Rps.length : ∀ {vs : List V} {ds : List D}, Rps K G vs ds → vs.length = ds.length
  | _, _, .nil => rfl
  | _, _, .cons _ r => congrArg (· + 1) r.length
theorem Rps.append : ∀ {vs ws : List V} {ds es : List D}, Rps K G vs ds → Rps K G ws es → Rps K G (vs ++ ws) (ds ++ es)
  | _, _, _, _, .nil, s => s
  | _, _, _, _, .cons h r, s => .cons h (r.append s)
theorem Rps.take : ∀ {vs : List V} {ds : List D} (n : Nat), Rps K G vs ds → Rps K G (vs.take n) (ds.take n)
  | _, _, 0, _ => by simpa using Rps.nil
  | _, _, _ + 1, .nil => by simpa using Rps.nil
  | _, _, n + 1, .cons h r => by simpa using Rps.cons h (r.take n)
theorem Rps.drop : ∀ {vs : List V} {ds : List D} (n : Nat), Rps K G vs ds → Rps K G (vs.drop n) (ds.drop n)
  | _, _, 0, r => r
  | _, _, _ + 1, .nil => .nil
  | _, _, n + 1, .cons _ r => r.drop n
theorem Rps.get : ∀ {vs : List V} {ds : List D} {i : Nat} {d : D}, Rps K G vs ds → ds[i]? = some d → ∃ v, vs[i]? = some v ∧ Rp K G v d
  | _, _, _, _, .nil, e => by simp at e
  | _, _, 0, _, .cons h _, e => by simp at e; subst e; exact ⟨_, rfl, h⟩
  | _, _, i + 1, d, .cons _ r, e => by
    obtain ⟨v, h1, h2⟩ := Rps.get (i := i) (d := d) r (by simpa using e)
    exact ⟨v, by simpa using h1, h2⟩
theorem Rps.getV : ∀ {vs : List V} {ds : List D} {i : Nat} {v : V}, Rps K G vs ds → vs[i]? = some v → ∃ d, ds[i]? = some d ∧ Rp K G v d
  | _, _, _, _, .nil, e => by simp at e
  | _, _, 0, _, .cons h _, e => by simp at e; subst e; exact ⟨_, rfl, h⟩
  | _, _, i + 1, d, .cons _ r, e => by
    obtain ⟨v, h1, h2⟩ := Rps.getV (i := i) (v := d) r (by simpa using e)
    exact ⟨v, by simpa using h1, h2⟩
theorem Rps.set : ∀ {vs : List V} {ds : List D} {v : V} {d : D} (i : Nat), Rps K G vs ds → Rp K G v d → Rps K G (vs.set i v) (ds.set i d)
  | _, _, _, _, _, .nil, _ => .nil
  | _, _, _, _, 0, .cons _ r, h => .cons h r
  | _, _, _, _, i + 1, .cons q r, h => .cons q (r.set i h)
theorem Rps.eraseIdx : ∀ {vs : List V} {ds : List D} (i : Nat), Rps K G vs ds → Rps K G (vs.eraseIdx i) (ds.eraseIdx i)
  | _, _, _, .nil => .nil
  | _, _, 0, .cons _ r => r
  | _, _, i + 1, .cons q r => .cons q (r.eraseIdx i)
theorem Rps.ints : ∀ {vs : List V} {ns : List Int}, Rps K G vs (ns.map PyData.int) → vs = ns.map V.int
  | _, [], .nil => rfl
  | _, n :: ns, .cons h r => by
    cases h
    rw [r.ints]
    rfl
theorem rps_ints : ∀ (ns : List Int), Rps K G (ns.map V.int) (ns.map PyData.int)
  | [] => .nil
  | n :: ns => .cons (.int n) (rps_ints ns)
end

/-! ### no list, no dict within -/
mutual
def noL : D → Bool
  | .list _ => false
  | .dict _ => false
  | .tuple xs => noLs xs
  | _ => true
def noLs : List D → Bool
  | [] => true
  | x :: xs => noL x && noLs xs
end
section
variable {K : PySem.W.Frag} {G G' : Hp}
mutual
/-- tuples alone are looked at -/
theorem Rp.flat (e : ∀ a xs, SqT K G a xs → SqT K G' a xs) : ∀ {v : V} {d : D}, noL d = true → Rp K G v d → Rp K G' v d
  | _, _, _, .non => .non
  | _, _, _, .bl b => .bl b
  | _, _, _, .int i => .int i
  | _, _, _, .str x => .str x
  | _, _, h0, .lst _ _ => by simp [noL] at h0
  | _, _, h0, .tup h r => .tup (e _ _ h) (Rps.flat e (by simpa [noL] using h0) r)
  | _, _, h0, .dic _ _ => by simp [noL] at h0
theorem Rps.flat (e : ∀ a xs, SqT K G a xs → SqT K G' a xs) : ∀ {vs : List V} {ds : List D}, noLs ds = true → Rps K G vs ds → Rps K G' vs ds
  | _, _, _, .nil => .nil
  | _, _, h0, .cons h r => by
    simp only [noLs, Bool.and_eq_true] at h0
    exact .cons (Rp.flat e h0.1 h) (Rps.flat e h0.2 r)
end
end

/-! ### slots -/
inductive Sl where
  /-- nothing is known -/
  | no
  /-- a datum -/
  | fz (d : D)
  /-- a list or dict of the frame's own: nobody else knows it -/
  | ow (d : D)
  /-- an own dict while it is locked -/
  | lk (ds : List (D × D))
  /-- a law's deck -/
  | dk (cs : List Int) (m n : Int)
  /-- the script -/
  | scr (ns : List Int)

/-- a list or dict that stands at p, its items data in F -/
def OwnR (K : PySem.W.Frag) (F H : Hp) (p : Addr) : D → Prop
  | .list ds => ∃ xs, H p = some (.lst xs) ∧ Rps K F xs ds
  | .dict ds => ∃ kvs, H p = some (.dK kvs) ∧ RpK K F kvs ds
  | _ => False
/-- .. one that may be read as a datum: a list, or a locked dict -/
def OwnV (K : PySem.W.Frag) (F H : Hp) (p : Addr) : D → Prop
  | .list ds => ∃ xs, H p = some (.lst xs) ∧ Rps K F xs ds
  | .dict ds => ∃ o kvs, H p = some (.frz o (.dK kvs)) ∧ RpK K F kvs ds
  | _ => False
def SlotR (K : PySem.W.Frag) (F H : Hp) : Sl → Option V → List Addr → Prop
  | .no, _, A => A = []
  | .fz d, v, A => A = [] ∧ ∃ x, v = some x ∧ Rp K F x d
  | .ow d, v, A => ∃ p, v = some (.ref p) ∧ A = [p] ∧ OwnR K F H p d
  | .lk ds, v, A => ∃ p, v = some (.ref p) ∧ A = [p] ∧ OwnV K F H p (.dict ds)
  | .dk cs m n, v, A => ∃ p q, v = some (.ref p) ∧ A = [p, q] ∧ H p = some (.lst [.ref q, .int m, .int n]) ∧ H q = some (.lst (cs.map V.int))
  | .scr ns, v, A => A = [] ∧ ∃ a, v = some (.ref a) ∧ SqL K F a (ns.map V.int)
def jn (o : Option (Option V)) : Option V := o.join

/-- what is fixed through a def's body -/
structure Fx where
  io : Nat → Bool
  H0 : Hp
  F0 : Hp
  σ0 : L2.St
  A0 : Nat → List Addr
/-- nothing is asked -/
def Fx.any : Fx := ⟨fun _ => false, fun _ => none, fun _ => none, [], fun _ => []⟩

structure SR (K : PySem.W.Frag) (Y : Fx) (F H : Hp) (δ : List Sl) (σ : L2.St) (A : Nat → List Addr) : Prop where
  len : δ.length = σ.length
  slot : ∀ i s, δ[i]? = some s → SlotR K F H s (jn σ[i]?) (A i)
  out : ∀ i, δ[i]? = none → A i = []
  dis : ∀ i j a, a ∈ A i → a ∈ A j → i = j
  hid : ∀ i a, a ∈ A i → F a = none
  new : ∀ i a, a ∈ A i → Y.io i = false → Y.H0 a = none
  sub : Same F H
  fix : ∀ i, Y.io i = true → σ[i]? = Y.σ0[i]? ∧ A i = Y.A0 i
  ioA : ∀ i, Y.io i = true → Y.A0 i ≠ []
  kp : ∀ a o, Y.H0 a = some o → (∀ i, Y.io i = true → a ∉ Y.A0 i) → H a = some o
  nw : ∀ a, Y.F0 a = none → F a ≠ none → Y.H0 a = none
  f0 : Same Y.F0 F

theorem OwnR.mono {K : PySem.W.Frag} {F F' H H' : Hp} {p : Addr} {d : D} (e : Same F F') (k : H' p = H p) (h : OwnR K F H p d) : OwnR K F' H' p d := by
  cases d with
  | list ds => obtain ⟨xs, h1, h2⟩ := h; exact ⟨xs, by rw [k]; exact h1, h2.mono e⟩
  | dict ds => obtain ⟨xs, h1, h2⟩ := h; exact ⟨xs, by rw [k]; exact h1, h2.mono e⟩
  | _ => exact h.elim
theorem OwnR.there {K : PySem.W.Frag} {F H : Hp} {p : Addr} {d : D} (h : OwnR K F H p d) : (∃ xs, H p = some (.lst xs)) ∨ ∃ kvs, H p = some (.dK kvs) := by
  cases d with
  | list ds => obtain ⟨xs, h1, _⟩ := h; exact .inl ⟨_, h1⟩
  | dict ds => obtain ⟨xs, h1, _⟩ := h; exact .inr ⟨_, h1⟩
  | _ => exact h.elim
theorem OwnV.mono {K : PySem.W.Frag} {F F' H H' : Hp} {p : Addr} {d : D} (e : Same F F') (k : H' p = H p) (h : OwnV K F H p d) : OwnV K F' H' p d := by
  cases d with
  | list ds => obtain ⟨xs, h1, h2⟩ := h; exact ⟨xs, by rw [k]; exact h1, h2.mono e⟩
  | dict ds => obtain ⟨o, xs, h1, h2⟩ := h; exact ⟨o, xs, by rw [k]; exact h1, h2.mono e⟩
  | _ => exact h.elim
/-- what stands where something is owned -/
def Thr (H : Hp) (a : Addr) : Prop := (∃ xs, H a = some (.lst xs)) ∨ (∃ kvs, H a = some (.dK kvs)) ∨ ∃ o kvs, H a = some (.frz o (.dK kvs))
theorem Thr.some {H : Hp} {a : Addr} (h : Thr H a) : ∃ u, H a = some u := by
  rcases h with ⟨_, e⟩ | ⟨_, e⟩ | ⟨_, _, e⟩ <;> exact ⟨_, e⟩
theorem OwnV.there {K : PySem.W.Frag} {F H : Hp} {p : Addr} {d : D} (h : OwnV K F H p d) : Thr H p := by
  cases d with
  | list ds => obtain ⟨xs, h1, _⟩ := h; exact .inl ⟨_, h1⟩
  | dict ds => obtain ⟨o, xs, h1, _⟩ := h; exact .inr (.inr ⟨_, _, h1⟩)
  | _ => exact h.elim
theorem OwnR.thr {K : PySem.W.Frag} {F H : Hp} {p : Addr} {d : D} (h : OwnR K F H p d) : Thr H p := by
  rcases h.there with e | e
  · exact .inl e
  · exact .inr (.inl e)
theorem SlotR.there {K : PySem.W.Frag} {F H : Hp} {s : Sl} {v : Option V} {A : List Addr} (h : SlotR K F H s v A) {a : Addr} (ha : a ∈ A) : Thr H a := by
  cases s with
  | no => cases h; simp at ha
  | fz d => obtain ⟨e, _⟩ := h; subst e; simp at ha
  | ow d => obtain ⟨p, _, e, o⟩ := h; subst e; simp at ha; subst ha; exact o.thr
  | lk d => obtain ⟨p, _, e, o⟩ := h; subst e; simp at ha; subst ha; exact o.there
  | dk cs m n =>
    obtain ⟨p, q, _, e, h1, h2⟩ := h
    subst e
    simp at ha
    rcases ha with rfl | rfl
    · exact .inl ⟨_, h1⟩
    · exact .inl ⟨_, h2⟩
  | scr ns => obtain ⟨e, _⟩ := h; subst e; simp at ha
theorem SlotR.mono {K : PySem.W.Frag} {F F' H H' : Hp} {s : Sl} {v : Option V} {A : List Addr} (e : Same F F') (k : ∀ a ∈ A, H' a = H a) (h : SlotR K F H s v A) : SlotR K F' H' s v A := by
  cases s with
  | no => exact h
  | fz d => obtain ⟨e1, x, e2, r⟩ := h; exact ⟨e1, x, e2, r.mono e⟩
  | ow d => obtain ⟨p, e1, e2, o⟩ := h; subst e2; exact ⟨p, e1, rfl, o.mono e (k p (by simp))⟩
  | lk d => obtain ⟨p, e1, e2, o⟩ := h; subst e2; exact ⟨p, e1, rfl, o.mono e (k p (by simp))⟩
  | dk cs m n =>
    obtain ⟨p, q, e1, e2, h1, h2⟩ := h
    subst e2
    exact ⟨p, q, e1, rfl, by rw [k p (by simp)]; exact h1, by rw [k q (by simp)]; exact h2⟩
  | scr ns => obtain ⟨e1, a, e2, r⟩ := h; exact ⟨e1, a, e2, e.seq r⟩

section
variable {K : PySem.W.Frag} {Y : Fx} {F F' F1 F2 H H' H1 H2 : Hp} {δ δ' : List Sl} {σ : L2.St} {A : Nat → List Addr} {M M' R R' : List Nat}

theorem SR.there (S : SR K Y F H δ σ A) {i : Nat} {a : Addr} (ha : a ∈ A i) : Thr H a := by
  cases e : δ[i]? with
  | none => rw [S.out i e] at ha; simp at ha
  | some s => exact (S.slot i s e).there ha
theorem SR.isSome (S : SR K Y F H δ σ A) {i : Nat} {a : Addr} (ha : a ∈ A i) : H a ≠ none := by
  obtain ⟨u, e⟩ := (S.there ha).some
  rw [e]; simp
theorem SR.notup (S : SR K Y F H δ σ A) {i : Nat} {a : Addr} (ha : a ∈ A i) : ∀ xs o, H a ≠ some (.tup xs) ∧ H a ≠ some (.frz o (.tup xs)) := by
  intro xs o
  rcases S.there ha with ⟨_, e⟩ | ⟨_, e⟩ | ⟨_, _, e⟩ <;> rw [e] <;> simp

/-- a step: F grows by what is new, the heap is kept but for what the slots of M own -/
structure Stp (A : Nat → List Addr) (M : List Nat) (F H F' H' : Hp) : Prop where
  f : Same F F'
  nw : ∀ a, F a = none → F' a ≠ none → H a = none
  kp : ∀ a o, H a = some o → (∀ i ∈ M, a ∉ A i) → H' a = some o
theorem Stp.refl : Stp A M F H F H := ⟨Same.refl _, fun _ h h' => absurd h h', fun _ _ h _ => h⟩
theorem Stp.mono (h : Stp A M F H F' H') (s : ∀ i ∈ M, i ∈ M') : Stp A M' F H F' H' := ⟨h.f, h.nw, fun a o e n => h.kp a o e fun i hi => n i (s i hi)⟩
theorem Stp.trans (S1 : SR K Y F1 H1 δ' σ A) (h : Stp A M F H F1 H1) (h' : Stp A M' F1 H1 F2 H2) : Stp A (M ++ M') F H F2 H2 := by
  refine ⟨h.f.trans h'.f, fun a e n => ?_, fun a o e n => ?_⟩
  · cases e1 : F1 a with
    | some o => exact h.nw a e (by rw [e1]; simp)
    | none =>
      have q := h'.nw a e1 n
      cases e2 : H a with
      | none => rfl
      | some o =>
        by_cases c : ∃ i ∈ M, a ∈ A i
        · obtain ⟨i, _, hi⟩ := c
          exact absurd q (S1.isSome hi)
        · rw [h.kp a o e2 fun i hi z => c ⟨i, hi, z⟩] at q
          cases q
  · exact h'.kp a o (h.kp a o e fun i hi => n i (List.mem_append_left _ hi)) fun i hi => n i (List.mem_append_right _ hi)

/-- F with what the slots of R own -/
def ex (R : List Nat) (A : Nat → List Addr) (F H : Hp) : Hp := fun a => if ∃ i ∈ R, a ∈ A i then H a else F a
theorem ex_nil : ex [] A F H = F := by
  funext a
  unfold ex
  rw [if_neg]
  simp
theorem ex_sub (S : SR K Y F H δ σ A) : Same (ex R A F H) H := fun a o e => by
  unfold ex at e
  split at e
  · exact e
  · exact S.sub a o e
theorem sub_ex (S : SR K Y F H δ σ A) : Same F (ex R A F H) := fun a o e => by
  unfold ex
  rw [if_neg]
  · exact e
  · rintro ⟨i, _, h⟩
    rw [S.hid i a h] at e
    cases e
theorem ex_mono (S : SR K Y F H δ σ A) (s : ∀ i ∈ R, i ∈ R') : Same (ex R A F H) (ex R' A F H) := fun a o e => by
  unfold ex at e ⊢
  by_cases c : ∃ i ∈ R, a ∈ A i
  · rw [if_pos c] at e
    obtain ⟨i, hi, h⟩ := c
    rw [if_pos ⟨i, s i hi, h⟩]
    exact e
  · rw [if_neg c] at e
    rw [if_neg]
    · exact e
    · rintro ⟨i, _, h⟩
      rw [S.hid i a h] at e
      cases e
theorem ex_step (S : SR K Y F H δ σ A) (S' : SR K Y F' H' δ' σ A) (h : Stp A M F H F' H') (d : ∀ i ∈ R, i ∉ M) : Same (ex R A F H) (ex R A F' H') := fun a o e => by
  unfold ex at e ⊢
  by_cases c : ∃ i ∈ R, a ∈ A i
  · rw [if_pos c] at e ⊢
    obtain ⟨i, hi, hA⟩ := c
    refine h.kp a o e fun j hj z => ?_
    have : j = i := S.dis j i a z hA
    subst this
    exact d _ hi hj
  · rw [if_neg c] at e ⊢
    exact h.f a o e
theorem ex_flat (S : SR K Y F H δ σ A) : ∀ a xs, SqT K (ex R A F H) a xs → SqT K F a xs := fun a xs h => by
  rcases h with h | h
  · refine .inl ?_
    by_cases c : ∃ i ∈ R, a ∈ A i
    · exfalso
      obtain ⟨i, hi, hA⟩ := c
      rcases h with h | ⟨o, h⟩
      · have := ex_sub S _ _ h
        exact (S.notup hA xs default).1 this
      · have := ex_sub S _ _ h
        exact (S.notup hA xs o).2 this
    · have q : ex R A F H a = F a := if_neg c
      unfold Rd at h ⊢
      rw [q] at h
      exact h
  · exact .inr h

/-- something new is laid and known to all -/
theorem SR.laid (S : SR K Y F H δ σ A) {p : Addr} {o : HO} (hp : H p = none) : SR K Y (upd F p o) (upd H p o) δ σ A := by
  have hF : F p = none := S.sub.free hp
  have sF : Same F (upd F p o) := fun b x e => by rw [upd_ne (ne_of_none e hF)]; exact e
  have nA : ∀ i a, a ∈ A i → a ≠ p := fun i a h e => by subst e; exact S.isSome h hp
  refine ⟨S.len, fun i s e => (S.slot i s e).mono sF fun a ha => upd_ne (nA i a ha), S.out, S.dis, fun i a h => by rw [upd_ne (nA i a h)]; exact S.hid i a h, S.new, fun b x e => ?_, S.fix, S.ioA, fun a x e n => ?_, fun a e n => ?_, S.f0.trans sF⟩
  · by_cases c : b = p
    · subst c; rw [upd_same] at e ⊢; exact e
    · rw [upd_ne c] at e ⊢; exact S.sub _ _ e
  · have q := S.kp a x e n
    rw [upd_ne (ne_of_none q hp)]
    exact q
  · by_cases c : a = p
    · subst c
      cases e2 : Y.H0 a with
      | none => rfl
      | some x =>
        by_cases c2 : ∃ i, Y.io i = true ∧ a ∈ Y.A0 i
        · obtain ⟨i, hi, hA⟩ := c2
          rw [← (S.fix i hi).2] at hA
          exact absurd hp (S.isSome hA)
        · have := S.kp a x e2 fun i hi z => c2 ⟨i, hi, z⟩
          rw [hp] at this
          cases this
    · rw [upd_ne c] at n
      exact S.nw a e n
theorem Stp.laid (S : SR K Y F H δ σ A) {p : Addr} {o : HO} (hp : H p = none) : Stp A M F H (upd F p o) (upd H p o) := by
  have hF : F p = none := S.sub.free hp
  refine ⟨fun b x e => by rw [upd_ne (ne_of_none e hF)]; exact e, fun a e n => ?_, fun a x e _ => by rw [upd_ne (ne_of_none e hp)]; exact e⟩
  by_cases c : a = p
  · subst c; exact hp
  · rw [upd_ne c] at n
    exact absurd e n
/-- something new is laid that is nobody's yet -/
theorem SR.laidO (S : SR K Y F H δ σ A) {p : Addr} {o : HO} (hp : H p = none) : SR K Y F (upd H p o) δ σ A := by
  have nA : ∀ i a, a ∈ A i → a ≠ p := fun i a h e => by subst e; exact S.isSome h hp
  refine ⟨S.len, fun i s e => (S.slot i s e).mono (Same.refl _) fun a ha => upd_ne (nA i a ha), S.out, S.dis, S.hid, S.new, fun b x e => ?_, S.fix, S.ioA, fun a x e n => ?_, S.nw, S.f0⟩
  · have q := S.sub b x e
    rw [upd_ne (ne_of_none q hp)]
    exact q
  · have q := S.kp a x e n
    rw [upd_ne (ne_of_none q hp)]
    exact q
theorem Stp.laidO {p : Addr} {o : HO} (hp : H p = none) : Stp A M F H F (upd H p o) :=
  ⟨Same.refl _, fun a e n => absurd e n, fun a x e _ => by rw [upd_ne (ne_of_none e hp)]; exact e⟩
/-- what is nobody's is changed -/
theorem SR.upd_free (S : SR K Y F H δ σ A) {p : Addr} {o : HO} (hF : F p = none) (nA : ∀ j, p ∉ A j) (hY : Y.H0 p = none) : SR K Y F (upd H p o) δ σ A := by
  refine ⟨S.len, fun i s e => (S.slot i s e).mono (Same.refl _) fun a ha => upd_ne fun z => nA i (by rw [← z]; exact ha), S.out, S.dis, S.hid, S.new, fun b x e => ?_, S.fix, S.ioA, fun a x e n => ?_, S.nw, S.f0⟩
  · have q := S.sub b x e
    rw [upd_ne]
    · exact q
    · intro z
      subst z
      rw [hF] at e
      cases e
  · have q := S.kp a x e n
    rw [upd_ne]
    · exact q
    · intro z
      subst z
      rw [hY] at e
      cases e
theorem ex_laid (S : SR K Y F H δ σ A) {p : Addr} {o : HO} (hp : H p = none) : (ex R A (upd F p o) (upd H p o)) p = some o := by
  unfold ex
  rw [upd_same, upd_same]
  split <;> rfl

/-- v is the datum d, known to all, or it is what a slot of R owns -/
def Vw (K : PySem.W.Frag) (F H : Hp) (A : Nat → List Addr) (R : List Nat) (v : V) (d : D) : Prop := Rp K F v d ∨ ∃ i ∈ R, ∃ p, v = .ref p ∧ A i = [p] ∧ OwnV K F H p d
def Vws (K : PySem.W.Frag) (F H : Hp) (A : Nat → List Addr) (R : List Nat) : List V → List D → Prop
  | [], [] => True
  | v :: vs, d :: ds => Vw K F H A R v d ∧ Vws K F H A R vs ds
  | _, _ => False
theorem Vw.nil {v : V} {d : D} (h : Vw K F H A [] v d) : Rp K F v d := by
  rcases h with h | ⟨i, hi, _⟩
  · exact h
  · simp at hi
theorem Vw.mono {v : V} {d : D} (h : Vw K F H A R v d) (s : ∀ i ∈ R, i ∈ R') : Vw K F H A R' v d := by
  rcases h with h | ⟨i, hi, q⟩
  · exact .inl h
  · exact .inr ⟨i, s i hi, q⟩
theorem Vw.step {v : V} {d : D} (h : Vw K F H A R v d) (S : SR K Y F H δ σ A) (st : Stp A M F H F' H') (dj : ∀ i ∈ R, i ∉ M) : Vw K F' H' A R v d := by
  rcases h with h | ⟨i, hi, p, e, eA, o⟩
  · exact .inl (h.mono st.f)
  · refine .inr ⟨i, hi, p, e, eA, o.mono st.f ?_⟩
    have hp : p ∈ A i := by rw [eA]; simp
    have na : ∀ j ∈ M, p ∉ A j := fun j hj z => by
      have : j = i := S.dis j i p z hp
      subst this
      exact dj _ hi hj
    obtain ⟨xs, q⟩ := o.there.some
    rw [q, st.kp p _ q na]
theorem Vws.nil : ∀ {vs : List V} {ds : List D}, Vws K F H A [] vs ds → Rps K F vs ds
  | [], [], _ => .nil
  | v :: vs, d :: ds, ⟨h, r⟩ => .cons h.nil (Vws.nil r)
  | [], _ :: _, h => h.elim
  | _ :: _, [], h => h.elim
theorem Vws.mono (s : ∀ i ∈ R, i ∈ R') : ∀ {vs : List V} {ds : List D}, Vws K F H A R vs ds → Vws K F H A R' vs ds
  | [], [], _ => trivial
  | v :: vs, d :: ds, ⟨h, r⟩ => ⟨h.mono s, Vws.mono s r⟩
  | [], _ :: _, h => h.elim
  | _ :: _, [], h => h.elim
/-- a list that is read: its items are known to all -/
theorem Vw.list {v : V} {ds : List D} (S : SR K Y F H δ σ A) (h : Vw K F H A R v (.list ds)) : ∃ p xs, v = .ref p ∧ H p = some (.lst xs) ∧ Rps K F xs ds := by
  rcases h with h | ⟨i, hi, p, e, _, o⟩
  · cases h with
    | lst h1 r => exact ⟨_, _, rfl, S.sub _ _ h1, r⟩
  · obtain ⟨xs, h1, r⟩ := o
    exact ⟨p, xs, e, h1, r⟩
theorem Vw.dict {v : V} {ds : List (D × D)} (S : SR K Y F H δ σ A) (h : Vw K F H A R v (.dict ds)) : ∃ p o kvs, v = .ref p ∧ H p = some (.frz o (.dK kvs)) ∧ RpK K F kvs ds := by
  rcases h with h | ⟨i, hi, p, e, _, o⟩
  · cases h with
    | dic h1 r => exact ⟨_, _, _, rfl, S.sub _ _ h1, r⟩
  · obtain ⟨o, xs, h1, r⟩ := o
    exact ⟨p, o, xs, e, h1, r⟩
/-- what is not a list, not a dict, is known to all -/
theorem Vw.rp {v : V} {d : D} (h : Vw K F H A R v d) (hl : ∀ ds, d ≠ .list ds) (hd : ∀ ds, d ≠ .dict ds) : Rp K F v d := by
  rcases h with h | ⟨i, hi, p, e, _, o⟩
  · exact h
  · cases d with
    | list ds => exact absurd rfl (hl ds)
    | dict ds => exact absurd rfl (hd ds)
    | _ => exact o.elim
theorem Vw.tup {v : V} {ds : List D} (S : SR K Y F H δ σ A) (h : Vw K F H A R v (.tuple ds)) : ∃ p xs, v = .ref p ∧ SqT K F p xs ∧ SqT K H p xs ∧ Rps K F xs ds := by
  cases h.rp (fun _ => by simp) (fun _ => by simp) with
  | tup h1 r => exact ⟨_, _, rfl, h1, Same.sqt S.sub h1, r⟩
theorem Vw.int {v : V} {i : Int} (h : Vw K F H A R v (.int i)) : v = .int i := by
  cases h.rp (fun _ => by simp) (fun _ => by simp)
  rfl
theorem Vw.str {v : V} {i : Str} (h : Vw K F H A R v (.str i)) : v = .str i := by
  cases h.rp (fun _ => by simp) (fun _ => by simp)
  rfl
theorem Vw.bl {v : V} {i : Bool} (h : Vw K F H A R v (.bool i)) : v = .bl i := by
  cases h.rp (fun _ => by simp) (fun _ => by simp)
  rfl
/-- .. in a part of the heap that holds it whole -/
theorem Vw.ex {v : V} {d : D} (S : SR K Y F H δ σ A) (h : Vw K F H A R v d) : Rp K (ex R A F H) v d := by
  rcases h with h | ⟨i, hi, p, e, eA, o⟩
  · exact h.mono (sub_ex S)
  · subst e
    have g : Z.ex R A F H p = H p := if_pos ⟨i, hi, by rw [eA]; simp⟩
    cases d with
    | list ds => obtain ⟨xs, h1, h2⟩ := o; exact .lst (by rw [g]; exact h1) (h2.mono (sub_ex S))
    | dict ds => obtain ⟨o, xs, h1, h2⟩ := o; exact .dic (by rw [g]; exact h1) (h2.mono (sub_ex S))
    | _ => exact o.elim

/-! ### expressions -/
/-- e gives what f says; it may hand on what the slots of R own, and changes what the slots of M own -/
def EV (X : Cx) (e : Expr) (f : List Sl → Option (D × List Sl)) (R M : List Nat) : Prop :=
  ∃ t, PE X e t ∧ ∀ (Y : Fx) (F H : Hp) (δ : List Sl) (σ : L2.St) (A : Nat → List Addr), SR X.K Y F H δ σ A → ∀ (d : D) (δ' : List Sl), f δ = some (d, δ') → ∀ Q : VK,
    (∀ v F' H', Stp A M F H F' H' → SR X.K Y F' H' δ' σ A → Vw X.K F' H' A R v d → Q v H') → t σ H Q
/-- a test -/
def TV (X : Cx) (e : Expr) (f : List Sl → Option (Bool × List Sl)) (M : List Nat) : Prop :=
  ∃ t, PT X e t ∧ ∀ (Y : Fx) (F H : Hp) (δ : List Sl) (σ : L2.St) (A : Nat → List Addr), SR X.K Y F H δ σ A → ∀ (b : Bool) (δ' : List Sl), f δ = some (b, δ') → ∀ Q : Bool → Hp → Prop,
    (∀ F' H', Stp A M F H F' H' → SR X.K Y F' H' δ' σ A → Q b H') → t σ H Q
/-- several -/
def AV (X : Cx) (es : List Expr) (f : List Sl → Option (List D × List Sl)) (R M : List Nat) : Prop :=
  ∃ t, PA X es t ∧ ∀ (Y : Fx) (F H : Hp) (δ : List Sl) (σ : L2.St) (A : Nat → List Addr), SR X.K Y F H δ σ A → ∀ (ds : List D) (δ' : List Sl), f δ = some (ds, δ') → ∀ Q : List V → Hp → Prop,
    (∀ vs F' H', Stp A M F H F' H' → SR X.K Y F' H' δ' σ A → Vws X.K F' H' A R vs ds → Q vs H') → t σ H Q
/-- a new list or dict -/
def NV (X : Cx) (e : Expr) (f : List Sl → Option (D × List Sl)) (M : List Nat) : Prop :=
  ∃ t, PE X e t ∧ ∀ (Y : Fx) (F H : Hp) (δ : List Sl) (σ : L2.St) (A : Nat → List Addr), SR X.K Y F H δ σ A → ∀ (d : D) (δ' : List Sl), f δ = some (d, δ') → ∀ Q : VK,
    (∀ p F' H', Stp A M F H F' H' → SR X.K Y F' H' δ' σ A → H p = none → F' p = none → OwnR X.K F' H' p d → Q (.ref p) H') → t σ H Q
end
end Z

/-! Z1: names, constants, operators, comparisons, tests, displays, subscripts. -/
namespace Z
open PySem PySem.Spec PyProof.Rows L2
section
variable {X : Cx} {pos : Pos}

theorem EV.weak {e : Expr} {f} {R M R' M' : List Nat} (h : EV X e f R M) (hR : ∀ i ∈ R, i ∈ R') (hM : ∀ i ∈ M, i ∈ M') : EV X e f R' M' := by
  obtain ⟨t, p, q⟩ := h
  exact ⟨t, p, fun Y F H δ σ A S d δ' e Q k => q Y F H δ σ A S d δ' e Q fun v F' H' st S' r => k v F' H' (st.mono hM) S' (r.mono hR)⟩

/-! ### names, constants -/
def fCon (d : D) : List Sl → Option (D × List Sl) := fun δ => some (d, δ)
def fVar (i : Nat) : List Sl → Option (D × List Sl) := fun δ => match δ[i]? with | some (.fz d) => some (d, δ) | _ => none
def fTmp (i : Nat) : List Sl → Option (D × List Sl) := fun δ => match δ[i]? with | some (.ow (.list ds)) => some (.list ds, δ) | some (.lk ds) => some (.dict ds, δ) | _ => none
theorem ev_const {e : Expr} {v : V} {d : D} (h : PE X e (tC v)) (r : ∀ G, Rp X.K G v d) : EV X e (fCon d) [] [] := by
  refine ⟨_, h, fun Y F H δ σ A S d' δ' e Q k => ?_⟩
  cases e
  exact k _ _ _ Stp.refl S (.inl (r _))
theorem ev_int {i j} : EV X (.Constant (.int i) j pos) (fCon (.int i)) [] [] := ev_const pe_int fun _ => .int _
theorem ev_bl {i j} : EV X (.Constant (.bool i) j pos) (fCon (.bool i)) [] [] := ev_const pe_bl fun _ => .bl _
theorem ev_str {i j} : EV X (.Constant (.str i) j pos) (fCon (.str i)) [] [] := ev_const pe_str fun _ => .str _
theorem ev_non {j} : EV X (.Constant .none j pos) (fCon .none) [] [] := ev_const pe_non fun _ => .non
theorem ev_var {i : Nat} {x : Str} (hN : X.N[i]? = some x) (hv : Vis X.env.scope x) (h1 : (x == ("__debug__" : Str)) = false := by decide) (h2 : (x == ("__classdict__" : Str)) = false := by decide) : EV X (.Name x pos) (fVar i) [] [] := by
  refine ⟨_, pe_var hN hv h1 h2, fun Y F H δ σ A S d δ' e Q k => ?_⟩
  unfold fVar at e
  split at e
  · rename_i d0 hd
    cases e
    obtain ⟨_, v, e2, r⟩ := S.slot i _ hd
    refine ⟨v, ?_, k v F H Stp.refl S (.inl r)⟩
    cases e3 : σ[i]? with
    | none => rw [e3] at e2; cases e2
    | some o => rw [e3] at e2; cases (show o = some v from e2); rfl
  · cases e
theorem jn_some {σ : L2.St} {i : Nat} {v : V} (h : jn σ[i]? = some v) : σ[i]? = some (some v) := by
  cases e3 : σ[i]? with
  | none => rw [e3] at h; cases h
  | some o => rw [e3] at h; cases (show o = some v from h); rfl
theorem own_rp {K : PySem.W.Frag} {F G H : Hp} {p : Addr} {d : D} (o : OwnV K F H p d) (s : Same F G) (g : G p = H p) : Rp K G (.ref p) d := by
  cases d with
  | list ds => obtain ⟨xs, h1, h2⟩ := o; exact .lst (by rw [g]; exact h1) (h2.mono s)
  | dict ds => obtain ⟨o, xs, h1, h2⟩ := o; exact .dic (by rw [g]; exact h1) (h2.mono s)
  | _ => exact o.elim
/-- what is new is locked, if it is a dict -/
theorem pe_alt {X : Cx} {e : Expr} {t u : TE} (h : PE X e t) (g : PE X e u) : PE X e (fun σ H Q => t σ H Q ∨ u σ H Q) :=
  ⟨fun pins s σ H Q I hw => hw.elim (h.run pins s σ H Q I) (g.run pins s σ H Q I)⟩
theorem ps_alt {X : Cx} {e : Stmt} {t u : TS} (h : PS X e t) (g : PS X e u) : PS X e (fun D σ H => t D σ H ∨ u D σ H) :=
  ⟨fun pins s σ H D I hw => hw.elim (h.run pins s σ H D I) (g.run pins s σ H D I)⟩
theorem ps_lock1 {X : Cx} {st : Stmt} {t : TS} (h : PS X st t) : PS X st (fun D σ H => ∃ d u, H d = some u ∧ Mut (some u) ∧ ∀ od, t D σ (upd H d (.frz od u))) := by
  refine ⟨fun pins s σ H D I hw => ?_⟩
  obtain ⟨d, u, hd, mu, hw⟩ := hw
  obtain ⟨od, I1⟩ := I.lock hd mu
  exact h.run pins s σ _ D I1 (hw od)
/-- what e gives is locked behind it -/
theorem pe_lock1 {X : Cx} {e : Expr} {t : TE} (h : PE X e t) : PE X e (fun σ H Q => t σ H fun v H1 => ∃ d u, v = .ref d ∧ H1 d = some u ∧ Mut (some u) ∧ ∀ od, Q v (upd H1 d (.frz od u))) := by
  refine ⟨fun pins s σ H Q I hw => ?_⟩
  refine thn (h.run pins s σ H _ I hw) fun w s1 ⟨v, H1, I1, r, d, u, ev, hd, mu, q⟩ => ?_
  obtain ⟨od, I2⟩ := I1.lock hd mu
  exact ⟨v, _, I2, r, q od⟩
theorem ev_tmp {i : Nat} {x : Str} (hN : X.N[i]? = some x) (hv : Vis X.env.scope x) (h1 : (x == ("__debug__" : Str)) = false := by decide) (h2 : (x == ("__classdict__" : Str)) = false := by decide) : EV X (.Name x pos) (fTmp i) [i] [] := by
  refine ⟨_, pe_var hN hv h1 h2, fun Y F H δ σ A S d δ' e Q k => ?_⟩
  unfold fTmp at e
  split at e
  · rename_i d0 hd
    cases e
    obtain ⟨p, e2, e3, o⟩ := S.slot i _ hd
    exact ⟨_, jn_some e2, k _ F H Stp.refl S (.inr ⟨i, by simp, p, rfl, e3, o⟩)⟩
  · rename_i d0 hd
    cases e
    obtain ⟨p, e2, e3, o⟩ := S.slot i _ hd
    exact ⟨_, jn_some e2, k _ F H Stp.refl S (.inr ⟨i, by simp, p, rfl, e3, o⟩)⟩
  · cases e

/-! ### two-place operations by data -/
/-- the operation with reading r does g, on data -/
def OpS (X : Cx) (r : R2) (g : D → D → Option D) : Prop :=
  ∀ (Y : Fx) (F H : Hp) (δ : List Sl) (σ : L2.St) (A : Nat → List Addr) (R : List Nat) (x y : V) (d e z : D), SR X.K Y F H δ σ A → Vw X.K F H A R x d → Vw X.K F H A R y e → g d e = some z →
    ∀ Q : VK, (∀ v F' H', Stp A [] F H F' H' → SR X.K Y F' H' δ σ A → Rp X.K F' v z → Q v H') → r x y H Q
/-- .. makes a new list -/
def OpN (X : Cx) (r : R2) (g : D → D → Option D) : Prop :=
  ∀ (Y : Fx) (F H : Hp) (δ : List Sl) (σ : L2.St) (A : Nat → List Addr) (R : List Nat) (x y : V) (d e z : D), SR X.K Y F H δ σ A → Vw X.K F H A R x d → Vw X.K F H A R y e → g d e = some z →
    ∀ Q : VK, (∀ p F' H', Stp A [] F H F' H' → SR X.K Y F' H' δ σ A → H p = none → F' p = none → OwnR X.K F' H' p z → Q (.ref p) H') → r x y H Q
def f2 (g : D → D → Option D) (fa fb : List Sl → Option (D × List Sl)) : List Sl → Option (D × List Sl) := fun δ => (fa δ).bind fun p => (fb p.2).bind fun q => (g p.1 q.1).map fun z => (z, q.2)
section
variable {a b c : Expr} {fa fb fc : List Sl → Option (D × List Sl)} {Ra Rb Rc Ma Mb Mc : List Nat} {g : D → D → Option D} {r : R2}
theorem f2_some {fa fb : List Sl → Option (D × List Sl)} {δ δ' : List Sl} {z : D} (h : f2 g fa fb δ = some (z, δ')) : ∃ d δ1 e, fa δ = some (d, δ1) ∧ fb δ1 = some (e, δ') ∧ g d e = some z := by
  unfold f2 at h
  cases e1 : fa δ with
  | none => rw [e1] at h; cases h
  | some p =>
    obtain ⟨d, δ1⟩ := p
    rw [e1] at h
    simp only [Option.bind_some] at h
    cases e2 : fb δ1 with
    | none => rw [e2] at h; cases h
    | some q =>
      obtain ⟨e, δ2⟩ := q
      rw [e2] at h
      simp only [Option.bind_some] at h
      cases e3 : g d e with
      | none => rw [e3] at h; cases h
      | some w =>
        rw [e3] at h
        cases h
        exact ⟨d, δ1, e, rfl, e2, e3⟩
/-- both operands, then the operation -/
theorem two (ha : EV X a fa Ra Ma) (hb : EV X b fb Rb Mb) (dj : ∀ i ∈ Ra, i ∉ Mb := by decide) : ∃ ta tb, PE X a ta ∧ PE X b tb ∧
    ∀ (Y : Fx) (F H : Hp) (δ : List Sl) (σ : L2.St) (A : Nat → List Addr), SR X.K Y F H δ σ A → ∀ (z : D) (δ' : List Sl), f2 g fa fb δ = some (z, δ') → ∀ Q : V → V → Hp → Prop,
      (∀ x y d e F' H', Stp A (Ma ++ Mb) F H F' H' → SR X.K Y F' H' δ' σ A → Vw X.K F' H' A (Ra ++ Rb) x d → Vw X.K F' H' A (Ra ++ Rb) y e → g d e = some z → Q x y H') → ta σ H fun x H1 => tb σ H1 fun y H2 => Q x y H2 := by
  obtain ⟨ta, pa, qa⟩ := ha
  obtain ⟨tb, pb, qb⟩ := hb
  refine ⟨ta, tb, pa, pb, fun Y F H δ σ A S z δ' e Q k => ?_⟩
  obtain ⟨d, δ1, e', e1, e2, e3⟩ := f2_some e
  refine qa Y F H δ σ A S d δ1 e1 _ fun x F1 H1 st1 S1 r1 => ?_
  refine qb Y F1 H1 δ1 σ A S1 e' δ' e2 _ fun y F2 H2 st2 S2 r2 => ?_
  refine k x y d e' F2 H2 (st1.trans S1 st2) S2 ?_ (r2.mono fun i hi => List.mem_append_right _ hi) e3
  exact (r1.step S1 st2 dj).mono fun i hi => List.mem_append_left _ hi
theorem stp_nil {A : Nat → List Addr} {M : List Nat} {F H F1 H1 F2 H2 : Hp} {K : PySem.W.Frag} {Y : Fx} {δ : List Sl} {σ : L2.St} (S1 : SR K Y F1 H1 δ σ A) (h : Stp A M F H F1 H1) (h' : Stp A [] F1 H1 F2 H2) : Stp A M F H F2 H2 := by
  have := h.trans S1 h'
  rwa [List.append_nil] at this
theorem ev_op {op : Operator} (ho : OpR X (binaryOp op) r) (hs : OpS X r g) (ha : EV X a fa Ra Ma) (hb : EV X b fb Rb Mb) (dj : ∀ i ∈ Ra, i ∉ Mb := by decide) : EV X (.BinOp a op b pos) (f2 g fa fb) [] (Ma ++ Mb) := by
  obtain ⟨ta, tb, pa, pb, q⟩ := two (g := g) ha hb dj
  refine ⟨_, pe_op ho pa pb, fun Y F H δ σ A S z δ' e Q k => ?_⟩
  refine q Y F H δ σ A S z δ' e _ fun x y d e F1 H1 st S1 r1 r2 hg => ?_
  refine hs Y F1 H1 δ' σ A _ x y d e z S1 r1 r2 hg Q fun v F2 H2 st2 S2 r3 => ?_
  exact k v F2 H2 (stp_nil S1 st st2) S2 (.inl r3)
theorem nv_op {op : Operator} (ho : OpR X (binaryOp op) r) (hs : OpN X r g) (ha : EV X a fa Ra Ma) (hb : EV X b fb Rb Mb) (dj : ∀ i ∈ Ra, i ∉ Mb := by decide) : NV X (.BinOp a op b pos) (f2 g fa fb) (Ma ++ Mb) := by
  obtain ⟨ta, tb, pa, pb, q⟩ := two (g := g) ha hb dj
  refine ⟨_, pe_op ho pa pb, fun Y F H δ σ A S z δ' e Q k => ?_⟩
  refine q Y F H δ σ A S z δ' e _ fun x y d e F1 H1 st S1 r1 r2 hg => ?_
  refine hs Y F1 H1 δ' σ A _ x y d e z S1 r1 r2 hg Q fun v F2 H2 st2 S2 n f3 r3 => ?_
  refine k v F2 H2 (stp_nil S1 st st2) S2 ?_ f3 r3
  cases e5 : H v with
  | none => rfl
  | some o =>
    by_cases c : ∃ i, v ∈ A i
    · obtain ⟨i, hi⟩ := c
      exact absurd n (S1.isSome hi)
    · have := st.kp v o e5 fun i _ hi => c ⟨i, hi⟩
      rw [n] at this
      cases this
/-- a comparison -/
theorem ev_cmp {op : CmpOp} (ho : OpR X (compareOp op) r) (hs : OpS X r g) (ha : EV X a fa Ra Ma) (hb : EV X b fb Rb Mb) (dj : ∀ i ∈ Ra, i ∉ Mb := by decide) (hm : behindInMarks op b = false := by rfl) : EV X (.Compare a [op] [b] pos) (f2 g fa fb) [] (Ma ++ Mb) := by
  obtain ⟨ta, tb, pa, pb, q⟩ := two (g := g) ha hb dj
  refine ⟨_, pe_cmpR ho pa pb hm, fun Y F H δ σ A S z δ' e Q k => ?_⟩
  refine q Y F H δ σ A S z δ' e _ fun x y d e F1 H1 st S1 r1 r2 hg => ?_
  refine hs Y F1 H1 δ' σ A _ x y d e z S1 r1 r2 hg Q fun v F2 H2 st2 S2 r3 => ?_
  exact k v F2 H2 (stp_nil S1 st st2) S2 (.inl r3)
/-- what is True or False, as a Bool -/
def toB (o : Option (D × List Sl)) : Option (Bool × List Sl) := o.bind fun p => match p.1 with | .bool b => some (b, p.2) | _ => none
theorem toB_some {o : Option (D × List Sl)} {b : Bool} {δ : List Sl} (h : toB o = some (b, δ)) : o = some (.bool b, δ) := by
  unfold toB at h
  cases o with
  | none => cases h
  | some p =>
    obtain ⟨d, δ1⟩ := p
    cases d <;> simp at h
    obtain ⟨rfl, rfl⟩ := h
    rfl
theorem rp_bool {K : PySem.W.Frag} {G : Hp} {v : V} {b : Bool} (h : Rp K G v (.bool b)) : v = .bl b := by
  cases h
  rfl
theorem tv_cmp {op : CmpOp} (ho : OpR X (compareOp op) r) (hs : OpS X r g) (ha : EV X a fa Ra Ma) (hb : EV X b fb Rb Mb) (dj : ∀ i ∈ Ra, i ∉ Mb := by decide) (hm : behindInMarks op b = false := by rfl) : TV X (.Compare a [op] [b] pos) (fun δ => toB (f2 g fa fb δ)) (Ma ++ Mb) := by
  obtain ⟨ta, tb, pa, pb, q⟩ := two (g := g) ha hb dj
  refine ⟨_, pt_cmpR ho pa pb hm, fun Y F H δ σ A S z δ' e Q k => ?_⟩
  refine q Y F H δ σ A S _ δ' (toB_some e) _ fun x y d e F1 H1 st S1 r1 r2 hg => ?_
  refine hs Y F1 H1 δ' σ A _ x y d e _ S1 r1 r2 hg _ fun v F2 H2 st2 S2 r3 => ?_
  exact ⟨z, rp_bool r3, k F2 H2 (stp_nil S1 st st2) S2⟩
/-- an expression that is True or False, as a test -/
theorem tv_val (h : EV X a fa Ra Ma) (he : ∀ whole, isTrue a X.env whole = (do let v ← whole; standAt a.pos; holding [v] (truthy v)) := by intro _; rfl) : TV X a (fun δ => toB (fa δ)) Ma := by
  obtain ⟨t, p, q⟩ := h
  refine ⟨_, pt_val p he, fun Y F H δ σ A S z δ' e Q k => ?_⟩
  refine q Y F H δ σ A S _ δ' (toB_some e) _ fun v F1 H1 st S1 r1 => ?_
  exact ⟨z, r1.bl, k F1 H1 st S1⟩

/-! ### a op b op c -/
def fChain (g g' : D → D → Option D) (fa fb fc : List Sl → Option (D × List Sl)) : List Sl → Option (D × List Sl) := fun δ => (fa δ).bind fun p => (fb p.2).bind fun q => (g p.1 q.1).bind fun z => match z with
  | .bool true => (fc q.2).bind fun u => (g' q.1 u.1).map fun z' => (z', u.2)
  | .bool false => some (.bool false, q.2)
  | _ => none
theorem ev_chain {op op' : CmpOp} {r r' : R2} {g g' : D → D → Option D} (ho : OpR X (compareOp op) r) (hs : OpS X r g) (ho' : OpR X (compareOp op') r') (hs' : OpS X r' g') (ha : EV X a fa Ra Ma) (hb : EV X b fb Rb Mb) (hc : EV X c fc Rc Mc)
    (dj : ∀ i ∈ Ra, i ∉ Mb := by decide) (dj2 : ∀ i ∈ Rb, i ∉ Mc := by decide) (hm : lastMarks [op, op'] [b, c] = false := by rfl) : EV X (.Compare a [op, op'] [b, c] pos) (fChain g g' fa fb fc) [] (Ma ++ Mb ++ Mc) := by
  obtain ⟨ta, pa, qa⟩ := ha
  obtain ⟨tb, pb, qb⟩ := hb
  obtain ⟨tc, pc, qc⟩ := hc
  refine ⟨_, pe_chain ho ho' pa pb pc hm, fun Y F H δ σ A S z δ' e Q k => ?_⟩
  unfold fChain at e
  cases e1 : fa δ with
  | none => rw [e1] at e; cases e
  | some p =>
    obtain ⟨d, δ1⟩ := p
    rw [e1] at e
    simp only [Option.bind_some] at e
    cases e2 : fb δ1 with
    | none => rw [e2] at e; cases e
    | some p =>
      obtain ⟨d2, δ2⟩ := p
      rw [e2] at e
      simp only [Option.bind_some] at e
      cases e3 : g d d2 with
      | none => rw [e3] at e; cases e
      | some w =>
        rw [e3] at e
        simp only [Option.bind_some] at e
        refine qa Y F H δ σ A S d δ1 e1 _ fun x F1 H1 st1 S1 r1 => ?_
        refine qb Y F1 H1 δ1 σ A S1 d2 δ2 e2 _ fun y F2 H2 st2 S2 r2 => ?_
        have r1' : Vw X.K F2 H2 A (Ra ++ Rb) x d := (r1.step S1 st2 dj).mono fun i hi => List.mem_append_left _ hi
        have r2' : Vw X.K F2 H2 A (Ra ++ Rb) y d2 := r2.mono fun i hi => List.mem_append_right _ hi
        refine hs Y F2 H2 δ2 σ A _ x y d d2 w S2 r1' r2' e3 _ fun v F3 H3 st3 S3 r3 => ?_
        have st : Stp A (Ma ++ Mb) F H F3 H3 := stp_nil S2 (st1.trans S1 st2) st3
        cases w with
        | bool k' =>
          refine ⟨k', rp_bool r3, ?_⟩
          cases k' with
          | false =>
            cases e
            rw [if_neg Bool.false_ne_true]
            exact k _ F3 H3 (st.mono fun i hi => List.mem_append_left _ hi) S3 (.inl (.bl _))
          | true =>
            rw [if_pos rfl]
            simp only at e
            cases e4 : fc δ2 with
            | none => rw [e4] at e; cases e
            | some p =>
              obtain ⟨d3, δ3⟩ := p
              rw [e4] at e
              simp only [Option.bind_some] at e
              cases e5 : g' d2 d3 with
              | none => rw [e5] at e; cases e
              | some w' =>
                rw [e5] at e
                cases e
                refine qc Y F3 H3 δ2 σ A S3 d3 _ e4 _ fun w1 F4 H4 st4 S4 r4 => ?_
                have r2'' : Vw X.K F4 H4 A (Rb ++ Rc) y d2 := ((r2.step S2 st3 (by simp)).step S3 st4 dj2).mono fun i hi => List.mem_append_left _ hi
                have r4' : Vw X.K F4 H4 A (Rb ++ Rc) w1 d3 := r4.mono fun i hi => List.mem_append_right _ hi
                refine hs' Y F4 H4 δ' σ A _ y w1 d2 d3 _ S4 r2'' r4' e5 Q fun v F5 H5 st5 S5 r5 => ?_
                exact k v F5 H5 (stp_nil S4 (st.trans S3 st4) st5) S5 (.inl r5)
        | _ => cases e
theorem tv_chain {op op' : CmpOp} {r r' : R2} {g g' : D → D → Option D} (ho : OpR X (compareOp op) r) (hs : OpS X r g) (ho' : OpR X (compareOp op') r') (hs' : OpS X r' g') (ha : EV X a fa Ra Ma) (hb : EV X b fb Rb Mb) (hc : EV X c fc Rc Mc)
    (dj : ∀ i ∈ Ra, i ∉ Mb := by decide) (dj2 : ∀ i ∈ Rb, i ∉ Mc := by decide) (hm : lastMarks [op, op'] [b, c] = false := by rfl) : TV X (.Compare a [op, op'] [b, c] pos) (fun δ => toB (fChain g g' fa fb fc δ)) (Ma ++ Mb ++ Mc) := by
  obtain ⟨ta, pa, qa⟩ := ha
  obtain ⟨tb, pb, qb⟩ := hb
  obtain ⟨tc, pc, qc⟩ := hc
  refine ⟨_, pt_chain ho ho' pa pb pc hm, fun Y F H δ σ A S z δ' e Q k => ?_⟩
  have e := toB_some e
  unfold fChain at e
  cases e1 : fa δ with
  | none => rw [e1] at e; cases e
  | some p =>
    obtain ⟨d, δ1⟩ := p
    rw [e1] at e
    simp only [Option.bind_some] at e
    cases e2 : fb δ1 with
    | none => rw [e2] at e; cases e
    | some p =>
      obtain ⟨d2, δ2⟩ := p
      rw [e2] at e
      simp only [Option.bind_some] at e
      cases e3 : g d d2 with
      | none => rw [e3] at e; cases e
      | some w =>
        rw [e3] at e
        simp only [Option.bind_some] at e
        refine qa Y F H δ σ A S d δ1 e1 _ fun x F1 H1 st1 S1 r1 => ?_
        refine qb Y F1 H1 δ1 σ A S1 d2 δ2 e2 _ fun y F2 H2 st2 S2 r2 => ?_
        have r1' : Vw X.K F2 H2 A (Ra ++ Rb) x d := (r1.step S1 st2 dj).mono fun i hi => List.mem_append_left _ hi
        have r2' : Vw X.K F2 H2 A (Ra ++ Rb) y d2 := r2.mono fun i hi => List.mem_append_right _ hi
        refine hs Y F2 H2 δ2 σ A _ x y d d2 w S2 r1' r2' e3 _ fun v F3 H3 st3 S3 r3 => ?_
        have st : Stp A (Ma ++ Mb) F H F3 H3 := stp_nil S2 (st1.trans S1 st2) st3
        cases w with
        | bool k' =>
          refine ⟨k', rp_bool r3, ?_⟩
          cases k' with
          | false =>
            cases e
            rw [if_neg Bool.false_ne_true]
            exact ⟨false, rfl, k F3 H3 (st.mono fun i hi => List.mem_append_left _ hi) S3⟩
          | true =>
            rw [if_pos rfl]
            simp only at e
            cases e4 : fc δ2 with
            | none => rw [e4] at e; cases e
            | some p =>
              obtain ⟨d3, δ3⟩ := p
              rw [e4] at e
              simp only [Option.bind_some] at e
              cases e5 : g' d2 d3 with
              | none => rw [e5] at e; cases e
              | some w' =>
                rw [e5] at e
                cases e
                refine qc Y F3 H3 δ2 σ A S3 d3 _ e4 _ fun w1 F4 H4 st4 S4 r4 => ?_
                have r2'' : Vw X.K F4 H4 A (Rb ++ Rc) y d2 := ((r2.step S2 st3 (by simp)).step S3 st4 dj2).mono fun i hi => List.mem_append_left _ hi
                have r4' : Vw X.K F4 H4 A (Rb ++ Rc) w1 d3 := r4.mono fun i hi => List.mem_append_right _ hi
                refine hs' Y F4 H4 δ' σ A _ y w1 d2 d3 _ S4 r2'' r4' e5 _ fun v F5 H5 st5 S5 r5 => ?_
                exact ⟨z, rp_bool r5, k F5 H5 (stp_nil S4 (st.trans S3 st4) st5) S5⟩
        | _ => cases e

/-! ### and, or, not, if -/
variable {ga gb : List Sl → Option (Bool × List Sl)} {rest : List Expr}
def gAnd (ga gb : List Sl → Option (Bool × List Sl)) : List Sl → Option (Bool × List Sl) := fun δ => (ga δ).bind fun p => match p.1 with | true => gb p.2 | false => some (false, p.2)
def gOr (ga gb : List Sl → Option (Bool × List Sl)) : List Sl → Option (Bool × List Sl) := fun δ => (ga δ).bind fun p => match p.1 with | true => some (true, p.2) | false => gb p.2
def gNot (ga : List Sl → Option (Bool × List Sl)) : List Sl → Option (Bool × List Sl) := fun δ => (ga δ).map fun p => (!p.1, p.2)
/-- a test whatever its whole is -/
def WV (X : Cx) (e : Expr) (f : List Sl → Option (Bool × List Sl)) (M : List Nat) : Prop :=
  ∃ t, PW X e t ∧ ∀ (Y : Fx) (F H : Hp) (δ : List Sl) (σ : L2.St) (A : Nat → List Addr), SR X.K Y F H δ σ A → ∀ (b : Bool) (δ' : List Sl), f δ = some (b, δ') → ∀ Q : Bool → Hp → Prop,
    (∀ F' H', Stp A M F H F' H' → SR X.K Y F' H' δ' σ A → Q b H') → t σ H Q
theorem WV.tv {e : Expr} {f M} (h : WV X e f M) : TV X e f M := by
  obtain ⟨t, p, q⟩ := h
  exact ⟨t, p.pt, q⟩
theorem wv_and1 (ha : TV X a ga Ma) : WV X (.BoolOp .And [a] pos) ga Ma := by
  obtain ⟨t, p, q⟩ := ha
  exact ⟨t, pw_and1 p, q⟩
theorem wv_or1 (ha : TV X a ga Ma) : WV X (.BoolOp .Or [a] pos) ga Ma := by
  obtain ⟨t, p, q⟩ := ha
  exact ⟨t, pw_or1 p, q⟩
theorem wv_and (ha : TV X a ga Ma) (hb : WV X (.BoolOp .And (b :: rest) pos) gb Mb) : WV X (.BoolOp .And (a :: b :: rest) pos) (gAnd ga gb) (Ma ++ Mb) := by
  obtain ⟨ta, pa, qa⟩ := ha
  obtain ⟨tb, pb, qb⟩ := hb
  refine ⟨_, pw_and pa pb, fun Y F H δ σ A S z δ' e Q k => ?_⟩
  unfold gAnd at e
  cases e1 : ga δ with
  | none => rw [e1] at e; cases e
  | some p =>
    obtain ⟨b1, δ1⟩ := p
    rw [e1] at e
    refine qa Y F H δ σ A S b1 δ1 e1 _ fun F1 H1 st1 S1 => ?_
    cases b1 with
    | true => exact iteT (qb Y F1 H1 δ1 σ A S1 z δ' e Q fun F2 H2 st2 S2 => k F2 H2 (st1.trans S1 st2) S2)
    | false =>
      cases e
      exact iteF (k F1 H1 (st1.mono fun i hi => List.mem_append_left _ hi) S1)
theorem wv_or (ha : TV X a ga Ma) (hb : WV X (.BoolOp .Or (b :: rest) pos) gb Mb) : WV X (.BoolOp .Or (a :: b :: rest) pos) (gOr ga gb) (Ma ++ Mb) := by
  obtain ⟨ta, pa, qa⟩ := ha
  obtain ⟨tb, pb, qb⟩ := hb
  refine ⟨_, pw_or pa pb, fun Y F H δ σ A S z δ' e Q k => ?_⟩
  unfold gOr at e
  cases e1 : ga δ with
  | none => rw [e1] at e; cases e
  | some p =>
    obtain ⟨b1, δ1⟩ := p
    rw [e1] at e
    refine qa Y F H δ σ A S b1 δ1 e1 _ fun F1 H1 st1 S1 => ?_
    cases b1 with
    | false => exact iteF (qb Y F1 H1 δ1 σ A S1 z δ' e Q fun F2 H2 st2 S2 => k F2 H2 (st1.trans S1 st2) S2)
    | true =>
      cases e
      exact iteT (k F1 H1 (st1.mono fun i hi => List.mem_append_left _ hi) S1)
theorem tv_not (ha : TV X a ga Ma) : TV X (.UnaryOp .Not a pos) (gNot ga) Ma := by
  obtain ⟨t, p, q⟩ := ha
  refine ⟨_, pt_not p, fun Y F H δ σ A S z δ' e Q k => ?_⟩
  unfold gNot at e
  cases e1 : ga δ with
  | none => rw [e1] at e; cases e
  | some p =>
    obtain ⟨b1, δ1⟩ := p
    rw [e1] at e
    cases e
    exact q Y F H δ σ A S b1 δ1 e1 _ fun F1 H1 st1 S1 => k F1 H1 st1 S1
/-- as values: the left ones True or False -/
def fAnd (fa fb : List Sl → Option (D × List Sl)) : List Sl → Option (D × List Sl) := fun δ => (toB (fa δ)).bind fun p => match p.1 with | true => fb p.2 | false => some (.bool false, p.2)
def fOr (fa fb : List Sl → Option (D × List Sl)) : List Sl → Option (D × List Sl) := fun δ => (toB (fa δ)).bind fun p => match p.1 with | true => some (.bool true, p.2) | false => fb p.2
def fNot (fa : List Sl → Option (D × List Sl)) : List Sl → Option (D × List Sl) := fun δ => (toB (fa δ)).map fun p => (.bool (!p.1), p.2)
theorem ev_and1 (ha : EV X a fa Ra Ma) : EV X (.BoolOp .And [a] pos) fa Ra Ma := by
  obtain ⟨t, p, q⟩ := ha
  exact ⟨t, pe_one p, q⟩
theorem ev_or1 (ha : EV X a fa Ra Ma) : EV X (.BoolOp .Or [a] pos) fa Ra Ma := by
  obtain ⟨t, p, q⟩ := ha
  exact ⟨t, pe_one p, q⟩
theorem ev_and (ha : EV X a fa Ra Ma) (hb : EV X (.BoolOp .And (b :: rest) pos) fb Rb Mb) : EV X (.BoolOp .And (a :: b :: rest) pos) (fAnd fa fb) Rb (Ma ++ Mb) := by
  obtain ⟨ta, pa, qa⟩ := ha
  obtain ⟨tb, pb, qb⟩ := hb
  refine ⟨_, pe_and pa pb, fun Y F H δ σ A S z δ' e Q k => ?_⟩
  unfold fAnd at e
  cases e1 : toB (fa δ) with
  | none => rw [e1] at e; cases e
  | some p =>
    obtain ⟨b1, δ1⟩ := p
    rw [e1] at e
    refine qa Y F H δ σ A S _ δ1 (toB_some e1) _ fun v F1 H1 st1 S1 r1 => ?_
    refine ⟨b1, r1.bl, ?_⟩
    cases b1 with
    | true => exact iteT (qb Y F1 H1 δ1 σ A S1 z δ' e Q fun v F2 H2 st2 S2 r2 => k v F2 H2 (st1.trans S1 st2) S2 r2)
    | false =>
      cases e
      exact iteF (k _ F1 H1 (st1.mono fun i hi => List.mem_append_left _ hi) S1 (.inl (.bl _)))
theorem ev_or (ha : EV X a fa Ra Ma) (hb : EV X (.BoolOp .Or (b :: rest) pos) fb Rb Mb) : EV X (.BoolOp .Or (a :: b :: rest) pos) (fOr fa fb) Rb (Ma ++ Mb) := by
  obtain ⟨ta, pa, qa⟩ := ha
  obtain ⟨tb, pb, qb⟩ := hb
  refine ⟨_, pe_or pa pb, fun Y F H δ σ A S z δ' e Q k => ?_⟩
  unfold fOr at e
  cases e1 : toB (fa δ) with
  | none => rw [e1] at e; cases e
  | some p =>
    obtain ⟨b1, δ1⟩ := p
    rw [e1] at e
    refine qa Y F H δ σ A S _ δ1 (toB_some e1) _ fun v F1 H1 st1 S1 r1 => ?_
    refine ⟨b1, r1.bl, ?_⟩
    cases b1 with
    | false => exact iteF (qb Y F1 H1 δ1 σ A S1 z δ' e Q fun v F2 H2 st2 S2 r2 => k v F2 H2 (st1.trans S1 st2) S2 r2)
    | true =>
      cases e
      exact iteT (k _ F1 H1 (st1.mono fun i hi => List.mem_append_left _ hi) S1 (.inl (.bl _)))
theorem ev_not (ha : EV X a fa Ra Ma) : EV X (.UnaryOp .Not a pos) (fNot fa) [] Ma := by
  obtain ⟨t, p, q⟩ := ha
  refine ⟨_, pe_not p, fun Y F H δ σ A S z δ' e Q k => ?_⟩
  unfold fNot at e
  cases e1 : toB (fa δ) with
  | none => rw [e1] at e; cases e
  | some p =>
    obtain ⟨b1, δ1⟩ := p
    rw [e1] at e
    cases e
    exact q Y F H δ σ A S _ δ1 (toB_some e1) _ fun v F1 H1 st1 S1 r1 => ⟨b1, r1.bl, k _ F1 H1 st1 S1 (.inl (.bl _))⟩
def fIte (gc : List Sl → Option (Bool × List Sl)) (fa fb : List Sl → Option (D × List Sl)) : List Sl → Option (D × List Sl) := fun δ => (gc δ).bind fun p => match p.1 with | true => fa p.2 | false => fb p.2
theorem ev_ite {gc} (hc : TV X c gc Mc) (ha : EV X a fa Ra Ma) (hb : EV X b fb Rb Mb) : EV X (.IfExp c a b pos) (fIte gc fa fb) (Ra ++ Rb) (Mc ++ (Ma ++ Mb)) := by
  obtain ⟨tc, pc, qc⟩ := hc
  obtain ⟨ta, pa, qa⟩ := ha
  obtain ⟨tb, pb, qb⟩ := hb
  refine ⟨_, pe_ifExp pc pa pb, fun Y F H δ σ A S z δ' e Q k => ?_⟩
  unfold fIte at e
  cases e1 : gc δ with
  | none => rw [e1] at e; cases e
  | some p =>
    obtain ⟨b1, δ1⟩ := p
    rw [e1] at e
    refine qc Y F H δ σ A S _ δ1 e1 _ fun F1 H1 st1 S1 => ?_
    cases b1 with
    | true => exact iteT (qa Y F1 H1 δ1 σ A S1 z δ' e Q fun v F2 H2 st2 S2 r2 => k v F2 H2 ((st1.trans S1 st2).mono fun i hi => by
        rcases List.mem_append.mp hi with h | h
        · exact List.mem_append_left _ h
        · exact List.mem_append_right _ (List.mem_append_left _ h)) S2 (r2.mono fun i hi => List.mem_append_left _ hi))
    | false => exact iteF (qb Y F1 H1 δ1 σ A S1 z δ' e Q fun v F2 H2 st2 S2 r2 => k v F2 H2 ((st1.trans S1 st2).mono fun i hi => by
        rcases List.mem_append.mp hi with h | h
        · exact List.mem_append_left _ h
        · exact List.mem_append_right _ (List.mem_append_right _ h)) S2 (r2.mono fun i hi => List.mem_append_right _ hi))
/-- a new list in one of two ways -/
theorem nv_ite {gc} (hc : TV X c gc Mc) (ha : NV X a fa Ma) (hb : NV X b fb Mb) : NV X (.IfExp c a b pos) (fIte gc fa fb) (Mc ++ (Ma ++ Mb)) := by
  obtain ⟨tc, pc, qc⟩ := hc
  obtain ⟨ta, pa, qa⟩ := ha
  obtain ⟨tb, pb, qb⟩ := hb
  refine ⟨_, pe_ifExp pc pa pb, fun Y F H δ σ A S z δ' e Q k => ?_⟩
  unfold fIte at e
  have back : ∀ {F1 H1 δ1 p}, Stp A Mc F H F1 H1 → SR X.K Y F1 H1 δ1 σ A → H1 p = none → H p = none := fun {F1 H1 δ1 p} st S1 n => by
    cases e5 : H p with
    | none => rfl
    | some o =>
      by_cases c : ∃ i, p ∈ A i
      · obtain ⟨i, hi⟩ := c
        exact absurd n (S1.isSome hi)
      · have := st.kp p o e5 fun i _ hi => c ⟨i, hi⟩
        rw [n] at this
        cases this
  cases e1 : gc δ with
  | none => rw [e1] at e; cases e
  | some p =>
    obtain ⟨b1, δ1⟩ := p
    rw [e1] at e
    refine qc Y F H δ σ A S _ δ1 e1 _ fun F1 H1 st1 S1 => ?_
    cases b1 with
    | true => exact iteT (qa Y F1 H1 δ1 σ A S1 z δ' e Q fun v F2 H2 st2 S2 n f r2 => k v F2 H2 ((st1.trans S1 st2).mono fun i hi => by
        rcases List.mem_append.mp hi with h | h
        · exact List.mem_append_left _ h
        · exact List.mem_append_right _ (List.mem_append_left _ h)) S2 (back st1 S1 n) f r2)
    | false => exact iteF (qb Y F1 H1 δ1 σ A S1 z δ' e Q fun v F2 H2 st2 S2 n f r2 => k v F2 H2 ((st1.trans S1 st2).mono fun i hi => by
        rcases List.mem_append.mp hi with h | h
        · exact List.mem_append_left _ h
        · exact List.mem_append_right _ (List.mem_append_right _ h)) S2 (back st1 S1 n) f r2)
/-- what is new and nobody's becomes known to all -/
theorem SR.give {K : PySem.W.Frag} {Y : Fx} {F F1 H H1 : Hp} {δ δ' : List Sl} {σ : L2.St} {A : Nat → List Addr} {M : List Nat} {p : Addr} {u : HO} (S : SR K Y F H δ σ A) (S1 : SR K Y F1 H1 δ' σ A) (st1 : Stp A M F H F1 H1) (n : H p = none) (f : F1 p = none) (hu : H1 p = some u) :
    Stp A M F H (upd F1 p u) H1 ∧ SR K Y (upd F1 p u) H1 δ' σ A ∧ Same F1 (upd F1 p u) := by
  have nA : ∀ i, p ∉ A i := fun i hi => S.isSome hi n
  have sF : Same F1 (upd F1 p u) := fun b x e => by rw [upd_ne (ne_of_none e f)]; exact e
  refine ⟨⟨st1.f.trans sF, fun a e1 e2 => ?_, st1.kp⟩, ⟨S1.len, fun i s e => (S1.slot i s e).mono sF fun _ _ => rfl, S1.out, S1.dis, fun i a h => ?_, S1.new, fun b x e => ?_, S1.fix, S1.ioA, S1.kp, fun a e1 e2 => ?_, S1.f0.trans sF⟩, sF⟩
  · by_cases c : a = p
    · subst c; exact n
    · rw [upd_ne c] at e2; exact st1.nw a e1 e2
  · rw [upd_ne (fun c => by subst c; exact nA i h)]; exact S1.hid i a h
  · by_cases c : b = p
    · subst c; rw [upd_same] at e; cases e; exact hu
    · rw [upd_ne c] at e; exact S1.sub _ _ e
  · by_cases c : a = p
    · subst c
      cases e3 : Y.H0 a with
      | none => rfl
      | some x =>
        by_cases c2 : ∃ i, Y.io i = true ∧ a ∈ Y.A0 i
        · obtain ⟨i, hi, hA⟩ := c2
          rw [← (S.fix i hi).2] at hA
          exact absurd hA (nA i)
        · have := S.kp a x e3 fun i hi z => c2 ⟨i, hi, z⟩
          rw [n] at this
          cases this
    · rw [upd_ne c] at e2; exact S1.nw a e1 e2
theorem SR.fresh1 {K : PySem.W.Frag} {Y : Fx} {F H : Hp} {δ : List Sl} {σ : L2.St} {A : Nat → List Addr} (S : SR K Y F H δ σ A) {p : Addr} (n : H p = none) : Y.H0 p = none := by
  cases e3 : Y.H0 p with
  | none => rfl
  | some x =>
    by_cases c2 : ∃ i, Y.io i = true ∧ p ∈ Y.A0 i
    · obtain ⟨i, hi, hA⟩ := c2
      rw [← (S.fix i hi).2] at hA
      exact absurd n (S.isSome hA)
    · have := S.kp p x e3 fun i hi z => c2 ⟨i, hi, z⟩
      rw [n] at this
      cases this
/-- .. a dict is locked -/
theorem lock_new {K : PySem.W.Frag} {Y : Fx} {F F1 H H1 : Hp} {δ δ' : List Sl} {σ : L2.St} {A : Nat → List Addr} {M : List Nat} {p : Addr} {ds : List (D × D)} (S : SR K Y F H δ σ A) (S1 : SR K Y F1 H1 δ' σ A) (st1 : Stp A M F H F1 H1) (n : H p = none) (f : F1 p = none) (o : OwnR K F1 H1 p (.dict ds)) :
    ∃ u, H1 p = some u ∧ Mut (some u) ∧ ∀ od, Stp A M F H F1 (upd H1 p (.frz od u)) ∧ SR K Y F1 (upd H1 p (.frz od u)) δ' σ A ∧ OwnV K F1 (upd H1 p (.frz od u)) p (.dict ds) := by
  obtain ⟨kvs, h1, h2⟩ := o
  have nA : ∀ i, p ∉ A i := fun i hi => S.isSome hi n
  refine ⟨_, h1, trivial, fun od => ⟨⟨st1.f, st1.nw, fun a x e hx => ?_⟩, S1.upd_free f nA (S.fresh1 n), od, kvs, upd_same, h2⟩⟩
  rw [upd_ne (ne_of_none e n)]
  exact st1.kp a x e hx
/-- what is new is a datum -/
theorem NV.ev (h : NV X a fa Ma) : EV X a fa [] Ma := by
  obtain ⟨t, p, q⟩ := h
  refine ⟨_, pe_alt p (pe_lock1 p), fun Y F H δ σ A S z δ' e Q k => ?_⟩
  cases z with
  | dict ds =>
    refine .inr (q Y F H δ σ A S _ δ' e _ fun p F1 H1 st1 S1 n f o => ?_)
    obtain ⟨u, hu, mu, w⟩ := lock_new S S1 st1 n f o
    refine ⟨p, u, rfl, hu, mu, fun od => ?_⟩
    obtain ⟨st2, S2, o2⟩ := w od
    obtain ⟨st3, S3, sF⟩ := SR.give S S2 st2 n f upd_same
    exact k _ _ _ st3 S3 (.inl (own_rp o2 sF (by rw [upd_same, upd_same])))
  | list ds =>
    refine .inl (q Y F H δ σ A S _ δ' e _ fun p F1 H1 st1 S1 n f o => ?_)
    obtain ⟨xs, hu, o2⟩ := id o
    obtain ⟨st3, S3, sF⟩ := SR.give S S1 st1 n f hu
    exact k _ _ _ st3 S3 (.inl (own_rp (d := .list ds) ⟨xs, hu, o2⟩ sF (by rw [upd_same, hu])))
  | _ => exact .inl (q Y F H δ σ A S _ δ' e _ fun p F1 H1 st1 S1 n f o => o.elim)
end

/-! ### several expressions -/
def aNil : List Sl → Option (List D × List Sl) := fun δ => some ([], δ)
def aCons (fa : List Sl → Option (D × List Sl)) (fr : List Sl → Option (List D × List Sl)) : List Sl → Option (List D × List Sl) := fun δ => (fa δ).bind fun p => (fr p.2).map fun q => (p.1 :: q.1, q.2)
theorem av_nil : AV X [] aNil [] [] := by
  refine ⟨_, pa_nil, fun Y F H δ σ A S d' δ' e Q k => ?_⟩
  cases e
  exact k _ _ _ Stp.refl S trivial
theorem aCons_some {fa fr} {δ δ' : List Sl} {ds : List D} (h : aCons fa fr δ = some (ds, δ')) : ∃ d δ1 r, fa δ = some (d, δ1) ∧ fr δ1 = some (r, δ') ∧ ds = d :: r := by
  unfold aCons at h
  cases e1 : fa δ with
  | none => rw [e1] at h; cases h
  | some p =>
    obtain ⟨d, δ1⟩ := p
    rw [e1] at h
    simp only [Option.bind_some] at h
    cases e2 : fr δ1 with
    | none => rw [e2] at h; cases h
    | some q =>
      obtain ⟨e, δ2⟩ := q
      rw [e2] at h
      cases h
      exact ⟨d, δ1, e, rfl, e2, rfl⟩
theorem av_cons {a : Expr} {es : List Expr} {fa fr} {Ra Rr Ma Mr : List Nat} (ha : EV X a fa Ra Ma) (hr : AV X es fr Rr Mr) (dj : ∀ i ∈ Ra, i ∉ Mr := by decide) (hs : starEach (a :: es) X.env = (false, eval a X.env) :: starEach es X.env := by rfl) : AV X (a :: es) (aCons fa fr) (Ra ++ Rr) (Ma ++ Mr) := by
  obtain ⟨ta, pa, qa⟩ := ha
  obtain ⟨tb, pb, qb⟩ := hr
  refine ⟨_, pa_cons pa pb hs, fun Y F H δ σ A S ds δ' e Q k => ?_⟩
  obtain ⟨d, δ1, r, e1, e2, rfl⟩ := aCons_some e
  refine qa Y F H δ σ A S d δ1 e1 _ fun x F1 H1 st1 S1 r1 => ?_
  refine qb Y F1 H1 δ1 σ A S1 r δ' e2 _ fun y F2 H2 st2 S2 r2 => ?_
  exact k _ F2 H2 (st1.trans S1 st2) S2 ⟨(r1.step S1 st2 dj).mono fun i hi => List.mem_append_left _ hi, r2.mono fun i hi => List.mem_append_right _ hi⟩
/-! ### displays -/
def fTup (f : List Sl → Option (List D × List Sl)) : List Sl → Option (D × List Sl) := fun δ => (f δ).bind fun p => if p.1.length ≤ sizeLine then some (.tuple p.1, p.2) else none
def fLst (f : List Sl → Option (List D × List Sl)) : List Sl → Option (D × List Sl) := fun δ => (f δ).bind fun p => if p.1.length ≤ sizeLine then some (.list p.1, p.2) else none
theorem ev_tup {es : List Expr} {f} {M : List Nat} {x1} (h : AV X es f [] M) : EV X (.Tuple es x1 pos) (fTup f) [] M := by
  obtain ⟨t, p, q⟩ := h
  refine ⟨_, pe_tup p, fun Y F H δ σ A S d δ' e Q k => ?_⟩
  unfold fTup at e
  cases e1 : f δ with
  | none => rw [e1] at e; cases e
  | some p =>
    obtain ⟨ds, δ1⟩ := p
    rw [e1] at e
    simp only [Option.bind_some] at e
    split at e
    · rename_i hz
      cases e
      refine q Y F H δ σ A S ds δ' e1 _ fun vs F1 H1 st S1 r => ?_
      have r := r.nil
      refine ⟨by rw [r.length]; exact hz, fun p hp => ?_⟩
      exact k _ (upd F1 p (.tup vs)) (upd H1 p (.tup vs)) (stp_nil S1 st (Stp.laid S1 hp)) (S1.laid hp) (.inl (.tup (.inl (.inl upd_same)) (r.mono (Stp.laid (M := []) S1 hp).f)))
    · cases e
theorem nv_lst {es : List Expr} {f} {M : List Nat} (h : AV X es f [] M) : NV X (.List es pos) (fLst f) M := by
  obtain ⟨t, p, q⟩ := h
  refine ⟨_, pe_lst p, fun Y F H δ σ A S d δ' e Q k => ?_⟩
  unfold fLst at e
  cases e1 : f δ with
  | none => rw [e1] at e; cases e
  | some p =>
    obtain ⟨ds, δ1⟩ := p
    rw [e1] at e
    simp only [Option.bind_some] at e
    split at e
    · rename_i hz
      cases e
      refine q Y F H δ σ A S ds δ' e1 _ fun vs F1 H1 st S1 r => ?_
      have r := r.nil
      refine ⟨by rw [r.length]; exact hz, fun p hp => ?_⟩
      refine k p F1 (upd H1 p (.lst vs)) (stp_nil S1 st (Stp.laidO hp)) (S1.laidO hp) ?_ (S1.sub.free hp) ⟨vs, upd_same, r⟩
      cases e5 : H p with
      | none => rfl
      | some o =>
        by_cases c : ∃ i, p ∈ A i
        · obtain ⟨i, hi⟩ := c
          exact absurd hp (S1.isSome hi)
        · have := st.kp p o e5 fun i _ hi => c ⟨i, hi⟩
          rw [hp] at this
          cases this
    · cases e
end
end Z

/-! Z2: what the operations do, on data. -/
namespace Z
open PySem PySem.Spec PyProof.Rows L2
section
variable {X : Cx} {pins : List (Addr × Obj)} {σ : L2.St} {H G : Hp} {s : Shared}

theorem keyD_reads {h : Heap} {k : Key} {u : Value} (e : keyIs k u = true) : Reads h u (keyD k) [] := by
  rcases keyIs_shape e with ⟨i, t, rfl, rfl⟩ | ⟨x, t, rfl, rfl⟩
  · exact .int i t
  · exact .str x t
mutual
theorem Rp.reads (I : Inv X pins σ H s) (g : Same G H) : ∀ (d : D) (v : V) (u : Value), Rp X.K G v d → RelV v u → ∃ as, Reads s.heap u d as
  | .none, _, _, h, r => by
    cases h
    cases r
    exact ⟨_, Reads.none⟩
  | .bool b, _, _, h, r => by
    cases h
    cases r
    exact ⟨_, Reads.bool b⟩
  | .int i, _, _, h, r => by
    cases h
    obtain ⟨t, rfl⟩ := r
    exact ⟨_, Reads.int i t⟩
  | .str x, _, _, h, r => by
    cases h
    obtain ⟨t, rfl⟩ := r
    exact ⟨_, Reads.str x t⟩
  | .list ds, _, _, h, r => by
    cases h with
    | lst hs ha =>
      rename_i p xs
      cases r
      obtain ⟨its, rv, ⟨o, n, ho, hc, _, hd⟩, _⟩ := I.list (SqL.of (g _ _ hs))
      obtain ⟨as, hr⟩ := Rp.readsAll I g ds _ its ha rv
      exact ⟨_, Reads.list ho hc hd hr⟩
  | .tuple ds, _, _, h, r => by
    cases h with
    | tup hs ha =>
      cases r
      obtain ⟨its, rv, ⟨o, ho, hc, n, hd⟩, _⟩ := I.tuple (Same.sqt g hs)
      obtain ⟨as, hr⟩ := Rp.readsAll I g ds _ its ha rv
      exact ⟨_, Reads.tuple ho hc hd hr⟩
  | .dict ds, _, _, h, r => by
    cases h with
    | dic hs ha =>
      cases r
      obtain ⟨_, _, hsm, vs, rel, o, es, ep, ho, hx, hdat, _, hp, _⟩ := I.hok _ _ (g _ _ hs)
      obtain ⟨bs, h1, h2⟩ := Rp.readsKv I g ds _ vs es.toList ha rel hp
      exact ⟨_, Reads.dict ho hx.1 hdat h1 h2⟩
theorem Rp.readsAll (I : Inv X pins σ H s) (g : Same G H) : ∀ (ds : List D) (vs : List V) (us : List Value), Rps X.K G vs ds → Vals vs us → ∃ as, ReadsAll s.heap us ds as
  | [], _, _, h, r => by
    cases h
    cases r
    exact ⟨_, ReadsAll.nil⟩
  | d :: ds, _, _, h, r => by
    cases h with
    | cons h1 h2 =>
      cases r with
      | cons r1 r2 =>
        obtain ⟨as, q1⟩ := Rp.reads I g d _ _ h1 r1
        obtain ⟨bs, q2⟩ := Rp.readsAll I g ds _ _ h2 r2
        exact ⟨_, ReadsAll.cons q1 q2⟩
theorem Rp.readsKv (I : Inv X pins σ H s) (g : Same G H) : ∀ (ds : List (D × D)) (kvs : List (Key × V)) (vs : List (Key × Value)) (es : List DictEntry), RpK X.K G kvs ds → KV kvs vs → Pairs (mixKind X.prog X.w) es vs →
    ∃ bs, ReadsAll s.heap (es.map (·.key)) (ds.map (·.1)) [] ∧ ReadsAll s.heap (es.map (·.val)) (ds.map (·.2)) bs
  | [], _, _, _, h, r, p => by
    cases h
    cases r
    cases p
    exact ⟨_, ReadsAll.nil, ReadsAll.nil⟩
  | (dk, dv) :: ds, _, _, _, h, r, p => by
    cases h with
    | cons h1 h2 =>
      cases r with
      | cons r1 r2 =>
        rename_i q vs'
        obtain ⟨k', u⟩ := q
        obtain ⟨e1, r1⟩ := r1
        simp only at e1
        subst e1
        cases p with
        | cons p1 p2 p3 =>
          obtain ⟨as, q1⟩ := Rp.reads I g dv _ _ h1 r1
          obtain ⟨bs, q2, q3⟩ := Rp.readsKv I g ds _ _ _ h2 r2 p3
          refine ⟨as ++ bs, ?_, ?_⟩
          · exact ReadsAll.cons (as := []) (bs := []) (keyD_reads p1) q2
          · rw [List.map_cons, p2]
            exact ReadsAll.cons q1 q3
end
end

/-! ### operators -/
section
variable {X : Cx}
def addD : D → D → Option D
  | .int a, .int b => some (.int (a + b))
  | .str a, .str b => if a.length + b.length ≤ sizeLine then some (.str (a ++ b)) else none
  | .tuple a, .tuple b => if a.length + b.length ≤ sizeLine then some (.tuple (a ++ b)) else none
  | _, _ => none
def addL : D → D → Option D
  | .list a, .list b => if a.length + b.length ≤ sizeLine then some (.list (a ++ b)) else none
  | _, _ => none
def subD : D → D → Option D
  | .int a, .int b => some (.int (a - b))
  | _, _ => none
def lim64 (i : Int) : Bool := decide (-(2 ^ 64) < i) && decide (i < 2 ^ 64)
def mulD : D → D → Option D
  | .int a, .int b => if lim64 a || lim64 b then some (.int (a * b)) else none
  | .tuple xs, .int k => if (!xs.isEmpty) && decide (-1000 ≤ k) && decide (k ≤ 1000) && decide (xs.length ≤ 1000) then some (.tuple (List.replicate k.toNat xs).flatten) else none
  | _, _ => none
def mulL : D → D → Option D
  | .list xs, .int k => if decide (0 ≤ k) && decide (k < 2 ^ 62) && decide (xs.length * k.toNat ≤ sizeLine) then some (.list (List.replicate k.toNat xs).flatten) else none
  | _, _ => none
def fdivD : D → D → Option D
  | .int a, .int b => if decide (0 < b) && decide (b < 1073741824) then some (.int (a / b)) else none
  | _, _ => none
def modD : D → D → Option D
  | .int a, .int b => if 0 < b then some (.int (a % b)) else none
  | _, _ => none
def powD : D → D → Option D
  | .int a, .int b => if decide (0 ≤ b) && decide (b ≤ 1000000) && decide (a.natAbs < 2 ^ 64) then some (.int (a ^ b.toNat)) else none
  | _, _ => none

def rAdd3 (K : PySem.W.Frag) : R2 := fun x y H Q => rI0 (fun i j => .int (i + j)) x y H Q ∨ (∃ i j, x = .str i ∧ y = .str j ∧ i.length + j.length ≤ sizeLine ∧ Q (.str (i ++ j)) H) ∨ rCatA K x y H Q
theorem op_add3 : OpR X (binaryOp .Add) (rAdd3 X.K) := op_add.or (op_add_str.or op_catA)
theorem os_add : OpS X (rAdd3 X.K) addD := by
  intro Y F H δ σ A R x y d e z S rx ry hg Q k
  cases d with
  | int i =>
    cases e with
    | int j =>
      cases hg
      rw [rx.int, ry.int]
      exact .inl ⟨i, j, rfl, rfl, k _ F H Stp.refl S (.int _)⟩
    | _ => cases hg
  | str i =>
    cases e with
    | str j =>
      simp only [addD] at hg
      split at hg
      · rename_i hz
        cases hg
        rw [rx.str, ry.str]
        exact .inr (.inl ⟨i, j, rfl, rfl, hz, k _ F H Stp.refl S (.str _)⟩)
      · cases hg
    | _ => cases hg
  | tuple i =>
    cases e with
    | tuple j =>
      simp only [addD] at hg
      split at hg
      · rename_i hz
        cases hg
        obtain ⟨a, xs, rfl, h0, h1, r1⟩ := rx.tup S
        obtain ⟨b, ys, rfl, h3, h2, r2⟩ := ry.tup S
        refine .inr (.inr ⟨a, b, xs, ys, rfl, rfl, h1, h2, by rw [r1.length, r2.length]; exact hz, fun e0 => ?_, fun n1 e0 => ?_, fun n1 n2 p hp => ?_⟩)
        · subst e0
          cases r1
          exact k _ F H Stp.refl S (.tup h3 r2)
        · subst e0
          cases r2
          rw [List.append_nil] at k
          exact k _ F H Stp.refl S (.tup h0 r1)
        · exact k _ _ _ (Stp.laid S hp) (S.laid hp) (.tup (.inl (.inl upd_same)) ((r1.append r2).mono (Stp.laid (M := []) S hp).f))
      · cases hg
    | _ => cases hg
  | _ => cases hg
theorem on_add : OpN X rCat addL := by
  intro Y F H δ σ A R x y d e z S rx ry hg Q k
  cases d with
  | list i =>
    cases e with
    | list j =>
      simp only [addL] at hg
      split at hg
      · rename_i hz
        cases hg
        obtain ⟨a, xs, rfl, h1, r1⟩ := rx.list S
        obtain ⟨b, ys, rfl, h2, r2⟩ := ry.list S
        exact ⟨a, b, xs, ys, rfl, rfl, h1, h2, by rw [r1.length, r2.length]; exact hz, fun p hp => k p F _ (Stp.laidO hp) (S.laidO hp) hp (S.sub.free hp) ⟨_, upd_same, r1.append r2⟩⟩
      · cases hg
    | _ => cases hg
  | _ => cases hg
theorem Rps.rep {K : PySem.W.Frag} {G : Hp} {xs : List V} {ds : List D} (h : Rps K G xs ds) : ∀ k : Nat, Rps K G (List.replicate k xs).flatten (List.replicate k ds).flatten
  | 0 => .nil
  | k + 1 => by
    rw [List.replicate_succ, List.flatten_cons, List.replicate_succ, List.flatten_cons]
    exact h.append (h.rep k)
theorem on_rep : OpN X rRep mulL := by
  intro Y F H δ σ A R x y d e z S rx ry hg Q k
  cases d with
  | list i =>
    cases e with
    | int j =>
      simp only [mulL] at hg
      split at hg
      · rename_i hz
        cases hg
        simp only [Bool.and_eq_true, decide_eq_true_eq] at hz
        obtain ⟨⟨z1, z2⟩, z3⟩ := hz
        obtain ⟨a, xs, rfl, h1, r1⟩ := rx.list S
        rw [ry.int]
        refine ⟨a, j, xs, rfl, rfl, h1, by omega, by omega, by rw [r1.length]; exact z3, fun p hp => k p F _ (Stp.laidO hp) (S.laidO hp) hp (S.sub.free hp) ⟨_, upd_same, r1.rep _⟩⟩
      · cases hg
    | _ => cases hg
  | _ => cases hg
theorem os_sub : OpS X (rI0 fun i j => .int (i - j)) subD := by
  intro Y F H δ σ A R x y d e z S rx ry hg Q k
  cases d with
  | int i =>
    cases e with
    | int j =>
      cases hg
      rw [rx.int, ry.int]
      exact ⟨i, j, rfl, rfl, k _ F H Stp.refl S (.int _)⟩
    | _ => cases hg
  | _ => cases hg
theorem os_fdiv : OpS X (rI CDiv fun i j => .int (i / j)) fdivD := by
  intro Y F H δ σ A R x y d e z S rx ry hg Q k
  cases d with
  | int i =>
    cases e with
    | int j =>
      simp only [fdivD] at hg
      split at hg
      · rename_i hz
        cases hg
        simp only [Bool.and_eq_true, decide_eq_true_eq] at hz
        rw [rx.int, ry.int]
        exact ⟨i, j, rfl, rfl, hz, k _ F H Stp.refl S (.int _)⟩
      · cases hg
    | _ => cases hg
  | _ => cases hg
theorem os_mod : OpS X (rI (fun _ j => 0 < j) fun i j => .int (i % j)) modD := by
  intro Y F H δ σ A R x y d e z S rx ry hg Q k
  cases d with
  | int i =>
    cases e with
    | int j =>
      simp only [modD] at hg
      split at hg
      · rename_i hz
        cases hg
        rw [rx.int, ry.int]
        exact ⟨i, j, rfl, rfl, hz, k _ F H Stp.refl S (.int _)⟩
      · cases hg
    | _ => cases hg
  | _ => cases hg
theorem os_pow : OpS X (rI CPow fun i j => .int (i ^ j.toNat)) powD := by
  intro Y F H δ σ A R x y d e z S rx ry hg Q k
  cases d with
  | int i =>
    cases e with
    | int j =>
      simp only [powD] at hg
      split at hg
      · rename_i hz
        cases hg
        simp only [Bool.and_eq_true, decide_eq_true_eq] at hz
        rw [rx.int, ry.int]
        exact ⟨i, j, rfl, rfl, ⟨hz.1.1, hz.1.2, hz.2⟩, k _ F H Stp.refl S (.int _)⟩
      · cases hg
    | _ => cases hg
  | _ => cases hg
end
end Z

/-! Z3: a tuple times 0 or 1. -/
namespace Z
open PySem PySem.Spec PyProof.Rows L2
theorem mulW1 (l : Addr) (items : Array Value) (n : Nat) (sl : Array (Option Value)) (dd : Option Addr) (u : Tok) :
    Meets (Builtin.«tuple.__mul__» ⟨[.ref l, .int 1 u], []⟩) (fun _ R s => s.heap.get? l = some { cls := .type "tuple", dict := dd, data := .seq items n, slots := sl } ∧
      R (.ok (.ret (Value.ref l))) s) :=
  .of_wp fun prog w A R s h => by
    obtain ⟨hp, g, d, tk, os⟩ := s
    obtain ⟨hl, h⟩ := h
    have f1 := AutoSeq1.idx_int
    have c0 : (decide ((1 : Int) < -(2 ^ 63)) || decide ((1 : Int) ≥ 2 ^ 63)) = false := by decide
    have c1 : (items.isEmpty || ((1 : Int) == 1)) = true := by simp
    wp_walk using wpAny_loadPart' hl
    repeat (first
      | (refine wpAny_ite_false (decide_eq_false (by rw [c0]; exact Bool.false_ne_true)) ?_; wp_walk using wpAny_loadPart' hl)
      | (refine wpAny_ite_true (decide_eq_true c1) ?_; wp_walk using wpAny_loadPart' hl))
    exact ⟨_, rfl, h⟩
theorem mulW0 (l : Addr) (items : Array Value) (n : Nat) (sl : Array (Option Value)) (dd : Option Addr) (x : Int) (u : Tok) (hx : x ≤ 0) (hx2 : -(2 ^ 63) ≤ x) (hne : items.isEmpty = false) :
    Meets (Builtin.«tuple.__mul__» ⟨[.ref l, .int x u], []⟩) (fun _ R s => s.heap.get? l = some { cls := .type "tuple", dict := dd, data := .seq items n, slots := sl } ∧
      R (.ok (.ret (Value.ref s.heap.objs.size))) { s with heap := s.heap.push { cls := Value.type "tuple", data := Data.seq #[] }, toks := s.toks }) :=
  .of_wp fun prog w A R s h => by
    obtain ⟨hp, g, d, tk, os⟩ := s
    obtain ⟨hl, h⟩ := h
    have f1 := AutoSeq1.idx_int
    have c0 : (decide (x < -(2 ^ 63)) || decide (x ≥ 2 ^ 63)) = false := by
      rw [decide_eq_false (by omega), decide_eq_false (by omega)] <;> rfl
    have c1 : (items.isEmpty || x == 1) = false := by
      rw [hne, Bool.false_or]
      exact beq_eq_false_iff_ne.mpr (by omega)
    have c2 : (decide (x ≤ 0) || items.isEmpty) = true := by
      rw [decide_eq_true hx]
      rfl
    wp_walk using wpAny_loadPart' hl
    repeat (first
      | (refine wpAny_ite_false (decide_eq_false (by rw [c0]; exact Bool.false_ne_true)) ?_; wp_walk using wpAny_loadPart' hl)
      | (refine wpAny_ite_false (decide_eq_false (by rw [c1]; exact Bool.false_ne_true)) ?_; wp_walk using wpAny_loadPart' hl)
      | (refine wpAny_ite_true (decide_eq_true c2) ?_; wp_walk using wpAny_loadPart' hl))
    exact ⟨_, rfl, h⟩
section
variable {X : Cx}
def rRepZ (K : PySem.W.Frag) : R2 := fun x y H Q => ∃ l k xs, x = .ref l ∧ y = .int k ∧ SqT K H l xs ∧ xs ≠ [] ∧ -1000 ≤ k ∧ k ≤ 1000 ∧ xs.length ≤ 1000 ∧ (k = 1 → Q (.ref l) H) ∧ (k ≠ 1 → ∀ p, H p = none → Q (.ref p) (upd H p (.tup (List.replicate k.toNat xs).flatten)))
theorem op_repZ : OpR X (binaryOp .Mult) (rRepZ X.K) := by
  intro pins s σ H x y v u Q I rx ry h
  obtain ⟨l, k, xs, rfl, rfl, hT, hne, h1, h2, hz, q1, q2⟩ := h
  by_cases hk : 2 ≤ k
  · exact op_repT pins s σ H _ _ v u Q I rx ry ⟨l, k, xs, rfl, rfl, hT, hne, hk, h2, hz, q2 (by omega)⟩
  · cases rx
    obtain ⟨t, rfl⟩ := ry
    obtain ⟨its, r, ⟨⟨cls, dd, data, sl⟩, ho, hc, n, hd⟩, hs⟩ := I.tuple hT
    simp only at hc hd
    subst hc hd
    have hi : its.toArray.isEmpty = false := by
      cases its with
      | nil =>
        cases r
        exact absurd rfl hne
      | cons a b => rfl
    by_cases hk1 : k = 1
    · subst hk1
      refine wpAny_binaryOp_repeat_ref (T := "tuple") (U := "int") (by decide) ⟨_, ho, rfl⟩ (fun s' => typeIs_int s' 1 t) noFill_tuple_mul F.fills_int_mul F.slot_int_rmul repeat_tuple F.slot_int_index.lookup
        (call_meets F.slot_int_rmul (typeIs_int s 1 t) F.entry_int_rmul (F.args_int_rmul_2 _ _) (int_rmul_tuple 1 t l its.toArray n dd sl)
          ⟨ho, rfl, ⟨_, ho, rfl⟩, call_meets F.slot_tuple_mul ⟨_, ho, rfl⟩ F.entry_tuple_mul (F.args_tuple_mul_2 _ _) (mulW1 l its.toArray n sl dd t) ⟨ho, ?_⟩⟩)
      exact ⟨.ref l, H, I, rfl, q1 rfl⟩
    · refine wpAny_binaryOp_repeat_ref (T := "tuple") (U := "int") (by decide) ⟨_, ho, rfl⟩ (fun s' => typeIs_int s' k t) noFill_tuple_mul F.fills_int_mul F.slot_int_rmul repeat_tuple F.slot_int_index.lookup
        (call_meets F.slot_int_rmul (typeIs_int s k t) F.entry_int_rmul (F.args_int_rmul_2 _ _) (int_rmul_tuple k t l its.toArray n dd sl)
          ⟨ho, rfl, ⟨_, ho, rfl⟩, call_meets F.slot_tuple_mul ⟨_, ho, rfl⟩ F.entry_tuple_mul (F.args_tuple_mul_2 _ _) (mulW0 l its.toArray n sl dd k t (by omega) (by omega) hi) ⟨ho, ?_⟩⟩)
      have e0 : (List.replicate k.toNat xs).flatten = [] := by
        rw [show k.toNat = 0 by omega]
        rfl
      have q := q2 hk1
      rw [e0] at q
      exact ⟨.ref s.heap.objs.size, _, I.laid (t' := s.toks) (o := .tup []) (fun b ob q => Heap.get?_push_of_some _ q) (Nat.le_refl _) ⟨Nat.zero_le _, [], .nil, IsTup.new _ _⟩, rfl, q _ (I.hok.fresh (Nat.le_refl _))⟩
def rMul2 (K : PySem.W.Frag) : R2 := fun x y H Q => rI CMul (fun i j => .int (i * j)) x y H Q ∨ rRepZ K x y H Q
theorem op_mul2 : OpR X (binaryOp .Mult) (rMul2 X.K) := op_mul.or op_repZ
theorem os_mul : OpS X (rMul2 X.K) mulD := by
  intro Y F H δ σ A R x y d e z S rx ry hg Q k
  cases d with
  | int i =>
    cases e with
    | int j =>
      simp only [mulD] at hg
      split at hg
      · rename_i hz
        cases hg
        rw [rx.int, ry.int]
        refine .inl ⟨i, j, rfl, rfl, ?_, k _ F H Stp.refl S (.int _)⟩
        simp only [lim64, Bool.or_eq_true, Bool.and_eq_true, decide_eq_true_eq] at hz
        exact hz
      · cases hg
    | _ => cases hg
  | tuple i =>
    cases e with
    | int j =>
      simp only [mulD] at hg
      split at hg
      · rename_i hz
        cases hg
        simp only [Bool.and_eq_true, decide_eq_true_eq, Bool.not_eq_true'] at hz
        obtain ⟨⟨⟨z1, z0⟩, z2⟩, z3⟩ := hz
        obtain ⟨a, xs, rfl, h0, h1, r1⟩ := rx.tup S
        rw [ry.int]
        refine .inr ⟨a, j, xs, rfl, rfl, h1, ?_, z0, z2, by rw [r1.length]; exact z3, fun e1 => ?_, fun e1 p hp => ?_⟩
        · intro e0
          subst e0
          cases r1
          cases z1
        · subst e1
          exact k _ F H Stp.refl S (.tup h0 (by simpa using r1))
        · exact k _ _ _ (Stp.laid S hp) (S.laid hp) (.tup (.inl (.inl upd_same)) ((r1.rep _).mono (Stp.laid (M := []) S hp).f))
      · cases hg
    | _ => cases hg
  | _ => cases hg
end
end Z

/-! Z4: comparisons, on data. -/
namespace Z
open PySem PySem.Spec PyProof.Rows L2

theorem DGet.f {H : Hp} {a : Addr} {o : Obj} {kvs : List (Key × V)} {k : Key} (e : H a = some (.frz o (.dK kvs))) : DGet H a (kV k) (valV kvs k) := .inl ⟨kvs, k, .inr ⟨o, e⟩, rfl, rfl⟩
def keyOf : D → Option Key
  | .int i => some (.inl i)
  | .str s => some (.inr s)
  | _ => none
theorem keyOf_keyD (k : Key) : keyOf (keyD k) = some k := by cases k <;> rfl
def dget (ds : List (D × D)) (k : Key) : Option D := (ds.find? fun p => decide (keyOf p.1 = some k)).map (·.2)
theorem RpK.val {K : PySem.W.Frag} {G : Hp} : ∀ {kvs : List (Key × V)} {ds : List (D × D)} (k : Key), RpK K G kvs ds → (valV kvs k = none ∧ dget ds k = none) ∨ ∃ v d, valV kvs k = some v ∧ dget ds k = some d ∧ Rp K G v d
  | _, _, _, .nil => .inl ⟨rfl, rfl⟩
  | _, _, k, .cons (k := k0) (v := v0) (r := r0) (d := d0) (ds := ds0) h r => by
    by_cases e : k0 = k
    · refine .inr ⟨_, _, valV_pos e, ?_, h⟩
      unfold dget
      rw [List.find?_cons_of_pos (by rw [keyOf_keyD, e]; simp)]
      rfl
    · have e1 : dget ((keyD k0, d0) :: ds0) k = dget ds0 k := by
        unfold dget
        rw [List.find?_cons_of_neg (by rw [keyOf_keyD]; simpa using e)]
      rw [valV_neg (p := (k0, v0)) e, e1]
      exact r.val k

/-- no dict within, not too deep -/
def shp (d : D) : Bool := d.plain && decide (d.depth ≤ 64)
def eqD (d e : D) : Option Bool := if shp d && shp e then some (PyData.eqv d e) else none
def neD (d e : D) : Option Bool := (eqD d e).map (!·)
def ltD : D → D → Option Bool
  | .int a, .int b => some (decide (a < b))
  | .tuple a, .tuple b => if PySem.W.alike (.tuple a) (.tuple b) && decide ((PyData.tuple a).depth ≤ 64) then some (PySem.W.dataLt (.tuple a) (.tuple b)) else none
  | _, _ => none
def leD : D → D → Option Bool
  | .int a, .int b => some (decide (a ≤ b))
  | _, _ => none
def gtD : D → D → Option Bool
  | .int a, .int b => some (decide (b < a))
  | _, _ => none
def geD : D → D → Option Bool
  | .int a, .int b => some (decide (b ≤ a))
  | _, _ => none
def inD (d : D) : D → Option Bool
  | .list ds => if shp d && shp (.list ds) then some (ds.any fun z => PyData.eqv z d) else none
  | .tuple ds => if shp d && shp (.tuple ds) then some (ds.any fun z => PyData.eqv z d) else none
  | .dict ds => (keyOf d).map fun k => (dget ds k).isSome
  | .str z => match d with
    | .str x => some (!(Builtin.Str.occurrences z x 0 z.length 1).isEmpty)
    | _ => none
  | _ => none
def notInD (d e : D) : Option Bool := (inD d e).map (!·)
def isNn : D → Bool
  | .none => true
  | _ => false
def isD (d : D) : D → Option Bool
  | .none => some (isNn d)
  | .bool b => match d with
    | .bool a => some (decide (a = b))
    | _ => none
  | _ => none
def isNotD (d e : D) : Option Bool := (isD d e).map (!·)

section
variable {X : Cx}
/-- the comparison does g on data -/
def CmpD (X : Cx) (op : CmpOp) (g : D → D → Option Bool) : Prop :=
  ∀ (pins : List (Addr × Obj)) (s : Shared) (σ : L2.St) (H : Hp) (x y : V) (v u : Value) (Q : VK), L2.Inv X pins σ H s → RelV x v → RelV y u → ∀ (G : Hp) (d e : D) (b : Bool), Same G H → Rp X.K G x d → Rp X.K G y e → g d e = some b → Q (.bl b) H →
    wpAny (model X.prog X.w) X.A (compareOp op v u) (EP X pins σ Q) X.xe s
def rCmpD (X : Cx) (g : D → D → Option Bool) : R2 := fun x y H Q => ∃ G d e b, Same G H ∧ Rp X.K G x d ∧ Rp X.K G y e ∧ g d e = some b ∧ Q (.bl b) H
def bD (g : D → D → Option Bool) : D → D → Option D := fun d e => (g d e).map PyData.bool
theorem CmpD.op {op : CmpOp} {g} (h : CmpD X op g) : OpR X (compareOp op) (rCmpD X g) := by
  intro pins s σ H x y v u Q I rx ry q
  obtain ⟨G, d, e, b, sG, r1, r2, hg, q⟩ := q
  exact h pins s σ H x y v u Q I rx ry G d e b sG r1 r2 hg q
theorem os_cmp {g} : OpS X (rCmpD X g) (bD g) := by
  intro Y F H δ σ A R x y d e z S rx ry hg Q k
  unfold bD at hg
  cases e1 : g d e with
  | none => rw [e1] at hg; cases hg
  | some b =>
    rw [e1] at hg
    cases hg
    exact ⟨_, d, e, b, ex_sub S, rx.ex S, ry.ex S, e1, k _ F H Stp.refl S (.bl _)⟩

theorem shp_plain {d : D} (h : shp d = true) : d.plain = true := by
  unfold shp at h
  rw [Bool.and_eq_true] at h
  exact h.1
theorem shp_depth {d : D} (h : shp d = true) : d.depth ≤ 64 := by
  unfold shp at h
  rw [Bool.and_eq_true, decide_eq_true_eq] at h
  exact h.2
theorem shp_items {ds : List D} (h : shp (.list ds) = true) : PyData.plainAll ds = true := shp_plain h
theorem shp_itemsT {ds : List D} (h : shp (.tuple ds) = true) : PyData.plainAll ds = true := shp_plain h
theorem cd_eq (hu : X.A.units + 65 < cLine) : CmpD X .Eq eqD := by
  intro pins s σ H x y v u Q I rx ry G d e b sG r1 r2 hg q
  unfold eqD at hg
  split at hg
  · rename_i c
    cases hg
    rw [Bool.and_eq_true] at c
    obtain ⟨as, q1⟩ := Rp.reads I sG d x v r1 rx
    obtain ⟨bs, q2⟩ := Rp.reads I sG e y u r2 ry
    exact SeqAt.eq_plain q1 q2 (shp_plain c.1) (shp_plain c.2) (by have := shp_depth c.1; have : min d.depth e.depth ≤ d.depth := Nat.min_le_left _ _; omega) ⟨.bl _, H, I, rfl, q⟩
  · cases hg
theorem cd_ne (hu : X.A.units + 65 < cLine) : CmpD X .NotEq neD := by
  intro pins s σ H x y v u Q I rx ry G d e b sG r1 r2 hg q
  unfold neD eqD at hg
  split at hg
  · rename_i c
    cases hg
    rw [Bool.and_eq_true] at c
    obtain ⟨as, q1⟩ := Rp.reads I sG d x v r1 rx
    obtain ⟨bs, q2⟩ := Rp.reads I sG e y u r2 ry
    exact SeqAt.ne_plain q1 q2 (shp_plain c.1) (shp_plain c.2) (by have := shp_depth c.1; have : min d.depth e.depth ≤ d.depth := Nat.min_le_left _ _; omega) ⟨.bl _, H, I, rfl, q⟩
  · cases hg
theorem cd_lt (hu : X.A.units + 65 < cLine) : CmpD X .Lt ltD := by
  intro pins s σ H x y v u Q I rx ry G d e b sG r1 r2 hg q
  unfold ltD at hg
  split at hg
  · cases hg
    cases r1
    cases r2
    exact op_lt pins s σ H _ _ v u Q I rx ry ⟨_, _, rfl, rfl, q⟩
  · rename_i a b'
    split at hg
    · rename_i c
      cases hg
      rw [Bool.and_eq_true] at c
      obtain ⟨as, q1⟩ := Rp.reads I sG (.tuple a) x v r1 rx
      obtain ⟨bs, q2⟩ := Rp.reads I sG (.tuple b') y u r2 ry
      have h1 := of_decide_eq_true c.2
      have h2 : min (PyData.tuple a).depth (PyData.tuple b').depth ≤ (PyData.tuple a).depth := Nat.min_le_left _ _
      exact PySem.W.rcLt_alike (.tuple a) (.tuple b') X.A s v u as bs q1 q2 c.1 (by simp) (by omega) X.prog X.w X.xe _ ⟨.bl _, H, I, rfl, q⟩
    · cases hg
  · cases hg
theorem cd_le : CmpD X .LtE leD := by
  intro pins s σ H x y v u Q I rx ry G d e b sG r1 r2 hg q
  unfold leD at hg
  split at hg
  · cases hg
    cases r1
    cases r2
    exact op_le pins s σ H _ _ v u Q I rx ry ⟨_, _, rfl, rfl, q⟩
  · cases hg
theorem cd_gt : CmpD X .Gt gtD := by
  intro pins s σ H x y v u Q I rx ry G d e b sG r1 r2 hg q
  unfold gtD at hg
  split at hg
  · cases hg
    cases r1
    cases r2
    exact op_gt pins s σ H _ _ v u Q I rx ry ⟨_, _, rfl, rfl, q⟩
  · cases hg
theorem cd_ge : CmpD X .GtE geD := by
  intro pins s σ H x y v u Q I rx ry G d e b sG r1 r2 hg q
  unfold geD at hg
  split at hg
  · cases hg
    cases r1
    cases r2
    exact op_ge pins s σ H _ _ v u Q I rx ry ⟨_, _, rfl, rfl, q⟩
  · cases hg
theorem rp_key {K : PySem.W.Frag} {G : Hp} {x : V} {d : D} {k : Key} (h : keyOf d = some k) (r : Rp K G x d) : x = kV k := by
  cases r with
  | int i => cases h; rfl
  | str i => cases h; rfl
  | _ => cases h
theorem cd_in (hu : X.A.units + 65 < cLine) : CmpD X .In inD := by
  intro pins s σ H x y v u Q I rx ry G d e b sG r1 r2 hg q
  obtain ⟨as, q1⟩ := Rp.reads I sG d x v r1 rx
  unfold inD at hg
  split at hg
  · split at hg
    · rename_i ds c
      cases hg
      rw [Bool.and_eq_true] at c
      obtain ⟨bs, q2⟩ := Rp.reads I sG (.list ds) y u r2 ry
      exact SeqAt.in_list_data q2 q1 (shp_items c.2) (shp_plain c.1) (by have := shp_depth c.1; have : min (PyData.depthAll ds) d.depth ≤ d.depth := Nat.min_le_right _ _; omega) ⟨.bl _, H, I, rfl, q⟩
    · cases hg
  · split at hg
    · rename_i ds c
      cases hg
      rw [Bool.and_eq_true] at c
      obtain ⟨bs, q2⟩ := Rp.reads I sG (.tuple ds) y u r2 ry
      exact SeqAt.in_tuple_data q2 q1 (shp_itemsT c.2) (shp_plain c.1) (by have := shp_depth c.1; have : min (PyData.depthAll ds) d.depth ≤ d.depth := Nat.min_le_right _ _; omega) ⟨.bl _, H, I, rfl, q⟩
    · cases hg
  · rename_i ds
    cases e1 : keyOf d with
    | none => rw [e1] at hg; cases hg
    | some k =>
      rw [e1] at hg
      cases hg
      cases r2 with
      | dic h1 rk =>
        cases ry
        have ex := rp_key e1 r1
        subst ex
        refine d_in (by omega) I (DGet.f (sG _ _ h1)) rx fun s' I' => ⟨.bl _, H, I', rfl, ?_⟩
        rcases rk.val k with ⟨v1, v2⟩ | ⟨v0, d0, v1, v2, _⟩
        · simp only [v2] at q; rw [v1]; exact q
        · simp only [v2] at q; rw [v1]; exact q
  · split at hg
    · cases hg
      cases r1
      cases r2
      exact op_in_str pins s σ H _ _ v u Q I rx ry ⟨_, _, rfl, rfl, q⟩
    · cases hg
  · cases hg
theorem cd_notIn (hu : X.A.units + 65 < cLine) : CmpD X .NotIn notInD := by
  intro pins s σ H x y v u Q I rx ry G d e b sG r1 r2 hg q
  obtain ⟨as, q1⟩ := Rp.reads I sG d x v r1 rx
  unfold notInD inD at hg
  split at hg
  · split at hg
    · rename_i ds c
      cases hg
      rw [Bool.and_eq_true] at c
      obtain ⟨bs, q2⟩ := Rp.reads I sG (.list ds) y u r2 ry
      exact SeqAt.notIn_list_data q2 q1 (shp_items c.2) (shp_plain c.1) (by have := shp_depth c.1; have : min (PyData.depthAll ds) d.depth ≤ d.depth := Nat.min_le_right _ _; omega) ⟨.bl _, H, I, rfl, q⟩
    · cases hg
  · split at hg
    · rename_i ds c
      cases hg
      rw [Bool.and_eq_true] at c
      obtain ⟨bs, q2⟩ := Rp.reads I sG (.tuple ds) y u r2 ry
      exact SeqAt.notIn_tuple_data q2 q1 (shp_itemsT c.2) (shp_plain c.1) (by have := shp_depth c.1; have : min (PyData.depthAll ds) d.depth ≤ d.depth := Nat.min_le_right _ _; omega) ⟨.bl _, H, I, rfl, q⟩
    · cases hg
  · rename_i ds
    cases e1 : keyOf d with
    | none => rw [e1] at hg; cases hg
    | some k =>
      rw [e1] at hg
      cases hg
      cases r2 with
      | dic h1 rk =>
        cases ry
        have ex := rp_key e1 r1
        subst ex
        refine d_notIn (by omega) I (DGet.f (sG _ _ h1)) rx fun s' I' => ⟨.bl _, H, I', rfl, ?_⟩
        rcases rk.val k with ⟨v1, v2⟩ | ⟨v0, d0, v1, v2, _⟩
        · simp only [v2] at q; rw [v1]; exact q
        · simp only [v2] at q; rw [v1]; exact q
  · split at hg
    · cases hg
      cases r1
      cases r2
      exact op_notIn_str pins s σ H _ _ v u Q I rx ry ⟨_, _, rfl, rfl, q⟩
    · cases hg
  · cases hg
theorem rp_none {K : PySem.W.Frag} {G : Hp} {x : V} {d : D} (r : Rp K G x d) : decide (x = V.non) = isNn d := by
  cases r <;> rfl
theorem cd_is : CmpD X .Is isD := by
  intro pins s σ H x y v u Q I rx ry G d e b sG r1 r2 hg q
  unfold isD at hg
  split at hg
  · have e1 := rp_none r1
    cases hg
    cases r2
    refine op_isN pins s σ H _ _ v u Q I rx ry ⟨rfl, ?_⟩
    rw [e1]
    exact q
  · split at hg
    · cases hg
      cases r1
      cases r2
      exact op_is_bl pins s σ H _ _ v u Q I rx ry ⟨_, _, rfl, rfl, q⟩
    · cases hg
  · cases hg
theorem cd_isNot : CmpD X .IsNot isNotD := by
  intro pins s σ H x y v u Q I rx ry G d e b sG r1 r2 hg q
  unfold isNotD isD at hg
  split at hg
  · have e1 := rp_none r1
    cases hg
    cases r2
    refine op_notN pins s σ H _ _ v u Q I rx ry ⟨rfl, ?_⟩
    rw [e1]
    exact q
  · split at hg
    · cases hg
      cases r1
      cases r2
      exact op_isnot_bl pins s σ H _ _ v u Q I rx ry ⟨_, _, rfl, rfl, q⟩
    · cases hg
  · cases hg
end
end Z

/-! Z5: subscripts, slices, calls of built-ins by values. -/
namespace Z
open PySem PySem.Spec PyProof.Rows L2
section
variable {X : Cx} {pos : Pos}

/-! ### + and * of anything; a list that comes of it is known to all -/
theorem SR.seen {K : PySem.W.Frag} {Y : Fx} {F H : Hp} {δ : List Sl} {σ : L2.St} {A : Nat → List Addr} (S : SR K Y F H δ σ A) {p : Addr} {o : HO} (hp : H p = none) : SR K Y (upd F p o) (upd H p o) δ σ A := S.laid hp
def addA (d e : D) : Option D := (addD d e).or (addL d e)
def mulA (d e : D) : Option D := (mulD d e).or (mulL d e)
def rAdd4 (K : PySem.W.Frag) : R2 := fun x y H Q => rAdd3 K x y H Q ∨ rCat x y H Q
theorem op_add4 : OpR X (binaryOp .Add) (rAdd4 X.K) := op_add3.or op_cat
theorem addL_list {d e z : D} (h : addL d e = some z) : ∃ a b, d = .list a ∧ e = .list b ∧ a.length + b.length ≤ sizeLine ∧ z = .list (a ++ b) := by
  unfold addL at h
  split at h
  · split at h
    · rename_i hz
      cases h
      exact ⟨_, _, rfl, rfl, hz, rfl⟩
    · cases h
  · cases h
theorem os_addA : OpS X (rAdd4 X.K) addA := by
  intro Y F H δ σ A R x y d e z S rx ry hg Q k
  unfold addA at hg
  cases e1 : addD d e with
  | some w =>
    rw [e1] at hg
    cases hg
    exact .inl (os_add Y F H δ σ A R x y d e _ S rx ry e1 Q k)
  | none =>
    rw [e1] at hg
    obtain ⟨i, j, rfl, rfl, hz, rfl⟩ := addL_list hg
    obtain ⟨a, xs, rfl, h1, r1⟩ := rx.list S
    obtain ⟨b, ys, rfl, h2, r2⟩ := ry.list S
    exact .inr ⟨a, b, xs, ys, rfl, rfl, h1, h2, by rw [r1.length, r2.length]; exact hz, fun p hp => k _ _ _ (Stp.laid S hp) (S.laid hp) (.lst upd_same ((r1.append r2).mono (Stp.laid (M := []) S hp).f))⟩
def rMul4 (K : PySem.W.Frag) : R2 := fun x y H Q => rMul2 K x y H Q ∨ rRep x y H Q
theorem op_mul4 : OpR X (binaryOp .Mult) (rMul4 X.K) := op_mul2.or op_rep
theorem mulL_list {d e z : D} (h : mulL d e = some z) : ∃ xs k, d = .list xs ∧ e = .int k ∧ 0 ≤ k ∧ k < 2 ^ 62 ∧ xs.length * k.toNat ≤ sizeLine ∧ z = .list (List.replicate k.toNat xs).flatten := by
  unfold mulL at h
  split at h
  · split at h
    · rename_i hz
      cases h
      simp only [Bool.and_eq_true, decide_eq_true_eq] at hz
      exact ⟨_, _, rfl, rfl, hz.1.1, hz.1.2, hz.2, rfl⟩
    · cases h
  · cases h
theorem os_mulA : OpS X (rMul4 X.K) mulA := by
  intro Y F H δ σ A R x y d e z S rx ry hg Q k
  unfold mulA at hg
  cases e1 : mulD d e with
  | some w =>
    rw [e1] at hg
    cases hg
    exact .inl (os_mul Y F H δ σ A R x y d e _ S rx ry e1 Q k)
  | none =>
    rw [e1] at hg
    obtain ⟨i, j, rfl, rfl, z1, z2, hz, rfl⟩ := mulL_list hg
    obtain ⟨a, xs, rfl, h1, r1⟩ := rx.list S
    rw [ry.int]
    exact .inr ⟨a, j, xs, rfl, rfl, h1, by omega, by omega, by rw [r1.length]; exact hz, fun p hp => k _ _ _ (Stp.laid S hp) (S.laid hp) (.lst upd_same ((r1.rep _).mono (Stp.laid (M := []) S hp).f))⟩

/-! ### -a -/
def negD : D → Option D
  | .int i => some (.int (-i))
  | _ => none
def f1 (g : D → Option D) (fa : List Sl → Option (D × List Sl)) : List Sl → Option (D × List Sl) := fun δ => (fa δ).bind fun p => (g p.1).map fun z => (z, p.2)
theorem f1_some {g : D → Option D} {fa : List Sl → Option (D × List Sl)} {δ δ' : List Sl} {z : D} (h : f1 g fa δ = some (z, δ')) : ∃ d, fa δ = some (d, δ') ∧ g d = some z := by
  unfold f1 at h
  cases e1 : fa δ with
  | none => rw [e1] at h; cases h
  | some p =>
    obtain ⟨d, δ1⟩ := p
    rw [e1] at h
    simp only [Option.bind_some] at h
    cases e3 : g d with
    | none => rw [e3] at h; cases h
    | some w =>
      rw [e3] at h
      cases h
      exact ⟨d, rfl, e3⟩
theorem ev_neg {a : Expr} {fa} {R M : List Nat} (ha : EV X a fa R M) : EV X (.UnaryOp .USub a pos) (f1 negD fa) [] M := by
  obtain ⟨t, p, q⟩ := ha
  refine ⟨_, pe_un un_neg p, fun Y F H δ σ A S z δ' e Q k => ?_⟩
  obtain ⟨d, e1, e2⟩ := f1_some e
  refine q Y F H δ σ A S d δ' e1 _ fun v F1 H1 st S1 r => ?_
  cases d with
  | int i =>
    cases e2
    exact ⟨i, r.int, k _ F1 H1 st S1 (.inl (.int _))⟩
  | _ => cases e2

/-! ### a[b] -/
def rIxM : R2 := fun x y H Q => ∃ a v, x = .ref a ∧ DGet H a y (some v) ∧ Q v H
theorem ix_dict (hu : X.A.units + 1 < cLine) : IxR X rIxM := by
  intro value slice pins s σ H x y v u Q I rx ry h hs
  obtain ⟨a, z, rfl, g, q⟩ := h
  cases rx
  exact tail_any (dict_typeIs I g) PySem.F.slot_dict_getitem.lookup (d_getItem hu I g ry fun w' s' I' r' => ⟨z, H, I', r', q⟩) hs
def rIx4 (K : PySem.W.Frag) : R2 := fun x y H Q => rIx K x y H Q ∨ rIxM x y H Q
theorem ix_4 (hu : X.A.units + 1 < cLine) : IxR X (rIx4 X.K) := ix_seq.or (ix_dict hu)
def idxD : D → D → Option D
  | .list ds, .int i => atI ds i
  | .tuple ds, .int i => atI ds i
  | .str z, .int i => if z.length ≤ sizeLine then (atI z.cps.toList i).map fun c => .str ⟨#[c]⟩ else none
  | .dict ds, k => (keyOf k).bind (dget ds)
  | _, _ => none
theorem Rps.at {K : PySem.W.Frag} {G : Hp} {xs : List V} {ds : List D} {i : Int} {d : D} (h : Rps K G xs ds) (e : atI ds i = some d) : ∃ v, atI xs i = some v ∧ Rp K G v d := by
  unfold atI at e ⊢
  rw [h.length]
  cases e1 : ixN ds.length i with
  | none => rw [e1] at e; cases e
  | some j =>
    rw [e1] at e
    exact h.get e
theorem os_idx : OpS X (rIx4 X.K) idxD := by
  intro Y F H δ σ A R x y d e z S rx ry hg Q k
  unfold idxD at hg
  split at hg
  · rename_i ds i
    obtain ⟨a, xs, rfl, h1, r1⟩ := rx.list S
    obtain ⟨v, e1, r⟩ := r1.at hg
    rw [ry.int]
    exact .inl (.inl ⟨a, xs, i, v, rfl, rfl, SqL.of h1, e1, k v F H Stp.refl S r⟩)
  · rename_i ds i
    obtain ⟨a, xs, rfl, _, h1, r1⟩ := rx.tup S
    obtain ⟨v, e1, r⟩ := r1.at hg
    rw [ry.int]
    exact .inl (.inr (.inl ⟨a, xs, i, v, rfl, rfl, h1, e1, k v F H Stp.refl S r⟩))
  · rename_i zz i
    split at hg
    · rename_i hz
      rw [rx.str, ry.int]
      cases e1 : atI zz.cps.toList i with
      | none => rw [e1] at hg; cases hg
      | some c =>
        rw [e1] at hg
        cases hg
        exact .inl (.inr (.inr ⟨zz, i, c, rfl, rfl, hz, e1, k _ F H Stp.refl S (.str _)⟩))
    · cases hg
  · rename_i ds _
    cases e1 : keyOf e with
    | none => rw [e1] at hg; cases hg
    | some k' =>
      rw [e1] at hg
      obtain ⟨a, _, kvs, rfl, h1, r1⟩ := rx.dict S
      have ey := rp_key e1 (ry.ex S)
      subst ey
      rcases r1.val k' with ⟨_, v2⟩ | ⟨v0, d0, v1, v2, r0⟩
      · simp only [Option.bind_some] at hg
        rw [v2] at hg; cases hg
      · simp only [Option.bind_some] at hg
        rw [v2] at hg; cases hg
        refine .inr ⟨a, v0, rfl, ?_, k v0 F H Stp.refl S r0⟩
        rw [← v1]
        exact DGet.f h1
  · cases hg
theorem ev_idx {a b : Expr} {fa fb} {Ra Rb Ma Mb : List Nat} (hu : X.A.units + 1 < cLine) (ha : EV X a fa Ra Ma) (hb : EV X b fb Rb Mb) (dj : ∀ i ∈ Ra, i ∉ Mb := by decide) (hs : PlainIx b := by intro _ _; rfl) : EV X (.Subscript a b pos) (f2 idxD fa fb) [] (Ma ++ Mb) := by
  obtain ⟨ta, tb, pa, pb, q⟩ := two (g := idxD) ha hb dj
  refine ⟨_, pe_ix (ix_4 hu) pa pb hs, fun Y F H δ σ A S z δ' e Q k => ?_⟩
  refine q Y F H δ σ A S z δ' e _ fun x y d e F1 H1 st S1 r1 r2 hg => ?_
  refine os_idx Y F1 H1 δ' σ A _ x y d e z S1 r1 r2 hg Q fun v F2 H2 st2 S2 r3 => ?_
  exact k v F2 H2 (stp_nil S1 st st2) S2 (.inl r3)

/-! ### a[lo:hi] -/
/-- a slice's end -/
def OV (X : Cx) (e : Option Expr) (f : List Sl → Option (Option Int × List Sl)) (M : List Nat) : Prop :=
  ∃ t, PO X e t ∧ ∀ (Y : Fx) (F H : Hp) (δ : List Sl) (σ : L2.St) (A : Nat → List Addr), SR X.K Y F H δ σ A → ∀ (d : Option Int) (δ' : List Sl), f δ = some (d, δ') → ∀ Q : Option Int → Hp → Prop,
    (∀ F' H', Stp A M F H F' H' → SR X.K Y F' H' δ' σ A → Q d H') → t σ H Q
def oNone : List Sl → Option (Option Int × List Sl) := fun δ => some (none, δ)
def oSome (fa : List Sl → Option (D × List Sl)) : List Sl → Option (Option Int × List Sl) := fun δ => (fa δ).bind fun p => match p.1 with | .int i => some (some i, p.2) | _ => none
theorem ov_none : OV X none oNone [] := by
  refine ⟨_, po_none, fun Y F H δ σ A S d δ' e Q k => ?_⟩
  cases e
  exact k F H Stp.refl S
theorem ov_some {a : Expr} {fa} {R M : List Nat} (ha : EV X a fa R M) : OV X (some a) (oSome fa) M := by
  obtain ⟨t, p, q⟩ := ha
  refine ⟨_, po_some p, fun Y F H δ σ A S d δ' e Q k => ?_⟩
  unfold oSome at e
  cases e1 : fa δ with
  | none => rw [e1] at e; cases e
  | some p =>
    obtain ⟨d1, δ1⟩ := p
    rw [e1] at e
    refine q Y F H δ σ A S d1 δ1 e1 _ fun v F1 H1 st S1 r => ?_
    cases d1 with
    | int i =>
      cases e
      exact ⟨i, r.int, k F1 H1 st S1⟩
    | _ => cases e
/-- the piece -/
def cutL {α : Type} (xs : List α) (lo hi : Option Int) : List α := (xs.drop (HT.sIx xs.length 0 lo)).take (HT.sIx xs.length xs.length hi - HT.sIx xs.length 0 lo)
theorem Rps.cut {K : PySem.W.Frag} {G : Hp} {xs : List V} {ds : List D} (h : Rps K G xs ds) (lo hi : Option Int) : Rps K G (cutV xs lo hi) (cutL ds lo hi) := by
  unfold cutV cutL
  rw [h.length]
  exact (h.drop _).take _
def slcD (d : D) (lo hi : Option Int) : Option D :=
  match d with
  | .list ds => some (.list (cutL ds lo hi))
  | .tuple ds => some (.tuple (cutL ds lo hi))
  | .str z => if z.length ≤ sizeLine then some (.str (cutS z lo hi)) else none
  | _ => none
def slcL (d : D) (lo hi : Option Int) : Option D :=
  match d with
  | .list ds => some (.list (cutL ds lo hi))
  | _ => none
def f3 (g : D → Option Int → Option Int → Option D) (fa : List Sl → Option (D × List Sl)) (fl fh : List Sl → Option (Option Int × List Sl)) : List Sl → Option (D × List Sl) := fun δ => (fa δ).bind fun p => (fl p.2).bind fun q => (fh q.2).bind fun r => (g p.1 q.1 r.1).map fun z => (z, r.2)
theorem f3_some {g : D → Option Int → Option Int → Option D} {fa fl fh} {δ δ' : List Sl} {z : D} (h : f3 g fa fl fh δ = some (z, δ')) : ∃ d δ1 lo δ2 hi, fa δ = some (d, δ1) ∧ fl δ1 = some (lo, δ2) ∧ fh δ2 = some (hi, δ') ∧ g d lo hi = some z := by
  unfold f3 at h
  cases e1 : fa δ with
  | none => rw [e1] at h; cases h
  | some p =>
    obtain ⟨d, δ1⟩ := p
    rw [e1] at h
    simp only [Option.bind_some] at h
    cases e2 : fl δ1 with
    | none => rw [e2] at h; cases h
    | some q =>
      obtain ⟨lo, δ2⟩ := q
      rw [e2] at h
      simp only [Option.bind_some] at h
      cases e3 : fh δ2 with
      | none => rw [e3] at h; cases h
      | some q =>
        obtain ⟨hi, δ3⟩ := q
        rw [e3] at h
        simp only [Option.bind_some] at h
        cases e4 : g d lo hi with
        | none => rw [e4] at h; cases h
        | some w =>
          rw [e4] at h
          cases h
          exact ⟨d, δ1, lo, δ2, hi, rfl, e2, e3, e4⟩
def rSl3 (K : PySem.W.Frag) : V → Option Int → Option Int → Hp → VK → Prop := fun x lo hi H Q => rSlL K x lo hi H Q ∨ rSlA K x lo hi H Q ∨ ∃ z, x = .str z ∧ z.length ≤ sizeLine ∧ Q (.str (cutS z lo hi)) H
theorem cut_all {α : Type} (xs : List α) (lo hi : Option Int) (h : HT.sIx xs.length 0 lo = 0 ∧ HT.sIx xs.length xs.length hi = xs.length) : cutL xs lo hi = xs := by
  unfold cutL
  rw [h.1, h.2]
  simp
theorem sl_3 : SlR X (rSl3 X.K) := sl_list.or (sl_tupA.or sl_str)
theorem ev_slice {a : Expr} {lo hi : Option Expr} {fa fl fh} {R M Ml Mh : List Nat} {p2 : Pos} (ha : EV X a fa R M) (hl : OV X lo fl Ml) (hh : OV X hi fh Mh) (d1 : ∀ i ∈ R, i ∉ Ml := by decide) (d2 : ∀ i ∈ R, i ∉ Mh := by decide) : EV X (.Subscript a (.Slice lo hi none p2) pos) (f3 slcD fa fl fh) [] (M ++ Ml ++ Mh) := by
  obtain ⟨t, p, q⟩ := ha
  obtain ⟨tl, pl, ql⟩ := hl
  obtain ⟨th, ph, qh⟩ := hh
  refine ⟨_, pe_slice sl_3 p pl ph, fun Y F H δ σ A S z δ' e Q k => ?_⟩
  obtain ⟨d, δ1, l, δ2, h, e1, e2, e3, e4⟩ := f3_some e
  refine q Y F H δ σ A S d δ1 e1 _ fun x F1 H1 st1 S1 r1 => ?_
  refine ql Y F1 H1 δ1 σ A S1 l δ2 e2 _ fun F2 H2 st2 S2 => ?_
  refine qh Y F2 H2 δ2 σ A S2 h δ' e3 _ fun F3 H3 st3 S3 => ?_
  have st : Stp A (M ++ Ml ++ Mh) F H F3 H3 := (st1.trans S1 st2).trans S2 st3
  have r3 : Vw X.K F3 H3 A R x d := (r1.step S1 st2 d1).step S2 st3 d2
  unfold slcD at e4
  split at e4
  · cases e4
    obtain ⟨a', xs, rfl, h1, r⟩ := r3.list S3
    exact .inl ⟨a', xs, rfl, SqL.of h1, fun p hp => k _ _ _ (stp_nil S3 st (Stp.laid S3 hp)) (S3.laid hp) (.inl (.lst upd_same ((r.cut l h).mono (Stp.laid (M := []) S3 hp).f)))⟩
  · cases e4
    obtain ⟨a', xs, rfl, h0, h1, r⟩ := r3.tup S3
    refine .inr (.inl ⟨a', xs, rfl, h1, fun c => ?_, fun c p hp => ?_⟩)
    · refine k _ F3 H3 st S3 (.inl ?_)
      rw [r.length] at c
      rw [cut_all _ _ _ c]
      exact .tup h0 r
    · exact k _ _ _ (stp_nil S3 st (Stp.laid S3 hp)) (S3.laid hp) (.inl (.tup (.inl (.inl upd_same)) ((r.cut l h).mono (Stp.laid (M := []) S3 hp).f)))
  · split at e4
    · rename_i hz
      cases e4
      exact .inr (.inr ⟨_, r3.str, hz, k _ F3 H3 st S3 (.inl (.str _))⟩)
    · cases e4
  · cases e4
theorem back {K : PySem.W.Frag} {Y : Fx} {F H F1 H1 : Hp} {δ1 : List Sl} {σ : L2.St} {A : Nat → List Addr} {M : List Nat} {p : Addr} (st : Stp A M F H F1 H1) (S1 : SR K Y F1 H1 δ1 σ A) (n : H1 p = none) : H p = none := by
  cases e5 : H p with
  | none => rfl
  | some o =>
    by_cases c : ∃ i, p ∈ A i
    · obtain ⟨i, hi⟩ := c
      exact absurd n (S1.isSome hi)
    · have := st.kp p o e5 fun i _ hi => c ⟨i, hi⟩
      rw [n] at this
      cases this
theorem nv_slice {a : Expr} {lo hi : Option Expr} {fa fl fh} {R M Ml Mh : List Nat} {p2 : Pos} (ha : EV X a fa R M) (hl : OV X lo fl Ml) (hh : OV X hi fh Mh) (d1 : ∀ i ∈ R, i ∉ Ml := by decide) (d2 : ∀ i ∈ R, i ∉ Mh := by decide) : NV X (.Subscript a (.Slice lo hi none p2) pos) (f3 slcL fa fl fh) (M ++ Ml ++ Mh) := by
  obtain ⟨t, p, q⟩ := ha
  obtain ⟨tl, pl, ql⟩ := hl
  obtain ⟨th, ph, qh⟩ := hh
  refine ⟨_, pe_slice sl_list p pl ph, fun Y F H δ σ A S z δ' e Q k => ?_⟩
  obtain ⟨d, δ1, l, δ2, h, e1, e2, e3, e4⟩ := f3_some e
  refine q Y F H δ σ A S d δ1 e1 _ fun x F1 H1 st1 S1 r1 => ?_
  refine ql Y F1 H1 δ1 σ A S1 l δ2 e2 _ fun F2 H2 st2 S2 => ?_
  refine qh Y F2 H2 δ2 σ A S2 h δ' e3 _ fun F3 H3 st3 S3 => ?_
  have st : Stp A (M ++ Ml ++ Mh) F H F3 H3 := (st1.trans S1 st2).trans S2 st3
  have r3 : Vw X.K F3 H3 A R x d := (r1.step S1 st2 d1).step S2 st3 d2
  unfold slcL at e4
  split at e4
  · cases e4
    obtain ⟨a', xs, rfl, h1, r⟩ := r3.list S3
    exact ⟨a', xs, rfl, SqL.of h1, fun p hp => k p F3 _ (stp_nil S3 st (Stp.laidO hp)) (S3.laidO hp) (back st S3 hp) (S3.sub.free hp) ⟨_, upd_same, r.cut l h⟩⟩
  · cases e4

/-! ### calls of built-ins by values -/
def CallS (X : Cx) (r : List V → Hp → VK → Prop) (g : List D → Option D) : Prop :=
  ∀ (Y : Fx) (F H : Hp) (δ : List Sl) (σ : L2.St) (A : Nat → List Addr) (R : List Nat) (xs : List V) (ds : List D) (z : D), SR X.K Y F H δ σ A → Vws X.K F H A R xs ds → g ds = some z →
    ∀ Q : VK, (∀ v F' H', Stp A [] F H F' H' → SR X.K Y F' H' δ σ A → Rp X.K F' v z → Q v H') → r xs H Q
def CallN (X : Cx) (r : List V → Hp → VK → Prop) (g : List D → Option D) : Prop :=
  ∀ (Y : Fx) (F H : Hp) (δ : List Sl) (σ : L2.St) (A : Nat → List Addr) (R : List Nat) (xs : List V) (ds : List D) (z : D), SR X.K Y F H δ σ A → Vws X.K F H A R xs ds → g ds = some z →
    ∀ Q : VK, (∀ p F' H', Stp A [] F H F' H' → SR X.K Y F' H' δ σ A → H p = none → F' p = none → OwnR X.K F' H' p z → Q (.ref p) H') → r xs H Q
def fA (g : List D → Option D) (f : List Sl → Option (List D × List Sl)) : List Sl → Option (D × List Sl) := fun δ => (f δ).bind fun p => (g p.1).map fun z => (z, p.2)
theorem fA_some {g : List D → Option D} {f : List Sl → Option (List D × List Sl)} {δ δ' : List Sl} {z : D} (h : fA g f δ = some (z, δ')) : ∃ d, f δ = some (d, δ') ∧ g d = some z := by
  unfold fA at h
  cases e1 : f δ with
  | none => rw [e1] at h; cases h
  | some p =>
    obtain ⟨d, δ1⟩ := p
    rw [e1] at h
    simp only [Option.bind_some] at h
    cases e3 : g d with
    | none => rw [e3] at h; cases h
    | some w =>
      rw [e3] at h
      cases h
      exact ⟨d, rfl, e3⟩
section
variable {x : Str} {id T : String} {e : Expr} {es : List Expr} {f : List Sl → Option (List D × List Sl)} {R M : List Nat} {r : List V → Hp → VK → Prop} {g : List D → Option D} {p : Pos}
/-- a built-in's name, not stored over by the module -/
structure Bn (X : Cx) (x : Str) (v : Value) : Prop where
  gl : Gl X x
  mg : X.mg x = none
  bt : bootBuiltins x = some v
  nn : x ≠ "__name__"
  db : (x == ("__debug__" : Str)) = false
theorem ev_callB (b : Bn X x (.builtin id)) (hc : CallR X (.builtin id) r) (hs : CallS X r g) (ha : AV X (e :: es) f R M) (h1 : starEach (e :: es) X.env = (false, eval e X.env) :: starEach es X.env := by rfl) (h2 : (backTo pos (starEach es X.env)).any (·.1) = false := by rfl) : EV X (.Call (.Name x p) (e :: es) [] pos) (fA g f) [] M := by
  obtain ⟨t, pa, q⟩ := ha
  refine ⟨_, pe_callB hc b.gl b.mg b.bt pa b.nn b.db h1 h2, fun Y F H δ σ A S z δ' e Q k => ?_⟩
  obtain ⟨d, e1, e2⟩ := fA_some e
  refine q Y F H δ σ A S d δ' e1 _ fun vs F1 H1 st S1 r1 => ?_
  exact hs Y F1 H1 δ' σ A _ vs d z S1 r1 e2 Q fun v F2 H2 st2 S2 r3 => k v F2 H2 (stp_nil S1 st st2) S2 (.inl r3)
theorem nv_callB (b : Bn X x (.builtin id)) (hc : CallR X (.builtin id) r) (hs : CallN X r g) (ha : AV X (e :: es) f R M) (h1 : starEach (e :: es) X.env = (false, eval e X.env) :: starEach es X.env := by rfl) (h2 : (backTo pos (starEach es X.env)).any (·.1) = false := by rfl) : NV X (.Call (.Name x p) (e :: es) [] pos) (fA g f) M := by
  obtain ⟨t, pa, q⟩ := ha
  refine ⟨_, pe_callB hc b.gl b.mg b.bt pa b.nn b.db h1 h2, fun Y F H δ σ A S z δ' e Q k => ?_⟩
  obtain ⟨d, e1, e2⟩ := fA_some e
  refine q Y F H δ σ A S d δ' e1 _ fun vs F1 H1 st S1 r1 => ?_
  exact hs Y F1 H1 δ' σ A _ vs d z S1 r1 e2 Q fun v F2 H2 st2 S2 n f3 r3 => k v F2 H2 (stp_nil S1 st st2) S2 (back st S1 n) f3 r3
theorem ev_callT (b : Bn X x (.type T)) (hc : CallR X (.type T) r) (hs : CallS X r g) (ha : AV X (e :: es) f R M) (h1 : starEach (e :: es) X.env = (false, eval e X.env) :: starEach es X.env := by rfl) (h2 : (backTo pos (starEach es X.env)).any (·.1) = false := by rfl) : EV X (.Call (.Name x p) (e :: es) [] pos) (fA g f) [] M := by
  obtain ⟨t, pa, q⟩ := ha
  refine ⟨_, pe_callTy hc b.gl b.mg b.bt pa b.nn b.db h1 h2, fun Y F H δ σ A S z δ' e Q k => ?_⟩
  obtain ⟨d, e1, e2⟩ := fA_some e
  refine q Y F H δ σ A S d δ' e1 _ fun vs F1 H1 st S1 r1 => ?_
  exact hs Y F1 H1 δ' σ A _ vs d z S1 r1 e2 Q fun v F2 H2 st2 S2 r3 => k v F2 H2 (stp_nil S1 st st2) S2 (.inl r3)
theorem nv_callT (b : Bn X x (.type T)) (hc : CallR X (.type T) r) (hs : CallN X r g) (ha : AV X (e :: es) f R M) (h1 : starEach (e :: es) X.env = (false, eval e X.env) :: starEach es X.env := by rfl) (h2 : (backTo pos (starEach es X.env)).any (·.1) = false := by rfl) : NV X (.Call (.Name x p) (e :: es) [] pos) (fA g f) M := by
  obtain ⟨t, pa, q⟩ := ha
  refine ⟨_, pe_callTy hc b.gl b.mg b.bt pa b.nn b.db h1 h2, fun Y F H δ σ A S z δ' e Q k => ?_⟩
  obtain ⟨d, e1, e2⟩ := fA_some e
  refine q Y F H δ σ A S d δ' e1 _ fun vs F1 H1 st S1 r1 => ?_
  exact hs Y F1 H1 δ' σ A _ vs d z S1 r1 e2 Q fun v F2 H2 st2 S2 n f3 r3 => k v F2 H2 (stp_nil S1 st st2) S2 (back st S1 n) f3 r3
end
end
end Z

/-! Z6: built-in functions, on data. -/
namespace Z
open PySem PySem.Spec PyProof.Rows L2
section
variable {X : Cx}
theorem Vws.one {K : PySem.W.Frag} {F H : Hp} {A : Nat → List Addr} {R : List Nat} {vs : List V} {d : D} (h : Vws K F H A R vs [d]) : ∃ v, vs = [v] ∧ Vw K F H A R v d := by
  match vs, h with
  | [v], ⟨h, _⟩ => exact ⟨v, rfl, h⟩
  | [], h => exact h.elim
  | _ :: _ :: _, ⟨_, h⟩ => exact h.elim
theorem Vws.two {K : PySem.W.Frag} {F H : Hp} {A : Nat → List Addr} {R : List Nat} {vs : List V} {d e : D} (h : Vws K F H A R vs [d, e]) : ∃ v u, vs = [v, u] ∧ Vw K F H A R v d ∧ Vw K F H A R u e := by
  match vs, h with
  | v :: r, ⟨h, h'⟩ =>
    obtain ⟨u, rfl, h2⟩ := Vws.one h'
    exact ⟨v, u, rfl, h, h2⟩
  | [], h => exact h.elim
theorem Vws.exs {K : PySem.W.Frag} {Y : Fx} {F H : Hp} {δ : List Sl} {σ : L2.St} {A : Nat → List Addr} {R : List Nat} (S : SR K Y F H δ σ A) : ∀ {vs : List V} {ds : List D}, Vws K F H A R vs ds → Rps K (ex R A F H) vs ds
  | [], [], _ => .nil
  | v :: vs, d :: ds, ⟨h, r⟩ => .cons (h.ex S) (Vws.exs S r)
  | [], _ :: _, h => h.elim
  | _ :: _, [], h => h.elim

/-- one argument -/
def g1 (g : D → Option D) : List D → Option D
  | [d] => g d
  | _ => none
def g2 (g : D → D → Option D) : List D → Option D
  | [d, e] => g d e
  | _ => none
theorem g1_some {g : D → Option D} {ds : List D} {z : D} (h : g1 g ds = some z) : ∃ d, ds = [d] ∧ g d = some z := by
  unfold g1 at h
  split at h
  · exact ⟨_, rfl, h⟩
  · cases h
theorem g2_some {g : D → D → Option D} {ds : List D} {z : D} (h : g2 g ds = some z) : ∃ d e, ds = [d, e] ∧ g d e = some z := by
  unfold g2 at h
  split at h
  · exact ⟨_, _, rfl, h⟩
  · cases h

/-! len -/
def lenD : D → Option D
  | .list ds => some (.int ds.length)
  | .tuple ds => some (.int ds.length)
  | .str z => if z.length ≤ sizeLine then some (.int z.length) else none
  | _ => none
def rLen (K : PySem.W.Frag) : List V → Hp → VK → Prop := fun xs H Q => (∃ p ys, xs = [.ref p] ∧ (SqL K H p ys ∨ SqT K H p ys) ∧ Q (.int ys.length) H) ∨ ∃ z, xs = [.str z] ∧ z.length ≤ sizeLine ∧ Q (.int z.length) H
theorem cr_len : CallR X (.builtin "len") (rLen X.K) := call_len_seq.or call_len_str
theorem cs_len : CallS X (rLen X.K) (g1 lenD) := by
  intro Y F H δ σ A R xs ds z S r hg Q k
  obtain ⟨d, rfl, hg'⟩ := g1_some hg
  clear hg
  have hg := hg'
  obtain ⟨v, rfl, rv⟩ := r.one
  unfold lenD at hg
  split at hg
  · cases hg
    obtain ⟨a, ys, rfl, h1, r1⟩ := rv.list S
    refine .inl ⟨a, ys, rfl, .inl (SqL.of h1), ?_⟩
    rw [r1.length]
    exact k _ F H Stp.refl S (.int _)
  · cases hg
    obtain ⟨a, ys, rfl, _, h1, r1⟩ := rv.tup S
    refine .inl ⟨a, ys, rfl, .inr h1, ?_⟩
    rw [r1.length]
    exact k _ F H Stp.refl S (.int _)
  · split at hg
    · rename_i hz
      cases hg
      exact .inr ⟨_, by rw [rv.str], hz, k _ F H Stp.refl S (.int _)⟩
    · cases hg
  · cases hg

/-! list, tuple -/
def listD : D → Option D
  | .list ds => some (.list ds)
  | .tuple ds => some (.list ds)
  | _ => none
def tupD : D → Option D
  | .list ds => some (.tuple ds)
  | .tuple ds => some (.tuple ds)
  | _ => none
def rList (K : PySem.W.Frag) : List V → Hp → VK → Prop := fun xs H Q => ∃ p ys, xs = [.ref p] ∧ (SqL K H p ys ∨ SqT K H p ys) ∧ ∀ l, H l = none → Q (.ref l) (upd H l (.lst ys))
theorem cr_list : CallR X (.type "list") (rList X.K) := call_list_of
theorem cn_list : CallN X (rList X.K) (g1 listD) := by
  intro Y F H δ σ A R xs ds z S r hg Q k
  obtain ⟨d, rfl, hg'⟩ := g1_some hg
  clear hg
  have hg := hg'
  obtain ⟨v, rfl, rv⟩ := r.one
  unfold listD at hg
  split at hg
  · cases hg
    obtain ⟨a, ys, rfl, h1, r1⟩ := rv.list S
    exact ⟨a, ys, rfl, .inl (SqL.of h1), fun p hp => k p F _ (Stp.laidO hp) (S.laidO hp) hp (S.sub.free hp) ⟨_, upd_same, r1⟩⟩
  · cases hg
    obtain ⟨a, ys, rfl, _, h1, r1⟩ := rv.tup S
    exact ⟨a, ys, rfl, .inr h1, fun p hp => k p F _ (Stp.laidO hp) (S.laidO hp) hp (S.sub.free hp) ⟨_, upd_same, r1⟩⟩
  · cases hg
def rTuple (K : PySem.W.Frag) : List V → Hp → VK → Prop := fun xs H Q => ∃ p ys, xs = [.ref p] ∧ ((SqL K H p ys ∧ ∀ l, H l = none → Q (.ref l) (upd H l (.tup ys))) ∨ (SqT K H p ys ∧ Q (.ref p) H))
theorem cr_tuple : CallR X (.type "tuple") (rTuple X.K) := call_tuple_of
theorem cs_tuple : CallS X (rTuple X.K) (g1 tupD) := by
  intro Y F H δ σ A R xs ds z S r hg Q k
  obtain ⟨d, rfl, hg'⟩ := g1_some hg
  clear hg
  have hg := hg'
  obtain ⟨v, rfl, rv⟩ := r.one
  unfold tupD at hg
  split at hg
  · cases hg
    obtain ⟨a, ys, rfl, h1, r1⟩ := rv.list S
    exact ⟨a, ys, rfl, .inl ⟨SqL.of h1, fun p hp => k _ _ _ (Stp.laid S hp) (S.laid hp) (.tup (.inl (.inl upd_same)) (r1.mono (Stp.laid (M := []) S hp).f))⟩⟩
  · cases hg
    obtain ⟨a, ys, rfl, h0, h1, r1⟩ := rv.tup S
    exact ⟨a, ys, rfl, .inr ⟨h1, k _ F H Stp.refl S (.tup h0 r1)⟩⟩
  · cases hg

/-! int, str, abs, max, min, sum -/
def intD : D → Option D
  | .int i => some (.int i)
  | .bool b => some (.int (if b then 1 else 0))
  | _ => none
def rInt : List V → Hp → VK → Prop := fun xs H Q => (∃ i, xs = [.int i] ∧ Q (.int i) H) ∨ ∃ k, xs = [.bl k] ∧ Q (.int (if k then 1 else 0)) H
theorem cr_int : CallR X (.type "int") rInt := call_int1
theorem cs_int : CallS X rInt (g1 intD) := by
  intro Y F H δ σ A R xs ds z S r hg Q k
  obtain ⟨d, rfl, hg'⟩ := g1_some hg
  clear hg
  have hg := hg'
  obtain ⟨v, rfl, rv⟩ := r.one
  unfold intD at hg
  split at hg
  · cases hg
    exact .inl ⟨_, by rw [rv.int], k _ F H Stp.refl S (.int _)⟩
  · cases hg
    exact .inr ⟨_, by rw [rv.bl], k _ F H Stp.refl S (.int _)⟩
  · cases hg
def strD : D → Option D
  | .int i => if i.natAbs.log2 < 1920 then some (.str (toString i)) else none
  | _ => none
def rStrI : List V → Hp → VK → Prop := fun xs H Q => ∃ i, xs = [.int i] ∧ i.natAbs.log2 < 1920 ∧ Q (.str (toString i)) H
theorem cr_str : CallR X (.type "str") rStrI := call_str_int
theorem cs_str : CallS X rStrI (g1 strD) := by
  intro Y F H δ σ A R xs ds z S r hg Q k
  obtain ⟨d, rfl, hg'⟩ := g1_some hg
  clear hg
  have hg := hg'
  obtain ⟨v, rfl, rv⟩ := r.one
  unfold strD at hg
  split at hg
  · split at hg
    · rename_i hz
      cases hg
      exact ⟨_, by rw [rv.int], hz, k _ F H Stp.refl S (.str _)⟩
    · cases hg
  · cases hg
def maxD : D → D → Option D
  | .int i, .int j => some (.int (if j > i then j else i))
  | _, _ => none
def minD : D → D → Option D
  | .int i, .int j => some (.int (if j < i then j else i))
  | _, _ => none
def rMax2 : List V → Hp → VK → Prop := fun xs H Q => ∃ i j, xs = [.int i, .int j] ∧ Q (.int (if j > i then j else i)) H
def rMin2 : List V → Hp → VK → Prop := fun xs H Q => ∃ i j, xs = [.int i, .int j] ∧ Q (.int (if j < i then j else i)) H
theorem cr_max2 (hc : X.calm = true) : CallR X (.builtin "max") rMax2 := call_max2 hc
theorem cr_min2 (hc : X.calm = true) : CallR X (.builtin "min") rMin2 := call_min2 hc
theorem cs_max2 : CallS X rMax2 (g2 maxD) := by
  intro Y F H δ σ A R xs ds z S r hg Q k
  obtain ⟨d, e, rfl, hg'⟩ := g2_some hg
  clear hg
  have hg := hg'
  obtain ⟨v, u, rfl, r1, r2⟩ := r.two
  unfold maxD at hg
  split at hg
  · cases hg
    exact ⟨_, _, by rw [r1.int, r2.int], k _ F H Stp.refl S (.int _)⟩
  · cases hg
theorem cs_min2 : CallS X rMin2 (g2 minD) := by
  intro Y F H δ σ A R xs ds z S r hg Q k
  obtain ⟨d, e, rfl, hg'⟩ := g2_some hg
  clear hg
  have hg := hg'
  obtain ⟨v, u, rfl, r1, r2⟩ := r.two
  unfold minD at hg
  split at hg
  · cases hg
    exact ⟨_, _, by rw [r1.int, r2.int], k _ F H Stp.refl S (.int _)⟩
  · cases hg
def intsOf : List D → Option (List Int)
  | [] => some []
  | .int i :: r => (intsOf r).map (i :: ·)
  | _ :: _ => none
theorem intsOf_some : ∀ {ds : List D} {ns : List Int}, intsOf ds = some ns → ds = ns.map PyData.int
  | [], _, h => by cases h; rfl
  | d :: r, ns, h => by
    cases d with
    | int i =>
      unfold intsOf at h
      cases e : intsOf r with
      | none => rw [e] at h; cases h
      | some m =>
        rw [e] at h
        cases h
        rw [intsOf_some e]
        rfl
    | _ => cases h
theorem intsOf_map : ∀ ns : List Int, intsOf (ns.map PyData.int) = some ns
  | [] => rfl
  | n :: ns => by
    show (intsOf (ns.map PyData.int)).map (n :: ·) = _
    rw [intsOf_map ns]
    rfl
def sumD : D → Option D
  | .list ds => (intsOf ds).map fun ns => .int ns.sum
  | _ => none
theorem cr_sumL (hc : X.calm = true) : CallR X (.builtin "sum") (rSum X.K) := cr_sum hc
theorem cs_sum : CallS X (rSum X.K) (g1 sumD) := by
  intro Y F H δ σ A R xs ds z S r hg Q k
  obtain ⟨d, rfl, hg'⟩ := g1_some hg
  clear hg
  have hg := hg'
  obtain ⟨v, rfl, rv⟩ := r.one
  unfold sumD at hg
  split at hg
  · rename_i ds'
    cases e : intsOf ds' with
    | none => rw [e] at hg; cases hg
    | some ns =>
      rw [e] at hg
      cases hg
      have e2 := intsOf_some e
      subst e2
      obtain ⟨a, ys, rfl, h1, r1⟩ := rv.list S
      have e3 := r1.ints
      subst e3
      exact ⟨a, ns, rfl, SqL.of h1, k _ F H Stp.refl S (.int _)⟩
  · cases hg

/-! repr -/
def reprD (d : D) : Option D := if d.showable && (!d.hasDict) && decide (d.shown.length ≤ sizeLine) && decide (d.depth ≤ 64) then some (.str d.shown) else none
def rRepr (X : Cx) : List V → Hp → VK → Prop := fun xs H Q => ∃ x G d, xs = [x] ∧ Same G H ∧ Rp X.K G x d ∧ d.showable = true ∧ d.hasDict = false ∧ d.shown.length ≤ sizeLine ∧ d.depth ≤ 64 ∧ Q (.str d.shown) H
theorem cr_repr (hg : X.A.guards = some []) (hu : X.A.units + 66 < cLine) : CallR X (.builtin "repr") (rRepr X) := by
  intro pins s σ H xs us Q I r h
  obtain ⟨x, G, d, rfl, sG, rp, h1, h2, h3, h4, q⟩ := h
  obtain ⟨u, rfl, rx⟩ := vals1 r
  obtain ⟨as, rd⟩ := Rp.reads I sG d x u rp rx
  have go : ∀ a, u = .ref a → wpAny (model X.prog X.w) X.A (call (.builtin "repr") [u]) (EP X pins σ Q) X.xe s := fun a e => by
    subst e
    exact repr_of_reads' rd h1 (fun z => by rw [h2] at z; cases z) hg (by omega) (fun _ _ e => e) (fun h' t tk hk => ⟨.str d.shown, H, I.kept (t' := tk) hk, ⟨_, rfl⟩, q⟩) h3
  cases rp with
  | int i =>
    obtain ⟨t, rfl⟩ := rx
    exact PySem.P.repr_of_int (by simpa [PyData.showable] using h1) ⟨.str _, H, I.tok _, ⟨_, rfl⟩, q⟩
  | lst _ _ => exact go _ rx
  | tup _ _ => exact go _ rx
  | dic _ _ => exact go _ rx
  | non => cases rx; exact PySem.P.repr_of_none ⟨.str _, H, I.tok _, ⟨_, rfl⟩, q⟩
  | bl b => cases rx; exact PySem.P.repr_of_bool ⟨.str _, H, I.tok _, ⟨_, rfl⟩, q⟩
  | str z => obtain ⟨t, rfl⟩ := rx; exact PySem.P.repr_of_str ⟨.str _, H, I.tok _, ⟨_, rfl⟩, q⟩ h3
theorem cs_repr : CallS X (rRepr X) (g1 reprD) := by
  intro Y F H δ σ A R xs ds z S r hg Q k
  obtain ⟨d, rfl, hg'⟩ := g1_some hg
  obtain ⟨v, rfl, rv⟩ := r.one
  unfold reprD at hg'
  split at hg'
  · rename_i c
    cases hg'
    simp only [Bool.and_eq_true, decide_eq_true_eq, Bool.not_eq_true'] at c
    exact ⟨v, _, d, rfl, ex_sub S, rv.ex S, c.1.1.1, c.1.1.2, c.1.2, c.2, k _ F H Stp.refl S (.str _)⟩
  · cases hg'

/-! sorted -/
theorem each_rps {K : PySem.W.Frag} {G : Hp} : ∀ {us : List Value} {ds : List D}, PySem.W.EachIs (fun u d => ∃ x, RelV x u ∧ Rp K G x d) us ds → ∃ xs, Vals xs us ∧ Rps K G xs ds
  | _, _, .nil => ⟨[], .nil, .nil⟩
  | _, _, .cons ⟨x, h1, h2⟩ t => by
    obtain ⟨xs, q1, q2⟩ := each_rps t
    exact ⟨x :: xs, .cons h1 q1, .cons h2 q2⟩
theorem rps_each {K : PySem.W.Frag} {G : Hp} : ∀ {xs : List V} {us : List Value} {ds : List D}, Vals xs us → Rps K G xs ds → PySem.W.EachIs (fun u d => ∃ x, RelV x u ∧ Rp K G x d) us ds
  | _, _, _, .nil, .nil => .nil
  | _, _, _, .cons h1 t1, .cons h2 t2 => .cons ⟨_, h1, h2⟩ (rps_each t1 t2)
def alikeB (ds : List D) : Bool := ds.all fun d => ds.all fun e => PySem.W.alike d e
def unitB : List D → Bool
  | [.tuple []] => true
  | _ => false
def sortB (ds : List D) : Bool := (ds.all fun d => match d with | .tuple (_ :: _) => true | _ => false) || ((ds.all fun d => match d with | .int _ => true | .str _ => true | .bool _ => true | _ => false) || unitB ds)
theorem sortB_ok {ds : List D} (h : sortB ds = true) : PySem.W.Sortable ds ∨ ds = [.tuple []] := by
  unfold sortB at h
  rw [Bool.or_eq_true, Bool.or_eq_true] at h
  rcases h with h | h | h
  · refine .inl (.inl fun d hd => ?_)
    have := List.all_eq_true.mp h d hd
    split at this
    · exact ⟨_, _, rfl⟩
    · cases this
  · refine .inl (.inr fun d hd => ?_)
    have := List.all_eq_true.mp h d hd
    split at this
    · exact ⟨by simp, by simp⟩
    · exact ⟨by simp, by simp⟩
    · exact ⟨by simp, by simp⟩
    · cases this
  · unfold unitB at h
    split at h
    · exact .inr rfl
    · cases h
theorem sorts_unit {prog : Program} {w : World} {A : Around} {s : Shared} {v : Value} {as : List Addr} (hu : A.units < cLine) (r : Reads s.heap v (.tuple []) as) : PySem.W.SortsAt prog w A s (PySem.W.dataKind s.heap [.tuple []]) [v] := by
  have hal : PySem.W.AllAlike [.tuple []] := fun d hd d' hd' => by
    rw [List.mem_singleton] at hd hd'
    subst hd hd'
    rfl
  refine ⟨fun u hu => ?_, tuples' false, ?_, fun h2 => absurd h2 (by simp)⟩
  · rw [List.mem_singleton] at hu
    subst hu
    exact ⟨_, PySem.W.dataKind_some hal (List.mem_singleton.mpr rfl) r⟩
  · intro E x y a b Q ha hb hq
    obtain ⟨d, as, hd, ra, rfl⟩ := PySem.W.dataKind_inv ha
    obtain ⟨d', as', hd', rb, rfl⟩ := PySem.W.dataKind_inv hb
    rw [List.mem_singleton] at hd hd'
    subst hd hd'
    have hq' : Q (PySem.W.dataLt (.tuple []) (.tuple [])) s := hq
    cases ra with
    | @tuple l o xs n _ _ h1 h2 h3 h4 =>
      cases rb with
      | @tuple l' o' xs' n' _ _ k1 k2 k3 k4 =>
        have n1 : xs.size = ([] : List D).length := by simpa using SeqAt.ReadsAll.length _ _ _ h4
        have n2 : xs'.size = ([] : List D).length := by simpa using SeqAt.ReadsAll.length _ _ _ k4
        have n3 : A.units + min (PyData.depthAll []) (PyData.depthAll []) < cLine := hu
        exact PySem.W.kat_lt h1 h3 k1 k3 (PySem.W.katLex_alike [] [] 0 _ _ _ _ h4 k4 rfl n3 (fun hb => nomatch hb) (by rw [n1, n2]) hq')
def sortL (ds : List D) : List D := ds.mergeSort (PySem.W.dataLe false id)
def sortD : D → Option D
  | .list ds => if alikeB ds && sortB ds && ds.all (fun d => decide (d.depth ≤ 64)) then some (.list (sortL ds)) else none
  | _ => none
def rSortD (X : Cx) : List V → Hp → VK → Prop := fun vs H Q => ∃ (a : Addr) (xs : List V) (G : Hp) (ds : List D), vs = [V.ref a] ∧ H a = some (.lst xs) ∧ Same G H ∧ Rps X.K G xs ds ∧ alikeB ds = true ∧ sortB ds = true ∧ (∀ d ∈ ds, d.depth ≤ 64) ∧
  ∀ (ys : List V) (p : Addr), H p = none → Rps X.K G ys (sortL ds) → Q (.ref p) (upd H p (.lst ys))
theorem cr_sortD (hu : X.A.units + 67 < cLine) : CallR X (.builtin "sorted") (rSortD X) := by
  intro pins s σ H vs us Q I r h
  obtain ⟨a, xs, G, ds, rfl, hs, sG, rp, h1, h2, h3, q⟩ := h
  obtain ⟨its, rv, hl, hz⟩ := I.list (SqL.of hs)
  rw [Vals.ref1 r]
  have hE := rps_each rv rp
  have hal : PySem.W.AllAlike (ds.map id) := by
    rw [List.map_id]
    intro d hd d' hd'
    exact List.all_eq_true.mp (List.all_eq_true.mp h1 d hd) d' hd'
  have er := hE.mono fun u d ⟨x, q1, q2⟩ => Rp.reads I sG d x u q2 q1
  have hdp : ∀ b ∈ ds, X.A.units + 2 + (id b).depth < cLine := fun b hb => by
    have := h3 b hb
    show X.A.units + 2 + b.depth < cLine
    omega
  have hzl : ds.length ≤ sizeLine := by rw [← rp.length]; exact hz
  suffices hend : ∀ out : List Value, out.length = ds.length → PySem.W.EachIs (fun u d => ∃ x, RelV x u ∧ Rp X.K G x d) out (ds.mergeSort (PySem.W.dataLe false id)) → EP X pins σ Q (.ref (s.heap.objs.size + 1)) { s with heap := sortedAll s.heap its (List.toArray out) } by
    rcases sortB_ok h2 with h2 | h2
    · exact PySem.W.sorted_data (R := fun u d => ∃ x, RelV x u ∧ Rp X.K G x d) (enc := id) (bs := ds) hl.isList hE er hal (by rw [List.map_id]; exact h2) hzl hdp hend
    · subst h2
      have hl1 : its.length = 1 := hE.length
      obtain ⟨v0, rfl⟩ := List.length_eq_one_iff.mp hl1
      have er' : PySem.W.EachIs (fun v b => ∃ as, Reads (PySem.W.sortingHeap (PySem.W.copyHeap s.heap [v0]) (s.heap.objs.size + 1) [v0]) v (id b) as) [v0] [.tuple []] := er.mono fun _ _ ⟨as, r⟩ => ⟨as, PyProof.Rows.Reads.keeps (fun _ _ => PySem.W.sorting_copy_old) r⟩
      cases er' with
      | cons r0 _ =>
        obtain ⟨as, r0⟩ := r0
        have er2 : PySem.W.EachIs (fun v b => ∃ as, Reads (PySem.W.sortingHeap (PySem.W.copyHeap s.heap [v0]) (s.heap.objs.size + 1) [v0]) v (id b) as) [v0] [.tuple []] := .cons ⟨as, r0⟩ .nil
        have S : PySem.W.SortsAt X.prog X.w X.A.in1.in1 { s with heap := PySem.W.sortingHeap (PySem.W.copyHeap s.heap [v0]) (s.heap.objs.size + 1) [v0] } (PySem.W.dataKind (PySem.W.sortingHeap (PySem.W.copyHeap s.heap [v0]) (s.heap.objs.size + 1) [v0]) (([.tuple []] : List D).map id)) [v0] := by
          rw [List.map_id]
          exact sorts_unit (A := X.A.in1.in1) (s := { s with heap := PySem.W.sortingHeap (PySem.W.copyHeap s.heap [v0]) (s.heap.objs.size + 1) [v0] }) (by show X.A.units + 2 < cLine; omega) r0
        have hd := PySem.W.sortVals_data false hE er2 hal
        have hlen := PySem.W.sortVals_length (κ := PySem.W.dataKind (PySem.W.sortingHeap (PySem.W.copyHeap s.heap [v0]) (s.heap.objs.size + 1) [v0]) (([.tuple []] : List D).map id)) (vs := [v0]) (ks := [v0]) false rfl
        have hf := hend _ hlen hd
        exact PySem.W.sorted_vals (κ := PySem.W.dataKind (PySem.W.sortingHeap (PySem.W.copyHeap s.heap [v0]) (s.heap.objs.size + 1) [v0]) (([.tuple []] : List D).map id)) hl.isList S (by rw [hE.length]; exact hzl) hf
  intro out ho eo
  obtain ⟨ys, q1, q2⟩ := each_rps eo
  obtain ⟨ep, he'⟩ := PyProof.Rows.sortedAll_at s.heap its (List.toArray out)
  have hlen : ys.length ≤ sizeLine := by rw [q1.length, ho, ← rp.length]; exact hz
  exact ⟨.ref _, upd H (s.heap.objs.size + 1) (.lst ys), I.laid (t' := s.toks) (fun _ _ => PyProof.Rows.sortedAll_old) (Nat.le_succ _) ⟨hlen, out, ep, q1, he'⟩, rfl, q ys _ (I.hok.fresh (Nat.le_succ _)) q2⟩
theorem cn_sort : CallN X (rSortD X) (g1 sortD) := by
  intro Y F H δ σ A R xs ds z S r hg Q k
  obtain ⟨d, rfl, hg'⟩ := g1_some hg
  obtain ⟨v, rfl, rv⟩ := r.one
  clear hg
  unfold sortD at hg'
  split at hg'
  · rename_i ds'
    split at hg'
    · rename_i c
      cases hg'
      simp only [Bool.and_eq_true, List.all_eq_true, decide_eq_true_eq] at c
      obtain ⟨a, ys, rfl, h1, r1⟩ := rv.list S
      exact ⟨a, ys, F, ds', rfl, h1, S.sub, r1, c.1.1, c.1.2, c.2, fun zs p hp r2 => k p F _ (Stp.laidO hp) (S.laidO hp) hp (S.sub.free hp) ⟨_, upd_same, r2⟩⟩
    · cases hg'
  · cases hg'
end
end Z

/-! Z7: the state's changes; statements without a loop. -/
namespace Z
open PySem PySem.Spec PyProof.Rows L2
def uA (A : Nat → List Addr) (i : Nat) (l : List Addr) : Nat → List Addr := fun j => if j = i then l else A j
theorem uA_same {A : Nat → List Addr} {i : Nat} {l : List Addr} : uA A i l i = l := if_pos rfl
theorem uA_ne {A : Nat → List Addr} {i j : Nat} {l : List Addr} (h : j ≠ i) : uA A i l j = A j := if_neg h
section
variable {K : PySem.W.Frag} {Y : Fx} {F F' H H' : Hp} {δ : List Sl} {σ : L2.St} {A : Nat → List Addr} {i : Nat}
theorem jn_set_same {v : Option V} (h : i < σ.length) : jn (σ.set i v)[i]? = v := by
  rw [List.getElem?_set_self h]
  rfl
theorem jn_set_ne {v : Option V} {j : Nat} (h : j ≠ i) : jn (σ.set i v)[j]? = jn σ[j]? := by
  rw [List.getElem?_set_ne (Ne.symm h)]
/-- a slot gets a value; what it owns then is l -/
theorem SR.put (S : SR K Y F H δ σ A) (hi : i < δ.length) (hio : Y.io i = false) {s : Sl} {v : Option V} {l : List Addr} (h : SlotR K F H s v l) (hF : ∀ a ∈ l, F a = none) (hY : ∀ a ∈ l, Y.H0 a = none) (hA : ∀ a ∈ l, ∀ j, j ≠ i → a ∉ A j) :
    SR K Y F H (δ.set i s) (σ.set i v) (uA A i l) := by
  have hs : i < σ.length := by rw [← S.len]; exact hi
  refine ⟨by rw [List.length_set, List.length_set]; exact S.len, fun j t e => ?_, fun j e => ?_, fun j k a h1 h2 => ?_, fun j a h1 => ?_, fun j a h1 h2 => ?_, S.sub, fun j h1 => ?_, S.ioA, S.kp, S.nw, S.f0⟩
  · by_cases c : j = i
    · subst c
      rw [List.getElem?_set_self hi] at e
      cases e
      rw [jn_set_same hs, uA_same]
      exact h
    · rw [List.getElem?_set_ne (Ne.symm c)] at e
      rw [jn_set_ne c, uA_ne c]
      exact S.slot j t e
  · by_cases c : j = i
    · subst c
      rw [List.getElem?_set_self hi] at e
      cases e
    · rw [List.getElem?_set_ne (Ne.symm c)] at e
      rw [uA_ne c]
      exact S.out j e
  · by_cases c : j = i
    · by_cases c2 : k = i
      · rw [c, c2]
      · subst c
        rw [uA_same] at h1
        rw [uA_ne c2] at h2
        exact absurd h2 (hA a h1 k c2)
    · by_cases c2 : k = i
      · subst c2
        rw [uA_same] at h2
        rw [uA_ne c] at h1
        exact absurd h1 (hA a h2 j c)
      · rw [uA_ne c] at h1
        rw [uA_ne c2] at h2
        exact S.dis j k a h1 h2
  · by_cases c : j = i
    · subst c
      rw [uA_same] at h1
      exact hF a h1
    · rw [uA_ne c] at h1
      exact S.hid j a h1
  · by_cases c : j = i
    · subst c
      rw [uA_same] at h1
      exact hY a h1
    · rw [uA_ne c] at h1
      exact S.new j a h1 h2
  · by_cases c : j = i
    · subst c
      rw [hio] at h1
      cases h1
    · rw [List.getElem?_set_ne (Ne.symm c), uA_ne c]
      exact S.fix j h1
theorem SR.putFz (S : SR K Y F H δ σ A) (hi : i < δ.length) (hio : Y.io i = false) {d : D} {v : V} (h : Rp K F v d) : SR K Y F H (δ.set i (.fz d)) (σ.set i (some v)) (uA A i []) :=
  S.put hi hio (show SlotR K F H (.fz d) (some v) [] from ⟨rfl, v, rfl, h⟩) (by simp) (by simp) (by simp)
theorem SR.putNo (S : SR K Y F H δ σ A) (hi : i < δ.length) (hio : Y.io i = false) {v : Option V} : SR K Y F H (δ.set i .no) (σ.set i v) (uA A i []) :=
  S.put hi hio (show SlotR K F H .no v [] from rfl) (by simp) (by simp) (by simp)
theorem SR.putOw (S : SR K Y F H δ σ A) (hi : i < δ.length) (hio : Y.io i = false) {d : D} {p : Addr} (hp : Y.H0 p = none) (hF : F p = none) (hA : ∀ j, p ∉ A j) (h : OwnR K F H p d) : SR K Y F H (δ.set i (.ow d)) (σ.set i (some (.ref p))) (uA A i [p]) :=
  S.put hi hio (show SlotR K F H (.ow d) (some (.ref p)) [p] from ⟨p, rfl, rfl, h⟩) (fun a ha => by simp at ha; subst ha; exact hF) (fun a ha => by simp at ha; subst ha; exact hp) (fun a ha j _ => by simp at ha; subst ha; exact hA j)
/-- new since the entry -/
theorem SR.fresh0 (S : SR K Y F H δ σ A) {p : Addr} (hp : H p = none) : Y.H0 p = none := by
  cases e : Y.H0 p with
  | none => rfl
  | some o =>
    by_cases c : ∃ i, Y.io i = true ∧ p ∈ Y.A0 i
    · obtain ⟨i, hi, hA⟩ := c
      rw [← (S.fix i hi).2] at hA
      exact absurd hp (S.isSome hA)
    · have := S.kp p o e fun i hi z => c ⟨i, hi, z⟩
      rw [hp] at this
      cases this
/-- what slot i owns is changed -/
theorem SR.chg (S : SR K Y F H δ σ A) {d d' : D} {p : Addr} {o : HO} (hd : δ[i]? = some (.ow d)) (hA : A i = [p]) (h : OwnR K F (upd H p o) p d') : SR K Y F (upd H p o) (δ.set i (.ow d')) σ A := by
  have hi : i < δ.length := (List.getElem?_eq_some_iff.mp hd).1
  obtain ⟨p', e1, e2, o1⟩ := S.slot i _ hd
  have hpA : p ∈ A i := by rw [hA]; simp
  have ep : p' = p := by
    rw [hA] at e2
    exact (List.cons.inj e2).1.symm
  subst ep
  refine ⟨by rw [List.length_set]; exact S.len, fun j t e => ?_, fun j e => ?_, S.dis, S.hid, S.new, fun b x e => ?_, S.fix, S.ioA, fun a x e n => ?_, S.nw, S.f0⟩
  · by_cases c : j = i
    · subst c
      rw [List.getElem?_set_self hi] at e
      cases e
      exact ⟨p', e1, hA, h⟩
    · rw [List.getElem?_set_ne (Ne.symm c)] at e
      refine (S.slot j t e).mono (Same.refl _) fun a ha => upd_ne fun z => ?_
      subst z
      exact c (S.dis j i _ ha hpA)
  · by_cases c : j = i
    · subst c
      rw [List.getElem?_set_self hi] at e
      cases e
    · rw [List.getElem?_set_ne (Ne.symm c)] at e
      exact S.out j e
  · have q := S.sub b x e
    rw [upd_ne]
    · exact q
    · intro z
      subst z
      rw [S.hid i _ hpA] at e
      cases e
  · rw [upd_ne]
    · exact S.kp a x e n
    · intro z
      subst z
      cases hio : Y.io i with
      | false =>
        rw [S.new i _ hpA hio] at e
        cases e
      | true =>
        have := (S.fix i hio).2
        rw [this] at hpA
        exact n i hio hpA
theorem Stp.chg {M : List Nat} {p : Addr} {o : HO} (hM : i ∈ M) (hA : p ∈ A i) : Stp A M F H F (upd H p o) :=
  ⟨Same.refl _, fun a e n => absurd e n, fun a x e n => by
    rw [upd_ne]
    · exact e
    · intro z
      subst z
      exact n i hM hA⟩
/-- a slot's own thing is known to all from here on -/
def frz (i : Nat) (δ : List Sl) : List Sl := match δ[i]? with
  | some (.ow d) => δ.set i (.fz d)
  | _ => δ
theorem SR.frzL (S : SR K Y F H δ σ A) (hio : Y.io i = false) {d : D} (hd : δ[i]? = some (.ow d)) (hl : ∀ ds, d ≠ .dict ds) : ∃ F' A', Same F F' ∧ SR K Y F' H (δ.set i (.fz d)) σ A' := by
  · have hd := hd
    have hi : i < δ.length := (List.getElem?_eq_some_iff.mp hd).1
    obtain ⟨p, e1, e2, o⟩ := S.slot i _ hd
    have o : OwnV K F H p d := by
      cases d with
      | list ds => exact o
      | dict ds => exact absurd rfl (hl ds)
      | _ => exact o.elim
    obtain ⟨u, hu⟩ : ∃ u, H p = some u := by
      exact o.there.some
    have hpA : p ∈ A i := by rw [e2]; simp
    have hF : F p = none := S.hid i p hpA
    have sF : Same F (upd F p u) := fun b x e => by rw [upd_ne (ne_of_none e hF)]; exact e
    have other : ∀ j a, j ≠ i → a ∈ A j → a ≠ p := fun j a c ha z => by subst z; exact c (S.dis j i _ ha hpA)
    refine ⟨upd F p u, uA A i [], sF, ⟨by rw [List.length_set]; exact S.len, fun j t e => ?_, fun j e => ?_, fun j k a h1 h2 => ?_, fun j a h1 => ?_, fun j a h1 h2 => ?_, fun b x e => ?_, fun j h1 => ?_, S.ioA, S.kp, fun a e n => ?_, S.f0.trans sF⟩⟩
    · by_cases c : j = i
      · subst c
        rw [List.getElem?_set_self hi] at e
        cases e
        rw [uA_same]
        exact ⟨rfl, _, e1, own_rp o sF (by rw [upd_same, hu])⟩
      · rw [List.getElem?_set_ne (Ne.symm c)] at e
        rw [uA_ne c]
        exact (S.slot j t e).mono sF fun _ _ => rfl
    · by_cases c : j = i
      · subst c
        rw [uA_same]
      · rw [List.getElem?_set_ne (Ne.symm c)] at e
        rw [uA_ne c]
        exact S.out j e
    · by_cases c : j = i
      · subst c
        rw [uA_same] at h1
        simp at h1
      · by_cases c2 : k = i
        · subst c2
          rw [uA_same] at h2
          simp at h2
        · rw [uA_ne c] at h1
          rw [uA_ne c2] at h2
          exact S.dis j k a h1 h2
    · by_cases c : j = i
      · subst c
        rw [uA_same] at h1
        simp at h1
      · rw [uA_ne c] at h1
        rw [upd_ne (other j a c h1)]
        exact S.hid j a h1
    · by_cases c : j = i
      · subst c
        rw [uA_same] at h1
        simp at h1
      · rw [uA_ne c] at h1
        exact S.new j a h1 h2
    · by_cases c : b = p
      · subst c
        rw [upd_same] at e
        cases e
        exact hu
      · rw [upd_ne c] at e
        exact S.sub _ _ e
    · have c : j ≠ i := fun z => by subst z; rw [hio] at h1; cases h1
      rw [uA_ne c]
      exact S.fix j h1
    · by_cases c : a = p
      · subst c
        exact S.new i a hpA hio
      · rw [upd_ne c] at n
        exact S.nw a e n
theorem SR.frzK (S : SR K Y F H δ σ A) (hio : Y.io i = false) {ds : List (D × D)} (hd : δ[i]? = some (.lk ds)) : ∃ F' A', Same F F' ∧ SR K Y F' H (δ.set i (.fz (.dict ds))) σ A' := by
  · have hd := hd
    have hi : i < δ.length := (List.getElem?_eq_some_iff.mp hd).1
    obtain ⟨p, e1, e2, o⟩ := S.slot i _ hd
    obtain ⟨u, hu⟩ : ∃ u, H p = some u := by
      exact o.there.some
    have hpA : p ∈ A i := by rw [e2]; simp
    have hF : F p = none := S.hid i p hpA
    have sF : Same F (upd F p u) := fun b x e => by rw [upd_ne (ne_of_none e hF)]; exact e
    have other : ∀ j a, j ≠ i → a ∈ A j → a ≠ p := fun j a c ha z => by subst z; exact c (S.dis j i _ ha hpA)
    refine ⟨upd F p u, uA A i [], sF, ⟨by rw [List.length_set]; exact S.len, fun j t e => ?_, fun j e => ?_, fun j k a h1 h2 => ?_, fun j a h1 => ?_, fun j a h1 h2 => ?_, fun b x e => ?_, fun j h1 => ?_, S.ioA, S.kp, fun a e n => ?_, S.f0.trans sF⟩⟩
    · by_cases c : j = i
      · subst c
        rw [List.getElem?_set_self hi] at e
        cases e
        rw [uA_same]
        exact ⟨rfl, _, e1, own_rp o sF (by rw [upd_same, hu])⟩
      · rw [List.getElem?_set_ne (Ne.symm c)] at e
        rw [uA_ne c]
        exact (S.slot j t e).mono sF fun _ _ => rfl
    · by_cases c : j = i
      · subst c
        rw [uA_same]
      · rw [List.getElem?_set_ne (Ne.symm c)] at e
        rw [uA_ne c]
        exact S.out j e
    · by_cases c : j = i
      · subst c
        rw [uA_same] at h1
        simp at h1
      · by_cases c2 : k = i
        · subst c2
          rw [uA_same] at h2
          simp at h2
        · rw [uA_ne c] at h1
          rw [uA_ne c2] at h2
          exact S.dis j k a h1 h2
    · by_cases c : j = i
      · subst c
        rw [uA_same] at h1
        simp at h1
      · rw [uA_ne c] at h1
        rw [upd_ne (other j a c h1)]
        exact S.hid j a h1
    · by_cases c : j = i
      · subst c
        rw [uA_same] at h1
        simp at h1
      · rw [uA_ne c] at h1
        exact S.new j a h1 h2
    · by_cases c : b = p
      · subst c
        rw [upd_same] at e
        cases e
        exact hu
      · rw [upd_ne c] at e
        exact S.sub _ _ e
    · have c : j ≠ i := fun z => by subst z; rw [hio] at h1; cases h1
      rw [uA_ne c]
      exact S.fix j h1
    · by_cases c : a = p
      · subst c
        exact S.new i a hpA hio
      · rw [upd_ne c] at n
        exact S.nw a e n
/-- an own dict is locked .. -/
theorem SR.lock (S : SR K Y F H δ σ A) {ds : List (D × D)} (hd : δ[i]? = some (.ow (.dict ds))) : ∃ p u, A i = [p] ∧ H p = some u ∧ Mut (some u) ∧ ∀ od, SR K Y F (upd H p (.frz od u)) (δ.set i (.lk ds)) σ A := by
  have hi : i < δ.length := (List.getElem?_eq_some_iff.mp hd).1
  obtain ⟨p, e1, e2, kvs, h1, h2⟩ := S.slot i _ hd
  have hpA : p ∈ A i := by rw [e2]; simp
  refine ⟨p, _, e2, h1, trivial, fun od => ?_⟩
  refine ⟨by rw [List.length_set]; exact S.len, fun j t e => ?_, fun j e => ?_, S.dis, S.hid, S.new, fun b x e => ?_, S.fix, S.ioA, fun a x e n => ?_, S.nw, S.f0⟩
  · by_cases c : j = i
    · subst c
      rw [List.getElem?_set_self hi] at e
      cases e
      exact ⟨p, e1, e2, od, kvs, upd_same, h2⟩
    · rw [List.getElem?_set_ne (Ne.symm c)] at e
      refine (S.slot j t e).mono (Same.refl _) fun a ha => upd_ne fun z => ?_
      subst z
      exact c (S.dis j i _ ha hpA)
  · by_cases c : j = i
    · subst c
      rw [List.getElem?_set_self hi] at e
      cases e
    · rw [List.getElem?_set_ne (Ne.symm c)] at e
      exact S.out j e
  · have q := S.sub b x e
    rw [upd_ne]
    · exact q
    · intro z
      subst z
      rw [S.hid i _ hpA] at e
      cases e
  · rw [upd_ne]
    · exact S.kp a x e n
    · intro z
      subst z
      cases hio : Y.io i with
      | false =>
        rw [S.new i _ hpA hio] at e
        cases e
      | true =>
        have := (S.fix i hio).2
        rw [this] at hpA
        exact n i hio hpA
/-- .. and unlocked -/
theorem SR.unlock (S : SR K Y F H δ σ A) {ds : List (D × D)} {p : Addr} {od : Obj} {u : HO} (hd : δ[i]? = some (.lk ds)) (hA : A i = [p]) (hu : H p = some (.frz od u)) : SR K Y F (upd H p u) (δ.set i (.ow (.dict ds))) σ A := by
  have hi : i < δ.length := (List.getElem?_eq_some_iff.mp hd).1
  obtain ⟨p', e1, e2, o', kvs, h1, h2⟩ := S.slot i _ hd
  have ep : p' = p := by
    rw [hA] at e2
    exact (List.cons.inj e2).1.symm
  subst ep
  have hpA : p' ∈ A i := by rw [hA]; simp
  rw [h1] at hu
  cases hu
  refine ⟨by rw [List.length_set]; exact S.len, fun j t e => ?_, fun j e => ?_, S.dis, S.hid, S.new, fun b x e => ?_, S.fix, S.ioA, fun a x e n => ?_, S.nw, S.f0⟩
  · by_cases c : j = i
    · subst c
      rw [List.getElem?_set_self hi] at e
      cases e
      exact ⟨p', e1, hA, kvs, upd_same, h2⟩
    · rw [List.getElem?_set_ne (Ne.symm c)] at e
      refine (S.slot j t e).mono (Same.refl _) fun a ha => upd_ne fun z => ?_
      subst z
      exact c (S.dis j i _ ha hpA)
  · by_cases c : j = i
    · subst c
      rw [List.getElem?_set_self hi] at e
      cases e
    · rw [List.getElem?_set_ne (Ne.symm c)] at e
      exact S.out j e
  · have q := S.sub b x e
    rw [upd_ne]
    · exact q
    · intro z
      subst z
      rw [S.hid i _ hpA] at e
      cases e
  · rw [upd_ne]
    · exact S.kp a x e n
    · intro z
      subst z
      cases hio : Y.io i with
      | false =>
        rw [S.new i _ hpA hio] at e
        cases e
      | true =>
        have := (S.fix i hio).2
        rw [this] at hpA
        exact n i hio hpA
/-- nothing more is known of a slot -/
theorem SR.wipe1 (S : SR K Y F H δ σ A) (hi : i < δ.length) (hio : Y.io i = false) : SR K Y F H (δ.set i .no) σ (uA A i []) := by
  have w := S.putNo (v := jn σ[i]?) hi hio
  have e : σ.set i (jn σ[i]?) = σ := by
    have hs : i < σ.length := by rw [← S.len]; exact hi
    apply List.ext_getElem?
    intro j
    by_cases c : j = i
    · subst c
      rw [List.getElem?_set_self hs, List.getElem?_eq_getElem hs]
      rfl
    · rw [List.getElem?_set_ne (Ne.symm c)]
  rwa [e] at w
end

/-! ### statements -/
inductive Out where
  | nx (δ : List Sl)
  | ct (δ : List Sl)
  | rt (d : D) (δ : List Sl)
/-- what is handed back -/
def RetR (K : PySem.W.Frag) (Y : Fx) (fr : Bool) (F H : Hp) (A : Nat → List Addr) (v : V) (d : D) : Prop :=
  match fr with
  | false => Rp K F v d
  | true => ∃ p, v = .ref p ∧ Y.H0 p = none ∧ F p = none ∧ (∀ i, Y.io i = true → p ∉ A i) ∧ OwnR K F H p d
def Post (K : PySem.W.Frag) (Y : Fx) (fr : Bool) (F : Hp) (D : Ends) : Out → Prop
  | .nx δ' => ∀ σ' F' H' A', Same F F' → SR K Y F' H' δ' σ' A' → D.nx σ' H'
  | .ct δ' => ∀ σ' F' H' A', Same F F' → SR K Y F' H' δ' σ' A' → D.ct σ' H'
  | .rt d δ' => ∀ v σ' F' H' A', Same F F' → SR K Y F' H' δ' σ' A' → RetR K Y fr F' H' A' v d → D.rt v H'
/-- the slots of io are not stored to -/
def SV (X : Cx) (io : Nat → Bool) (fr : Bool) (st : Stmt) (g : List Sl → Option Out) : Prop :=
  ∃ t, PS X st t ∧ ∀ (Y : Fx) (F H : Hp) (δ : List Sl) (σ : L2.St) (A : Nat → List Addr), Y.io = io → SR X.K Y F H δ σ A → ∀ (o : Out), g δ = some o → ∀ D : Ends, Post X.K Y fr F D o → t D σ H
def BV (X : Cx) (io : Nat → Bool) (fr : Bool) (st : List Stmt) (g : List Sl → Option Out) : Prop :=
  ∃ t, PSs X st t ∧ ∀ (Y : Fx) (F H : Hp) (δ : List Sl) (σ : L2.St) (A : Nat → List Addr), Y.io = io → SR X.K Y F H δ σ A → ∀ (o : Out), g δ = some o → ∀ D : Ends, Post X.K Y fr F D o → t D σ H
theorem Post.mono {K : PySem.W.Frag} {Y : Fx} {fr : Bool} {F F' : Hp} {D : Ends} {o : Out} (h : Post K Y fr F D o) (s : Same F F') : Post K Y fr F' D o := by
  cases o with
  | nx δ => exact fun σ' F1 H' A' s1 => h σ' F1 H' A' (s.trans s1)
  | ct δ => exact fun σ' F1 H' A' s1 => h σ' F1 H' A' (s.trans s1)
  | rt d δ => exact fun v σ' F1 H' A' s1 => h v σ' F1 H' A' (s.trans s1)
section
variable {X : Cx} {io : Nat → Bool} {fr : Bool} {st : Stmt} {rest : List Stmt} {pos : Pos} {g g' : List Sl → Option Out}
def sSeq (g g' : List Sl → Option Out) : List Sl → Option Out := fun δ => (g δ).bind fun o => match o with
  | .nx δ1 => g' δ1
  | .ct δ1 => some (.ct δ1)
  | .rt d δ1 => some (.rt d δ1)
def sNil : List Sl → Option Out := fun δ => some (.nx δ)
theorem bv_nil : BV X io fr [] sNil := by
  refine ⟨_, pss_nil, fun Y F H δ σ A _ S o e D k => ?_⟩
  cases e
  exact k σ F H A (Same.refl _) S
theorem bv_cons (h1 : SV X io fr st g) (h2 : BV X io fr rest g') : BV X io fr (st :: rest) (sSeq g g') := by
  obtain ⟨t, p, q⟩ := h1
  obtain ⟨t2, p2, q2⟩ := h2
  refine ⟨_, pss_cons p p2, fun Y F H δ σ A hY S o e D k => ?_⟩
  unfold sSeq at e
  cases e1 : g δ with
  | none => rw [e1] at e; cases e
  | some o1 =>
    rw [e1] at e
    refine q Y F H δ σ A hY S o1 e1 _ ?_
    cases o1 with
    | nx δ1 => exact fun σ' F' H' A' s S' => q2 Y F' H' δ1 σ' A' hY S' o e D (k.mono s)
    | ct δ1 => cases e; exact k
    | rt d δ1 => cases e; exact k
def sFrz (i : Nat) (g : List Sl → Option Out) : List Sl → Option Out := fun δ => g (frz i δ)
theorem sv_frz {i : Nat} (hio : io i = false) (h : SV X io fr st g) : SV X io fr st (sFrz i g) := by
  obtain ⟨t, p, q⟩ := h
  refine ⟨_, ps_alt p (ps_lock1 p), fun Y F H δ σ A hY S o e D k => ?_⟩
  have hio' : Y.io i = false := by rw [hY]; exact hio
  unfold sFrz Z.frz at e
  split at e
  · rename_i d hd
    by_cases c : ∃ ds, d = .dict ds
    · obtain ⟨ds, rfl⟩ := c
      obtain ⟨p, u, hA, hu, mu, w⟩ := S.lock hd
      refine .inr ⟨p, u, hu, mu, fun od => ?_⟩
      have hi : i < δ.length := (List.getElem?_eq_some_iff.mp hd).1
      obtain ⟨F', A', s, S'⟩ := (w od).frzK hio' (List.getElem?_set_self hi)
      rw [List.set_set] at S'
      exact q Y F' _ _ σ A' hY S' o e D (k.mono s)
    · obtain ⟨F', A', s, S'⟩ := S.frzL hio' hd fun ds z => c ⟨ds, z⟩
      exact .inl (q Y F' H _ σ A' hY S' o e D (k.mono s))
  · exact .inl (q Y F H _ σ A hY S o e D k)
/-- behind it nothing more is known of the slots vs -/
def wipeS (vs : List Nat) (δ : List Sl) : List Sl := vs.foldr (fun j δ => δ.set j .no) δ
theorem SR.wipeAll {K : PySem.W.Frag} {Y : Fx} {F H : Hp} {σ : L2.St} : ∀ {vs : List Nat} {δ : List Sl} {A : Nat → List Addr}, SR K Y F H δ σ A → (∀ i ∈ vs, Y.io i = false) → ∃ A', SR K Y F H (wipeS vs δ) σ A'
  | [], δ, A, S, _ => ⟨A, S⟩
  | i :: vs, δ, A, S, h => by
    obtain ⟨A', S'⟩ := SR.wipeAll (vs := vs) S fun j hj => h j (List.mem_cons_of_mem _ hj)
    by_cases c : i < (wipeS vs δ).length
    · exact ⟨_, S'.wipe1 c (h i List.mem_cons_self)⟩
    · refine ⟨A', ?_⟩
      show SR K Y F H ((wipeS vs δ).set i .no) σ A'
      rw [List.set_eq_of_length_le (by omega)]
      exact S'
def sWip (vs : List Nat) (g : List Sl → Option Out) : List Sl → Option Out := fun δ => g (wipeS vs δ)
theorem sv_wip {vs : List Nat} (hio : vs.all (fun i => !io i) = true) (h : SV X io fr st g) : SV X io fr st (sWip vs g) := by
  obtain ⟨t, p, q⟩ := h
  refine ⟨_, p, fun Y F H δ σ A hY S o e D k => ?_⟩
  obtain ⟨A', S'⟩ := S.wipeAll (vs := vs) fun i hi => by
    rw [hY]
    have := List.all_eq_true.mp hio i hi
    simpa using this
  exact q Y F H _ σ A' hY S' o e D k
def sNilW (vs : List Nat) : List Sl → Option Out := fun δ => some (.nx (wipeS vs δ))
def sContW (vs : List Nat) : List Sl → Option Out := fun δ => some (.ct (wipeS vs δ))
theorem bv_wip {vs : List Nat} {sts : List Stmt} (hio : vs.all (fun i => !io i) = true) (h : BV X io fr sts g) : BV X io fr sts (sWip vs g) := by
  obtain ⟨t, p, q⟩ := h
  refine ⟨_, p, fun Y F H δ σ A hY S o e D k => ?_⟩
  obtain ⟨A', S'⟩ := S.wipeAll (vs := vs) fun i hi => by
    rw [hY]
    have := List.all_eq_true.mp hio i hi
    simpa using this
  exact q Y F H _ σ A' hY S' o e D k
theorem bv_nilw {vs : List Nat} (hio : vs.all (fun i => !io i) = true) : BV X io fr [] (sNilW vs) := by
  refine ⟨_, pss_nil, fun Y F H δ σ A hY S o e D k => ?_⟩
  obtain ⟨A', S'⟩ := S.wipeAll (vs := vs) fun i hi => by
    rw [hY]
    have := List.all_eq_true.mp hio i hi
    simpa using this
  cases e
  exact k σ F H A' (Same.refl _) S'
/-! x = e -/
def sSet (i : Nat) (f : List Sl → Option (D × List Sl)) : List Sl → Option Out := fun δ => (f δ).bind fun p => if i < p.2.length then some (.nx (p.2.set i (.fz p.1))) else none
def sOwn (i : Nat) (f : List Sl → Option (D × List Sl)) : List Sl → Option Out := fun δ => (f δ).bind fun p => if i < p.2.length then some (.nx (p.2.set i (.ow p.1))) else none
structure Tg (X : Cx) (i : Nat) (x : Str) : Prop where
  nd : X.N.Nodup
  at_ : X.N[i]? = some x
  loc : Loc X.env.scope x
  fn : X.fn x = true ∨ X.env.scope.names.lookup x = some .local
theorem sv_set {i : Nat} {x : Str} {e : Expr} {f} {M : List Nat} {pos' : Pos} (hio : io i = false) (T : Tg X i x) (h : EV X e f [] M) (hs : swapsWith e (some (.Name x pos')) pos.line X.env = pure false := by rfl) : SV X io fr (.Assign [.Name x pos'] e pos) (sSet i f) := by
  obtain ⟨t, p, q⟩ := h
  refine ⟨_, ps_set T.nd T.at_ T.loc p hs T.fn, fun Y F H δ σ A hY S o e D k => ?_⟩
  unfold sSet at e
  cases e1 : f δ with
  | none => rw [e1] at e; cases e
  | some p =>
    obtain ⟨d, δ1⟩ := p
    rw [e1] at e
    simp only [Option.bind_some] at e
    split at e
    · rename_i hi
      cases e
      refine q Y F H δ σ A S d δ1 e1 _ fun v F1 H1 st S1 r => ?_
      exact k _ F1 H1 _ st.f (S1.putFz hi (by rw [hY]; exact hio) r.nil)
    · cases e
theorem sv_own {i : Nat} {x : Str} {e : Expr} {f} {M : List Nat} {pos' : Pos} (hio : io i = false) (T : Tg X i x) (h : NV X e f M) (hs : swapsWith e (some (.Name x pos')) pos.line X.env = pure false := by rfl) : SV X io fr (.Assign [.Name x pos'] e pos) (sOwn i f) := by
  obtain ⟨t, p, q⟩ := h
  refine ⟨_, ps_set T.nd T.at_ T.loc p hs T.fn, fun Y F H δ σ A hY S o e D k => ?_⟩
  unfold sOwn at e
  cases e1 : f δ with
  | none => rw [e1] at e; cases e
  | some p =>
    obtain ⟨d, δ1⟩ := p
    rw [e1] at e
    simp only [Option.bind_some] at e
    split at e
    · rename_i hi
      cases e
      refine q Y F H δ σ A S d δ1 e1 _ fun p F1 H1 st S1 n hF r => ?_
      exact k _ F1 H1 _ st.f (S1.putOw hi (by rw [hY]; exact hio) (S.fresh0 n) hF (fun j hj => S.isSome hj n) r)
    · cases e
/-! return e, an expression alone, continue, if -/
def sRet (f : List Sl → Option (D × List Sl)) : List Sl → Option Out := fun δ => (f δ).map fun p => .rt p.1 p.2
theorem sv_ret {e : Expr} {f} {M : List Nat} (h : EV X e f [] M) : SV X io false (.Return (some e) pos) (sRet f) := by
  obtain ⟨t, p, q⟩ := h
  refine ⟨_, ps_ret p, fun Y F H δ σ A hY S o e D k => ?_⟩
  unfold sRet at e
  cases e1 : f δ with
  | none => rw [e1] at e; cases e
  | some p =>
    obtain ⟨d, δ1⟩ := p
    rw [e1] at e
    cases e
    exact q Y F H δ σ A S d δ1 e1 _ fun v F1 H1 st S1 r => k v σ F1 H1 A st.f S1 r.nil
theorem sv_retN {e : Expr} {f} {M : List Nat} (h : NV X e f M) : SV X io true (.Return (some e) pos) (sRet f) := by
  obtain ⟨t, p, q⟩ := h
  refine ⟨_, ps_ret p, fun Y F H δ σ A hY S o e D k => ?_⟩
  unfold sRet at e
  cases e1 : f δ with
  | none => rw [e1] at e; cases e
  | some p =>
    obtain ⟨d, δ1⟩ := p
    rw [e1] at e
    cases e
    exact q Y F H δ σ A S d δ1 e1 _ fun p F1 H1 st S1 n hF r => k _ σ F1 H1 A st.f S1 ⟨p, rfl, S.fresh0 n, hF, fun i _ z => S.isSome z n, r⟩
/-- return x, x the frame's own -/
def sRetV (i : Nat) : List Sl → Option Out := fun δ => match δ[i]? with
  | some (.ow d) => some (.rt d δ)
  | _ => none
theorem sv_retV {i : Nat} {x : Str} {p' : Pos} (hio : io i = false) (hN : X.N[i]? = some x) (hv : Vis X.env.scope x) (h1 : (x == ("__debug__" : Str)) = false) (h2 : (x == ("__classdict__" : Str)) = false) : SV X io true (.Return (some (.Name x p')) pos) (sRetV i) := by
  refine ⟨_, ps_ret (pe_var hN hv h1 h2), fun Y F H δ σ A hY S o e D k => ?_⟩
  unfold sRetV at e
  split at e
  · rename_i d hd
    cases e
    obtain ⟨p, e2, e3, r⟩ := S.slot i _ hd
    have hp : p ∈ A i := by rw [e3]; simp
    refine ⟨_, jn_some e2, k _ σ F H A (Same.refl _) S ⟨p, rfl, S.new i p hp (by rw [hY]; exact hio), S.hid i p hp, fun j hj z => ?_, r⟩⟩
    have := S.dis i j p hp z
    subst this
    rw [hY, hio] at hj
    cases hj
  · cases e
def sExp (f : List Sl → Option (D × List Sl)) : List Sl → Option Out := fun δ => (f δ).map fun p => .nx p.2
theorem sv_exp {e : Expr} {f} {R M : List Nat} (h : EV X e f R M) (hs : swapsWith e none pos.line X.env = pure false := by rfl) : SV X io fr (.Expr e pos) (sExp f) := by
  obtain ⟨t, p, q⟩ := h
  refine ⟨_, ps_expr p hs, fun Y F H δ σ A hY S o e D k => ?_⟩
  unfold sExp at e
  cases e1 : f δ with
  | none => rw [e1] at e; cases e
  | some p =>
    obtain ⟨d, δ1⟩ := p
    rw [e1] at e
    cases e
    exact q Y F H δ σ A S d δ1 e1 _ fun v F1 H1 st S1 r => k σ F1 H1 A st.f S1
def sCont : List Sl → Option Out := fun δ => some (.ct δ)
theorem sv_cont : SV X io fr (.Continue pos) sCont := by
  refine ⟨_, ps_continue, fun Y F H δ σ A hY S o e D k => ?_⟩
  cases e
  exact k σ F H A (Same.refl _) S
theorem sv_contw {vs : List Nat} (hio : vs.all (fun i => !io i) = true) : SV X io fr (.Continue pos) (sContW vs) := by
  refine ⟨_, ps_continue, fun Y F H δ σ A hY S o e D k => ?_⟩
  obtain ⟨A', S'⟩ := S.wipeAll (vs := vs) fun i hi => by
    rw [hY]
    have := List.all_eq_true.mp hio i hi
    simpa using this
  cases e
  exact k σ F H A' (Same.refl _) S'
theorem sv_pass : SV X io fr (.Pass pos) sNil := by
  refine ⟨_, ps_pass, fun Y F H δ σ A hY S o e D k => ?_⟩
  cases e
  exact k σ F H A (Same.refl _) S
def sIf (c : List Sl → Option (Bool × List Sl)) (g g' : List Sl → Option Out) : List Sl → Option Out := fun δ => (c δ).bind fun p => match p.1 with | true => g p.2 | false => g' p.2
theorem sv_if {c : Expr} {a b : List Stmt} {gc} {M : List Nat} (hc : TV X c gc M) (ha : BV X io fr a g) (hb : BV X io fr b g') : SV X io fr (.If c a b pos) (sIf gc g g') := by
  obtain ⟨t, p, q⟩ := hc
  obtain ⟨ta, pa, qa⟩ := ha
  obtain ⟨tb, pb, qb⟩ := hb
  refine ⟨_, ps_if p pa pb, fun Y F H δ σ A hY S o e D k => ?_⟩
  unfold sIf at e
  cases e1 : gc δ with
  | none => rw [e1] at e; cases e
  | some p =>
    obtain ⟨b1, δ1⟩ := p
    rw [e1] at e
    refine q Y F H δ σ A S b1 δ1 e1 _ fun F1 H1 st S1 => ?_
    cases b1 with
    | true => exact iteT (qa Y F1 H1 δ1 σ A hY S1 o e D (k.mono st.f))
    | false => exact iteF (qb Y F1 H1 δ1 σ A hY S1 o e D (k.mono st.f))
end
end Z

/-! Z8: what a frame's own lists and dicts go through. -/
namespace Z
open PySem PySem.Spec PyProof.Rows L2
section
variable {X : Cx} {pos : Pos}
/-- what the call of a method asks of the text -/
structure Mc (X : Cx) (o : Expr) (name : Str) (apos : Pos) (e : Expr) (es : List Expr) (cpos : Pos) : Prop where
  base : attributeBase o name X.env (eval o X.env) = eval o X.env
  few : ((backTo cpos (starEach (e :: es) X.env)).all (fun x => !x.1) && (backToKw cpos (keywordEach [] X.env)).all (fun x => x.1.isSome) && decide ((e :: es).length + ([] : List Keyword).length + (if ([] : List Keyword).isEmpty then 0 else 1) < 30)) = true
  line : (apos.endLine == cpos.line) = true
  star : starEach (e :: es) X.env = (false, eval e X.env) :: starEach es X.env
  plain : (backTo cpos (starEach es X.env)).any (·.1) = false
structure Mc0 (X : Cx) (o : Expr) (name : Str) (apos : Pos) (cpos : Pos) : Prop where
  base : attributeBase o name X.env (eval o X.env) = eval o X.env
  line : (apos.endLine == cpos.line) = true
/-- a name of the def that is read -/
structure Nm (X : Cx) (i : Nat) (x : Str) : Prop where
  at_ : X.N[i]? = some x
  vis : Vis X.env.scope x
  db : (x == ("__debug__" : Str)) = false
  cd : (x == ("__classdict__" : Str)) = false
theorem Nm.pe {i : Nat} {x : Str} (n : Nm X i x) : PE X (.Name x pos) (tVar i) := pe_var n.at_ n.vis n.db n.cd

def ownL (i : Nat) (δ : List Sl) : Option (List D) := match δ[i]? with
  | some (.ow (.list ds)) => some ds
  | _ => none
theorem ownL_some {i : Nat} {δ : List Sl} {ds : List D} (h : ownL i δ = some ds) : δ[i]? = some (.ow (.list ds)) := by
  unfold ownL at h
  split at h
  · rename_i e; cases h; exact e
  · cases h
theorem SR.ownL {K : PySem.W.Frag} {Y : Fx} {F H : Hp} {δ : List Sl} {σ : L2.St} {A : Nat → List Addr} {i : Nat} {ds : List D} (S : SR K Y F H δ σ A) (h : Z.ownL i δ = some ds) : ∃ p xs, σ[i]? = some (some (.ref p)) ∧ A i = [p] ∧ H p = some (.lst xs) ∧ Rps K F xs ds := by
  obtain ⟨p, e1, e2, xs, h1, h2⟩ := S.slot i _ (ownL_some h)
  exact ⟨p, xs, jn_some e1, e2, h1, h2⟩
/-- x.append(e) -/
def fApp (i : Nat) (f : List Sl → Option (D × List Sl)) : List Sl → Option (D × List Sl) := fun δ => (ownL i δ).bind fun _ => (f δ).bind fun p => (ownL i p.2).bind fun ds => if ds.length < sizeLine then some (.none, p.2.set i (.ow (.list (ds ++ [p.1])))) else none
theorem tyL {K : PySem.W.Frag} {H : Hp} {p : Addr} {xs : List V} (h : H p = some (.lst xs)) : tyV K "list" (.ref p) H := .inl ⟨rfl, xs, SqL.of h⟩
theorem ev_app {i : Nat} {x : Str} {e : Expr} {f} {M : List Nat} {p1 apos : Pos} (n : Nm X i x) (h : EV X e f [] M) (m : Mc X (.Name x p1) "append" apos e [] pos) : EV X (.Call (.Attribute (.Name x p1) "append" apos) [e] [] pos) (fApp i f) [] (i :: M) := by
  obtain ⟨t, p, q⟩ := h
  refine ⟨_, pe_bm PySem.F.plainAttrs_list PySem.F.slot_list_append PySem.F.type_list_append mt_append n.pe (pa_cons p pa_nil m.star) m.base m.few m.line m.star m.plain, fun Y F H δ σ A S z δ' e Q k => ?_⟩
  unfold fApp at e
  cases e0 : ownL i δ with
  | none => rw [e0] at e; cases e
  | some ds0 =>
    rw [e0] at e
    simp only [Option.bind_some] at e
    cases e1 : f δ with
    | none => rw [e1] at e; cases e
    | some w =>
      obtain ⟨d, δ1⟩ := w
      rw [e1] at e
      simp only [Option.bind_some] at e
      cases e2 : ownL i δ1 with
      | none => rw [e2] at e; cases e
      | some ds =>
        rw [e2] at e
        simp only [Option.bind_some] at e
        split at e
        · rename_i hz
          cases e
          obtain ⟨a, ys, s1, _, s2, _⟩ := S.ownL e0
          refine ⟨.ref a, s1, tyL s2, ?_⟩
          refine q Y F H δ σ A S d δ1 e1 _ fun v F1 H1 st S1 r => ?_
          obtain ⟨b, xs, s3, s4, s5, s6⟩ := S1.ownL e2
          have : b = a := by
            rw [s1] at s3
            cases s3
            rfl
          subst this
          refine ⟨b, xs, v, rfl, rfl, s5, by rw [s6.length]; exact hz, ?_⟩
          have hO : OwnR X.K F1 (upd H1 b (.lst (xs ++ [v]))) b (.list (ds ++ [d])) := ⟨_, upd_same, s6.append (.cons r.nil .nil)⟩
          refine k _ F1 _ ?_ (S1.chg (ownL_some e2) s4 hO) (.inl .non)
          exact ((st.mono (fun j hj => List.mem_cons_of_mem i hj)).trans S1 (Stp.chg (i := i) (M := [i]) (by simp) (by rw [s4]; simp))).mono fun j hj => by
            rcases List.mem_append.mp hj with z | z
            · exact z
            · simp at z; subst z; exact List.mem_cons_self
        · cases e
/-- x.extend(e) -/
def fExt (i : Nat) (f : List Sl → Option (D × List Sl)) : List Sl → Option (D × List Sl) := fun δ => (ownL i δ).bind fun _ => (f δ).bind fun p => match p.1 with
  | .list es => (ownL i p.2).bind fun ds => if ds.length + es.length ≤ sizeLine then some (.none, p.2.set i (.ow (.list (ds ++ es)))) else none
  | _ => none
theorem ev_ext {i : Nat} {x : Str} {e : Expr} {f} {R M : List Nat} {p1 apos : Pos} (n : Nm X i x) (h : EV X e f R M) (m : Mc X (.Name x p1) "extend" apos e [] pos) : EV X (.Call (.Attribute (.Name x p1) "extend" apos) [e] [] pos) (fExt i f) [] (i :: M) := by
  obtain ⟨t, p, q⟩ := h
  refine ⟨_, pe_bm PySem.F.plainAttrs_list PySem.F.slot_list_extend PySem.F.type_list_extend mt_extend n.pe (pa_cons p pa_nil m.star) m.base m.few m.line m.star m.plain, fun Y F H δ σ A S z δ' e Q k => ?_⟩
  unfold fExt at e
  cases e0 : ownL i δ with
  | none => rw [e0] at e; cases e
  | some ds0 =>
    rw [e0] at e
    simp only [Option.bind_some] at e
    cases e1 : f δ with
    | none => rw [e1] at e; cases e
    | some w =>
      obtain ⟨d, δ1⟩ := w
      rw [e1] at e
      simp only [Option.bind_some] at e
      split at e
      · rename_i es
        cases e2 : ownL i δ1 with
        | none => rw [e2] at e; cases e
        | some ds =>
          rw [e2] at e
          simp only [Option.bind_some] at e
          split at e
          · rename_i hz
            cases e
            obtain ⟨a, ys, s1, _, s2, _⟩ := S.ownL e0
            refine ⟨.ref a, s1, tyL s2, ?_⟩
            refine q Y F H δ σ A S _ δ1 e1 _ fun v F1 H1 st S1 r => ?_
            obtain ⟨c, zs, rfl, h1, h2⟩ := r.list S1
            obtain ⟨b, xs, s3, s4, s5, s6⟩ := S1.ownL e2
            have : b = a := by
              rw [s1] at s3
              cases s3
              rfl
            subst this
            refine ⟨b, c, xs, zs, rfl, rfl, s5, h1, by rw [s6.length, h2.length]; exact hz, ?_⟩
            have hO : OwnR X.K F1 (upd H1 b (.lst (xs ++ zs))) b (.list (ds ++ es)) := ⟨_, upd_same, s6.append h2⟩
            refine k _ F1 _ ?_ (S1.chg (ownL_some e2) s4 hO) (.inl .non)
            exact ((st.mono (fun j hj => List.mem_cons_of_mem i hj)).trans S1 (Stp.chg (i := i) (M := [i]) (by simp) (by rw [s4]; simp))).mono fun j hj => by
              rcases List.mem_append.mp hj with z | z
              · exact z
              · simp at z; subst z; exact List.mem_cons_self
          · cases e
      · cases e
/-- x.pop() -/
def fPop (i : Nat) : List Sl → Option (D × List Sl) := fun δ => (ownL i δ).bind fun ds => (ds[ds.length - 1]?).map fun d => (d, δ.set i (.ow (.list ds.dropLast)))
theorem Rps.dropLast {K : PySem.W.Frag} {G : Hp} {xs : List V} {ds : List D} (h : Rps K G xs ds) : Rps K G xs.dropLast ds.dropLast := by
  rw [List.dropLast_eq_take, List.dropLast_eq_take, h.length]
  exact h.take _
theorem ev_pop {i : Nat} {x : Str} {p1 apos : Pos} (n : Nm X i x) (m : Mc0 X (.Name x p1) "pop" apos pos) : EV X (.Call (.Attribute (.Name x p1) "pop" apos) [] [] pos) (fPop i) [] [i] := by
  refine ⟨_, pe_bm0 PySem.F.plainAttrs_list PySem.F.slot_list_pop PySem.F.type_list_pop mt_pop n.pe m.base m.line, fun Y F H δ σ A S z δ' e Q k => ?_⟩
  unfold fPop at e
  cases e0 : ownL i δ with
  | none => rw [e0] at e; cases e
  | some ds =>
    rw [e0] at e
    simp only [Option.bind_some] at e
    cases e1 : ds[ds.length - 1]? with
    | none => rw [e1] at e; cases e
    | some d =>
      rw [e1] at e
      cases e
      obtain ⟨a, xs, s1, s4, s2, s6⟩ := S.ownL e0
      obtain ⟨v, v1, v2⟩ := s6.get e1
      refine ⟨.ref a, s1, tyL s2, a, xs, v, rfl, rfl, s2, by rw [s6.length]; exact v1, ?_⟩
      exact k v F _ (Stp.chg (i := i) (by simp) (by rw [s4]; simp)) (S.chg (ownL_some e0) s4 ⟨_, upd_same, s6.dropLast⟩) (.inl v2)
/-- x.pop(e) -/
def fPopAt (i : Nat) (f : List Sl → Option (D × List Sl)) : List Sl → Option (D × List Sl) := fun δ => (ownL i δ).bind fun _ => (f δ).bind fun p => match p.1 with
  | .int n => (ownL i p.2).bind fun ds => if 0 ≤ n ∧ ds.length ≤ sizeLine then (ds[n.toNat]?).map fun d => (d, p.2.set i (.ow (.list (ds.eraseIdx n.toNat)))) else none
  | _ => none
theorem ev_popAt {i : Nat} {x : Str} {e : Expr} {f} {R M : List Nat} {p1 apos : Pos} (n : Nm X i x) (h : EV X e f R M) (m : Mc X (.Name x p1) "pop" apos e [] pos) : EV X (.Call (.Attribute (.Name x p1) "pop" apos) [e] [] pos) (fPopAt i f) [] (i :: M) := by
  obtain ⟨t, p, q⟩ := h
  refine ⟨_, pe_bm PySem.F.plainAttrs_list PySem.F.slot_list_pop PySem.F.type_list_pop mt_popAt n.pe (pa_cons p pa_nil m.star) m.base m.few m.line m.star m.plain, fun Y F H δ σ A S z δ' e Q k => ?_⟩
  unfold fPopAt at e
  cases e0 : ownL i δ with
  | none => rw [e0] at e; cases e
  | some ds0 =>
    rw [e0] at e
    simp only [Option.bind_some] at e
    cases e1 : f δ with
    | none => rw [e1] at e; cases e
    | some w =>
      obtain ⟨d, δ1⟩ := w
      rw [e1] at e
      simp only [Option.bind_some] at e
      split at e
      · rename_i nn
        cases e2 : ownL i δ1 with
        | none => rw [e2] at e; cases e
        | some ds =>
          rw [e2] at e
          simp only [Option.bind_some] at e
          split at e
          · rename_i hz
            cases e3 : ds[nn.toNat]? with
            | none => rw [e3] at e; cases e
            | some dd =>
              rw [e3] at e
              cases e
              obtain ⟨a, ys, s1, _, s2, _⟩ := S.ownL e0
              refine ⟨.ref a, s1, tyL s2, ?_⟩
              refine q Y F H δ σ A S _ δ1 e1 _ fun v F1 H1 st S1 r => ?_
              obtain ⟨b, xs, s3, s4, s5, s6⟩ := S1.ownL e2
              have : b = a := by
                rw [s1] at s3
                cases s3
                rfl
              subst this
              obtain ⟨v0, v1, v2⟩ := s6.get e3
              have hlt : nn.toNat < ds.length := (List.getElem?_eq_some_iff.mp e3).1
              have hsz := sizeLine_eq
              refine ⟨b, xs, nn, nn.toNat, v0, rfl, by rw [r.int], s5, by omega, by omega, ?_, v1, ?_⟩
              · rw [s6.length]
                exact seqIndex_of hz.1 (by omega)
              · have hO : OwnR X.K F1 (upd H1 b (.lst (xs.eraseIdx nn.toNat))) b (.list (ds.eraseIdx nn.toNat)) := ⟨_, upd_same, s6.eraseIdx _⟩
                refine k _ F1 _ ?_ (S1.chg (ownL_some e2) s4 hO) (.inl v2)
                exact ((st.mono (fun j hj => List.mem_cons_of_mem i hj)).trans S1 (Stp.chg (i := i) (M := [i]) (by simp) (by rw [s4]; simp))).mono fun j hj => by
                  rcases List.mem_append.mp hj with z | z
                  · exact z
                  · simp at z; subst z; exact List.mem_cons_self
          · cases e
      · cases e

/-! ### x[i] = e -/
def dput (ds : List (D × D)) (k : Key) (d : D) : List (D × D) := if ds.any (fun p => decide (keyOf p.1 = some k)) then ds.map (fun p => if keyOf p.1 = some k then (p.1, d) else p) else ds ++ [(keyD k, d)]
theorem RpK.length {K : PySem.W.Frag} {G : Hp} : ∀ {kvs : List (Key × V)} {ds : List (D × D)}, RpK K G kvs ds → kvs.length = ds.length
  | _, _, .nil => rfl
  | _, _, .cons _ r => congrArg (· + 1) r.length
theorem RpK.append {K : PySem.W.Frag} {G : Hp} : ∀ {kvs lws : List (Key × V)} {ds es : List (D × D)}, RpK K G kvs ds → RpK K G lws es → RpK K G (kvs ++ lws) (ds ++ es)
  | _, _, _, _, .nil, s => s
  | _, _, _, _, .cons h r, s => .cons h (r.append s)
theorem RpK.any {K : PySem.W.Frag} {G : Hp} (k : Key) : ∀ {kvs : List (Key × V)} {ds : List (D × D)}, RpK K G kvs ds → (kvs.any fun kv => decide (kv.1 = k)) = ds.any fun p => decide (keyOf p.1 = some k)
  | _, _, .nil => rfl
  | _, _, .cons (k := k0) h r => by
    rw [List.any_cons, List.any_cons, r.any k, keyOf_keyD]
    by_cases e : k0 = k <;> simp [e]
theorem RpK.repl {K : PySem.W.Frag} {G : Hp} (k : Key) {v : V} {d : D} (hv : Rp K G v d) : ∀ {kvs : List (Key × V)} {ds : List (D × D)}, RpK K G kvs ds → RpK K G (kvs.map fun kv => if kv.1 = k then (kv.1, v) else kv) (ds.map fun p => if keyOf p.1 = some k then (p.1, d) else p)
  | _, _, .nil => .nil
  | _, _, .cons (k := k0) h r => by
    rw [List.map_cons, List.map_cons]
    simp only [keyOf_keyD]
    by_cases e : k0 = k
    · rw [if_pos e, if_pos (congrArg some e)]
      exact .cons hv (r.repl k hv)
    · rw [if_neg e, if_neg fun z => e (Option.some.inj z)]
      exact .cons h (r.repl k hv)
theorem RpK.put {K : PySem.W.Frag} {G : Hp} {kvs : List (Key × V)} {ds : List (D × D)} (k : Key) {v : V} {d : D} (h : RpK K G kvs ds) (hv : Rp K G v d) : RpK K G (putK kvs k v) (dput ds k d) := by
  unfold putK dput
  rw [← h.any k]
  split
  · exact h.repl k hv
  · exact h.append (.cons hv .nil)
def setD (d k v : D) : Option D := match d with
  | .list ds => match k with
    | .int i => (ixN ds.length i).map fun j => .list (ds.set j v)
    | _ => none
  | .dict ds => (keyOf k).bind fun k => if ds.length < sizeLine then some (.dict (dput ds k v)) else none
  | _ => none
def rSet2 : TSet := fun o i v H Q => rSetL o i v H Q ∨ ∃ a H', o = .ref a ∧ DPut H a i v H' ∧ Q H'
theorem set_2 (hu : X.A.units + 1 < cLine) : PSet X rSet2 := by
  intro pins s σ H o i v ov iv u Q I ro ri rv h
  rcases h with h | ⟨a, H', rfl, g, q⟩
  · exact set_list pins s σ H o i v ov iv u Q I ro ri rv h
  · cases ro
    exact d_setItem hu I g ri rv fun s' I' => ⟨H', I', q⟩
theorem setD_own {K : PySem.W.Frag} {Y : Fx} {F H : Hp} {δ : List Sl} {σ : L2.St} {A : Nat → List Addr} {p : Addr} {d k v d' : D} {y z : V} (S : SR K Y F H δ σ A) (o : OwnR K F H p d) (ry : Rp K F y k ∨ ∃ R, Vw K F H A R y k) (rz : Rp K F z v) (h : setD d k v = some d') :
    ∃ u, OwnR K F (upd H p u) p d' ∧ ∀ Q : Hp → Prop, Q (upd H p u) → rSet2 (.ref p) y z H Q := by
  have ek : ∀ kk, keyOf k = some kk → y = kV kk := fun kk e => by
    rcases ry with r | ⟨R, r⟩
    · exact rp_key e r
    · exact rp_key e (r.ex S)
  have ei : ∀ i, k = .int i → y = .int i := fun i e => by
    subst e
    exact ek (.inl i) rfl
  unfold setD at h
  split at h
  · rename_i ds
    obtain ⟨xs, h1, r1⟩ := o
    split at h
    · rename_i i
      cases e1 : ixN ds.length i with
      | none => rw [e1] at h; cases h
      | some j =>
        rw [e1] at h
        cases h
        refine ⟨.lst (xs.set j z), ⟨_, upd_same, r1.set j rz⟩, fun Q q => .inl ⟨p, xs, i, j, rfl, ei i rfl, h1, by rw [r1.length]; exact e1, q⟩⟩
    · cases h
  · rename_i ds
    obtain ⟨kvs, h1, r1⟩ := o
    cases e1 : keyOf k with
    | none => rw [e1] at h; cases h
    | some kk =>
      rw [e1] at h
      simp only [Option.bind_some] at h
      split at h
      · rename_i hz
        cases h
        have := ek kk e1
        subst this
        exact ⟨.dK (putK kvs kk z), ⟨_, upd_same, r1.put kk rz⟩, fun Q q => .inr ⟨p, _, rfl, DPut.k h1 (by rw [r1.length]; exact hz), q⟩⟩
      · cases h
  · cases h
def ownD (i : Nat) (δ : List Sl) : Option D := match δ[i]? with
  | some (.ow d) => some d
  | _ => none
theorem ownD_some {i : Nat} {δ : List Sl} {d : D} (h : ownD i δ = some d) : δ[i]? = some (.ow d) := by
  unfold ownD at h
  split at h
  · rename_i e; cases h; exact e
  · cases h
def sPut (i : Nat) (fk fv : List Sl → Option (D × List Sl)) : List Sl → Option Out := fun δ => (fv δ).bind fun p => (ownD i p.2).bind fun _ => (fk p.2).bind fun q => (ownD i q.2).bind fun d => (setD d q.1 p.1).map fun d' => .nx (q.2.set i (.ow d'))
/-- what the statement asks of the text -/
structure Pc (X : Cx) (o i : Expr) (v : Expr) (tpos : Pos) (line : Nat) : Prop where
  sw : swapsWithSole [.Subscript o i tpos] v line X.env = pure false
  st : swappedStores [.Subscript o i tpos] v X.env = pure none
  ea : (assignEach [.Subscript o i tpos] X.env).map (·.2) = [assign (.Subscript o i tpos) X.env]
  as : ∀ u, assign (.Subscript o i tpos) X.env u = (do
      let ov ← holding [u] (eval o X.env)
      let iv ← holding [u, ov] (eval i X.env)
      standAt tpos
      holding [u, ov, iv] (setItem ov iv u)
      release [u, ov, iv] [])
theorem sv_put {io : Nat → Bool} {fr : Bool} {i : Nat} {x : Str} {ek v : Expr} {fk fv} {Rk Mk Mv : List Nat} {p1 tpos : Pos} (hu : X.A.units + 1 < cLine) (n : Nm X i x) (hk : EV X ek fk Rk Mk) (hv : EV X v fv [] Mv) (c : Pc X (.Name x p1) ek v tpos pos.line) :
    SV X io fr (.Assign [.Subscript (.Name x p1) ek tpos] v pos) (sPut i fk fv) := by
  obtain ⟨tk, pk, qk⟩ := hk
  obtain ⟨tv, pv, qv⟩ := hv
  refine ⟨_, ps_asg pv (pg_sub n.pe pk (set_2 hu) c.as) c.sw c.st c.ea, fun Y F H δ σ A hY S o e D k => ?_⟩
  unfold sPut at e
  cases e1 : fv δ with
  | none => rw [e1] at e; cases e
  | some w =>
    obtain ⟨d, δ1⟩ := w
    rw [e1] at e
    simp only [Option.bind_some] at e
    cases e2 : ownD i δ1 with
    | none => rw [e2] at e; cases e
    | some d0 =>
      rw [e2] at e
      simp only [Option.bind_some] at e
      cases e3 : fk δ1 with
      | none => rw [e3] at e; cases e
      | some w =>
        obtain ⟨dk, δ2⟩ := w
        rw [e3] at e
        simp only [Option.bind_some] at e
        cases e4 : ownD i δ2 with
        | none => rw [e4] at e; cases e
        | some d1 =>
          rw [e4] at e
          simp only [Option.bind_some] at e
          cases e5 : setD d1 dk d with
          | none => rw [e5] at e; cases e
          | some d' =>
            rw [e5] at e
            cases e
            refine qv Y F H δ σ A S d δ1 e1 _ fun z F1 H1 st1 S1 r1 => ?_
            obtain ⟨a, s1, _, _⟩ := S1.slot i _ (ownD_some e2)
            refine ⟨.ref a, jn_some s1, ?_⟩
            refine qk Y F1 H1 δ1 σ A S1 dk δ2 e3 _ fun y F2 H2 st2 S2 r2 => ?_
            obtain ⟨b, s3, s4, s5⟩ := S2.slot i _ (ownD_some e4)
            have : b = a := by
              rw [s1] at s3
              cases s3
              rfl
            subst this
            obtain ⟨u, o2, go⟩ := setD_own S2 s5 (.inr ⟨_, r2⟩) (r1.nil.mono st2.f) e5
            exact go _ (k σ F2 _ A (st1.f.trans st2.f) (S2.chg (ownD_some e4) s4 o2))
end
end Z

/-! Z9: targets, what is walked, for, while. -/
namespace Z
open PySem PySem.Spec PyProof.Rows L2
/-! ### targets -/
inductive Tt where
  | nm (i : Nat)
  | nil
  | cons (a b : Tt)
mutual
/-- a target takes a datum -/
def bindT : Tt → D → List Sl → Option (List Sl)
  | .nm i, d, δ => if i < δ.length then some (δ.set i (.fz d)) else none
  | .nil, d, δ => match d with
    | .tuple ds => bindTs .nil ds δ
    | _ => none
  | .cons a b, d, δ => match d with
    | .tuple ds => bindTs (.cons a b) ds δ
    | _ => none
def bindTs : Tt → List D → List Sl → Option (List Sl)
  | .nil, [], δ => some δ
  | .cons a b, d :: ds, δ => (bindT a d δ).bind fun δ1 => bindTs b ds δ1
  | _, _, _ => none
end
mutual
theorem bindT_length : ∀ {T : Tt} {d : D} {δ δ' : List Sl}, bindT T d δ = some δ' → δ'.length = δ.length
  | .nm i, d, δ, δ', h => by
    unfold bindT at h
    split at h
    · cases h
      rw [List.length_set]
    · cases h
  | .nil, d, δ, δ', h => by
    unfold bindT at h
    cases d with
    | tuple ds => exact bindTs_length h
    | _ => cases h
  | .cons a b, d, δ, δ', h => by
    unfold bindT at h
    cases d with
    | tuple ds => exact bindTs_length h
    | _ => cases h
theorem bindTs_length : ∀ {T : Tt} {ds : List D} {δ δ' : List Sl}, bindTs T ds δ = some δ' → δ'.length = δ.length
  | .nm i, ds, δ, δ', h => by
    unfold bindTs at h
    cases h
  | .nil, [], δ, δ', h => by
    unfold bindTs at h
    cases h
    rfl
  | .nil, _ :: _, δ, δ', h => by
    unfold bindTs at h
    cases h
  | .cons a b, [], δ, δ', h => by
    unfold bindTs at h
    cases h
  | .cons a b, d :: ds, δ, δ', h => by
    unfold bindTs at h
    cases e : bindT a d δ with
    | none => rw [e] at h; cases h
    | some δ1 =>
      rw [e] at h
      rw [bindTs_length (T := b) h, bindT_length e]
end
/-- the slots of a target -/
def tS : Tt → List Nat
  | .nm i => [i]
  | .nil => []
  | .cons a b => tS a ++ tS b
/-- but for the slots of l all is as it was -/
structure But (l : List Nat) (σ σ' : L2.St) (A A' : Nat → List Addr) : Prop where
  s : ∀ j, j ∉ l → σ'[j]? = σ[j]?
  a : ∀ j, j ∉ l → A' j = A j
  e : ∀ j, j ∈ l → A' j = []
theorem But.trans {l m : List Nat} {σ σ1 σ2 : L2.St} {A A1 A2 : Nat → List Addr} (h : But l σ σ1 A A1) (h' : But m σ1 σ2 A1 A2) : But (l ++ m) σ σ2 A A2 := by
  refine ⟨fun j hj => ?_, fun j hj => ?_, fun j hj => ?_⟩
  · simp only [List.mem_append, not_or] at hj
    rw [h'.s j hj.2, h.s j hj.1]
  · simp only [List.mem_append, not_or] at hj
    rw [h'.a j hj.2, h.a j hj.1]
  · by_cases c : j ∈ m
    · exact h'.e j c
    · rw [h'.a j c]
      exact h.e j ((List.mem_append.mp hj).resolve_right c)
section
variable {X : Cx} {io : Nat → Bool}
def GV (X : Cx) (e : Expr) (T : Tt) : Prop :=
  ∃ g, PG X e g ∧ ∀ (Y : Fx) (F H : Hp) (δ : List Sl) (σ : L2.St) (A : Nat → List Addr), (∀ j ∈ tS T, Y.io j = false) → SR X.K Y F H δ σ A → ∀ (x : V) (d : D) (δ' : List Sl), Rp X.K F x d → bindT T d δ = some δ' → ∀ Q : L2.St → Hp → Prop, (∀ σ' A', But (tS T) σ σ' A A' → SR X.K Y F H δ' σ' A' → Q σ' H) → g x σ H Q
def GsV (X : Cx) (es : List Expr) (T : Tt) : Prop :=
  ∃ g, PGs X es g ∧ ∀ (Y : Fx) (F H : Hp) (δ : List Sl) (σ : L2.St) (A : Nat → List Addr), (∀ j ∈ tS T, Y.io j = false) → SR X.K Y F H δ σ A → ∀ (xs : List V) (ds : List D) (δ' : List Sl), Rps X.K F xs ds → bindTs T ds δ = some δ' → ∀ Q : L2.St → Hp → Prop, (∀ σ' A', But (tS T) σ σ' A A' → SR X.K Y F H δ' σ' A' → Q σ' H) → g xs σ H Q
theorem gv_name {i : Nat} {x : Str} {pos : Pos} (T : Tg X i x) : GV X (.Name x pos) (.nm i) := by
  refine ⟨_, pg_name T.nd T.at_ T.loc T.fn, fun Y F H δ σ A hY S x d δ' r e Q k => ?_⟩
  unfold bindT at e
  split at e
  · rename_i hi
    cases e
    refine k _ _ ⟨fun j hj => ?_, fun j hj => ?_, fun j hj => ?_⟩ (S.putFz hi (hY i (by simp [tS])) r)
    · rw [List.getElem?_set_ne fun c => hj (by simp [tS, c])]
    · exact uA_ne fun c => hj (by simp [tS, c])
    · simp [tS] at hj
      subst hj
      exact uA_same
  · cases e
theorem gvs_nil : GsV X [] .nil := by
  refine ⟨_, pgs_nil, fun Y F H δ σ A hY S xs ds δ' r e Q k => ?_⟩
  cases r with
  | nil =>
    unfold bindTs at e
    cases e
    exact ⟨rfl, k _ _ ⟨fun _ _ => rfl, fun _ _ => rfl, fun j hj => by simp [tS] at hj⟩ S⟩
  | cons _ _ =>
    unfold bindTs at e
    cases e
theorem gvs_cons {a : Expr} {es : List Expr} {T U : Tt} (h1 : GV X a T) (h2 : GsV X es U) (hs : (assignEach (a :: es) X.env).map (·.2) = assign a X.env :: (assignEach es X.env).map (·.2) := by rfl) : GsV X (a :: es) (.cons T U) := by
  obtain ⟨g, p, q⟩ := h1
  obtain ⟨g2, p2, q2⟩ := h2
  refine ⟨_, pgs_cons p p2 hs, fun Y F H δ σ A hY S xs ds δ' r e Q k => ?_⟩
  cases r with
  | nil =>
    unfold bindTs at e
    cases e
  | cons h r =>
    rename_i v vs d ds
    unfold bindTs at e
    cases e1 : bindT T d δ with
    | none => rw [e1] at e; cases e
    | some δ1 =>
      rw [e1] at e
      exact ⟨v, vs, rfl, q Y F H δ σ A (fun j hj => hY j (List.mem_append_left _ hj)) S v d δ1 h e1 _ fun σ' A' b S' => q2 Y F H δ1 σ' A' (fun j hj => hY j (List.mem_append_right _ hj)) S' vs ds δ' r e Q fun σ2 A2 b2 S2 => k σ2 A2 (b.trans b2) S2⟩
theorem gv_tup {es : List Expr} {k : Nat} {pos : Pos} {T : Tt} {n : Nat} (hc : X.calm = true) (h : GsV X es T) (hT : ∀ i, T ≠ .nm i) (hn : (assignEach es X.env).length = n) (hlen : ∀ ds δ δ', bindTs T ds δ = some δ' → ds.length = n) (hst : (assignEach es X.env).findIdx? (·.1) = none := by rfl) : GV X (.Tuple es k pos) T := by
  obtain ⟨g, p, q⟩ := h
  refine ⟨_, pg_tup hc p hn hst, fun Y F H δ σ A hY S x d δ' r e Q k => ?_⟩
  have e2 : ∃ ds, d = .tuple ds ∧ bindTs T ds δ = some δ' := by
    cases T with
    | nm i => exact absurd rfl (hT i)
    | nil =>
      unfold bindT at e
      cases d with
      | tuple ds => exact ⟨ds, rfl, e⟩
      | _ => cases e
    | cons a b =>
      unfold bindT at e
      cases d with
      | tuple ds => exact ⟨ds, rfl, e⟩
      | _ => cases e
  obtain ⟨ds, rfl, e2⟩ := e2
  cases r with
  | tup h1 r1 =>
    exact ⟨_, _, rfl, Same.sqt S.sub h1, by rw [r1.length]; exact hlen _ _ _ e2, q Y F H δ σ A hY S _ ds δ' r1 e2 Q k⟩

/-! ### what is walked -/
def Yd (K : PySem.W.Frag) (G H : Hp) (x : V) (H' : Hp) (d : D) : Prop :=
  (H' = H ∧ Rp K G x d) ∨ ∃ T xs es, H T = none ∧ H' = upd H T (.tup xs) ∧ x = .ref T ∧ d = .tuple es ∧ Rps K G xs es
structure Wk (K : PySem.W.Frag) (G E : Hp) (J : It) (ds : List D) : Prop where
  go : ∀ i H, i < ds.length → Same E H → J.go i H
  yld : ∀ i H x H' d, Same E H → J.yld i H x H' → ds[i]? = some d → Yd K G H x H' d
  stop : ∀ H, Same E H → J.stop ds.length H
def IV (X : Cx) (tg iter : Expr) (f : List Sl → Option (List D × List Sl)) (R M : List Nat) : Prop :=
  ∃ wi, PI X tg iter wi ∧ ∀ (Y : Fx) (F H : Hp) (δ : List Sl) (σ : L2.St) (A : Nat → List Addr), SR X.K Y F H δ σ A → ∀ (ds : List D) (δ' : List Sl), f δ = some (ds, δ') → ∀ Q : It → Hp → Prop,
    (∀ J F' H', Stp A M F H F' H' → SR X.K Y F' H' δ' σ A → Wk X.K F' (ex R A F' H') J ds → Q J H') → wi σ H Q
theorem PI.or {tg iter : Expr} {w1 w2 : TI} (h1 : PI X tg iter w1) (h2 : PI X tg iter w2) : PI X tg iter (fun σ H R => w1 σ H R ∨ w2 σ H R) :=
  ⟨fun pins s σ H R I h => h.elim (h1.run pins s σ H R I) (h2.run pins s σ H R I)⟩
def itemsD : D → Option (List D)
  | .list ds => some ds
  | .tuple ds => some ds
  | .str z => some (z.cps.toList.map fun c => .str ⟨#[c]⟩)
  | .dict ds => some (ds.map (·.1))
  | _ => none
def fIt (fa : List Sl → Option (D × List Sl)) : List Sl → Option (List D × List Sl) := fun δ => (fa δ).bind fun p => (itemsD p.1).map fun ds => (ds, p.2)
/-- a list of which it is known where it stands, in E -/
theorem Vw.listE {K : PySem.W.Frag} {Y : Fx} {F H : Hp} {δ : List Sl} {σ : L2.St} {A : Nat → List Addr} {R : List Nat} {v : V} {ds : List D} (S : SR K Y F H δ σ A) (h : Vw K F H A R v (.list ds)) : ∃ p xs, v = .ref p ∧ Z.ex R A F H p = some (.lst xs) ∧ Rps K F xs ds := by
  rcases h with h | ⟨i, hi, p, e, eA, o⟩
  · cases h with
    | lst h1 r => exact ⟨_, _, rfl, sub_ex S _ _ h1, r⟩
  · obtain ⟨xs, h1, r⟩ := o
    exact ⟨p, xs, e, (if_pos ⟨i, hi, by rw [eA]; simp⟩ : Z.ex R A F H p = H p).trans h1, r⟩
theorem wk_list {K : PySem.W.Frag} {G E : Hp} {a : Addr} {xs : List V} {ds : List D} (h : E a = some (.lst xs)) (r : Rps K G xs ds) : Wk K G E (Itl K a) ds := by
  refine ⟨fun i H hi s => ?_, fun i H x H' d s y e => ?_, fun H s => ?_⟩
  · have : i < xs.length := by rw [r.length]; exact hi
    exact ⟨xs, xs[i], SqL.of (s _ _ h), List.getElem?_eq_getElem this⟩
  · obtain ⟨rfl, f⟩ := y
    obtain ⟨v, v1, v2⟩ := r.get e
    have := f xs (SqL.of (s _ _ h))
    rw [v1] at this
    cases this
    exact .inl ⟨rfl, v2⟩
  · exact ⟨xs, SqL.of (s _ _ h), by rw [r.length]; exact Nat.le_refl _⟩
theorem wk_tup {K : PySem.W.Frag} {G E : Hp} {a : Addr} {xs : List V} {ds : List D} (h : SqT K E a xs) (r : Rps K G xs ds) : Wk K G E (Itt K a) ds := by
  refine ⟨fun i H hi s => ?_, fun i H x H' d s y e => ?_, fun H s => ?_⟩
  · have : i < xs.length := by rw [r.length]; exact hi
    exact ⟨xs, xs[i], Same.sqt s h, List.getElem?_eq_getElem this⟩
  · obtain ⟨rfl, f⟩ := y
    obtain ⟨v, v1, v2⟩ := r.get e
    have := f xs (Same.sqt s h)
    rw [v1] at this
    cases this
    exact .inl ⟨rfl, v2⟩
  · exact ⟨xs, Same.sqt s h, by rw [r.length]; exact Nat.le_refl _⟩
theorem wk_str {K : PySem.W.Frag} {G E : Hp} {z : Str} : Wk K G E (Its z) (z.cps.toList.map fun c => .str ⟨#[c]⟩) := by
  refine ⟨fun i H hi s => ?_, fun i H x H' d s y e => ?_, fun H s => ?_⟩
  · simpa [Its] using hi
  · obtain ⟨rfl, c, h1, rfl⟩ := y
    rw [List.getElem?_map, Array.getElem?_toList, h1] at e
    cases e
    exact .inl ⟨rfl, .str _⟩
  · show z.cps.size ≤ _
    simp
theorem RpK.key {K : PySem.W.Frag} {G : Hp} : ∀ {kvs : List (Key × V)} {ds : List (D × D)} {i : Nat} {d : D}, RpK K G kvs ds → (ds.map (·.1))[i]? = some d → ∃ k v, kvs[i]? = some (k, v) ∧ d = keyD k
  | _, _, _, _, .nil, e => by simp at e
  | _, _, 0, _, .cons h r, e => by simp at e; subst e; exact ⟨_, _, rfl, rfl⟩
  | _, _, i + 1, d, .cons h r, e => by
    obtain ⟨k, v, h1, h2⟩ := RpK.key (i := i) (d := d) r (by simpa using e)
    exact ⟨k, v, by simpa using h1, h2⟩
theorem rp_keyD {K : PySem.W.Frag} {G : Hp} : ∀ (k : Key), Rp K G (kV k) (keyD k)
  | .inl i => .int i
  | .inr x => .str x
theorem RpK.len {K : PySem.W.Frag} {G : Hp} : ∀ {kvs : List (Key × V)} {ds : List (D × D)}, RpK K G kvs ds → kvs.length = ds.length
  | _, _, .nil => rfl
  | _, _, .cons _ r => congrArg (· + 1) r.len
theorem wk_dict {K : PySem.W.Frag} {G E : Hp} {a : Addr} {o : Obj} {kvs : List (Key × V)} {ds : List (D × D)} (h : E a = some (.frz o (.dK kvs))) (r : RpK K G kvs ds) : Wk K G E (Itk a o kvs) (ds.map (·.1)) := by
  have hl := r.len
  refine ⟨fun i H hi s => ?_, fun i H x H' d s y e => ?_, fun H s => ?_⟩
  · exact ⟨s _ _ h, by rw [hl]; simpa using hi⟩
  · obtain ⟨rfl, k, v, h1, rfl⟩ := y
    obtain ⟨k', v', h2, rfl⟩ := r.key e
    rw [h1] at h2
    cases h2
    exact .inl ⟨rfl, rp_keyD _⟩
  · exact ⟨s _ _ h, by rw [hl]; simp⟩
theorem iv_seq {tg iter : Expr} {fa} {R M : List Nat} (h : EV X iter fa R M) : IV X tg iter (fIt fa) R M := by
  obtain ⟨t, p, q⟩ := h
  refine ⟨_, PI.or (pi_list p) (PI.or (pi_tup p) (PI.or (pi_str p) (pi_keys p))), fun Y F H δ σ A S ds δ' e Q k => ?_⟩
  unfold fIt at e
  cases e1 : fa δ with
  | none => rw [e1] at e; cases e
  | some w =>
    obtain ⟨d, δ1⟩ := w
    rw [e1] at e
    simp only [Option.bind_some] at e
    unfold itemsD at e
    split at e
    · cases e
      refine .inl (q Y F H δ σ A S _ _ e1 _ fun v F1 H1 st S1 r => ?_)
      obtain ⟨a, xs, rfl, h1, h2⟩ := r.listE S1
      exact ⟨a, rfl, ⟨xs, SqL.of (ex_sub S1 _ _ h1)⟩, k _ F1 H1 st S1 (wk_list h1 h2)⟩
    · cases e
      refine .inr (.inl (q Y F H δ σ A S _ _ e1 _ fun v F1 H1 st S1 r => ?_))
      obtain ⟨a, xs, rfl, h0, h1, h2⟩ := r.tup S1
      exact ⟨a, rfl, ⟨xs, h1⟩, k _ F1 H1 st S1 (wk_tup (Same.sqt (sub_ex S1) h0) h2)⟩
    · cases e
      refine .inr (.inr (.inl (q Y F H δ σ A S _ _ e1 _ fun v F1 H1 st S1 r => ?_)))
      exact ⟨_, r.str, k _ F1 H1 st S1 wk_str⟩
    · cases e
      refine .inr (.inr (.inr (q Y F H δ σ A S _ _ e1 _ fun v F1 H1 st S1 r => ?_)))
      have r' := r.ex S1
      cases r' with
      | dic h1 r2 =>
        obtain ⟨p', o', kvs', e3, h3, r3⟩ := r.dict S1
        cases e3
        rw [ex_sub S1 _ _ h1] at h3
        cases h3
        exact ⟨_, _, rfl, .inl ⟨_, ex_sub S1 _ _ h1, k _ F1 H1 st S1 (wk_dict h1 r3)⟩⟩
    · cases e
/-- range -/
def rngD (lo : Int) (n : Nat) : List D := (List.range n).map fun i => .int (lo + (i : Nat))
theorem rngD_length {lo : Int} {n : Nat} : (rngD lo n).length = n := by simp [rngD]
theorem wk_rng {K : PySem.W.Frag} {G E : Hp} {lo : Int} {n : Nat} : Wk K G E (Itr lo n) (rngD lo n) := by
  refine ⟨fun i H hi s => ?_, fun i H x H' d s y e => ?_, fun H s => ?_⟩
  · rw [rngD_length] at hi
    exact hi
  · obtain ⟨rfl, rfl⟩ := y
    unfold rngD at e
    rw [List.getElem?_map] at e
    cases e1 : (List.range n)[i]? with
    | none => rw [e1] at e; cases e
    | some j =>
      rw [e1] at e
      have : j = i := by
        have := List.getElem?_eq_some_iff.mp e1
        obtain ⟨_, h⟩ := this
        simpa using h.symm
      subst this
      cases e
      exact .inl ⟨rfl, .int _⟩
  · rw [rngD_length]
    exact Nat.le_refl _
def small62 (i : Int) : Bool := decide (-(2 ^ 62) ≤ i) && decide (i < 2 ^ 62)
def fRng (f : List Sl → Option (List D × List Sl)) : List Sl → Option (List D × List Sl) := fun δ => (f δ).bind fun p => match p.1 with
  | [.int j] => if small62 j then some (rngD 0 j.toNat, p.2) else none
  | [.int i, .int j] => if small62 i && small62 j then some (rngD i (j - i).toNat, p.2) else none
  | _ => none
theorem iv_range1 {tg a : Expr} {f} {R M : List Nat} {p pos : Pos} (hg : Gl X "range") (hm : X.mg "range" = none) (h : AV X [a] f R M) (hs : starEach [a] X.env = [(false, eval a X.env)] := by rfl) (h1 : ∀ δ ds δ', f δ = some (ds, δ') → ds.length = 1) : IV X tg (.Call (.Name "range" p) [a] [] pos) (fRng f) [] M := by
  obtain ⟨t, pa, q⟩ := h
  refine ⟨_, pi_range1 hg hm pa hs, fun Y F H δ σ A S ds δ' e Q k => ?_⟩
  unfold fRng at e
  cases e1 : f δ with
  | none => rw [e1] at e; cases e
  | some w =>
    obtain ⟨es, δ1⟩ := w
    have hl := h1 _ _ _ e1
    rw [e1] at e
    simp only [Option.bind_some] at e
    split at e
    · split at e
      · rename_i c
        cases e
        simp only [small62, Bool.and_eq_true, decide_eq_true_eq] at c
        refine q Y F H δ σ A S _ _ e1 _ fun vs F1 H1 st S1 r => ?_
        obtain ⟨v, rfl, rv⟩ := r.one
        exact ⟨_, by rw [rv.int], c.1, c.2, k _ F1 H1 st S1 wk_rng⟩
      · cases e
    · simp at hl
    · cases e
theorem iv_range2 {tg a b : Expr} {f} {R M : List Nat} {p pos : Pos} (hg : Gl X "range") (hm : X.mg "range" = none) (h : AV X [a, b] f R M) (hs : starEach [a, b] X.env = [(false, eval a X.env), (false, eval b X.env)] := by rfl) (hs2 : starEach [b] X.env = [(false, eval b X.env)] := by rfl) (h1 : ∀ δ ds δ', f δ = some (ds, δ') → ds.length = 2) : IV X tg (.Call (.Name "range" p) [a, b] [] pos) (fRng f) [] M := by
  obtain ⟨t, pa, q⟩ := h
  refine ⟨_, pi_range2 hg hm pa hs hs2, fun Y F H δ σ A S ds δ' e Q k => ?_⟩
  unfold fRng at e
  cases e1 : f δ with
  | none => rw [e1] at e; cases e
  | some w =>
    obtain ⟨es, δ1⟩ := w
    have hl := h1 _ _ _ e1
    rw [e1] at e
    simp only [Option.bind_some] at e
    split at e
    · simp at hl
    · split at e
      · rename_i c
        cases e
        simp only [small62, Bool.and_eq_true, decide_eq_true_eq] at c
        refine q Y F H δ σ A S _ _ e1 _ fun vs F1 H1 st S1 r => ?_
        obtain ⟨v, u, rfl, r1, r2⟩ := r.two
        exact ⟨_, _, by rw [r1.int, r2.int], ⟨c.1.1, c.1.2, c.2.1, c.2.2⟩, k _ F1 H1 st S1 wk_rng⟩
      · cases e
    · cases e
/-- enumerate of a list -/
def enumD (ds : List D) : List D := ds.zipIdx.map fun p => .tuple [.int (p.2 : Nat), p.1]
def fEnum (fa : List Sl → Option (D × List Sl)) : List Sl → Option (List D × List Sl) := fun δ => (fa δ).bind fun p => match p.1 with
  | .list ds => some (enumD ds, p.2)
  | _ => none
theorem wk_enum {K : PySem.W.Frag} {G E : Hp} {a : Addr} {xs : List V} {ds : List D} (h : E a = some (.lst xs)) (r : Rps K G xs ds) : Wk K G E (Ite K a) (enumD ds) := by
  have hl : (enumD ds).length = ds.length := by simp [enumD]
  refine ⟨fun i H hi s => ?_, fun i H x H' d s y e => ?_, fun H s => ?_⟩
  · have : i < xs.length := by rw [r.length, ← hl]; exact hi
    exact ⟨xs, xs[i], SqL.of (s _ _ h), List.getElem?_eq_getElem this⟩
  · obtain ⟨T, x', rfl, nT, rfl, f⟩ := y
    unfold enumD at e
    rw [List.getElem?_map, List.getElem?_zipIdx] at e
    cases e1 : ds[i]? with
    | none => rw [e1] at e; cases e
    | some d1 =>
      rw [e1] at e
      simp only [Option.map_some, Nat.zero_add, Option.some.injEq] at e
      subst e
      obtain ⟨v, v1, v2⟩ := r.get e1
      have := f xs (SqL.of (s _ _ h))
      rw [v1] at this
      cases this
      exact .inr ⟨T, _, _, nT, rfl, rfl, rfl, .cons (.int _) (.cons v2 .nil)⟩
  · exact ⟨xs, SqL.of (s _ _ h), by rw [r.length, hl]; exact Nat.le_refl _⟩
theorem iv_enum {e : Expr} {fa} {R M : List Nat} {p pos tpos : Pos} {elts : List Expr} {kk : Nat} (hg : Gl X "enumerate") (hm : X.mg "enumerate" = none) (h : EV X e fa R M) (hs : starEach [e] X.env = [(false, eval e X.env)] := by rfl) : IV X (.Tuple elts kk tpos) (.Call (.Name "enumerate" p) [e] [] pos) (fEnum fa) R M := by
  obtain ⟨t, pe, q⟩ := h
  refine ⟨_, pi_enum hg hm (pa_cons pe pa_nil hs) hs, fun Y F H δ σ A S ds δ' e Q k => ?_⟩
  unfold fEnum at e
  cases e1 : fa δ with
  | none => rw [e1] at e; cases e
  | some w =>
    obtain ⟨d, δ1⟩ := w
    rw [e1] at e
    simp only [Option.bind_some] at e
    split at e
    · cases e
      refine q Y F H δ σ A S _ _ e1 _ fun v F1 H1 st S1 r => ?_
      obtain ⟨a, xs, rfl, h1, h2⟩ := r.listE S1
      exact ⟨a, xs, rfl, SqL.of (ex_sub S1 _ _ h1), k _ F1 H1 st S1 (wk_enum h1 h2)⟩
    · cases e
/-- zip of two lists -/
def zipD (ds es : List D) : List D := (ds.zip es).map fun p => .tuple [p.1, p.2]
def fZip (f : List Sl → Option (List D × List Sl)) : List Sl → Option (List D × List Sl) := fun δ => (f δ).bind fun p => match p.1 with
  | [.list ds, .list es] => some (zipD ds es, p.2)
  | _ => none
theorem wk_zip {K : PySem.W.Frag} {G E : Hp} {a b : Addr} {xs ys : List V} {ds es : List D} (h : E a = some (.lst xs)) (h' : E b = some (.lst ys)) (r : Rps K G xs ds) (r' : Rps K G ys es) : Wk K G E (Itz K a b) (zipD ds es) := by
  have hl : (zipD ds es).length = min ds.length es.length := by simp [zipD]
  refine ⟨fun i H hi s => ?_, fun i H x H' d s y e => ?_, fun H s => ?_⟩
  · rw [hl] at hi
    have h1 : i < xs.length := by rw [r.length]; omega
    have h2 : i < ys.length := by rw [r'.length]; omega
    exact ⟨xs, ys, xs[i], ys[i], SqL.of (s _ _ h), SqL.of (s _ _ h'), List.getElem?_eq_getElem h1, List.getElem?_eq_getElem h2⟩
  · obtain ⟨T, x', y', rfl, nT, rfl, f, f'⟩ := y
    unfold zipD at e
    rw [List.getElem?_map] at e
    cases e1 : (ds.zip es)[i]? with
    | none => rw [e1] at e; cases e
    | some w =>
      obtain ⟨d1, d2⟩ := w
      rw [e1] at e
      cases e
      obtain ⟨e2, e3⟩ := List.getElem?_zip_eq_some.mp e1
      obtain ⟨v, v1, v2⟩ := r.get e2
      obtain ⟨u, u1, u2⟩ := r'.get e3
      have z1 := f xs (SqL.of (s _ _ h))
      have z2 := f' ys (SqL.of (s _ _ h'))
      rw [v1] at z1
      rw [u1] at z2
      cases z1
      cases z2
      exact .inr ⟨T, _, _, nT, rfl, rfl, rfl, .cons v2 (.cons u2 .nil)⟩
  · refine ⟨xs, ys, SqL.of (s _ _ h), SqL.of (s _ _ h'), ?_⟩
    rw [hl, r.length, r'.length]
    omega
theorem iv_zip {e e2 : Expr} {f} {R M : List Nat} {p pos tpos : Pos} {elts : List Expr} {kk : Nat} (hg : Gl X "zip") (hm : X.mg "zip" = none) (h : AV X [e, e2] f R M) (hs : starEach [e, e2] X.env = [(false, eval e X.env), (false, eval e2 X.env)] := by rfl) (hs2 : starEach [e2] X.env = [(false, eval e2 X.env)] := by rfl) : IV X (.Tuple elts kk tpos) (.Call (.Name "zip" p) [e, e2] [] pos) (fZip f) R M := by
  obtain ⟨t, pe, q⟩ := h
  refine ⟨_, pi_zip hg hm pe (hs.trans (by rw [hs2])) (by rw [hs2]; rfl), fun Y F H δ σ A S ds δ' e Q k => ?_⟩
  unfold fZip at e
  cases e1 : f δ with
  | none => rw [e1] at e; cases e
  | some w =>
    obtain ⟨d, δ1⟩ := w
    rw [e1] at e
    simp only [Option.bind_some] at e
    split at e
    · cases e
      refine q Y F H δ σ A S _ _ e1 _ fun v F1 H1 st S1 r => ?_
      obtain ⟨v, u, rfl, r1, r2⟩ := r.two
      obtain ⟨a, xs, rfl, h1, h2⟩ := r1.listE S1
      obtain ⟨b, ys, rfl, h3, h4⟩ := r2.listE S1
      exact ⟨a, b, xs, ys, rfl, SqL.of (ex_sub S1 _ _ h1), SqL.of (ex_sub S1 _ _ h3), k _ F1 H1 st S1 (wk_zip h1 h3 h2 h4)⟩
    · cases e

/-! ### for -/
def forL (T : Tt) (b : List Sl → Option Out) : List D → List Sl → Option Out
  | [], δ => some (.nx δ)
  | d :: r, δ => (bindT T d δ).bind fun δ1 => (b δ1).bind fun o => match o with
    | .nx δ2 => forL T b r δ2
    | .ct δ2 => forL T b r δ2
    | .rt d' δ2 => some (.rt d' δ2)
def sFor (T : Tt) (f : List Sl → Option (List D × List Sl)) (b : List Sl → Option Out) : List Sl → Option Out := fun δ => (f δ).bind fun p => forL T b p.1 p.2
theorem sv_for {fr : Bool} {tg iter : Expr} {body : List Stmt} {pos : Pos} {T : Tt} {f} {M : List Nat} {b} (hp : PassesOwn (model X.prog X.w) X.A X.env X.xe) (hc : X.calm = true) (hi : IV X tg iter f [] M) (hg : GV X tg T) (hT : ∀ j ∈ tS T, io j = false := by decide) (hb : BV X io fr body b) (hs : ∀ x, foldedSetIterable iter X.env x = pure x := by intro _; rfl) : SV X io fr (.For tg iter body [] pos) (sFor T f b) := by
  obtain ⟨wi, pw, qi⟩ := hi
  obtain ⟨g, pg, qg⟩ := hg
  obtain ⟨tb, pb, qb⟩ := hb
  refine ⟨_, ps_for hp hc pw pg pb hs, fun Y F H δ σ A hY S o e D k => ?_⟩
  unfold sFor at e
  cases e1 : f δ with
  | none => rw [e1] at e; cases e
  | some w =>
    obtain ⟨ds, δ1⟩ := w
    rw [e1] at e
    simp only [Option.bind_some] at e
    refine qi Y F H δ σ A S ds δ1 e1 _ fun J F1 H1 st S1 wk => ?_
    rw [ex_nil] at wk
    refine ⟨fun i m σ' H' => m = ds.length - i ∧ i ≤ ds.length ∧ ∃ F' A' δ', Same F1 F' ∧ SR X.K Y F' H' δ' σ' A' ∧ forL T b (ds.drop i) δ' = some o, ⟨ds.length, by simp, Nat.zero_le _, F1, A, δ1, Same.refl _, S1, by rw [List.drop_zero]; exact e⟩, ?_⟩
    rintro i m σ' H' ⟨rfl, hi, F', A', δ', sF, S', ef⟩
    by_cases hlt : i < ds.length
    · have hd : ds.drop i = ds[i] :: ds.drop (i + 1) := List.drop_eq_getElem_cons hlt
      rw [hd] at ef
      unfold forL at ef
      cases e2 : bindT T ds[i] δ' with
      | none => rw [e2] at ef; cases ef
      | some δ2 =>
        rw [e2] at ef
        simp only [Option.bind_some] at ef
        cases e3 : b δ2 with
        | none => rw [e3] at ef; cases ef
        | some o1 =>
          rw [e3] at ef
          simp only [Option.bind_some] at ef
          refine .inr ⟨wk.go i H' hlt (sF.trans S'.sub), fun σ2 H2 => ∃ F2 A2 δ3, Same F' F2 ∧ SR X.K Y F2 H2 δ3 σ2 A2 ∧ forL T b (ds.drop (i + 1)) δ3 = some o, fun σ2 H2 ⟨F2, A2, δ3, s2, S2, e4⟩ => ⟨ds.length - (i + 1), by omega, rfl, by omega, F2, A2, δ3, sF.trans s2, S2, e4⟩, fun x H2 y => ?_⟩
          have main : ∀ (F2 : Hp), Same F' F2 → SR X.K Y F2 H2 δ' σ' A' → Rp X.K F2 x ds[i] → g x σ' H2 fun σ2 H2 => tb { D with nx := fun σ2 H2 => ∃ F2 A2 δ3, Same F' F2 ∧ SR X.K Y F2 H2 δ3 σ2 A2 ∧ forL T b (ds.drop (i + 1)) δ3 = some o, ct := fun σ2 H2 => ∃ F2 A2 δ3, Same F' F2 ∧ SR X.K Y F2 H2 δ3 σ2 A2 ∧ forL T b (ds.drop (i + 1)) δ3 = some o, bk := D.nx } σ2 H2 := by
            intro F2 s2 S2 r2
            refine qg Y F2 H2 δ' σ' A' (fun j hj => by rw [hY]; exact hT j hj) S2 x _ δ2 r2 e2 _ fun σ3 A3 _ S3 => ?_
            refine qb Y F2 H2 δ2 σ3 A3 hY S3 o1 e3 _ ?_
            cases o1 with
            | nx δ3 => exact fun σ4 F4 H4 A4 s4 S4 => ⟨F4, A4, δ3, s2.trans s4, S4, ef⟩
            | ct δ3 => exact fun σ4 F4 H4 A4 s4 S4 => ⟨F4, A4, δ3, s2.trans s4, S4, ef⟩
            | rt d' δ3 =>
              cases ef
              exact fun v σ4 F4 H4 A4 s4 S4 r => k v σ4 F4 H4 A4 (st.f.trans (sF.trans (s2.trans s4))) S4 r
          rcases wk.yld i H' x H2 _ (sF.trans S'.sub) y (List.getElem?_eq_getElem hlt) with ⟨rfl, r⟩ | ⟨U, xs, es, nU, rfl, rfl, e5, r⟩
          · exact main F' (Same.refl _) S' (r.mono sF)
          · have l := Stp.laid (M := []) (o := .tup xs) S' nU
            refine main _ l.f (S'.laid nU) ?_
            rw [e5]
            exact .tup (.inl (.inl upd_same)) (r.mono (sF.trans l.f))
    · have hi2 : i = ds.length := by omega
      subst hi2
      rw [List.drop_length] at ef
      unfold forL at ef
      cases ef
      exact .inl ⟨wk.stop H' (sF.trans S'.sub), k σ' F' H' A' (st.f.trans sF) S'⟩

/-! ### while -/
def whileF (c : List Sl → Option (Bool × List Sl)) (b : List Sl → Option Out) : Nat → List Sl → Option Out
  | 0, _ => none
  | n + 1, δ => (c δ).bind fun p => match p.1 with
    | false => some (.nx p.2)
    | true => (b p.2).bind fun o => match o with
      | .nx δ2 => whileF c b n δ2
      | .ct δ2 => whileF c b n δ2
      | .rt d' δ2 => some (.rt d' δ2)
theorem sv_while {fr : Bool} {c : Expr} {body : List Stmt} {pos : Pos} {gc} {M : List Nat} {b} {n : Nat} (hp : PassesOwn (model X.prog X.w) X.A X.env X.xe) (hc : TV X c gc M) (hb : BV X io fr body b) : SV X io fr (.While c body [] pos) (whileF gc b n) := by
  obtain ⟨tc, pc, qc⟩ := hc
  obtain ⟨tb, pb, qb⟩ := hb
  refine ⟨_, ps_while hp pc pb, fun Y F H δ σ A hY S o e D k => ?_⟩
  refine ⟨fun m σ' H' => ∃ F' A' δ', Same F F' ∧ SR X.K Y F' H' δ' σ' A' ∧ whileF gc b m δ' = some o, ⟨n, F, A, δ, Same.refl _, S, e⟩, ?_⟩
  rintro m σ' H' ⟨F', A', δ', sF, S', ef⟩
  cases m with
  | zero => cases ef
  | succ m =>
    unfold whileF at ef
    cases e1 : gc δ' with
    | none => rw [e1] at ef; cases ef
    | some w =>
      obtain ⟨b1, δ1⟩ := w
      rw [e1] at ef
      refine qc Y F' H' δ' σ' A' S' b1 δ1 e1 _ fun F1 H1 st S1 => ?_
      cases b1 with
      | false =>
        cases ef
        exact iteF (k σ' F1 H1 A' (sF.trans st.f) S1)
      | true =>
        refine iteT ?_
        simp only [Option.bind_some] at ef
        cases e3 : b δ1 with
        | none => rw [e3] at ef; cases ef
        | some o1 =>
          rw [e3] at ef
          simp only [Option.bind_some] at ef
          refine ⟨fun σ2 H2 => ∃ F2 A2 δ3, Same F F2 ∧ SR X.K Y F2 H2 δ3 σ2 A2 ∧ whileF gc b m δ3 = some o, fun σ2 H2 h => ⟨m, by omega, h⟩, ?_⟩
          refine qb Y F1 H1 δ1 σ' A' hY S1 o1 e3 _ ?_
          cases o1 with
          | nx δ3 => exact fun σ4 F4 H4 A4 s4 S4 => ⟨F4, A4, δ3, (sF.trans st.f).trans s4, S4, ef⟩
          | ct δ3 => exact fun σ4 F4 H4 A4 s4 S4 => ⟨F4, A4, δ3, (sF.trans st.f).trans s4, S4, ef⟩
          | rt d' δ3 =>
            cases ef
            exact fun v σ4 F4 H4 A4 s4 S4 r => k v σ4 F4 H4 A4 ((sF.trans st.f).trans s4) S4 r
end
end Z

/-! Za: list comprehensions. -/
namespace Z
open PySem PySem.Spec PyProof.Rows L2
/-! ### readings that hang on the data alone -/
def tEV (K : PySem.W.Frag) (f : List Sl → Option (D × List Sl)) (R M : List Nat) : TE := fun σ H Q =>
  ∃ (Y : Fx) (F : Hp) (δ : List Sl) (A : Nat → List Addr) (d : D) (δ' : List Sl), SR K Y F H δ σ A ∧ f δ = some (d, δ') ∧ ∀ v F' H', Stp A M F H F' H' → SR K Y F' H' δ' σ A → Vw K F' H' A R v d → Q v H'
def tTV (K : PySem.W.Frag) (f : List Sl → Option (Bool × List Sl)) (M : List Nat) : TT := fun σ H Q =>
  ∃ (Y : Fx) (F : Hp) (δ : List Sl) (A : Nat → List Addr) (b : Bool) (δ' : List Sl), SR K Y F H δ σ A ∧ f δ = some (b, δ') ∧ ∀ F' H', Stp A M F H F' H' → SR K Y F' H' δ' σ A → Q b H'
def tGV (K : PySem.W.Frag) (T : Tt) : TG := fun x σ H Q =>
  ∃ (Y : Fx) (F : Hp) (δ : List Sl) (A : Nat → List Addr) (d : D) (δ' : List Sl), (∀ j ∈ tS T, Y.io j = false) ∧ SR K Y F H δ σ A ∧ Rp K F x d ∧ bindT T d δ = some δ' ∧ ∀ σ' A', But (tS T) σ σ' A A' → SR K Y F H δ' σ' A' → Q σ' H
theorem EV.pe {X : Cx} {e : Expr} {f R M} (h : EV X e f R M) : PE X e (tEV X.K f R M) := by
  obtain ⟨t, p, q⟩ := h
  refine ⟨fun pins s σ H Q I z => ?_⟩
  obtain ⟨Y, F, δ, A, d, δ', S, e1, k⟩ := z
  exact p.run pins s σ H Q I (q Y F H δ σ A S d δ' e1 Q k)
theorem TV.pt {X : Cx} {e : Expr} {f M} (h : TV X e f M) : PT X e (tTV X.K f M) := by
  obtain ⟨t, p, q⟩ := h
  refine ⟨fun pins s σ H Q I z => ?_⟩
  obtain ⟨Y, F, δ, A, d, δ', S, e1, k⟩ := z
  exact p.run pins s σ H Q I (q Y F H δ σ A S d δ' e1 Q k)
theorem GV.pg {X : Cx} {e : Expr} {T : Tt} (h : GV X e T) : PG X e (tGV X.K T) := by
  obtain ⟨g, p, q⟩ := h
  refine ⟨fun pins s σ H v u Q I r z => ?_⟩
  obtain ⟨Y, F, δ, A, d, δ', hY, S, r1, e1, k⟩ := z
  exact p.run pins s σ H v u Q I r (q Y F H δ σ A hY S v d δ' r1 e1 Q k)

/-! ### the block's own slots -/
theorem wipe_in {σ : L2.St} {j : Nat} : ∀ {vs : List Nat}, j ∈ vs → j < σ.length → (wipe σ vs)[j]? = some none
  | v :: vs, h, hj => by
    unfold wipe
    by_cases c : v = j
    · subst c
      exact List.getElem?_set_self (by rw [wipe_length]; exact hj)
    · rw [List.getElem?_set_ne c]
      exact wipe_in ((List.mem_cons.mp h).resolve_left fun z => c z.symm) hj
theorem wipe_out' {σ : L2.St} {j : Nat} : ∀ {vs : List Nat}, j ∉ vs → (wipe σ vs)[j]? = σ[j]?
  | [], _ => rfl
  | v :: vs, h => by
    simp only [List.mem_cons, not_or] at h
    unfold wipe
    rw [List.getElem?_set_ne (Ne.symm h.1)]
    exact wipe_out' h.2
theorem wipe_eq {σ σ' : L2.St} {vs : List Nat} (hl : σ'.length = σ.length) (h : ∀ j, j ∉ vs → σ'[j]? = σ[j]?) : wipe σ' vs = wipe σ vs := by
  apply List.ext_getElem?
  intro j
  by_cases c : j ∈ vs
  · by_cases cl : j < σ.length
    · rw [wipe_in c cl, wipe_in c (by omega)]
    · rw [List.getElem?_eq_none (by rw [wipe_length]; omega), List.getElem?_eq_none (by rw [wipe_length]; omega)]
  · rw [wipe_out' c, wipe_out' c, h j c]
theorem wipeS_length {δ : List Sl} : ∀ {vs : List Nat}, (wipeS vs δ).length = δ.length
  | [] => rfl
  | v :: vs => by
    show ((wipeS vs δ).set v .no).length = _
    rw [List.length_set, wipeS_length]
theorem wipeS_in {δ : List Sl} {j : Nat} : ∀ {vs : List Nat}, j ∈ vs → j < δ.length → (wipeS vs δ)[j]? = some .no
  | v :: vs, h, hj => by
    show ((wipeS vs δ).set v .no)[j]? = _
    by_cases c : v = j
    · subst c
      exact List.getElem?_set_self (by rw [wipeS_length]; exact hj)
    · rw [List.getElem?_set_ne c]
      exact wipeS_in ((List.mem_cons.mp h).resolve_left fun z => c z.symm) hj
theorem wipeS_out {δ : List Sl} {j : Nat} : ∀ {vs : List Nat}, j ∉ vs → (wipeS vs δ)[j]? = δ[j]?
  | [], _ => rfl
  | v :: vs, h => by
    simp only [List.mem_cons, not_or] at h
    show ((wipeS vs δ).set v .no)[j]? = _
    rw [List.getElem?_set_ne (Ne.symm h.1)]
    exact wipeS_out h.2
def noS (vs : List Nat) (δ : List Sl) : Bool := vs.all fun j => match δ[j]? with
  | some .no => true
  | _ => false
section
variable {K : PySem.W.Frag} {Y : Fx} {F H : Hp} {δ : List Sl} {σ σ' : L2.St} {A : Nat → List Addr} {vs : List Nat}
theorem noS_at (h : noS vs δ = true) {j : Nat} (hj : j ∈ vs) : δ[j]? = some .no := by
  have := List.all_eq_true.mp h j hj
  split at this
  · assumption
  · cases this
theorem SR.wiped (S : SR K Y F H δ σ' A) (hw : wipe σ' vs = wipe σ vs) (hA : ∀ j ∈ vs, A j = []) (hio : ∀ j ∈ vs, Y.io j = false) (hl : ∀ j ∈ vs, j < δ.length) : SR K Y F H (wipeS vs δ) (wipe σ vs) A := by
  have hlen : (wipe σ vs).length = σ'.length := by rw [← hw, wipe_length]
  have out : ∀ j, j ∉ vs → (wipe σ vs)[j]? = σ'[j]? := fun j hj => by rw [← hw, wipe_out' hj]
  refine ⟨by rw [wipeS_length, hlen]; exact S.len, fun j t e => ?_, fun j e => ?_, S.dis, S.hid, S.new, S.sub, fun j h1 => ?_, S.ioA, S.kp, S.nw, S.f0⟩
  · by_cases c : j ∈ vs
    · rw [wipeS_in c (hl j c)] at e
      cases e
      exact hA j c
    · rw [wipeS_out c] at e
      rw [out j c]
      exact S.slot j t e
  · by_cases c : j ∈ vs
    · exact hA j c
    · rw [wipeS_out c] at e
      exact S.out j e
  · have c : j ∉ vs := fun c => by rw [hio j c] at h1; cases h1
    rw [out j c]
    exact S.fix j h1
theorem SR.noA (S : SR K Y F H δ σ A) (h : noS vs δ = true) : ∀ j ∈ vs, A j = [] := fun j hj => S.slot j _ (noS_at h hj)
theorem wipeS_no (h : noS vs δ = true) : wipeS vs δ = δ := by
  apply List.ext_getElem?
  intro j
  by_cases c : j ∈ vs
  · rw [noS_at h c, wipeS_in c (List.getElem?_eq_some_iff.mp (noS_at h c)).1]
  · rw [wipeS_out c]
end

/-! ### [e for t in it if c] -/
def compL (T : Tt) (vs : List Nat) (c : List Sl → Option (Bool × List Sl)) (f : List Sl → Option (D × List Sl)) : List D → List Sl → Option (List D × List Sl)
  | [], δ => some ([], δ)
  | d :: r, δ => (bindT T d δ).bind fun δ1 => (c δ1).bind fun p => match p.1 with
    | true => (f p.2).bind fun q => (compL T vs c f r (wipeS vs q.2)).map fun z => (q.1 :: z.1, z.2)
    | false => compL T vs c f r (wipeS vs p.2)
def fLc (T : Tt) (vs : List Nat) (it : List Sl → Option (List D × List Sl)) (c : List Sl → Option (Bool × List Sl)) (f : List Sl → Option (D × List Sl)) : List Sl → Option (D × List Sl) := fun δ => (it δ).bind fun p =>
  if noS vs p.2 && decide (p.1.length ≤ sizeLine) then (compL T vs c f p.1 p.2).map fun q => (.list q.1, q.2) else none
def cYes : List Sl → Option (Bool × List Sl) := fun δ => some (true, δ)
/-- the tests of a comprehension -/
def TsV (X : Cx) (es : List Expr) (f : List Sl → Option (Bool × List Sl)) (M : List Nat) : Prop :=
  ∃ t, PTs X es t ∧ ∀ (Y : Fx) (F H : Hp) (δ : List Sl) (σ : L2.St) (A : Nat → List Addr), SR X.K Y F H δ σ A → ∀ (b : Bool) (δ' : List Sl), f δ = some (b, δ') → ∀ Q : Bool → Hp → Prop,
    (∀ F' H', Stp A M F H F' H' → SR X.K Y F' H' δ' σ A → Q b H') → t σ H Q
theorem tsv_nil {X : Cx} : TsV X [] cYes [] := by
  refine ⟨_, pts_nil, fun Y F H δ σ A S b δ' e Q k => ?_⟩
  cases e
  exact k F H Stp.refl S
theorem tsv_one {X : Cx} {e : Expr} {f M} (h : TV X e f M) : TsV X [e] f M := by
  obtain ⟨t, p, q⟩ := h
  exact ⟨t, pts_one p, q⟩
theorem TsV.pts {X : Cx} {es : List Expr} {f M} (h : TsV X es f M) : PTs X es (tTV X.K f M) := by
  obtain ⟨t, p, q⟩ := h
  refine ⟨fun pins s σ H Q I z => ?_⟩
  obtain ⟨Y, F, δ, A, d, δ', S, e1, k⟩ := z
  exact p.run pins s σ H Q I (q Y F H δ σ A S d δ' e1 Q k)
abbrev Bk (X : Cx) (scope : Scope) (s : Shared) (H : Hp) (C : Addr) (cl : List (Str × Addr)) (fp : List Addr) : Cx := X.blk s H scope (compEnvC scope cl C X.env) fp
theorem lc_read {X : Cx} {T : Tt} {vs : List Nat} {f c fe} {R M Mt Me : List Nat} {wi : TI}
    (hi : ∀ (Y : Fx) (F H : Hp) (δ : List Sl) (σ : L2.St) (A : Nat → List Addr), SR X.K Y F H δ σ A → ∀ (ds : List D) (δ' : List Sl), f δ = some (ds, δ') → ∀ Q : It → Hp → Prop,
      (∀ J F' H', Stp A M F H F' H' → SR X.K Y F' H' δ' σ A → Wk X.K F' (ex R A F' H') J ds → Q J H') → wi σ H Q)
    (hT : ∀ j ∈ tS T, j ∈ vs) (dj : ∀ i ∈ R, i ∉ Mt ++ Me := by decide) (Y : Fx) (F H : Hp) (δ : List Sl) (σ : L2.St) (A : Nat → List Addr) (S : SR X.K Y F H δ σ A) (z : D) (δ' : List Sl) (e : fLc T vs f c fe δ = some (z, δ')) (Q : VK)
    (k : ∀ p F' H', Stp A (M ++ (Mt ++ Me)) F H F' H' → SR X.K Y F' H' δ' σ A → H p = none → F' p = none → OwnR X.K F' H' p z → Q (.ref p) H') :
    tLc wi (tGV X.K T) (tTV X.K c Mt) (tEV X.K fe [] Me) vs σ H Q := by
  unfold fLc at e
  cases e1 : f δ with
  | none => rw [e1] at e; cases e
  | some w =>
    obtain ⟨ds, δ1⟩ := w
    rw [e1] at e
    simp only [Option.bind_some] at e
    split at e
    · rename_i cn
      rw [Bool.and_eq_true, decide_eq_true_eq] at cn
      obtain ⟨cn, csz⟩ := cn
      cases e2 : compL T vs c fe ds δ1 with
      | none => rw [e2] at e; cases e
      | some w =>
        obtain ⟨zs, δ2⟩ := w
        rw [e2] at e
        cases e
        refine hi Y F H δ σ A S ds δ1 e1 _ fun J F1 H1 st S1 wk => ?_
        intro p hp
        have hpF : F1 p = none := S1.sub.free hp
        have hA : ∀ j ∈ vs, A j = [] := S1.noA cn
        have hio : ∀ j ∈ vs, Y.io j = false := fun j hj => by
          cases q : Y.io j with
          | false => rfl
          | true =>
            have h1 := (S1.fix j q).2
            rw [hA j hj] at h1
            exact absurd h1.symm (S1.ioA j q)
        have hl1 : ∀ j ∈ vs, j < δ1.length := fun j hj => (List.getElem?_eq_some_iff.mp (noS_at cn hj)).1
        have Sw : SR X.K Y F1 H1 δ1 (wipe σ vs) A := by
          have q := S1.wiped (vs := vs) (σ := σ) rfl hA hio hl1
          rw [wipeS_no cn] at q
          exact q
        -- the invariant
        let Inv_ : Nat → Hp → Prop := fun i H' => ∃ F' δ' zs' acc, Stp A (Mt ++ Me) F1 H1 F' H' ∧ SR X.K Y F' H' δ' (wipe σ vs) A ∧ H' p = some (.lst acc) ∧ F' p = none ∧ Rps X.K F' acc zs' ∧ acc.length ≤ i ∧ δ'.length = δ1.length ∧ noS vs δ' = true ∧
          ∃ zr, compL T vs c fe (ds.drop i) δ' = some (zr, δ2) ∧ zs = zs' ++ zr
        have start : Inv_ 0 (upd H1 p (.lst [])) := ⟨F1, δ1, [], [], Stp.laidO hp, Sw.laidO hp, upd_same, hpF, .nil, Nat.le_refl _, rfl, cn, zs, by rw [List.drop_zero]; exact e2, rfl⟩
        have seen : ∀ {F' H' δ'}, Stp A (Mt ++ Me) F1 H1 F' H' → SR X.K Y F' H' δ' (wipe σ vs) A → Same (ex R A F1 H1) H' := fun {F' H' δ'} st' S' a o ea => by
          unfold ex at ea
          by_cases ca : ∃ i ∈ R, a ∈ A i
          · rw [if_pos ca] at ea
            obtain ⟨i, hi, ha⟩ := ca
            refine st'.kp a o ea fun j hj hz => ?_
            have := S1.dis j i a hz ha
            subst this
            exact dj _ hi hj
          · rw [if_neg ca] at ea
            exact S'.sub a o (st'.f a o ea)
        refine ⟨fun i m H' => m = ds.length - i ∧ i ≤ ds.length ∧ Inv_ i H', ⟨ds.length, by simp, Nat.zero_le _, start⟩, ?_⟩
        rintro i m H' ⟨rfl, hi, F', δ', zs', acc, st', S', hD, hDF, ra, hal, hl, hno, zr, ec, ezs⟩
        have nA : ∀ j, p ∉ A j := fun j hj => S1.isSome hj hp
        by_cases hlt : i < ds.length
        · have hd : ds.drop i = ds[i] :: ds.drop (i + 1) := List.drop_eq_getElem_cons hlt
          rw [hd] at ec
          unfold compL at ec
          cases e3 : bindT T ds[i] δ' with
          | none => rw [e3] at ec; cases ec
          | some δ3 =>
            rw [e3] at ec
            simp only [Option.bind_some] at ec
            cases e4 : c δ3 with
            | none => rw [e4] at ec; cases ec
            | some w =>
              obtain ⟨b, δ4⟩ := w
              rw [e4] at ec
              simp only [Option.bind_some] at ec
              refine .inr ⟨wk.go i H' hlt (seen st' S'), fun H2 => Inv_ (i + 1) H2, fun H2 h => ⟨ds.length - (i + 1), by omega, rfl, by omega, h⟩, fun x H2 y => ?_⟩
              have main : ∀ F2, Stp A (Mt ++ Me) F1 H1 F2 H2 → Same F' F2 → SR X.K Y F2 H2 δ' (wipe σ vs) A → H2 p = some (.lst acc) → F2 p = none → Rp X.K F2 x ds[i] →
                  tGV X.K T x (wipe σ vs) H2 fun σ2 H2 => wipe σ2 vs = wipe σ vs ∧ tTV X.K c Mt σ2 H2 fun b H3 =>
                    if b = true then tEV X.K fe [] Me σ2 H3 fun y H4 => ∃ acc, H4 p = some (.lst acc) ∧ acc.length < sizeLine ∧ Inv_ (i + 1) (upd H4 p (.lst (acc ++ [y]))) else Inv_ (i + 1) H3 := by
                intro F2 st2 s2 S2 hD2 hF2 r2
                refine ⟨Y, F2, δ', A, ds[i], δ3, fun j hj => hio j (hT j hj), S2, r2, e3, fun σ3 A3 bt S3 => ?_⟩
                have eA : A3 = A := by
                  funext j
                  by_cases c : j ∈ tS T
                  · rw [bt.e j c, hA j (hT j c)]
                  · exact bt.a j c
                subst eA
                have hl3 : σ3.length = (wipe σ vs).length := by
                  rw [← S3.len, ← S2.len]
                  exact bindT_length e3
                have hw : wipe σ3 vs = wipe σ vs := by
                  have q : wipe σ3 vs = wipe (wipe σ vs) vs := wipe_eq hl3 fun j hj => bt.s j fun z => hj (hT j z)
                  rw [q]
                  exact wipe_eq (wipe_length _ _) fun j hj => wipe_out' hj
                refine ⟨hw, Y, F2, δ3, A3, b, δ4, S3, e4, fun F3 H3 st3 S4 => ?_⟩
                have st3' := (st2.trans S2 st3).mono (M' := Mt ++ Me) fun j hj => by
                  rcases List.mem_append.mp hj with z | z
                  · exact z
                  · exact List.mem_append_left _ z
                have hD3 : H3 p = some (.lst acc) := st3.kp p _ hD2 fun j _ hz => nA j hz
                have hF3 : F3 p = none := by
                  cases q : F3 p with
                  | none => rfl
                  | some o =>
                    have := st3.nw p hF2 (by rw [q]; simp)
                    rw [hD2] at this
                    cases this
                have hl4 : δ4.length = δ1.length := by
                  rw [S4.len, hl3, ← S2.len]
                  exact hl
                have hls4 : ∀ j ∈ vs, j < δ4.length := fun j hj => by rw [hl4]; exact hl1 j hj
                cases b with
                | false =>
                  refine iteF ⟨F3, wipeS vs δ4, zs', acc, st3', S4.wiped hw hA hio hls4, hD3, hF3, ra.mono (s2.trans st3.f), by omega, by rw [wipeS_length]; exact hl4, ?_, zr, ec, ezs⟩
                  exact List.all_eq_true.mpr fun j hj => by rw [wipeS_in hj (hls4 j hj)]
                | true =>
                  refine iteT ?_
                  simp only at ec
                  cases e5 : fe δ4 with
                  | none => rw [e5] at ec; cases ec
                  | some w =>
                    obtain ⟨d, δ5⟩ := w
                    rw [e5] at ec
                    simp only [Option.bind_some] at ec
                    cases e6 : compL T vs c fe (ds.drop (i + 1)) (wipeS vs δ5) with
                    | none => rw [e6] at ec; cases ec
                    | some w =>
                      obtain ⟨zr', δ6⟩ := w
                      rw [e6] at ec
                      simp only [Option.map_some, Option.some.injEq, Prod.mk.injEq] at ec
                      obtain ⟨rfl, rfl⟩ := ec
                      refine ⟨Y, F3, δ4, A3, d, δ5, S4, e5, fun v F4 H4 st4 S5 r4 => ?_⟩
                      have st4' := (st3'.trans S4 st4).mono (M' := Mt ++ Me) fun j hj => by
                        rcases List.mem_append.mp hj with z | z
                        · exact z
                        · exact List.mem_append_right _ z
                      have hD4 : H4 p = some (.lst acc) := st4.kp p _ hD3 fun j _ hz => nA j hz
                      have hF4 : F4 p = none := by
                        cases q : F4 p with
                        | none => rfl
                        | some o =>
                          have := st4.nw p hF3 (by rw [q]; simp)
                          rw [hD3] at this
                          cases this
                      have hl5 : δ5.length = δ1.length := by
                        rw [S5.len, hl3, ← S2.len]
                        exact hl
                      have hls5 : ∀ j ∈ vs, j < δ5.length := fun j hj => by rw [hl5]; exact hl1 j hj
                      have Sf : SR X.K Y F4 (upd H4 p (.lst (acc ++ [v]))) δ5 σ3 A3 := S5.upd_free hF4 nA (by
                        cases q : Y.H0 p with
                        | none => rfl
                        | some o => rw [S1.fresh0 hp] at q; cases q)
                      refine ⟨acc, hD4, by omega, F4, wipeS vs δ5, zs' ++ [d], acc ++ [v], ?_, Sf.wiped hw hA hio hls5, upd_same, hF4, ((ra.mono ((s2.trans st3.f).trans st4.f)).append (.cons r4.nil .nil)), by rw [List.length_append]; simp; omega, by rw [wipeS_length]; exact hl5, ?_, zr', e6, by rw [ezs, List.append_assoc]; rfl⟩
                      · exact ⟨st4'.f, st4'.nw, fun a o ea hn => by rw [upd_ne (ne_of_none ea hp)]; exact st4'.kp a o ea hn⟩
                      · exact List.all_eq_true.mpr fun j hj => by rw [wipeS_in hj (hls5 j hj)]
              have sE := seen st' S'
              rcases wk.yld i H' x H2 _ sE y (List.getElem?_eq_getElem hlt) with ⟨rfl, r⟩ | ⟨U, xs, es, nU, rfl, rfl, e5, r⟩
              · exact main F' st' (Same.refl _) S' hD hDF (r.mono st'.f)
              · have l := Stp.laid (M := []) (o := .tup xs) S' nU
                have npU : p ≠ U := ne_of_none hD nU
                refine main _ (stp_nil S' st' l) l.f (S'.laid nU) (by rw [upd_ne npU]; exact hD) (by rw [upd_ne npU]; exact hDF) ?_
                rw [e5]
                exact .tup (.inl (.inl upd_same)) (r.mono (st'.f.trans l.f))
        · have hi2 : i = ds.length := by omega
          subst hi2
          rw [List.drop_length] at ec
          unfold compL at ec
          simp only [Option.some.injEq, Prod.mk.injEq] at ec
          obtain ⟨rfl, rfl⟩ := ec
          rw [List.append_nil] at ezs
          subst ezs
          refine .inl ⟨wk.stop H' (seen st' S'), k p F' H' (st.trans S1 st') ?_ (back st S1 hp) hDF ⟨acc, hD, ra⟩⟩
          -- the outer slots again
          refine ⟨by rw [S'.len, wipe_length], fun j t et => ?_, S'.out, S'.dis, S'.hid, S'.new, S'.sub, fun j h1 => ?_, S'.ioA, S'.kp, S'.nw, S'.f0⟩
          · by_cases cj : j ∈ vs
            · rw [noS_at hno cj] at et
              cases et
              exact hA j cj
            · have := S'.slot j t et
              rw [wipe_out' cj] at this
              exact this
          · have cj : j ∉ vs := fun z => by rw [hio j z] at h1; cases h1
            have := S'.fix j h1
            rw [wipe_out' cj] at this
            exact this
    · cases e
section
variable {X : Cx} {T : Tt} {f c fe} {R M Mt Me : List Nat} {elt tg iter : Expr} {ifs : List Expr} {scope : Scope} {own : List (Str × Nat)} {pos : Pos}
/-- [elt for tg in iter if ..] -/
theorem nv_lc (hc : X.calm = true) (hN : X.N.Nodup) (hi : IV X tg iter f R M) (ok : BlkOk X.N X.env.scope scope own) (hg : ∀ s H C cl fp, GV (Bk X scope s H C cl fp) tg T) (ht : ∀ s H C cl fp, TsV (Bk X scope s H C cl fp) ifs c Mt) (he : ∀ s H C cl fp, EV (Bk X scope s H C cl fp) elt fe [] Me)
    (hs : ∀ x, foldedSetIterable iter X.env x = pure x := by intro _; rfl) (hT : ∀ j ∈ tS T, j ∈ own.map (·.2) := by decide) (dj : ∀ i ∈ R, i ∉ Mt ++ Me := by decide) : NV X (.ListComp elt [⟨tg, iter, ifs, 0⟩] scope pos) (fLc T (own.map (·.2)) f c fe) (M ++ (Mt ++ Me)) := by
  obtain ⟨wi, pw, qi⟩ := hi
  refine ⟨_, pe_lc (g := tGV X.K T) (tt := tTV X.K c Mt) (te := tEV X.K fe [] Me) hc hN pw ok (fun s H C cl fp => (hg s H C cl fp).pg) (fun s H C cl fp => (ht s H C cl fp).pts) (fun s H C cl fp => (he s H C cl fp).pe) hs, fun Y F H δ σ A S z δ' e Q k => ?_⟩
  exact lc_read qi hT dj Y F H δ σ A S z δ' e Q k
/-- x = [..] on one line -/
theorem sv_lc {io : Nat → Bool} {fr : Bool} {i : Nat} {y : Str} {py spos : Pos} (hc : X.calm = true) (hN : X.N.Nodup) (hy : X.N[i]? = some y) (hyl : X.env.scope.names.lookup y = some .local) (hsw : swapsWith (.ListComp elt [⟨tg, iter, ifs, 0⟩] scope pos) (some (.Name y py)) spos.line X.env = pure true)
    (hi : IV X tg iter f R M) (ok : BlkOk X.N X.env.scope scope own) (hg : ∀ s H C cl fp, GV (Bk X scope s H C cl fp) tg T) (ht : ∀ s H C cl fp, TsV (Bk X scope s H C cl fp) ifs c Mt) (he : ∀ s H C cl fp, EV (Bk X scope s H C cl fp) elt fe [] Me)
    (hs : ∀ x, foldedSetIterable iter X.env x = pure x := by intro _; rfl) (hT : ∀ j ∈ tS T, j ∈ own.map (·.2) := by decide) (dj : ∀ i ∈ R, i ∉ Mt ++ Me := by decide) (hio : io i = false) : SV X io fr (.Assign [.Name y py] (.ListComp elt [⟨tg, iter, ifs, 0⟩] scope pos) spos) (sOwn i (fLc T (own.map (·.2)) f c fe)) := by
  obtain ⟨wi, pw, qi⟩ := hi
  refine ⟨_, ps_setLc (g := tGV X.K T) (tt := tTV X.K c Mt) (te := tEV X.K fe [] Me) hc hN hy hyl hsw pw ok (fun s H C cl fp => (hg s H C cl fp).pg) (fun s H C cl fp => (ht s H C cl fp).pts) (fun s H C cl fp => (he s H C cl fp).pe) hs, fun Y F H δ σ A hY S o e D k => ?_⟩
  unfold sOwn at e
  cases e1 : fLc T (own.map (·.2)) f c fe δ with
  | none => rw [e1] at e; cases e
  | some w =>
    obtain ⟨d, δ1⟩ := w
    rw [e1] at e
    simp only [Option.bind_some] at e
    split at e
    · rename_i hi
      cases e
      refine lc_read qi hT dj Y F H δ σ A S d δ1 e1 _ fun p F1 H1 st S1 n hF r => ?_
      exact k _ F1 H1 _ st.f (S1.putOw hi (by rw [hY]; exact hio) (S.fresh0 n) hF (fun j hj => S.isSome hj n) r)
    · cases e
end
end Z

/-! Zb: the defs of the text: what each promises, its call, its body. -/
namespace Z
open PySem PySem.Spec PyProof.Rows L2

/-- a def keeps its promise, called where no text of an object is being made -/
structure FnG (P : Program) (w : World) (K : PySem.W.Frag) (mg : Str → Option Value) (base : Heap) (CX : CXT) (k : Nat) (f : Addr) (fd : FuncData) (ps : List Str) (sp : Sp) : Prop where
  len : ∀ us G Q E, sp us G Q E → us.length = ps.length
  run : ∀ (A : Around) (out : List Env) (s : Shared) (G : Hp) (ar : Args) (ws : List Value) (us : List V) (Q : VK) (E : XK), A.guards = some [] → Room k A → Env0 P w K mg base A out s G → BindsTo s fd ar (ps.zip ws) → Vals us ws → sp us G Q E →
    codeAny (model P w) A (.call (.ref f) ar) (CR CX out P w G s Q E) s

section
variable {P : Program} {w : World} {K : PySem.W.Frag} {mg : Str → Option Value} {base : Heap} {CX : CXT} {k : Nat} {f : Addr} {fd : FuncData} {ps : List Str} {sp : Sp}
/-- a def of the text, by its body -/
theorem FnG.mk' {x qual : Str} {st : Stmt} {N : List Str} (Fu : Fun K x qual st f fd) (S : FnScope N ps (defScope st)) (len : ∀ us G Q E, sp us G Q E → us.length = ps.length)
    (body : ∀ (cd : Value) (A : Around) (out : List Env) (s : Shared) (G : Hp) (us : List V) (Q : VK) (E : XK), A.guards = some [] → Room k (A.deeper (envOfC qual (defScope st) s.heap.objs.size f cd)) → sp us G Q E →
      ∃ t, PSs (cxOf CX P w K mg base N qual (defScope st) f cd A out s G E) (defBody st) t ∧ t { nx := fun _ G' => Q .non G', rt := Q } (start N us) G) : FnG P w K mg base CX (k + 1) f fd ps sp := by
  obtain ⟨oc, od, kV, doc, pm, an, cd, ct, osl, rfl, lk, hcd⟩ := Fu.ex
  refine ⟨len, ?_⟩
  intro A out s G ar ws us Q E hG hR e0 hb hv hsp
  have n := len _ _ _ _ hsp
  have inK : K.In s.heap := e0.mod.kin.keeps (fun b o e => (e0.bs b o e).1)
  have room : s.heap.NoLimit := e0.mod.nolimit.keeps (fun b o e => (e0.bs b o e).1)
  have kinds : ∀ y ∈ ps.zip ws, (defScope st).names.lookup y.1 = some .local ∨ ((defScope st).names.lookup y.1 = some .cell ∧ ((cellsFrom (s.heap.objs.size + 1) (defScope st).names []).lookup y.1).isSome = true) := by
    rintro ⟨m, v⟩ hy
    rcases S.par m (List.of_mem_zip hy).1 with q | q
    · exact .inl q
    · exact .inr ⟨q, PySem.W.cellsFrom_some _ _ _ (.inl q)⟩
  refine codeAny_call_function hR.depth (inK _ _ lk) rfl S.co S.gen rfl (PySem.W.codeRec_of inK hcd) (hb _ _ _ _ ?_)
  refine wpAny_newFunctionEnv_cells S.kind kinds fun env he s1 x => ?_
  subst he
  refine ⟨room.keeps x.toInCall.keep, codeAny_func ?_⟩
  obtain ⟨t, ht, hq⟩ := body cd A out s G us Q E hG (hR.deeper _) hsp
  have J0 := inv_start (CX := CX) (E := E) S hR.hd e0 n hv x
  refine wpAny_mono (ht.run [] s1 (start N us) G _ J0 hq) (fun fl s2 hs => ?_) (fun _ _ hs => hs)
  cases fl with
  | ret u =>
    obtain ⟨v, σ2, G2, J, rv, q⟩ := hs
    exact ⟨v, G2, J.os, J.bare, J.base, J.hok, rv, q⟩
  | next =>
    obtain ⟨σ2, G2, J, q⟩ := hs
    exact ⟨.non, G2, J.os, J.bare, J.base, J.hok, rfl, q⟩
  | brk =>
    obtain ⟨_, _, _, q⟩ := hs
    exact q.elim
  | cont =>
    obtain ⟨_, _, _, q⟩ := hs
    exact q.elim
end
section
variable {X : Cx} {CX : CXT} {k : Nat} {f : Addr} {fd : FuncData} {ps : List Str} {sp : Sp} {E : XK} {x : Str} {p pos : Pos} {e : Expr} {es : List Expr} {t : TA}
/-- its call by name -/
theorem FnG.pe (Fn : FnG X.prog X.w X.K X.mg X.base CX k f fd ps sp) (hG : X.A.guards = some []) (hR : Room k X.A) (gl : Gl X x) (m : X.mg x = some (.ref f)) (kp : PySem.W.keepIn X.K (.ref f) = true) (hb : Binds X.K fd ps []) (hx : Passes CX X E)
    (ha : PA X (e :: es) t) (db : (x == ("__debug__" : Str)) = false) (h1 : starEach (e :: es) X.env = (false, eval e X.env) :: starEach es X.env) (h2 : (backTo pos (starEach es X.env)).any (·.1) = false) :
    PE X (.Call (.Name x p) (e :: es) [] pos) (tCall sp [] E t) := by
  constructor
  intro pins s σ G Q I h
  refine wpAny_Call_Name_kw (ld_glob I gl m ?_ db)
  refine PySem.W.callWith_K (h₀ := X.base) I.ok.mod.kin kp (thn (ha.run pos pins s σ G _ I h) ?_) h1 h2
  rintro ws s1 ⟨us, G1, I1, r, q⟩
  refine ⟨I1.kIn, ?_⟩
  rw [List.append_nil] at q
  have n := Fn.len _ _ _ _ q
  have n2 : (ws ++ []).length = ps.length := by rw [List.append_nil, ← r.length]; exact n
  have b := hb s1 ws I1.kIn n2
  rw [List.append_nil] at b
  refine wpAny_call (codeAny_mono (Fn.run X.A X.stack s1 G1 ⟨ws, []⟩ ws us Q E hG hR I1.env0 b r q) ?_)
  intro res s2 hq
  cases res with
  | error er => exact hx pins σ G1 s1 er s2 I1 hq
  | ok fl =>
    cases fl with
    | ret u => exact I1.after hq
    | next => exact hq.elim
    | brk => exact hq.elim
    | cont => exact hq.elim
end

/-! ### the promise, by data -/
def isOwn : Sl → Bool
  | .ow _ => true
  | .lk _ => true
  | .dk _ _ _ => true
  | _ => false
def Ret (K : PySem.W.Frag) (fr : Bool) (H F' H' : Hp) (v : V) (d : D) : Prop :=
  match fr with
  | false => Rp K F' v d
  | true => ∃ p, v = .ref p ∧ H p = none ∧ F' p = none ∧ OwnR K F' H' p d
def spF (K : PySem.W.Frag) (n : Nat) (fr : Bool) (φ : List Sl → Option (D × List Sl)) : Sp := fun us H Q _ =>
  ∃ (F : Hp) (as : List Sl) (A : Nat → List Addr), as.length = n ∧ SR K Fx.any F H as (us.map some) A ∧ ∃ d outs, φ as = some (d, outs) ∧
    ∀ v F' H', Stp A (List.range n) F H F' H' → SR K Fx.any F' H' outs (us.map some) A → Ret K fr H F' H' v d → Q v H'
theorem spF_len {K : PySem.W.Frag} {n : Nat} {fr : Bool} {φ} {us : List V} {H : Hp} {Q : VK} {E : XK} (h : spF K n fr φ us H Q E) : us.length = n := by
  obtain ⟨F, as, A, hn, S, _⟩ := h
  have := S.len
  rw [List.length_map] at this
  omega
/-- the arguments as they are behind the call -/
def mergeO : List Sl → List Sl → Option (List Sl)
  | [], _ => some []
  | a :: r, b :: s => match isOwn a with
    | true => match isOwn b with
      | true => (mergeO r s).map (b :: ·)
      | false => none
    | false => (mergeO r s).map (a :: ·)
  | _ :: _, [] => none
def okArgs (sg : List Bool) (as : List Sl) : Bool := decide (as.map isOwn = sg)
/-- what a def does, by its body -/
def fnF (sg : List Bool) (m : Nat) (fr : Bool) (g : List Sl → Option Out) : List Sl → Option (D × List Sl) := fun as =>
  if okArgs sg as then
    match g (as ++ List.replicate (m - sg.length) .no) with
    | some (.rt d δ) => (mergeO as δ).map fun o => (d, o)
    | some (.nx δ) => match fr with
      | false => (mergeO as δ).map fun o => (.none, o)
      | true => none
    | _ => none
  else none
theorem mergeO_length : ∀ {as δ o : List Sl}, mergeO as δ = some o → o.length = as.length
  | [], _, _, h => by cases h; rfl
  | a :: r, b :: s, o, h => by
    unfold mergeO at h
    split at h
    · split at h
      · cases e : mergeO r s with
        | none => rw [e] at h; cases h
        | some z => rw [e] at h; cases h; exact congrArg (· + 1) (mergeO_length e)
      · cases h
    · cases e : mergeO r s with
      | none => rw [e] at h; cases h
      | some z => rw [e] at h; cases h; exact congrArg (· + 1) (mergeO_length e)
  | _ :: _, [], _, h => by cases h
theorem mergeO_get : ∀ {as δ o : List Sl} {i : Nat} {a : Sl}, mergeO as δ = some o → as[i]? = some a → (isOwn a = true ∧ ∃ b, δ[i]? = some b ∧ isOwn b = true ∧ o[i]? = some b) ∨ (isOwn a = false ∧ o[i]? = some a)
  | [], _, _, _, _, _, e => by simp at e
  | a :: r, b :: s, o, i, c, h, e => by
    unfold mergeO at h
    split at h
    · rename_i ha
      split at h
      · rename_i hb
        cases e1 : mergeO r s with
        | none => rw [e1] at h; cases h
        | some z =>
          rw [e1] at h
          cases h
          cases i with
          | zero => cases e; exact .inl ⟨ha, b, rfl, hb, rfl⟩
          | succ i => exact mergeO_get (i := i) e1 e
      · cases h
    · rename_i ha
      cases e1 : mergeO r s with
      | none => rw [e1] at h; cases h
      | some z =>
        rw [e1] at h
        cases h
        cases i with
        | zero =>
          cases e
          refine .inr ⟨?_, rfl⟩
          cases q : isOwn a with
          | false => rfl
          | true => exact absurd q (by simpa using ha)
        | succ i => exact mergeO_get (i := i) e1 e
  | _ :: _, [], _, _, _, h, _ => by cases h
def ioOf (sg : List Bool) (i : Nat) : Bool := sg.getD i false
section
variable {K : PySem.W.Frag} {F H F' H' : Hp} {as : List Sl} {us : List V} {A : Nat → List Addr}
theorem own_none {s : Sl} {v : Option V} {B : List Addr} (h : SlotR K F H s v B) (n : isOwn s = false) : B = [] := by
  cases s with
  | no => exact h
  | fz d => exact h.1
  | ow d => cases n
  | lk d => cases n
  | dk _ _ _ => cases n
  | scr _ => exact h.1
theorem own_some {s : Sl} {v : Option V} {B : List Addr} (h : SlotR K F H s v B) (n : isOwn s = true) : B ≠ [] := by
  cases s with
  | no => cases n
  | fz d => cases n
  | ow d => obtain ⟨p, _, e, _⟩ := h; rw [e]; simp
  | lk d => obtain ⟨p, _, e, _⟩ := h; rw [e]; simp
  | dk _ _ _ => obtain ⟨p, q, _, e, _⟩ := h; rw [e]; simp
  | scr _ => cases n
/-- the entry of a body -/
theorem SR.entry {sg : List Bool} {N : List Str} (S : SR K Fx.any F H as (us.map some) A) (h : okArgs sg as = true) (hN : sg.length ≤ N.length) :
    SR K ⟨ioOf sg, H, F, start N us, A⟩ F H (as ++ List.replicate (N.length - sg.length) .no) (start N us) A := by
  have hsg : as.map isOwn = sg := by simpa [okArgs] using h
  have l1 : as.length = sg.length := by rw [← hsg, List.length_map]
  have l2 : as.length = us.length := by have := S.len; rwa [List.length_map] at this
  have own : ∀ i a, as[i]? = some a → ioOf sg i = isOwn a := fun i a e => by
    unfold ioOf
    rw [← hsg, List.getD_eq_getElem?_getD, List.getElem?_map, e]
    rfl
  have ino : ∀ i, ioOf sg i = true → ∃ a, as[i]? = some a ∧ isOwn a = true := fun i h => by
    cases e : as[i]? with
    | none =>
      unfold ioOf at h
      rw [← hsg, List.getD_eq_getElem?_getD, List.getElem?_map, e] at h
      cases h
    | some a => exact ⟨a, rfl, by rw [← own i a e]; exact h⟩
  refine ⟨?_, fun i s e => ?_, fun i e => ?_, S.dis, S.hid, fun i a ha hi => ?_, S.sub, fun i _ => ⟨rfl, rfl⟩, fun i hi => ?_, fun _ _ e _ => e, fun _ e n => absurd e n, Same.refl _⟩
  · unfold L2.start
    rw [List.length_append, List.length_replicate, List.length_append, List.length_map, List.length_replicate]
    omega
  · by_cases c : i < as.length
    · rw [List.getElem?_append_left c] at e
      have := S.slot i s e
      unfold L2.start
      rw [List.getElem?_append_left (by rw [List.length_map]; omega)]
      exact this
    · rw [List.getElem?_append_right (by omega), List.getElem?_replicate] at e
      split at e
      · cases e
        exact S.out i (List.getElem?_eq_none (by omega))
      · cases e
  · have : as.length ≤ i := by
      have := List.getElem?_eq_none_iff.mp e
      rw [List.length_append] at this
      omega
    exact S.out i (List.getElem?_eq_none this)
  · cases e : as[i]? with
    | none => rw [S.out i e] at ha; simp at ha
    | some s =>
      rw [own_none (S.slot i s e) (by rw [← own i s e]; exact hi)] at ha
      simp at ha
  · obtain ⟨a, e, ho⟩ := ino i hi
    exact own_some (S.slot i a e) ho
/-- its end -/
theorem SR.leave {sg : List Bool} {N : List Str} {δ' outs : List Sl} {σ' : L2.St} {A' : Nat → List Addr} (S : SR K Fx.any F H as (us.map some) A) (h : okArgs sg as = true) (hN : sg.length ≤ N.length) (S' : SR K ⟨ioOf sg, H, F, start N us, A⟩ F' H' δ' σ' A') (hm : mergeO as δ' = some outs) :
    Stp A (List.range sg.length) F H F' H' ∧ SR K Fx.any F' H' outs (us.map some) A := by
  have hsg : as.map isOwn = sg := by simpa [okArgs] using h
  have l1 : as.length = sg.length := by rw [← hsg, List.length_map]
  have l2 : as.length = us.length := by have := S.len; rwa [List.length_map] at this
  have own : ∀ i a, as[i]? = some a → ioOf sg i = isOwn a := fun i a e => by
    unfold ioOf
    rw [← hsg, List.getD_eq_getElem?_getD, List.getElem?_map, e]
    rfl
  have nul : ∀ i, ioOf sg i = false → A i = [] := fun i hi => by
    cases e : as[i]? with
    | none => exact S.out i e
    | some s => exact own_none (S.slot i s e) (by rw [← own i s e]; exact hi)
  have lo := mergeO_length hm
  have eqA : ∀ i, ioOf sg i = true → A' i = A i := fun i hi => (S'.fix i hi).2
  have small : ∀ i, ioOf sg i = true → i < sg.length := fun i hi => by
    cases Nat.lt_or_ge i sg.length with
    | inl h => exact h
    | inr h =>
      unfold ioOf at hi
      rw [List.getD_eq_getElem?_getD, List.getElem?_eq_none h] at hi
      cases hi
  refine ⟨⟨S'.f0, S'.nw, fun a o e n => S'.kp a o e fun i hi z => n i (List.mem_range.mpr (small i hi)) z⟩, ?_⟩
  refine ⟨by rw [lo]; exact S.len, fun i s e => ?_, fun i e => ?_, S.dis, fun i a ha => ?_, fun _ _ _ _ => rfl, S'.sub, fun i hi => ?_, fun i hi => ?_, fun _ _ e => ?_, fun _ _ _ => rfl, fun _ _ e => ?_⟩
  · have hi : i < as.length := by rw [← lo]; exact (List.getElem?_eq_some_iff.mp e).1
    obtain ⟨a, ea⟩ : ∃ a, as[i]? = some a := ⟨_, List.getElem?_eq_getElem hi⟩
    rcases mergeO_get hm ea with ⟨h1, b, h2, h3, h4⟩ | ⟨h1, h2⟩
    · rw [e] at h4
      cases h4
      have io : ioOf sg i = true := by rw [own i a ea]; exact h1
      have q := S'.slot i s h2
      obtain ⟨f1, f2⟩ := S'.fix i io
      rw [f1, f2] at q
      have : (start N us)[i]? = (us.map some)[i]? := by
        unfold L2.start
        rw [List.getElem?_append_left (by rw [List.length_map]; omega)]
      rw [show (⟨ioOf sg, H, F, start N us, A⟩ : Fx).σ0 = start N us from rfl, this] at q
      exact q
    · rw [e] at h2
      cases h2
      have io : ioOf sg i = false := by rw [own i s ea]; exact h1
      refine (S.slot i s ea).mono S'.f0 fun a ha => ?_
      rw [nul i io] at ha
      simp at ha
  · exact S.out i (List.getElem?_eq_none (by rw [← lo]; exact List.getElem?_eq_none_iff.mp e))
  · cases c : ioOf sg i with
    | true =>
      rw [← eqA i c] at ha
      exact S'.hid i a ha
    | false =>
      rw [nul i c] at ha
      simp at ha
  · cases hi
  · cases hi
  · cases e
  · cases e
end
section
variable {P : Program} {w : World} {K : PySem.W.Frag} {mg : Str → Option Value} {base : Heap} {CX : CXT} {k : Nat} {f : Addr} {fd : FuncData} {ps : List Str}
/-- THE RULE: a def does what its body does -/
theorem fn_ok {x qual : Str} {st : Stmt} {N : List Str} {sg : List Bool} {fr : Bool} {g : List Sl → Option Out} (Fu : Fun K x qual st f fd) (S : FnScope N ps (defScope st)) (hl : sg.length = ps.length)
    (body : ∀ (cd : Value) (A : Around) (out : List Env) (s : Shared) (G : Hp) (E : XK), A.guards = some [] → Room k (A.deeper (envOfC qual (defScope st) s.heap.objs.size f cd)) → BV (cxOf CX P w K mg base N qual (defScope st) f cd A out s G E) (ioOf sg) fr (defBody st) g) :
    FnG P w K mg base CX (k + 1) f fd ps (spF K ps.length fr (fnF sg N.length fr g)) := by
  have hN : sg.length ≤ N.length := by
    rw [hl]
    have := congrArg List.length S.pre
    rw [List.length_take] at this
    omega
  refine FnG.mk' Fu S (fun us G Q E h => spF_len h) fun cd A out s G us Q E hG hR h => ?_
  obtain ⟨t, p, q⟩ := body cd A out s G E hG hR
  refine ⟨t, p, ?_⟩
  obtain ⟨F, as, B, hn, S0, d, outs, hφ, kk⟩ := h
  unfold fnF at hφ
  split at hφ
  · rename_i ok
    have S1 := S0.entry ok hN
    cases e : g (as ++ List.replicate (N.length - sg.length) .no) with
    | none => rw [e] at hφ; cases hφ
    | some o =>
      rw [e] at hφ
      refine q ⟨ioOf sg, G, F, start N us, B⟩ F G _ (start N us) B rfl S1 o e _ ?_
      cases o with
      | rt d1 δ1 =>
        simp only at hφ
        cases e2 : mergeO as δ1 with
        | none => rw [e2] at hφ; cases hφ
        | some o =>
          rw [e2] at hφ
          cases hφ
          intro v σ' F' G' B' sF S2 r
          obtain ⟨st', S3⟩ := S0.leave ok hN S2 e2
          rw [hl] at st'
          refine kk v F' G' st' S3 ?_
          cases fr with
          | false => exact r
          | true =>
            obtain ⟨p', rv, h0, hF, _, ow⟩ := r
            exact ⟨p', rv, h0, hF, ow⟩
      | nx δ1 =>
        cases fr with
        | true => cases hφ
        | false =>
          simp only at hφ
          cases e2 : mergeO as δ1 with
          | none => rw [e2] at hφ; cases hφ
          | some o =>
            rw [e2] at hφ
            cases hφ
            intro σ' F' G' B' sF S2
            obtain ⟨st', S3⟩ := S0.leave ok hN S2 e2
            rw [hl] at st'
            exact kk .non F' G' st' S3 .non
      | ct δ1 => cases hφ
  · cases hφ
end
end Z

/-! Zc: calls of the text's own defs, by data. -/
namespace Z
open PySem PySem.Spec PyProof.Rows L2
/-- an argument: a datum, or what a slot owns, handed on -/
inductive Ar where
  | d (d : D)
  | io (i : Nat)
def ArR (K : PySem.W.Frag) (F H : Hp) (A : Nat → List Addr) (R : List Nat) (σ : L2.St) : List V → List Ar → Prop
  | [], [] => True
  | v :: vs, .d d :: r => Vw K F H A R v d ∧ ArR K F H A R σ vs r
  | v :: vs, .io i :: r => σ[i]? = some (some v) ∧ ArR K F H A R σ vs r
  | _, _ => False
def CV (X : Cx) (es : List Expr) (f : List Sl → Option (List Ar × List Sl)) (R M : List Nat) : Prop :=
  ∃ t, PA X es t ∧ ∀ (Y : Fx) (F H : Hp) (δ : List Sl) (σ : L2.St) (A : Nat → List Addr), SR X.K Y F H δ σ A → ∀ (as : List Ar) (δ' : List Sl), f δ = some (as, δ') → ∀ Q : List V → Hp → Prop,
    (∀ vs F' H', Stp A M F H F' H' → SR X.K Y F' H' δ' σ A → ArR X.K F' H' A R σ vs as → Q vs H') → t σ H Q
def kNil : List Sl → Option (List Ar × List Sl) := fun δ => some ([], δ)
def kCons (fa : List Sl → Option (D × List Sl)) (fr : List Sl → Option (List Ar × List Sl)) : List Sl → Option (List Ar × List Sl) := fun δ => (fa δ).bind fun p => (fr p.2).map fun q => (.d p.1 :: q.1, q.2)
def ownAt (i : Nat) (δ : List Sl) : Bool := match δ[i]? with
  | some s => isOwn s
  | none => false
def kIo (i : Nat) (fr : List Sl → Option (List Ar × List Sl)) : List Sl → Option (List Ar × List Sl) := fun δ => if ownAt i δ then (fr δ).map fun q => (.io i :: q.1, q.2) else none
section
variable {X : Cx}
theorem ArR.mono {K : PySem.W.Frag} {F H : Hp} {A : Nat → List Addr} {R R' : List Nat} {σ : L2.St} (s : ∀ i ∈ R, i ∈ R') : ∀ {vs : List V} {as : List Ar}, ArR K F H A R σ vs as → ArR K F H A R' σ vs as
  | [], [], _ => trivial
  | v :: vs, .d d :: r, ⟨h, t⟩ => ⟨h.mono s, ArR.mono s t⟩
  | v :: vs, .io i :: r, ⟨h, t⟩ => ⟨h, ArR.mono s t⟩
  | [], _ :: _, h => h.elim
  | _ :: _, [], h => h.elim
theorem cv_nil : CV X [] kNil [] [] := by
  refine ⟨_, pa_nil, fun Y F H δ σ A S d' δ' e Q k => ?_⟩
  cases e
  exact k _ _ _ Stp.refl S trivial
theorem cv_cons {a : Expr} {es : List Expr} {fa fr} {Ra Rr Ma Mr : List Nat} (ha : EV X a fa Ra Ma) (hr : CV X es fr Rr Mr) (dj : ∀ i ∈ Ra, i ∉ Mr := by decide) (hs : starEach (a :: es) X.env = (false, eval a X.env) :: starEach es X.env := by rfl) : CV X (a :: es) (kCons fa fr) (Ra ++ Rr) (Ma ++ Mr) := by
  obtain ⟨ta, pa, qa⟩ := ha
  obtain ⟨tb, pb, qb⟩ := hr
  refine ⟨_, pa_cons pa pb hs, fun Y F H δ σ A S ds δ' e Q k => ?_⟩
  unfold kCons at e
  cases e1 : fa δ with
  | none => rw [e1] at e; cases e
  | some p =>
    obtain ⟨d, δ1⟩ := p
    rw [e1] at e
    simp only [Option.bind_some] at e
    cases e2 : fr δ1 with
    | none => rw [e2] at e; cases e
    | some q =>
      obtain ⟨r, δ2⟩ := q
      rw [e2] at e
      cases e
      refine qa Y F H δ σ A S d δ1 e1 _ fun x F1 H1 st1 S1 r1 => ?_
      refine qb Y F1 H1 δ1 σ A S1 r _ e2 _ fun y F2 H2 st2 S2 r2 => ?_
      exact k _ F2 H2 (st1.trans S1 st2) S2 ⟨(r1.step S1 st2 dj).mono fun i hi => List.mem_append_left _ hi, r2.mono fun i hi => List.mem_append_right _ hi⟩
theorem own_ref {K : PySem.W.Frag} {F H : Hp} {s : Sl} {v : Option V} {B : List Addr} (h : SlotR K F H s v B) (n : isOwn s = true) : ∃ p, v = some (.ref p) := by
  cases s with
  | no => cases n
  | fz d => cases n
  | ow d => obtain ⟨p, e, _⟩ := h; exact ⟨p, e⟩
  | lk d => obtain ⟨p, e, _⟩ := h; exact ⟨p, e⟩
  | dk _ _ _ => obtain ⟨p, q, e, _⟩ := h; exact ⟨p, e⟩
  | scr _ => cases n
theorem cv_io {i : Nat} {x : Str} {pos : Pos} {es : List Expr} {fr} {R M : List Nat} (n : Nm X i x) (hr : CV X es fr R M) (hs : starEach (.Name x pos :: es) X.env = (false, eval (.Name x pos) X.env) :: starEach es X.env := by rfl) : CV X (.Name x pos :: es) (kIo i fr) R M := by
  obtain ⟨tb, pb, qb⟩ := hr
  refine ⟨_, pa_cons n.pe pb hs, fun Y F H δ σ A S ds δ' e Q k => ?_⟩
  unfold kIo at e
  split at e
  · rename_i ho
    cases e2 : fr δ with
    | none => rw [e2] at e; cases e
    | some q =>
      obtain ⟨r, δ2⟩ := q
      rw [e2] at e
      cases e
      unfold ownAt at ho
      split at ho
      · rename_i s hs'
        obtain ⟨p, ep⟩ := own_ref (S.slot i s hs') ho
        refine ⟨.ref p, jn_some ep, ?_⟩
        exact qb Y F H δ σ A S r _ e2 _ fun y F2 H2 st2 S2 r2 => k _ F2 H2 st2 S2 ⟨jn_some ep, r2⟩
      · cases ho
  · cases e

/-! ### a call -/
def ios : List Ar → List Nat
  | [] => []
  | .d _ :: r => ios r
  | .io i :: r => i :: ios r
def reso (δ : List Sl) : Ar → Sl
  | .d d => .fz d
  | .io i => δ[i]?.getD .no
/-- what the slots handed on are behind the call -/
def wback : List Ar → List Sl → List Sl → List Sl
  | .io i :: r, b :: s, δ => wback r s (δ.set i b)
  | .d _ :: r, _ :: s, δ => wback r s δ
  | _, _, δ => δ
def isDk : Sl → Bool
  | .dk _ _ _ => true
  | _ => false
def iosOk (R : List Nat) (δ : List Sl) (as : List Ar) : Bool := decide ((ios as).Nodup) && (ios as).all (fun i => ownAt i δ && !(R.contains i) && (R.isEmpty || (match δ[i]? with | some s => isDk s | none => false)))
def outsOk (R : List Nat) : List Ar → List Sl → Bool
  | .io _ :: r, b :: s => isOwn b && (R.isEmpty || isDk b) && outsOk R r s
  | .d _ :: r, _ :: s => outsOk R r s
  | [], [] => true
  | _, _ => false
def callF (R : List Nat) (flat : Bool) (φ : List Sl → Option (D × List Sl)) (f : List Sl → Option (List Ar × List Sl)) : List Sl → Option (D × List Sl) := fun δ => (f δ).bind fun p =>
  if iosOk R p.2 p.1 then (φ (p.1.map (reso p.2))).bind fun q => if outsOk R p.1 q.2 && (R.isEmpty || (flat && noL q.1)) then some (q.1, wback p.1 q.2 p.2) else none else none
end
section
variable {K : PySem.W.Frag} {Y : Fx} {F H : Hp} {δ : List Sl} {σ : L2.St} {A : Nat → List Addr} {R : List Nat}
/-- what the arguments own, by their places -/
def argA (A : Nat → List Addr) (as : List Ar) : Nat → List Addr := fun j => match as[j]? with
  | some (.io i) => A i
  | _ => []
theorem ios_mem {as : List Ar} {i : Nat} : i ∈ ios as ↔ ∃ j : Nat, as[j]? = some (Ar.io i) := by
  induction as with
  | nil => simp [ios]
  | cons a r ih =>
    cases a with
    | d d =>
      rw [show ios (.d d :: r) = ios r from rfl, ih]
      constructor
      · rintro ⟨j, h⟩
        exact ⟨j + 1, h⟩
      · rintro ⟨j, h⟩
        cases j with
        | zero => cases h
        | succ j => exact ⟨j, h⟩
    | io k =>
      rw [show ios (.io k :: r) = k :: ios r from rfl, List.mem_cons, ih]
      constructor
      · rintro (rfl | ⟨j, h⟩)
        · exact ⟨0, rfl⟩
        · exact ⟨j + 1, h⟩
      · rintro ⟨j, h⟩
        cases j with
        | zero => cases h; exact .inl rfl
        | succ j => exact .inr ⟨j, h⟩
theorem ios_inj {as : List Ar} (h : (ios as).Nodup) : ∀ {j k i : Nat}, as[j]? = some (.io i) → as[k]? = some (.io i) → j = k := by
  induction as with
  | nil => intro j k i e; simp at e
  | cons a r ih =>
    intro j k i e1 e2
    cases a with
    | d d =>
      cases j with
      | zero => cases e1
      | succ j =>
        cases k with
        | zero => cases e2
        | succ k => rw [ih h e1 e2]
    | io m =>
      rw [show ios (.io m :: r) = m :: ios r from rfl, List.nodup_cons] at h
      cases j with
      | zero =>
        cases e1
        cases k with
        | zero => rfl
        | succ k => exact absurd (ios_mem.mpr ⟨k, e2⟩) h.1
      | succ j =>
        cases k with
        | zero =>
          cases e2
          exact absurd (ios_mem.mpr ⟨j, e1⟩) h.1
        | succ k => rw [ih h.2 e1 e2]
theorem ArR.get : ∀ {vs : List V} {as : List Ar} {j : Nat} {a : Ar}, ArR K F H A R σ vs as → as[j]? = some a → ∃ v, vs[j]? = some v ∧ (match a with | .d d => Vw K F H A R v d | .io i => σ[i]? = some (some v))
  | [], [], _, _, _, e => by simp at e
  | v :: vs, .d d :: r, 0, _, ⟨h, t⟩, e => by cases e; exact ⟨v, rfl, h⟩
  | v :: vs, .io i :: r, 0, _, ⟨h, t⟩, e => by cases e; exact ⟨v, rfl, h⟩
  | v :: vs, .d d :: r, j + 1, a, ⟨h, t⟩, e => ArR.get (j := j) t e
  | v :: vs, .io i :: r, j + 1, a, ⟨h, t⟩, e => ArR.get (j := j) t e
  | [], _ :: _, _, _, h, _ => h.elim
  | _ :: _, [], _, _, h, _ => h.elim
theorem ArR.length : ∀ {vs : List V} {as : List Ar}, ArR K F H A R σ vs as → vs.length = as.length
  | [], [], _ => rfl
  | v :: vs, .d d :: r, ⟨h, t⟩ => congrArg (· + 1) t.length
  | v :: vs, .io i :: r, ⟨h, t⟩ => congrArg (· + 1) t.length
  | [], _ :: _, h => h.elim
  | _ :: _, [], h => h.elim
theorem iosOk_at {as : List Ar} (h : iosOk R δ as = true) {i : Nat} (hi : i ∈ ios as) : ∃ s, δ[i]? = some s ∧ isOwn s = true ∧ i ∉ R ∧ (R = [] ∨ isDk s = true) := by
  unfold iosOk at h
  rw [Bool.and_eq_true] at h
  have := List.all_eq_true.mp h.2 i hi
  simp only [Bool.and_eq_true, Bool.or_eq_true, Bool.not_eq_true', List.isEmpty_iff] at this
  obtain ⟨⟨h1, h2⟩, h3⟩ := this
  unfold ownAt at h1
  cases e : δ[i]? with
  | none => rw [e] at h1; cases h1
  | some s =>
    rw [e] at h1 h3
    exact ⟨s, rfl, h1, by simpa using h2, h3⟩
theorem iosOk_nd {as : List Ar} (h : iosOk R δ as = true) : (ios as).Nodup := by
  unfold iosOk at h
  rw [Bool.and_eq_true] at h
  exact of_decide_eq_true h.1
/-- the callee's entry -/
theorem SR.args {vs : List V} {as : List Ar} (S : SR K Y F H δ σ A) (ok : iosOk R δ as = true) (r : ArR K F H A R σ vs as) : SR K Fx.any (ex R A F H) H (as.map (reso δ)) (vs.map some) (argA A as) := by
  have nd := iosOk_nd ok
  have mem : ∀ j a, a ∈ argA A as j → ∃ i, as[j]? = some (.io i) ∧ a ∈ A i := fun j a h => by
    unfold argA at h
    split at h
    · rename_i i e
      exact ⟨i, e, h⟩
    · simp at h
  refine ⟨by rw [List.length_map, List.length_map, r.length], fun j s e => ?_, fun j e => ?_, fun j k a h1 h2 => ?_, fun j a h => ?_, fun _ _ _ _ => rfl, ex_sub S, fun i hi => ?_, fun i hi => ?_, fun _ _ e => ?_, fun _ _ _ => rfl, fun _ _ e => ?_⟩
  · rw [List.getElem?_map] at e
    cases e1 : as[j]? with
    | none => rw [e1] at e; cases e
    | some a =>
      rw [e1] at e
      cases e
      obtain ⟨v, v1, v2⟩ := r.get e1
      have jv : jn (vs.map some)[j]? = some v := by
        rw [List.getElem?_map, v1]
        rfl
      rw [jv]
      cases a with
      | d d =>
        have : argA A as j = [] := by unfold argA; rw [e1]
        rw [this]
        exact ⟨rfl, v, rfl, v2.ex S⟩
      | io i =>
        have : argA A as j = A i := by unfold argA; rw [e1]
        rw [this]
        obtain ⟨s, h1, h2, _⟩ := iosOk_at ok (ios_mem.mpr ⟨j, e1⟩)
        show SlotR K _ H (δ[i]?.getD .no) (some v) (A i)
        rw [h1]
        have q := S.slot i s h1
        rw [v2] at q
        exact q.mono (sub_ex S) fun _ _ => rfl
  · rw [List.getElem?_map] at e
    cases e1 : as[j]? with
    | none => unfold argA; rw [e1]
    | some a => rw [e1] at e; cases e
  · obtain ⟨i, e1, m1⟩ := mem j a h1
    obtain ⟨i', e2, m2⟩ := mem k a h2
    have := S.dis i i' a m1 m2
    subst this
    exact ios_inj nd e1 e2
  · obtain ⟨i, e1, m1⟩ := mem j a h
    obtain ⟨s, h1, h2, h3, _⟩ := iosOk_at ok (ios_mem.mpr ⟨j, e1⟩)
    unfold ex
    rw [if_neg]
    · exact S.hid i a m1
    · rintro ⟨i', hi', m2⟩
      have := S.dis i i' a m1 m2
      subst this
      exact h3 hi'
  · cases hi
  · cases hi
  · cases e
  · cases e
/-- without what the slots of R own -/
def unex (R : List Nat) (A : Nat → List Addr) (F : Hp) : Hp := fun a => if ∃ i ∈ R, a ∈ A i then none else F a
theorem unex_nil {F : Hp} : unex [] A F = F := by
  funext a
  unfold unex
  rw [if_neg]
  simp
theorem wback_length : ∀ {as : List Ar} {s δ : List Sl}, (wback as s δ).length = δ.length
  | [], _, _ => by simp [wback]
  | .d _ :: r, [], _ => by simp [wback]
  | .io _ :: r, [], _ => by simp [wback]
  | .d _ :: r, b :: s, δ => wback_length (as := r) (s := s) (δ := δ)
  | .io i :: r, b :: s, δ => by rw [show wback (.io i :: r) (b :: s) δ = wback r s (δ.set i b) from rfl, wback_length, List.length_set]
theorem wback_out : ∀ {as : List Ar} {s δ : List Sl} {i : Nat}, i ∉ ios as → (wback as s δ)[i]? = δ[i]?
  | [], _, _, _, _ => by simp [wback]
  | .d _ :: r, [], _, _, _ => by simp [wback]
  | .io _ :: r, [], _, _, _ => by simp [wback]
  | .d _ :: r, b :: s, δ, i, h => by
    show (wback r s δ)[i]? = δ[i]?
    exact wback_out (as := r) h
  | .io k :: r, b :: s, δ, i, h => by
    rw [show ios (.io k :: r) = k :: ios r from rfl, List.mem_cons, not_or] at h
    rw [show wback (.io k :: r) (b :: s) δ = wback r s (δ.set k b) from rfl, wback_out h.2, List.getElem?_set_ne (Ne.symm h.1)]
theorem wback_in : ∀ {as : List Ar} {s δ : List Sl} {i j : Nat} {b : Sl}, (ios as).Nodup → as[j]? = some (.io i) → s[j]? = some b → i < δ.length → (wback as s δ)[i]? = some b
  | [], _, _, _, _, _, _, e, _, _ => by simp at e
  | .d _ :: r, [], _, _, _, _, _, _, e, _ => by simp at e
  | .io _ :: r, [], _, _, _, _, _, _, e, _ => by simp at e
  | .d _ :: r, c :: s, δ, i, j, b, nd, e, e2, hi => by
    cases j with
    | zero => cases e
    | succ j => exact wback_in (as := r) (s := s) (j := j) nd e e2 hi
  | .io k :: r, c :: s, δ, i, j, b, nd, e, e2, hi => by
    rw [show ios (.io k :: r) = k :: ios r from rfl, List.nodup_cons] at nd
    rw [show wback (.io k :: r) (c :: s) δ = wback r s (δ.set k c) from rfl]
    cases j with
    | zero =>
      cases e
      cases e2
      rw [wback_out nd.1, List.getElem?_set_self hi]
    | succ j => exact wback_in (as := r) (s := s) (j := j) nd.2 e e2 (by rw [List.length_set]; exact hi)
theorem outsOk_at : ∀ {as : List Ar} {s : List Sl} {i j : Nat} {b : Sl}, outsOk R as s = true → as[j]? = some (.io i) → s[j]? = some b → isOwn b = true ∧ (R = [] ∨ isDk b = true)
  | [], _, _, _, _, _, e, _ => by simp at e
  | .d _ :: r, [], _, _, _, h, _, _ => by cases h
  | .io _ :: r, [], _, _, _, h, _, _ => by cases h
  | .d _ :: r, c :: s, i, j, b, h, e, e2 => by
    cases j with
    | zero => cases e
    | succ j => exact outsOk_at (as := r) (s := s) (j := j) h e e2
  | .io k :: r, c :: s, i, j, b, h, e, e2 => by
    rw [show outsOk R (.io k :: r) (c :: s) = (isOwn c && (R.isEmpty || isDk c) && outsOk R r s) from rfl] at h
    simp only [Bool.and_eq_true, Bool.or_eq_true, List.isEmpty_iff] at h
    cases j with
    | zero =>
      cases e2
      exact h.1
    | succ j => exact outsOk_at (as := r) (s := s) (j := j) h.2 e e2
theorem outsOk_len : ∀ {as : List Ar} {s : List Sl}, outsOk R as s = true → s.length = as.length
  | [], [], _ => rfl
  | [], _ :: _, h => by cases h
  | .d _ :: r, [], h => by cases h
  | .io _ :: r, [], h => by cases h
  | .d _ :: r, c :: s, h => congrArg (· + 1) (outsOk_len (as := r) (s := s) h)
  | .io k :: r, c :: s, h => by
    rw [show outsOk R (.io k :: r) (c :: s) = (isOwn c && (R.isEmpty || isDk c) && outsOk R r s) from rfl] at h
    simp only [Bool.and_eq_true] at h
    exact congrArg (· + 1) (outsOk_len (as := r) (s := s) h.2)
/-- behind the call -/
theorem SR.behind {vs : List V} {as : List Ar} {F2 H2 : Hp} {outs : List Sl} (S : SR K Y F H δ σ A) (ok : iosOk R δ as = true) (r : ArR K F H A R σ vs as) (st : Stp (argA A as) (List.range as.length) (ex R A F H) H F2 H2)
    (S2 : SR K Fx.any F2 H2 outs (vs.map some) (argA A as)) (oo : outsOk R as outs = true) : Stp A (ios as) F H (unex R A F2) H2 ∧ SR K Y (unex R A F2) H2 (wback as outs δ) σ A ∧ Same (unex R A F2) F2 := by
  have nd := iosOk_nd ok
  have nR : ∀ a, F a ≠ none → ¬ ∃ i ∈ R, a ∈ A i := fun a h => by
    rintro ⟨i, _, m⟩
    exact h (S.hid i a m)
  have notarg : ∀ i a, a ∈ A i → i ∉ ios as → ∀ j ∈ List.range as.length, a ∉ argA A as j := fun i a m hi j _ h => by
    unfold argA at h
    split at h
    · rename_i i' e
      have := S.dis i i' a m h
      subst this
      exact hi (ios_mem.mpr ⟨j, e⟩)
    · simp at h
  have keep : ∀ a o, H a = some o → (∀ i ∈ ios as, a ∉ A i) → H2 a = some o := fun a o e n => st.kp a o e fun j _ h => by
    unfold argA at h
    split at h
    · rename_i i' e'
      exact n i' (ios_mem.mpr ⟨j, e'⟩) h
    · simp at h
  have sU : Same (unex R A F2) F2 := fun a o e => by
    unfold unex at e
    split at e
    · cases e
    · exact e
  have sF : Same F (unex R A F2) := fun a o e => by
    have c := nR a (by rw [e]; simp)
    have q : ex R A F H a = some o := (if_neg c : ex R A F H a = F a).trans e
    show unex R A F2 a = some o
    unfold unex
    rw [if_neg c]
    exact st.f a o q
  have newH : ∀ a, F a = none → unex R A F2 a ≠ none → H a = none := fun a e n => by
    unfold unex at n
    split at n
    · exact absurd rfl n
    · rename_i c
      have q : ex R A F H a = none := (if_neg c : ex R A F H a = F a).trans e
      exact st.nw a q n
  have hidU : ∀ i a, a ∈ A i → unex R A F2 a = none := fun i a m => by
    cases q : unex R A F2 a with
    | none => rfl
    | some o =>
      have := newH a (S.hid i a m) (by rw [q]; simp)
      exact absurd this (S.isSome m)
  refine ⟨⟨sF, newH, keep⟩, ⟨by rw [wback_length]; exact S.len, fun i s e => ?_, fun i e => ?_, S.dis, hidU, S.new, sU.trans S2.sub, S.fix, S.ioA, fun a o e n => ?_, fun a e n => ?_, S.f0.trans sF⟩, sU⟩
  · by_cases c : i ∈ ios as
    · obtain ⟨j, ej⟩ := ios_mem.mp c
      obtain ⟨s0, h1, h2, h3, h4⟩ := iosOk_at ok c
      have hj : j < as.length := (List.getElem?_eq_some_iff.mp ej).1
      have lo := outsOk_len oo
      obtain ⟨b, eb⟩ : ∃ b, outs[j]? = some b := ⟨_, List.getElem?_eq_getElem (by omega)⟩
      have := wback_in (δ := δ) nd ej eb (List.getElem?_eq_some_iff.mp h1).1
      have e : s = b := Option.some.inj (e.symm.trans this)
      subst e
      obtain ⟨o1, o2⟩ := outsOk_at oo ej eb
      have q := S2.slot j s eb
      obtain ⟨v, v1, v2⟩ := r.get ej
      have jv : jn (vs.map some)[j]? = some v := by
        rw [List.getElem?_map, v1]
        rfl
      have eA : argA A as j = A i := by unfold argA; rw [ej]
      rw [jv, eA] at q
      rw [v2]
      rcases o2 with o2 | o2
      · subst o2
        rw [unex_nil]
        exact q
      · cases s with
        | dk cs m n => exact q
        | _ => cases o2
    · rw [wback_out c] at e
      refine (S.slot i s e).mono sF fun a ha => ?_
      obtain ⟨xs, q⟩ := (S.there ha).some
      rw [q, keep a _ q fun j hj z => c (by rw [S.dis i j a ha z]; exact hj)]
  · have : δ[i]? = none := by
      have := List.getElem?_eq_none_iff.mp e
      rw [wback_length] at this
      exact List.getElem?_eq_none this
    exact S.out i this
  · refine keep a o (S.kp a o e n) fun i hi m => ?_
    cases c : Y.io i with
    | true =>
      have := (S.fix i c).2
      rw [this] at m
      exact n i c m
    | false =>
      rw [S.new i a m c] at e
      cases e
  · cases q : F a with
    | some o => exact S.nw a e (by rw [q]; simp)
    | none => exact S.fresh0 (newH a q n)
end
section
variable {X : Cx} {x : Str} {p pos : Pos} {e : Expr} {es : List Expr} {R M : List Nat} {f : List Sl → Option (List Ar × List Sl)} {φ : List Sl → Option (D × List Sl)}
/-- a def that may be called: where it stands, its promise -/
structure Kn (X : Cx) (x : Str) (n : Nat) (fr : Bool) (φ : List Sl → Option (D × List Sl)) : Prop where
  ex : ∃ (CX : CXT) (k : Nat) (a : Addr) (fd : FuncData) (ps : List Str), FnG X.prog X.w X.K X.mg X.base CX k a fd ps (spF X.K ps.length fr φ) ∧ ps.length = n ∧ Room k X.A ∧ X.mg x = some (.ref a) ∧ PySem.W.keepIn X.K (.ref a) = true ∧ Binds X.K fd ps [] ∧ Passes CX X E0
  gd : X.A.guards = some []
  gl : Gl X x
  db : (x == ("__debug__" : Str)) = false
theorem callF_some {flat : Bool} {δ δ' : List Sl} {z : D} (h : callF R flat φ f δ = some (z, δ')) : ∃ as δ1 outs, f δ = some (as, δ1) ∧ iosOk R δ1 as = true ∧ φ (as.map (reso δ1)) = some (z, outs) ∧ outsOk R as outs = true ∧ (R = [] ∨ noL z = true) ∧ δ' = wback as outs δ1 := by
  unfold callF at h
  cases e1 : f δ with
  | none => rw [e1] at h; cases h
  | some w =>
    obtain ⟨as, δ1⟩ := w
    rw [e1] at h
    simp only [Option.bind_some] at h
    split at h
    · rename_i ok
      cases e2 : φ (as.map (reso δ1)) with
      | none => rw [e2] at h; cases h
      | some w =>
        obtain ⟨d, outs⟩ := w
        rw [e2] at h
        simp only [Option.bind_some] at h
        split at h
        · rename_i oo
          cases h
          simp only [Bool.and_eq_true, Bool.or_eq_true, List.isEmpty_iff] at oo
          exact ⟨as, δ1, outs, rfl, ok, e2, oo.1, oo.2.imp id (·.2), rfl⟩
        · cases h
    · cases h
theorem range_len {K : PySem.W.Frag} {F H : Hp} {A : Nat → List Addr} {σ : L2.St} {vs : List V} {as : List Ar} (h : ArR K F H A R σ vs as) : (as.map (reso [])).length = as.length := by simp
theorem ev_call {n : Nat} {flat : Bool} {B : List Nat} (kn : Kn X x n false φ) (hf : ∀ δ as δ', f δ = some (as, δ') → as.length = n ∧ ∀ i ∈ ios as, i ∈ B) (ha : CV X (e :: es) f R M) (h1 : starEach (e :: es) X.env = (false, eval e X.env) :: starEach es X.env := by rfl) (h2 : (backTo pos (starEach es X.env)).any (·.1) = false := by rfl) :
    EV X (.Call (.Name x p) (e :: es) [] pos) (callF R flat φ f) [] (M ++ B) := by
  obtain ⟨CX, k, a, fd, ps, Fn, hn, hR, hm, hk, hb, hx⟩ := kn.ex
  obtain ⟨t, pa, q⟩ := ha
  refine ⟨_, Fn.pe kn.gd hR kn.gl hm hk hb hx pa kn.db h1 h2, fun Y F H δ σ A S z δ' e Q kk => ?_⟩
  obtain ⟨as, δ1, outs, e1, ok, e2, oo, ef, rfl⟩ := callF_some e
  obtain ⟨hl, hB⟩ := hf _ _ _ e1
  refine q Y F H δ σ A S as δ1 e1 _ fun vs F1 H1 st S1 r => ?_
  show spF X.K ps.length false φ (vs ++ []) H1 Q E0
  rw [List.append_nil]
  refine ⟨ex R A F1 H1, as.map (reso δ1), argA A as, by rw [List.length_map, hl, hn], S1.args ok r, z, outs, e2, fun v F2 H2 st2 S2 rv => ?_⟩
  rw [hn, ← hl] at st2
  obtain ⟨st3, S3, sU⟩ := S1.behind ok r st2 S2 oo
  refine kk v _ H2 ((st.trans S1 st3).mono fun i hi => ?_) S3 (.inl ?_)
  · rcases List.mem_append.mp hi with z | z
    · exact List.mem_append_left _ z
    · exact List.mem_append_right _ (hB i z)
  · have rv : Rp X.K F2 v z := rv
    rcases ef with ef | ef
    · subst ef
      rw [unex_nil]
      exact rv
    · refine rv.flat (fun b xs h => ?_) ef
      rcases h with h | h
      · refine .inl ?_
        have nb : ¬ ∃ i ∈ R, b ∈ A i := by
          rintro ⟨i, hi, m⟩
          have hb : ∀ o, H1 b = some o → F2 b = some o := fun o eo => st2.f b o ((if_pos ⟨i, hi, m⟩ : ex R A F1 H1 b = H1 b).trans eo)
          rcases S1.there m with ⟨ys, q⟩ | ⟨ys, q⟩ | ⟨_, ys, q⟩
          · have := hb _ q
            rcases h with h | ⟨o, h⟩ <;> rw [this] at h <;> cases h
          · have := hb _ q
            rcases h with h | ⟨o, h⟩ <;> rw [this] at h <;> cases h
          · have := hb _ q
            rcases h with h | ⟨o, h⟩ <;> rw [this] at h <;> cases h
        have q : unex R A F2 b = F2 b := if_neg nb
        unfold Rd at h ⊢
        rw [q]
        exact h
      · exact .inr h
theorem nv_call {n : Nat} {flat : Bool} {B : List Nat} (kn : Kn X x n true φ) (hf : ∀ δ as δ', f δ = some (as, δ') → as.length = n ∧ ∀ i ∈ ios as, i ∈ B) (ha : CV X (e :: es) f [] M) (h1 : starEach (e :: es) X.env = (false, eval e X.env) :: starEach es X.env := by rfl) (h2 : (backTo pos (starEach es X.env)).any (·.1) = false := by rfl) :
    NV X (.Call (.Name x p) (e :: es) [] pos) (callF [] flat φ f) (M ++ B) := by
  obtain ⟨CX, k, a, fd, ps, Fn, hn, hR, hm, hk, hb, hx⟩ := kn.ex
  obtain ⟨t, pa, q⟩ := ha
  refine ⟨_, Fn.pe kn.gd hR kn.gl hm hk hb hx pa kn.db h1 h2, fun Y F H δ σ A S z δ' e Q kk => ?_⟩
  obtain ⟨as, δ1, outs, e1, ok, e2, oo, ef, rfl⟩ := callF_some e
  obtain ⟨hl, hB⟩ := hf _ _ _ e1
  refine q Y F H δ σ A S as δ1 e1 _ fun vs F1 H1 st S1 r => ?_
  show spF X.K ps.length true φ (vs ++ []) H1 Q E0
  rw [List.append_nil]
  refine ⟨ex [] A F1 H1, as.map (reso δ1), argA A as, by rw [List.length_map, hl, hn], S1.args ok r, z, outs, e2, fun v F2 H2 st2 S2 rv => ?_⟩
  rw [hn, ← hl] at st2
  obtain ⟨st3, S3, sU⟩ := S1.behind ok r st2 S2 oo
  rw [unex_nil] at st3 S3
  obtain ⟨b, rfl, nb, fb, ob⟩ := rv
  refine kk b _ H2 ((st.trans S1 st3).mono fun i hi => ?_) S3 (back st S1 nb) fb ob
  rcases List.mem_append.mp hi with z | z
  · exact List.mem_append_left _ z
  · exact List.mem_append_right _ (hB i z)
end
end Z

/-! Zd: isinstance, all, any, a tuple's index, several names at once, the module's constants. -/
namespace Z
open PySem PySem.Spec PyProof.Rows L2
section
variable {X : Cx} {pos : Pos}
/-! isinstance -/
def tyD : D → String
  | .none => "NoneType"
  | .bool _ => "bool"
  | .int _ => "int"
  | .str _ => "str"
  | .list _ => "list"
  | .tuple _ => "tuple"
  | .dict _ => "dict"
theorem Rp.tyx {K : PySem.W.Frag} {G H : Hp} {v : V} {d : D} (sG : Same G H) (h : Rp K G v d) : TyX K H v (.type (tyD d)) := by
  cases h with
  | non => exact .base .non
  | bl b => exact .base (.bl b)
  | int i => exact .base (.int i)
  | str x => exact .base (.str x)
  | lst e _ => exact .base (.lst (sG _ _ e))
  | dic e _ => exact .fDict (sG _ _ e)
  | tup e _ =>
    rcases e with (e | ⟨o, e⟩) | ⟨o, its, n, e1, e2, _⟩
    · exact .base (.tup (sG _ _ e))
    · exact .fTuple (sG _ _ e)
    · exact .kTuple e1 e2
def isiB (T : String) (d : D) : Bool := match d with
  | .none => T == "NoneType"
  | .bool _ => T == "bool" || T == "int"
  | .int _ => T == "int"
  | .str _ => T == "str"
  | .list _ => T == "list"
  | .tuple _ => T == "tuple"
  | .dict _ => T == "dict"
/-- the types that are asked for -/
def tyOk (T : String) : Bool := ["int", "bool", "str", "list", "tuple", "dict"].contains T
theorem kit_isi {T : String} (hT : tyOk T = true := by rfl) (d : D) : kitB (tyD d) T = some (isiB T d) := by
  have : T ∈ ["int", "bool", "str", "list", "tuple", "dict"] := by simpa [tyOk] using hT
  simp only [List.mem_cons, List.not_mem_nil, or_false] at this
  rcases this with rfl | rfl | rfl | rfl | rfl | rfl <;> cases d <;> dsimp only [tyD, isiB] <;> decide +kernel
def isiD (T : String) (d : D) : Option D := some (.bool (isiB T d))
theorem ev_isi {T : String} {x T' : Str} {a : Expr} {fa} {R M : List Nat} {p p2 : Pos} (hT : tyOk T = true := by rfl) (b : Bn X x (.builtin "isinstance")) (c : Bn X T' (.type T)) (ha : EV X a fa R M)
    (h1 : starEach [a, .Name T' p2] X.env = (false, eval a X.env) :: starEach [.Name T' p2] X.env := by rfl) (h2 : (backTo pos (starEach [.Name T' p2] X.env)).any (·.1) = false := by rfl) (h3 : starEach [.Name T' p2] X.env = [(false, eval (.Name T' p2) X.env)] := by rfl) :
    EV X (.Call (.Name x p) [a, .Name T' p2] [] pos) (f1 (isiD T) fa) [] M := by
  obtain ⟨t, pa, q⟩ := ha
  have pT : PE X (.Name T' p2) (tC (.ty T)) := pe_bltn c.gl c.mg c.bt rfl c.nn c.db
  refine ⟨_, pe_callB call_isi b.gl b.mg b.bt (pa_cons pa (pa_cons pT pa_nil h3) h1) b.nn b.db h1 h2, fun Y F H δ σ A S z δ' e Q k => ?_⟩
  obtain ⟨d, e1, e2⟩ := f1_some e
  refine q Y F H δ σ A S d δ' e1 _ fun v F1 H1 st S1 r1 => ?_
  refine ⟨v, .ty T, .type (tyD d), .type T, isiB T d, rfl, .ty T, (r1.ex S1).tyx (ex_sub S1), kit_ty (kit_isi hT d), ?_⟩
  cases e2
  exact k _ F1 H1 st S1 (.inl (.bl _))
/-! all, any -/
def boolsOf : List D → Option (List Bool)
  | [] => some []
  | .bool b :: r => (boolsOf r).map (b :: ·)
  | _ => none
theorem boolsOf_some : ∀ {ds : List D} {bs : List Bool}, boolsOf ds = some bs → ds = bs.map PyData.bool
  | [], bs, h => by cases h; rfl
  | d :: r, bs, h => by
    cases d <;> simp only [boolsOf] at h <;> try (cases h; done)
    cases e : boolsOf r with
    | none => rw [e] at h; cases h
    | some cs =>
      rw [e] at h
      cases h
      rw [boolsOf_some e]
      rfl
theorem boolsOf_map (bs : List Bool) : boolsOf (bs.map PyData.bool) = some bs := by
  induction bs with
  | nil => rfl
  | cons b r ih => simp [boolsOf, ih]
theorem Rps.bools {K : PySem.W.Frag} {G : Hp} : ∀ {vs : List V} {ns : List Bool}, Rps K G vs (ns.map PyData.bool) → vs = ns.map V.bl
  | _, [], .nil => rfl
  | _, n :: ns, .cons h r => by
    cases h
    rw [r.bools]
    rfl
def allD : D → Option D
  | .list ds => (boolsOf ds).map fun bs => .bool (bs.all id)
  | _ => none
def anyD : D → Option D
  | .list ds => (boolsOf ds).map fun bs => .bool (bs.any id)
  | _ => none
theorem cs_all : CallS X (rAll X.K) (g1 allD) := by
  intro Y F H δ σ A R xs ds z S r hg Q k
  obtain ⟨d, rfl, hg'⟩ := g1_some hg
  clear hg
  have hg := hg'
  obtain ⟨v, rfl, rv⟩ := r.one
  unfold allD at hg
  split at hg
  · rename_i ds'
    cases e : boolsOf ds' with
    | none => rw [e] at hg; cases hg
    | some ns =>
      rw [e] at hg
      cases hg
      have e2 := boolsOf_some e
      subst e2
      obtain ⟨a, ys, rfl, h1, r1⟩ := rv.list S
      have e3 := r1.bools
      subst e3
      exact ⟨a, ns, rfl, SqL.of h1, k _ F H Stp.refl S (.bl _)⟩
  · cases hg
theorem cs_any : CallS X (rAny X.K) (g1 anyD) := by
  intro Y F H δ σ A R xs ds z S r hg Q k
  obtain ⟨d, rfl, hg'⟩ := g1_some hg
  clear hg
  have hg := hg'
  obtain ⟨v, rfl, rv⟩ := r.one
  unfold anyD at hg
  split at hg
  · rename_i ds'
    cases e : boolsOf ds' with
    | none => rw [e] at hg; cases hg
    | some ns =>
      rw [e] at hg
      cases hg
      have e2 := boolsOf_some e
      subst e2
      obtain ⟨a, ys, rfl, h1, r1⟩ := rv.list S
      have e3 := r1.bools
      subst e3
      exact ⟨a, ns, rfl, SqL.of h1, k _ F H Stp.refl S (.bl _)⟩
  · cases hg
/-! a tuple's index -/
def strsOf : List D → Option (List Str)
  | [] => some []
  | .str b :: r => (strsOf r).map (b :: ·)
  | _ => none
theorem strsOf_some : ∀ {ds : List D} {bs : List Str}, strsOf ds = some bs → ds = bs.map PyData.str
  | [], bs, h => by cases h; rfl
  | d :: r, bs, h => by
    cases d <;> simp only [strsOf] at h <;> try (cases h; done)
    cases e : strsOf r with
    | none => rw [e] at h; cases h
    | some cs =>
      rw [e] at h
      cases h
      rw [strsOf_some e]
      rfl
theorem Rps.strs {K : PySem.W.Frag} {G : Hp} : ∀ {vs : List V} {ns : List Str}, Rps K G vs (ns.map PyData.str) → vs = ns.map V.str
  | _, [], .nil => rfl
  | _, n :: ns, .cons h r => by
    cases h
    rw [r.strs]
    rfl
def tixD (d e : D) : Option D := match d, e with
  | .tuple ds, .str z => (strsOf ds).bind fun ys => if ys.idxOf z < ys.length then some (.int (ys.idxOf z : Nat)) else none
  | _, _ => none
/-! a, b = x, y -/
def sPar2 (i j : Nat) (f : List Sl → Option (List D × List Sl)) : List Sl → Option Out := fun δ => (f δ).bind fun p => match p.1 with
  | [a, b] => if i < p.2.length ∧ j < p.2.length then some (.nx ((p.2.set i (.fz a)).set j (.fz b))) else none
  | _ => none
theorem sv_par2 {io : Nat → Bool} {fr : Bool} {i j : Nat} {x y : Str} {a b : Expr} {f} {M : List Nat} {px py pt pt2 : Pos} {kt k2} (hi : io i = false) (hj : io j = false) (hc : X.calm = true) (T : Tg X i x) (U : Tg X j y) (hij : i ≠ j)
    (hx : X.env.scope.names.lookup x = some .local) (hy : X.env.scope.names.lookup y = some .local) (ha : AV X [a, b] f [] M)
    (hw : swappedStores [.Tuple [.Name x px, .Name y py] kt pt] (.Tuple [a, b] k2 pt2) X.env = pure (some [x, y]) := by rfl)
    (hs : swapsWithSole [.Tuple [.Name x px, .Name y py] kt pt] (.Tuple [a, b] k2 pt2) pos.line X.env = pure false := by rfl) :
    SV X io fr (.Assign [.Tuple [.Name x px, .Name y py] kt pt] (.Tuple [a, b] k2 pt2) pos) (sPar2 i j f) := by
  obtain ⟨t, p, q⟩ := ha
  refine ⟨_, ps_par hc T.nd T.at_ U.at_ hij hx hy p hw hs, fun Y F H δ σ A hY S o e D k => ?_⟩
  unfold sPar2 at e
  cases e1 : f δ with
  | none => rw [e1] at e; cases e
  | some w =>
    obtain ⟨ds, δ1⟩ := w
    rw [e1] at e
    simp only [Option.bind_some] at e
    split at e
    · rename_i d1 d2
      split at e
      · rename_i hl
        cases e
        refine q Y F H δ σ A S _ δ1 e1 _ fun vs F1 H1 st S1 r => ?_
        obtain ⟨v, u, rfl, rv, ru⟩ := r.two
        refine ⟨v, u, rfl, ?_⟩
        have S2 := S1.putFz hl.1 (by rw [hY]; exact hi) rv.nil
        have S3 := S2.putFz (i := j) (by simpa using hl.2) (by rw [hY]; exact hj) ru.nil
        exact k _ F1 H1 _ st.f S3
      · cases e
    · cases e
/-! T = e -/
def sAsg (T : Tt) (f : List Sl → Option (D × List Sl)) : List Sl → Option Out := fun δ => (f δ).bind fun p => (bindT T p.1 p.2).map .nx
theorem sv_asg {io : Nat → Bool} {fr : Bool} {tg e : Expr} {T : Tt} {f} {M : List Nat} (hT : ∀ j ∈ tS T, io j = false) (h : EV X e f [] M) (hg : GV X tg T) (hs : swapsWithSole [tg] e pos.line X.env = pure false := by rfl) (hw : swappedStores [tg] e X.env = pure none := by rfl)
    (h1 : (assignEach [tg] X.env).map (·.2) = [assign tg X.env] := by rfl) : SV X io fr (.Assign [tg] e pos) (sAsg T f) := by
  obtain ⟨t, p, q⟩ := h
  obtain ⟨g, pg, qg⟩ := hg
  refine ⟨_, ps_asg p pg hs hw h1, fun Y F H δ σ A hY S o e D k => ?_⟩
  unfold sAsg at e
  cases e1 : f δ with
  | none => rw [e1] at e; cases e
  | some w =>
    obtain ⟨d, δ1⟩ := w
    rw [e1] at e
    simp only [Option.bind_some] at e
    cases e2 : bindT T d δ1 with
    | none => rw [e2] at e; cases e
    | some δ2 =>
      rw [e2] at e
      cases e
      refine q Y F H δ σ A S d δ1 e1 _ fun v F1 H1 st S1 r => ?_
      exact qg Y F1 H1 δ1 σ A (fun j hj => by rw [hY]; exact hT j hj) S1 v d δ2 r.nil e2 _ fun σ' A' _ S2 => k _ F1 H1 A' st.f S2
/-! the module's constants -/
mutual
def kRp (K : PySem.W.Frag) : Nat → Value → Option (V × D)
  | 0, _ => none
  | n + 1, u => match u with
    | .none => some (.non, .none)
    | .bool b => some (.bl b, .bool b)
    | .int i _ => some (.int i, .int i)
    | .str x _ => some (.str x, .str x)
    | .ref a => match K.lookup a with
      | some ⟨.type "tuple", _, .seq its _, _⟩ => if its.size ≤ sizeLine then (kRps K n its.toList).map fun p => (.ref a, .tuple p.2) else none
      | _ => none
    | _ => none
def kRps (K : PySem.W.Frag) : Nat → List Value → Option (List V × List D)
  | 0, _ => none
  | n + 1, us => match us with
    | [] => some ([], [])
    | u :: r => match kRp K n u, kRps K n r with
      | some p, some q => some (p.1 :: q.1, p.2 :: q.2)
      | _, _ => none
end
mutual
theorem kRp_ok {K : PySem.W.Frag} {G : Hp} : ∀ {n : Nat} {u : Value} {v : V} {d : D}, kRp K n u = some (v, d) → RelV v u ∧ Rp K G v d
  | 0, _, _, _, h => by unfold kRp at h; cases h
  | n + 1, u, v, d, h => by
    unfold kRp at h
    split at h
    · cases h; exact ⟨rfl, .non⟩
    · cases h; exact ⟨rfl, .bl _⟩
    · cases h; exact ⟨⟨_, rfl⟩, .int _⟩
    · cases h; exact ⟨⟨_, rfl⟩, .str _⟩
    · rename_i a
      split at h
      · rename_i dd its m sl e
        split at h
        · rename_i hz
          cases e2 : kRps K n its.toList with
          | none => rw [e2] at h; cases h
          | some p =>
            obtain ⟨vs, ds⟩ := p
            rw [e2] at h
            cases h
            obtain ⟨h1, h2⟩ := kRps_ok (G := G) e2
            exact ⟨rfl, .tup (.inr ⟨_, its, m, e, rfl, rfl, hz, h1⟩) h2⟩
        · cases h
      · cases h
    · cases h
theorem kRps_ok {K : PySem.W.Frag} {G : Hp} : ∀ {n : Nat} {us : List Value} {vs : List V} {ds : List D}, kRps K n us = some (vs, ds) → Vals vs us ∧ Rps K G vs ds
  | 0, _, _, _, h => by unfold kRps at h; cases h
  | n + 1, us, vs, ds, h => by
    unfold kRps at h
    split at h
    · cases h; exact ⟨.nil, .nil⟩
    · rename_i u r
      split at h
      · rename_i p q e1 e2
        obtain ⟨v1, d1⟩ := p
        obtain ⟨v2, d2⟩ := q
        cases h
        obtain ⟨h1, h2⟩ := kRp_ok (G := G) e1
        obtain ⟨h3, h4⟩ := kRps_ok (G := G) e2
        exact ⟨.cons h1 h3, .cons h2 h4⟩
      · cases h
end
/-- a global name that is a written datum -/
structure Gc (X : Cx) (x : Str) (d : D) : Prop where
  ex : ∃ u v, X.mg x = some u ∧ kRp X.K 40 u = some (v, d)
  db : (x == ("__debug__" : Str)) = false
theorem ev_gc {x : Str} {d : D} (hg : Gl X x) (c : Gc X x d) : EV X (.Name x pos) (fCon d) [] [] := by
  obtain ⟨u, v, h1, h2⟩ := c.ex
  exact ev_const (pe_glob hg h1 (kRp_ok (G := fun _ => none) h2).1 c.db) fun G => (kRp_ok h2).2
/-- a tuple of the written part, without a dict of its own -/
def kDn (K : PySem.W.Frag) : Value → Bool
  | .ref a => match K.lookup a with
    | some ⟨.type "tuple", none, _, _⟩ => true
    | _ => false
  | _ => false
theorem kDn_ty {K : PySem.W.Frag} {H : Hp} {u : Value} {v : V} (h : kDn K u = true) (r : RelV v u) : tyV K "tuple" v H := by
  unfold kDn at h
  split at h
  · rename_i a
    split at h
    · rename_i dt sl e
      cases v with
      | ref b => cases r; exact .inr (.inl ⟨rfl, _, e, rfl, rfl⟩)
      | _ => first | (obtain ⟨_, r⟩ := r; cases r; done) | (cases r; done)
    · cases h
  · cases h
/-- x.index(e), x a written tuple of texts -/
theorem ev_tix {x : Str} {ds : List D} {e : Expr} {fe} {Re Me : List Nat} {p1 apos : Pos} (hg : Gl X x) (c : ∃ u v, X.mg x = some u ∧ kRp X.K 40 u = some (v, .tuple ds) ∧ kDn X.K u = true) (db : (x == ("__debug__" : Str)) = false) (he : EV X e fe Re Me) (m : Mc X (.Name x p1) "index" apos e [] pos) :
    EV X (.Call (.Attribute (.Name x p1) "index" apos) [e] [] pos) (f1 (tixD (.tuple ds)) fe) [] Me := by
  obtain ⟨te, pe, qe⟩ := he
  obtain ⟨u, v, c1, c2, c3⟩ := c
  have po : PE X (.Name x p1) (tC v) := pe_glob hg c1 (kRp_ok (G := fun _ => none) c2).1 db
  refine ⟨_, pe_bm PySem.F.plainAttrs_tuple PySem.F.slot_tuple_index PySem.F.type_tuple_index mt_tup_index po (pa_cons pe pa_nil m.star) m.base m.few m.line m.star m.plain, fun Y F H δ σ A S z δ' e Q k => ?_⟩
  obtain ⟨d, e2, e3⟩ := f1_some e
  refine ⟨kDn_ty c3 (kRp_ok (G := fun _ => none) c2).1, ?_⟩
  refine qe Y F H δ σ A S _ δ' e2 _ fun y F2 H2 st2 S2 r2 => ?_
  unfold tixD at e3
  split at e3
  · rename_i ds' z' e9
    cases e9
    have e5 := r2.str
    subst e5
    cases e6 : strsOf ds with
    | none => rw [e6] at e3; cases e3
    | some ys =>
      rw [e6] at e3
      simp only [Option.bind_some] at e3
      split at e3
      · rename_i hlt
        cases e3
        have e7 := strsOf_some e6
        subst e7
        cases (kRp_ok (G := H2) c2).2 with
        | tup hq rr =>
          have e8 := rr.strs
          subst e8
          refine ⟨_, ys, z', ys.idxOf z', rfl, rfl, hq, ?_, ?_, ?_⟩
          · rw [List.getElem?_eq_getElem hlt, List.getElem_idxOf hlt]
          · intro m hm z
            obtain ⟨hm', z⟩ := List.getElem?_eq_some_iff.mp z
            have h1 := List.not_of_lt_findIdx (p := (· == z')) (xs := ys) (i := m) hm
            have h2 : (ys[m] == z') = true := by rw [z]; exact beq_self_eq_true _
            rw [h2] at h1
            cases h1
          · exact k _ F2 H2 st2 S2 (.inl (.int _))
      · cases e3
  · cases e3
end
end Z

/-! Ze: list(reversed(a list)). -/
namespace Z
open PySem PySem.Spec PyProof.Rows L2 RT
section
variable {prog : Program} {w : World} {A : Around} {E : Value → Shared → Prop} {s : Shared}
theorem init_rev {R : Result → Shared → Prop} {it l S : Addr} {items : Array Value} (hh : A.handled = none) (hit : s.heap.IsRevIter it l ((items.size : Int) - 1)) (hl : s.heap.IsList l items) (hne : l ≠ it) (hn : items.size ≤ sizeLine)
    (hS : s.heap.get? S = some { cls := .type "list", data := .seq #[] }) (hSi : S ≠ it) (hSl : S ≠ l)
    (hR : ∀ (h' : Heap) (tk : Nat) (acc : Array Value) (c : Nat), (∀ b o, b ≠ S → b ≠ it → s.heap.get? b = some o → h'.get? b = some o) → h'.get? S = some { cls := .type "list", dict := none, data := .seq acc c, slots := #[] } → ItemsOf (fun i v => items[items.size - 1 - i]? = some v) acc items.size → R (.ok (.ret .none)) { s with heap := h', toks := tk }) :
    wpAny (model prog w) A.in1 (Builtin.«list.__init__» ⟨[.ref S, .ref it], []⟩)
      (fun fin s' => match fin with | .done f => R (.ok f) s' | .again c' => c'.quiet = true ∧ codeAny (model prog w) A c' R s') (fun e s' => R (.error e) s') s := by
  have W := (Walks.listRev (prog := prog) (w := w) (A := A.in1) hh it l hne items).toS
  show wpAny _ A.in1 (do let old ← Builtin.List.listItems (.ref S); Builtin.List.listUpdate (.ref S) (fun _ => #[]); letGo old.toList.reverse; Builtin.List.listExtendWith (.ref S) (.ref it) .none) _ _ s
  refine wpAny_bind ?_
  unfold Builtin.List.listItems
  refine wpAny_bind (wpAny_seqItems hS rfl (wpAny_pure ?_))
  show wpAny _ A.in1 (updateSeq S (fun _ => #[]) >>= fun _ => letGo (#[] : Array Value).toList.reverse >>= fun _ => Builtin.List.listExtendWith (.ref S) (.ref it) .none) _ _ s
  refine wpAny_bind (wpAny_updateSeq hS rfl ?_)
  have hS₂ := Heap.get?_update_self (Obj.mapSeq (fun _ => (#[] : Array Value))) hS rfl
  have oth : ∀ b o, b ≠ S → s.heap.get? b = some o → (s.heap.update S (Obj.mapSeq (fun _ => (#[] : Array Value)))).get? b = some o :=
    fun b o hb e => (Heap.get?_update_other _ _ (Ne.symm hb)).trans e
  refine wpAny_bind (wpAny_letGo ?_)
  generalize hs1 : ({ s with heap := s.heap.update S (Obj.mapSeq (fun _ => (#[] : Array Value))) } : Shared) = s1
  have hit1 : s1.heap.IsRevIter it l ((items.size : Int) - 1) := by
    subst hs1
    exact hit.at fun o e => oth it o (Ne.symm hSi) e
  have hl1 : s1.heap.IsList l items := by
    subst hs1
    obtain ⟨o, e, c⟩ := hl
    exact ⟨o, oth l o (Ne.symm hSl) e, c⟩
  have hT : s1.TypeIs (.ref it) "list_reverseiterator" := Heap.IsRevIter.typeIs hit1
  have hS₁ : s1.heap.get? S = some { cls := .type "list", data := .seq #[] } := by
    subst hs1
    exact hS₂
  have oth1 : ∀ b o, b ≠ S → s.heap.get? b = some o → s1.heap.get? b = some o := by
    subst hs1
    exact oth
  have hSf : S ∉ [it, l] := by simp only [List.mem_cons, List.not_mem_nil, or_false, not_or]; exact ⟨hSi, hSl⟩
  have es : ∀ h' tk, ({ s with heap := h', toks := tk } : Shared) = { s1 with heap := h', toks := tk } := by
    subst hs1
    intro h' tk
    rfl
  have h1 : Builtin.List.listSameRef (.ref S) (.ref it) = false := by simp [Builtin.List.listSameRef, hSi]
  unfold Builtin.List.listExtendWith
  refine wpAny_bind (wpAny_typeOf hT ?_)
  rw [if_neg (by rw [h1]; decide)]
  refine wpAny_bind (wpAny_pyIter_revIter hit1 ?_)
  refine wpAny_bind (wpAny_holding ?_)
  unfold Builtin.List.listLengthHint
  refine wpAny_bind (wpAny_specialOf hT nolen_lri ?_)
  show wpAny _ A.in1 (specialOf (Value.ref it) (Str.ofString "__length_hint__") >>= _) _ _ _
  refine wpAny_bind (wpAny_specialOf hT hint_lri ?_)
  generalize hid : ("list_reverseiterator.__length_hint__" : String) = id0
  wp_delta
  rw [show splitId id0 = some ("list_reverseiterator", "__length_hint__") from by subst hid; decide +kernel]
  subst hid
  refine wpAny_bind (wpAny_isInstance (b := true) hT (by rw [isSubtype_type]; kernel_rfl) ?_)
  refine wpAny_pure ?_
  rw [if_neg (by decide)]
  have e0 : ((items.size : Nat) : Int) - 1 - ((0 : Nat) : Int) = (items.size : Int) - 1 := by omega
  refine wpAny_pure ⟨plainId_quiet F.plain_extend_loop _, codeAny_extend_loopS W hn _ hSf _ items.size 0 _ _ _ rfl (Nat.zero_le _) ⟨Nat.zero_le _, by rw [e0]; exact hit1, hl1⟩ hS₁ (ItemsOf.nil _) fun s' acc' c' hm hS' hacc => ?_⟩
  rw [Moved.eq_with hm, ← es]
  refine hR s'.heap s'.toks acc' c' (fun b o hb hb2 e => hm.heap b o (fun hmem => ?_) (oth1 b o hb e)) hS' hacc
  rcases List.mem_cons.mp hmem with e' | hmem
  · exact hb e'
  · exact hb2 (List.mem_singleton.mp hmem)
theorem call_list_rev {it l : Addr} {items : Array Value} {Q : Value → Shared → Prop} (hh : A.handled = none) (hit : s.heap.IsRevIter it l ((items.size : Int) - 1)) (hl : s.heap.IsList l items) (hne : l ≠ it) (hn : items.size ≤ sizeLine)
    (hQ : ∀ (h' : Heap) (tk : Nat) (acc : Array Value) (c : Nat), (∀ b o, b ≠ it → s.heap.get? b = some o → h'.get? b = some o) → h'.get? s.heap.objs.size = some { cls := .type "list", dict := none, data := .seq acc c, slots := #[] } → ItemsOf (fun i v => items[items.size - 1 - i]? = some v) acc items.size →
      Q (.ref s.heap.objs.size) { s with heap := h', toks := tk }) :
    wpAny (model prog w) A (call (.type "list") [.ref it]) Q E s := by
  obtain ⟨oi, hoi, _⟩ := id hit
  obtain ⟨ol, hol, _⟩ := id hl
  refine callType_codes (Q₁ := fun obj s₁ => obj = .ref s.heap.objs.size ∧ s₁ = { s with heap := s.heap.push { cls := .type "list", data := .seq #[] } }) F.called_list (F.typeCall_list_1 _) F.entry_list_init
    (code_list_new _ ⟨rfl, rfl⟩) fun obj s₁ h₁ => ?_
  obtain ⟨rfl, rfl⟩ := h₁
  have hS : (s.heap.push { cls := .type "list", data := .seq #[] }).get? s.heap.objs.size = some { cls := .type "list", data := .seq #[] } := Heap.get?_push_size _ rfl
  refine ⟨⟨_, hS, rfl⟩, F.args_list_init_2 _ _, init_rev (A := A.in1) (s := { s with heap := s.heap.push { cls := .type "list", data := .seq #[] } }) hh (hit.at fun o e => Heap.get?_push_of_some _ e) (hl.push _) hne hn hS (Nat.ne_of_gt (Heap.lt_size hoi)) (Nat.ne_of_gt (Heap.lt_size hol)) fun h' tk acc c hk hS' hacc => ?_⟩
  exact ⟨rfl, hQ h' tk acc c (fun b o hb e => hk b o (Nat.ne_of_lt (Heap.lt_size e)) hb (Heap.get?_push_of_some _ e)) hS' hacc⟩
end
/-- list(reversed(x)), x a list: a new list -/
def tLstRev (K : PySem.W.Frag) (te : TE) : TE := fun σ H Q => te σ H fun v H1 => ∃ (a : Addr) (xs : List V), v = .ref a ∧ SqL K H1 a xs ∧ ∀ q, H1 q = none → Q (.ref q) (upd H1 q (.lst xs.reverse))
section
variable {X : Cx}
theorem pe_lstRev {e : Expr} {te : TE} {p p2 pos pos2 : Pos} (hc : X.calm = true) (hg : Gl X "list") (hm : X.mg "list" = none) (hg2 : Gl X "reversed") (hm2 : X.mg "reversed" = none) (he : PE X e te)
    (hs : starEach [e] X.env = (false, eval e X.env) :: starEach [] X.env := by rfl)
    (hs2 : starEach [.Call (.Name "reversed" p2) [e] [] pos2] X.env = (false, eval (.Call (.Name "reversed" p2) [e] [] pos2) X.env) :: starEach [] X.env := by rfl) :
    PE X (.Call (.Name "list" p) [.Call (.Name "reversed" p2) [e] [] pos2] [] pos) (tLstRev X.K te) := by
  refine ⟨fun pins s σ H Q I h => ?_⟩
  refine Call_ (ld_blt I hg hm boot_list (PyProof.Rows.callWith_type1 (args_cons (Call_ (ld_blt I hg2 hm2 PyProof.Rows.boot_reversed (PyProof.Rows.callWith_type1 (args_cons (thn (he.run pins s σ H _ I h) fun u s1 ⟨v, H1, I1, r1, q1⟩ => args_nil ?_) hs) hs rfl))) hs2) hs2 rfl))
  obtain ⟨a, xs, ev, hq, q⟩ := q1
  subst ev
  obtain rfl : u = Value.ref a := r1
  obtain ⟨its, rv, p', hz⟩ := I1.list hq
  refine call_reversed_list p'.isList (args_nil ?_)
  have k0 : ∀ b o, s1.heap.get? b = some o → (s1.heap.push (revObj a ((its.toArray.size : Int) - 1))).get? b = some o := fun b o e => Heap.get?_push_of_some _ e
  have I2 : Inv X pins σ H1 { s1 with heap := s1.heap.push (revObj a ((its.toArray.size : Int) - 1)) } := I1.kept (t' := s1.toks) k0
  obtain ⟨f0, f1, f2, f3, f4, f5⟩ := I1.fpOk (H' := H1) (b := s1.heap.objs.size) (Nat.le_refl _) (I1.hok.fresh (Nat.le_refl _))
  have hl := p'.isList
  obtain ⟨ol, hol, _⟩ := id hl
  have hne : a ≠ s1.heap.objs.size := Nat.ne_of_lt (Heap.lt_size hol)
  have hn : its.toArray.size ≤ sizeLine := by rw [List.size_toArray, ← rv.length]; exact hz
  refine call_list_rev (s := { s1 with heap := s1.heap.push (revObj a ((its.toArray.size : Int) - 1)) }) (I1.ok.hd hc) ⟨_, Heap.get?_push_size _ rfl, rfl, rfl⟩ (hl.push _) hne hn fun h' tk acc c hk hS hi => ?_
  have hL : Inv X pins σ (upd H1 (s1.heap.push (revObj a ((its.toArray.size : Int) - 1))).objs.size (.lst xs.reverse)) { s1 with heap := (s1.heap.push (revObj a ((its.toArray.size : Int) - 1))).push { cls := .type "list", dict := none, data := .seq acc c, slots := #[] } } :=
    I2.laid (t' := s1.toks) (fun b o e => Heap.get?_push_of_some _ e) (Nat.le_refl _) (show ObjOk X.prog X.w _ _ _ (.lst xs.reverse) from ⟨by rw [List.length_reverse]; exact hz, acc.toList, c, vals_rev rv hi, by rw [Array.toArray_toList]; exact Heap.get?_push_size _ rfl⟩)
  have hf : H1 (s1.heap.push (revObj a ((its.toArray.size : Int) - 1))).objs.size = none := I2.hok.fresh (Nat.le_refl _)
  have hne2 : s1.heap.objs.size ≠ (s1.heap.push (revObj a ((its.toArray.size : Int) - 1))).objs.size := Nat.ne_of_lt (Heap.lt_size (Heap.get?_push_size s1.heap (o := revObj a ((its.toArray.size : Int) - 1)) rfl))
  have I4 : Inv X pins σ (upd H1 (s1.heap.push (revObj a ((its.toArray.size : Int) - 1))).objs.size (.lst xs.reverse)) { s1 with heap := h', toks := tk } := by
    refine Inv.turned (s := { s1 with heap := (s1.heap.push (revObj a ((its.toArray.size : Int) - 1))).push { cls := .type "list", dict := none, data := .seq acc c, slots := #[] } }) (h' := h') (t' := tk) (it := s1.heap.objs.size) hL (fun b o hb e => ?_) (by rw [upd_ne hne2]; exact f0) f1 f3 f4 f5
    by_cases cq : b = (s1.heap.push (revObj a ((its.toArray.size : Int) - 1))).objs.size
    · subst cq
      have e := (Heap.get?_push_size (s1.heap.push (revObj a ((its.toArray.size : Int) - 1))) (o := { cls := .type "list", dict := none, data := .seq acc c, slots := #[] }) rfl).symm.trans e
      cases e
      exact hS
    · have hlt := Heap.lt_size e
      have e' : (s1.heap.push (revObj a ((its.toArray.size : Int) - 1))).get? b = some o := by
        rcases Heap.get?_push_cases e with z | z
        · exact absurd z.1 cq
        · exact z
      exact hk b o hb e'
  exact ⟨.ref _, _, I4, rfl, q _ hf⟩
end
end Z

/-! Zf: a law's deck. -/
namespace Z
open PySem PySem.Spec PyProof.Rows L2
section
variable {K : PySem.W.Frag} {Y : Fx} {F F' H H' : Hp} {δ : List Sl} {σ : L2.St} {A : Nat → List Addr} {i : Nat}
theorem SR.chgS (S : SR K Y F H δ σ A) (hi : i < δ.length) {s' : Sl} (hH : ∀ a, a ∉ A i → H' a = H a) (h : SlotR K F H' s' (jn σ[i]?) (A i)) : SR K Y F H' (δ.set i s') σ A := by
  refine ⟨by rw [List.length_set]; exact S.len, fun j t e => ?_, fun j e => ?_, S.dis, S.hid, S.new, fun b x e => ?_, S.fix, S.ioA, fun a x e n => ?_, S.nw, S.f0⟩
  · by_cases c : j = i
    · subst c
      rw [List.getElem?_set_self hi] at e
      cases e
      exact h
    · rw [List.getElem?_set_ne (Ne.symm c)] at e
      refine (S.slot j t e).mono (Same.refl _) fun a ha => hH a fun z => c (S.dis j i a ha z)
  · by_cases c : j = i
    · subst c
      rw [List.getElem?_set_self hi] at e
      cases e
    · rw [List.getElem?_set_ne (Ne.symm c)] at e
      exact S.out j e
  · rw [hH]
    · exact S.sub b x e
    · intro z
      rw [S.hid i b z] at e
      cases e
  · rw [hH]
    · exact S.kp a x e n
    · intro z
      cases hio : Y.io i with
      | false =>
        rw [S.new i a z hio] at e
        cases e
      | true =>
        rw [(S.fix i hio).2] at z
        exact n i hio z
theorem Stp.chgS {M : List Nat} (hM : i ∈ M) (hH : ∀ a, a ∉ A i → H' a = H a) : Stp A M F H F H' :=
  ⟨Same.refl _, fun a e n => absurd e n, fun a x e n => by rw [hH a (n i hM)]; exact e⟩
def dkAt (i : Nat) (δ : List Sl) : Option (List Int × Int × Int) := match δ[i]? with
  | some (.dk cs m n) => some (cs, m, n)
  | _ => none
theorem dkAt_some {w : List Int × Int × Int} (h : dkAt i δ = some w) : δ[i]? = some (.dk w.1 w.2.1 w.2.2) := by
  unfold dkAt at h
  split at h
  · rename_i e; cases h; exact e
  · cases h
theorem SR.dk (S : SR K Y F H δ σ A) {w : List Int × Int × Int} (h : dkAt i δ = some w) : ∃ p q, σ[i]? = some (some (.ref p)) ∧ A i = [p, q] ∧ H p = some (.lst [.ref q, .int w.2.1, .int w.2.2]) ∧ H q = some (.lst (w.1.map V.int)) := by
  obtain ⟨p, q, e1, e2, h1, h2⟩ := S.slot i _ (dkAt_some h)
  exact ⟨p, q, jn_some e1, e2, h1, h2⟩
theorem SR.dkI (S : SR K Y F H δ σ A) {w : List Int × Int × Int} (h : dkAt i δ = some w) : i < δ.length := (List.getElem?_eq_some_iff.mp (dkAt_some h)).1
theorem dk_ne {w : List Int} {H : Hp} {p q : Addr} {m n : Int} (h1 : H p = some (.lst [.ref q, .int m, .int n])) (h2 : H q = some (.lst (w.map V.int))) : p ≠ q := by
  intro e
  subst e
  rw [h1] at h2
  have h3 : [V.ref p, V.int m, V.int n] = w.map V.int := by
    injection h2 with h2
    injection h2
  cases w with
  | nil => cases h3
  | cons a b =>
    rw [List.map_cons] at h3
    injection h3 with h4
    cases h4
end
section
variable {X : Cx} {x : Str} {i : Nat} {pos p1 p2 apos : Pos}
/-- d[1] -/
def fDkM (i : Nat) : List Sl → Option (D × List Sl) := fun δ => (dkAt i δ).map fun w => (.int w.2.1, δ)
/-- d[2] -/
def fDkN (i : Nat) : List Sl → Option (D × List Sl) := fun δ => (dkAt i δ).map fun w => (.int w.2.2, δ)
theorem ev_dkM {j} {p3} (hu : X.A.units + 1 < cLine) (n : Nm X i x) (hs : PlainIx (.Constant (.int 1) j p3) := by intro _ _; rfl) : EV X (.Subscript (.Name x p1) (.Constant (.int 1) j p3) pos) (fDkM i) [] [] := by
  refine ⟨_, pe_ix (ix_4 hu) n.pe pe_int hs, fun Y F H δ σ A S z δ' e Q k => ?_⟩
  unfold fDkM at e
  cases e0 : dkAt i δ with
  | none => rw [e0] at e; cases e
  | some w =>
    rw [e0] at e
    cases e
    obtain ⟨p, q, s1, s2, s3, s4⟩ := S.dk e0
    exact ⟨.ref p, s1, .inl (.inl ⟨p, _, 1, .int w.2.1, rfl, rfl, SqL.of s3, rfl, k _ F H Stp.refl S (.inl (.int _))⟩)⟩
theorem ev_dkN {j} {p3} (hu : X.A.units + 1 < cLine) (n : Nm X i x) (hs : PlainIx (.Constant (.int 2) j p3) := by intro _ _; rfl) : EV X (.Subscript (.Name x p1) (.Constant (.int 2) j p3) pos) (fDkN i) [] [] := by
  refine ⟨_, pe_ix (ix_4 hu) n.pe pe_int hs, fun Y F H δ σ A S z δ' e Q k => ?_⟩
  unfold fDkN at e
  cases e0 : dkAt i δ with
  | none => rw [e0] at e; cases e
  | some w =>
    rw [e0] at e
    cases e
    obtain ⟨p, q, s1, s2, s3, s4⟩ := S.dk e0
    exact ⟨.ref p, s1, .inl (.inl ⟨p, _, 2, .int w.2.2, rfl, rfl, SqL.of s3, rfl, k _ F H Stp.refl S (.inl (.int _))⟩)⟩
/-- d[0] == [] -/
def gDkE (i : Nat) : List Sl → Option (Bool × List Sl) := fun δ => (dkAt i δ).bind fun w => (eqD (.list (w.1.map PyData.int)) (.list [])).map fun b => (b, δ)
theorem tv_dkE {j} {p3 p4} (hu : X.A.units + 65 < cLine) (n : Nm X i x) (hs : PlainIx (.Constant (.int 0) j p3) := by intro _ _; rfl) (hm : behindInMarks .Eq (.List [] p4) = false := by rfl) : TV X (.Compare (.Subscript (.Name x p1) (.Constant (.int 0) j p3) p2) [.Eq] [.List [] p4] pos) (gDkE i) [] := by
  refine ⟨_, pt_cmpR (cd_eq hu).op (pe_ix (ix_4 (by omega)) n.pe pe_int hs) (pe_lst pa_nil) hm, fun Y F H δ σ A S z δ' e Q k => ?_⟩
  unfold gDkE at e
  cases e0 : dkAt i δ with
  | none => rw [e0] at e; cases e
  | some w =>
    rw [e0] at e
    simp only [Option.bind_some] at e
    cases e1 : eqD (.list (w.1.map PyData.int)) (.list []) with
    | none => rw [e1] at e; cases e
    | some b =>
      rw [e1] at e
      cases e
      obtain ⟨p, q, s1, s2, s3, s4⟩ := S.dk e0
      refine ⟨.ref p, s1, .inl (.inl ⟨p, _, 0, .ref q, rfl, rfl, SqL.of s3, rfl, ?_⟩)⟩
      refine ⟨Nat.zero_le _, fun c hc => ?_⟩
      have ne : q ≠ c := fun z => by rw [z] at s4; rw [s4] at hc; cases hc
      refine ⟨upd H c (.lst []), _, _, z, Same.refl _, .lst (by rw [upd_ne ne]; exact s4) (rps_ints _), .lst upd_same .nil, e1, ?_⟩
      exact ⟨z, rfl, k F _ (Stp.laidO hc) (S.laidO hc)⟩
/-- d[0].pop() -/
def fDkPop (i : Nat) : List Sl → Option (D × List Sl) := fun δ => (dkAt i δ).bind fun w => (w.1[w.1.length - 1]?).map fun d => (.int d, δ.set i (.dk w.1.dropLast w.2.1 w.2.2))
theorem ev_dkPop {j} {p3} (hu : X.A.units + 1 < cLine) (n : Nm X i x) (hs : PlainIx (.Constant (.int 0) j p3) := by intro _ _; rfl) (m : Mc0 X (.Subscript (.Name x p1) (.Constant (.int 0) j p3) p2) "pop" apos pos) :
    EV X (.Call (.Attribute (.Subscript (.Name x p1) (.Constant (.int 0) j p3) p2) "pop" apos) [] [] pos) (fDkPop i) [] [i] := by
  refine ⟨_, pe_bm0 PySem.F.plainAttrs_list PySem.F.slot_list_pop PySem.F.type_list_pop mt_pop (pe_ix (ix_4 hu) n.pe pe_int hs) m.base m.line, fun Y F H δ σ A S z δ' e Q k => ?_⟩
  unfold fDkPop at e
  cases e0 : dkAt i δ with
  | none => rw [e0] at e; cases e
  | some w =>
    rw [e0] at e
    simp only [Option.bind_some] at e
    cases e1 : w.1[w.1.length - 1]? with
    | none => rw [e1] at e; cases e
    | some d =>
      rw [e1] at e
      cases e
      obtain ⟨p, q, s1, s2, s3, s4⟩ := S.dk e0
      have hpq := dk_ne s3 s4
      refine ⟨.ref p, s1, .inl (.inl ⟨p, _, 0, .ref q, rfl, rfl, SqL.of s3, rfl, ?_⟩)⟩
      refine ⟨tyL s4, q, _, .int d, rfl, rfl, s4, by rw [List.length_map, List.getElem?_map, e1]; rfl, ?_⟩
      have out : ∀ a, a ∉ A i → upd H q (.lst (w.1.map V.int).dropLast) a = H a := fun a ha => upd_ne fun z => ha (by rw [s2, z]; simp)
      refine k _ F _ (Stp.chgS (i := i) (by simp) out) (S.chgS (S.dkI e0) out ⟨p, q, by rw [s1]; rfl, s2, ?_, ?_⟩) (.inl (.int _))
      · rw [upd_ne hpq]
        exact s3
      · rw [upd_same, List.map_dropLast]
/-- d[0].append(e) -/
def fDkPush (i : Nat) (f : List Sl → Option (D × List Sl)) : List Sl → Option (D × List Sl) := fun δ => (dkAt i δ).bind fun _ => (f δ).bind fun p => match p.1 with
  | .int v => (dkAt i p.2).bind fun w => if w.1.length < sizeLine then some (.none, p.2.set i (.dk (w.1 ++ [v]) w.2.1 w.2.2)) else none
  | _ => none
theorem ev_dkPush {j} {p3} {e : Expr} {f} (hu : X.A.units + 1 < cLine) (n : Nm X i x) (hs : PlainIx (.Constant (.int 0) j p3) := by intro _ _; rfl) (h : EV X e f [] []) (m : Mc X (.Subscript (.Name x p1) (.Constant (.int 0) j p3) p2) "append" apos e [] pos) :
    EV X (.Call (.Attribute (.Subscript (.Name x p1) (.Constant (.int 0) j p3) p2) "append" apos) [e] [] pos) (fDkPush i f) [] [i] := by
  obtain ⟨t, pe, q⟩ := h
  refine ⟨_, pe_bm PySem.F.plainAttrs_list PySem.F.slot_list_append PySem.F.type_list_append mt_append (pe_ix (ix_4 hu) n.pe pe_int hs) (pa_cons pe pa_nil m.star) m.base m.few m.line m.star m.plain, fun Y F H δ σ A S z δ' e Q k => ?_⟩
  unfold fDkPush at e
  cases e0 : dkAt i δ with
  | none => rw [e0] at e; cases e
  | some w0 =>
    rw [e0] at e
    simp only [Option.bind_some] at e
    cases e1 : f δ with
    | none => rw [e1] at e; cases e
    | some u =>
      obtain ⟨d, δ1⟩ := u
      rw [e1] at e
      simp only [Option.bind_some] at e
      split at e
      · rename_i v
        cases e2 : dkAt i δ1 with
        | none => rw [e2] at e; cases e
        | some w =>
          rw [e2] at e
          simp only [Option.bind_some] at e
          split at e
          · rename_i hz
            cases e
            obtain ⟨p, q0, s1, s2, s3, s4⟩ := S.dk e0
            refine ⟨.ref p, s1, .inl (.inl ⟨p, _, 0, .ref q0, rfl, rfl, SqL.of s3, rfl, ?_⟩)⟩
            refine ⟨tyL s4, ?_⟩
            refine q Y F H δ σ A S _ δ1 e1 _ fun y F1 H1 st S1 r => ?_
            obtain ⟨p', q', t1, t2, t3, t4⟩ := S1.dk e2
            have : q' = q0 := by
              rw [s2] at t2
              injection t2 with _ t2
              injection t2 with t2
              exact t2.symm
            subst this
            rw [r.int]
            have hpq := dk_ne t3 t4
            refine ⟨q', _, .int v, rfl, rfl, t4, by rw [List.length_map]; exact hz, ?_⟩
            have out : ∀ a, a ∉ A i → upd H1 q' (.lst (w.1.map V.int ++ [.int v])) a = H1 a := fun a ha => upd_ne fun z => ha (by rw [t2, z]; simp)
            refine k _ F1 _ (((st.mono fun _ h => h).trans S1 (Stp.chgS (M := [i]) (i := i) (by simp) out)).mono fun j hj => by simpa using hj) (S1.chgS (S1.dkI e2) out ⟨p', q', by rw [t1]; rfl, t2, ?_, ?_⟩) (.inl .non)
            · rw [upd_ne hpq]
              exact t3
            · rw [upd_same, List.map_append]
              rfl
          · cases e
      · cases e
/-- d[2] = e -/
def sDkN (i : Nat) (f : List Sl → Option (D × List Sl)) : List Sl → Option Out := fun δ => (f δ).bind fun p => match p.1 with
  | .int v => (dkAt i p.2).map fun w => .nx (p.2.set i (.dk w.1 w.2.1 v))
  | _ => none
theorem sv_dkN {io : Nat → Bool} {fr : Bool} {j} {p3} {v : Expr} {fv} {M : List Nat} {p1 tpos : Pos} (hu : X.A.units + 1 < cLine) (n : Nm X i x) (hv : EV X v fv [] M) (c : Pc X (.Name x p1) (.Constant (.int 2) j p3) v tpos pos.line) :
    SV X io fr (.Assign [.Subscript (.Name x p1) (.Constant (.int 2) j p3) tpos] v pos) (sDkN i fv) := by
  obtain ⟨tv, pv, qv⟩ := hv
  refine ⟨_, ps_asg pv (pg_sub n.pe pe_int (set_2 hu) c.as) c.sw c.st c.ea, fun Y F H δ σ A hY S o e D k => ?_⟩
  unfold sDkN at e
  cases e1 : fv δ with
  | none => rw [e1] at e; cases e
  | some u =>
    obtain ⟨d, δ1⟩ := u
    rw [e1] at e
    simp only [Option.bind_some] at e
    split at e
    · rename_i v'
      cases e2 : dkAt i δ1 with
      | none => rw [e2] at e; cases e
      | some w =>
        rw [e2] at e
        cases e
        refine qv Y F H δ σ A S _ δ1 e1 _ fun y F1 H1 st S1 r => ?_
        obtain ⟨p, q, s1, s2, s3, s4⟩ := S1.dk e2
        refine ⟨.ref p, s1, ?_⟩
        rw [r.int]
        have hpq := dk_ne s3 s4
        refine .inl ⟨p, _, 2, 2, rfl, rfl, s3, rfl, ?_⟩
        have out : ∀ a, a ∉ A i → upd H1 p (.lst ([V.ref q, .int w.2.1, .int w.2.2].set 2 (.int v'))) a = H1 a := fun a ha => upd_ne fun z => ha (by rw [s2, z]; simp)
        refine k σ F1 _ A st.f (S1.chgS (S1.dkI e2) out ⟨p, q, by rw [s1]; rfl, s2, ?_, ?_⟩)
        · rw [upd_same]
          rfl
        · rw [upd_ne (Ne.symm hpq)]
          exact s4
    · cases e
end
end Z

/-! Zg: a law's deck: how it is made. -/
namespace Z
open PySem PySem.Spec PyProof.Rows L2
def deckOf (ns : List Int) : List Int := (ns.take 63).reverse
def mixOf (ns : List Int) : Int := (deckOf ns).sum % 2147483629 + 48271 * (deckOf ns).length
theorem cut63 {α : Type} (xs : List α) : cutL xs none (some 63) = xs.take 63 := by
  unfold cutL
  rw [show HT.sIx xs.length 0 none = 0 from rfl, List.drop_zero, Nat.sub_zero]
  have h : HT.sIx xs.length xs.length (some 63) = min 63 xs.length := by
    unfold HT.sIx
    simp
    try omega
  rw [h]
  by_cases c : xs.length ≤ 63
  · rw [Nat.min_eq_right c, List.take_of_length_le (Nat.le_refl _), List.take_of_length_le c]
  · rw [Nat.min_eq_left (by omega)]
section
variable {X : Cx} {x : Str} {i : Nat} {pos : Pos}
def fRevScr (i : Nat) : List Sl → Option (D × List Sl) := fun δ => match δ[i]? with
  | some (.scr ns) => some (.list ((deckOf ns).map PyData.int), δ)
  | _ => none
theorem nv_revScr {p p2 pos2 p3 p4 p5 p6 : Pos} {j} (hc : X.calm = true) (hg : Gl X "list") (hm : X.mg "list" = none) (hg2 : Gl X "reversed") (hm2 : X.mg "reversed" = none) (n : Nm X i x)
    (hs : starEach [.Subscript (.Name x p3) (.Slice none (some (.Constant (.int 63) j p6)) none p4) p5] X.env = (false, eval (.Subscript (.Name x p3) (.Slice none (some (.Constant (.int 63) j p6)) none p4) p5) X.env) :: starEach [] X.env)
    (hs2 : starEach [.Call (.Name "reversed" p2) [.Subscript (.Name x p3) (.Slice none (some (.Constant (.int 63) j p6)) none p4) p5] [] pos2] X.env = (false, eval (.Call (.Name "reversed" p2) [.Subscript (.Name x p3) (.Slice none (some (.Constant (.int 63) j p6)) none p4) p5] [] pos2) X.env) :: starEach [] X.env) :
    NV X (.Call (.Name "list" p) [.Call (.Name "reversed" p2) [.Subscript (.Name x p3) (.Slice none (some (.Constant (.int 63) j p6)) none p4) p5] [] pos2] [] pos) (fRevScr i) [] := by
  refine ⟨_, pe_lstRev hc hg hm hg2 hm2 (pe_slice sl_list n.pe po_none (po_some pe_int)) hs hs2, fun Y F H δ σ A S z δ' e Q k => ?_⟩
  unfold fRevScr at e
  split at e
  · rename_i ns e0
    cases e
    obtain ⟨e1, a, e2, e3⟩ := S.slot i _ e0
    refine ⟨.ref a, jn_some e2, 63, rfl, a, ns.map V.int, rfl, S.sub.seq e3, fun b hb => ?_⟩
    have ec : cutV (ns.map V.int) none (some 63) = (ns.take 63).map V.int := by
      show cutL (ns.map V.int) none (some 63) = _
      rw [cut63, List.map_take]
    refine ⟨b, _, rfl, .inl (.inl upd_same), fun c hc2 => ?_⟩
    rw [ec] at hc2 ⊢
    rw [← List.map_reverse]
    have hcb : H c = none := by
      by_cases z : c = b
      · subst z
        exact hb
      · rw [upd_ne z] at hc2
        exact hc2
    have S1 := S.laidO (o := .lst ((ns.take 63).map V.int)) hb
    have S2 := S1.laidO (p := c) (o := .lst ((ns.take 63).reverse.map V.int)) hc2
    have st : Stp A [] F H F (upd (upd H b (.lst ((ns.take 63).map V.int))) c (.lst ((ns.take 63).reverse.map V.int))) :=
      stp_nil S1 (Stp.laidO hb) (Stp.laidO hc2)
    exact k c F _ st S2 hcb (S.sub.free hcb) ⟨_, upd_same, rps_ints _⟩
  · cases e
end
/-- the promise of a law's _law_deck -/
def spDk (K : PySem.W.Frag) : Sp := fun us H Q _ => ∃ (u : V) (F : Hp) (ns : List Int), us = [u] ∧ Same F H ∧ (∃ a, u = .ref a ∧ SqL K F a (ns.map V.int)) ∧
  ∀ p q F' H', Stp (fun _ => []) [] F H F' H' → Same F' H' → H p = none → H q = none → F' p = none → F' q = none → p ≠ q → H' p = some (.lst [.ref q, .int (mixOf ns), .int 0]) → H' q = some (.lst ((deckOf ns).map V.int)) → Q (.ref p) H'
section
variable {P : Program} {w : World} {K : PySem.W.Frag} {mg : Str → Option Value} {base : Heap} {CX : CXT} {k : Nat} {f : Addr} {fd : FuncData} {x y : Str}
theorem deck_ok {qual : Str} {st : Stmt} {nm : Str} {s1 : Stmt} {e1 e2 : Expr} {f1 : List Sl → Option (D × List Sl)} {p1 p2 p3 : Pos} (Fu : Fun K nm qual st f fd) (S : FnScope [x, y] [x] (defScope st)) (hbd : defBody st = [s1, .Return (some (.List [.Name y p1, e1, e2] p2)) p3])
    (hf : ∀ ns, f1 [.scr ns, .ow (.list ((deckOf ns).map PyData.int))] = some (.int (mixOf ns), [.scr ns, .ow (.list ((deckOf ns).map PyData.int))]))
    (body : ∀ (cd : Value) (A : Around) (out : List Env) (s : Shared) (G : Hp) (E : XK), A.guards = some [] → Room k (A.deeper (envOfC qual (defScope st) s.heap.objs.size f cd)) →
      SV (cxOf CX P w K mg base [x, y] qual (defScope st) f cd A out s G E) (fun _ => false) false s1 (sOwn 1 (fRevScr 0)) ∧
      CV (cxOf CX P w K mg base [x, y] qual (defScope st) f cd A out s G E) [.Name y p1, e1, e2] (kIo 1 (kCons f1 (kCons (fCon (.int 0)) kNil))) [] []) :
    FnG P w K mg base CX (k + 1) f fd [x] (spDk K) := by
  refine FnG.mk' Fu S (fun us G Q E h => by obtain ⟨u, _, _, rfl, _⟩ := h; rfl) fun cd A out s G us Q E hG hR h => ?_
  obtain ⟨⟨t1, q1, b1⟩, ⟨t2, q2, b2⟩⟩ := body cd A out s G E hG hR
  obtain ⟨u, F, ns, rfl, sF, ⟨a, rfl, hs⟩, kk⟩ := h
  rw [hbd]
  refine ⟨_, pss_cons q1 (pss_cons (ps_ret (pe_lst q2)) pss_nil), ?_⟩
  have S0 : SR K ⟨fun _ => false, G, F, [], fun _ => []⟩ F G [.scr ns, .no] (L2.start [x, y] [.ref a]) (fun _ => []) := by
    refine ⟨rfl, fun i s e => ?_, fun _ _ => rfl, fun _ _ _ h => by simp at h, fun _ _ h => by simp at h, fun _ _ h => by simp at h, sF, fun _ h => by simp at h, fun _ h => by simp at h, fun _ _ e _ => e, fun _ e n => absurd e n, Same.refl _⟩
    match i, e with
    | 0, e => cases e; exact ⟨rfl, a, rfl, hs⟩
    | 1, e => cases e; exact rfl
    | _ + 2, e => simp at e
  refine b1 _ F G _ _ _ rfl S0 (.nx [.scr ns, .ow (.list ((deckOf ns).map PyData.int))]) rfl _ ?_
  intro σ' F1 H1 A1 s01 S1
  refine b2 _ F1 H1 _ _ _ S1 [.io 1, .d (.int (mixOf ns)), .d (.int 0)] [.scr ns, .ow (.list ((deckOf ns).map PyData.int))] ?_ _ ?_
  · simp only [kIo, kCons, kNil, hf ns]
    rfl
  · intro vs F2 H2 st2 S2 r
    match vs, r with
    | [v0, v1, v2], ⟨r0, r1, r2, _⟩ =>
      have e1 := r1.int
      have e2 := r2.int
      subst e1
      subst e2
      obtain ⟨q, g1, g2, xs, g3, g4⟩ := S2.slot 1 _ rfl
      have e0 : v0 = .ref q := by
        have := jn_some g1
        rw [r0] at this
        cases this
        rfl
      subst e0
      have e3 := g4.ints
      subst e3
      refine ⟨by show 3 ≤ sizeLine; decide, fun p hp => ?_⟩
      have hq2 : F2 q = none := S2.hid 1 q (by rw [g2]; simp)
      have hqG : G q = none := S2.new 1 q (by rw [g2]; simp) rfl
      have hpq : p ≠ q := fun z => by rw [z, g3] at hp; cases hp
      have keep : ∀ b o, G b = some o → H2 b = some o := fun b o e => S2.kp b o e fun i hi => by cases hi
      have hpG : G p = none := by
        cases z : G p with
        | none => rfl
        | some o => rw [keep p o z] at hp; cases hp
      refine kk p q F2 _ ⟨S2.f0, S2.nw, fun b o e _ => ?_⟩ (fun b o e => ?_) hpG hqG (S2.sub.free hp) hq2 hpq upd_same ?_
      · rw [upd_ne (ne_of_none (keep b o e) hp)]
        exact keep b o e
      · rw [upd_ne (ne_of_none (S2.sub b o e) hp)]
        exact S2.sub b o e
      · rw [upd_ne (Ne.symm hpq)]
        exact g3
    | [], r => exact r.elim
    | [_], r => exact r.2.elim
    | [_, _], r => exact r.2.2.elim
    | _ :: _ :: _ :: _ :: _, r => exact r.2.2.2.elim
end
section
variable {X : Cx} {nm x y : Str} {p pos py p1 : Pos}
/-- _law_deck, known -/
structure KnD (X : Cx) (x : Str) : Prop where
  ex : ∃ (CX : CXT) (k : Nat) (a : Addr) (fd : FuncData) (ps : List Str), FnG X.prog X.w X.K X.mg X.base CX k a fd ps (spDk X.K) ∧ Room k X.A ∧ X.mg x = some (.ref a) ∧ PySem.W.keepIn X.K (.ref a) = true ∧ Binds X.K fd ps [] ∧ Passes CX X E0
  gd : X.A.guards = some []
  gl : Gl X x
  db : (x == ("__debug__" : Str)) = false
def sDeck (i j : Nat) : List Sl → Option Out := fun δ => match δ[j]? with
  | some (.scr ns) => if i < δ.length then some (.nx (δ.set i (.dk (deckOf ns) (mixOf ns) 0))) else none
  | _ => none
theorem sv_deck {io : Nat → Bool} {fr : Bool} {i j : Nat} (hio : io i = false) (T : Tg X i y) (n : Nm X j x) (kn : KnD X nm)
    (h1 : starEach [.Name x p1] X.env = (false, eval (.Name x p1) X.env) :: starEach [] X.env := by rfl) (h2 : (backTo p (starEach [] X.env)).any (·.1) = false := by rfl)
    {pst : Pos} (hs : swapsWith (.Call (.Name nm pos) [.Name x p1] [] p) (some (.Name y py)) pst.line X.env = pure false := by rfl) :
    SV X io fr (.Assign [.Name y py] (.Call (.Name nm pos) [.Name x p1] [] p) pst) (sDeck i j) := by
  obtain ⟨CX, k, a, fd, ps, Fn, hR, hm, hk, hb, hx⟩ := kn.ex
  refine ⟨_, ps_set T.nd T.at_ T.loc (Fn.pe kn.gd hR kn.gl hm hk hb hx (pa_cons n.pe pa_nil h1) kn.db h1 h2) hs T.fn, fun Y F H δ σ A hY S o e D kk => ?_⟩
  unfold sDeck at e
  split at e
  · rename_i ns e0
    split at e
    · rename_i hi
      cases e
      obtain ⟨e1, b, e2, e3⟩ := S.slot j _ e0
      refine ⟨.ref b, jn_some e2, .ref b, F, ns, rfl, S.sub, ⟨b, rfl, e3⟩, fun p q F' H' st sFH hp hq hpF hqF hpq hp' hq' => ?_⟩
      have st0 : Stp (argA A []) (List.range ([] : List Ar).length) (ex [] A F H) H F' H' := by
        rw [ex_nil]
        exact ⟨st.f, st.nw, fun a o e _ => st.kp a o e (by simp)⟩
      have S0 : SR X.K Fx.any F' H' [] (([] : List V).map some) (argA A []) := by
        refine ⟨rfl, fun i s e => by simp at e, fun _ _ => rfl, fun _ _ _ h => by simp [argA] at h, fun _ _ h => by simp [argA] at h, fun _ _ h => by simp [argA] at h, sFH, fun _ h => (by cases h), fun _ h => (by cases h), fun _ _ e => (by cases e), fun _ _ _ => rfl, fun _ _ e => (by cases e)⟩
      obtain ⟨st3, S3, _⟩ := S.behind (as := []) (vs := []) (R := []) (outs := []) rfl trivial st0 S0 rfl
      rw [unex_nil] at st3 S3
      have S3 : SR X.K Y F' H' δ σ A := S3
      have nA : ∀ c, H c = none → ∀ j, c ∉ A j := fun c hc j m => S.isSome m hc
      have S4 := S3.put (i := i) hi (by rw [hY]; exact hio) (s := .dk (deckOf ns) (mixOf ns) 0) (v := some (.ref p)) (l := [p, q]) ⟨p, q, rfl, rfl, hp', hq'⟩
        (fun c hc => by simp at hc; rcases hc with rfl | rfl <;> assumption) (fun c hc => by simp at hc; rcases hc with rfl | rfl; exact S.fresh0 hp; exact S.fresh0 hq)
        (fun c hc j _ => by simp at hc; rcases hc with rfl | rfl; exact nA _ hp j; exact nA _ hq j)
      exact kk _ F' H' _ st.f S4
    · cases e
  · cases e
end
end Z

/-! Zh: what a printed walk leans on; the head. -/
namespace Z
open PySem PySem.Spec PyProof.Rows L2
/-! ### units -/
theorem hu1 {A : Around} {k : Nat} (hr : Room k A) : A.units + 1 < cLine := by have := hr.un; omega
theorem hu65 {A : Around} {k : Nat} (hr : Room k A) : A.units + 65 < cLine := by have := hr.un; omega
theorem hu66 {A : Around} {k : Nat} (hr : Room k A) : A.units + 66 < cLine := by have := hr.un; omega
/-! ### arguments with their number -/
def CVn (X : Cx) (es : List Expr) (f : List Sl → Option (List Ar × List Sl)) (R M : List Nat) (n : Nat) (B : List Nat) : Prop := CV X es f R M ∧ ∀ δ as δ', f δ = some (as, δ') → as.length = n ∧ ∀ i ∈ ios as, i ∈ B
section
variable {X : Cx} {a : Expr} {es : List Expr} {fa fr} {Ra Rr Ma Mr B : List Nat} {n : Nat} {pos : Pos}
theorem kn_nil : CVn X [] kNil [] [] 0 [] := ⟨cv_nil, fun δ as δ' e => by cases e; exact ⟨rfl, fun _ h => h⟩⟩
theorem kn_cons (ha : EV X a fa Ra Ma) (hr : CVn X es fr Rr Mr n B) (dj : ∀ i ∈ Ra, i ∉ Mr := by decide) (hs : starEach (a :: es) X.env = (false, eval a X.env) :: starEach es X.env := by rfl) : CVn X (a :: es) (kCons fa fr) (Ra ++ Rr) (Ma ++ Mr) (n + 1) B := by
  refine ⟨cv_cons ha hr.1 dj hs, fun δ as δ' e => ?_⟩
  unfold kCons at e
  cases e1 : fa δ with
  | none => rw [e1] at e; cases e
  | some p =>
    rw [e1] at e
    simp only [Option.bind_some] at e
    cases e2 : fr p.2 with
    | none => rw [e2] at e; cases e
    | some q =>
      rw [e2] at e
      cases e
      obtain ⟨h1, h2⟩ := hr.2 _ q.1 q.2 e2
      exact ⟨by rw [List.length_cons, h1], h2⟩
theorem kn_io {i : Nat} {x : Str} (nm : Nm X i x) (hr : CVn X es fr Rr Mr n B) (hs : starEach (.Name x pos :: es) X.env = (false, eval (.Name x pos) X.env) :: starEach es X.env := by rfl) : CVn X (.Name x pos :: es) (kIo i fr) Rr Mr (n + 1) (i :: B) := by
  refine ⟨cv_io nm hr.1 hs, fun δ as δ' e => ?_⟩
  unfold kIo at e
  split at e
  · cases e2 : fr δ with
    | none => rw [e2] at e; cases e
    | some q =>
      rw [e2] at e
      cases e
      obtain ⟨h1, h2⟩ := hr.2 _ q.1 q.2 e2
      exact ⟨by rw [List.length_cons, h1], fun j hj => by
        rcases List.mem_cons.mp hj with z | z
        · subst z; exact List.mem_cons_self
        · exact List.mem_cons_of_mem _ (h2 j z)⟩
  · cases e
theorem al_nil : ∀ δ ds δ', aNil δ = some (ds, δ') → ds.length = 0 := fun _ _ _ e => by cases e; rfl
theorem al_cons {n : Nat} (h : ∀ δ ds δ', (fr : List Sl → Option (List D × List Sl)) δ = some (ds, δ') → ds.length = n) : ∀ δ ds δ', aCons fa fr δ = some (ds, δ') → ds.length = n + 1 := fun δ ds δ' e => by
  obtain ⟨d, δ1, r, _, e2, rfl⟩ := aCons_some e
  rw [List.length_cons, h _ _ _ e2]
end
/-! ### a tuple of targets -/
def tN : Tt → Nat
  | .nm _ => 0
  | .nil => 0
  | .cons _ b => tN b + 1
def tOk : Tt → Bool
  | .nm _ => true
  | .nil => true
  | .cons _ (.nm _) => false
  | .cons _ b => tOk b
theorem tN_len : ∀ (T : Tt) (ds : List D) (δ δ' : List Sl), (∀ i, T ≠ .nm i) → tOk T = true → bindTs T ds δ = some δ' → ds.length = tN T
  | .nm i, _, _, _, h, _, _ => absurd rfl (h i)
  | .nil, [], _, _, _, _, _ => rfl
  | .nil, _ :: _, _, _, _, _, e => by unfold bindTs at e; cases e
  | .cons a b, [], _, _, _, _, e => by unfold bindTs at e; cases e
  | .cons a b, d :: ds, δ, δ', _, ok, e => by
    unfold bindTs at e
    cases e1 : bindT a d δ with
    | none => rw [e1] at e; cases e
    | some δ1 =>
      rw [e1] at e
      have hb : ∀ i, b ≠ .nm i := fun i z => by subst z; cases ok
      have ok2 : tOk b = true := by
        cases b with
        | nm i => exact absurd rfl (hb i)
        | nil => rfl
        | cons _ _ => exact ok
      exact congrArg (· + 1) (tN_len b ds δ1 δ' hb ok2 e)
theorem gv_t {X : Cx} {es : List Expr} {k : Nat} {pos : Pos} {T : Tt} (hc : X.calm = true) (h : GsV X es T) (hT : ∀ i, T ≠ .nm i := by intro _ z; cases z) (ok : tOk T = true := by rfl) (hn : (assignEach es X.env).length = tN T := by rfl) (hst : (assignEach es X.env).findIdx? (·.1) = none := by rfl) : GV X (.Tuple es k pos) T :=
  gv_tup hc h hT hn (fun ds δ δ' e => tN_len T ds δ δ' hT ok e) hst
/-! ### the defs that are known -/
structure GK (P : Program) (w : World) (K : PySem.W.Frag) (mg : Str → Option Value) (base : Heap) (x : Str) (k n : Nat) (fr : Bool) (φ : List Sl → Option (D × List Sl)) : Prop where
  ex : ∃ (a : Addr) (fd : FuncData) (ps : List Str), FnG P w K mg base CX0 k a fd ps (spF K ps.length fr φ) ∧ ps.length = n ∧ mg x = some (.ref a) ∧ PySem.W.keepIn K (.ref a) = true ∧ Binds K fd ps []
structure GKD (P : Program) (w : World) (K : PySem.W.Frag) (mg : Str → Option Value) (base : Heap) (x : Str) (k : Nat) : Prop where
  ex : ∃ (a : Addr) (fd : FuncData) (ps : List Str), FnG P w K mg base CX0 k a fd ps (spDk K) ∧ mg x = some (.ref a) ∧ PySem.W.keepIn K (.ref a) = true ∧ Binds K fd ps []
section
variable {X : Cx} {x : Str} {k j n : Nat} {fr : Bool} {φ : List Sl → Option (D × List Sl)}
theorem GK.kn (g : GK X.prog X.w X.K X.mg X.base x k n fr φ) (hR : Room j X.A) (hG : X.A.guards = some []) (gl : Gl X x := by rfl) (hk : k ≤ j := by decide) (db : (x == ("__debug__" : Str)) = false := by decide) : Kn X x n fr φ := by
  obtain ⟨a, fd, ps, h1, h2, h3, h4, h5⟩ := g.ex
  exact ⟨⟨CX0, k, a, fd, ps, h1, h2, hR.mono hk, h3, h4, h5, pass0⟩, hG, gl, db⟩
theorem GKD.kn (g : GKD X.prog X.w X.K X.mg X.base x k) (hR : Room j X.A) (hG : X.A.guards = some []) (gl : Gl X x := by rfl) (hk : k ≤ j := by decide) (db : (x == ("__debug__" : Str)) = false := by decide) : KnD X x := by
  obtain ⟨a, fd, ps, h1, h3, h4, h5⟩ := g.ex
  exact ⟨⟨CX0, k, a, fd, ps, h1, hR.mono hk, h3, h4, h5, pass0⟩, hG, gl, db⟩
end
/-- a constant of the module -/
def GC (K : PySem.W.Frag) (mg : Str → Option Value) (x : Str) (d : D) : Prop := ∃ u v, mg x = some u ∧ kRp K 40 u = some (v, d)
/-- .. a tuple with no dict of its own -/
def GCt (K : PySem.W.Frag) (mg : Str → Option Value) (x : Str) (ds : List D) : Prop := ∃ u v, mg x = some u ∧ kRp K 40 u = some (v, .tuple ds) ∧ kDn K u = true
theorem GCt.c {K : PySem.W.Frag} {mg : Str → Option Value} {x : Str} {ds : List D} (h : GCt K mg x ds) : GC K mg x (.tuple ds) := by
  obtain ⟨u, v, h1, h2, _⟩ := h
  exact ⟨u, v, h1, h2⟩
theorem ev_g {X : Cx} {x : Str} {d : D} {pos : Pos} (c : GC X.K X.mg x d) (hg : Gl X x := by rfl) (db : (x == ("__debug__" : Str)) = false := by decide) : EV X (.Name x pos) (fCon d) [] [] := ev_gc hg ⟨c, db⟩
theorem ev_ti {X : Cx} {x : Str} {ds : List D} {e : Expr} {fe} {Re Me : List Nat} {p1 apos pos : Pos} (c : GCt X.K X.mg x ds) (he : EV X e fe Re Me) (hg : Gl X x := by rfl) (db : (x == ("__debug__" : Str)) = false := by decide) (m : Mc X (.Name x p1) "index" apos e [] pos := by exact ⟨rfl, rfl, rfl, rfl, rfl⟩) :
    EV X (.Call (.Attribute (.Name x p1) "index" apos) [e] [] pos) (f1 (tixD (.tuple ds)) fe) [] Me := ev_tix hg c db he m
/-! ### the head -/
theorem frz_some {H : Hp} (hO : L2.Only H) {b : Addr} {o : HO} (e : H b = some o) : ∃ ob xs, o = .frz ob (.lst xs) := by
  rcases hO b with z | ⟨ob, xs, z⟩
  · rw [e] at z; cases z
  · rw [e] at z; cases z; exact ⟨ob, xs, rfl⟩
theorem spF_script {K : PySem.W.Frag} {φ : List Sl → Option (D × List Sl)} {H : Hp} {a : Addr} {ns : List Int} (hS : SqL K H a (ns.map V.int)) {outs : List Sl} (hφ : φ [.scr ns] = some (.bool true, outs)) : spF K 1 false φ [.ref a] H (fun v _ => v = .bl true) (fun _ _ _ => False) := by
  refine ⟨H, [.scr ns], fun _ => [], rfl, ?_, .bool true, outs, hφ, fun v F' H' _ _ r => ?_⟩
  · refine ⟨rfl, fun i s e => ?_, fun _ _ => rfl, fun _ _ _ h => by simp at h, fun _ _ h => by simp at h, fun _ _ h => by simp at h, Same.refl _, fun _ h => (by cases h), fun _ h => (by cases h), fun _ _ e => (by cases e), fun _ _ _ => rfl, fun _ _ e => (by cases e)⟩
    match i, e with
    | 0, e => cases e; exact ⟨rfl, a, rfl, hS⟩
    | _ + 1, e => simp at e
  · exact rp_bool r
/-- the law's call, from its promise -/
theorem zcall {P : Program} {w : World} {K : PySem.W.Frag} {mg mb : Str → Option Value} {k : Nat} {fa a : Addr} {fd : FuncData} {x : Str} {φ : List Sl → Option (D × List Sl)} {s1 : Shared} {vs : List Value} {ns : List Int}
    (KX : K.In s1.heap) (hns : s1.heap.Ns mainGlobals mg) (hb : s1.heap.Ns builtinsNs mb) (hbb : ∀ x : Str, x ≠ "__name__" → mb x = bootBuiltins x) (hlim : s1.heap.NoLimit) (hg : s1.gens = #[])
    (ha : s1.heap.get? a = some { cls := .type "list", data := .seq vs.toArray }) (hi : IntsAre vs ns) (hl : ns.length ≤ sizeLine) (hr : Room k callerA)
    (Fn : ∀ base : Heap, K.In base → base.Ns mainGlobals mg → FnG P w K mg base CX0 k fa fd [x] (spF K 1 false φ)) (hbind : ∀ (s : Shared) (u : Value), BindsTo s fd ⟨[u], []⟩ [(x, u)])
    (hφ : ∃ outs, φ [.scr ns] = some (.bool true, outs)) :
    codeAny (model P w) callerA (.call (.ref fa) ⟨[.ref a], []⟩) (fun r s' => r = .ok (.ret (.bool true)) ∧ OldK s1.heap s'.heap ∧ s'.os = s1.os ∧ AllBare s'.gens) s1 := by
  obtain ⟨outs, hφ⟩ := hφ
  have rv := vals_ints hi
  have lv := hi.length
  -- the heap H: nothing, or the script alone
  have go : ∀ H : Hp, L2.Only H → SqL K H a (ns.map V.int) → HOk P w H s1.heap → (∀ b, H b ≠ none → b = a) → (H a ≠ none → K.lookup a = none) →
      codeAny (model P w) callerA (.call (.ref fa) ⟨[.ref a], []⟩) (fun r s' => r = .ok (.ret (.bool true)) ∧ OldK s1.heap s'.heap ∧ s'.os = s1.os ∧ AllBare s'.gens) s1 := by
    intro H hO hS hok hA hK
    have free : ∀ {b : Addr} {o : Obj}, s1.heap.get? b = some o → o.data ≠ .seq vs.toArray → H b = none := fun {b o} e d => by
      cases q : H b with
      | none => rfl
      | some u =>
        obtain rfl := hA b (by rw [q]; simp)
        rw [ha] at e
        cases e
        exact absurd rfl d
    have there : ∀ {b : Addr} {o : Obj}, s1.heap.get? b = some o → H b = none → (hidT s1.heap H).get? b = some o := fun e n => hidT_get e n
    have nsK : ∀ {b : Addr} {m : Str → Option Value}, s1.heap.Ns b m → (hidT s1.heap H).Ns b m := fun {b m} ⟨o, es, ep, e, d, r⟩ => ⟨o, es, ep, there e (free e (by rw [d]; intro z; cases z)), d, r⟩
    have hKb : K.In (hidT s1.heap H) := fun b o e => there (KX b o e) (by
      cases q : H b with
      | none => rfl
      | some u =>
        obtain rfl := hA b (by rw [q]; simp)
        have := hK (by rw [q]; simp)
        rw [e] at this
        cases this)
    have hM : Mod K mg (hidT s1.heap H) := by
      obtain ⟨mc, l1, l2⟩ := hlim
      exact ⟨hKb, nsK hns, ⟨mb, nsK hb, hbb⟩, mc, nsK l1, l2⟩
    have e0 : Env0 P w K mg (hidT s1.heap H) callerA [] s1 H := ⟨rfl, hM, fun b o e => of_hidT e, Nat.le_of_eq (hidT_size _ _), trivial, fun b hb => absurd (show b ∈ ([] : List Addr) from hb) (by simp), hok, .of_eq hg⟩
    have run := (Fn _ hKb (nsK hns)).run callerA [] s1 H ⟨[.ref a], []⟩ [.ref a] [.ref a] _ _ rfl hr e0 (hbind s1 (.ref a)) (.cons rfl .nil) (spF_script hS hφ)
    refine codeAny_mono run fun r s' h => ?_
    match r, h with
    | .error _, h => exact h.elim
    | .ok .next, h => exact h.elim
    | .ok .brk, h => exact h.elim
    | .ok .cont, h => exact h.elim
    | .ok (.ret u), h =>
      obtain ⟨v, H', os, bare, un, hok', r', q⟩ := h
      obtain rfl : v = .bl true := q
      obtain rfl : u = Value.bool true := r'
      refine ⟨rfl, OldK.of_keep fun b o e => ?_, os, bare⟩
      cases q : H b with
      | none => exact un.keep b o e q (fun z => absurd (show b ∈ ([] : List Addr) from z) (by simp)) (by simp)
      | some u =>
        obtain ⟨ob, xs, rfl⟩ := frz_some hO q
        obtain ⟨e1, _⟩ := hok b _ q
        obtain ⟨e2, _⟩ := hok' b _ (un.frzs b ob _ q)
        rw [e] at e1
        cases e1
        exact e2
  cases hk : K.lookup a with
  | some o =>
    have e := KX a o hk
    rw [ha] at e
    cases e
    exact go (fun _ => none) (fun _ => .inl rfl) (.inr ⟨_, vs.toArray, _, hk, rfl, rfl, rfl, by rw [List.size_toArray, lv]; exact hl, by simpa using rv⟩) (fun b u z => by cases (show (none : Option HO) = some u from z)) (fun b z => absurd rfl z) (fun z => absurd rfl z)
  | none =>
    have yes : ∀ b, b = a → (if b = a then some (HO.frz { cls := .type "list", data := .seq vs.toArray } (.lst (ns.map V.int))) else none) = some (HO.frz { cls := .type "list", data := .seq vs.toArray } (.lst (ns.map V.int))) := fun b h => if_pos h
    refine go (fun b => if b = a then some (.frz { cls := .type "list", data := .seq vs.toArray } (.lst (ns.map V.int))) else none) (fun b => ?_) (.inl (.inr ⟨_, yes a rfl⟩)) (fun b u z => ?_) (fun b z => ?_) fun _ => hk
    · by_cases c : b = a
      · exact .inr ⟨_, _, yes b c⟩
      · exact .inl (if_neg c)
    · by_cases c : b = a
      · subst c
        cases (yes b rfl).symm.trans z
        exact ⟨ha, by rw [List.length_map]; exact hl, vs, _, rv, ha⟩
      · cases (if_neg c : (if b = a then some (HO.frz { cls := .type "list", data := .seq vs.toArray } (.lst (ns.map V.int))) else none) = none).symm.trans z
    · by_cases c : b = a
      · exact c
      · exact absurd (if_neg c) z
/-- the goal that k_head leaves -/
theorem zwalk {l : PySem.W.OpenLaw} {n k : Nat} {q : Program} {loose : List Str} {XP : (Str → Option Value) → Heap → Prop} {YP : World → Heap → Prop} {d : DefRec} {K : Params → PySem.W.Frag} {φ : List Sl → Option (D × List Sl)} {x : Str}
    (hn : l.most = some n) (hn2 : n ≤ sizeLine) (hdf : d.params.defaults = []) (hr : Room k callerA) (hY : ∀ (w : World) (h : Heap), YP w h → (K w.params).In h)
    (Fn : ∀ (w : World) (mg : Str → Option Value) (fa : Addr) (h : Heap), (K w.params).In h → h.Ns mainGlobals mg → mg d.name = some (.ref fa) →
      ∃ fd : FuncData, (∀ (s : Shared) (u : Value), BindsTo s fd ⟨[u], []⟩ [(x, u)]) ∧ ∀ base : Heap, (K w.params).In base → base.Ns mainGlobals mg → FnG l.prog w (K w.params) mg base CX0 k fa fd [x] (spF (K w.params) 1 false φ))
    (hφ : ∀ ns : List Int, ns.length ≤ n → ∃ outs, φ [.scr ns] = some (.bool true, outs)) :
    PySem.W.WalkO q loose XP YP l.row.toRowW d [] (fun f vs => PySem.call f vs) := by
  refine Att.attach_call hn hdf fun w s0 s1 mg mb fa o pm cd doc a vs ns G Y ho hd hcd hmg hobj hints hlen hg => ?_
  have KX := hY w _ Y
  obtain ⟨fd, hb, hF⟩ := Fn w mg fa _ KX G.T.g hmg
  exact zcall KX G.T.g G.T.b G.T.builtins G.T.nolimit hg hobj hints (Nat.le_trans hlen hn2) hr hF hb (hφ ns hlen)
end Z

/-! Zi: short forms for printed walks. -/
namespace Z
open PySem PySem.Spec PyProof.Rows L2
section
variable {X : Cx} {x : Str} {i : Nat} {pos : Pos}
theorem nmk (i : Nat) (h : X.N[i]? = some x := by rfl) (v : Vis X.env.scope x := by first | exact .inl rfl | exact .inr (.inl rfl) | exact .inr (.inr rfl)) (db : (x == ("__debug__" : Str)) = false := by decide) (cd : (x == ("__classdict__" : Str)) = false := by decide) : Nm X i x := ⟨h, v, db, cd⟩
theorem tgk (i : Nat) (nd : X.N.Nodup) (h : X.N[i]? = some x := by rfl) (l : Loc X.env.scope x := by first | exact .inl rfl | exact .inr rfl) (f : X.fn x = true ∨ X.env.scope.names.lookup x = some .local := by first | exact .inr rfl | exact .inl rfl) : Tg X i x := ⟨nd, h, l, f⟩
theorem bnk {v : Value} (m : X.mg x = none) (gl : Gl X x := by rfl) (bt : bootBuiltins x = some v := by decide +kernel) (nn : x ≠ "__name__" := by decide) (db : (x == ("__debug__" : Str)) = false := by decide) : Bn X x v := ⟨gl, m, bt, nn, db⟩
theorem ev_v (i : Nat) (h : X.N[i]? = some x := by rfl) (v : Vis X.env.scope x := by first | exact .inl rfl | exact .inr (.inl rfl) | exact .inr (.inr rfl)) (db : (x == ("__debug__" : Str)) = false := by decide) (cd : (x == ("__classdict__" : Str)) = false := by decide) : EV X (.Name x pos) (fVar i) [] [] := ev_var h v db cd
/-- a name that holds a datum or what is its own -/
def fRd (i : Nat) : List Sl → Option (D × List Sl) := fun δ => match δ[i]? with
  | some (.fz d) => some (d, δ)
  | some (.ow (.list ds)) => some (.list ds, δ)
  | some (.lk ds) => some (.dict ds, δ)
  | _ => none
theorem ev_rd (i : Nat) (h : X.N[i]? = some x := by rfl) (v : Vis X.env.scope x := by first | exact .inl rfl | exact .inr (.inl rfl) | exact .inr (.inr rfl)) (db : (x == ("__debug__" : Str)) = false := by decide) (cd : (x == ("__classdict__" : Str)) = false := by decide) : EV X (.Name x pos) (fRd i) [i] [] := by
  obtain ⟨t, p, q⟩ := ev_var (pos := pos) h v db cd
  obtain ⟨t2, p2, q2⟩ := ev_tmp (pos := pos) h v db cd
  refine ⟨_, pe_var h v db cd, fun Y F H δ σ A S d δ' e Q k => ?_⟩
  unfold fRd at e
  split at e
  · rename_i d0 hd
    cases e
    obtain ⟨_, u, e2, r⟩ := S.slot i _ hd
    exact ⟨u, jn_some e2, k u F H Stp.refl S (.inl r)⟩
  · rename_i d0 hd
    cases e
    obtain ⟨u, e2, e3, o⟩ := S.slot i _ hd
    exact ⟨_, jn_some e2, k _ F H Stp.refl S (.inr ⟨i, by simp, u, rfl, e3, o⟩)⟩
  · rename_i d0 hd
    cases e
    obtain ⟨u, e2, e3, o⟩ := S.slot i _ hd
    exact ⟨_, jn_some e2, k _ F H Stp.refl S (.inr ⟨i, by simp, u, rfl, e3, o⟩)⟩
  · cases e
end
section
variable {X : Cx} {x : Str} {p pos : Pos} {e : Expr} {es : List Expr} {R M : List Nat} {f : List Sl → Option (List Ar × List Sl)} {φ : List Sl → Option (D × List Sl)} {n : Nat} {B : List Nat}
theorem ev_fn (kn : Kn X x n false φ) (h : CVn X (e :: es) f R M n B) (h1 : starEach (e :: es) X.env = (false, eval e X.env) :: starEach es X.env := by rfl) (h2 : (backTo pos (starEach es X.env)).any (·.1) = false := by rfl) : EV X (.Call (.Name x p) (e :: es) [] pos) (callF R true φ f) [] (M ++ B) := ev_call kn h.2 h.1 h1 h2
theorem nv_fn (kn : Kn X x n true φ) (h : CVn X (e :: es) f [] M n B) (h1 : starEach (e :: es) X.env = (false, eval e X.env) :: starEach es X.env := by rfl) (h2 : (backTo pos (starEach es X.env)).any (·.1) = false := by rfl) : NV X (.Call (.Name x p) (e :: es) [] pos) (callF [] true φ f) (M ++ B) := nv_call kn h.2 h.1 h1 h2
theorem hu67 {A : Around} {k : Nat} (hr : Room k A) : A.units + 67 < cLine := by have := hr.un; omega
end
/-- a block's names, looked at -/
def blkB (N : List Str) (sc scope : Scope) (own : List (Str × Nat)) : Bool :=
  decide (scope.kind = .function) && scope.names.all (fun y => decide (scope.names.lookup y.1 = some y.2)) && own.all (fun p => decide (N[p.2]? = some p.1)) && scope.names.all (fun y => decide (y.2 ≠ .free) || decide (sc.names.lookup y.1 = some .cell) || decide (sc.names.lookup y.1 = some .free))
    && scope.names.all (fun y => decide (y.2 ≠ .local ∧ y.2 ≠ .cell) || (own.map (·.1)).contains y.1 || !(N.contains y.1))
theorem blk_of {N : List Str} {sc scope : Scope} {own : List (Str × Nat)} (h : blkB N sc scope own = true) : BlkOk N sc scope own := by
  unfold blkB at h
  simp only [Bool.and_eq_true, decide_eq_true_eq, List.all_eq_true, Bool.or_eq_true, List.contains_iff_mem, Bool.not_eq_true'] at h
  obtain ⟨⟨⟨⟨h1, h2⟩, h3⟩, h4⟩, h5⟩ := h
  refine ⟨h1, h2, h3, fun y hy e => ?_, fun y hy e => ?_⟩
  · rcases h4 y hy with (z | z) | z
    · exact absurd e z
    · exact .inl z
    · exact .inr z
  · rcases h5 y hy with (z | z) | z
    · rcases e with e | e
      · exact absurd e z.1
      · exact absurd e z.2
    · exact .inl z
    · refine .inr fun m => ?_
      rw [List.contains_iff_mem.mpr m] at z
      cases z
theorem deck_f1 (ns : List Int) : f2 addA (f2 modD (fA (g1 sumD) (aCons (fRd 1) aNil)) (fCon (.int 2147483629))) (f2 mulA (fCon (.int 48271)) (fA (g1 lenD) (aCons (fRd 1) aNil))) [.scr ns, .ow (.list ((deckOf ns).map PyData.int))] = some (.int (mixOf ns), [.scr ns, .ow (.list ((deckOf ns).map PyData.int))]) := by
  have e1 : aCons (fRd 1) aNil [.scr ns, .ow (.list ((deckOf ns).map PyData.int))] = some ([.list ((deckOf ns).map PyData.int)], [.scr ns, .ow (.list ((deckOf ns).map PyData.int))]) := rfl
  have e2 : g1 sumD [.list ((deckOf ns).map PyData.int)] = some (.int (deckOf ns).sum) := by
    simp only [g1, sumD, intsOf_map, Option.map_some]
  have e3 : g1 lenD [.list ((deckOf ns).map PyData.int)] = some (.int ((deckOf ns).length : Nat)) := by
    simp only [g1, lenD, List.length_map]
  have e4 : modD (.int (deckOf ns).sum) (.int 2147483629) = some (.int ((deckOf ns).sum % 2147483629)) := by
    simp [modD]
  simp only [f2, fA, fCon, e1, e2, e3, e4, Option.bind_some, Option.map_some]
  rfl
theorem gcs {K : PySem.W.Frag} {u : Value} {d : D} (h : (kRp K 40 u).map (·.2) = some d) : kRp K 40 u = some ((((kRp K 40 u).map (·.1)).getD .non), d) := by
  cases e : kRp K 40 u with
  | none => rw [e] at h; cases h
  | some p =>
    rw [e] at h
    cases h
    rfl
end Z

/-! Zj: plain laws: the deck's draw. -/
namespace Z
open PySem PySem.Spec PyProof.Rows L2
theorem plain_ints : ∀ cs : List Int, PyData.plainAll (cs.map PyData.int) = true
  | [] => rfl
  | c :: r => by
    show (PyData.plain (.int c) && PyData.plainAll (r.map PyData.int)) = true
    rw [plain_ints r]
    rfl
theorem dep_ints : ∀ cs : List Int, PyData.depthAll (cs.map PyData.int) ≤ 1
  | [] => Nat.zero_le _
  | c :: r => by
    have := dep_ints r
    simp only [List.map_cons, PyData.depthAll, PyData.depth]
    omega
theorem shaped_ints (cs : List Int) : shp (.list (cs.map PyData.int)) = true := by
  have h1 := plain_ints cs
  have h2 := dep_ints cs
  unfold shp
  rw [Bool.and_eq_true, decide_eq_true_eq]
  refine ⟨h1, ?_⟩
  simp only [PyData.depth]
  omega
theorem eqD_ints_nil (cs : List Int) : eqD (.list (cs.map PyData.int)) (.list []) = some cs.isEmpty := by
  unfold eqD
  rw [shaped_ints, show shp (.list []) = true from rfl]
  cases cs <;> rfl
def gDrawT : List Sl → Option Out := sSeq (sIf (fun δ => toB (f2 (bD geD) (fVar 2) (f2 powD (fCon (.int 10)) (fCon (.int 18))) δ)) (sSeq (sExp (fDkPush 0 (f2 fdivD (fVar 2) (fVar 1)))) (sSeq (sRet (f2 modD (fVar 2) (fVar 1))) (sNil))) (sNil)) (sSeq (sSet 3 (f2 modD (f2 mulA (f2 addA (f2 addA (f2 modD (fVar 2) (fCon (.int 2147483629))) (f2 mulA (fCon (.int 104729)) (fDkN 0))) (fCon (.int 1))) (fCon (.int 48271))) (fCon (.int 2147483647)))) (sSeq (sSet 3 (f2 modD (f2 addA (f2 addA (f2 mulA (fVar 3) (fVar 3)) (f2 mulA (fCon (.int 69621)) (fDkN 0))) (fCon (.int 7))) (fCon (.int 2147483587)))) (sSeq (sRet (f2 modD (f2 fdivD (f2 modD (f2 mulA (fVar 3) (f2 addA (f2 fdivD (fVar 3) (fCon (.int 3))) (fCon (.int 39373)))) (fCon (.int 2305843009213693951))) (fCon (.int 128))) (fVar 1))) (sNil))))
def gDraw : List Sl → Option Out := sSeq (sDkN 0 (f2 addA (fDkN 0) (fCon (.int 1)))) (sSeq (sSet 2 (fIte (gDkE 0) (fDkM 0) (fDkPop 0))) gDrawT)
theorem addA_int (a b : Int) : addA (.int a) (.int b) = some (.int (a + b)) := rfl
theorem mulA_l (a b : Int) (h : lim64 a = true) : mulA (.int a) (.int b) = some (.int (a * b)) := by simp [mulA, mulD, h]
theorem mulA_r (a b : Int) (h : lim64 b = true) : mulA (.int a) (.int b) = some (.int (a * b)) := by simp [mulA, mulD, h]
theorem lim64_mod (a k : Int) (h : 0 < k) (h2 : k ≤ 2 ^ 62) : lim64 (a % k) = true := by
  have h3 := Int.emod_nonneg a (Int.ne_of_gt h)
  have h4 := Int.emod_lt_of_pos a h
  unfold lim64
  simp
  omega
theorem subD_int (a b : Int) : subD (.int a) (.int b) = some (.int (a - b)) := rfl
theorem modD_int (a b : Int) (h : 0 < b) : modD (.int a) (.int b) = some (.int (a % b)) := if_pos h
theorem fdivD_int (a b : Int) (h : 0 < b) (h2 : b < 2 ^ 30) : fdivD (.int a) (.int b) = some (.int (a / b)) := by
  show (if (decide (0 < b) && decide (b < 1073741824)) = true then some (PyData.int (a / b)) else none) = _
  rw [if_pos (by simp [h]; omega)]
/-- behind the cell -/
theorem draw_tail (cs : List Int) (m n c M : Int) (hM : 0 < M) (hM2 : M < 2 ^ 30) (hc : cs.length < 1000) :
    ∃ (r : Int) (cs' : List Int) (z : Sl), 0 ≤ r ∧ r < M ∧ cs'.length ≤ cs.length + 1 ∧ gDrawT [.dk cs m n, .fz (.int M), .fz (.int c), .no] = some (.rt (.int r) [.dk cs' m n, .fz (.int M), .fz (.int c), z]) := by
  have hs : cs.length < sizeLine := Nat.lt_of_lt_of_le hc (by decide)
  by_cases h : (10 : Int) ^ 18 ≤ c
  · refine ⟨c % M, cs ++ [c / M], .no, Int.emod_nonneg _ (by omega), Int.emod_lt_of_pos _ hM, by simp, ?_⟩
    have e1 : geD (.int c) (.int (10 ^ 18)) = some true := by
      simp [geD]
      omega
    have e2 : powD (.int 10) (.int 18) = some (.int (10 ^ 18)) := rfl
    simp only [gDrawT, sSeq, sIf, sExp, sRet, toB, f2, fVar, fCon, fDkPush, dkAt, bD, e1, e2, fdivD_int _ _ hM hM2, modD_int _ _ hM, hs, List.getElem?_cons_zero, List.getElem?_cons_succ, Option.bind_some, Option.map_some, if_true, List.set_cons_zero]
  · refine ⟨(((((c % 2147483629 + 104729 * n + 1) * 48271) % 2147483647) * (((c % 2147483629 + 104729 * n + 1) * 48271) % 2147483647) + 69621 * n + 7) % 2147483587 * ((((((c % 2147483629 + 104729 * n + 1) * 48271) % 2147483647) * (((c % 2147483629 + 104729 * n + 1) * 48271) % 2147483647) + 69621 * n + 7) % 2147483587) / 3 + 39373) % 2305843009213693951 / 128) % M, cs, .fz (.int (((((c % 2147483629 + 104729 * n + 1) * 48271) % 2147483647) * (((c % 2147483629 + 104729 * n + 1) * 48271) % 2147483647) + 69621 * n + 7) % 2147483587)), Int.emod_nonneg _ (Int.ne_of_gt hM), Int.emod_lt_of_pos _ hM, by omega, ?_⟩
    have e1 : geD (.int c) (.int (10 ^ 18)) = some false := by simp [geD]; omega
    have e2 : powD (.int 10) (.int 18) = some (.int (10 ^ 18)) := rfl
    have m1 : ∀ a : Int, modD (.int a) (.int 2147483629) = some (.int (a % 2147483629)) := fun a => modD_int a _ (by decide)
    have m2 : ∀ a : Int, modD (.int a) (.int 2147483647) = some (.int (a % 2147483647)) := fun a => modD_int a _ (by decide)
    have m3 : ∀ a : Int, modD (.int a) (.int 2147483587) = some (.int (a % 2147483587)) := fun a => modD_int a _ (by decide)
    have m4 : ∀ a : Int, modD (.int a) (.int 2305843009213693951) = some (.int (a % 2305843009213693951)) := fun a => modD_int a _ (by decide)
    have d1 : ∀ a : Int, fdivD (.int a) (.int 3) = some (.int (a / 3)) := fun a => fdivD_int a _ (by decide) (by decide)
    have d2 : ∀ a : Int, fdivD (.int a) (.int 128) = some (.int (a / 128)) := fun a => fdivD_int a _ (by decide) (by decide)
    have l1 : ∀ a : Int, mulA (.int 104729) (.int a) = some (.int (104729 * a)) := fun a => mulA_l _ _ rfl
    have l2 : ∀ a : Int, mulA (.int 69621) (.int a) = some (.int (69621 * a)) := fun a => mulA_l _ _ rfl
    have l3 : ∀ a : Int, mulA (.int a) (.int 48271) = some (.int (a * 48271)) := fun a => mulA_r _ _ rfl
    have l4 : ∀ a b : Int, mulA (.int (a % 2147483647)) (.int b) = some (.int ((a % 2147483647) * b)) := fun a b => mulA_l _ _ (lim64_mod _ _ (by decide) (by decide))
    have l5 : ∀ a b : Int, mulA (.int (a % 2147483587)) (.int b) = some (.int ((a % 2147483587) * b)) := fun a b => mulA_l _ _ (lim64_mod _ _ (by decide) (by decide))
    have mM : ∀ a : Int, modD (.int a) (.int M) = some (.int (a % M)) := fun a => modD_int a _ hM
    simp only [gDrawT, sSeq, sIf, sSet, sExp, sRet, sNil, toB, f2, fVar, fCon, fDkN, dkAt, bD, e1, e2, m1, m2, m3, m4, d1, d2, mM, addA_int, l1, l2, l3, l4, l5, hs, List.getElem?_cons_zero, List.getElem?_cons_succ, Option.bind_some, Option.map_some, List.length_cons, List.length_nil, List.set_cons_zero, List.set_cons_succ, Nat.reduceAdd, Nat.reduceLT, if_true]
theorem fnF_rt {sg : List Bool} {m : Nat} {fr : Bool} {g : List Sl → Option Out} {as δ o : List Sl} {d : D} (h1 : okArgs sg as = true) (h2 : g (as ++ List.replicate (m - sg.length) .no) = some (.rt d δ)) (h3 : mergeO as δ = some o) : fnF sg m fr g as = some (d, o) := by
  unfold fnF
  rw [h1, h2]
  show (mergeO as δ).map (fun o => (d, o)) = _
  rw [h3]
  rfl
def φDraw : List Sl → Option (D × List Sl) := fnF [true, false] 4 false gDraw
theorem draw_ok (cs : List Int) (m n M : Int) (hM : 0 < M) (hM2 : M < 2 ^ 30) (hc : cs.length ≤ 63) : ∃ (r : Int) (cs' : List Int) (n' : Int), 0 ≤ r ∧ r < M ∧ cs'.length ≤ 63 ∧ φDraw [.dk cs m n, .fz (.int M)] = some (.int r, [.dk cs' m n', .fz (.int M)]) := by
  have fin : ∀ (cs0 : List Int) (c : Int), cs0.length ≤ 62 → gDraw [.dk cs m n, .fz (.int M), .no, .no] = gDrawT [.dk cs0 m (n + 1), .fz (.int M), .fz (.int c), .no] →
      ∃ (r : Int) (cs' : List Int) (n' : Int), 0 ≤ r ∧ r < M ∧ cs'.length ≤ 63 ∧ φDraw [.dk cs m n, .fz (.int M)] = some (.int r, [.dk cs' m n', .fz (.int M)]) := fun cs0 c hl e => by
    obtain ⟨r, cs', z, h1, h2, h3, h4⟩ := draw_tail cs0 m (n + 1) c M hM hM2 (by omega)
    refine ⟨r, cs', n + 1, h1, h2, by omega, ?_⟩
    exact fnF_rt rfl (e.trans h4) rfl
  have en : ∀ a b : Int, addA (.int a) (.int b) = some (.int (a + b)) := fun _ _ => rfl
  cases cs with
  | nil =>
    refine fin [] m (by simp) ?_
    simp only [gDraw, sSeq, sDkN, sSet, fIte, gDkE, fDkM, fDkN, f2, fCon, dkAt, en, eqD_ints_nil, List.isEmpty_nil, List.getElem?_cons_zero, Option.bind_some, Option.map_some, List.length_cons, List.length_nil, List.set_cons_zero, List.set_cons_succ, Nat.reduceAdd, Nat.reduceLT, if_true]
  | cons x r =>
    have he : (x :: r).isEmpty = false := rfl
    generalize (x :: r) = cs at he hc fin ⊢
    have h0 : 0 < cs.length := by
      cases cs with
      | nil => cases he
      | cons _ _ => simp
    obtain ⟨c, hl⟩ : ∃ c, cs[cs.length - 1]? = some c := ⟨_, List.getElem?_eq_getElem (by omega)⟩
    refine fin cs.dropLast c (by rw [List.length_dropLast]; omega) ?_
    simp only [gDraw, sSeq, sDkN, sSet, fIte, gDkE, fDkPop, fDkN, f2, fCon, dkAt, en, eqD_ints_nil, hl, he, List.getElem?_cons_zero, Option.bind_some, Option.map_some, List.set_cons_zero, List.set_cons_succ, List.length_cons, List.length_nil, Nat.reduceAdd, Nat.reduceLT, if_true]
theorem deckOf_len (ns : List Int) : (deckOf ns).length ≤ 63 := by
  unfold deckOf
  rw [List.length_reverse, List.length_take]
  omega
/-- no argument is its own: they stay -/
theorem mergeO_flat : ∀ {as δ o : List Sl}, as.all (fun a => !isOwn a) = true → mergeO as δ = some o → o = as
  | [], _, _, _, h => by cases h; rfl
  | a :: r, b :: s, o, ha, h => by
    rw [List.all_cons, Bool.and_eq_true, Bool.not_eq_true'] at ha
    unfold mergeO at h
    rw [ha.1] at h
    cases e : mergeO r s with
    | none => rw [e] at h; cases h
    | some z =>
      rw [e] at h
      cases h
      rw [mergeO_flat ha.2 e]
  | _ :: _, [], _, _, h => by cases h
theorem fnF_flat {sg : List Bool} {m : Nat} {fr : Bool} {g : List Sl → Option Out} {as o : List Sl} {d : D} (ha : as.all (fun a => !isOwn a) = true) (h : fnF sg m fr g as = some (d, o)) : o = as := by
  unfold fnF at h
  split at h
  · split at h
    · rename_i δ _
      cases e : mergeO as δ with
      | none => rw [e] at h; cases h
      | some z => rw [e] at h; cases h; exact mergeO_flat ha e
    · split at h
      · rename_i δ _ _
        cases e : mergeO as δ with
        | none => rw [e] at h; cases h
        | some z => rw [e] at h; cases h; exact mergeO_flat ha e
      · cases h
    · cases h
  · cases h
/-! calls by data alone -/
theorem iosOk_d (δ : List Sl) : ∀ ds : List D, iosOk [] δ (ds.map Ar.d) = true := fun ds => by
  have h : ∀ ds : List D, ios (ds.map Ar.d) = [] := fun ds => by
    induction ds with
    | nil => rfl
    | cons d r ih => exact ih
  unfold iosOk
  rw [h]
  rfl
theorem outsOk_d : ∀ ds : List D, outsOk [] (ds.map Ar.d) (ds.map Sl.fz) = true
  | [] => rfl
  | _ :: r => outsOk_d r
theorem wback_d (δ : List Sl) : ∀ ds : List D, wback (ds.map Ar.d) (ds.map Sl.fz) δ = δ
  | [] => rfl
  | _ :: r => wback_d δ r
theorem callF_d {fl : Bool} {φ : List Sl → Option (D × List Sl)} {f : List Sl → Option (List Ar × List Sl)} {δ δ' : List Sl} {d : D} (ds : List D) (h : f δ = some (ds.map Ar.d, δ')) (hφ : φ (ds.map Sl.fz) = some (d, ds.map Sl.fz)) : callF [] fl φ f δ = some (d, δ') := by
  unfold callF
  rw [h]
  simp only [Option.bind_some]
  rw [iosOk_d, if_pos rfl, List.map_map, show (reso δ' ∘ Ar.d) = Sl.fz from rfl, hφ]
  simp only [Option.bind_some]
  rw [outsOk_d, wback_d]
  rfl
/-! loops -/
theorem forL_inv {T : Tt} {b : List Sl → Option Out} (I : Nat → List Sl → Prop) : ∀ (ds : List D) (k : Nat) (δ : List Sl), (∀ (i : Nat) (d : D) (δ : List Sl), ds[i]? = some d → I (k + i) δ → ∃ δ1 δ2, bindT T d δ = some δ1 ∧ b δ1 = some (.nx δ2) ∧ I (k + i + 1) δ2) → I k δ →
    ∃ δ', forL T b ds δ = some (.nx δ') ∧ I (k + ds.length) δ'
  | [], k, δ, _, h => ⟨δ, rfl, h⟩
  | d :: r, k, δ, st, h => by
    obtain ⟨δ1, δ2, e1, e2, e3⟩ := st 0 d δ rfl h
    obtain ⟨δ', e4, e5⟩ := forL_inv I r (k + 1) δ2 (fun i d δ hi hI => by
      have := st (i + 1) d δ (by simpa using hi) (by rw [show k + (i + 1) = k + 1 + i by omega]; exact hI)
      rw [show k + (i + 1) + 1 = k + 1 + i + 1 by omega] at this
      exact this) e3
    refine ⟨δ', ?_, by rw [List.length_cons, show k + (r.length + 1) = k + 1 + r.length by omega]; exact e5⟩
    unfold forL
    rw [e1, Option.bind_some, e2, Option.bind_some]
    exact e4
theorem rngD_at {lo : Int} {n i : Nat} {d : D} (h : (rngD lo n)[i]? = some d) : i < n ∧ d = .int (lo + (i : Nat)) := by
  unfold rngD at h
  rw [List.getElem?_map] at h
  by_cases c : i < n
  · rw [List.getElem?_range c] at h
    cases h
    exact ⟨c, rfl⟩
  · rw [List.getElem?_eq_none (by rw [List.length_range]; omega)] at h
    cases h
/-- a comprehension without tests, each turn by itself -/
theorem compL_map {T : Tt} {vs : List Nat} {f : List Sl → Option (D × List Sl)} {δ : List Sl} (g : D → D) : ∀ (ds : List D), (∀ d ∈ ds, ∃ δ1 δ2, bindT T d δ = some δ1 ∧ f δ1 = some (g d, δ2) ∧ wipeS vs δ2 = δ) → compL T vs cYes f ds δ = some (ds.map g, δ)
  | [], _ => rfl
  | d :: r, h => by
    obtain ⟨δ1, δ2, e1, e2, e3⟩ := h d List.mem_cons_self
    unfold compL
    rw [e1, Option.bind_some]
    show (f δ1).bind _ = _
    rw [e2, Option.bind_some, e3, compL_map g r fun d hd => h d (List.mem_cons_of_mem _ hd)]
    rfl
theorem line_big : 1000000 ≤ sizeLine := by decide
theorem small62_of {i : Int} (h0 : -1000000 ≤ i) (h1 : i ≤ 1000000) : small62 i = true := by
  unfold small62
  simp
  omega
theorem map_add (W : Nat → D) (n k : Nat) : (List.range (n + k)).map W = (List.range n).map W ++ (List.range k).map fun j => W (n + j) := by
  rw [List.range_add, List.map_append, List.map_map]
  rfl
end Z

/-! Zk: list(range(..)), the empty dict. -/
namespace Z
open PySem PySem.Spec PyProof.Rows L2
def rgB (i j : Int) : Bool := decide (0 ≤ i) && decide (i ≤ 16777216) && decide (0 ≤ j) && decide (j ≤ 16777216)
def rgD : D → D → Option D
  | .int i, .int j => if rgB i j then some (.list (rngD i (j - i).toNat)) else none
  | _, _ => none
theorem rgD_some {d e z : D} (h : rgD d e = some z) : ∃ i j, d = .int i ∧ e = .int j ∧ RgOk i j ∧ z = .list (rngD i (j - i).toNat) := by
  unfold rgD at h
  split at h
  · rename_i i j
    split at h
    · rename_i c
      cases h
      unfold rgB at c
      simp only [Bool.and_eq_true, decide_eq_true_eq] at c
      exact ⟨i, j, rfl, rfl, RgOk.of_le c.1.1.1 c.2 c.1.1.2 c.1.2, rfl⟩
    · cases h
  · cases h
theorem rps_rg {K : PySem.W.Frag} {G : Hp} (i j : Int) : Rps K G (rgV i j) (rngD i (j - i).toNat) := by
  unfold rgV rngD
  induction List.range (j - i).toNat with
  | nil => exact .nil
  | cons a r ih => exact .cons (.int _) ih
section
variable {X : Cx} {a b : Expr} {fa fb : List Sl → Option (D × List Sl)} {Ra Rb Ma Mb : List Nat} {p p2 pos pos2 : Pos}
theorem nv_lrg2 (hc : X.calm = true) (hm : X.mg "list" = none) (hm2 : X.mg "range" = none) (ha : EV X a fa Ra Ma) (hb : EV X b fb Rb Mb) (hg : Gl X "list" := by rfl) (hg2 : Gl X "range" := by rfl) (dj : ∀ i ∈ Ra, i ∉ Mb := by decide)
    (na : starEach [a, b] X.env = (false, eval a X.env) :: starEach [b] X.env := by rfl) (nb : starEach [b] X.env = (false, eval b X.env) :: starEach [] X.env := by rfl) (hp : (backTo pos2 (starEach [b] X.env)).any (·.1) = false := by rfl)
    (nc : starEach [.Call (.Name "range" p2) [a, b] [] pos2] X.env = (false, eval (.Call (.Name "range" p2) [a, b] [] pos2) X.env) :: starEach [] X.env := by rfl) :
    NV X (.Call (.Name "list" p) [.Call (.Name "range" p2) [a, b] [] pos2] [] pos) (f2 rgD fa fb) (Ma ++ Mb) := by
  obtain ⟨ta, tb, pa, pb, q⟩ := two (g := rgD) ha hb dj
  refine ⟨_, pe_listRg hc hg hm (prg_2 hg2 hm2 pa pb na nb hp) nc, fun Y F H δ σ A S z δ' e Q k => ?_⟩
  refine q Y F H δ σ A S z δ' e _ fun x y d e F1 H1 st S1 r1 r2 hg => ?_
  obtain ⟨i, j, rfl, rfl, ok, rfl⟩ := rgD_some hg
  refine ⟨i, j, r1.int, r2.int, ok, fun c hc => ?_⟩
  exact k c F1 _ (stp_nil S1 st (Stp.laidO hc)) (S1.laidO hc) (back st S1 hc) (S1.sub.free hc) ⟨_, upd_same, rps_rg i j⟩
def fDct : List Sl → Option (D × List Sl) := fun δ => some (.dict [], δ)
theorem nv_dct0 : NV X (.Dict [] [] pos) fDct [] := by
  refine ⟨_, pe_dnewK, fun Y F H δ σ A S z δ' e Q k => ?_⟩
  cases e
  exact fun c hc => k c F _ (Stp.laidO hc) (S.laidO hc) hc (S.sub.free hc) ⟨_, upd_same, .nil⟩
end
end Z

/-! Zl: dict displays with pairs. -/
namespace Z
open PySem PySem.Spec PyProof.Rows L2
def PrR (K : PySem.W.Frag) (F : Hp) : List (V × V) → List (D × D) → Prop
  | [], [] => True
  | (x, y) :: r, (d, e) :: s => Rp K F x d ∧ Rp K F y e ∧ PrR K F r s
  | _, _ => False
theorem PrR.mono {K : PySem.W.Frag} {F F' : Hp} (e : Same F F') : ∀ {ps : List (V × V)} {ds : List (D × D)}, PrR K F ps ds → PrR K F' ps ds
  | [], [], _ => trivial
  | (x, y) :: r, (d, e') :: s, ⟨h1, h2, h3⟩ => ⟨h1.mono e, h2.mono e, PrR.mono e h3⟩
  | [], _ :: _, h => h.elim
  | _ :: _, [], h => h.elim
/-- the pairs of a display -/
def PV (X : Cx) (pos : Pos) (ks : List (Option Expr)) (vs : List Expr) (f : List Sl → Option (List (D × D) × List Sl)) (M : List Nat) : Prop :=
  ∃ trs, PPs X pos ks vs trs ∧ ∀ (Y : Fx) (F H : Hp) (δ : List Sl) (σ : L2.St) (A : Nat → List Addr), SR X.K Y F H δ σ A → ∀ (ds : List (D × D)) (δ' : List Sl), f δ = some (ds, δ') → ∀ Q : List (V × V) → Hp → Prop,
    (∀ ps F' H', Stp A M F H F' H' → SR X.K Y F' H' δ' σ A → PrR X.K F' ps ds → Q ps H') → tPairs trs σ H Q
def pNil : List Sl → Option (List (D × D) × List Sl) := fun δ => some ([], δ)
def pCons (fk fv : List Sl → Option (D × List Sl)) (fr : List Sl → Option (List (D × D) × List Sl)) : List Sl → Option (List (D × D) × List Sl) := fun δ => (fk δ).bind fun p => (fv p.2).bind fun q => (fr q.2).map fun r => ((p.1, q.1) :: r.1, r.2)
section
variable {X : Cx} {pos : Pos} {ks : List (Option Expr)} {vs : List Expr} {k v : Expr} {fk fv : List Sl → Option (D × List Sl)} {fr : List Sl → Option (List (D × D) × List Sl)} {Mk Mv Mr : List Nat}
theorem pv_nil : PV X pos [] [] pNil [] := by
  refine ⟨_, pps_nil, fun Y F H δ σ A S ds δ' e Q k => ?_⟩
  cases e
  exact k [] F H Stp.refl S trivial
theorem pv_cons (hk : EV X k fk [] Mk) (hv : EV X v fv [] Mv) (hr : PV X pos ks vs fr Mr) : PV X pos (some k :: ks) (v :: vs) (pCons fk fv fr) (Mk ++ Mv ++ Mr) := by
  obtain ⟨tk, pk, qk⟩ := hk
  obtain ⟨tv, pv, qv⟩ := hv
  obtain ⟨tr, pr, qr⟩ := hr
  refine ⟨_, pps_cons pk pv pr, fun Y F H δ σ A S ds δ' e Q kk => ?_⟩
  unfold pCons at e
  cases e1 : fk δ with
  | none => rw [e1] at e; cases e
  | some w =>
    obtain ⟨d, δ1⟩ := w
    rw [e1] at e
    simp only [Option.bind_some] at e
    cases e2 : fv δ1 with
    | none => rw [e2] at e; cases e
    | some w =>
      obtain ⟨d2, δ2⟩ := w
      rw [e2] at e
      simp only [Option.bind_some] at e
      cases e3 : fr δ2 with
      | none => rw [e3] at e; cases e
      | some w =>
        obtain ⟨r, δ3⟩ := w
        rw [e3] at e
        cases e
        refine qk Y F H δ σ A S d δ1 e1 _ fun x F1 H1 st1 S1 r1 => ?_
        refine qv Y F1 H1 δ1 σ A S1 d2 δ2 e2 _ fun y F2 H2 st2 S2 r2 => ?_
        refine qr Y F2 H2 δ2 σ A S2 r δ3 e3 _ fun ps F3 H3 st3 S3 r3 => ?_
        exact kk _ F3 H3 ((st1.trans S1 st2).trans S2 st3) S3 ⟨r1.nil.mono (st2.f.trans st3.f), r2.nil.mono st3.f, r3⟩
/-- the keys, all apart -/
def keysOf : List (D × D) → Option (List Key)
  | [] => some []
  | p :: r => (keyOf p.1).bind fun k => (keysOf r).bind fun ks => if ks.any (fun j => decide (j = k)) then none else some (k :: ks)
theorem PrR.keys {K : PySem.W.Frag} {F : Hp} : ∀ {ps : List (V × V)} {ds : List (D × D)} {ks : List Key}, PrR K F ps ds → keysOf ds = some ks → ∃ kvs : List (Key × V), ps = kvs.map (fun kv => (kV kv.1, kv.2)) ∧ kvs.map (·.1) = ks ∧ ks.Nodup ∧ RpK K F kvs ds
  | [], [], ks, _, h => by cases h; exact ⟨[], rfl, rfl, List.nodup_nil, .nil⟩
  | (x, y) :: r, (d, e) :: s, ks, ⟨h1, h2, h3⟩, h => by
    unfold keysOf at h
    cases e1 : keyOf d with
    | none => rw [e1] at h; cases h
    | some k =>
      rw [e1] at h
      simp only [Option.bind_some] at h
      cases e2 : keysOf s with
      | none => rw [e2] at h; cases h
      | some ks' =>
        rw [e2] at h
        simp only [Option.bind_some] at h
        split at h
        · cases h
        · rename_i nk
          cases h
          obtain ⟨kvs, q1, q2, q3, q4⟩ := PrR.keys h3 e2
          have ex := rp_key e1 h1
          have ed : d = keyD k := by
            cases d with
            | int i => cases e1; rfl
            | str z => cases e1; rfl
            | _ => cases e1
          subst ed
          refine ⟨(k, y) :: kvs, by rw [List.map_cons, q1, ex], by rw [List.map_cons, q2], List.nodup_cons.mpr ⟨fun z => nk (List.any_eq_true.mpr ⟨_, z, decide_eq_true rfl⟩), q3⟩, .cons h2 q4⟩
  | [], _ :: _, _, h, _ => h.elim
  | _ :: _, [], _, h, _ => h.elim
theorem merge_new : ∀ (more kvs : List (Key × V)), ((kvs ++ more).map (·.1)).Nodup → mergeK kvs more = kvs ++ more
  | [], kvs, _ => by rw [List.append_nil]; rfl
  | p :: r, kvs, h => by
    have hp : valV kvs p.1 = none := by
      cases c : valV kvs p.1 with
      | none => rfl
      | some v =>
        have m := valV_in c
        rw [List.map_append, List.map_cons, List.nodup_append] at h
        exact absurd rfl (h.2.2 _ m _ List.mem_cons_self)
    show mergeK (putK kvs p.1 p.2) r = _
    rw [putK_new _ hp, merge_new r _ (by simpa using h), List.append_assoc]
    rfl
def fDisp (f : List Sl → Option (List (D × D) × List Sl)) : List Sl → Option (D × List Sl) := fun δ => (f δ).bind fun p => (keysOf p.1).bind fun ks => if ks.length ≤ 15 then some (.dict p.1, p.2) else none
theorem nv_disp {f : List Sl → Option (List (D × D) × List Sl)} {M : List Nat} (h : PV X pos ks vs f M) (hall : ks.all (·.isSome) = true := by rfl) (hl : ks.length = vs.length := by rfl) (h0 : ks ≠ [] := by intro z; cases z) (h15 : ks.length ≤ 15 := by decide) : NV X (.Dict ks vs pos) (fDisp f) M := by
  obtain ⟨trs, pp, q⟩ := h
  refine ⟨_, pe_disp pp hall hl h0 h15, fun Y F H δ σ A S z δ' e Q k => ?_⟩
  unfold fDisp at e
  cases e1 : f δ with
  | none => rw [e1] at e; cases e
  | some w =>
    obtain ⟨ds, δ1⟩ := w
    rw [e1] at e
    simp only [Option.bind_some] at e
    cases e2 : keysOf ds with
    | none => rw [e2] at e; cases e
    | some kl =>
      rw [e2] at e
      simp only [Option.bind_some] at e
      split at e
      · rename_i hz
        cases e
        intro p hp
        have S0 := S.laidO (o := .dK []) hp
        refine q Y F _ δ σ A S0 ds _ e1 _ fun ps F2 H2 st S2 r => ?_
        have nA : ∀ j, p ∉ A j := fun j m => S.isSome m hp
        have h2 : H2 p = some (.dK []) := st.kp p _ upd_same fun i _ m => nA i m
        have hF : F p = none := S.sub.free hp
        have hF2 : F2 p = none := by
          cases c : F2 p with
          | none => rfl
          | some o =>
            have := st.nw p hF (by rw [c]; simp)
            rw [upd_same] at this
            cases this
        obtain ⟨kvs, q1, q2, q3, q4⟩ := r.keys e2
        have hk : kvs.length ≤ 15 := by
          have := congrArg List.length q2
          rw [List.length_map] at this
          omega
        have em : mergeK [] kvs = kvs := merge_new kvs [] (by rw [List.nil_append, q2]; exact q3)
        refine ⟨h2, kvs, q1, hk, ?_⟩
        rw [em]
        refine k p F2 _ ⟨st.f, fun a e n => ?_, fun a o e n => ?_⟩ (S2.upd_free hF2 nA (S.fresh0 hp)) hp hF2 ⟨kvs, upd_same, q4⟩
        · have := st.nw a e n
          by_cases c : a = p
          · subst c; exact hp
          · rw [upd_ne c] at this; exact this
        · have c : a ≠ p := fun z => by subst z; rw [hp] at e; cases e
          rw [upd_ne c]
          exact st.kp a o (by rw [upd_ne c]; exact e) n
      · cases e
end
end Z

/-! Zm: a list turned about. -/
namespace Z
open PySem PySem.Spec PyProof.Rows L2
def revL : D → Option D
  | .list ds => some (.list ds.reverse)
  | _ => none
theorem Rps.reverse {K : PySem.W.Frag} {G : Hp} : ∀ {xs : List V} {ds : List D}, Rps K G xs ds → Rps K G xs.reverse ds.reverse
  | _, _, .nil => .nil
  | x :: xs, d :: ds, .cons h r => by
    rw [List.reverse_cons, List.reverse_cons]
    exact r.reverse.append (.cons h .nil)
theorem nv_revL {X : Cx} {e : Expr} {fe : List Sl → Option (D × List Sl)} {R M : List Nat} {k : Nat} {p1 p2 p3 pos : Pos} (he : EV X e fe R M) : NV X (.Subscript e (.Slice none none (some (.UnaryOp .USub (.Constant (.int 1) k p1) p2)) p3) pos) (f1 revL fe) M := by
  obtain ⟨t, p, q⟩ := he
  refine ⟨_, pe_revL p, fun Y F H δ σ A S z δ' e Q kk => ?_⟩
  obtain ⟨d, e1, e2⟩ := f1_some e
  refine q Y F H δ σ A S d δ' e1 _ fun v F1 H1 st S1 r1 => ?_
  unfold revL at e2
  split at e2
  · cases e2
    obtain ⟨a, xs, rfl, h1, h2⟩ := r1.list S1
    refine ⟨a, xs, rfl, SqL.of h1, fun c hc => ?_⟩
    exact kk c F1 _ (stp_nil S1 st (Stp.laidO hc)) (S1.laidO hc) (back st S1 hc) (S1.sub.free hc) ⟨_, upd_same, h2.reverse⟩
  · cases e2
/-! a, b, c = x, y, z -/
def sPar3 (i j l : Nat) (f : List Sl → Option (List D × List Sl)) : List Sl → Option Out := fun δ => (f δ).bind fun p => match p.1 with
  | [a, b, c] => if i < p.2.length ∧ j < p.2.length ∧ l < p.2.length then some (.nx (((p.2.set i (.fz a)).set j (.fz b)).set l (.fz c))) else none
  | _ => none
theorem Vws.three {K : PySem.W.Frag} {F H : Hp} {A : Nat → List Addr} {R : List Nat} {vs : List V} {d e f : D} (h : Vws K F H A R vs [d, e, f]) : ∃ v u t, vs = [v, u, t] ∧ Vw K F H A R v d ∧ Vw K F H A R u e ∧ Vw K F H A R t f := by
  match vs, h with
  | v :: r, ⟨h, h'⟩ =>
    obtain ⟨u, t, rfl, h2, h3⟩ := Vws.two h'
    exact ⟨v, u, t, rfl, h, h2, h3⟩
  | [], h => exact h.elim
theorem sv_par3 {X : Cx} {io : Nat → Bool} {fr : Bool} {i j l : Nat} {x y z : Str} {a b c : Expr} {f} {M : List Nat} {px py pz pt pt2 pos : Pos} {kt k2} (hi : io i = false) (hj : io j = false) (hl : io l = false) (hc : X.calm = true) (T : Tg X i x) (U : Tg X j y) (W : Tg X l z) (hij : i ≠ j) (hil : i ≠ l) (hjl : j ≠ l)
    (hx : X.env.scope.names.lookup x = some .local) (hy : X.env.scope.names.lookup y = some .local) (hz : X.env.scope.names.lookup z = some .local) (ha : AV X [a, b, c] f [] M)
    (hw : swappedStores [.Tuple [.Name x px, .Name y py, .Name z pz] kt pt] (.Tuple [a, b, c] k2 pt2) X.env = pure (some [x, y, z]) := by rfl)
    (hs : swapsWithSole [.Tuple [.Name x px, .Name y py, .Name z pz] kt pt] (.Tuple [a, b, c] k2 pt2) pos.line X.env = pure false := by rfl) :
    SV X io fr (.Assign [.Tuple [.Name x px, .Name y py, .Name z pz] kt pt] (.Tuple [a, b, c] k2 pt2) pos) (sPar3 i j l f) := by
  obtain ⟨t, p, q⟩ := ha
  refine ⟨_, ps_par3 hc T.nd T.at_ U.at_ W.at_ hij hil hjl hx hy hz p hw hs, fun Y F H δ σ A hY S o e D k => ?_⟩
  unfold sPar3 at e
  cases e1 : f δ with
  | none => rw [e1] at e; cases e
  | some w =>
    obtain ⟨ds, δ1⟩ := w
    rw [e1] at e
    simp only [Option.bind_some] at e
    split at e
    · rename_i d1 d2 d3
      split at e
      · rename_i hl'
        cases e
        refine q Y F H δ σ A S _ δ1 e1 _ fun vs F1 H1 st S1 r => ?_
        obtain ⟨v, u, s, rfl, rv, ru, rs⟩ := r.three
        refine ⟨v, u, s, rfl, ?_⟩
        have S2 := S1.putFz hl'.1 (by rw [hY]; exact hi) rv.nil
        have S3 := S2.putFz (i := j) (by simpa using hl'.2.1) (by rw [hY]; exact hj) ru.nil
        have S4 := S3.putFz (i := l) (by simpa using hl'.2.2) (by rw [hY]; exact hl) rs.nil
        exact k _ F1 H1 _ st.f S4
      · cases e
    · cases e
end Z

/-! Zn: an own dict is locked while an expression reads it. -/
namespace Z
open PySem PySem.Spec PyProof.Rows L2
section
variable {K : PySem.W.Frag} {Y : Fx} {F F' H H' : Hp} {δ δ' : List Sl} {σ : L2.St} {A : Nat → List Addr} {i : Nat} {R M : List Nat}
theorem lk_stp (S : SR K Y F H δ σ A) {p : Addr} {od : Obj} {u : HO} (hp : p ∈ A i) (hu : H p = some u) (st : Stp A M F (upd H p (.frz od u)) F' H') : Stp A M F H F' (upd H' p u) := by
  refine ⟨st.f, fun a e n => ?_, fun a o e n => ?_⟩
  · have q := st.nw a e n
    by_cases c : a = p
    · subst c; rw [upd_same] at q; cases q
    · rwa [upd_ne c] at q
  · by_cases c : a = p
    · subst c; rw [upd_same]; rw [hu] at e; exact e
    · rw [upd_ne c]
      exact st.kp a o (by rw [upd_ne c]; exact e) n
theorem lk_frz (S : SR K Y F H δ σ A) {p : Addr} {od : Obj} {u : HO} (hp : p ∈ A i) (hi : i ∉ M) (st : Stp A M F (upd H p (.frz od u)) F' H') : H' p = some (.frz od u) :=
  st.kp p _ upd_same fun j hj z => by
    have := S.dis j i p z hp
    subst this
    exact hi hj
theorem Vw.unl (S : SR K Y F' H' δ' σ A) {v : V} {d : D} {p : Addr} {u : HO} (hp : p ∈ A i) (hR : i ∉ R) (h : Vw K F' H' A R v d) : Vw K F' (upd H' p u) A R v d := by
  rcases h with h | ⟨j, hj, q, e, eA, o⟩
  · exact .inl h
  · refine .inr ⟨j, hj, q, e, eA, o.mono (Same.refl _) (upd_ne fun z => ?_)⟩
    subst z
    have := S.dis j i q (by rw [eA]; simp) hp
    subst this
    exact hR hj
end
def fLk (i : Nat) (f : List Sl → Option (D × List Sl)) : List Sl → Option (D × List Sl) := fun δ => match δ[i]? with
  | some (.ow (.dict ds)) => (f (δ.set i (.lk ds))).bind fun p => match p.2[i]? with
    | some (.lk es) => some (p.1, p.2.set i (.ow (.dict es)))
    | _ => none
  | _ => f δ
section
variable {X : Cx} {e : Expr} {f : List Sl → Option (D × List Sl)} {R M : List Nat}
theorem ev_lk (i : Nat) (h : EV X e f R M) (hR : i ∉ R := by decide) (hM : i ∉ M := by decide) : EV X e (fLk i f) R M := by
  obtain ⟨t, p, q⟩ := h
  refine ⟨_, pe_alt p (pe_lock p), fun Y F H δ σ A S d δ' e Q k => ?_⟩
  unfold fLk at e
  split at e
  · rename_i ds hd
    obtain ⟨pa, u, hA, hu, mu, w⟩ := S.lock hd
    have hp : pa ∈ A i := by rw [hA]; simp
    refine .inr ⟨pa, u, hu, mu, fun od => ?_⟩
    cases e1 : f (δ.set i (.lk ds)) with
    | none => rw [e1] at e; cases e
    | some w1 =>
      obtain ⟨d1, δ1⟩ := w1
      rw [e1] at e
      simp only [Option.bind_some] at e
      split at e
      · rename_i es he
        cases e
        refine q Y F _ _ σ A (w od) _ _ e1 _ fun v F1 H1 st S1 r => ?_
        have hz := lk_frz S hp hM st
        exact ⟨hz, k v F1 _ (lk_stp S hp hu st) (S1.unlock he hA hz) (Vw.unl S1 hp hR r)⟩
      · cases e
  · exact .inl (q Y F H δ σ A S d δ' e Q k)
theorem nv_lk (i : Nat) (h : NV X e f M) (hM : i ∉ M := by decide) : NV X e (fLk i f) M := by
  obtain ⟨t, p, q⟩ := h
  refine ⟨_, pe_alt p (pe_lock p), fun Y F H δ σ A S d δ' e Q k => ?_⟩
  unfold fLk at e
  split at e
  · rename_i ds hd
    obtain ⟨pa, u, hA, hu, mu, w⟩ := S.lock hd
    have hp : pa ∈ A i := by rw [hA]; simp
    refine .inr ⟨pa, u, hu, mu, fun od => ?_⟩
    cases e1 : f (δ.set i (.lk ds)) with
    | none => rw [e1] at e; cases e
    | some w1 =>
      obtain ⟨d1, δ1⟩ := w1
      rw [e1] at e
      simp only [Option.bind_some] at e
      split at e
      · rename_i es he
        cases e
        refine q Y F _ _ σ A (w od) _ _ e1 _ fun v F1 H1 st S1 n f o => ?_
        have hz := lk_frz S hp hM st
        have hne : pa ≠ v := fun z => by
          subst z
          rw [upd_same] at n
          cases n
        refine ⟨hz, k v F1 _ (lk_stp S hp hu st) (S1.unlock he hA hz) (by rwa [upd_ne (Ne.symm hne)] at n) f (o.mono (Same.refl _) (upd_ne (Ne.symm hne)))⟩
      · cases e
  · exact .inl (q Y F H δ σ A S d δ' e Q k)
end
end Z

/-! Zo: sorted(dict). -/
namespace Z
open PySem PySem.Spec PyProof.Rows L2
def leI (a b : Int) : Bool := decide (a ≤ b)
def sortKD : D → Option D
  | .dict ds => (intsOf (ds.map (·.1))).bind fun ks => if ks.length < 64 then some (.list ((ks.mergeSort leI).map PyData.int)) else none
  | _ => none
abbrev rSortDI : List V → Hp → VK → Prop := fun xs H Q => ∃ (a : Addr) (kvs : List (Key × V)) (ks : List Int), xs = [.ref a] ∧ Rd H a (.dK kvs) ∧ kvs.map (·.1) = ks.map Sum.inl ∧ ks.length < 64 ∧ ∀ (ys : List Int) (p : Addr), ys.Perm ks → ys.Pairwise (· ≤ ·) → H p = none → Q (.ref p) (upd H p (.lst (ys.map V.int)))
theorem cr_sortKD {X : Cx} (hc : X.calm = true) : CallR X (.builtin "sorted") rSortDI := call_sortedDI hc
theorem keys_ints {K : PySem.W.Frag} {G : Hp} : ∀ {kvs : List (Key × V)} {ds : List (D × D)} {ks : List Int}, RpK K G kvs ds → intsOf (ds.map (fun p : D × D => p.1)) = some ks → kvs.map (·.1) = ks.map Sum.inl
  | _, _, _, .nil, h => by cases h; rfl
  | _, _, ks, .cons (k := k) (r := r) h r', e => by
    cases k with
    | inl i =>
      simp only [List.map_cons, keyD, intsOf] at e
      rename_i d ds'
      cases e1 : intsOf (List.map (fun p : D × D => p.1) ds') with
      | none => rw [e1] at e; cases e
      | some js =>
        rw [e1] at e
        cases e
        rw [List.map_cons, List.map_cons, keys_ints r' e1]
    | inr x => cases e
theorem sorted_unique {ys ks : List Int} (p : ys.Perm ks) (h : ys.Pairwise (· ≤ ·)) : ys = ks.mergeSort leI := by
  have h2 : (ks.mergeSort leI).Pairwise (fun a b => leI a b = true) := List.pairwise_mergeSort (fun a b c h1 h2 => by simp [leI] at *; omega) (fun a b => by simp [leI]; omega) ks
  have h3 : (ks.mergeSort leI).Pairwise (· ≤ ·) := h2.imp fun h => by simpa [leI] using h
  exact List.Perm.eq_of_pairwise (le := (· ≤ ·)) (fun a b _ _ h1 h2 => Int.le_antisymm h1 h2) h h3 (p.trans (List.mergeSort_perm ks leI).symm)
theorem cn_sortK {X : Cx} : CallN X rSortDI (g1 sortKD) := by
  intro Y F H δ σ A R xs ds z S r hg Q k
  obtain ⟨d, rfl, hg'⟩ := g1_some hg
  obtain ⟨v, rfl, rv⟩ := r.one
  clear hg
  unfold sortKD at hg'
  split at hg'
  · rename_i ds'
    cases e1 : intsOf (ds'.map (·.1)) with
    | none => rw [e1] at hg'; cases hg'
    | some ks =>
      rw [e1] at hg'
      simp only [Option.bind_some] at hg'
      split at hg'
      · rename_i hl
        cases hg'
        obtain ⟨a, o, kvs, rfl, h1, h2⟩ := rv.dict S
        refine ⟨a, kvs, ks, rfl, .inr ⟨o, h1⟩, keys_ints h2 e1, hl, fun ys p hp hs hn => ?_⟩
        have e := sorted_unique hp hs
        subst e
        exact k p F _ (Stp.laidO hn) (S.laidO hn) hn (S.sub.free hn) ⟨_, upd_same, rps_ints _⟩
      · cases hg'
  · cases hg'
end Z

/-! Zp: every other one of a list, of a tuple: x[::2], x[1::2]. -/
namespace Z
open PySem PySem.Spec PyProof.Rows L2
def evry {α : Type} : List α → List α
  | [] => []
  | [x] => [x]
  | x :: _ :: r => x :: evry r
theorem evry_len {α : Type} : ∀ xs : List α, (evry xs).length = (xs.length + 1) / 2
  | [] => by simp [evry]
  | [x] => by simp [evry]
  | x :: y :: r => by
    show (evry r).length + 1 = (r.length + 1 + 1 + 1) / 2
    rw [evry_len r]
    omega
theorem evry_map {α β : Type} (f : α → β) : ∀ xs : List α, evry (xs.map f) = (evry xs).map f
  | [] => rfl
  | [x] => rfl
  | x :: y :: r => by
    show f x :: evry (r.map f) = f x :: (evry r).map f
    rw [evry_map f r]
theorem evry_pick {α : Type} (xs : List α) : ∀ (k a : Nat), k = (xs.length - a + 1) / 2 → (List.range k).filterMap (fun m => xs[a + 2 * m]?) = evry (xs.drop a)
  | 0, a, h => by
    rw [List.drop_eq_nil_of_le (by omega)]
    rfl
  | k + 1, a, h => by
    have ha : a < xs.length := by omega
    rw [List.range_succ_eq_map, List.filterMap_cons]
    have e0 : xs[a + 2 * 0]? = some xs[a] := List.getElem?_eq_getElem ha
    rw [e0, List.filterMap_map]
    have e1 : ((fun m => xs[a + 2 * m]?) ∘ Nat.succ) = fun m => xs[(a + 2) + 2 * m]? := by
      funext m
      show xs[a + 2 * (m + 1)]? = _
      congr 1
      omega
    rw [e1, evry_pick xs k (a + 2) (by omega), List.drop_eq_getElem_cons ha]
    by_cases hb : a + 1 < xs.length
    · rw [List.drop_eq_getElem_cons hb]
      rfl
    · rw [List.drop_eq_nil_of_le (by omega), List.drop_eq_nil_of_le (by omega)]
      rfl
theorem Vals.evry : ∀ {xs : List V} {us : List Value}, Vals xs us → Vals (evry xs) (Z.evry us)
  | _, _, .nil => .nil
  | [x], [u], .cons r .nil => .cons r .nil
  | x :: y :: xs, u :: v :: us, .cons r (.cons r2 h) => .cons r (Vals.evry h)
theorem Rps.evry {K : PySem.W.Frag} {G : Hp} : ∀ {xs : List V} {ds : List D}, Rps K G xs ds → Rps K G (Z.evry xs) (Z.evry ds)
  | _, _, .nil => .nil
  | [x], [d], .cons r .nil => .cons r .nil
  | x :: y :: xs, d :: e :: ds, .cons r (.cons r2 h) => .cons r (Rps.evry h)
/-- where it begins: 0, or 1 where that is written -/
def loN : Option Int → Option Nat
  | none => some 0
  | some (.ofNat n) => some n
  | _ => none
theorem loN_some {lo : Option Int} {k : Nat} (h : loN lo = some k) : (lo = none ∧ k = 0) ∨ lo = some (k : Int) := by
  unfold loN at h
  split at h
  · cases h; exact .inl ⟨rfl, rfl⟩
  · cases h; exact .inr rfl
  · cases h
theorem adjust_two {lo : Option Int} {k n : Nat} (h : loN lo = some k) : Builtin.Slice.sliceAdjust lo none 2 (n : Int) = (((min k n : Nat) : Int), (n : Int)) := by
  have h1 : ¬ ((2 : Int) < 0) := by omega
  unfold Builtin.Slice.sliceAdjust
  simp only [h1, if_false]
  rcases loN_some h with ⟨rfl, rfl⟩ | rfl
  · simp
  · have h2 : ¬ ((k : Int) < 0) := by omega
    simp only [h2, if_false]
    refine Prod.ext ?_ rfl
    dsimp only
    omega
theorem places_two (a n : Nat) (h : a ≤ n) : Builtin.Slice.slicePlaces (a : Int) (n : Int) 2 = (n - a + 1) / 2 := by
  unfold Builtin.Slice.slicePlaces
  have h1 : (2 : Int) > 0 := by omega
  simp only [h1, if_true]
  split <;> omega
theorem bounds_two {lo : Option Int} {k n : Nat} (h : loN lo = some k) : sliceBounds lo none (some 2) n = (((min k n : Nat) : Int), (n : Int), 2) := by
  unfold sliceBounds
  rcases loN_some h with ⟨rfl, rfl⟩ | rfl
  · simp
  · have h2 : ¬ ((k : Int) < 0) := by omega
    simp only [Option.getD_some, h2, if_false]
    have h1 : (2 : Int) > 0 := by omega
    simp only [h1, if_true]
    refine Prod.ext ?_ rfl
    dsimp only
    omega
theorem pick_two (its : List Value) {lo : Option Int} {k : Nat} (h : loN lo = some k) : slicePick its.toArray lo none (some 2) = (evry (its.drop k)).toArray := by
  unfold slicePick
  rw [List.size_toArray, bounds_two h]
  unfold sliceRange
  have h1 : (2 : Int) > 0 := by omega
  simp only [h1, if_true]
  rw [List.filterMap_map]
  have e : ((fun x => its.toArray[x]?) ∘ fun (m : Nat) => (((min k its.length : Nat) : Int) + 2 * (m : Int)).toNat) = fun m => its[min k its.length + 2 * m]? := by
    funext m
    show its.toArray[(((min k its.length : Nat) : Int) + 2 * (m : Int)).toNat]? = _
    have : (((min k its.length : Nat) : Int) + 2 * (m : Int)).toNat = min k its.length + 2 * m := by omega
    rw [this]
    simp
  rw [e, evry_pick its _ (min k its.length)]
  · by_cases c : k ≤ its.length
    · rw [Nat.min_eq_left c]
    · rw [Nat.min_eq_right (by omega), List.drop_eq_nil_of_le (Nat.le_refl _), List.drop_eq_nil_of_le (show its.length ≤ k by omega)]
  · split <;> omega
section
variable {P : Program} {w : World} {A : Around} {E : Value → Shared → Prop} {s : Shared}
theorem applied_two {sl : Addr} {vl vu : Value} {lo : Option Int} {t : Tok} {k n : Nat} {Q : Int × Int × Nat → Shared → Prop} (hs : s.heap.IsSliceOf sl vl vu (.int 2 t)) (pl : IsPart vl lo) (pu : IsPart vu none) (hk : loN lo = some k)
    (h : Q (((min k n : Nat) : Int), 2, (n - min k n + 1) / 2) s) : wpAny (model P w) A (Builtin.Slice.sliceApplied (.ref sl) (pure (n : Int))) Q E s := by
  obtain ⟨os, hos, hcs, hds⟩ := id hs
  unfold Builtin.Slice.sliceApplied Builtin.Slice.sliceFields
  refine wpAny_bind (wpAny_bind (wpAny_field hos hds (x := vl) rfl (wpAny_bind (wpAny_field hos hds (x := vu) rfl (wpAny_bind (wpAny_field hos hds (x := .int 2 t) rfl (wpAny_pure ?_)))))))
  refine wpAny_bind (HT.slicePart_ (.int 2 t) ?_)
  show wpAny _ _ (if ((2 : Int) == 0) = true then _ else _) _ _ s
  rw [if_neg (by decide)]
  refine wpAny_bind (HT.slicePart_ pl (wpAny_bind (HT.slicePart_ pu (wpAny_bind (wpAny_pure ?_)))))
  show wpAny _ _ (match Builtin.Slice.sliceAdjust lo none 2 (n : Int) with | (lo, hi) => pure (lo, (2 : Int), Builtin.Slice.slicePlaces lo hi 2)) _ _ s
  rw [adjust_two hk]
  show wpAny _ _ (pure (((min k n : Nat) : Int), (2 : Int), Builtin.Slice.slicePlaces ((min k n : Nat) : Int) (n : Int) 2)) _ _ s
  rw [places_two _ _ (Nat.min_le_right _ _)]
  exact wpAny_pure h
theorem tuple_two {t sl : Addr} {its : List Value} {vl vu : Value} {lo : Option Int} {tk : Tok} {k : Nat} {Q : Value → Shared → Prop} (ht : IsTup s.heap t its.toArray) (hs : s.heap.IsSliceOf sl vl vu (.int 2 tk)) (pl : IsPart vl lo) (pu : IsPart vu none) (hk : loN lo = some k)
    (h : Q (.ref s.heap.objs.size) { s with heap := s.heap.push { cls := .type "tuple", data := .seq (evry (its.drop k)).toArray } })
    (hsz : its.length ≤ sizeLine) : wpAny (model P w) A (getItem (.ref t) (.ref sl)) Q E s := by
  have htake : sizeOk (.seq (evry (its.drop k)).toArray) := by
    show (evry (its.drop k)).toArray.size ≤ sizeLine
    rw [List.size_toArray, evry_len, List.length_drop]
    omega
  obtain ⟨os, hos, hcs, hds⟩ := id hs
  have hTs : s.TypeIs (.ref sl) "slice" := ⟨os, hos, hcs⟩
  unfold getItem
  try with_reducible refine wpAny_holding ?_
  first | refine wpAny_bind (wpAny_pure ?_) | skip
  refine wpAny_bind (wpAny_sequenceKey ht.typeIs (by decide) ?_)
  refine wpAny_bind (wpAny_callSpecial?_slot (name := Str.ofString "__getitem__") ht.typeIs PyProof.Rows.slot_tuple_getitem
    (wpAny_call_entry PyProof.Rows.slot_tuple_getitem ht.typeIs entry_tuple_getitem ?_ (args_tuple_getitem _ _)))
  show wpAny _ _ (Builtin.Tuple.tupleItemsOf (.ref t) >>= _) _ _ s
  refine wpAny_bind (PyProof.Rows.tupleItemsOf_ ht ?_)
  refine wpAny_bind (wpAny_typeOf hTs ?_)
  rw [if_pos (by decide)]
  refine wpAny_bind (applied_two hs pl pu hk ?_)
  show wpAny _ _ (if (((min k its.toArray.size : Nat) : Int) == 0 && (2 : Int) == 1 && ((its.toArray.size - min k its.toArray.size + 1) / 2) == its.toArray.size) = true then _ else _) _ _ s
  rw [show ((2 : Int) == 1) = false from rfl, Bool.and_false, Bool.false_and, if_neg Bool.false_ne_true]
  have ep : ((List.range ((its.toArray.size - min k its.toArray.size + 1) / 2)).filterMap fun (m : Nat) => its.toArray[(((min k its.toArray.size : Nat) : Int) + (m : Int) * 2).toNat]?).toArray = (evry (its.drop k)).toArray := by
    rw [List.size_toArray]
    have e : (fun (m : Nat) => its.toArray[(((min k its.length : Nat) : Int) + (m : Int) * 2).toNat]?) = fun m => its[min k its.length + 2 * m]? := by
      funext m
      have : (((min k its.length : Nat) : Int) + (m : Int) * 2).toNat = min k its.length + 2 * m := by omega
      rw [this]
      simp
    rw [e, evry_pick its _ (min k its.length) rfl]
    by_cases c : k ≤ its.length
    · rw [Nat.min_eq_left c]
    · rw [Nat.min_eq_right (by omega), List.drop_eq_nil_of_le (Nat.le_refl _), List.drop_eq_nil_of_le (show its.length ≤ k by omega)]
  rw [ep]
  first
    | exact wpAny_bind (m := Builtin.Tuple.tupleExact _) (wpAny_newObj_type (wpAny_pure ⟨_, rfl, wpAny_pure h⟩) htake)
    | exact wpAny_bind (m := Builtin.Tuple.tupleExact _) (wpAny_newObj_type (wpAny_bind (wpAny_pure (wpAny_pure ⟨_, rfl, wpAny_pure h⟩))) htake)
    | exact wpAny_bind (wpAny_bind (m := Builtin.Tuple.tupleExact _) (wpAny_newObj_type (wpAny_pure (wpAny_pure ⟨_, rfl, wpAny_pure h⟩)) htake))
    | exact wpAny_bind (wpAny_bind (m := Builtin.Tuple.tupleExact _) (wpAny_newObj_type (wpAny_pure ⟨_, rfl, wpAny_pure h⟩) htake))
end
section
variable {X : Cx}
def rTwo (K : PySem.W.Frag) : V → Option Int → Hp → VK → Prop := fun x lo H Q => (∃ a xs k, x = .ref a ∧ SqL K H a xs ∧ loN lo = some k ∧ ∀ p, H p = none → Q (.ref p) (upd H p (.lst (evry (xs.drop k))))) ∨
  ∃ a xs k, x = .ref a ∧ SqT K H a xs ∧ loN lo = some k ∧ ∀ p, H p = none → Q (.ref p) (upd H p (.tup (evry (xs.drop k))))
def tTwo (K : PySem.W.Frag) (te : TE) (tl : TO) : TE := fun σ H Q => te σ H fun x H1 => tl σ H1 fun l H2 => rTwo K x l H2 Q
theorem pe_two {e : Expr} {te : TE} {lo : Option Expr} {tl : TO} {kk : Nat} {pc p2 pos : Pos} (he : PE X e te) (hl : PO X lo tl) : PE X (.Subscript e (.Slice lo none (some (.Constant (.int 2) kk pc)) p2) pos) (tTwo X.K te tl) := by
  refine ⟨fun pins s σ H Q I h => ?_⟩
  refine Subscript_ (thn (he.run pins s σ H _ I h) fun v s1 ⟨x, H1, I1, r1, q1⟩ => ?_)
  have hst : PO X (some (.Constant (.int 2) kk pc)) (tPart (tC (.int 2))) := po_some pe_int
  refine wpAny_Slice (thn (hl.run pins s1 σ H1 _ I1 q1) fun vl s2 ⟨l, H2, I2, pl, q2⟩ => ?_)
  refine thn (po_none.run pins s2 σ H2 (fun o H3 => o = none ∧ H3 = H2) I2 ⟨rfl, rfl⟩) fun vu s3 ⟨u, H3, I3, pu, eu, e3⟩ => ?_
  subst eu e3
  refine thn (hst.run pins s3 σ H3 (fun o H4 => o = some 2 ∧ H4 = H3) I3 ⟨2, rfl, rfl, rfl⟩) fun vs s4 ⟨o, H4, I4, ps, eo, e4⟩ => ?_
  subst eo e4
  cases ps with
  | int i t =>
  have I5 : Inv X pins σ H4 { s4 with heap := s4.heap.push { cls := .type "slice", data := .fields #[vl, vu, .int 2 t] } } := I4.kept (t' := s4.toks) fun b ob q => Heap.get?_push_of_some _ q
  show wpAny (model X.prog X.w) X.A (subscriptTail e (.Slice lo none (some (.Constant (.int 2) kk pc)) p2) v (.ref s4.heap.objs.size)) (EP X pins σ Q) X.xe { s4 with heap := s4.heap.push { cls := .type "slice", data := .fields #[vl, vu, .int 2 t] } }
  rcases q2 with ⟨a, xs, k, ex, hx, hk, q⟩ | ⟨a, xs, k, ex, hx, hk, q⟩
  · subst ex
    cases r1
    obtain ⟨its, r, ht, hz⟩ := I5.list hx
    have hlen := r.length
    refine tail_any (ops := [.ref a, .ref s4.heap.objs.size]) ht.isList.typeIs (PySem.slot_list_getitem.lookup) ?_ (by with_unfolding_all rfl)
    refine wpAny_getItem_list_slice ht.isList (Heap.IsSliceOf.new _ vl vu (.int 2 t)) pl pu (.int 2 t) (by decide) ?_ (by rw [List.size_toArray]; omega)
    rw [pick_two its hk]
    refine ⟨.ref _, _, I5.laid (t' := s4.toks) (o := .lst (evry (xs.drop k))) (fun b ob q => Heap.get?_push_of_some _ q) (Nat.le_refl _) ?_, rfl, q _ (I5.hok.fresh (Nat.le_refl _))⟩
    exact ⟨by rw [evry_len, List.length_drop]; omega, _, 0, Vals.evry (r.drop k), Heap.get?_push_size _ rfl⟩
  · subst ex
    cases r1
    obtain ⟨its, r, ht, hz⟩ := I5.tuple hx
    have hlen := r.length
    refine tail_any (ops := [.ref a, .ref s4.heap.objs.size]) ht.typeIs (PyProof.Rows.slot_tuple_getitem.lookup) ?_ (by with_unfolding_all rfl)
    refine tuple_two ht (Heap.IsSliceOf.new _ vl vu (.int 2 t)) pl pu hk ?_ (by omega)
    refine ⟨.ref _, _, I5.laid (t' := s4.toks) (o := .tup (evry (xs.drop k))) (fun b ob q => Heap.get?_push_of_some _ q) (Nat.le_refl _) ?_, rfl, q _ (I5.hok.fresh (Nat.le_refl _))⟩
    exact ⟨by rw [evry_len, List.length_drop]; omega, _, Vals.evry (r.drop k), IsTup.new _ _⟩
def stpD (d : D) (lo _hi : Option Int) : Option D := match d with
  | .list ds => (loN lo).map fun k => .list (evry (ds.drop k))
  | .tuple ds => (loN lo).map fun k => .tuple (evry (ds.drop k))
  | _ => none
def stpL (d : D) (lo _hi : Option Int) : Option D := match d with
  | .list ds => (loN lo).map fun k => .list (evry (ds.drop k))
  | _ => none
theorem ev_two {a : Expr} {lo : Option Expr} {fa fl} {R M Ml : List Nat} {kk : Nat} {pc p2 pos : Pos} (ha : EV X a fa R M) (hl : OV X lo fl Ml) (d1 : ∀ i ∈ R, i ∉ Ml := by decide) : EV X (.Subscript a (.Slice lo none (some (.Constant (.int 2) kk pc)) p2) pos) (f3 stpD fa fl oNone) [] (M ++ Ml) := by
  obtain ⟨t, p, q⟩ := ha
  obtain ⟨tl, pl, ql⟩ := hl
  refine ⟨_, pe_two p pl, fun Y F H δ σ A S z δ' e Q k => ?_⟩
  obtain ⟨d, δ1, l, δ2, h, e1, e2, e3, e4⟩ := f3_some e
  cases e3
  refine q Y F H δ σ A S d δ1 e1 _ fun x F1 H1 st1 S1 r1 => ?_
  refine ql Y F1 H1 δ1 σ A S1 l _ e2 _ fun F2 H2 st2 S2 => ?_
  have st : Stp A (M ++ Ml) F H F2 H2 := st1.trans S1 st2
  have r3 : Vw X.K F2 H2 A R x d := r1.step S1 st2 d1
  unfold stpD at e4
  split at e4
  · cases e5 : loN l with
    | none => rw [e5] at e4; cases e4
    | some j =>
      rw [e5] at e4
      cases e4
      obtain ⟨a', xs, rfl, h1, r⟩ := r3.list S2
      exact .inl ⟨a', xs, j, rfl, SqL.of h1, e5, fun p hp => k _ _ _ (stp_nil S2 st (Stp.laid S2 hp)) (S2.laid hp) (.inl (.lst upd_same (((r.drop j).evry).mono (Stp.laid (M := []) S2 hp).f)))⟩
  · cases e5 : loN l with
    | none => rw [e5] at e4; cases e4
    | some j =>
      rw [e5] at e4
      cases e4
      obtain ⟨a', xs, rfl, h0, h1, r⟩ := r3.tup S2
      exact .inr ⟨a', xs, j, rfl, h1, e5, fun p hp => k _ _ _ (stp_nil S2 st (Stp.laid S2 hp)) (S2.laid hp) (.inl (.tup (.inl (.inl upd_same)) (((r.drop j).evry).mono (Stp.laid (M := []) S2 hp).f)))⟩
  · cases e4
theorem nv_two {a : Expr} {lo : Option Expr} {fa fl} {R M Ml : List Nat} {kk : Nat} {pc p2 pos : Pos} (ha : EV X a fa R M) (hl : OV X lo fl Ml) (d1 : ∀ i ∈ R, i ∉ Ml := by decide) : NV X (.Subscript a (.Slice lo none (some (.Constant (.int 2) kk pc)) p2) pos) (f3 stpL fa fl oNone) (M ++ Ml) := by
  obtain ⟨t, p, q⟩ := ha
  obtain ⟨tl, pl, ql⟩ := hl
  refine ⟨_, pe_two p pl, fun Y F H δ σ A S z δ' e Q k => ?_⟩
  obtain ⟨d, δ1, l, δ2, h, e1, e2, e3, e4⟩ := f3_some e
  cases e3
  refine q Y F H δ σ A S d δ1 e1 _ fun x F1 H1 st1 S1 r1 => ?_
  refine ql Y F1 H1 δ1 σ A S1 l _ e2 _ fun F2 H2 st2 S2 => ?_
  have st : Stp A (M ++ Ml) F H F2 H2 := st1.trans S1 st2
  have r3 : Vw X.K F2 H2 A R x d := r1.step S1 st2 d1
  unfold stpL at e4
  split at e4
  · cases e5 : loN l with
    | none => rw [e5] at e4; cases e4
    | some j =>
      rw [e5] at e4
      cases e4
      obtain ⟨a', xs, rfl, h1, r⟩ := r3.list S2
      exact .inl ⟨a', xs, j, rfl, SqL.of h1, e5, fun p hp => k p F2 _ (stp_nil S2 st (Stp.laidO hp)) (S2.laidO hp) (back st S2 hp) (S2.sub.free hp) ⟨_, upd_same, (r.drop j).evry⟩⟩
  · cases e4
end
end Z

/-! Zq: list(zip(a, b)), the pairs kept. -/
namespace Z
open PySem PySem.Spec PyProof.Rows L2
/-- a zip whose pair is still held -/
abbrev IsZipH (h : Heap) (z TI TO : Addr) (T : Addr) (f : Bool) : Prop :=
  h.get? z = some { cls := .type "zip", dict := none, data := .fields #[rawInt T, .bool f, .bool false, .ref TI, .ref TO], slots := #[] }
section
variable {prog : Program} {w : World} {A : Around} {E : Value → Shared → Prop} {s : Shared} {z TI TO i1 i2 T : Addr} {f : Bool} {fp1 fp2 : List Addr} {n1 n2 i : Nat} {P1 P2 : Nat → Value → Prop} {St1 St2 : Nat → Heap → Prop} {a1 a2 : Value}
theorem alive_ok {a : Addr} {o : Obj} {Q : Option Obj → Shared → Prop} (ho : s.heap.get? a = some o) (h : Q (some o) s) : wpAny (model prog w) A (loadIfAlive a) Q E s := by
  intro Γ p hΓ
  show Sem.wp _ _ (.loadIfAlive a .pure) _ _ _ _
  rw [Sem.wp_loadIfAlive, ho]
  exact h
theorem held_free (hz : IsZipH s.heap z TI TO T f) (hT : ∃ o, s.heap.get? T = some o) {Q : Bool → Shared → Prop}
    (hQ : ∀ h', IsZipH h' z TI TO T true → Heap.SameBut z s.heap h' → Q false { s with heap := h' }) : wpAny (model prog w) A (Builtin.SmallTypes.ownedTupleIsFree (.ref z)) Q E s := by
  obtain ⟨oT, eT⟩ := hT
  unfold Builtin.SmallTypes.ownedTupleIsFree
  refine wpAny_bind (wpAny_field hz rfl (x := rawInt T) rfl ?_)
  show wpAny _ _ (loadIfAlive ((T : Int)).toNat >>= _) _ _ s
  rw [Int.toNat_natCast]
  refine wpAny_bind (alive_ok eT ?_)
  simp only [Option.isNone_some, Bool.false_eq_true, if_false]
  refine wpAny_bind (wpAny_field hz rfl (x := .bool f) rfl ?_)
  cases f with
  | true =>
    rw [if_neg (by decide)]
    exact wpAny_pure (hQ s.heap hz ⟨rfl, fun _ _ => rfl⟩)
  | false =>
    rw [if_pos (by decide)]
    refine wpAny_bind (wpAny_setField_rec hz (by simp) fun h' hz' hs' => ?_)
    exact wpAny_pure (hQ h' hz' hs')
theorem held_item {Q : Value → Shared → Prop} (S : ZipSep2 z TI TO i1 i2 fp1 fp2) (D1 : Draws prog w A i1 fp1 n1 P1 St1) (D2 : Draws prog w A i2 fp2 n2 P2 St2)
    (hz : IsZipH s.heap z TI TO T f) (hT : ∃ o, s.heap.get? T = some o) (hTI : IsTupOf2 s.heap TI (.ref i1) (.ref i2)) (st1 : St1 i s.heap) (st2 : St2 i s.heap) (hlt1 : i < n1) (hlt2 : i < n2)
    (hQ : ∀ x1 x2 h' tk, P1 i x1 → P2 i x2 → IsZipH h' z TI TO T true → St1 (i + 1) h' → St2 (i + 1) h' → IsTupOf2 h' s.heap.objs.size x1 x2 → h'.objs.size = s.heap.objs.size + 1 →
      (∀ c o, c ≠ z → c ≠ TO → c ≠ i1 → c ≠ i2 → s.heap.get? c = some o → h'.get? c = some o) → Q (.ref s.heap.objs.size) { s with heap := h', toks := tk }) :
    wpAny (model prog w) A (Builtin.«zip.__next__» ⟨[.ref z], []⟩) (fun fin s' => ∃ v, fin = .done (.ret v) ∧ Q v s') E s := by
  obtain ⟨hp, g, d, tk0, os⟩ := s
  show wpAny _ _ (field (.ref z) 2 >>= _) _ _ _
  refine wpAny_bind (wpAny_field hz rfl (x := .bool false) rfl ?_)
  show wpAny _ _ (field (.ref z) 3 >>= _) _ _ _
  refine wpAny_bind (wpAny_field hz rfl (x := .ref TI) rfl ?_)
  refine wpAny_bind (wpAny_seqItems hTI rfl ?_)
  show wpAny _ _ (Builtin.SmallTypes.ownedTupleIsFree (.ref z) >>= _) _ _ _
  refine wpAny_bind (held_free hz hT fun g0 hz0 hs0 => ?_)
  replace hs0 : Heap.SameBut z hp g0 := hs0
  simp only [Bool.false_eq_true, if_false]
  refine wpAny_bind ?_
  rw [← Array.forIn_toList]
  simp only [List.forIn_cons, List.forIn_nil]
  refine wpAny_bind (wpAny_bind (wpAny_holding ?_))
  show wpAny _ _ (Builtin.SmallTypes.nextOf (.ref i1) >>= _) _ _ ⟨g0, g, d, tk0, os⟩
  refine wpAny_bind (D1.item i _ _ _ hlt1 (D1.over st1 hs0 S.zf1) fun x1 p1 tk1 hx1 sn1 hp1 => wpAny_pure (wpAny_pure ?_))
  replace hp1 : Heap.SameBut i1 g0 p1 := hp1
  refine wpAny_bind (wpAny_bind (wpAny_holding ?_))
  show wpAny _ _ (Builtin.SmallTypes.nextOf (.ref i2) >>= _) _ _ ⟨p1, g, d, tk1, os⟩
  refine wpAny_bind (D2.item i _ _ _ hlt2 (D2.over (D2.over st2 hs0 S.zf2) hp1 S.sep1_2) fun x2 p2 tk2 hx2 sn2 hp2 => wpAny_pure (wpAny_pure (wpAny_pure ?_)))
  replace hp2 : Heap.SameBut i2 p1 p2 := hp2
  refine wpAny_bind (wpAny_newTuple ?_ (by show 2 ≤ sizeLine; decide))
  have hsz : p2.objs.size = hp.objs.size := by rw [hp2.1, hp1.1, hs0.1]
  have hzz : IsZipH p2 z TI TO T true := hp2.extBut _ _ S.zi2 (hp1.extBut _ _ S.zi1 hz0)
  have hj1 : St1 (i + 1) p2 := D1.over sn1 hp2 S.sep2_1
  have up : ∀ c o, p2.get? c = some o → (p2.push { cls := .type "tuple", data := .seq #[x1, x2] }).get? c = some o := fun c o e => Heap.get?_push_of_some _ e
  refine wpAny_pure ⟨_, rfl, ?_⟩
  show Q (.ref p2.objs.size) ⟨p2.push { cls := .type "tuple", data := .seq #[x1, x2] }, g, d, tk2, os⟩
  have hT8 : IsTupOf2 (p2.push { cls := .type "tuple", data := .seq #[x1, x2] }) p2.objs.size x1 x2 := Heap.get?_push_size _ rfl
  rw [hsz] at hT8 ⊢
  exact hQ x1 x2 _ tk2 hx1 hx2 (up _ _ hzz) (D1.frame _ _ _ hj1 fun b _ o e => up b o e) (D2.frame _ _ _ sn2 fun b _ o e => up b o e) hT8 (by rw [Heap.size_push, hsz]) fun c o cz cT c1 c2 e =>
    up c o (hp2.extBut _ _ c2 (hp1.extBut _ _ c1 (hs0.extBut _ _ cz e)))
theorem held_end {Q : Fin → Shared → Prop} (S : ZipSep2 z TI TO i1 i2 fp1 fp2) (D1 : Draws prog w A i1 fp1 n1 P1 St1) (D2 : Draws prog w A i2 fp2 n2 P2 St2)
    (hz : IsZipH s.heap z TI TO T f) (hT : ∃ o, s.heap.get? T = some o) (hTI : IsTupOf2 s.heap TI (.ref i1) (.ref i2)) (st1 : St1 i s.heap) (st2 : St2 i s.heap) (hle1 : i ≤ n1) (hle2 : i ≤ n2) (hend : i = n1 ∨ i = n2)
    (hE : ∀ h' tk e, (∀ c o, c ≠ z → c ≠ TO → c ≠ i1 → c ≠ i2 → s.heap.get? c = some o → h'.get? c = some o) → (∃ o, h'.get? e = some o ∧ o.cls = .type "StopIteration") → E (.ref e) { s with heap := h', toks := tk }) :
    wpAny (model prog w) A (Builtin.«zip.__next__» ⟨[.ref z], []⟩) Q E s := by
  obtain ⟨hp, g, d, tk0, os⟩ := s
  show wpAny _ _ (field (.ref z) 2 >>= _) _ _ _
  refine wpAny_bind (wpAny_field hz rfl (x := .bool false) rfl ?_)
  show wpAny _ _ (field (.ref z) 3 >>= _) _ _ _
  refine wpAny_bind (wpAny_field hz rfl (x := .ref TI) rfl ?_)
  refine wpAny_bind (wpAny_seqItems hTI rfl ?_)
  show wpAny _ _ (Builtin.SmallTypes.ownedTupleIsFree (.ref z) >>= _) _ _ _
  refine wpAny_bind (held_free hz hT fun g0 hz0 hs0 => ?_)
  replace hs0 : Heap.SameBut z hp g0 := hs0
  simp only [Bool.false_eq_true, if_false]
  refine wpAny_bind ?_
  rw [← Array.forIn_toList]
  simp only [List.forIn_cons, List.forIn_nil]
  refine wpAny_bind (wpAny_bind (wpAny_holding ?_))
  show wpAny _ _ (Builtin.SmallTypes.nextOf (.ref i1) >>= _) _ _ ⟨g0, g, d, tk0, os⟩
  by_cases hlt1 : i < n1
  · refine wpAny_bind (D1.item i _ _ _ hlt1 (D1.over st1 hs0 S.zf1) fun x1 p1 tk1 hx1 sn1 hp1 => wpAny_pure (wpAny_pure ?_))
    replace hp1 : Heap.SameBut i1 g0 p1 := hp1
    refine wpAny_bind (wpAny_bind (wpAny_holding ?_))
    show wpAny _ _ (Builtin.SmallTypes.nextOf (.ref i2) >>= _) _ _ ⟨p1, g, d, tk1, os⟩
    have hi2 : i = n2 := by omega
    refine wpAny_bind (D2.done ⟨p1, g, d, tk1, os⟩ _ _ (by rw [← hi2]; exact D2.over (D2.over st2 hs0 S.zf2) hp1 S.sep1_2) fun q e hq he => ?_)
    replace hq : Heap.ExtBut i2 p1 q := hq
    exact hE q tk1 e (fun c o cz cT c1 c2 x => hq _ _ c2 (hp1.extBut _ _ c1 (hs0.extBut _ _ cz x))) he
  · have hi1 : i = n1 := by omega
    refine wpAny_bind (D1.done ⟨g0, g, d, tk0, os⟩ _ _ (by rw [← hi1]; exact D1.over st1 hs0 S.zf1) fun q e hq he => ?_)
    replace hq : Heap.ExtBut i1 g0 q := hq
    exact hE q tk0 e (fun c o cz cT c1 c2 x => hq _ _ c1 (hs0.extBut _ _ cz x)) he
theorem next_held {Q : Option Value → Shared → Prop} (S : ZipSep2 z TI TO i1 i2 fp1 fp2) (D1 : Draws prog w A.in1 i1 fp1 n1 P1 St1) (D2 : Draws prog w A.in1 i2 fp2 n2 P2 St2)
    (hz : IsZipH s.heap z TI TO T f) (hT : ∃ o, s.heap.get? T = some o) (hTI : IsTupOf2 s.heap TI (.ref i1) (.ref i2)) (st1 : St1 i s.heap) (st2 : St2 i s.heap) (hlt1 : i < n1) (hlt2 : i < n2)
    (hQ : ∀ x1 x2 h' tk, P1 i x1 → P2 i x2 → IsZipH h' z TI TO T true → St1 (i + 1) h' → St2 (i + 1) h' → IsTupOf2 h' s.heap.objs.size x1 x2 → h'.objs.size = s.heap.objs.size + 1 →
      (∀ c o, c ≠ z → c ≠ TO → c ≠ i1 → c ≠ i2 → s.heap.get? c = some o → h'.get? c = some o) → Q (some (.ref s.heap.objs.size)) { s with heap := h', toks := tk }) :
    wpAny (model prog w) A (pyNext (.ref z)) Q E s := by
  have hTy : s.TypeIs (.ref z) "zip" := ⟨_, hz, rfl⟩
  unfold pyNext
  exact wpAny_bind (wpAny_attempt (wpAny_callSpecial?_slot (name := Str.ofString "__next__") hTy F.slot_zip_next
    (wpAny_call_entry F.slot_zip_next hTy F.entry_zip_next
      (held_item S D1 D2 hz hT hTI st1 st2 hlt1 hlt2 fun x1 x2 h' tk y1 y2 b1 d1 d2 b5 b6 b7 => wpAny_pure (hQ x1 x2 h' tk y1 y2 b1 d1 d2 b5 b6 b7)) (F.args_zip_next_1 _))))
theorem end_held {Q : Option Value → Shared → Prop} (S : ZipSep2 z TI TO i1 i2 fp1 fp2) (D1 : Draws prog w A.in1 i1 fp1 n1 P1 St1) (D2 : Draws prog w A.in1 i2 fp2 n2 P2 St2)
    (hz : IsZipH s.heap z TI TO T f) (hT : ∃ o, s.heap.get? T = some o) (hTI : IsTupOf2 s.heap TI (.ref i1) (.ref i2)) (st1 : St1 i s.heap) (st2 : St2 i s.heap) (hle1 : i ≤ n1) (hle2 : i ≤ n2) (hend : i = n1 ∨ i = n2)
    (hQ : ∀ h' tk, (∀ c o, c ≠ z → c ≠ TO → c ≠ i1 → c ≠ i2 → s.heap.get? c = some o → h'.get? c = some o) → Q none { s with heap := h', toks := tk }) : wpAny (model prog w) A (pyNext (.ref z)) Q E s := by
  have hTy : s.TypeIs (.ref z) "zip" := ⟨_, hz, rfl⟩
  unfold pyNext
  refine wpAny_bind (wpAny_attempt (wpAny_callSpecial?_slot (name := Str.ofString "__next__") hTy F.slot_zip_next
    (wpAny_call_entry F.slot_zip_next hTy F.entry_zip_next (held_end S D1 D2 hz hT hTI st1 st2 hle1 hle2 hend fun h' tk e hk he => ?_) (F.args_zip_next_1 _))))
  obtain ⟨o, ho, hc⟩ := he
  refine wpAny_bind (wpAny_isInstance (T := "StopIteration") (b := true) ⟨o, ho, hc⟩ isSubtype_stop ?_)
  exact wpAny_pure (hQ _ _ hk)
end
end Z

/-! Zr: the loop of list(zip(a, b)). -/
namespace Z
open PySem PySem.Spec PyProof.Rows L2 RT
theorem nolen_zip : typeLookup (.type "zip") "__len__" = pure none := by rw [typeLookup_type, builtinLookup_eq_fast]; kernel_rfl
theorem nohint_zip : typeLookup (.type "zip") "__length_hint__" = pure none := by rw [typeLookup_type, builtinLookup_eq_fast]; kernel_rfl
/-- the pairs so far -/
structure PrOk (N : Addr) (P1 P2 : Nat → Value → Prop) (acc : Array Value) (i : Nat) (h : Heap) (ts : List Addr) : Prop where
  ac : acc.toList = ts.map Value.ref
  nd : ts.Nodup
  ln : ts.length = i
  pr : ∀ j T, ts[j]? = some T → N ≤ T ∧ ∃ x y, P1 j x ∧ P2 j y ∧ IsTupOf2 h T x y
/-- where the walk stands -/
structure ZS (N z TI TO i1 i2 : Addr) (St1 St2 : Nat → Heap → Prop) (i : Nat) (h : Heap) : Prop where
  ti : IsTupOf2 h TI (.ref i1) (.ref i2)
  s1 : St1 i h
  s2 : St2 i h
  zz : (IsZip h z TI TO .none ∧ ∃ a1 a2, IsTupOf2 h TO a1 a2) ∨ ∃ T f, IsZipH h z TI TO T f ∧ (∃ o, h.get? T = some o) ∧ N ≤ T
abbrev IsL (h : Heap) (S : Addr) (acc : Array Value) (c : Nat) : Prop := h.get? S = some { cls := .type "list", dict := none, data := .seq acc c, slots := #[] }
section
variable {prog : Program} {w : World} {A : Around} {E : Value → Shared → Prop} {z TI TO i1 i2 : Addr} {fp1 fp2 : List Addr} {n1 n2 : Nat} {P1 P2 : Nat → Value → Prop} {St1 St2 : Nat → Heap → Prop}
theorem zs_item {N : Addr} {i : Nat} {s : Shared} {Q : Option Value → Shared → Prop} (S : ZipSep2 z TI TO i1 i2 fp1 fp2) (D1 : Draws prog w A.in1 i1 fp1 n1 P1 St1) (D2 : Draws prog w A.in1 i2 fp2 n2 P2 St2)
    (lz : z < N) (lT : TO < N) (l1 : i1 < N) (l2 : i2 < N) (hN : N ≤ s.heap.objs.size) (hs : ZS N z TI TO i1 i2 St1 St2 i s.heap) (h1 : i < n1) (h2 : i < n2)
    (hQ : ∀ x y h' tk, P1 i x → P2 i y → ZS N z TI TO i1 i2 St1 St2 (i + 1) h' → IsTupOf2 h' s.heap.objs.size x y → h'.objs.size = s.heap.objs.size + 1 →
      (∀ c o, c ≠ z → c ≠ TO → c ≠ i1 → c ≠ i2 → s.heap.get? c = some o → h'.get? c = some o) → Q (some (.ref s.heap.objs.size)) { s with heap := h', toks := tk }) :
    wpAny (model prog w) A (pyNext (.ref z)) Q E s := by
  obtain ⟨ti, s1, s2, zz⟩ := hs
  rcases zz with ⟨hz, a1, a2, hTO⟩ | ⟨T, f, hz, hT, hTN⟩
  · refine wpAny_pyNext_zipD2_item S D1 D2 hz ti hTO s1 s2 h1 h2 fun x y h' tk y1 y2 b1 b2 d1 d2 b5 b6 hk => ?_
    exact hQ x y h' tk y1 y2 ⟨hk _ _ S.TIz S.TITO S.TIi1 S.TIi2 ti, d1, d2, .inr ⟨_, false, b1, ⟨_, b5⟩, hN⟩⟩ b5 b6 hk
  · refine next_held S D1 D2 hz hT ti s1 s2 h1 h2 fun x y h' tk y1 y2 b1 d1 d2 b5 b6 hk => ?_
    refine hQ x y h' tk y1 y2 ⟨hk _ _ S.TIz S.TITO S.TIi1 S.TIi2 ti, d1, d2, .inr ⟨_, true, b1, ?_, hTN⟩⟩ b5 b6 hk
    obtain ⟨oT, eT⟩ := hT
    exact ⟨oT, hk _ _ (Nat.ne_of_gt (Nat.lt_of_lt_of_le lz hTN)) (Nat.ne_of_gt (Nat.lt_of_lt_of_le lT hTN)) (Nat.ne_of_gt (Nat.lt_of_lt_of_le l1 hTN)) (Nat.ne_of_gt (Nat.lt_of_lt_of_le l2 hTN)) eT⟩
theorem zs_end {N : Addr} {i : Nat} {s : Shared} {Q : Option Value → Shared → Prop} (S : ZipSep2 z TI TO i1 i2 fp1 fp2) (D1 : Draws prog w A.in1 i1 fp1 n1 P1 St1) (D2 : Draws prog w A.in1 i2 fp2 n2 P2 St2)
    (hs : ZS N z TI TO i1 i2 St1 St2 i s.heap) (h1 : i ≤ n1) (h2 : i ≤ n2) (he : i = n1 ∨ i = n2)
    (hQ : ∀ h' tk, (∀ c o, c ≠ z → c ≠ TO → c ≠ i1 → c ≠ i2 → s.heap.get? c = some o → h'.get? c = some o) → Q none { s with heap := h', toks := tk }) :
    wpAny (model prog w) A (pyNext (.ref z)) Q E s := by
  obtain ⟨ti, s1, s2, zz⟩ := hs
  rcases zz with ⟨hz, a1, a2, hTO⟩ | ⟨T, f, hz, hT, hTN⟩
  · exact wpAny_pyNext_zipD2_end S D1 D2 hz ti hTO s1 s2 h1 h2 he hQ
  · exact end_held S D1 D2 hz hT ti s1 s2 h1 h2 he hQ
theorem ext_zip {N L : Addr} {R : Result → Shared → Prop} {res : Value} (S : ZipSep2 z TI TO i1 i2 fp1 fp2) (D1 : Draws prog w A.in1.in1 i1 fp1 n1 P1 St1) (D2 : Draws prog w A.in1.in1 i2 fp2 n2 P2 St2)
    (lz : z < N) (lT : TO < N) (l1 : i1 < N) (l2 : i2 < N) (lL : L < N) (Lz : L ≠ z) (LTI : L ≠ TI) (LTO : L ≠ TO) (L1 : L ∉ fp1) (L2 : L ∉ fp2) (hn : min n1 n2 ≤ sizeLine) :
    ∀ (k i : Nat) (s : Shared) (acc : Array Value) (c : Nat) (ts : List Addr), min n1 n2 - i = k → i ≤ min n1 n2 → N ≤ s.heap.objs.size → ZS N z TI TO i1 i2 St1 St2 i s.heap → IsL s.heap L acc c → PrOk N P1 P2 acc i s.heap ts →
      (∀ h' tk acc' c' ts', (∀ b o, b ≠ L → b ≠ z → b ≠ TO → b ≠ i1 → b ≠ i2 → s.heap.get? b = some o → h'.get? b = some o) → IsL h' L acc' c' → PrOk N P1 P2 acc' (min n1 n2) h' ts' → R (.ok (.ret res)) { s with heap := h', toks := tk }) →
      codeAny (model prog w) A (.builtin "list.extend.loop" ⟨[.ref L, .ref z, res], []⟩) R s := by
  have Li1 : L ≠ i1 := fun e => L1 (e ▸ S.mem1)
  have Li2 : L ≠ i2 := fun e => L2 (e ▸ S.mem2)
  intro k
  induction k with
  | zero =>
    intro i s acc c ts hk hi hN hs hL ha hR
    have hin : i = min n1 n2 := by omega
    subst hin
    refine codeAny_builtin F.entry_extend_loop ?_
    rw [Around.under_plainId F.plain_extend_loop _]
    show wpAny _ A.in1 (pyNext (.ref z) >>= _) _ _ s
    refine wpAny_bind (zs_end S D1 D2 hs (by omega) (by omega) (by omega) fun h' tk hk => ?_)
    refine wpAny_pure (hR h' tk acc c ts (fun b o _ bz bT b1 b2 e => hk b o bz bT b1 b2 e) (hk _ _ Lz LTO Li1 Li2 hL) ⟨ha.ac, ha.nd, ha.ln, fun j T hj => ?_⟩)
    obtain ⟨hT, x, y, p1, p2, p3⟩ := ha.pr j T hj
    exact ⟨hT, x, y, p1, p2, hk _ _ (Nat.ne_of_gt (Nat.lt_of_lt_of_le lz hT)) (Nat.ne_of_gt (Nat.lt_of_lt_of_le lT hT)) (Nat.ne_of_gt (Nat.lt_of_lt_of_le l1 hT)) (Nat.ne_of_gt (Nat.lt_of_lt_of_le l2 hT)) p3⟩
  | succ k ih =>
    intro i s acc c ts hk hi hN hs hL ha hR
    have hlt : i < min n1 n2 := by omega
    refine codeAny_builtin F.entry_extend_loop ?_
    rw [Around.under_plainId F.plain_extend_loop _]
    show wpAny _ A.in1 (pyNext (.ref z) >>= _) _ _ s
    refine wpAny_bind (zs_item S D1 D2 lz lT l1 l2 hN hs (by omega) (by omega) fun x y h' tk y1 y2 hs' hT hsz hk' => ?_)
    have hL' : IsL h' L acc c := hk' _ _ Lz LTO Li1 Li2 hL
    show wpAny _ A.in1 (updateSeq L (·.push (.ref s.heap.objs.size)) >>= _) _ _ _
    have hacs : acc.size = i := by rw [← Array.length_toList, ha.ac, List.length_map, ha.ln]
    have ou : ∀ b o, b ≠ L → h'.get? b = some o → (h'.update L (Obj.mapSeq (·.push (.ref s.heap.objs.size)))).get? b = some o := fun b o hb e => (Heap.get?_update_other _ _ (Ne.symm hb)).trans e
    have Nge : ∀ {T : Addr}, N ≤ T → T ≠ L ∧ T ≠ z ∧ T ≠ TO ∧ T ≠ i1 ∧ T ≠ i2 := fun hT => ⟨Nat.ne_of_gt (Nat.lt_of_lt_of_le lL hT), Nat.ne_of_gt (Nat.lt_of_lt_of_le lz hT), Nat.ne_of_gt (Nat.lt_of_lt_of_le lT hT), Nat.ne_of_gt (Nat.lt_of_lt_of_le l1 hT), Nat.ne_of_gt (Nat.lt_of_lt_of_le l2 hT)⟩
    refine wpAny_bind ?_
    refine wpAny_updateSeq (s := { s with heap := h', toks := tk }) hL' rfl (wpAny_pure ⟨plainId_quiet F.plain_extend_loop _, ih (i + 1) _ (acc.push (.ref s.heap.objs.size)) _ (ts ++ [s.heap.objs.size]) (by omega) hlt ?_ ?_ (Heap.get?_update_self _ hL' rfl) ?_ fun h2 tk2 acc' c' ts' hk2 hL2 ha2 => ?_⟩)
      (by rw [hacs]; omega) (by show (acc.push _).size ≤ sizeLine + 1; rw [Array.size_push, hacs]; omega)
    · show N ≤ (h'.update L _).objs.size
      rw [(Heap.SameBut.update ..).1, hsz]
      exact Nat.le_succ_of_le hN
    · obtain ⟨ti, s1, s2, zz⟩ := hs'
      refine ⟨ou _ _ (Ne.symm LTI) ti, D1.frame _ _ _ s1 fun b hb o e => ou b o (fun q => L1 (q ▸ hb)) e, D2.frame _ _ _ s2 fun b hb o e => ou b o (fun q => L2 (q ▸ hb)) e, ?_⟩
      rcases zz with ⟨hz, a1, a2, hTO⟩ | ⟨T, f, hz, ⟨oT, eT⟩, hTN⟩
      · exact .inl ⟨ou _ _ (Ne.symm Lz) hz, a1, a2, ou _ _ (Ne.symm LTO) hTO⟩
      · exact .inr ⟨T, f, ou _ _ (Ne.symm Lz) hz, ⟨oT, ou _ _ (Nge hTN).1 eT⟩, hTN⟩
    · refine ⟨by rw [Array.toList_push, ha.ac, List.map_append]; rfl, ?_, by rw [List.length_append, ha.ln]; rfl, fun j T hj => ?_⟩
      · rw [List.nodup_append]
        refine ⟨ha.nd, by simp, fun a hm b hb => ?_⟩
        rw [List.mem_singleton] at hb
        subst hb
        intro q
        subst q
        obtain ⟨j, hj⟩ := List.mem_iff_getElem?.mp hm
        obtain ⟨_, x', y', _, _, p3⟩ := ha.pr j _ hj
        exact Nat.lt_irrefl _ (Heap.lt_size p3)
      · rcases Nat.lt_or_ge j ts.length with hj' | hj'
        · rw [List.getElem?_append_left hj'] at hj
          obtain ⟨hTN, x', y', p1, p2, p3⟩ := ha.pr j T hj
          have q := Nge hTN
          exact ⟨hTN, x', y', p1, p2, ou _ _ q.1 (hk' _ _ q.2.1 q.2.2.1 q.2.2.2.1 q.2.2.2.2 p3)⟩
        · rw [List.getElem?_append_right hj'] at hj
          have hji : j = i := by
            rw [ha.ln] at hj hj'
            rcases Nat.lt_or_ge i j with c0 | c0
            · rw [List.getElem?_eq_none (by simp; omega)] at hj; cases hj
            · omega
          subst hji
          rw [ha.ln, Nat.sub_self] at hj
          cases hj
          exact ⟨hN, x, y, y1, y2, ou _ _ (Nge hN).1 hT⟩
    · exact hR h2 tk2 acc' c' ts' (fun b o bL bz bT b1 b2 e => hk2 b o bL bz bT b1 b2 (ou b o bL (hk' b o bz bT b1 b2 e))) hL2 ha2
end
end Z

/-! Zs: list(zip(a, b)). -/
namespace Z
open PySem PySem.Spec PyProof.Rows L2 RT
section
variable {prog : Program} {w : World} {A : Around} {E : Value → Shared → Prop} {s : Shared} {z TI TO i1 i2 : Addr} {fp1 fp2 : List Addr} {n1 n2 : Nat} {P1 P2 : Nat → Value → Prop} {St1 St2 : Nat → Heap → Prop}
theorem hint_zip {f0 : Value} {Q : Bool → Shared → Prop} (hz : IsZip s.heap z TI TO f0) (h : Q true s) : wpAny (model prog w) A (Builtin.List.listLengthHint (.ref z)) Q E s := by
  have hT : s.TypeIs (.ref z) "zip" := ⟨_, hz, rfl⟩
  unfold Builtin.List.listLengthHint
  refine wpAny_bind (wpAny_specialOf hT nolen_zip ?_)
  show wpAny _ _ (specialOf (Value.ref z) (Str.ofString "__length_hint__") >>= _) _ _ _
  refine wpAny_bind (wpAny_specialOf hT nohint_zip ?_)
  exact wpAny_pure h
theorem init_zip {L : Addr} {R : Result → Shared → Prop} (S : ZipSep2 z TI TO i1 i2 fp1 fp2) (D1 : Draws prog w A.in1.in1 i1 fp1 n1 P1 St1) (D2 : Draws prog w A.in1.in1 i2 fp2 n2 P2 St2)
    (lz : z < s.heap.objs.size) (lT : TO < s.heap.objs.size) (l1 : i1 < s.heap.objs.size) (l2 : i2 < s.heap.objs.size) (Lz : L ≠ z) (LTI : L ≠ TI) (LTO : L ≠ TO) (L1 : L ∉ fp1) (L2 : L ∉ fp2) (hn : min n1 n2 ≤ sizeLine)
    (hz : IsZip s.heap z TI TO .none) (hTO : IsTupOf2 s.heap TO .none .none) (ti : IsTupOf2 s.heap TI (.ref i1) (.ref i2)) (s1 : St1 0 s.heap) (s2 : St2 0 s.heap)
    (hS : s.heap.get? L = some { cls := .type "list", data := .seq #[] })
    (hR : ∀ (h' : Heap) (tk : Nat) (acc : Array Value) (c : Nat) (ts : List Addr), (∀ b o, b ≠ L → b ≠ z → b ≠ TO → b ≠ i1 → b ≠ i2 → s.heap.get? b = some o → h'.get? b = some o) → IsL h' L acc c → PrOk s.heap.objs.size P1 P2 acc (min n1 n2) h' ts → R (.ok (.ret .none)) { s with heap := h', toks := tk }) :
    wpAny (model prog w) A.in1 (Builtin.«list.__init__» ⟨[.ref L, .ref z], []⟩)
      (fun fin s' => match fin with | .done f => R (.ok f) s' | .again c' => c'.quiet = true ∧ codeAny (model prog w) A c' R s') (fun e s' => R (.error e) s') s := by
  have lL : L < s.heap.objs.size := Heap.lt_size hS
  show wpAny _ A.in1 (do let old ← Builtin.List.listItems (.ref L); Builtin.List.listUpdate (.ref L) (fun _ => #[]); letGo old.toList.reverse; Builtin.List.listExtendWith (.ref L) (.ref z) .none) _ _ s
  refine wpAny_bind ?_
  unfold Builtin.List.listItems
  refine wpAny_bind (wpAny_seqItems hS rfl (wpAny_pure ?_))
  show wpAny _ A.in1 (updateSeq L (fun _ => #[]) >>= fun _ => letGo (#[] : Array Value).toList.reverse >>= fun _ => Builtin.List.listExtendWith (.ref L) (.ref z) .none) _ _ s
  refine wpAny_bind (wpAny_updateSeq hS rfl ?_)
  have hS₂ := Heap.get?_update_self (Obj.mapSeq (fun _ => (#[] : Array Value))) hS rfl
  have oth : ∀ b o, b ≠ L → s.heap.get? b = some o → (s.heap.update L (Obj.mapSeq (fun _ => (#[] : Array Value)))).get? b = some o :=
    fun b o hb e => (Heap.get?_update_other _ _ (Ne.symm hb)).trans e
  refine wpAny_bind (wpAny_letGo ?_)
  have sz1 : (s.heap.update L (Obj.mapSeq (fun _ => (#[] : Array Value)))).objs.size = s.heap.objs.size := (Heap.SameBut.update ..).1
  generalize hs1 : ({ s with heap := s.heap.update L (Obj.mapSeq (fun _ => (#[] : Array Value))) } : Shared) = sA
  have szA : sA.heap.objs.size = s.heap.objs.size := by subst hs1; exact sz1
  have othA : ∀ b o, b ≠ L → s.heap.get? b = some o → sA.heap.get? b = some o := by subst hs1; exact oth
  have hSA : sA.heap.get? L = some { cls := .type "list", data := .seq #[] } := by subst hs1; exact hS₂
  have es : ∀ h' tk, ({ s with heap := h', toks := tk } : Shared) = { sA with heap := h', toks := tk } := by
    subst hs1
    intro h' tk
    rfl
  have hzA : IsZip sA.heap z TI TO .none := othA _ _ (Ne.symm Lz) hz
  have hT : sA.TypeIs (.ref z) "zip" := ⟨_, hzA, rfl⟩
  have h1 : Builtin.List.listSameRef (.ref L) (.ref z) = false := by simp [Builtin.List.listSameRef, Lz]
  unfold Builtin.List.listExtendWith
  refine wpAny_bind (wpAny_typeOf hT ?_)
  rw [if_neg (by rw [h1]; decide)]
  refine wpAny_bind (wpAny_pyIter_zip hzA ?_)
  refine wpAny_bind (wpAny_holding (hint_zip hzA ?_))
  rw [if_pos (by decide)]
  refine wpAny_bind (wpAny_bind (wpAny_rule ?_))
  unfold Builtin.List.listTouch
  refine wpAny_pure (wpAny_bind (wpAny_bind ?_))
  show wpAny _ A.in1 (updateSeq L (·.push .none)) _ _ sA
  refine wpAny_updateSeq hSA rfl ?_
  have hSB := Heap.get?_update_self (Obj.mapSeq (·.push Value.none)) hSA rfl
  show wpAny _ A.in1 (updateSeq L (·.pop)) _ _ _
  refine wpAny_updateSeq (s := { sA with heap := sA.heap.update L (Obj.mapSeq (·.push .none)) }) hSB rfl ?_
  have hSC := Heap.get?_update_self (h := sA.heap.update L (Obj.mapSeq (·.push .none))) (Obj.mapSeq (·.pop)) hSB rfl
  have othC : ∀ b o, b ≠ L → s.heap.get? b = some o → ((sA.heap.update L (Obj.mapSeq (·.push .none))).update L (Obj.mapSeq (·.pop))).get? b = some o :=
    fun b o hb e => (Heap.get?_update_other _ _ (Ne.symm hb)).trans ((Heap.get?_update_other _ _ (Ne.symm hb)).trans (othA b o hb e))
  have szC : ((sA.heap.update L (Obj.mapSeq (·.push .none))).update L (Obj.mapSeq (·.pop))).objs.size = s.heap.objs.size := by
    rw [(Heap.SameBut.update ..).1, (Heap.SameBut.update ..).1, szA]
  have hSD : ∃ c, IsL ((sA.heap.update L (Obj.mapSeq (·.push .none))).update L (Obj.mapSeq (·.pop))) L #[] c := ⟨_, hSC⟩
  clear hSC
  show wpAny _ A.in1 _ _ _ { sA with heap := (sA.heap.update L (Obj.mapSeq (·.push .none))).update L (Obj.mapSeq (·.pop)) }
  revert othC szC hSD
  generalize (sA.heap.update L (Obj.mapSeq (·.push .none))).update L (Obj.mapSeq (·.pop)) = hC
  intro othC szC ⟨c, hSC⟩
  have loop := ext_zip (prog := prog) (w := w) (A := A) (R := R) (res := .none) (N := s.heap.objs.size) S D1 D2 lz lT l1 l2 lL Lz LTI LTO L1 L2 hn (min n1 n2) 0 { sA with heap := hC } #[] c [] rfl (Nat.zero_le _) (Nat.le_of_eq szC.symm)
    ⟨othC _ _ (Ne.symm LTI) ti, D1.frame _ _ _ s1 fun b hb o e => othC b o (fun q => L1 (q ▸ hb)) e, D2.frame _ _ _ s2 fun b hb o e => othC b o (fun q => L2 (q ▸ hb)) e, .inl ⟨othC _ _ (Ne.symm Lz) hz, _, _, othC _ _ (Ne.symm LTO) hTO⟩⟩
    hSC ⟨rfl, List.nodup_nil, rfl, fun j T hj => by simp at hj⟩ fun h' tk acc' c' ts' hk hL ha => by
      have := hR h' tk acc' c' ts' (fun b o bL bz bT b1 b2 e => hk b o bL bz bT b1 b2 (othC b o bL e)) hL ha
      rw [es] at this
      exact this
  exact wpAny_pure ⟨plainId_quiet F.plain_extend_loop _, loop⟩
end
end Z

/-! Zt: list(zip(a, b)) by values. -/
namespace Z
open PySem PySem.Spec PyProof.Rows L2 RT
/-! many new objects at once -/
def upds (H : Hp) (L : List (Addr × HO)) : Hp := L.foldl (fun H p => upd H p.1 p.2) H
theorem upds_cons (H : Hp) (p : Addr × HO) (L : List (Addr × HO)) : upds H (p :: L) = upds (upd H p.1 p.2) L := rfl
theorem upds_snoc (H : Hp) (L : List (Addr × HO)) (p : Addr × HO) : upds H (L ++ [p]) = upd (upds H L) p.1 p.2 := by
  unfold upds
  rw [List.foldl_append]
  rfl
theorem upds_out : ∀ (L : List (Addr × HO)) (H : Hp) {b : Addr}, (∀ p ∈ L, b ≠ p.1) → upds H L b = H b
  | [], _, _, _ => rfl
  | p :: L, H, b, h => by
    rw [upds_cons, upds_out L _ fun q hq => h q (List.mem_cons_of_mem _ hq), upd_ne (h p (List.mem_cons_self ..))]
theorem upds_cases : ∀ (L : List (Addr × HO)) (H : Hp) {b : Addr} {o : HO}, upds H L b = some o → (b, o) ∈ L ∨ H b = some o
  | [], _, _, _, h => .inr h
  | p :: L, H, b, o, h => by
    rw [upds_cons] at h
    rcases upds_cases L _ h with h | h
    · exact .inl (List.mem_cons_of_mem _ h)
    · by_cases c : b = p.1
      · subst c
        rw [upd_same] at h
        cases h
        exact .inl (List.mem_cons_self ..)
      · rw [upd_ne c] at h
        exact .inr h
section
variable {X : Cx} {pins : List (Addr × Obj)} {σ : L2.St} {H : Hp} {s : Shared} {h' : Heap}
theorem laidAll {t' : Nat} (I : Inv X pins σ H s) (k : ∀ b u, s.heap.get? b = some u → h'.get? b = some u) (L : List (Addr × HO)) (hp : ∀ p ∈ L, s.heap.objs.size ≤ p.1)
    (new : ∀ a o, (a, o) ∈ L → ObjOk X.prog X.w (upds H L) h' a o) : Inv X pins σ (upds H L) { s with heap := h', toks := t' } := by
  have out : ∀ {b : Addr} {u : HO}, H b = some u → upds H L b = some u := fun {b u} e => by
    rw [upds_out L H fun p hpm q => ?_]
    · exact e
    · have := I.hok.fresh (hp p hpm)
      rw [← q, e] at this
      cases this
  refine I.un ⟨fun b o q _ _ _ => k b o q, fun b o q _ _ _ => ⟨o.slots, k b o q⟩, fun b o q n _ => ?_, fun b o q _ => ⟨o, k b o q⟩, fun b xs q => out q, fun b o u q => out q, fun b ps q => ⟨#[], by rw [out q]; simp⟩⟩ fun b o e => ?_
  · rw [upds_out L H fun p hpm => Nat.ne_of_lt (Nat.lt_of_lt_of_le (Heap.lt_size q) (hp p hpm))]
    exact n
  · rcases upds_cases L H e with z | z
    · exact new b o z
    · exact (I.hok b o z).stay (fun c v _ q => k c v q) (fun c q => out q) fun c xs q => out q
end
/-- what may be gone through: a list or a tuple -/
def Sq (K : PySem.W.Frag) (H : Hp) (x : V) (xs : List V) : Prop := ∃ a, x = .ref a ∧ (SqL K H a xs ∨ SqT K H a xs)
theorem src_of {X : Cx} {pins : List (Addr × Obj)} {σ : L2.St} {H : Hp} {s : Shared} {x : V} {xs : List V} {u : Value} (I : Inv X pins σ H s) (r : RelV x u) (h : Sq X.K H x xs) :
    ∃ (o : Obj) (l : Addr) (its : List Value) (Hb : Heap → Prop), Begins u o Hb ∧ Hb s.heap ∧ l < s.heap.objs.size ∧ Vals xs its ∧ its.length ≤ sizeLine ∧
      ∀ (prog : Program) (w : World) (A : Around) (it : Addr), A.handled = none → l ≠ it → ∃ St : Nat → Heap → Prop, Draws prog w A it [it, l] its.length (fun i v => its[i]? = some v) St ∧
        ∀ h', h'.get? it = some o → (∀ c o, s.heap.get? c = some o → h'.get? c = some o) → St 0 h' := by
  obtain ⟨a, rfl, h⟩ := h
  cases r
  rcases h with h | h
  · obtain ⟨its, rv, p, hz⟩ := I.list h
    refine ⟨_, a, its, _, begins_list a its.toArray, p.isList, p.lt, rv, by rw [← rv.length]; exact hz, ?_⟩
    intro prog w A it hh hne
    have D : Draws prog w A it [it, a] its.length (fun i v => its[i]? = some v) (fun i h => h.IsListIter it a i ∧ h.IsList a its.toArray) := by
      have := Draws.list (prog := prog) (w := w) (A := A) hh it a hne its.toArray
      simpa using this
    exact ⟨_, D, fun h' e k => ⟨⟨_, e, rfl, rfl⟩, p.isList.at fun o q => k _ o q⟩⟩
  · obtain ⟨its, rv, p, hz⟩ := I.tuple h
    have pt : s.heap.IsTuple a its.toArray := p
    obtain ⟨ob, eo, _⟩ := id p
    refine ⟨_, a, its, _, begins_tuple a its.toArray, pt, Heap.lt_size eo, rv, by rw [← rv.length]; exact hz, ?_⟩
    intro prog w A it hh hne
    have D : Draws prog w A it [it, a] its.length (fun i v => its[i]? = some v) (fun i h => h.IsTupleIter it a i ∧ h.IsTuple a its.toArray) := by
      have := Draws.tuple (prog := prog) (w := w) (A := A) hh it a hne its.toArray
      simpa using this
    exact ⟨_, D, fun h' e k => ⟨⟨_, e, rfl, rfl⟩, pt.at fun o q => k _ o q⟩⟩
def prs (xs ys : List V) : List HO := (xs.zip ys).map fun p => .tup [p.1, p.2]
def tLstZip (K : PySem.W.Frag) (ta : TA) : TE := fun σ H Q => ta σ H fun vs H1 => ∃ x y xs ys, vs = [x, y] ∧ Sq K H1 x xs ∧ Sq K H1 y ys ∧
  ∀ (ts : List Addr) (q : Addr), ts.length = min xs.length ys.length → ts.Nodup → q ∉ ts → (∀ T ∈ ts, H1 T = none) → H1 q = none → Q (.ref q) (upds H1 (ts.zip (prs xs ys) ++ [(q, .lst (ts.map V.ref))]))
theorem vals_refs : ∀ ts : List Addr, Vals (ts.map V.ref) (ts.map Value.ref)
  | [] => .nil
  | t :: ts => .cons (show RelV (V.ref t) (Value.ref t) from rfl) (vals_refs ts)
theorem pe_lstZip {X : Cx} {e e2 : Expr} {ta : TA} {p p2 pos pos2 : Pos} (hc : X.calm = true) (hg : Gl X "list") (hm : X.mg "list" = none) (hg2 : Gl X "zip") (hm2 : X.mg "zip" = none) (ha : PA X [e, e2] ta)
    (hs : starEach [e, e2] X.env = (false, eval e X.env) :: starEach [e2] X.env := by rfl) (hpl : (backTo pos2 (starEach [e2] X.env)).any (·.1) = false := by rfl)
    (hs2 : starEach [.Call (.Name "zip" p2) [e, e2] [] pos2] X.env = (false, eval (.Call (.Name "zip" p2) [e, e2] [] pos2) X.env) :: starEach [] X.env := by rfl) :
    PE X (.Call (.Name "list" p) [.Call (.Name "zip" p2) [e, e2] [] pos2] [] pos) (tLstZip X.K ta) := by
  refine ⟨fun pins s σ H Q I h => ?_⟩
  refine Call_ (ld_blt I hg hm boot_list (PyProof.Rows.callWith_type1 (args_cons (Call_ (ld_blt I hg2 hm2 PyProof.Rows.boot_zip (PyProof.Rows.callWith_type1 (thn (ha.run pos2 pins s σ H _ I h) fun us s1 ⟨vs, H1, I1, r1, q1⟩ => ?_) hs hpl))) hs2) hs2 rfl))
  obtain ⟨x, y, xs, ys, ev, hx, hy, q⟩ := q1
  subst ev
  cases r1 with
  | cons ra rr =>
  cases rr with
  | cons rb rr =>
  cases rr
  rename_i ua ub
  obtain ⟨o1, l1, its1, Hb1, B1, hb1, lt1, rv1, z1, D1⟩ := src_of I1 ra hx
  obtain ⟨o2, l2, its2, Hb2, B2, hb2, lt2, rv2, z2, D2⟩ := src_of I1 rb hy
  refine zip_begins2 B1 B2 hb1 hb2 fun h' hz hTI hTO g1 g2 hsz hk => args_nil ?_
  have hh := I1.ok.hd hc
  generalize hN : s1.heap.objs.size = N at *
  obtain ⟨St1, Dr1, st1⟩ := D1 X.prog X.w X.A.in1.in1.in1 N hh (Nat.ne_of_lt lt1)
  obtain ⟨St2, Dr2, st2⟩ := D2 X.prog X.w X.A.in1.in1.in1 (N + 1) hh (Nat.ne_of_lt (Nat.lt_succ_of_lt lt2))
  have S := zip_sep2 (N := N) (fp1 := [l1]) (fp2 := [l2]) (fun b hb => by rw [List.mem_singleton] at hb; subst hb; exact lt1) (fun b hb => by rw [List.mem_singleton] at hb; subst hb; exact lt2)
  refine callType_codes (Q₁ := fun obj s₁ => obj = .ref h'.objs.size ∧ s₁ = { s1 with heap := h'.push { cls := .type "list", data := .seq #[] } }) F.called_list (F.typeCall_list_1 _) F.entry_list_init
    (code_list_new _ ⟨rfl, rfl⟩) fun obj s₁ h₁ => ?_
  obtain ⟨rfl, rfl⟩ := h₁
  have kp : ∀ b o, h'.get? b = some o → (h'.push { cls := .type "list", data := .seq #[] }).get? b = some o := fun b o e => Heap.get?_push_of_some _ e
  have hS : (h'.push { cls := .type "list", data := .seq #[] }).get? h'.objs.size = some { cls := .type "list", data := .seq #[] } := Heap.get?_push_size _ rfl
  have sz6 : (h'.push { cls := .type "list", data := .seq #[] }).objs.size = N + 6 := by rw [Heap.size_push, hsz]
  rw [hsz] at hS ⊢
  refine ⟨⟨_, hS, rfl⟩, F.args_list_init_2 _ _, init_zip (A := X.A.in1) (s := { s1 with heap := h'.push { cls := .type "list", data := .seq #[] } }) S Dr1 Dr2 ?_ ?_ ?_ ?_ ?_ ?_ ?_ ?_ ?_ ?_ (kp _ _ hz) (kp _ _ hTO) (kp _ _ hTI)
    (st1 _ (kp _ _ g1) fun c o e => kp _ _ (hk c o e)) (st2 _ (kp _ _ g2) fun c o e => kp _ _ (hk c o e)) hS fun h2 tk acc c ts hk2 hL hP => ?_⟩
  · show N + 4 < (h'.push _).objs.size
    rw [sz6]
    exact Nat.add_lt_add_left (by decide) N
  · show N + 3 < (h'.push _).objs.size
    rw [sz6]
    exact Nat.add_lt_add_left (by decide) N
  · show N < (h'.push _).objs.size
    rw [sz6]
    exact Nat.lt_add_of_pos_right (by decide)
  · show N + 1 < (h'.push _).objs.size
    rw [sz6]
    exact Nat.add_lt_add_left (by decide) N
  · exact Nat.ne_of_gt (Nat.add_lt_add_left (by decide) N)
  · exact Nat.ne_of_gt (Nat.add_lt_add_left (by decide) N)
  · exact Nat.ne_of_gt (Nat.add_lt_add_left (by decide) N)
  · intro hm
    rcases List.mem_cons.mp hm with e | hm
    · exact absurd e (Nat.ne_of_gt (Nat.lt_add_of_pos_right (by decide)))
    · rw [List.mem_singleton] at hm
      exact absurd hm (Nat.ne_of_gt (Nat.lt_of_lt_of_le lt1 (Nat.le_add_right _ _)))
  · intro hm
    rcases List.mem_cons.mp hm with e | hm
    · exact absurd e (Nat.ne_of_gt (Nat.add_lt_add_left (by decide) N))
    · rw [List.mem_singleton] at hm
      exact absurd hm (Nat.ne_of_gt (Nat.lt_of_lt_of_le lt2 (Nat.le_add_right _ _)))
  · omega
  · have hPN : ∀ {j : Nat} {T : Addr}, ts[j]? = some T → N + 6 ≤ T ∧ ∃ x y, its1[j]? = some x ∧ its2[j]? = some y ∧ IsTupOf2 h2 T x y := fun {j T} hj => by
      have := hP.pr j T hj
      rw [show ({ s1 with heap := h'.push { cls := .type "list", data := .seq #[] } } : Shared).heap.objs.size = N + 6 from sz6] at this
      exact this
    have hTN : ∀ {T : Addr}, T ∈ ts → N + 6 ≤ T := fun {T} hT => by
      obtain ⟨j, hj⟩ := List.mem_iff_getElem?.mp hT
      exact (hPN hj).1
    have kk : ∀ b u, s1.heap.get? b = some u → h2.get? b = some u := fun b u e => by
      have lt : b < N := by rw [← hN]; exact Heap.lt_size e
      exact hk2 b u (Nat.ne_of_lt (Nat.lt_of_lt_of_le lt (Nat.le_add_right _ _))) (Nat.ne_of_lt (Nat.lt_of_lt_of_le lt (Nat.le_add_right _ _))) (Nat.ne_of_lt (Nat.lt_of_lt_of_le lt (Nat.le_add_right _ _))) (Nat.ne_of_lt lt) (Nat.ne_of_lt (Nat.lt_of_lt_of_le lt (Nat.le_add_right _ _))) (kp b u (hk b u e))
    have lz : ts.length ≤ sizeLine := by rw [hP.ln]; omega
    have frN : ∀ {T : Addr}, N ≤ T → H1 T = none := fun {T} hT => I1.hok.fresh (by rw [hN]; exact hT)
    refine ⟨rfl, .ref (N + 5), _, laidAll (t' := tk) I1 kk (ts.zip (prs xs ys) ++ [((N + 5 : Nat), .lst (ts.map V.ref))]) (fun p hp => ?_) (fun a o ho => ?_), rfl, q ts (N + 5) ?_ hP.nd ?_ (fun T hT => frN (Nat.le_trans (Nat.le_add_right _ _) (hTN hT))) (frN (Nat.le_add_right _ _))⟩
    · rw [hN]
      rcases List.mem_append.mp hp with hp | hp
      · exact Nat.le_trans (Nat.le_add_right _ _) (hTN (List.of_mem_zip hp).1)
      · rw [List.mem_singleton] at hp
        subst hp
        exact Nat.le_add_right _ _
    · rcases List.mem_append.mp ho with ho | ho
      · obtain ⟨j, hj⟩ := List.mem_iff_getElem?.mp ho
        rw [List.getElem?_zip_eq_some] at hj
        obtain ⟨hj1, hj2⟩ := hj
        dsimp only at hj1 hj2
        obtain ⟨_, x', y', e1, e2, e3⟩ := hPN hj1
        unfold prs at hj2
        rw [List.getElem?_map] at hj2
        cases e4 : (xs.zip ys)[j]? with
        | none => rw [e4] at hj2; cases hj2
        | some pq =>
          rw [e4] at hj2
          cases hj2
          rw [List.getElem?_zip_eq_some] at e4
          obtain ⟨u1, a1, b1⟩ := rv1.get e4.1
          obtain ⟨u2, a2, b2⟩ := rv2.get e4.2
          rw [e1] at a1
          rw [e2] at a2
          cases a1
          cases a2
          exact ⟨by show 2 ≤ sizeLine; decide, [x', y'], .cons b1 (.cons b2 .nil), ⟨_, e3, rfl, _, rfl⟩⟩
      · rw [List.mem_singleton] at ho
        cases ho
        refine ⟨by rw [List.length_map]; exact lz, acc.toList, c, by rw [hP.ac]; exact vals_refs ts, ?_⟩
        rw [Array.toArray_toList]
        exact hL
    · rw [hP.ln, rv1.length, rv2.length]
    · intro hm
      have := hTN hm
      exact absurd this (Nat.not_le_of_lt (Nat.add_lt_add_left (by decide) N))
end Z

/-! Zu: list(zip(a, b)), data. -/
namespace Z
open PySem PySem.Spec PyProof.Rows L2
section
variable {K : PySem.W.Frag} {Y : Fx} {δ : List Sl} {σ : L2.St} {A : Nat → List Addr}
theorem laid_many : ∀ (L : List (Addr × HO)) {F H : Hp}, SR K Y F H δ σ A → (L.map (·.1)).Nodup → (∀ p ∈ L, H p.1 = none) →
    SR K Y (upds F L) (upds H L) δ σ A ∧ Stp A [] F H (upds F L) (upds H L) ∧ (∀ p ∈ L, upds F L p.1 = some p.2)
  | [], F, H, S, _, _ => ⟨S, Stp.refl, fun _ h => nomatch h⟩
  | p :: L, F, H, S, nd, fr => by
    rw [List.map_cons, List.nodup_cons] at nd
    have hp := fr p (List.mem_cons_self ..)
    have S1 : SR K Y (upd F p.1 p.2) (upd H p.1 p.2) δ σ A := S.laid hp
    have st1 : Stp A [] F H (upd F p.1 p.2) (upd H p.1 p.2) := Stp.laid S hp
    have fr1 : ∀ q ∈ L, upd H p.1 p.2 q.1 = none := fun q hq => by
      rw [upd_ne (fun e => nd.1 (List.mem_map.mpr ⟨q, hq, e⟩))]
      exact fr q (List.mem_cons_of_mem _ hq)
    obtain ⟨a, b, c⟩ := laid_many L S1 nd.2 fr1
    refine ⟨a, stp_nil S1 st1 b, fun q hq => ?_⟩
    rcases List.mem_cons.mp hq with rfl | hq
    · rw [upds_cons, upds_out L _ fun r hr e => nd.1 (List.mem_map.mpr ⟨r, hr, e.symm⟩)]
      exact upd_same
    · exact c q hq
end
/-- what is gone through -/
def sqD : D → Option (List D)
  | .list ds => some ds
  | .tuple ds => some ds
  | _ => none
def pairD (p : D × D) : D := .tuple [p.1, p.2]
def zipLD : List D → Option D
  | [d, e] => (sqD d).bind fun a => (sqD e).map fun b => .list ((a.zip b).map pairD)
  | _ => none
theorem sq_of {K : PySem.W.Frag} {Y : Fx} {F H : Hp} {δ : List Sl} {σ : L2.St} {A : Nat → List Addr} {R : List Nat} {v : V} {d : D} {ds : List D} (S : SR K Y F H δ σ A) (r : Vw K F H A R v d) (h : sqD d = some ds) : ∃ xs, Sq K H v xs ∧ Rps K F xs ds := by
  unfold sqD at h
  split at h
  · cases h
    obtain ⟨a, xs, rfl, h1, h2⟩ := r.list S
    exact ⟨xs, ⟨a, rfl, .inl (SqL.of h1)⟩, h2⟩
  · cases h
    obtain ⟨a, xs, rfl, h0, h1, h2⟩ := r.tup S
    exact ⟨xs, ⟨a, rfl, .inr h1⟩, h2⟩
  · cases h
theorem rps_pairs {K : PySem.W.Frag} {F' : Hp} : ∀ {ts : List Addr} {xs ys : List V} {ds es : List D}, Rps K F' xs ds → Rps K F' ys es → ts.length = min xs.length ys.length → (∀ p ∈ ts.zip (prs xs ys), F' p.1 = some p.2) → Rps K F' (ts.map V.ref) ((ds.zip es).map pairD)
  | [], xs, ys, ds, es, r1, r2, hl, _ => by
    have e1 := r1.length
    have e2 := r2.length
    have : (ds.zip es) = [] := by
      apply List.eq_nil_of_length_eq_zero
      rw [List.length_zip]
      simp only [List.length_nil] at hl
      omega
    rw [this]
    exact .nil
  | t :: ts, x :: xs, y :: ys, d :: ds, e :: es, .cons a1 r1, .cons a2 r2, hl, h => by
    have h0 : F' t = some (.tup [x, y]) := h (t, .tup [x, y]) (List.mem_cons_self ..)
    refine .cons (.tup (.inl (.inl h0)) (.cons a1 (.cons a2 .nil))) (rps_pairs r1 r2 (by simp only [List.length_cons] at hl; omega) fun p hp => h p (List.mem_cons_of_mem _ hp))
  | t :: ts, [], ys, ds, es, _, _, hl, _ => by simp at hl
  | t :: ts, x :: xs, [], ds, es, _, _, hl, _ => by simp at hl
theorem nv_lstZip {X : Cx} {e e2 : Expr} {f} {R M : List Nat} {p p2 pos pos2 : Pos} (hc : X.calm = true) (hb : Gl X "list" ∧ X.mg "list" = none) (hz : Gl X "zip" ∧ X.mg "zip" = none) (ha : AV X [e, e2] f R M)
    (hs : starEach [e, e2] X.env = (false, eval e X.env) :: starEach [e2] X.env := by rfl) (hpl : (backTo pos2 (starEach [e2] X.env)).any (·.1) = false := by rfl)
    (hs2 : starEach [.Call (.Name "zip" p2) [e, e2] [] pos2] X.env = (false, eval (.Call (.Name "zip" p2) [e, e2] [] pos2) X.env) :: starEach [] X.env := by rfl) :
    NV X (.Call (.Name "list" p) [.Call (.Name "zip" p2) [e, e2] [] pos2] [] pos) (fA zipLD f) M := by
  obtain ⟨t, pe, q⟩ := ha
  refine ⟨_, pe_lstZip hc hb.1 hb.2 hz.1 hz.2 pe hs hpl hs2, fun Y F H δ σ A S z δ' e0 Q k => ?_⟩
  obtain ⟨ds, e1, e3⟩ := fA_some e0
  unfold zipLD at e3
  split at e3
  · rename_i d e'
    cases e4 : sqD d with
    | none => rw [e4] at e3; cases e3
    | some a =>
    cases e5 : sqD e' with
    | none => rw [e4, e5] at e3; cases e3
    | some b =>
    rw [e4, e5] at e3
    cases e3
    refine q Y F H δ σ A S _ δ' e1 _ fun vs F1 H1 st1 S1 r1 => ?_
    obtain ⟨v, u, rfl, ra, rb⟩ := r1.two
    obtain ⟨xs, hx, r2⟩ := sq_of S1 ra e4
    obtain ⟨ys, hy, r3⟩ := sq_of S1 rb e5
    refine ⟨v, u, xs, ys, rfl, hx, hy, fun ts qa hl nd nq fr fq => ?_⟩
    have hpl : (prs xs ys).length = min xs.length ys.length := by unfold prs; rw [List.length_map, List.length_zip]
    have hmap : (ts.zip (prs xs ys)).map (·.1) = ts := by
      rw [List.map_fst_zip]
      omega
    have fr2 : ∀ p ∈ ts.zip (prs xs ys), H1 p.1 = none := fun p hp => fr _ (List.of_mem_zip hp).1
    obtain ⟨S2, st2, hF⟩ := laid_many (ts.zip (prs xs ys)) S1 (by rw [hmap]; exact nd) fr2
    have fq2 : upds H1 (ts.zip (prs xs ys)) qa = none := by
      rw [upds_out _ _ fun p hp (e : qa = p.1) => nq (by rw [e]; exact (List.of_mem_zip hp).1)]
      exact fq
    have st3 := stp_nil S1 st1 st2
    rw [upds_snoc]
    refine k qa _ _ (stp_nil S2 st3 (Stp.laidO fq2)) (S2.laidO fq2) (back st1 S1 fq) (S2.sub.free fq2) ⟨_, upd_same, ?_⟩
    exact rps_pairs (r2.mono st2.f) (r3.mono st2.f) hl hF
  · cases e3
end Z

/-! Zv: an own dict is locked while a test reads it. -/
namespace Z
open PySem PySem.Spec PyProof.Rows L2
section
variable {X : Cx} {e : Expr} {f : List Sl → Option (D × List Sl)} {M : List Nat}
theorem pt_alt {t u : TT} (h : PT X e t) (g : PT X e u) : PT X e (fun σ H Q => t σ H Q ∨ u σ H Q) :=
  ⟨fun pins s σ H Q I hw => hw.elim (h.run pins s σ H Q I) (g.run pins s σ H Q I)⟩
theorem pt_lock {t : TT} (h : PT X e t) : PT X e (fun σ H Q => ∃ d u, H d = some u ∧ Mut (some u) ∧ ∀ od, t σ (upd H d (.frz od u)) fun b H1 => H1 d = some (.frz od u) ∧ Q b (upd H1 d u)) := by
  refine ⟨fun pins s σ H Q I hw => ?_⟩
  obtain ⟨d, u, hd, mu, hw⟩ := hw
  obtain ⟨od, I1⟩ := I.lock hd mu
  refine thn (h.run pins s σ _ _ I1 (hw od)) fun b s1 ⟨H1, I2, e2, q⟩ => ?_
  exact ⟨_, I2.unlock e2 (I.nofrz hd mu), q⟩
theorem tv_lk (i : Nat) (h : TV X e (fun δ => toB (f δ)) M) (hM : i ∉ M := by decide) : TV X e (fun δ => toB (fLk i f δ)) M := by
  obtain ⟨t, p, q⟩ := h
  refine ⟨_, pt_alt p (pt_lock p), fun Y F H δ σ A S d δ' e0 Q k => ?_⟩
  have e := toB_some e0
  unfold fLk at e
  split at e
  · rename_i ds hd
    obtain ⟨pa, u, hA, hu, mu, w⟩ := S.lock hd
    have hp : pa ∈ A i := by rw [hA]; simp
    refine .inr ⟨pa, u, hu, mu, fun od => ?_⟩
    cases e1 : f (δ.set i (.lk ds)) with
    | none => rw [e1] at e; cases e
    | some w1 =>
      obtain ⟨d1, δ1⟩ := w1
      rw [e1] at e
      simp only [Option.bind_some] at e
      split at e
      · rename_i es he
        cases e
        refine q Y F _ _ σ A (w od) d δ1 (by show toB (f (δ.set i (.lk ds))) = _; rw [e1]; rfl) _ fun F1 H1 st S1 => ?_
        have hz := lk_frz S hp hM st
        exact ⟨hz, k F1 _ (lk_stp S hp hu st) (S1.unlock he hA hz)⟩
      · cases e
  · exact .inl (q Y F H δ σ A S d δ' (by show toB (f δ) = _; rw [e]; rfl) Q k)
end
end Z

/-! Zw: how often an int stands in a list, in a part of a tuple. -/
namespace Z
open PySem PySem.Spec PyProof.Rows L2
def cntD (d e : D) : Option D := match d, e with
  | .list ds, .int k => (intsOf ds).map fun ns => .int (ns.count k : Nat)
  | _, _ => none
theorem cntD_some {d e z : D} (h : cntD d e = some z) : ∃ ds k ns, d = .list ds ∧ e = .int k ∧ intsOf ds = some ns ∧ z = .int (ns.count k : Nat) := by
  unfold cntD at h
  split at h
  · rename_i ds k
    cases e1 : intsOf ds with
    | none => rw [e1] at h; cases h
    | some ns =>
      rw [e1] at h
      cases h
      exact ⟨ds, k, ns, rfl, rfl, e1, rfl⟩
  · cases h
section
variable {X : Cx} {o e : Expr} {fo fe : List Sl → Option (D × List Sl)} {Ro Re Mo Me : List Nat} {apos pos : Pos}
theorem ev_lcnt (ho : EV X o fo Ro Mo) (he : EV X e fe Re Me) (m : Mc X o "count" apos e [] pos) (d1 : ∀ i ∈ Ro, i ∉ Me := by decide) : EV X (.Call (.Attribute o "count" apos) [e] [] pos) (f2 cntD fo fe) [] (Mo ++ Me) := by
  obtain ⟨to, po, qo⟩ := ho
  obtain ⟨te, pe, qe⟩ := he
  refine ⟨_, pe_bm PySem.F.plainAttrs_list PySem.F.slot_list_count PySem.F.type_list_count mt_lcount po (pa_cons pe pa_nil m.star) m.base m.few m.line m.star m.plain, fun Y F H δ σ A S z δ' e0 Q k => ?_⟩
  obtain ⟨d, δ1, c, e1, e2, e3⟩ := f2_some e0
  obtain ⟨ds, n, ns, rfl, rfl, e4, rfl⟩ := cntD_some e3
  have e5 := intsOf_some e4
  subst e5
  refine qo Y F H δ σ A S _ δ1 e1 _ fun x F1 H1 st1 S1 r1 => ?_
  obtain ⟨a, xs, rfl, h1, r⟩ := r1.list S1
  refine ⟨.inl ⟨rfl, xs, SqL.of h1⟩, ?_⟩
  refine qe Y F1 H1 δ1 σ A S1 _ δ' e2 _ fun y F2 H2 st2 S2 r2 => ?_
  obtain ⟨a2, xs2, ea, h2, r'⟩ := (r1.step S1 st2 d1).list S2
  cases ea
  cases r2.int
  have e6 := r'.ints
  subst e6
  exact ⟨a, ns, n, rfl, rfl, SqL.of h2, k _ F2 H2 (st1.trans S1 st2) S2 (.inl (.int _))⟩
end
/-! a part of a tuple, as a tuple of its own -/
def TupX (p : Addr) (xs : List V) : HO := .ext fun h => ∃ its : List Value, Vals xs its ∧ h.get? p = some { cls := .type "tuple", data := .seq its.toArray }
def rSlE (K : PySem.W.Frag) : V → Option Int → Option Int → Hp → VK → Prop := fun x lo hi H Q => ∃ a xs, x = .ref a ∧ SqT K H a xs ∧
  ¬ (HT.sIx xs.length 0 lo = 0 ∧ HT.sIx xs.length xs.length hi = xs.length) ∧ ∀ p, H p = none → Q (.ref p) (upd H p (TupX p (cutV xs lo hi)))
theorem sl_tupE {X : Cx} : SlR X (rSlE X.K) := by
  intro pins s σ H x v vl vu lo hi sl Q I rx hs pl pu h
  obtain ⟨a, xs, rfl, hx, hw, q⟩ := h
  cases rx
  obtain ⟨its, r, ht, hz⟩ := I.tuple hx
  have hn : its.toArray.size = xs.length := by rw [List.size_toArray]; exact r.length.symm
  refine ⟨"tuple", _, PyProof.Rows.slot_tuple_getitem.lookup, ht.typeIs, ?_⟩
  refine HT.getItem_tuple_cut ht hs pl pu (by rw [hn]; exact hw) ?_ (by rw [hn]; exact hz)
  rw [hn]
  refine ⟨.ref s.heap.objs.size, _, I.laid (t' := s.toks) (o := TupX s.heap.objs.size (cutV xs lo hi)) (fun b ob q => Heap.get?_push_of_some _ q) (Nat.le_refl _) ?_, rfl, q _ (I.hok.fresh (Nat.le_refl _))⟩
  have new : (s.heap.push { cls := .type "tuple", data := .seq ((its.toArray.toList.drop (HT.sIx xs.length 0 lo)).take (HT.sIx xs.length xs.length hi - HT.sIx xs.length 0 lo)).toArray }).get? s.heap.objs.size = some { cls := .type "tuple", data := .seq ((its.toArray.toList.drop (HT.sIx xs.length 0 lo)).take (HT.sIx xs.length xs.length hi - HT.sIx xs.length 0 lo)).toArray } := Heap.get?_push_size _ rfl
  exact ⟨⟨_, (r.drop (HT.sIx xs.length 0 lo)).take (HT.sIx xs.length xs.length hi - HT.sIx xs.length 0 lo), new⟩, ⟨_, new⟩, fun h1 h2 ⟨us, q1, q2⟩ k => ⟨us, q1, k _ q2⟩⟩
def tyX (T : String) (x : V) (H : Hp) : Prop := ∃ p φ, x = .ref p ∧ H p = some (.ext φ) ∧ ∀ h : Heap, φ h → ∃ o, h.get? p = some o ∧ o.cls = .type T ∧ o.dict = none
def tBMX (T : String) (r : V → List V → Hp → VK → Prop) (to : TE) (t : TA) : TE := fun σ H Q => to σ H fun x H1 => tyX T x H1 ∧ t σ H1 fun xs H2 => r x xs H2 Q
theorem pe_bmX {X : Cx} {o e : Expr} {es : List Expr} {to : TE} {t : TA} {name : Str} {apos cpos : Pos} {T id : String} {r : V → List V → Hp → VK → Prop} (pa : PlainAttrs T) (slot : Slot T name id) (hty : typeOf (.builtin id) = pure (.type "method_descriptor")) (hm : MtR X id r) (ho : PE X o to) (ha : PA X (e :: es) t) (m : Mc X o name apos e es cpos) :
    PE X (.Call (.Attribute o name apos) (e :: es) [] cpos) (tBMX T r to t) := by
  refine ⟨fun pins s σ H Q I h => ?_⟩
  have hs := m.star
  refine wpAny_Call_method_late m.base m.few m.line rfl (thn (ho.run pins s σ H _ I h) fun v s1 ⟨x, H1, I1, r1, ty, q1⟩ => ?_)
  obtain ⟨p, φ, rfl, hp, hφ⟩ := ty
  cases r1
  obtain ⟨ob, g1, g2, g3⟩ := hφ _ (show φ s1.heap from (I1.hok p _ hp).1)
  refine ⟨T, id, pa, slot, hty, ⟨ob, g1, g2⟩, fun a ea => by cases ea; exact ⟨ob, g1, g3⟩, ?_⟩
  have hA := ha.run cpos pins s1 σ H1 _ I1 q1
  rw [hs] at hA ⊢
  refine Calls.callWith_builtin (by show (false || (backTo cpos (starEach es X.env)).any (·.1)) = false; rw [m.plain] <;> rfl) (Calls.evalArgs_plain ?_)
  exact thn hA fun us s2 ⟨vs, H2, I2, r2, q2⟩ => hm pins s2 σ H2 (.ref p) vs (.ref p) us Q I2 rfl r2 q2
def rCntT : V → List V → Hp → VK → Prop := fun x xs H Q => ∃ (p : Addr) (ns : List Int) (k : Int), x = .ref p ∧ xs = [.int k] ∧ H p = some (TupX p (ns.map V.int)) ∧ Q (.int (ns.count k : Nat)) H
theorem mt_tcount {X : Cx} : MtR X "tuple.count" rCntT := by
  intro pins s σ H x xs v us Q I rx rxs h
  obtain ⟨p, ns, k, rfl, rfl, hs, q⟩ := h
  cases rx
  obtain ⟨u, rfl, ru⟩ := rxs.one
  obtain ⟨t, rfl⟩ := ru
  obtain ⟨its, rv, ho⟩ := (show ∃ its : List Value, Vals (ns.map V.int) its ∧ s.heap.get? p = some { cls := .type "tuple", data := .seq its.toArray } from (I.hok p _ hs).1)
  have hi := ints_of_vals rv
  refine call_meets PySem.F.slot_tuple_count ⟨_, ho, rfl⟩ PySem.F.entry_tuple_count (PySem.F.args_tuple_count_2 _ _)
    (SeqAt.tuple_countAt p its.toArray 0 none #[] (.int k t) (eqk k)) ⟨ho, fun y hy => (eqk_gives hi y (by simpa using hy)).at _ _, ?_⟩
  have ec : its.toArray.toList.countP (eqk k) = ns.count k := eqk_count hi
  refine ⟨.int (ns.count k : Nat), H, I.tok _, ⟨s.toks, ?_⟩, q⟩
  show Value.int ((its.toArray.toList.countP (eqk k) : Nat) : Int) s.toks = Value.int ((ns.count k : Nat) : Int) s.toks
  rw [ec]
def scntD (c : Int) (d : D) (lo hi : Option Int) : Option D := match d with
  | .tuple ds => if HT.sIx ds.length 0 lo = 0 ∧ HT.sIx ds.length ds.length hi = ds.length then none else (intsOf (cutL ds lo hi)).map fun ns => .int (ns.count c : Nat)
  | _ => none
section
variable {X : Cx} {a : Expr} {lo hi : Option Expr} {fa : List Sl → Option (D × List Sl)} {fl fh : List Sl → Option (Option Int × List Sl)} {R M Ml Mh : List Nat} {apos pos p1 p2 p3 : Pos} {c : Int} {kk : Nat}
theorem ev_tcnt (ha : EV X a fa R M) (hl : OV X lo fl Ml) (hh : OV X hi fh Mh) (m : Mc X (.Subscript a (.Slice lo hi none p2) p1) "count" apos (.Constant (.int c) kk p3) [] pos) (d1 : ∀ i ∈ R, i ∉ Ml := by decide) (d2 : ∀ i ∈ R, i ∉ Mh := by decide) :
    EV X (.Call (.Attribute (.Subscript a (.Slice lo hi none p2) p1) "count" apos) [.Constant (.int c) kk p3] [] pos) (f3 (scntD c) fa fl fh) [] (M ++ Ml ++ Mh) := by
  obtain ⟨t, p, q⟩ := ha
  obtain ⟨tl, pl, ql⟩ := hl
  obtain ⟨th, ph, qh⟩ := hh
  refine ⟨_, pe_bmX PySem.F.plainAttrs_tuple PySem.F.slot_tuple_count PySem.F.type_tuple_count mt_tcount (pe_slice sl_tupE p pl ph) (pa_cons pe_int pa_nil m.star) m, fun Y F H δ σ A S z δ' e Q k => ?_⟩
  obtain ⟨d, δ1, l, δ2, h, e1, e2, e3, e4⟩ := f3_some e
  refine q Y F H δ σ A S d δ1 e1 _ fun x F1 H1 st1 S1 r1 => ?_
  refine ql Y F1 H1 δ1 σ A S1 l δ2 e2 _ fun F2 H2 st2 S2 => ?_
  refine qh Y F2 H2 δ2 σ A S2 h δ' e3 _ fun F3 H3 st3 S3 => ?_
  have st : Stp A (M ++ Ml ++ Mh) F H F3 H3 := (st1.trans S1 st2).trans S2 st3
  have r3 : Vw X.K F3 H3 A R x d := (r1.step S1 st2 d1).step S2 st3 d2
  unfold scntD at e4
  split at e4
  · rename_i ds
    split at e4
    · cases e4
    · rename_i hw
      cases e5 : intsOf (cutL ds l h) with
      | none => rw [e5] at e4; cases e4
      | some ns =>
        rw [e5] at e4
        cases e4
        obtain ⟨a', xs, rfl, h0, h1, r⟩ := r3.tup S3
        refine ⟨a', xs, rfl, h1, by rw [r.length]; exact hw, fun p hp => ?_⟩
        have e6 := intsOf_some e5
        have r4 := r.cut l h
        rw [e6] at r4
        have e7 := r4.ints
        rw [e7]
        refine ⟨⟨p, _, rfl, upd_same, fun h ⟨its, _, g⟩ => ⟨_, g, rfl, rfl⟩⟩, ?_⟩
        exact ⟨p, ns, c, rfl, rfl, upd_same, k _ F3 _ (stp_nil S3 st (Stp.laidO hp)) (S3.laidO hp) (.inl (.int _))⟩
  · cases e4
end
/-! how many keys a dict has -/
def lenKD : D → Option D
  | .dict ds => some (.int ds.length)
  | _ => none
def rLenK : List V → Hp → VK → Prop := fun xs H Q => ∃ a kvs, xs = [V.ref a] ∧ Rd H a (.dK kvs) ∧ Q (.int kvs.length) H
theorem cr_lenK {X : Cx} : CallR X (.builtin "len") rLenK := by
  intro pins s σ H xs us Q I r h
  obtain ⟨a, kvs, rfl, ha, q⟩ := h
  obtain ⟨u, rfl, ru⟩ := vals1 r
  cases ru
  exact d_len I ha fun t s' I' => ⟨.int kvs.length, H, I', ⟨t, rfl⟩, q⟩
theorem cs_lenK {X : Cx} : CallS X rLenK (g1 lenKD) := by
  intro Y F H δ σ A R xs ds z S r hg Q k
  obtain ⟨d, rfl, hg'⟩ := g1_some hg
  clear hg
  obtain ⟨v, rfl, rv⟩ := r.one
  unfold lenKD at hg'
  split at hg'
  · cases hg'
    obtain ⟨a, o, kvs, rfl, h1, h2⟩ := rv.dict S
    refine ⟨a, kvs, rfl, .inr ⟨o, h1⟩, ?_⟩
    rw [h2.length]
    exact k _ F H Stp.refl S (.int _)
  · cases hg'
end Z

/-! N0: natives: what a meaning does on data of known types, as a plain function. -/
namespace Z
open PySem PySem.Spec PyProof.Rows L2
/-! ### encoders -/
def eLi {α : Type} (e : α → D) (xs : List α) : D := .list (xs.map e)
def eTu {α : Type} (e : α → D) (xs : List α) : D := .tuple (xs.map e)
def eP1 {α : Type} (a : α → D) (p : α) : D := .tuple [a p]
def eP2 {α β : Type} (a : α → D) (b : β → D) (p : α × β) : D := .tuple [a p.1, b p.2]
def eP3 {α β γ : Type} (a : α → D) (b : β → D) (c : γ → D) (p : α × β × γ) : D := .tuple [a p.1, b p.2.1, c p.2.2]
def eP4 {α β γ κ : Type} (a : α → D) (b : β → D) (c : γ → D) (d : κ → D) (p : α × β × γ × κ) : D := .tuple [a p.1, b p.2.1, c p.2.2.1, d p.2.2.2]
def eP5 {α β γ κ μ : Type} (a : α → D) (b : β → D) (c : γ → D) (d : κ → D) (e : μ → D) (p : α × β × γ × κ × μ) : D := .tuple [a p.1, b p.2.1, c p.2.2.1, d p.2.2.2.1, e p.2.2.2.2]
def eP6 {α β γ κ μ ν : Type} (a : α → D) (b : β → D) (c : γ → D) (d : κ → D) (e : μ → D) (f : ν → D) (p : α × β × γ × κ × μ × ν) : D := .tuple [a p.1, b p.2.1, c p.2.2.1, d p.2.2.2.1, e p.2.2.2.2.1, f p.2.2.2.2.2]
def eP7 {α β γ κ μ ν ξ : Type} (a : α → D) (b : β → D) (c : γ → D) (d : κ → D) (e : μ → D) (f : ν → D) (g : ξ → D) (p : α × β × γ × κ × μ × ν × ξ) : D := .tuple [a p.1, b p.2.1, c p.2.2.1, d p.2.2.2.1, e p.2.2.2.2.1, f p.2.2.2.2.2.1, g p.2.2.2.2.2.2]
def eDi {α β : Type} (a : α → D) (b : β → D) (xs : List (α × β)) : D := .dict (xs.map fun p => (a p.1, b p.2))
def eD (d : D) : D := d
def eU (_ : Unit) : D := .none
structure Dk where
  cs : List Int
  m : Int
  n : Int
def sDk (k : Dk) : Sl := .dk k.cs k.m k.n
def letC {α β : Type} (v : α) (k : α → Option β) : Option β := k v

abbrev Fe := List Sl → Option (D × List Sl)
abbrev Fb := List Sl → Option (Bool × List Sl)
abbrev Fs := List Sl → Option (List D × List Sl)
abbrev Fk := List Sl → Option (List Ar × List Sl)
abbrev Fo := List Sl → Option (Option Int × List Sl)
/-! ### judgements -/
def VP (f : Fe) (δ : List Sl) (d : D) : Prop := f δ = some (d, δ)
def VN {α : Type} (f : Fe) (δ : List Sl) (o : Option α) (r : α → D × List Sl) : Prop := ∀ a, o = some a → f δ = some (r a)
def AP (f : Fs) (δ : List Sl) (d : List D) : Prop := f δ = some (d, δ)
def AN {α : Type} (f : Fs) (δ : List Sl) (o : Option α) (r : α → List D × List Sl) : Prop := ∀ a, o = some a → f δ = some (r a)
def TP (f : Fb) (δ : List Sl) (b : Bool) : Prop := f δ = some (b, δ)
def TN {α : Type} (f : Fb) (δ : List Sl) (o : Option α) (r : α → Bool × List Sl) : Prop := ∀ a, o = some a → f δ = some (r a)
def KP (f : Fk) (δ : List Sl) (d : List Ar) : Prop := f δ = some (d, δ)
def KN {α : Type} (f : Fk) (δ : List Sl) (o : Option α) (r : α → List Ar × List Sl) : Prop := ∀ a, o = some a → f δ = some (r a)
def OP (f : Fo) (δ : List Sl) (d : Option Int) : Prop := f δ = some (d, δ)
def ON {α : Type} (f : Fo) (δ : List Sl) (o : Option α) (r : α → Option Int × List Sl) : Prop := ∀ a, o = some a → f δ = some (r a)

theorem bsome {α β : Type} {o : Option α} {k : α → Option β} {b : β} (h : o.bind k = some b) : ∃ a, o = some a ∧ k a = some b := by
  cases o with
  | none => cases h
  | some a => exact ⟨a, rfl, h⟩
theorem msome {α β : Type} {o : Option α} {k : α → β} {b : β} (h : o.map k = some b) : ∃ a, o = some a ∧ k a = b := by
  cases o with
  | none => cases h
  | some a => exact ⟨a, rfl, by simpa using h⟩
section
variable {α β γ : Type} {δ δ1 : List Sl} {d a b c z : D} {fa fb fc f : Fe} {o : Option α} {r : α → D × List Sl}
/-! ### names, constants -/
theorem vp_con : VP (fCon d) δ d := rfl
theorem vp_var (i : Nat) (h : δ[i]? = some (.fz d) := by rfl) : VP (fVar i) δ d := by
  unfold VP fVar
  rw [h]
theorem vp_rd (i : Nat) {ds : List D} (h : δ[i]? = some (.ow (.list ds)) := by rfl) : VP (fRd i) δ (.list ds) := by
  unfold VP fRd
  rw [h]
theorem vp_rdk (i : Nat) {ds : List (D × D)} (h : δ[i]? = some (.lk ds) := by rfl) : VP (fRd i) δ (.dict ds) := by
  unfold VP fRd
  rw [h]
theorem vp_rdf (i : Nat) (h : δ[i]? = some (.fz d) := by rfl) : VP (fRd i) δ d := by
  unfold VP fRd
  rw [h]
theorem vp_co (h : VP f δ a) (e : a = b) : VP f δ b := e ▸ h
theorem vn_co {r' : α → D × List Sl} (h : VN f δ o r) (e : ∀ x, r x = r' x) : VN f δ o r' := fun x hx => (h x hx).trans (by rw [e])
theorem vn_map {m : α → β} {r' : β → D × List Sl} (h : VN f δ o r) (e : ∀ x, r x = r' (m x)) : VN f δ (o.map m) r' := fun y hy => by
  obtain ⟨x, hx, rfl⟩ := msome hy
  exact (h x hx).trans (by rw [e])
theorem vn_of (h : VP f δ a) {v : β} {r' : β → D × List Sl} (e : (a, δ) = r' v) : VN f δ (some v) r' := fun y hy => by
  cases hy
  exact (show f δ = some (a, δ) from h).trans (by rw [e])
/-- a coercion that may fail -/
theorem vn_coq {q : α → Option β} {e : α → β → D} {S : α → List Sl} (h : VN f δ o r) (hr : ∀ x v, q x = some v → r x = (e x v, S x)) : VN f δ (o.bind fun x => (q x).map fun v => (x, v)) (fun p => (e p.1 p.2, S p.1)) := fun p hp => by
  obtain ⟨x, hx, hp⟩ := bsome hp
  obtain ⟨v, hv, rfl⟩ := msome hp
  exact (h x hx).trans (by rw [hr x v hv])
theorem vp_coq {q : Option β} {e : β → D} (h : VP f δ a) (hr : ∀ v, q = some v → a = e v) : VN f δ q (fun v => (e v, δ)) := fun v hv => by
  have := hr v hv
  subst this
  exact h
/-! ### several -/
theorem ap_nil : AP aNil δ [] := rfl
variable {fr : Fs} {ds : List D}
theorem ap_cons (ha : VP fa δ a) (hr : AP fr δ ds) : AP (aCons fa fr) δ (a :: ds) := by
  unfold AP aCons
  rw [show fa δ = some (a, δ) from ha, Option.bind_some, show fr δ = some (ds, δ) from hr]
  rfl
theorem an_pn {r : α → List D × List Sl} (ha : VP fa δ a) (hr : AN fr δ o r) : AN (aCons fa fr) δ o (fun x => (a :: (r x).1, (r x).2)) := fun x hx => by
  unfold aCons
  rw [show fa δ = some (a, δ) from ha, Option.bind_some, hr x hx]
  rfl
theorem an_np {ds : α → List D} (ha : VN fa δ o r) (hr : ∀ x, AP fr (r x).2 (ds x)) : AN (aCons fa fr) δ o (fun x => ((r x).1 :: ds x, (r x).2)) := fun x hx => by
  unfold aCons
  rw [ha x hx, Option.bind_some, show fr (r x).2 = some (ds x, (r x).2) from hr x]
  rfl
theorem an_nn {o' : α → Option β} {r' : α → β → List D × List Sl} (ha : VN fa δ o r) (hr : ∀ x, AN fr (r x).2 (o' x) (r' x)) : AN (aCons fa fr) δ (o.bind fun x => (o' x).map fun y => (x, y)) (fun p => ((r p.1).1 :: (r' p.1 p.2).1, (r' p.1 p.2).2)) := fun p hp => by
  obtain ⟨x, hx, hp⟩ := bsome hp
  obtain ⟨y, hy, rfl⟩ := msome hp
  unfold aCons
  rw [ha x hx, Option.bind_some, hr x y hy]
  rfl
/-! ### operations -/
variable {g : D → D → Option D}
theorem vp_2 (ha : VP fa δ a) (hb : VP fb δ b) (hz : g a b = some z) : VP (f2 g fa fb) δ z := by
  unfold VP f2
  rw [show fa δ = some (a, δ) from ha, Option.bind_some, show fb δ = some (b, δ) from hb, Option.bind_some, hz]
  rfl
theorem vp_2q {q : Option β} {e : β → D} (ha : VP fa δ a) (hb : VP fb δ b) (hz : ∀ v, q = some v → g a b = some (e v)) : VN (f2 g fa fb) δ q (fun v => (e v, δ)) := fun v hv => by
  unfold f2
  rw [show fa δ = some (a, δ) from ha, Option.bind_some, show fb δ = some (b, δ) from hb, Option.bind_some, hz v hv]
  rfl
theorem f2_A : f2 g fa fb δ = fA (g2 g) (aCons fa (aCons fb aNil)) δ := by
  unfold f2 fA aCons aNil
  cases fa δ with
  | none => rfl
  | some p =>
    simp only [Option.bind_some]
    cases fb p.2 with
    | none => rfl
    | some q => rfl
variable {G : List D → Option D}
theorem vp_A (h : AP fr δ ds) (hz : G ds = some z) : VP (fA G fr) δ z := by
  unfold VP fA
  rw [show fr δ = some (ds, δ) from h, Option.bind_some, hz]
  rfl
theorem vp_Aq {q : Option β} {e : β → D} (h : AP fr δ ds) (hz : ∀ v, q = some v → G ds = some (e v)) : VN (fA G fr) δ q (fun v => (e v, δ)) := fun v hv => by
  unfold fA
  rw [show fr δ = some (ds, δ) from h, Option.bind_some, hz v hv]
  rfl
theorem vn_A {r : α → List D × List Sl} {z : α → D} (h : AN fr δ o r) (hz : ∀ x, G (r x).1 = some (z x)) : VN (fA G fr) δ o (fun x => (z x, (r x).2)) := fun x hx => by
  unfold fA
  rw [h x hx, Option.bind_some, hz x]
  rfl
theorem vn_Aq {r : α → List D × List Sl} {q : α → Option β} {e : α → β → D} (h : AN fr δ o r) (hz : ∀ x v, q x = some v → G (r x).1 = some (e x v)) : VN (fA G fr) δ (o.bind fun x => (q x).map fun v => (x, v)) (fun p => (e p.1 p.2, (r p.1).2)) := fun p hp => by
  obtain ⟨x, hx, hp⟩ := bsome hp
  obtain ⟨v, hv, rfl⟩ := msome hp
  unfold fA
  rw [h x hx, Option.bind_some, hz x v hv]
  rfl
theorem vn_2 {r : α → List D × List Sl} {z : α → D} (h : AN (aCons fa (aCons fb aNil)) δ o r) (hz : ∀ x, g2 g (r x).1 = some (z x)) : VN (f2 g fa fb) δ o (fun x => (z x, (r x).2)) := fun x hx => f2_A.trans (vn_A h hz x hx)
theorem vn_2q {r : α → List D × List Sl} {q : α → Option β} {e : α → β → D} (h : AN (aCons fa (aCons fb aNil)) δ o r) (hz : ∀ x v, q x = some v → g2 g (r x).1 = some (e x v)) : VN (f2 g fa fb) δ (o.bind fun x => (q x).map fun v => (x, v)) (fun p => (e p.1 p.2, (r p.1).2)) := fun x hx => f2_A.trans (vn_Aq h hz x hx)
variable {u : D → Option D}
theorem vp_1 (ha : VP fa δ a) (hz : u a = some z) : VP (f1 u fa) δ z := by
  unfold VP f1
  rw [show fa δ = some (a, δ) from ha, Option.bind_some, hz]
  rfl
theorem vp_1q {q : Option β} {e : β → D} (ha : VP fa δ a) (hz : ∀ v, q = some v → u a = some (e v)) : VN (f1 u fa) δ q (fun v => (e v, δ)) := fun v hv => by
  unfold f1
  rw [show fa δ = some (a, δ) from ha, Option.bind_some, hz v hv]
  rfl
theorem vn_1 {z : α → D} (ha : VN fa δ o r) (hz : ∀ x, u (r x).1 = some (z x)) : VN (f1 u fa) δ o (fun x => (z x, (r x).2)) := fun x hx => by
  unfold f1
  rw [ha x hx, Option.bind_some, hz x]
  rfl
theorem vn_1q {q : α → Option β} {e : α → β → D} (ha : VN fa δ o r) (hz : ∀ x v, q x = some v → u (r x).1 = some (e x v)) : VN (f1 u fa) δ (o.bind fun x => (q x).map fun v => (x, v)) (fun p => (e p.1 p.2, (r p.1).2)) := fun p hp => by
  obtain ⟨x, hx, hp⟩ := bsome hp
  obtain ⟨v, hv, rfl⟩ := msome hp
  unfold f1
  rw [ha x hx, Option.bind_some, hz x v hv]
  rfl
/-! displays -/
theorem vp_tup (h : AP fr δ ds) (hl : decide (ds.length ≤ 1000) = true := by rfl) : VP (fTup fr) δ (.tuple ds) := by
  unfold VP fTup
  rw [show fr δ = some (ds, δ) from h, Option.bind_some]
  exact if_pos (Nat.le_trans (of_decide_eq_true hl) (by rw [sizeLine_eq]; omega))
theorem vn_tup {r : α → List D × List Sl} (h : AN fr δ o r) (hl : ∀ x, decide ((r x).1.length ≤ 1000) = true := by intro _; rfl) : VN (fTup fr) δ o (fun x => (.tuple (r x).1, (r x).2)) := fun x hx => by
  unfold fTup
  rw [h x hx, Option.bind_some]
  exact if_pos (Nat.le_trans (of_decide_eq_true (hl x)) (by rw [sizeLine_eq]; omega))
theorem vp_lst (h : AP fr δ ds) (hl : decide (ds.length ≤ 1000) = true := by rfl) : VP (fLst fr) δ (.list ds) := by
  unfold VP fLst
  rw [show fr δ = some (ds, δ) from h, Option.bind_some]
  exact if_pos (Nat.le_trans (of_decide_eq_true hl) (by rw [sizeLine_eq]; omega))
theorem vn_lst {r : α → List D × List Sl} (h : AN fr δ o r) (hl : ∀ x, decide ((r x).1.length ≤ 1000) = true := by intro _; rfl) : VN (fLst fr) δ o (fun x => (.list (r x).1, (r x).2)) := fun x hx => by
  unfold fLst
  rw [h x hx, Option.bind_some]
  exact if_pos (Nat.le_trans (of_decide_eq_true (hl x)) (by rw [sizeLine_eq]; omega))
/-! ### tests -/
theorem tp_v {b : Bool} (h : VP f δ (.bool b)) : TP (fun δ => toB (f δ)) δ b := by
  unfold TP
  show toB (f δ) = _
  rw [show f δ = some (.bool b, δ) from h]
  rfl
theorem tn_v {b : α → Bool} (h : VN f δ o r) (hb : ∀ x, (r x).1 = .bool (b x)) : TN (fun δ => toB (f δ)) δ o (fun x => (b x, (r x).2)) := fun x hx => by
  show toB (f δ) = _
  rw [h x hx, show r x = (.bool (b x), (r x).2) from by rw [← hb x]]
  rfl
variable {ga gb : Fb} {s t : Bool}
theorem tp_not (h : TP ga δ s) : TP (gNot ga) δ (!s) := by
  unfold TP gNot
  rw [show ga δ = some (s, δ) from h]
  rfl
theorem tn_not {r : α → Bool × List Sl} (h : TN ga δ o r) : TN (gNot ga) δ o (fun x => (!(r x).1, (r x).2)) := fun x hx => by
  unfold gNot
  rw [h x hx]
  rfl
theorem tp_and (h : TP ga δ s) (k : TP gb δ t) : TP (gAnd ga gb) δ (s && t) := by
  unfold TP gAnd
  rw [show ga δ = some (s, δ) from h]
  cases s
  · rfl
  · exact k
theorem tp_or (h : TP ga δ s) (k : TP gb δ t) : TP (gOr ga gb) δ (s || t) := by
  unfold TP gOr
  rw [show ga δ = some (s, δ) from h]
  cases s
  · exact k
  · rfl
theorem tn_map {m : α → β} {r : α → Bool × List Sl} {r' : β → Bool × List Sl} (h : TN ga δ o r) (e : ∀ x, r x = r' (m x)) : TN ga δ (o.map m) r' := fun y hy => by
  obtain ⟨x, hx, rfl⟩ := msome hy
  exact (h x hx).trans (by rw [e])
theorem tn_co {r r' : α → Bool × List Sl} (h : TN ga δ o r) (e : ∀ x, r x = r' x) : TN ga δ o r' := fun x hx => (h x hx).trans (by rw [e])
/-- s and (what may fail): f tells what it is where s is False -/
theorem tn_andP {o : Option β} {r : β → Bool × List Sl} {v : β} (h : TP ga δ s) (k : TN gb δ o r) (hv : r v = (false, δ)) : TN (gAnd ga gb) δ (if s then o else some v) r := fun x hx => by
  unfold gAnd
  rw [show ga δ = some (s, δ) from h]
  cases s
  · cases hx; exact congrArg some hv.symm
  · exact k x hx
theorem tn_orP {o : Option β} {r : β → Bool × List Sl} {v : β} (h : TP ga δ s) (k : TN gb δ o r) (hv : r v = (true, δ)) : TN (gOr ga gb) δ (if s then some v else o) r := fun x hx => by
  unfold gOr
  rw [show ga δ = some (s, δ) from h]
  cases s
  · exact k x hx
  · cases hx; exact congrArg some hv.symm
theorem tn_andN {r : α → Bool × List Sl} {o' : α → Option β} {r' : β → Bool × List Sl} {b : α → Bool} {v : α → β} (h : TN ga δ o r) (hb : ∀ x, (r x).1 = b x) (k : ∀ x, TN gb (r x).2 (o' x) r') (hv : ∀ x, r' (v x) = (false, (r x).2)) : TN (gAnd ga gb) δ (o.bind fun x => if b x then o' x else some (v x)) r' := fun y hy => by
  obtain ⟨x, hx, hy⟩ := bsome hy
  unfold gAnd
  rw [h x hx, Option.bind_some, hb x]
  cases e : b x with
  | false => rw [e] at hy; cases hy; exact congrArg some (hv x).symm
  | true => rw [e] at hy; exact k x y hy
theorem tn_orN {r : α → Bool × List Sl} {o' : α → Option β} {r' : β → Bool × List Sl} {b : α → Bool} {v : α → β} (h : TN ga δ o r) (hb : ∀ x, (r x).1 = b x) (k : ∀ x, TN gb (r x).2 (o' x) r') (hv : ∀ x, r' (v x) = (true, (r x).2)) : TN (gOr ga gb) δ (o.bind fun x => if b x then some (v x) else o' x) r' := fun y hy => by
  obtain ⟨x, hx, hy⟩ := bsome hy
  unfold gOr
  rw [h x hx, Option.bind_some, hb x]
  cases e : b x with
  | true => rw [e] at hy; cases hy; exact congrArg some (hv x).symm
  | false => rw [e] at hy; exact k x y hy
/-! .. as values -/
theorem vp_and (h : VP fa δ (.bool s)) (k : VP fb δ (.bool t)) : VP (fAnd fa fb) δ (.bool (s && t)) := by
  unfold VP fAnd
  rw [show fa δ = some (.bool s, δ) from h]
  cases s
  · rfl
  · exact k
theorem vp_or (h : VP fa δ (.bool s)) (k : VP fb δ (.bool t)) : VP (fOr fa fb) δ (.bool (s || t)) := by
  unfold VP fOr
  rw [show fa δ = some (.bool s, δ) from h]
  cases s
  · exact k
  · rfl
theorem vp_not (h : VP fa δ (.bool s)) : VP (fNot fa) δ (.bool (!s)) := by
  unfold VP fNot
  rw [show fa δ = some (.bool s, δ) from h]
  rfl
theorem vn_not {b : α → Bool} (h : VN fa δ o r) (hb : ∀ x, (r x).1 = .bool (b x)) : VN (fNot fa) δ o (fun x => (.bool (!(b x)), (r x).2)) := fun x hx => by
  unfold fNot
  rw [h x hx, show r x = (.bool (b x), (r x).2) from by rw [← hb x]]
  rfl
theorem vn_andP {o : Option β} {r : β → D × List Sl} {v : β} (h : VP fa δ (.bool s)) (k : VN fb δ o r) (hv : r v = (.bool false, δ)) : VN (fAnd fa fb) δ (if s then o else some v) r := fun x hx => by
  unfold fAnd
  rw [show fa δ = some (.bool s, δ) from h]
  cases s
  · cases hx; exact congrArg some hv.symm
  · exact k x hx
theorem vn_orP {o : Option β} {r : β → D × List Sl} {v : β} (h : VP fa δ (.bool s)) (k : VN fb δ o r) (hv : r v = (.bool true, δ)) : VN (fOr fa fb) δ (if s then some v else o) r := fun x hx => by
  unfold fOr
  rw [show fa δ = some (.bool s, δ) from h]
  cases s
  · exact k x hx
  · cases hx; exact congrArg some hv.symm
theorem vn_andN {o' : α → Option β} {r' : β → D × List Sl} {b : α → Bool} {v : α → β} (h : VN fa δ o r) (hb : ∀ x, (r x).1 = .bool (b x)) (k : ∀ x, VN fb (r x).2 (o' x) r') (hv : ∀ x, r' (v x) = (.bool false, (r x).2)) : VN (fAnd fa fb) δ (o.bind fun x => if b x then o' x else some (v x)) r' := fun y hy => by
  obtain ⟨x, hx, hy⟩ := bsome hy
  unfold fAnd
  rw [h x hx, show r x = (.bool (b x), (r x).2) from by rw [← hb x]]
  cases e : b x with
  | false => rw [e] at hy; cases hy; exact congrArg some (hv x).symm
  | true => rw [e] at hy; exact k x y hy
theorem vn_orN {o' : α → Option β} {r' : β → D × List Sl} {b : α → Bool} {v : α → β} (h : VN fa δ o r) (hb : ∀ x, (r x).1 = .bool (b x)) (k : ∀ x, VN fb (r x).2 (o' x) r') (hv : ∀ x, r' (v x) = (.bool true, (r x).2)) : VN (fOr fa fb) δ (o.bind fun x => if b x then some (v x) else o' x) r' := fun y hy => by
  obtain ⟨x, hx, hy⟩ := bsome hy
  unfold fOr
  rw [h x hx, show r x = (.bool (b x), (r x).2) from by rw [← hb x]]
  cases e : b x with
  | true => rw [e] at hy; cases hy; exact congrArg some (hv x).symm
  | false => rw [e] at hy; exact k x y hy
theorem vp_ite {e : β → D} {x y : β} (hc : TP ga δ s) (ha : VP fa δ (e x)) (hb : VP fb δ (e y)) : VP (fIte ga fa fb) δ (e (if s then x else y)) := by
  unfold VP fIte
  rw [show ga δ = some (s, δ) from hc]
  cases s
  · exact hb
  · exact ha
theorem vn_ite {oa ob : Option β} {r : β → D × List Sl} (hc : TP ga δ s) (ha : VN fa δ oa r) (hb : VN fb δ ob r) : VN (fIte ga fa fb) δ (if s then oa else ob) r := fun x hx => by
  unfold fIte
  rw [show ga δ = some (s, δ) from hc]
  cases s
  · exact hb x hx
  · exact ha x hx
theorem vn_iteN {r : α → Bool × List Sl} {oa ob : α → Option β} {r' : β → D × List Sl} {b : α → Bool} (hc : TN ga δ o r) (hb : ∀ x, (r x).1 = b x) (ha : ∀ x, VN fa (r x).2 (oa x) r') (hb2 : ∀ x, VN fb (r x).2 (ob x) r') : VN (fIte ga fa fb) δ (o.bind fun x => if b x then oa x else ob x) r' := fun y hy => by
  obtain ⟨x, hx, hy⟩ := bsome hy
  unfold fIte
  rw [hc x hx, Option.bind_some, hb x]
  cases e : b x with
  | false => rw [e] at hy; exact hb2 x y hy
  | true => rw [e] at hy; exact ha x y hy
/-! ### a op b op c -/
variable {h1 h2 : D → D → Option D}
theorem vp_chain (ha : VP fa δ a) (hb : VP fb δ b) (hc : VP fc δ c) (e1 : h1 a b = some (.bool s)) (e2 : h2 b c = some (.bool t)) : VP (fChain h1 h2 fa fb fc) δ (.bool (s && t)) := by
  unfold VP fChain
  rw [show fa δ = some (a, δ) from ha, Option.bind_some, show fb δ = some (b, δ) from hb, Option.bind_some, e1, Option.bind_some]
  cases s
  · rfl
  · show (fc δ).bind _ = _
    rw [show fc δ = some (c, δ) from hc, Option.bind_some, e2]
    rfl
theorem vn_chain {r : α → List D × List Sl} {a b c : α → D} {s t : α → Bool} (h : AN (aCons fa (aCons fb aNil)) δ o r) (hr : ∀ x, (r x).1 = [a x, b x]) (hc : ∀ x, VP fc (r x).2 (c x)) (e1 : ∀ x, h1 (a x) (b x) = some (.bool (s x))) (e2 : ∀ x, h2 (b x) (c x) = some (.bool (t x))) : VN (fChain h1 h2 fa fb fc) δ o (fun x => (.bool (s x && t x), (r x).2)) := fun x hx => by
  have q := h x hx
  unfold aCons at q
  obtain ⟨p, e3, q⟩ := bsome q
  obtain ⟨p2, e4, q⟩ := msome q
  unfold aNil at e4
  obtain ⟨p3, e5, e6⟩ := bsome e4
  obtain ⟨p4, e7, e8⟩ := msome e6
  cases e7
  subst e8
  have e9 : r x = (p.1 :: [p3.1], p3.2) := q.symm
  have e10 := hr x
  rw [e9] at e10
  have e11 : p.1 = a x := (List.cons.inj e10).1
  have e12 : p3.1 = b x := (List.cons.inj (List.cons.inj e10).2).1
  have hc' := hc x
  rw [e9] at hc'
  have e13 : (r x).2 = p3.2 := by rw [e9]
  unfold fChain
  rw [e3, Option.bind_some, e5, Option.bind_some, e11, e12, e1 x, Option.bind_some]
  show _ = some (PyData.bool (s x && t x), (r x).2)
  rw [e13]
  cases s x
  · rfl
  · show (fc p3.2).bind _ = _
    rw [show fc p3.2 = some (c x, p3.2) from hc', Option.bind_some, e2 x]
    rfl
end
end Z

/-! N1: calls, what is walked, comprehensions. -/
namespace Z
open PySem PySem.Spec PyProof.Rows L2
section
variable {α β γ : Type} {δ δ1 : List Sl} {d a b c z : D} {fa fb fc f : Fe} {o : Option α} {r : α → D × List Sl}
/-! ### arguments -/
variable {fk : Fk} {as : List Ar}
theorem kp_nil : KP kNil δ [] := rfl
theorem kp_cons (ha : VP fa δ a) (hr : KP fk δ as) : KP (kCons fa fk) δ (.d a :: as) := by
  unfold KP kCons
  rw [show fa δ = some (a, δ) from ha, Option.bind_some, show fk δ = some (as, δ) from hr]
  rfl
theorem kp_io (i : Nat) (hr : KP fk δ as) (h : ownAt i δ = true := by rfl) : KP (kIo i fk) δ (.io i :: as) := by
  unfold KP kIo
  rw [if_pos h, show fk δ = some (as, δ) from hr]
  rfl
theorem kn_pn {r : α → List Ar × List Sl} (ha : VP fa δ a) (hr : KN fk δ o r) : KN (kCons fa fk) δ o (fun x => (.d a :: (r x).1, (r x).2)) := fun x hx => by
  unfold kCons
  rw [show fa δ = some (a, δ) from ha, Option.bind_some, hr x hx]
  rfl
theorem kn_ion (i : Nat) {r : α → List Ar × List Sl} (hr : KN fk δ o r) (h : ownAt i δ = true := by rfl) : KN (kIo i fk) δ o (fun x => (.io i :: (r x).1, (r x).2)) := fun x hx => by
  unfold kIo
  rw [if_pos h, hr x hx]
  rfl
theorem kn_np {ds : α → List Ar} (ha : VN fa δ o r) (hr : ∀ x, KP fk (r x).2 (ds x)) : KN (kCons fa fk) δ o (fun x => (.d (r x).1 :: ds x, (r x).2)) := fun x hx => by
  unfold kCons
  rw [ha x hx, Option.bind_some, show fk (r x).2 = some (ds x, (r x).2) from hr x]
  rfl
theorem kn_nn {o' : α → Option β} {r' : α → β → List Ar × List Sl} (ha : VN fa δ o r) (hr : ∀ x, KN fk (r x).2 (o' x) (r' x)) : KN (kCons fa fk) δ (o.bind fun x => (o' x).map fun y => (x, y)) (fun p => (.d (r p.1).1 :: (r' p.1 p.2).1, (r' p.1 p.2).2)) := fun p hp => by
  obtain ⟨x, hx, hp⟩ := bsome hp
  obtain ⟨y, hy, rfl⟩ := msome hp
  unfold kCons
  rw [ha x hx, Option.bind_some, hr x y hy]
  rfl
/-! ### calls -/
variable {φ : Fe} {R : List Nat}
theorem vn_call {q : Option β} {dv : β → D} {outs : β → List Sl} (h : KP fk δ as) (hφ : ∀ v, q = some v → φ (as.map (reso δ)) = some (dv v, outs v)) (ok : iosOk R δ as = true := by rfl) (ho : ∀ v, (outsOk R as (outs v) && (R.isEmpty || (true && noL (dv v)))) = true := by intro _; rfl) : VN (callF R true φ fk) δ q (fun v => (dv v, wback as (outs v) δ)) := fun v hv => by
  unfold callF
  rw [show fk δ = some (as, δ) from h, Option.bind_some, if_pos ok, hφ v hv, Option.bind_some, if_pos (ho v)]
theorem vn_callN {r : α → List Ar × List Sl} {q : α → Option β} {dv : α → β → D} {outs : α → β → List Sl} (h : KN fk δ o r) (hφ : ∀ x v, q x = some v → φ ((r x).1.map (reso (r x).2)) = some (dv x v, outs x v)) (ok : ∀ x, iosOk R (r x).2 (r x).1 = true := by intro _; rfl) (ho : ∀ x v, (outsOk R (r x).1 (outs x v) && (R.isEmpty || (true && noL (dv x v)))) = true := by intro _ _; rfl) : VN (callF R true φ fk) δ (o.bind fun x => (q x).map fun v => (x, v)) (fun p => (dv p.1 p.2, wback (r p.1).1 (outs p.1 p.2) (r p.1).2)) := fun p hp => by
  obtain ⟨x, hx, hp⟩ := bsome hp
  obtain ⟨v, hv, rfl⟩ := msome hp
  unfold callF
  rw [h x hx, Option.bind_some, if_pos (ok x), hφ x v hv, Option.bind_some, if_pos (ho x v)]
/-! own dicts, locked -/
theorem vp_lk (i : Nat) {ds : List (D × D)} (h : δ[i]? = some (.ow (.dict ds))) (k : VP f (δ.set i (.lk ds)) d) : VP (fLk i f) δ d := by
  have hi : i < δ.length := (List.getElem?_eq_some_iff.mp h).1
  have hs : (δ.set i (.lk ds)).set i (.ow (.dict ds)) = δ := by
    rw [List.set_set]
    apply List.ext_getElem?
    intro j
    by_cases c : j = i
    · subst c
      rw [List.getElem?_set_self hi, h]
    · rw [List.getElem?_set_ne (Ne.symm c)]
  unfold VP fLk
  rw [h]
  show (f (δ.set i (.lk ds))).bind _ = _
  rw [show f (δ.set i (.lk ds)) = some (d, δ.set i (.lk ds)) from k, Option.bind_some, List.getElem?_set_self hi]
  show some (d, (δ.set i (.lk ds)).set i (.ow (.dict ds))) = _
  rw [hs]
theorem vn_lk (i : Nat) {ds : List (D × D)} {es : α → List (D × D)} (k : VN f (δ.set i (.lk ds)) o r) (h : δ[i]? = some (.ow (.dict ds)) := by rfl) (h2 : ∀ x, (r x).2[i]? = some (.lk (es x)) := by intro _; rfl) : VN (fLk i f) δ o (fun x => ((r x).1, (r x).2.set i (.ow (.dict (es x))))) := fun x hx => by
  unfold fLk
  rw [h]
  show (f (δ.set i (.lk ds))).bind _ = _
  rw [k x hx, Option.bind_some, h2 x]
def notOD (o : Option Sl) : Bool := match o with | some (.ow (.dict _)) => false | _ => true
theorem lk0 (i : Nat) (h : notOD δ[i]? = true) : fLk i f δ = f δ := by
  unfold fLk
  split
  · rename_i ds e
    rw [e] at h
    cases h
  · rfl
theorem vp_lk0 (i : Nat) (k : VP f δ d) (h : notOD δ[i]? = true := by rfl) : VP (fLk i f) δ d := (lk0 i h).trans k
theorem vn_lk0 (i : Nat) (k : VN f δ o r) (h : notOD δ[i]? = true := by rfl) : VN (fLk i f) δ o r := fun x hx => (lk0 i h).trans (k x hx)
/-! ### slices -/
variable {fl fh : Fo} {lo hi : Option Int} {g3 : D → Option Int → Option Int → Option D}
theorem op_none : OP oNone δ none := rfl
theorem op_some {i : Int} (h : VP fa δ (.int i)) : OP (oSome fa) δ (some i) := by
  unfold OP oSome
  rw [show fa δ = some (.int i, δ) from h]
  rfl
theorem on_some {i : α → Int} (h : VN fa δ o r) (hr : ∀ x, (r x).1 = .int (i x)) : ON (oSome fa) δ o (fun x => (some (i x), (r x).2)) := fun x hx => by
  unfold oSome
  rw [h x hx, show r x = (.int (i x), (r x).2) from by rw [← hr x]]
  rfl
theorem vp_3 (ha : VP fa δ a) (hl : OP fl δ lo) (hh : OP fh δ hi) (hz : g3 a lo hi = some z) : VP (f3 g3 fa fl fh) δ z := by
  unfold VP f3
  rw [show fa δ = some (a, δ) from ha, Option.bind_some, show fl δ = some (lo, δ) from hl, Option.bind_some, show fh δ = some (hi, δ) from hh, Option.bind_some, hz]
  rfl
theorem vp_3q {q : Option β} {e : β → D} (ha : VP fa δ a) (hl : OP fl δ lo) (hh : OP fh δ hi) (hz : ∀ v, q = some v → g3 a lo hi = some (e v)) : VN (f3 g3 fa fl fh) δ q (fun v => (e v, δ)) := fun v hv => by
  unfold f3
  rw [show fa δ = some (a, δ) from ha, Option.bind_some, show fl δ = some (lo, δ) from hl, Option.bind_some, show fh δ = some (hi, δ) from hh, Option.bind_some, hz v hv]
  rfl
theorem vn_3a {lo hi : α → Option Int} {z : α → D} (ha : VN fa δ o r) (hl : ∀ x, OP fl (r x).2 (lo x)) (hh : ∀ x, OP fh (r x).2 (hi x)) (hz : ∀ x, g3 (r x).1 (lo x) (hi x) = some (z x)) : VN (f3 g3 fa fl fh) δ o (fun x => (z x, (r x).2)) := fun x hx => by
  unfold f3
  rw [ha x hx, Option.bind_some, show fl (r x).2 = some (lo x, (r x).2) from hl x, Option.bind_some, show fh (r x).2 = some (hi x, (r x).2) from hh x, Option.bind_some, hz x]
  rfl
theorem vn_3aq {lo hi : α → Option Int} {q : α → Option β} {e : α → β → D} (ha : VN fa δ o r) (hl : ∀ x, OP fl (r x).2 (lo x)) (hh : ∀ x, OP fh (r x).2 (hi x)) (hz : ∀ x v, q x = some v → g3 (r x).1 (lo x) (hi x) = some (e x v)) : VN (f3 g3 fa fl fh) δ (o.bind fun x => (q x).map fun v => (x, v)) (fun p => (e p.1 p.2, (r p.1).2)) := fun p hp => by
  obtain ⟨x, hx, hp⟩ := bsome hp
  obtain ⟨v, hv, rfl⟩ := msome hp
  unfold f3
  rw [ha x hx, Option.bind_some, show fl (r x).2 = some (lo x, (r x).2) from hl x, Option.bind_some, show fh (r x).2 = some (hi x, (r x).2) from hh x, Option.bind_some, hz x v hv]
  rfl
theorem vn_3l {r : α → Option Int × List Sl} {hi : α → Option Int} {z : α → D} (ha : VP fa δ a) (hl : ON fl δ o r) (hh : ∀ x, OP fh (r x).2 (hi x)) (hz : ∀ x, g3 a (r x).1 (hi x) = some (z x)) : VN (f3 g3 fa fl fh) δ o (fun x => (z x, (r x).2)) := fun x hx => by
  unfold f3
  rw [show fa δ = some (a, δ) from ha, Option.bind_some, hl x hx, Option.bind_some, show fh (r x).2 = some (hi x, (r x).2) from hh x, Option.bind_some, hz x]
  rfl
theorem vn_3h {r : α → Option Int × List Sl} {z : α → D} (ha : VP fa δ a) (hl : OP fl δ lo) (hh : ON fh δ o r) (hz : ∀ x, g3 a lo (r x).1 = some (z x)) : VN (f3 g3 fa fl fh) δ o (fun x => (z x, (r x).2)) := fun x hx => by
  unfold f3
  rw [show fa δ = some (a, δ) from ha, Option.bind_some, show fl δ = some (lo, δ) from hl, Option.bind_some, hh x hx, Option.bind_some, hz x]
  rfl
/-! ### what is walked -/
variable {fi fr : Fs} {ds : List D}
theorem ip_it (h : VP fa δ a) (hz : itemsD a = some ds) : AP (fIt fa) δ ds := by
  unfold AP fIt
  rw [show fa δ = some (a, δ) from h, Option.bind_some, hz]
  rfl
theorem in_it {z : α → List D} (h : VN fa δ o r) (hz : ∀ x, itemsD (r x).1 = some (z x)) : AN (fIt fa) δ o (fun x => (z x, (r x).2)) := fun x hx => by
  unfold fIt
  rw [h x hx, Option.bind_some, hz x]
  rfl
theorem in_itq {q : Option β} {z : β → List D} (h : VP fa δ a) (hz : ∀ v, q = some v → itemsD a = some (z v)) : AN (fIt fa) δ q (fun v => (z v, δ)) := fun v hv => by
  unfold fIt
  rw [show fa δ = some (a, δ) from h, Option.bind_some, hz v hv]
  rfl
theorem in_itNq {q : α → Option β} {z : α → β → List D} (h : VN fa δ o r) (hz : ∀ x v, q x = some v → itemsD (r x).1 = some (z x v)) : AN (fIt fa) δ (o.bind fun x => (q x).map fun v => (x, v)) (fun p => (z p.1 p.2, (r p.1).2)) := fun p hp => by
  obtain ⟨x, hx, hp⟩ := bsome hp
  obtain ⟨v, hv, rfl⟩ := msome hp
  unfold fIt
  rw [h x hx, Option.bind_some, hz x v hv]
  rfl
def rngN (lo : Int) (n : Nat) : List Int := (List.range n).map fun i => lo + (i : Nat)
theorem rng_map (lo : Int) (n : Nat) : rngD lo n = (rngN lo n).map PyData.int := by
  unfold rngD rngN
  rw [List.map_map]
  rfl
def rng1 (j : Int) : Option (List Int) := if small62 j then some (rngN 0 j.toNat) else none
def rng2 (i j : Int) : Option (List Int) := if small62 i && small62 j then some (rngN i (j - i).toNat) else none
theorem ip_rngP {j : Int} (h : AP fr δ [.int j]) (hj : small62 j = true := by decide) : AP (fRng fr) δ ((rngN 0 j.toNat).map PyData.int) := by
  unfold AP fRng
  rw [show fr δ = some ([.int j], δ) from h, Option.bind_some]
  show (if small62 j = true then some (rngD 0 j.toNat, δ) else none) = _
  rw [if_pos hj, rng_map]
theorem in_rng1 {j : Int} (h : AP fr δ [.int j]) : AN (fRng fr) δ (rng1 j) (fun xs => (xs.map PyData.int, δ)) := fun xs hx => by
  unfold rng1 at hx
  unfold fRng
  rw [show fr δ = some ([.int j], δ) from h, Option.bind_some]
  show (if small62 j = true then some (rngD 0 j.toNat, δ) else none) = _
  split at hx
  · rename_i c; cases hx; rw [if_pos c, rng_map]
  · cases hx
theorem in_rng2 {i j : Int} (h : AP fr δ [.int i, .int j]) : AN (fRng fr) δ (rng2 i j) (fun xs => (xs.map PyData.int, δ)) := fun xs hx => by
  unfold rng2 at hx
  unfold fRng
  rw [show fr δ = some ([.int i, .int j], δ) from h, Option.bind_some]
  show (if (small62 i && small62 j) = true then some (rngD i (j - i).toNat, δ) else none) = _
  split at hx
  · rename_i c; cases hx; rw [if_pos c, rng_map]
  · cases hx
theorem in_rng1N {r : α → List D × List Sl} {j : α → Int} (h : AN fr δ o r) (hr : ∀ x, (r x).1 = [.int (j x)]) : AN (fRng fr) δ (o.bind fun x => (rng1 (j x)).map fun xs => (x, xs)) (fun p => (p.2.map PyData.int, (r p.1).2)) := fun p hp => by
  obtain ⟨x, hx, hp⟩ := bsome hp
  obtain ⟨v, hv, rfl⟩ := msome hp
  unfold rng1 at hv
  unfold fRng
  rw [h x hx, Option.bind_some]
  have e : r x = ([.int (j x)], (r x).2) := by rw [← hr x]
  rw [e]
  show (if small62 (j x) = true then some (rngD 0 (j x).toNat, (r x).2) else none) = _
  split at hv
  · rename_i c; cases hv; rw [if_pos c, rng_map]
  · cases hv
theorem in_rng2N {r : α → List D × List Sl} {i j : α → Int} (h : AN fr δ o r) (hr : ∀ x, (r x).1 = [.int (i x), .int (j x)]) : AN (fRng fr) δ (o.bind fun x => (rng2 (i x) (j x)).map fun xs => (x, xs)) (fun p => (p.2.map PyData.int, (r p.1).2)) := fun p hp => by
  obtain ⟨x, hx, hp⟩ := bsome hp
  obtain ⟨v, hv, rfl⟩ := msome hp
  unfold rng2 at hv
  unfold fRng
  rw [h x hx, Option.bind_some]
  have e : r x = ([.int (i x), .int (j x)], (r x).2) := by rw [← hr x]
  rw [e]
  show (if (small62 (i x) && small62 (j x)) = true then some (rngD (i x) (j x - i x).toNat, (r x).2) else none) = _
  split at hv
  · rename_i c; cases hv; rw [if_pos c, rng_map]
  · cases hv
def enumN {τ : Type} (xs : List τ) : List (Int × τ) := xs.zipIdx.map fun p => ((p.2 : Int), p.1)
theorem enum_map {τ : Type} (e : τ → D) (xs : List τ) : enumD (xs.map e) = (enumN xs).map (eP2 PyData.int e) := by
  unfold enumD enumN
  rw [List.zipIdx_map, List.map_map, List.map_map]
  rfl
theorem ip_enum {τ : Type} {e : τ → D} {xs : List τ} (h : VP fa δ (eLi e xs)) : AP (fEnum fa) δ ((enumN xs).map (eP2 PyData.int e)) := by
  unfold AP fEnum
  rw [show fa δ = some (.list (xs.map e), δ) from h, Option.bind_some]
  show some (enumD (xs.map e), δ) = _
  rw [enum_map]
theorem in_enum {τ : Type} {e : τ → D} {xs : α → List τ} (h : VN fa δ o r) (hr : ∀ x, (r x).1 = eLi e (xs x)) : AN (fEnum fa) δ o (fun x => ((enumN (xs x)).map (eP2 PyData.int e), (r x).2)) := fun x hx => by
  unfold fEnum
  rw [h x hx, Option.bind_some, show r x = (.list ((xs x).map e), (r x).2) from by rw [show (PyData.list ((xs x).map e)) = (r x).1 from (hr x).symm]]
  show some (enumD ((xs x).map e), (r x).2) = _
  rw [enum_map]
theorem zip_mapN {τ κ : Type} (e : τ → D) (e' : κ → D) (xs : List τ) (ys : List κ) : zipD (xs.map e) (ys.map e') = (xs.zip ys).map (eP2 e e') := by
  unfold zipD
  rw [List.zip_map, List.map_map]
  rfl
theorem ip_zip {τ κ : Type} {e : τ → D} {e' : κ → D} {xs : List τ} {ys : List κ} (h : AP fr δ [eLi e xs, eLi e' ys]) : AP (fZip fr) δ ((xs.zip ys).map (eP2 e e')) := by
  unfold AP fZip
  rw [show fr δ = some ([.list (xs.map e), .list (ys.map e')], δ) from h, Option.bind_some]
  show some (zipD (xs.map e) (ys.map e'), δ) = _
  rw [zip_mapN]
/-! ### targets -/
theorem bt_nm (i : Nat) (h : decide (i < δ.length) = true := by rfl) : bindT (.nm i) d δ = some (δ.set i (.fz d)) := by
  unfold bindT
  exact if_pos (of_decide_eq_true h)
theorem bts_nil : bindTs .nil [] δ = some δ := by unfold bindTs; rfl
theorem bts_cons {T U : Tt} {δ2 : List Sl} (h : bindT T d δ = some δ1) (k : bindTs U ds δ1 = some δ2) : bindTs (.cons T U) (d :: ds) δ = some δ2 := by
  unfold bindTs
  rw [h]
  exact k
theorem bt_tup {T U : Tt} (h : bindTs (.cons T U) ds δ = some δ1) : bindT (.cons T U) (.tuple ds) δ = some δ1 := by
  unfold bindT
  exact h
/-! ### comprehensions -/
variable {T : Tt} {vs : List Nat} {cc : Fb} {fe : Fe} {ι τ σ : Type} {e : ι → D} {e' : τ → D} {xs : List ι}
def mapC (f : ι → τ) (xs : List ι) : Option (List τ) := if xs.length ≤ sizeLine then some (xs.map f) else none
def filC (c : ι → Bool) (f : ι → τ) (xs : List ι) : Option (List τ) := if xs.length ≤ sizeLine then some ((xs.filter c).map f) else none
/-- one by one, with a state -/
def compN (c : ι → σ → Option (Bool × σ)) (f : ι → σ → Option (τ × σ)) : List ι → σ → Option (List τ × σ)
  | [], s => some ([], s)
  | x :: xs, s => (c x s).bind fun p => match p.1 with
    | true => (f x p.2).bind fun q => (compN c f xs q.2).map fun z => (q.1 :: z.1, z.2)
    | false => compN c f xs p.2
/-- .. without -/
def mapM (f : ι → Option τ) : List ι → Option (List τ)
  | [] => some []
  | x :: xs => (f x).bind fun y => (mapM f xs).map fun ys => y :: ys
def filM (c : ι → Option Bool) (f : ι → Option τ) : List ι → Option (List τ)
  | [] => some []
  | x :: xs => (c x).bind fun b => match b with
    | true => (f x).bind fun y => (filM c f xs).map fun ys => y :: ys
    | false => filM c f xs
/-- .. every one, with a state -/
def mapS (f : ι → σ → Option (τ × σ)) : List ι → σ → Option (List τ × σ)
  | [], s => some ([], s)
  | x :: xs, s => (f x s).bind fun q => (mapS f xs q.2).map fun z => (q.1 :: z.1, z.2)
def lenC (xs : List ι) (o : Option τ) : Option τ := if xs.length ≤ sizeLine then o else none
theorem compL_P {cb : ι → Bool} {fb : ι → τ} {δb : ι → List Sl} (hT : ∀ x, bindT T (e x) δ = some (δb x)) (hc : ∀ x, TP cc (δb x) (cb x)) (hf : ∀ x, VP fe (δb x) (e' (fb x))) (hw : ∀ x, wipeS vs (δb x) = δ) : ∀ xs : List ι, compL T vs cc fe (xs.map e) δ = some (((xs.filter cb).map fb).map e', δ)
  | [] => rfl
  | x :: xs => by
    rw [List.map_cons]
    unfold compL
    rw [hT x, Option.bind_some, show cc (δb x) = some (cb x, δb x) from hc x, Option.bind_some, List.filter_cons]
    cases cb x
    · show compL T vs cc fe (xs.map e) (wipeS vs (δb x)) = _
      rw [hw x]
      exact compL_P hT hc hf hw xs
    · show (fe (δb x)).bind _ = _
      rw [show fe (δb x) = some (e' (fb x), δb x) from hf x, Option.bind_some, hw x, compL_P hT hc hf hw xs]
      rfl
theorem vn_lcP {cb : ι → Bool} {fb : ι → τ} {δb : ι → List Sl} (hi : AP fi δ (xs.map e)) (hT : ∀ x, bindT T (e x) δ = some (δb x)) (hc : ∀ x, TP cc (δb x) (cb x)) (hf : ∀ x, VP fe (δb x) (e' (fb x))) (hw : ∀ x, wipeS vs (δb x) = δ := by intro _; rfl) (hn : noS vs δ = true := by rfl) : VN (fLc T vs fi cc fe) δ (filC cb fb xs) (fun ys => (eLi e' ys, δ)) := fun ys hy => by
  unfold filC at hy
  split at hy
  · rename_i c
    cases hy
    unfold fLc
    rw [show fi δ = some (xs.map e, δ) from hi, Option.bind_some, if_pos (by rw [hn, List.length_map, decide_eq_true c]; rfl), compL_P hT hc hf hw xs]
    rfl
  · cases hy
theorem vn_lcY {fb : ι → τ} {δb : ι → List Sl} (hi : AP fi δ (xs.map e)) (hT : ∀ x, bindT T (e x) δ = some (δb x)) (hf : ∀ x, VP fe (δb x) (e' (fb x))) (hw : ∀ x, wipeS vs (δb x) = δ := by intro _; rfl) (hn : noS vs δ = true := by rfl) : VN (fLc T vs fi cYes fe) δ (mapC fb xs) (fun ys => (eLi e' ys, δ)) := fun ys hy => by
  have q := compL_P (cc := cYes) (cb := fun _ => true) hT (fun _ => rfl) hf hw xs
  unfold mapC at hy
  split at hy
  · rename_i c
    cases hy
    unfold fLc
    rw [show fi δ = some (xs.map e, δ) from hi, Option.bind_some, if_pos (by rw [hn, List.length_map, decide_eq_true c]; rfl), q, List.filter_eq_self.mpr (fun _ _ => rfl)]
    rfl
  · cases hy
theorem compL_N {st : σ → List Sl} {cN : ι → σ → Option (Bool × σ)} {fN : ι → σ → Option (τ × σ)} {δb δc : ι → σ → List Sl} (hT : ∀ x s, bindT T (e x) (st s) = some (δb x s)) (hc : ∀ x s, TN cc (δb x s) (cN x s) (fun p => (p.1, δc x p.2))) (hf : ∀ x s, VN fe (δc x s) (fN x s) (fun q => (e' q.1, δc x q.2))) (hw : ∀ x s, wipeS vs (δc x s) = st s) : ∀ (xs : List ι) (s : σ) (z : List τ × σ), compN cN fN xs s = some z → compL T vs cc fe (xs.map e) (st s) = some (z.1.map e', st z.2)
  | [], s, z, h => by cases h; rfl
  | x :: xs, s, z, h => by
    unfold compN at h
    obtain ⟨p, hp, h⟩ := bsome h
    rw [List.map_cons]
    unfold compL
    rw [hT x s, Option.bind_some, hc x s p hp, Option.bind_some]
    obtain ⟨b, s1⟩ := p
    cases b
    · show compL T vs cc fe (xs.map e) (wipeS vs (δc x s1)) = _
      rw [hw]
      exact compL_N hT hc hf hw xs s1 z h
    · obtain ⟨q, hq, h⟩ := bsome h
      obtain ⟨w, hw2, rfl⟩ := msome h
      show (fe (δc x s1)).bind _ = _
      rw [hf x s1 q hq, Option.bind_some]
      show (compL T vs cc fe (xs.map e) (wipeS vs (δc x q.2))).map _ = _
      rw [hw, compL_N hT hc hf hw xs q.2 w hw2]
      rfl
/-- with a state, a test -/
theorem vn_lcS {st : σ → List Sl} {s0 : σ} {cN : ι → σ → Option (Bool × σ)} {fN : ι → σ → Option (τ × σ)} {δb δc : ι → σ → List Sl} (hi : AP fi δ (xs.map e)) (hT : ∀ x s, bindT T (e x) (st s) = some (δb x s)) (hc : ∀ x s, TN cc (δb x s) (cN x s) (fun p => (p.1, δc x p.2))) (hf : ∀ x s, VN fe (δc x s) (fN x s) (fun q => (e' q.1, δc x q.2))) (h0 : δ = st s0 := by rfl) (hw : ∀ x s, wipeS vs (δc x s) = st s := by intro _ _; rfl) (hn : noS vs δ = true := by rfl) : VN (fLc T vs fi cc fe) δ (lenC xs (compN cN fN xs s0)) (fun z => (eLi e' z.1, st z.2)) := fun z hz => by
  unfold lenC at hz
  split at hz
  · rename_i c
    unfold fLc
    rw [show fi δ = some (xs.map e, δ) from hi, Option.bind_some, if_pos (by rw [hn, List.length_map, decide_eq_true c]; rfl)]
    subst h0
    rw [compL_N hT hc hf hw xs s0 z hz]
    rfl
  · cases hz
theorem mapS_comp {fN : ι → σ → Option (τ × σ)} : ∀ (xs : List ι) (s : σ), compN (fun _ s => some (true, s)) fN xs s = mapS fN xs s
  | [], s => rfl
  | x :: xs, s => by
    unfold compN mapS
    simp only [Option.bind_some]
    exact congrArg _ (funext fun q => by rw [mapS_comp])
/-- with a state -/
theorem vn_lcSY {st : σ → List Sl} {s0 : σ} {fN : ι → σ → Option (τ × σ)} {δb : ι → σ → List Sl} (hi : AP fi δ (xs.map e)) (hT : ∀ x s, bindT T (e x) (st s) = some (δb x s)) (hf : ∀ x s, VN fe (δb x s) (fN x s) (fun q => (e' q.1, δb x q.2))) (h0 : δ = st s0 := by rfl) (hw : ∀ x s, wipeS vs (δb x s) = st s := by intro _ _; rfl) (hn : noS vs δ = true := by rfl) : VN (fLc T vs fi cYes fe) δ (lenC xs (mapS fN xs s0)) (fun z => (eLi e' z.1, st z.2)) := by
  rw [← mapS_comp]
  exact vn_lcS (cc := cYes) (δb := δb) (δc := δb) hi hT (fun x s p hp => by cases hp; rfl) hf h0 hw hn
theorem compL_M {cN : ι → Option Bool} {fN : ι → Option τ} {δb : ι → List Sl} (hT : ∀ x, bindT T (e x) δ = some (δb x)) (hc : ∀ x, TN cc (δb x) (cN x) (fun p => (p, δb x))) (hf : ∀ x, VN fe (δb x) (fN x) (fun q => (e' q, δb x))) (hw : ∀ x, wipeS vs (δb x) = δ) : ∀ (xs : List ι) (z : List τ), filM cN fN xs = some z → compL T vs cc fe (xs.map e) δ = some (z.map e', δ)
  | [], z, h => by cases h; rfl
  | x :: xs, z, h => by
    unfold filM at h
    obtain ⟨b, hb, h⟩ := bsome h
    rw [List.map_cons]
    unfold compL
    rw [hT x, Option.bind_some, hc x b hb, Option.bind_some]
    cases b
    · show compL T vs cc fe (xs.map e) (wipeS vs (δb x)) = _
      rw [hw]
      exact compL_M hT hc hf hw xs z h
    · obtain ⟨q, hq, h⟩ := bsome h
      obtain ⟨w, hw2, rfl⟩ := msome h
      show (fe (δb x)).bind _ = _
      rw [hf x q hq, Option.bind_some]
      show (compL T vs cc fe (xs.map e) (wipeS vs (δb x))).map _ = _
      rw [hw, compL_M hT hc hf hw xs w hw2]
      rfl
theorem vn_lcM {cN : ι → Option Bool} {fN : ι → Option τ} {δb : ι → List Sl} (hi : AP fi δ (xs.map e)) (hT : ∀ x, bindT T (e x) δ = some (δb x)) (hc : ∀ x, TN cc (δb x) (cN x) (fun p => (p, δb x))) (hf : ∀ x, VN fe (δb x) (fN x) (fun q => (e' q, δb x))) (hw : ∀ x, wipeS vs (δb x) = δ := by intro _; rfl) (hn : noS vs δ = true := by rfl) : VN (fLc T vs fi cc fe) δ (lenC xs (filM cN fN xs)) (fun z => (eLi e' z, δ)) := fun z hz => by
  unfold lenC at hz
  split at hz
  · rename_i c
    unfold fLc
    rw [show fi δ = some (xs.map e, δ) from hi, Option.bind_some, if_pos (by rw [hn, List.length_map, decide_eq_true c]; rfl), compL_M hT hc hf hw xs z hz]
    rfl
  · cases hz
theorem mapM_fil {fN : ι → Option τ} : ∀ (xs : List ι), filM (fun _ => some true) fN xs = mapM fN xs
  | [] => rfl
  | x :: xs => by
    unfold filM mapM
    simp only [Option.bind_some]
    exact congrArg _ (funext fun q => by rw [mapM_fil])
theorem vn_lcMY {fN : ι → Option τ} {δb : ι → List Sl} (hi : AP fi δ (xs.map e)) (hT : ∀ x, bindT T (e x) δ = some (δb x)) (hf : ∀ x, VN fe (δb x) (fN x) (fun q => (e' q, δb x))) (hw : ∀ x, wipeS vs (δb x) = δ := by intro _; rfl) (hn : noS vs δ = true := by rfl) : VN (fLc T vs fi cYes fe) δ (lenC xs (mapM fN xs)) (fun z => (eLi e' z, δ)) := by
  rw [← mapM_fil]
  exact vn_lcM (cc := cYes) (δb := δb) hi hT (fun x p hp => by cases hp; rfl) hf hw hn
/-- the items are only known behind something -/
theorem vn_lcI {r : α → List D × List Sl} {o' : α → Option β} {r' : α → β → D × List Sl} (hi : AN fi δ o r) (h : ∀ x, VN (fLc T vs (fun δ => some ((r x).1, δ)) cc fe) (r x).2 (o' x) (r' x)) : VN (fLc T vs fi cc fe) δ (o.bind fun x => (o' x).map fun y => (x, y)) (fun p => r' p.1 p.2) := fun p hp => by
  obtain ⟨x, hx, hp⟩ := bsome hp
  obtain ⟨y, hy, rfl⟩ := msome hp
  have := h x y hy
  unfold fLc at this ⊢
  rw [Option.bind_some] at this
  rw [hi x hx, Option.bind_some]
  exact this
theorem ip_at : AP (fun δ => some (ds, δ)) δ ds := rfl
end
end Z

/-! N2: statements. -/
namespace Z
open PySem PySem.Spec PyProof.Rows L2
abbrev Fg := List Sl → Option Out
/-- how a block ends: goes on; goes on or is at its loop's next turn; has returned -/
inductive Oc where
  | nx (δ : List Sl)
  | lp (δ : List Sl)
  | rt (d : D) (outs : List Sl)
def OcR (as : List Sl) (x : Option Out) : Oc → Prop
  | .nx δ' => x = some (.nx δ')
  | .lp δ' => x = some (.nx δ') ∨ x = some (.ct δ')
  | .rt d outs => ∃ δ', x = some (.rt d δ') ∧ mergeO as δ' = some outs
def SB {α : Type} (as : List Sl) (g : Fg) (δ : List Sl) (o : Option α) (r : α → Oc) : Prop := ∀ a, o = some a → OcR as (g δ) (r a)
section
variable {α β γ σ ρ : Type} {as δ δ1 : List Sl} {d a b c z : D} {fa fb fc f : Fe} {o : Option β} {g g' ga gb : Fg} {r : β → Oc} {oe : Option α} {re : α → D × List Sl} {ok : α → Option β}
theorem sseq_nx (h : g δ = some (.nx δ1)) : sSeq g g' δ = g' δ1 := by
  unfold sSeq
  rw [h]
  rfl
/-! ### x = e -/
theorem sb_set {i : Nat} (h : VP f δ d) (k : SB as g' (δ.set i (.fz d)) o r) (hi : decide (i < δ.length) = true := by rfl) : SB as (sSeq (sSet i f) g') δ o r := fun v hv => by
  rw [sseq_nx (δ1 := δ.set i (.fz d))]
  · exact k v hv
  · unfold sSet
    rw [show f δ = some (d, δ) from h]
    exact if_pos (of_decide_eq_true hi)
theorem sb_setL {i : Nat} {e : α → D} {v : α} (h : VP f δ (e v)) (k : ∀ x, SB as g' (δ.set i (.fz (e x))) (ok x) r) (hi : decide (i < δ.length) = true := by rfl) : SB as (sSeq (sSet i f) g') δ (letC v ok) r := sb_set h (k v) hi
theorem sb_setN {i : Nat} (h : VN f δ oe re) (k : ∀ x, SB as g' ((re x).2.set i (.fz (re x).1)) (ok x) r) (hi : ∀ x, decide (i < (re x).2.length) = true := by intro _; rfl) : SB as (sSeq (sSet i f) g') δ (oe.bind ok) r := fun v hv => by
  obtain ⟨x, hx, hv⟩ := bsome hv
  rw [sseq_nx (δ1 := (re x).2.set i (.fz (re x).1))]
  · exact k x v hv
  · unfold sSet
    rw [h x hx]
    exact if_pos (of_decide_eq_true (hi x))
theorem sb_setM {i : Nat} {e : γ → D} {m : α → γ} {ok : α → γ → Option β} (h : VN f δ oe re) (hm : ∀ x, (re x).1 = e (m x)) (k : ∀ x y, SB as g' ((re x).2.set i (.fz (e y))) (ok x y) r) (hi : ∀ x, decide (i < (re x).2.length) = true := by intro _; rfl) : SB as (sSeq (sSet i f) g') δ (oe.bind fun x => letC (m x) fun y => ok x y) r :=
  sb_setN h (fun x => by rw [hm x]; exact k x (m x)) hi
theorem sb_own {i : Nat} (h : VP f δ d) (k : SB as g' (δ.set i (.ow d)) o r) (hi : decide (i < δ.length) = true := by rfl) : SB as (sSeq (sOwn i f) g') δ o r := fun v hv => by
  rw [sseq_nx (δ1 := δ.set i (.ow d))]
  · exact k v hv
  · unfold sOwn
    rw [show f δ = some (d, δ) from h]
    exact if_pos (of_decide_eq_true hi)
theorem sb_ownL {i : Nat} {e : α → D} {v : α} (h : VP f δ (e v)) (k : ∀ x, SB as g' (δ.set i (.ow (e x))) (ok x) r) (hi : decide (i < δ.length) = true := by rfl) : SB as (sSeq (sOwn i f) g') δ (letC v ok) r := sb_own h (k v) hi
theorem sb_ownN {i : Nat} (h : VN f δ oe re) (k : ∀ x, SB as g' ((re x).2.set i (.ow (re x).1)) (ok x) r) (hi : ∀ x, decide (i < (re x).2.length) = true := by intro _; rfl) : SB as (sSeq (sOwn i f) g') δ (oe.bind ok) r := fun v hv => by
  obtain ⟨x, hx, hv⟩ := bsome hv
  rw [sseq_nx (δ1 := (re x).2.set i (.ow (re x).1))]
  · exact k x v hv
  · unfold sOwn
    rw [h x hx]
    exact if_pos (of_decide_eq_true (hi x))
theorem sb_ownM {i : Nat} {e : γ → D} {m : α → γ} {ok : α → γ → Option β} (h : VN f δ oe re) (hm : ∀ x, (re x).1 = e (m x)) (k : ∀ x y, SB as g' ((re x).2.set i (.ow (e y))) (ok x y) r) (hi : ∀ x, decide (i < (re x).2.length) = true := by intro _; rfl) : SB as (sSeq (sOwn i f) g') δ (oe.bind fun x => letC (m x) fun y => ok x y) r :=
  sb_ownN h (fun x => by rw [hm x]; exact k x (m x)) hi
theorem sb_exp (h : VN f δ oe re) (k : ∀ x, SB as g' (re x).2 (ok x) r) : SB as (sSeq (sExp f) g') δ (oe.bind ok) r := fun v hv => by
  obtain ⟨x, hx, hv⟩ := bsome hv
  rw [sseq_nx (δ1 := (re x).2)]
  · exact k x v hv
  · unfold sExp
    rw [h x hx]
    rfl
/-! ### x, y = .. -/
variable {T : Tt} {fs : Fs} {ds : List D}
theorem sb_asg (h : VP f δ d) (hb : bindT T d δ = some δ1) (k : SB as g' δ1 o r) : SB as (sSeq (sAsg T f) g') δ o r := fun v hv => by
  rw [sseq_nx (δ1 := δ1)]
  · exact k v hv
  · unfold sAsg
    rw [show f δ = some (d, δ) from h, Option.bind_some, hb]
    rfl
theorem sb_asgN {δx : α → List Sl} (h : VN f δ oe re) (hb : ∀ x, bindT T (re x).1 (re x).2 = some (δx x)) (k : ∀ x, SB as g' (δx x) (ok x) r) : SB as (sSeq (sAsg T f) g') δ (oe.bind ok) r := fun v hv => by
  obtain ⟨x, hx, hv⟩ := bsome hv
  rw [sseq_nx (δ1 := δx x)]
  · exact k x v hv
  · unfold sAsg
    rw [h x hx, Option.bind_some, hb x]
    rfl
theorem sb_par2 {i j : Nat} (h : AP fs δ [a, b]) (k : SB as g' ((δ.set i (.fz a)).set j (.fz b)) o r) (hi : decide (i < δ.length ∧ j < δ.length) = true := by rfl) : SB as (sSeq (sPar2 i j fs) g') δ o r := fun v hv => by
  rw [sseq_nx (δ1 := (δ.set i (.fz a)).set j (.fz b))]
  · exact k v hv
  · unfold sPar2
    rw [show fs δ = some ([a, b], δ) from h]
    exact if_pos (of_decide_eq_true hi)
theorem sb_par2N {i j : Nat} {rs : α → List D × List Sl} {a b : α → D} (h : AN fs δ oe rs) (hr : ∀ x, (rs x).1 = [a x, b x]) (k : ∀ x, SB as g' (((rs x).2.set i (.fz (a x))).set j (.fz (b x))) (ok x) r) (hi : ∀ x, decide (i < (rs x).2.length ∧ j < (rs x).2.length) = true := by intro _; rfl) : SB as (sSeq (sPar2 i j fs) g') δ (oe.bind ok) r := fun v hv => by
  obtain ⟨x, hx, hv⟩ := bsome hv
  rw [sseq_nx (δ1 := ((rs x).2.set i (.fz (a x))).set j (.fz (b x)))]
  · exact k x v hv
  · unfold sPar2
    rw [h x hx, show rs x = ([a x, b x], (rs x).2) from by rw [← hr x]]
    exact if_pos (of_decide_eq_true (hi x))
theorem sb_par3 {i j l : Nat} (h : AP fs δ [a, b, c]) (k : SB as g' (((δ.set i (.fz a)).set j (.fz b)).set l (.fz c)) o r) (hi : decide (i < δ.length ∧ j < δ.length ∧ l < δ.length) = true := by rfl) : SB as (sSeq (sPar3 i j l fs) g') δ o r := fun v hv => by
  rw [sseq_nx (δ1 := ((δ.set i (.fz a)).set j (.fz b)).set l (.fz c))]
  · exact k v hv
  · unfold sPar3
    rw [show fs δ = some ([a, b, c], δ) from h]
    exact if_pos (of_decide_eq_true hi)
theorem sb_par3N {i j l : Nat} {rs : α → List D × List Sl} {a b c : α → D} (h : AN fs δ oe rs) (hr : ∀ x, (rs x).1 = [a x, b x, c x]) (k : ∀ x, SB as g' ((((rs x).2.set i (.fz (a x))).set j (.fz (b x))).set l (.fz (c x))) (ok x) r) (hi : ∀ x, decide (i < (rs x).2.length ∧ j < (rs x).2.length ∧ l < (rs x).2.length) = true := by intro _; rfl) : SB as (sSeq (sPar3 i j l fs) g') δ (oe.bind ok) r := fun v hv => by
  obtain ⟨x, hx, hv⟩ := bsome hv
  rw [sseq_nx (δ1 := (((rs x).2.set i (.fz (a x))).set j (.fz (b x))).set l (.fz (c x)))]
  · exact k x v hv
  · unfold sPar3
    rw [h x hx, show rs x = ([a x, b x, c x], (rs x).2) from by rw [← hr x]]
    exact if_pos (of_decide_eq_true (hi x))
/-! ### x[k] = v -/
theorem sb_put {i : Nat} {w kk : D} {q : Option α} {e : α → D} (hv : VP fb δ w) (hk : VP fa δ kk) (hd : δ[i]? = some (.ow d)) (hz : ∀ v, q = some v → setD d kk w = some (e v)) (k : ∀ x, SB as g' (δ.set i (.ow (e x))) (ok x) r) : SB as (sSeq (sPut i fa fb) g') δ (q.bind ok) r := fun v hv' => by
  obtain ⟨x, hx, hv'⟩ := bsome hv'
  have ho : ownD i δ = some d := by unfold ownD; rw [hd]
  rw [sseq_nx (δ1 := δ.set i (.ow (e x)))]
  · exact k x v hv'
  · unfold sPut
    rw [show fb δ = some (w, δ) from hv, Option.bind_some, ho, Option.bind_some, show fa δ = some (kk, δ) from hk, Option.bind_some, ho, Option.bind_some, hz x hx]
    rfl
/-- the worth is only known behind something -/
theorem sb_putV {i : Nat} {kk dd : α → D} {q : α → Option γ} {e : α → γ → D} {ok : α → γ → Option β} (hv : VN fb δ oe re) (hk : ∀ x, VP fa (re x).2 (kk x)) (hd : ∀ x, (re x).2[i]? = some (.ow (dd x))) (hz : ∀ x v, q x = some v → setD (dd x) (kk x) (re x).1 = some (e x v)) (k : ∀ x y, SB as g' ((re x).2.set i (.ow (e x y))) (ok x y) r) : SB as (sSeq (sPut i fa fb) g') δ (oe.bind fun x => (q x).bind fun y => ok x y) r := fun v hv' => by
  obtain ⟨x, hx, hv'⟩ := bsome hv'
  obtain ⟨y, hy, hv'⟩ := bsome hv'
  have ho : ownD i (re x).2 = some (dd x) := by unfold ownD; rw [hd x]
  rw [sseq_nx (δ1 := (re x).2.set i (.ow (e x y)))]
  · exact k x y v hv'
  · unfold sPut
    rw [hv x hx, Option.bind_some, ho, Option.bind_some, show fa (re x).2 = some (kk x, (re x).2) from hk x, Option.bind_some, ho, Option.bind_some, hz x y hy]
    rfl
/-- the key is .. -/
theorem sb_putK {i : Nat} {w : D} {dd : α → D} {q : α → Option γ} {e : α → γ → D} {ok : α → γ → Option β} {δo : Option D} (hv : VP fb δ w) (hk : VN fa δ oe re) (h0 : δ[i]? = some (.ow d)) (hd : ∀ x, (re x).2[i]? = some (.ow (dd x))) (hz : ∀ x v, q x = some v → setD (dd x) (re x).1 w = some (e x v)) (k : ∀ x y, SB as g' ((re x).2.set i (.ow (e x y))) (ok x y) r) : SB as (sSeq (sPut i fa fb) g') δ (oe.bind fun x => (q x).bind fun y => ok x y) r := fun v hv' => by
  obtain ⟨x, hx, hv'⟩ := bsome hv'
  obtain ⟨y, hy, hv'⟩ := bsome hv'
  have ho : ownD i (re x).2 = some (dd x) := by unfold ownD; rw [hd x]
  have h0' : ownD i δ = some d := by unfold ownD; rw [h0]
  rw [sseq_nx (δ1 := (re x).2.set i (.ow (e x y)))]
  · exact k x y v hv'
  · unfold sPut
    rw [show fb δ = some (w, δ) from hv, Option.bind_some, h0', Option.bind_some, hk x hx, Option.bind_some, ho, Option.bind_some, hz x y hy]
    rfl
/-! ### if -/
variable {cc : Fb} {s : Bool} {oa ob : Option β}
/-- what follows is pushed into the ways -/
theorem sb_if (hc : TP cc δ s) (ha : SB as (sSeq ga g') δ oa r) (hb : SB as (sSeq gb g') δ ob r) : SB as (sSeq (sIf cc ga gb) g') δ (if s then oa else ob) r := fun v hv => by
  have e : sSeq (sIf cc ga gb) g' δ = if s then sSeq ga g' δ else sSeq gb g' δ := by
    unfold sSeq sIf
    rw [show cc δ = some (s, δ) from hc]
    cases s <;> rfl
  rw [e]
  cases s
  · exact hb v hv
  · exact ha v hv
theorem sb_ifN {oc : Option α} {rc : α → Bool × List Sl} {bb : α → Bool} {oa ob : α → Option β} (hc : TN cc δ oc rc) (hb : ∀ x, (rc x).1 = bb x) (ha : ∀ x, SB as (sSeq ga g') (rc x).2 (oa x) r) (hb2 : ∀ x, SB as (sSeq gb g') (rc x).2 (ob x) r) : SB as (sSeq (sIf cc ga gb) g') δ (oc.bind fun x => if bb x then oa x else ob x) r := fun v hv => by
  obtain ⟨x, hx, hv⟩ := bsome hv
  have e : sSeq (sIf cc ga gb) g' δ = if bb x then sSeq ga g' (rc x).2 else sSeq gb g' (rc x).2 := by
    unfold sSeq sIf
    rw [hc x hx, Option.bind_some, hb x]
    cases bb x <;> rfl
  rw [e]
  cases e2 : bb x with
  | false => rw [e2] at hv; exact hb2 x v hv
  | true => rw [e2] at hv; exact ha x v hv
/-- the ways join -/
theorem sb_join {st : σ → List Sl} {oi : Option σ} {ok : σ → Option β} (h : SB as g δ oi (fun s => .nx (st s))) (k : ∀ s, SB as g' (st s) (ok s) r) : SB as (sSeq g g') δ (oi.bind ok) r := fun v hv => by
  obtain ⟨x, hx, hv⟩ := bsome hv
  rw [sseq_nx (h x hx)]
  exact k x v hv
theorem sb_if1 {oa ob : Option β} (hc : TP cc δ s) (ha : SB as ga δ oa r) (hb : SB as gb δ ob r) : SB as (sIf cc ga gb) δ (if s then oa else ob) r := fun v hv => by
  have e : sIf cc ga gb δ = if s then ga δ else gb δ := by
    unfold sIf
    rw [show cc δ = some (s, δ) from hc]
    cases s <;> rfl
  rw [e]
  cases s
  · exact hb v hv
  · exact ha v hv
theorem sb_if1N {oc : Option α} {rc : α → Bool × List Sl} {bb : α → Bool} {oa ob : α → Option β} (hc : TN cc δ oc rc) (hb : ∀ x, (rc x).1 = bb x) (ha : ∀ x, SB as ga (rc x).2 (oa x) r) (hb2 : ∀ x, SB as gb (rc x).2 (ob x) r) : SB as (sIf cc ga gb) δ (oc.bind fun x => if bb x then oa x else ob x) r := fun v hv => by
  obtain ⟨x, hx, hv⟩ := bsome hv
  have e : sIf cc ga gb δ = if bb x then ga (rc x).2 else gb (rc x).2 := by
    unfold sIf
    rw [hc x hx, Option.bind_some, hb x]
    cases bb x <;> rfl
  rw [e]
  cases e2 : bb x with
  | false => rw [e2] at hv; exact hb2 x v hv
  | true => rw [e2] at hv; exact ha x v hv
theorem sseq_assoc {g1 g2 g3 : Fg} : sSeq (sSeq g1 g2) g3 δ = sSeq g1 (sSeq g2 g3) δ := by
  unfold sSeq
  cases g1 δ with
  | none => rfl
  | some o => cases o <;> rfl
theorem sb_assoc {g1 g2 g3 : Fg} (h : SB as (sSeq g1 (sSeq g2 g3)) δ o r) : SB as (sSeq (sSeq g1 g2) g3) δ o r := fun v hv => by
  rw [sseq_assoc]
  exact h v hv
theorem sb_at {δ' : List Sl} (h : SB as g δ' o r) (e : δ = δ' := by rfl) : SB as g δ o r := e ▸ h
theorem g2x {g : D → D → Option D} {o : Option D} (h : g a b = o) : g2 g [a, b] = o := h
theorem sb_nilS (h : SB as g' δ o r) : SB as (sSeq sNil g') δ o r := h
theorem sb_nilWS {vs : List Nat} (h : SB as g' (wipeS vs δ) o r) : SB as (sSeq (sNilW vs) g') δ o r := h
theorem sb_frz {i : Nat} (h : SB as (sSeq g g') (frz i δ) o r) : SB as (sSeq (sFrz i g) g') δ o r := h
theorem sb_wip {vs : List Nat} (h : SB as (sSeq g g') (wipeS vs δ) o r) : SB as (sSeq (sWip vs g) g') δ o r := h
/-! ### ends -/
theorem sb_nil {v : β} (h : r v = .nx δ) : SB as sNil δ (some v) r := fun w hw => by cases hw; rw [h]; rfl
theorem sb_nilW {v : β} {vs : List Nat} (h : r v = .nx (wipeS vs δ)) : SB as (sNilW vs) δ (some v) r := fun w hw => by cases hw; rw [h]; rfl
theorem sb_nilL {v : β} (h : r v = .lp δ) : SB as sNil δ (some v) r := fun w hw => by cases hw; rw [h]; exact .inl rfl
theorem sb_nilWL {v : β} {vs : List Nat} (h : r v = .lp (wipeS vs δ)) : SB as (sNilW vs) δ (some v) r := fun w hw => by cases hw; rw [h]; exact .inl rfl
theorem sb_cont {v : β} {vs : List Nat} (h : r v = .lp (wipeS vs δ)) : SB as (sSeq (sContW vs) g') δ (some v) r := fun w hw => by cases hw; rw [h]; exact .inr rfl
theorem sb_ret {v : β} {outs : List Sl} (h : VP f δ d) (hr : r v = .rt d outs) (hm : mergeO as δ = some outs := by rfl) : SB as (sSeq (sRet f) g') δ (some v) r := fun w hw => by
  cases hw
  rw [hr]
  refine ⟨δ, ?_, hm⟩
  unfold sSeq sRet
  rw [show f δ = some (d, δ) from h]
  rfl
theorem sb_retN {v : α → β} {outs : α → List Sl} (h : VN f δ oe re) (hr : ∀ x, r (v x) = .rt (re x).1 (outs x)) (hm : ∀ x, mergeO as (re x).2 = some (outs x) := by intro _; rfl) : SB as (sSeq (sRet f) g') δ (oe.bind fun x => some (v x)) r := fun w hw => by
  obtain ⟨x, hx, hw⟩ := bsome hw
  cases hw
  rw [hr]
  refine ⟨_, ?_, hm x⟩
  unfold sSeq sRet
  rw [h x hx]
  rfl
theorem sb_retV {i : Nat} {v : β} {outs : List Sl} (h : δ[i]? = some (.ow d)) (hr : r v = .rt d outs) (hm : mergeO as δ = some outs := by rfl) : SB as (sSeq (sRetV i) g') δ (some v) r := fun w hw => by
  cases hw
  rw [hr]
  refine ⟨δ, ?_, hm⟩
  unfold sSeq sRetV
  rw [h]
  rfl
/-! ### loops -/
variable {ι : Type} {e : ι → D} {fi : Fs} {body : Fg} {xs : List ι}
def forN (step : ι → σ → Option σ) : List ι → σ → Option σ
  | [], s => some s
  | x :: xs, s => (step x s).bind fun s' => forN step xs s'
def forR (step : ι → σ → Option (σ ⊕ ρ)) : List ι → σ → Option (σ ⊕ ρ)
  | [], s => some (.inl s)
  | x :: xs, s => (step x s).bind fun w => match w with
    | .inl s' => forR step xs s'
    | .inr v => some (.inr v)
def whileN (c : σ → Option Bool) (step : σ → Option σ) : Nat → σ → Option σ
  | 0, _ => none
  | n + 1, s => (c s).bind fun b => match b with
    | true => (step s).bind fun s' => whileN c step n s'
    | false => some s
def whileR (c : σ → Option Bool) (step : σ → Option (σ ⊕ ρ)) : Nat → σ → Option (σ ⊕ ρ)
  | 0, _ => none
  | n + 1, s => (c s).bind fun b => match b with
    | true => (step s).bind fun w => match w with
      | .inl s' => whileR c step n s'
      | .inr v => some (.inr v)
    | false => some (.inl s)
theorem forL_N {st : σ → List Sl} {step : ι → σ → Option σ} {δb : ι → σ → List Sl} (hT : ∀ x s, bindT T (e x) (st s) = some (δb x s)) (hb : ∀ x s, SB as body (δb x s) (step x s) (fun s' => .lp (st s'))) : ∀ (xs : List ι) (s s' : σ), forN step xs s = some s' → forL T body (xs.map e) (st s) = some (.nx (st s'))
  | [], s, s', h => by cases h; rfl
  | x :: xs, s, s', h => by
    unfold forN at h
    obtain ⟨s1, h1, h⟩ := bsome h
    rw [List.map_cons]
    unfold forL
    rw [hT x s, Option.bind_some]
    rcases hb x s s1 h1 with q | q
    · rw [q]; exact forL_N hT hb xs s1 s' h
    · rw [q]; exact forL_N hT hb xs s1 s' h
theorem sb_for {st : σ → List Sl} {s0 : σ} {step : ι → σ → Option σ} {δb : ι → σ → List Sl} {ok : σ → Option β} (hi : AP fi δ (xs.map e)) (hT : ∀ x s, bindT T (e x) (st s) = some (δb x s)) (hb : ∀ x s, SB as body (δb x s) (step x s) (fun s' => .lp (st s'))) (k : ∀ s, SB as g' (st s) (ok s) r) (h0 : δ = st s0 := by rfl) : SB as (sSeq (sFor T fi body) g') δ ((forN step xs s0).bind ok) r := fun v hv => by
  obtain ⟨s, hs, hv⟩ := bsome hv
  rw [sseq_nx (δ1 := st s)]
  · exact k s v hv
  · unfold sFor
    rw [show fi δ = some (xs.map e, δ) from hi]
    subst h0
    exact forL_N hT hb xs s0 s hs
/-- the items are only known behind something -/
theorem sb_forI {rs : α → List D × List Sl} {ok : α → Option β} (hi : AN fi δ oe rs) (h : ∀ x, SB as (sSeq (sFor T (fun δ => some ((rs x).1, δ)) body) g') (rs x).2 (ok x) r) : SB as (sSeq (sFor T fi body) g') δ (oe.bind ok) r := fun v hv => by
  obtain ⟨x, hx, hv⟩ := bsome hv
  have := h x v hv
  have e : sSeq (sFor T fi body) g' δ = sSeq (sFor T (fun δ => some ((rs x).1, δ)) body) g' (rs x).2 := by
    unfold sSeq sFor
    rw [hi x hx]
  rw [e]
  exact this
theorem forL_R {st : σ → List Sl} {step : ι → σ → Option (σ ⊕ ρ)} {δb : ι → σ → List Sl} {rv : ρ → D} {ro : ρ → List Sl} (hT : ∀ x s, bindT T (e x) (st s) = some (δb x s)) (hb : ∀ x s, SB as body (δb x s) (step x s) (Sum.elim (fun s' => .lp (st s')) (fun v => .rt (rv v) (ro v)))) : ∀ (xs : List ι) (s : σ) (w : σ ⊕ ρ), forR step xs s = some w → OcR as (forL T body (xs.map e) (st s)) (Sum.elim (fun s' => .nx (st s')) (fun v => .rt (rv v) (ro v)) w)
  | [], s, w, h => by cases h; rfl
  | x :: xs, s, w, h => by
    unfold forR at h
    obtain ⟨w1, h1, h⟩ := bsome h
    rw [List.map_cons]
    unfold forL
    rw [hT x s, Option.bind_some]
    cases w1 with
    | inl s1 =>
      rcases hb x s _ h1 with q | q
      · rw [q]; exact forL_R hT hb xs s1 w h
      · rw [q]; exact forL_R hT hb xs s1 w h
    | inr v =>
      cases h
      obtain ⟨δ', q, q2⟩ := hb x s _ h1
      rw [q]
      exact ⟨δ', rfl, q2⟩
theorem sb_forR {st : σ → List Sl} {s0 : σ} {step : ι → σ → Option (σ ⊕ ρ)} {δb : ι → σ → List Sl} {rv : ρ → D} {ro : ρ → List Sl} {ok : σ → Option β} {kr : ρ → Option β} (hi : AP fi δ (xs.map e)) (hT : ∀ x s, bindT T (e x) (st s) = some (δb x s)) (hb : ∀ x s, SB as body (δb x s) (step x s) (Sum.elim (fun s' => .lp (st s')) (fun v => .rt (rv v) (ro v)))) (hr : ∀ v, ∃ a, kr v = some a ∧ r a = .rt (rv v) (ro v)) (k : ∀ s, SB as g' (st s) (ok s) r) (h0 : δ = st s0 := by rfl) : SB as (sSeq (sFor T fi body) g') δ ((forR step xs s0).bind (Sum.elim ok kr)) r := fun v hv => by
  obtain ⟨w, hw, hv⟩ := bsome hv
  subst h0
  have q := forL_R hT hb xs s0 w hw
  have e1 : sFor T fi body (st s0) = forL T body (xs.map e) (st s0) := by
    unfold sFor
    rw [show fi (st s0) = some (xs.map e, st s0) from hi]
    rfl
  cases w with
  | inl s =>
    rw [sseq_nx (e1.trans q)]
    exact k s v hv
  | inr v1 =>
    obtain ⟨a, h1, h2⟩ := hr v1
    have : a = v := by
      have h3 : kr v1 = some v := hv
      rw [h1] at h3
      exact Option.some.inj h3
    subst this
    rw [h2]
    obtain ⟨δ', q1, q2⟩ := q
    refine ⟨δ', ?_, q2⟩
    unfold sSeq
    rw [e1, q1]
    rfl
theorem whileF_N {st : σ → List Sl} {cN : σ → Option Bool} {step : σ → Option σ} (hc : ∀ s, TN cc (st s) (cN s) (fun b => (b, st s))) (hb : ∀ s, SB as body (st s) (step s) (fun s' => .lp (st s'))) : ∀ (n : Nat) (s s' : σ), whileN cN step n s = some s' → whileF cc body n (st s) = some (.nx (st s'))
  | 0, s, s', h => by cases h
  | n + 1, s, s', h => by
    unfold whileN at h
    obtain ⟨b, h1, h⟩ := bsome h
    unfold whileF
    rw [hc s b h1, Option.bind_some]
    cases b with
    | false => cases h; rfl
    | true =>
      obtain ⟨s1, h2, h⟩ := bsome h
      show (body (st s)).bind _ = _
      rcases hb s s1 h2 with q | q
      · rw [q]; exact whileF_N hc hb n s1 s' h
      · rw [q]; exact whileF_N hc hb n s1 s' h
theorem sb_while {n : Nat} {st : σ → List Sl} {s0 : σ} {cN : σ → Option Bool} {step : σ → Option σ} {ok : σ → Option β} (hc : ∀ s, TN cc (st s) (cN s) (fun b => (b, st s))) (hb : ∀ s, SB as body (st s) (step s) (fun s' => .lp (st s'))) (k : ∀ s, SB as g' (st s) (ok s) r) (h0 : δ = st s0 := by rfl) : SB as (sSeq (whileF cc body n) g') δ ((whileN cN step n s0).bind ok) r := fun v hv => by
  obtain ⟨s, hs, hv⟩ := bsome hv
  subst h0
  rw [sseq_nx (whileF_N hc hb n s0 s hs)]
  exact k s v hv
theorem whileF_R {st : σ → List Sl} {cN : σ → Option Bool} {step : σ → Option (σ ⊕ ρ)} {rv : ρ → D} {ro : ρ → List Sl} (hc : ∀ s, TN cc (st s) (cN s) (fun b => (b, st s))) (hb : ∀ s, SB as body (st s) (step s) (Sum.elim (fun s' => .lp (st s')) (fun v => .rt (rv v) (ro v)))) : ∀ (n : Nat) (s : σ) (w : σ ⊕ ρ), whileR cN step n s = some w → OcR as (whileF cc body n (st s)) (Sum.elim (fun s' => .nx (st s')) (fun v => .rt (rv v) (ro v)) w)
  | 0, s, s', h => by cases h
  | n + 1, s, w, h => by
    unfold whileR at h
    obtain ⟨b, h1, h⟩ := bsome h
    unfold whileF
    rw [hc s b h1, Option.bind_some]
    cases b with
    | false => cases h; rfl
    | true =>
      obtain ⟨w1, h2, h⟩ := bsome h
      show OcR as ((body (st s)).bind _) _
      cases w1 with
      | inl s1 =>
        rcases hb s _ h2 with q | q
        · rw [q]; exact whileF_R hc hb n s1 w h
        · rw [q]; exact whileF_R hc hb n s1 w h
      | inr v =>
        cases h
        obtain ⟨δ', q, q2⟩ := hb s _ h2
        rw [q]
        exact ⟨δ', rfl, q2⟩
theorem sb_whileR {n : Nat} {st : σ → List Sl} {s0 : σ} {cN : σ → Option Bool} {step : σ → Option (σ ⊕ ρ)} {rv : ρ → D} {ro : ρ → List Sl} {ok : σ → Option β} {kr : ρ → Option β} (hc : ∀ s, TN cc (st s) (cN s) (fun b => (b, st s))) (hb : ∀ s, SB as body (st s) (step s) (Sum.elim (fun s' => .lp (st s')) (fun v => .rt (rv v) (ro v)))) (hr : ∀ v, ∃ a, kr v = some a ∧ r a = .rt (rv v) (ro v)) (k : ∀ s, SB as g' (st s) (ok s) r) (h0 : δ = st s0 := by rfl) : SB as (sSeq (whileF cc body n) g') δ ((whileR cN step n s0).bind (Sum.elim ok kr)) r := fun v hv => by
  obtain ⟨w, hw, hv⟩ := bsome hv
  subst h0
  have q := whileF_R hc hb n s0 w hw
  cases w with
  | inl s =>
    rw [sseq_nx q]
    exact k s v hv
  | inr v1 =>
    obtain ⟨a, h1, h2⟩ := hr v1
    have : a = v := by
      have h3 : kr v1 = some v := hv
      rw [h1] at h3
      exact Option.some.inj h3
    subst this
    rw [h2]
    obtain ⟨δ', q1, q2⟩ := q
    refine ⟨δ', ?_, q2⟩
    unfold sSeq
    rw [q1]
    rfl
/-! ### a def -/
theorem fn_n {sg : List Bool} {m : Nat} {fr : Bool} {dv : β → D} {outs : β → List Sl} (h : SB as g (as ++ List.replicate (m - sg.length) .no) o (fun v => .rt (dv v) (outs v))) (ha : okArgs sg as = true := by rfl) : ∀ v, o = some v → fnF sg m fr g as = some (dv v, outs v) := fun v hv => by
  obtain ⟨δ', h1, h2⟩ := h v hv
  unfold fnF
  rw [if_pos ha, h1]
  show (mergeO as δ').map _ = _
  rw [h2]
  rfl
/-- .. that tells nothing -/
theorem fn_u {sg : List Bool} {m : Nat} {outs : β → List Sl} {st : β → List Sl} (h : SB as g (as ++ List.replicate (m - sg.length) .no) o (fun v => .nx (st v))) (hm : ∀ v, mergeO as (st v) = some (outs v) := by intro _; rfl) (ha : okArgs sg as = true := by rfl) : ∀ v, o = some v → fnF sg m false g as = some (.none, outs v) := fun v hv => by
  have h1 := h v hv
  unfold fnF
  rw [if_pos ha, show g (as ++ List.replicate (m - sg.length) .no) = some (.nx (st v)) from h1]
  show (mergeO as (st v)).map _ = _
  rw [hm v]
  rfl
end
end Z

/-! N3: the operations on data of known types. -/
namespace Z
open PySem PySem.Spec PyProof.Rows L2
/-! ### encoders that may be compared -/
structure Gd {α : Type} (e : α → D) (n : Nat) : Prop where
  pl : ∀ a, (e a).plain = true
  dp : ∀ a, (e a).depth ≤ n
  eq : ∀ a b, PyData.eqv (e a) (e b) = true ↔ a = b
theorem gI : Gd PyData.int 0 := ⟨fun _ => rfl, fun _ => Nat.le_refl _, fun a b => by simp [PyData.eqv]⟩
theorem gB : Gd PyData.bool 0 := ⟨fun _ => rfl, fun _ => Nat.le_refl _, fun a b => by simp [PyData.eqv]⟩
theorem gS : Gd PyData.str 0 := ⟨fun _ => rfl, fun _ => Nat.le_refl _, fun a b => by simp [PyData.eqv]⟩
theorem gU : Gd eU 0 := ⟨fun _ => rfl, fun _ => Nat.le_refl _, fun a b => by simp [PyData.eqv, eU]⟩
section
variable {α β γ κ μ τ : Type} {e : α → D} {e' : β → D} {e3 : γ → D} {e4 : κ → D} {e5 : μ → D} {n n2 n3 n4 n5 : Nat}
theorem plain_map (g : Gd e n) : ∀ xs : List α, PyData.plainAll (xs.map e) = true
  | [] => rfl
  | x :: xs => by
    show ((e x).plain && PyData.plainAll (xs.map e)) = true
    rw [g.pl, plain_map g xs]; rfl
theorem depth_map (g : Gd e n) : ∀ xs : List α, PyData.depthAll (xs.map e) ≤ n
  | [] => Nat.zero_le _
  | x :: xs => by
    have := depth_map g xs
    have := g.dp x
    simp only [List.map_cons, PyData.depthAll]
    omega
theorem eqv_map (g : Gd e n) : ∀ xs ys : List α, PyData.eqvAll (xs.map e) (ys.map e) = true ↔ xs = ys
  | [], [] => by simp [PyData.eqvAll]
  | [], y :: ys => by simp [PyData.eqvAll]
  | x :: xs, [] => by simp [PyData.eqvAll]
  | x :: xs, y :: ys => by
    simp only [List.map_cons, PyData.eqvAll, Bool.and_eq_true, g.eq, eqv_map g xs ys, List.cons.injEq]
theorem gLi (g : Gd e n) : Gd (eLi e) (n + 1) := ⟨fun xs => plain_map g xs, fun xs => by have := depth_map g xs; simp only [eLi, PyData.depth]; omega, fun xs ys => by simp only [eLi, PyData.eqv]; exact eqv_map g xs ys⟩
theorem gTu (g : Gd e n) : Gd (eTu e) (n + 1) := ⟨fun xs => plain_map g xs, fun xs => by have := depth_map g xs; simp only [eTu, PyData.depth]; omega, fun xs ys => by simp only [eTu, PyData.eqv]; exact eqv_map g xs ys⟩
theorem gP1 (g : Gd e n) : Gd (eP1 e) (n + 1) := ⟨fun a => by simp [eP1, PyData.plain, PyData.plainAll, g.pl], fun a => by have := g.dp a; simp only [eP1, PyData.depth, PyData.depthAll]; omega, fun a b => by simp [eP1, PyData.eqv, PyData.eqvAll, g.eq]⟩
theorem gP2 (g : Gd e n) (h : Gd e' n2) : Gd (eP2 e e') (max n n2 + 1) := ⟨fun a => by simp [eP2, PyData.plain, PyData.plainAll, g.pl, h.pl], fun a => by have := g.dp a.1; have := h.dp a.2; simp only [eP2, PyData.depth, PyData.depthAll]; omega, fun a b => by simp [eP2, PyData.eqv, PyData.eqvAll, g.eq, h.eq, Prod.ext_iff]⟩
theorem gP3 (g : Gd e n) (h : Gd e' n2) (i : Gd e3 n3) : Gd (eP3 e e' e3) (max n (max n2 n3) + 1) := ⟨fun a => by simp [eP3, PyData.plain, PyData.plainAll, g.pl, h.pl, i.pl], fun a => by have := g.dp a.1; have := h.dp a.2.1; have := i.dp a.2.2; simp only [eP3, PyData.depth, PyData.depthAll]; omega, fun a b => by simp [eP3, PyData.eqv, PyData.eqvAll, g.eq, h.eq, i.eq, Prod.ext_iff]⟩
theorem gP4 (g : Gd e n) (h : Gd e' n2) (i : Gd e3 n3) (j : Gd e4 n4) : Gd (eP4 e e' e3 e4) (max n (max n2 (max n3 n4)) + 1) := ⟨fun a => by simp [eP4, PyData.plain, PyData.plainAll, g.pl, h.pl, i.pl, j.pl], fun a => by have := g.dp a.1; have := h.dp a.2.1; have := i.dp a.2.2.1; have := j.dp a.2.2.2; simp only [eP4, PyData.depth, PyData.depthAll]; omega, fun a b => by simp [eP4, PyData.eqv, PyData.eqvAll, g.eq, h.eq, i.eq, j.eq, Prod.ext_iff]⟩
theorem gP5 (g : Gd e n) (h : Gd e' n2) (i : Gd e3 n3) (j : Gd e4 n4) (k : Gd e5 n5) : Gd (eP5 e e' e3 e4 e5) (max n (max n2 (max n3 (max n4 n5))) + 1) := ⟨fun a => by simp [eP5, PyData.plain, PyData.plainAll, g.pl, h.pl, i.pl, j.pl, k.pl], fun a => by have := g.dp a.1; have := h.dp a.2.1; have := i.dp a.2.2.1; have := j.dp a.2.2.2.1; have := k.dp a.2.2.2.2; simp only [eP5, PyData.depth, PyData.depthAll]; omega, fun a b => by simp [eP5, PyData.eqv, PyData.eqvAll, g.eq, h.eq, i.eq, j.eq, k.eq, Prod.ext_iff]⟩
theorem shp_g (g : Gd e n) (hn : n ≤ 64) (a : α) : shp (e a) = true := by
  unfold shp
  rw [g.pl, decide_eq_true (Nat.le_trans (g.dp a) hn)]; rfl
theorem eq_g [DecidableEq α] (g : Gd e n) (a b : α) (hn : n ≤ 64 := by decide) : bD eqD (e a) (e b) = some (.bool (decide (a = b))) := by
  unfold bD eqD
  rw [shp_g g hn, shp_g g hn]
  have : PyData.eqv (e a) (e b) = decide (a = b) := by
    rw [Bool.eq_iff_iff, g.eq, decide_eq_true_eq]
  simp [this]
theorem ne_g [DecidableEq α] (g : Gd e n) (a b : α) (hn : n ≤ 64 := by decide) : bD neD (e a) (e b) = some (.bool (!decide (a = b))) := by
  unfold bD neD eqD
  rw [shp_g g hn, shp_g g hn]
  have : PyData.eqv (e a) (e b) = decide (a = b) := by
    rw [Bool.eq_iff_iff, g.eq, decide_eq_true_eq]
  simp [this]
theorem any_g [DecidableEq α] (g : Gd e n) (a : α) (xs : List α) : ((xs.map e).any fun z => PyData.eqv z (e a)) = decide (a ∈ xs) := by
  rw [Bool.eq_iff_iff, decide_eq_true_eq, List.any_map, List.any_eq_true]
  constructor
  · rintro ⟨x, hx, h⟩
    have := (g.eq x a).mp h
    subst this
    exact hx
  · exact fun h => ⟨a, h, (g.eq a a).mpr rfl⟩
theorem inL_g [DecidableEq α] (g : Gd e n) (a : α) (xs : List α) (hn : n ≤ 63 := by decide) : bD inD (e a) (eLi e xs) = some (.bool (decide (a ∈ xs))) := by
  unfold bD inD
  show (if shp (e a) && shp (eLi e xs) then some ((xs.map e).any fun z => PyData.eqv z (e a)) else none).map _ = _
  rw [shp_g g (by omega), shp_g (gLi g) (by omega), any_g g]
  rfl
theorem inT_g [DecidableEq α] (g : Gd e n) (a : α) (xs : List α) (hn : n ≤ 63 := by decide) : bD inD (e a) (eTu e xs) = some (.bool (decide (a ∈ xs))) := by
  unfold bD inD
  show (if shp (e a) && shp (eTu e xs) then some ((xs.map e).any fun z => PyData.eqv z (e a)) else none).map _ = _
  rw [shp_g g (by omega), shp_g (gTu g) (by omega), any_g g]
  rfl
theorem notInL_g [DecidableEq α] (g : Gd e n) (a : α) (xs : List α) (hn : n ≤ 63 := by decide) : bD notInD (e a) (eLi e xs) = some (.bool (!decide (a ∈ xs))) := by
  unfold bD notInD inD
  show ((if shp (e a) && shp (eLi e xs) then some ((xs.map e).any fun z => PyData.eqv z (e a)) else none).map _).map _ = _
  rw [shp_g g (by omega), shp_g (gLi g) (by omega), any_g g]
  rfl
theorem notInT_g [DecidableEq α] (g : Gd e n) (a : α) (xs : List α) (hn : n ≤ 63 := by decide) : bD notInD (e a) (eTu e xs) = some (.bool (!decide (a ∈ xs))) := by
  unfold bD notInD inD
  show ((if shp (e a) && shp (eTu e xs) then some ((xs.map e).any fun z => PyData.eqv z (e a)) else none).map _).map _ = _
  rw [shp_g g (by omega), shp_g (gTu g) (by omega), any_g g]
  rfl
/-! ### ints -/
theorem lt_i (a b : Int) : bD ltD (.int a) (.int b) = some (.bool (decide (a < b))) := rfl
theorem le_i (a b : Int) : bD leD (.int a) (.int b) = some (.bool (decide (a ≤ b))) := rfl
theorem gt_i (a b : Int) : bD gtD (.int a) (.int b) = some (.bool (decide (b < a))) := rfl
theorem ge_i (a b : Int) : bD geD (.int a) (.int b) = some (.bool (decide (b ≤ a))) := rfl
def mulQ (a b : Int) : Option Int := if lim64 a || lim64 b then some (a * b) else none
theorem mulQ_d (a b v : Int) (h : mulQ a b = some v) : mulA (.int a) (.int b) = some (.int v) := by
  unfold mulQ at h
  split at h
  · rename_i c
    cases h
    simp [mulA, mulD, c]
  · cases h
def modQ (a b : Int) : Option Int := if 0 < b then some (a % b) else none
theorem modQ_d (a b v : Int) (h : modQ a b = some v) : modD (.int a) (.int b) = some (.int v) := by
  unfold modQ at h
  split at h
  · rename_i c
    cases h
    exact modD_int a b c
  · cases h
def fdivQ (a b : Int) : Option Int := if 0 < b ∧ b < 1073741824 then some (a / b) else none
theorem fdivQ_d (a b v : Int) (h : fdivQ a b = some v) : fdivD (.int a) (.int b) = some (.int v) := by
  unfold fdivQ at h
  split at h
  · rename_i c
    cases h
    exact fdivD_int a b c.1 (by omega)
  · cases h
theorem neg_i (a : Int) : negD (.int a) = some (.int (-a)) := rfl
theorem max_i (a b : Int) : g2 maxD [.int a, .int b] = some (.int (max a b)) := by
  show some (PyData.int (if b > a then b else a)) = _
  congr 2
  omega
theorem min_i (a b : Int) : g2 minD [.int a, .int b] = some (.int (min a b)) := by
  show some (PyData.int (if b < a then b else a)) = _
  congr 2
  omega
def boI (b : Bool) : Int := if b then 1 else 0
theorem int_b (b : Bool) : g1 intD [.bool b] = some (.int (boI b)) := rfl
theorem int_i (b : Int) : g1 intD [.int b] = some (.int b) := rfl
def strQ (i : Int) : Option Str := if i.natAbs.log2 < 1920 then some (toString i : String) else none
theorem strQ_d (i : Int) (v : Str) (h : strQ i = some v) : g1 strD [.int i] = some (.str v) := by
  unfold strQ at h
  split at h
  · rename_i c
    cases h
    exact if_pos c
  · cases h
/-! ### texts -/
def catS (a b : Str) : Option Str := if a.length + b.length ≤ sizeLine then some (a ++ b) else none
theorem catS_d (a b v : Str) (h : catS a b = some v) : addA (.str a) (.str b) = some (.str v) := by
  unfold catS at h
  unfold addA
  show (if a.length + b.length ≤ sizeLine then some (PyData.str (a ++ b)) else none).or _ = _
  split at h
  · rename_i c
    cases h
    rw [if_pos c]; rfl
  · cases h
def lenS (a : Str) : Option Int := if a.length ≤ sizeLine then some (a.length : Int) else none
theorem lenS_d (a : Str) (v : Int) (h : lenS a = some v) : g1 lenD [.str a] = some (.int v) := by
  unfold lenS at h
  show (if a.length ≤ sizeLine then some (PyData.int a.length) else none) = _
  split at h
  · rename_i c
    cases h
    exact if_pos c
  · cases h
def reprQ (d : D) : Option Str := (reprD d).bind fun z => match z with | .str s => some s | _ => none
theorem reprQ_d (d : D) (v : Str) (h : reprQ d = some v) : g1 reprD [d] = some (.str v) := by
  unfold reprQ at h
  obtain ⟨z, h1, h2⟩ := bsome h
  show reprD d = _
  rw [h1]
  cases z <;> first | cases h2; rfl | cases h2
/-! ### lists, tuples -/
def catQ (a b : List α) : Option (List α) := if a.length + b.length ≤ sizeLine then some (a ++ b) else none
theorem catL_d (a b v : List α) (h : catQ a b = some v) : addA (eLi e a) (eLi e b) = some (eLi e v) := by
  unfold catQ at h
  unfold addA
  show (none : Option D).or (if (a.map e).length + (b.map e).length ≤ sizeLine then some (PyData.list (a.map e ++ b.map e)) else none) = _
  split at h
  · rename_i c
    cases h
    rw [List.length_map, List.length_map, if_pos c, ← List.map_append]; rfl
  · cases h
theorem catT_d (a b v : List α) (h : catQ a b = some v) : addA (eTu e a) (eTu e b) = some (eTu e v) := by
  unfold catQ at h
  unfold addA
  show (if (a.map e).length + (b.map e).length ≤ sizeLine then some (PyData.tuple (a.map e ++ b.map e)) else none).or _ = _
  split at h
  · rename_i c
    cases h
    rw [List.length_map, List.length_map, if_pos c, ← List.map_append]; rfl
  · cases h
def repQ (xs : List α) (k : Int) : Option (List α) := if decide (0 ≤ k) && decide (k < 2 ^ 62) && decide (xs.length * k.toNat ≤ sizeLine) then some (List.replicate k.toNat xs).flatten else none
theorem map_flat (f : α → β) (k : Nat) (xs : List α) : (List.replicate k (xs.map f)).flatten = (List.replicate k xs).flatten.map f := by
  rw [List.map_flatten, List.map_replicate]
theorem repL_d (xs : List α) (k : Int) (v : List α) (h : repQ xs k = some v) : mulA (eLi e xs) (.int k) = some (eLi e v) := by
  unfold repQ at h
  unfold mulA
  show (none : Option D).or (if decide (0 ≤ k) && decide (k < 2 ^ 62) && decide ((xs.map e).length * k.toNat ≤ sizeLine) then some (PyData.list (List.replicate k.toNat (xs.map e)).flatten) else none) = _
  split at h
  · rename_i c
    cases h
    rw [List.length_map, if_pos c, map_flat]; rfl
  · cases h
def repT (xs : List α) (k : Int) : Option (List α) := if (!xs.isEmpty) && decide (-1000 ≤ k) && decide (k ≤ 1000) && decide (xs.length ≤ 1000) then some (List.replicate k.toNat xs).flatten else none
theorem repT_d (xs : List α) (k : Int) (v : List α) (h : repT xs k = some v) : mulA (eTu e xs) (.int k) = some (eTu e v) := by
  unfold repT at h
  unfold mulA
  show (if (!(xs.map e).isEmpty) && decide (-1000 ≤ k) && decide (k ≤ 1000) && decide ((xs.map e).length ≤ 1000) then some (PyData.tuple (List.replicate k.toNat (xs.map e)).flatten) else none).or _ = _
  split at h
  · rename_i c
    cases h
    rw [List.length_map, List.isEmpty_map, if_pos c, map_flat]; rfl
  · cases h
theorem atI_map (f : α → β) (xs : List α) (i : Int) : atI (xs.map f) i = (atI xs i).map f := by
  unfold atI
  rw [List.length_map]
  cases ixN xs.length i with
  | none => rfl
  | some j => simp
theorem ixL_d (xs : List α) (i : Int) (v : α) (h : atI xs i = some v) : idxD (eLi e xs) (.int i) = some (e v) := by
  show atI (xs.map e) i = _
  rw [atI_map, h]; rfl
theorem ixT_d (xs : List α) (i : Int) (v : α) (h : atI xs i = some v) : idxD (eTu e xs) (.int i) = some (e v) := by
  show atI (xs.map e) i = _
  rw [atI_map, h]; rfl
theorem ixp0 (x : D) (r : List D) : idxD (.tuple (x :: r)) (.int 0) = some x := by
  show atI (x :: r) 0 = some x
  exact atI_nat (j := 0) rfl
theorem ixp1 (x y : D) (r : List D) : idxD (.tuple (x :: y :: r)) (.int 1) = some y := by
  show atI (x :: y :: r) 1 = some y
  exact atI_nat (j := 1) rfl
theorem ixp2 (x y z : D) (r : List D) : idxD (.tuple (x :: y :: z :: r)) (.int 2) = some z := by
  show atI (x :: y :: z :: r) 2 = some z
  exact atI_nat (j := 2) rfl
theorem ixp3 (x y z w : D) (r : List D) : idxD (.tuple (x :: y :: z :: w :: r)) (.int 3) = some w := by
  show atI (x :: y :: z :: w :: r) 3 = some w
  exact atI_nat (j := 3) rfl
theorem ixp4 (x y z w u : D) (r : List D) : idxD (.tuple (x :: y :: z :: w :: u :: r)) (.int 4) = some u := by
  show atI (x :: y :: z :: w :: u :: r) 4 = some u
  exact atI_nat (j := 4) rfl
def sIx (z : Str) (i : Int) : Option Str := if z.length ≤ sizeLine then (atI z.cps.toList i).map fun c => ⟨#[c]⟩ else none
theorem sIx_d (z : Str) (i : Int) (v : Str) (h : sIx z i = some v) : idxD (.str z) (.int i) = some (.str v) := by
  unfold sIx at h
  show (if z.length ≤ sizeLine then (atI z.cps.toList i).map fun c => PyData.str ⟨#[c]⟩ else none) = _
  split at h
  · rename_i c
    rw [if_pos c]
    obtain ⟨q, h1, rfl⟩ := msome h
    rw [h1]; rfl
  · cases h
theorem cut_map (f : α → β) (xs : List α) (lo hi : Option Int) : cutL (xs.map f) lo hi = (cutL xs lo hi).map f := by
  unfold cutL
  rw [List.length_map, List.map_take, List.map_drop]
theorem slL_d (xs : List α) (lo hi : Option Int) : slcD (eLi e xs) lo hi = some (eLi e (cutL xs lo hi)) := by
  show some (PyData.list (cutL (xs.map e) lo hi)) = _
  rw [cut_map]; rfl
theorem slN_d (xs : List α) (lo hi : Option Int) : slcL (eLi e xs) lo hi = some (eLi e (cutL xs lo hi)) := by
  show some (PyData.list (cutL (xs.map e) lo hi)) = _
  rw [cut_map]; rfl
theorem slT_d (xs : List α) (lo hi : Option Int) : slcD (eTu e xs) lo hi = some (eTu e (cutL xs lo hi)) := by
  show some (PyData.tuple (cutL (xs.map e) lo hi)) = _
  rw [cut_map]; rfl
def cutQ (z : Str) (lo hi : Option Int) : Option Str := if z.length ≤ sizeLine then some (cutS z lo hi) else none
theorem slS_d (z : Str) (lo hi : Option Int) (v : Str) (h : cutQ z lo hi = some v) : slcD (.str z) lo hi = some (.str v) := by
  unfold cutQ at h
  show (if z.length ≤ sizeLine then some (PyData.str (cutS z lo hi)) else none) = _
  split at h
  · rename_i c
    cases h
    exact if_pos c
  · cases h
def lenN (xs : List α) : Int := (xs.length : Int)
theorem lenL_d (xs : List α) : g1 lenD [eLi e xs] = some (.int (lenN xs)) := by
  show some (PyData.int (xs.map e).length) = _
  rw [List.length_map]; rfl
theorem lenT_d (xs : List α) : g1 lenD [eTu e xs] = some (.int (lenN xs)) := by
  show some (PyData.int (xs.map e).length) = _
  rw [List.length_map]; rfl
theorem sum_d (xs : List Int) : g1 sumD [eLi PyData.int xs] = some (.int xs.sum) := by
  show (intsOf (xs.map PyData.int)).map _ = _
  rw [intsOf_map]; rfl
theorem bools_map : ∀ xs : List Bool, boolsOf (xs.map PyData.bool) = some xs
  | [] => rfl
  | b :: xs => by
    show (boolsOf (xs.map PyData.bool)).map (b :: ·) = _
    rw [bools_map xs]; rfl
theorem all_d (xs : List Bool) : g1 allD [eLi PyData.bool xs] = some (.bool (xs.all id)) := by
  show (boolsOf (xs.map PyData.bool)).map _ = _
  rw [bools_map]; rfl
theorem any_d (xs : List Bool) : g1 anyD [eLi PyData.bool xs] = some (.bool (xs.any id)) := by
  show (boolsOf (xs.map PyData.bool)).map _ = _
  rw [bools_map]; rfl
theorem tupL_d (xs : List α) : g1 tupD [eLi e xs] = some (eTu e xs) := rfl
theorem tupT_d (xs : List α) : g1 tupD [eTu e xs] = some (eTu e xs) := rfl
theorem listL_d (xs : List α) : g1 listD [eLi e xs] = some (eLi e xs) := rfl
theorem listT_d (xs : List α) : g1 listD [eTu e xs] = some (eLi e xs) := rfl
theorem itL_d (xs : List α) : itemsD (eLi e xs) = some (xs.map e) := rfl
theorem itT_d (xs : List α) : itemsD (eTu e xs) = some (xs.map e) := rfl
theorem itD_d (xs : List (α × β)) : itemsD (eDi e e' xs) = some ((xs.map (·.1)).map e) := by
  show some ((xs.map fun p => (e p.1, e' p.2)).map (·.1)) = _
  rw [List.map_map, List.map_map]; rfl
def chN (z : Str) : List Str := z.cps.toList.map fun c => ⟨#[c]⟩
theorem itS_d (z : Str) : itemsD (.str z) = some ((chN z).map PyData.str) := by
  show some (z.cps.toList.map fun c => PyData.str ⟨#[c]⟩) = _
  unfold chN
  rw [List.map_map]; rfl
theorem revL_d (xs : List α) : revL (eLi e xs) = some (eLi e xs.reverse) := by
  show some (PyData.list (xs.map e).reverse) = _
  rw [← List.map_reverse]; rfl
def rgQ (i j : Int) : Option (List Int) := if rgB i j then some (rngN i (j - i).toNat) else none
theorem rg_d (i j : Int) (v : List Int) (h : rgQ i j = some v) : rgD (.int i) (.int j) = some (eLi PyData.int v) := by
  unfold rgQ at h
  show (if rgB i j then some (PyData.list (rngD i (j - i).toNat)) else none) = _
  split at h
  · rename_i c
    cases h
    rw [if_pos c, rng_map]; rfl
  · cases h
/-! ### sorted -/
def leE (e : α → D) (a b : α) : Bool := PySem.W.dataLe false id (e a) (e b)
structure Sg {α : Type} (e : α → D) : Prop where
  al : ∀ a b, PySem.W.alike (e a) (e b) = true
theorem sgI : Sg PyData.int := ⟨fun _ _ => by simp [PySem.W.alike]⟩
theorem sgS : Sg PyData.str := ⟨fun _ _ => by simp [PySem.W.alike]⟩
theorem alike_map (s : Sg e) : ∀ xs ys : List α, PySem.W.alikeAll (xs.map e) (ys.map e) = true
  | [], _ => by simp [PySem.W.alikeAll]
  | x :: xs, [] => by simp [PySem.W.alikeAll]
  | x :: xs, y :: ys => by
    simp only [List.map_cons, PySem.W.alikeAll, Bool.and_eq_true]
    exact ⟨s.al x y, alike_map s xs ys⟩
theorem sgT (s : Sg e) : Sg (eTu e) := ⟨fun a b => by simp only [eTu, PySem.W.alike]; exact alike_map s a b⟩
theorem sgL (s : Sg e) : Sg (eLi e) := ⟨fun a b => by simp only [eLi, PySem.W.alike]; exact alike_map s a b⟩
theorem sgP2 (s : Sg e) (t : Sg e') : Sg (eP2 e e') := ⟨fun a b => by simp [eP2, PySem.W.alike, PySem.W.alikeAll, s.al, t.al]⟩
theorem sgP3 (s : Sg e) (t : Sg e') (u : Sg e3) : Sg (eP3 e e' e3) := ⟨fun a b => by simp [eP3, PySem.W.alike, PySem.W.alikeAll, s.al, t.al, u.al]⟩
def atomB (d : D) : Bool := match d with | .tuple (_ :: _) => true | _ => false
def atomC (d : D) : Bool := match d with | .int _ => true | .str _ => true | .bool _ => true | _ => false
theorem sort_d (s : Sg e) (g : Gd e n) (hk : (∀ a, atomB (e a) = true) ∨ (∀ a, atomC (e a) = true)) (xs : List α) (hn : n ≤ 64 := by decide) : sortD (eLi e xs) = some (eLi e (xs.mergeSort (leE e))) := by
  show (if alikeB (xs.map e) && sortB (xs.map e) && (xs.map e).all (fun d => decide (d.depth ≤ 64)) then some (PyData.list (sortL (xs.map e))) else none) = _
  rw [if_pos]
  · unfold sortL
    have q := List.map_mergeSort (r := leE e) (s := PySem.W.dataLe false id) (f := e) (l := xs) (fun a _ b _ => rfl)
    unfold eLi
    rw [q]
  · have h1 : alikeB (xs.map e) = true := by
      unfold alikeB
      rw [List.all_map, List.all_eq_true]
      intro a _
      show ((xs.map e).all _) = true
      rw [List.all_map, List.all_eq_true]
      exact fun b _ => s.al a b
    have h2 : sortB (xs.map e) = true := by
      unfold sortB
      rw [Bool.or_eq_true, Bool.or_eq_true, List.all_map, List.all_map, List.all_eq_true, List.all_eq_true]
      rcases hk with h | h
      · exact .inl fun a _ => h a
      · exact .inr (.inl fun a _ => h a)
    have h3 : (xs.map e).all (fun d => decide (d.depth ≤ 64)) = true := by
      rw [List.all_map, List.all_eq_true]
      exact fun a _ => decide_eq_true (Nat.le_trans (g.dp a) hn)
    rw [h1, h2, h3]; rfl
def sortK (xs : List (Int × β)) : Option (List Int) := if xs.length < 64 then some ((xs.map (·.1)).mergeSort leI) else none
theorem sortK_d (xs : List (Int × β)) (v : List Int) (h : sortK xs = some v) : g1 sortKD [eDi PyData.int e' xs] = some (eLi PyData.int v) := by
  unfold sortK at h
  split at h
  · rename_i c
    cases h
    have q : intsOf ((xs.map fun p => (PyData.int p.1, e' p.2)).map (·.1)) = some (xs.map (·.1)) := by
      rw [List.map_map]
      have : ((·.1) ∘ fun p : Int × β => (PyData.int p.1, e' p.2)) = PyData.int ∘ (·.1) := rfl
      rw [this, ← List.map_map, intsOf_map]
    show (intsOf ((xs.map fun p => (PyData.int p.1, e' p.2)).map (·.1))).bind _ = _
    rw [q, Option.bind_some, if_pos (by rw [List.length_map]; exact c)]
    rfl
  · cases h
/-! ### dicts -/
def dGet [DecidableEq α] (xs : List (α × β)) (k : α) : Option β := (xs.find? fun p => decide (p.1 = k)).map (·.2)
def dHas [DecidableEq α] (xs : List (α × β)) (k : α) : Bool := (dGet xs k).isSome
def dPut [DecidableEq α] (xs : List (α × β)) (k : α) (v : β) : List (α × β) := if xs.any (fun p => decide (p.1 = k)) then xs.map (fun p => if p.1 = k then (p.1, v) else p) else xs ++ [(k, v)]
def dPutQ [DecidableEq α] (xs : List (α × β)) (k : α) (v : β) : Option (List (α × β)) := if xs.length < sizeLine then some (dPut xs k v) else none
/-- keys -/
structure Kg {α : Type} (e : α → D) (f : α → Key) : Prop where
  k : ∀ a, keyOf (e a) = some (f a)
  d : ∀ a, keyD (f a) = e a
  i : ∀ a b, f a = f b → a = b
theorem kgI : Kg PyData.int Sum.inl := ⟨fun _ => rfl, fun _ => rfl, fun a b h => by cases h; rfl⟩
theorem kgS : Kg PyData.str Sum.inr := ⟨fun _ => rfl, fun _ => rfl, fun a b h => by cases h; rfl⟩
variable {kf : α → Key}
theorem dget_map [DecidableEq α] (g : Kg e kf) (xs : List (α × β)) (k : α) : dget (xs.map fun p => (e p.1, e' p.2)) (kf k) = (dGet xs k).map e' := by
  unfold dget dGet
  have hf : ((fun p => decide (keyOf p.1 = some (kf k))) ∘ fun p : α × β => (e p.1, e' p.2)) = fun p => decide (p.1 = k) := by
    funext p
    simp only [Function.comp, g.k, Option.some.injEq]
    by_cases h : p.1 = k
    · simp [h]
    · have hn : ¬ kf p.1 = kf k := fun z => h (g.i _ _ z)
      simp [h, hn]
  rw [List.find?_map, Option.map_map, Option.map_map, hf]
  rfl
theorem ixD_d [DecidableEq α] (g : Kg e kf) (xs : List (α × β)) (k : α) (v : β) (h : dGet xs k = some v) : idxD (eDi e e' xs) (e k) = some (e' v) := by
  have q : idxD (eDi e e' xs) (e k) = (keyOf (e k)).bind (dget (xs.map fun p => (e p.1, e' p.2))) := by
    unfold idxD eDi
    cases e k <;> rfl
  rw [q, g.k, Option.bind_some, dget_map g, h]; rfl
theorem inD_d [DecidableEq α] (g : Kg e kf) (xs : List (α × β)) (k : α) : bD inD (e k) (eDi e e' xs) = some (.bool (dHas xs k)) := by
  show ((keyOf (e k)).map fun k => (dget (xs.map fun p => (e p.1, e' p.2)) k).isSome).map _ = _
  rw [g.k, Option.map_some, dget_map g, Option.isSome_map]; rfl
theorem notInD_d [DecidableEq α] (g : Kg e kf) (xs : List (α × β)) (k : α) : bD notInD (e k) (eDi e e' xs) = some (.bool (!dHas xs k)) := by
  show (((keyOf (e k)).map fun k => (dget (xs.map fun p => (e p.1, e' p.2)) k).isSome).map _).map _ = _
  rw [g.k, Option.map_some, dget_map g, Option.isSome_map]; rfl
theorem putD_d [DecidableEq α] (g : Kg e kf) (xs : List (α × β)) (k : α) (v : β) (w : List (α × β)) (h : dPutQ xs k v = some w) : setD (eDi e e' xs) (e k) (e' v) = some (eDi e e' w) := by
  unfold dPutQ at h
  split at h
  · rename_i c
    cases h
    have q : setD (eDi e e' xs) (e k) (e' v) = (keyOf (e k)).bind fun k => if (xs.map fun p => (e p.1, e' p.2)).length < sizeLine then some (.dict (dput (xs.map fun p => (e p.1, e' p.2)) k (e' v))) else none := by
      unfold setD eDi
      cases e k <;> rfl
    rw [q, g.k, Option.bind_some, List.length_map, if_pos c]
    have hd : ∀ p : α × β, decide (keyOf (e p.1) = some (kf k)) = decide (p.1 = k) := fun p => by
      simp only [g.k, Option.some.injEq]
      by_cases h : p.1 = k
      · simp [h]
      · have hn : ¬ kf p.1 = kf k := fun z => h (g.i _ _ z)
        simp [h, hn]
    congr 1
    unfold eDi dput dPut
    rw [List.any_map]
    have ha : (fun p => decide (keyOf p.1 = some (kf k))) ∘ (fun p : α × β => (e p.1, e' p.2)) = fun p => decide (p.1 = k) := by
      funext p
      exact hd p
    rw [ha]
    split
    · rw [List.map_map, List.map_map]
      congr 1
      apply List.map_congr_left
      intro p _
      simp only [Function.comp]
      have := hd p
      by_cases h : p.1 = k
      · rw [if_pos (by rw [h, g.k]), if_pos h]
      · rw [if_neg (fun z => h (g.i _ _ (by rw [g.k] at z; exact Option.some.inj z))), if_neg h]
    · rw [List.map_append, g.d]; rfl
  · cases h
def setQ (xs : List α) (i : Int) (v : α) : Option (List α) := (ixN xs.length i).map fun j => xs.set j v
theorem putL_d (xs : List α) (i : Int) (v : α) (w : List α) (h : setQ xs i v = some w) : setD (eLi e xs) (.int i) (e v) = some (eLi e w) := by
  unfold setQ at h
  obtain ⟨j, h1, rfl⟩ := msome h
  show (ixN (xs.map e).length i).map _ = _
  rw [List.length_map, h1, Option.map_some, ← List.map_set]; rfl
theorem erase_map (f : α → β) : ∀ (xs : List α) (i : Nat), (xs.map f).eraseIdx i = (xs.eraseIdx i).map f
  | [], _ => rfl
  | x :: xs, 0 => rfl
  | x :: xs, i + 1 => by simp [List.eraseIdx, erase_map f xs i]
/-! ### methods of own lists -/
variable {δ : List Sl} {fa : Fe} {o : Option γ} {r : γ → D × List Sl}
def appQ (xs : List α) (x : α) : Option (List α) := if xs.length < sizeLine then some (xs ++ [x]) else none
def extQ (xs ys : List α) : Option (List α) := if xs.length + ys.length ≤ sizeLine then some (xs ++ ys) else none
def popQ (xs : List α) : Option (α × List α) := (xs[xs.length - 1]?).map fun x => (x, xs.dropLast)
def popAtQ (xs : List α) (n : Int) : Option (α × List α) := if 0 ≤ n ∧ xs.length ≤ sizeLine then (xs[n.toNat]?).map fun x => (x, xs.eraseIdx n.toNat) else none
theorem vp_app (i : Nat) {xs : List α} {x : α} (h : VP fa δ (e x)) (hi : δ[i]? = some (.ow (eLi e xs)) := by rfl) : VN (fApp i fa) δ (appQ xs x) (fun ys => (.none, δ.set i (.ow (eLi e ys)))) := fun ys hy => by
  unfold appQ at hy
  have ho : ownL i δ = some (xs.map e) := by unfold ownL; rw [hi]; rfl
  unfold fApp
  rw [ho, Option.bind_some, show fa δ = some (e x, δ) from h, Option.bind_some, ho, Option.bind_some]
  split at hy
  · rename_i c
    cases hy
    rw [if_pos (by rw [List.length_map]; exact c)]
    show some (PyData.none, δ.set i (.ow (.list (xs.map e ++ [e x])))) = _
    simp [eLi]
  · cases hy
theorem vn_app (i : Nat) {xs0 : List α} {x : γ → α} {ys : γ → List α} (h : VN fa δ o r) (hx : ∀ w, (r w).1 = e (x w)) (hi : ∀ w, (r w).2[i]? = some (.ow (eLi e (ys w))) := by intro _; rfl) (hi0 : δ[i]? = some (.ow (eLi e xs0)) := by rfl) : VN (fApp i fa) δ (o.bind fun w => (appQ (ys w) (x w)).map fun v => (w, v)) (fun p => (.none, (r p.1).2.set i (.ow (eLi e p.2)))) := fun p hp => by
  obtain ⟨w, hw, hp⟩ := bsome hp
  obtain ⟨v, hv, rfl⟩ := msome hp
  unfold appQ at hv
  have ho0 : ownL i δ = some (xs0.map e) := by unfold ownL; rw [hi0]; rfl
  have ho : ownL i (r w).2 = some ((ys w).map e) := by unfold ownL; rw [hi w]; rfl
  unfold fApp
  rw [ho0, Option.bind_some, h w hw, Option.bind_some, ho, Option.bind_some]
  split at hv
  · rename_i c
    cases hv
    rw [if_pos (by rw [List.length_map]; exact c)]
    show some (PyData.none, (r w).2.set i (.ow (.list ((ys w).map e ++ [(r w).1])))) = _
    simp [eLi, hx w]
  · cases hv
theorem vp_ext (i : Nat) {xs ys : List α} (h : VP fa δ (eLi e ys)) (hi : δ[i]? = some (.ow (eLi e xs)) := by rfl) : VN (fExt i fa) δ (extQ xs ys) (fun ys => (.none, δ.set i (.ow (eLi e ys)))) := fun zs hy => by
  unfold extQ at hy
  have ho : ownL i δ = some (xs.map e) := by unfold ownL; rw [hi]; rfl
  unfold fExt
  rw [ho, Option.bind_some, show fa δ = some (.list (ys.map e), δ) from h, Option.bind_some]
  show (ownL i δ).bind _ = _
  rw [ho, Option.bind_some]
  split at hy
  · rename_i c
    cases hy
    rw [if_pos (by rw [List.length_map, List.length_map]; exact c)]
    show some (PyData.none, δ.set i (.ow (.list (xs.map e ++ ys.map e)))) = _
    simp [eLi]
  · cases hy
theorem vn_ext (i : Nat) {xs0 : List α} {x ys : γ → List α} (h : VN fa δ o r) (hx : ∀ w, (r w).1 = eLi e (x w)) (hi : ∀ w, (r w).2[i]? = some (.ow (eLi e (ys w))) := by intro _; rfl) (hi0 : δ[i]? = some (.ow (eLi e xs0)) := by rfl) : VN (fExt i fa) δ (o.bind fun w => (extQ (ys w) (x w)).map fun v => (w, v)) (fun p => (.none, (r p.1).2.set i (.ow (eLi e p.2)))) := fun p hp => by
  obtain ⟨w, hw, hp⟩ := bsome hp
  obtain ⟨v, hv, rfl⟩ := msome hp
  unfold extQ at hv
  have ho0 : ownL i δ = some (xs0.map e) := by unfold ownL; rw [hi0]; rfl
  have ho : ownL i (r w).2 = some ((ys w).map e) := by unfold ownL; rw [hi w]; rfl
  unfold fExt
  rw [ho0, Option.bind_some, h w hw, Option.bind_some, show r w = (.list ((x w).map e), (r w).2) from by rw [show PyData.list ((x w).map e) = (r w).1 from (hx w).symm]]
  show (ownL i (r w).2).bind _ = _
  rw [ho, Option.bind_some]
  split at hv
  · rename_i c
    cases hv
    rw [if_pos (by rw [List.length_map, List.length_map]; exact c)]
    show some (PyData.none, (r w).2.set i (.ow (.list ((ys w).map e ++ (x w).map e)))) = _
    simp [eLi]
  · cases hv
theorem vp_pop (i : Nat) {xs : List α} (hi : δ[i]? = some (.ow (eLi e xs)) := by rfl) : VN (fPop i) δ (popQ xs) (fun p => (e p.1, δ.set i (.ow (eLi e p.2)))) := fun p hp => by
  unfold popQ at hp
  obtain ⟨x, h1, rfl⟩ := msome hp
  have ho : ownL i δ = some (xs.map e) := by unfold ownL; rw [hi]; rfl
  unfold fPop
  rw [ho, Option.bind_some, List.length_map, List.getElem?_map, h1]
  show some (e x, δ.set i (.ow (.list (xs.map e).dropLast))) = _
  simp [eLi, List.map_dropLast]
theorem vp_popAt (i : Nat) {xs : List α} {m : Int} (h : VP fa δ (.int m)) (hi : δ[i]? = some (.ow (eLi e xs)) := by rfl) : VN (fPopAt i fa) δ (popAtQ xs m) (fun p => (e p.1, δ.set i (.ow (eLi e p.2)))) := fun p hp => by
  unfold popAtQ at hp
  have ho : ownL i δ = some (xs.map e) := by unfold ownL; rw [hi]; rfl
  split at hp
  · rename_i c
    obtain ⟨x, h1, rfl⟩ := msome hp
    unfold fPopAt
    rw [ho, Option.bind_some, show fa δ = some (.int m, δ) from h, Option.bind_some]
    show (ownL i δ).bind _ = _
    rw [ho, Option.bind_some, if_pos (by rw [List.length_map]; exact c), List.getElem?_map, h1]
    show some (e x, δ.set i (.ow (.list ((xs.map e).eraseIdx m.toNat)))) = _
    simp [eLi, erase_map]
  · cases hp
theorem vn_popAt (i : Nat) {xs0 : List α} {ys : γ → List α} {m : γ → Int} (h : VN fa δ o r) (hx : ∀ w, (r w).1 = .int (m w)) (hi : ∀ w, (r w).2[i]? = some (.ow (eLi e (ys w))) := by intro _; rfl) (hi0 : δ[i]? = some (.ow (eLi e xs0)) := by rfl) : VN (fPopAt i fa) δ (o.bind fun w => (popAtQ (ys w) (m w)).map fun v => (w, v)) (fun p => (e p.2.1, (r p.1).2.set i (.ow (eLi e p.2.2)))) := fun p hp => by
  obtain ⟨w, hw, hp⟩ := bsome hp
  obtain ⟨v, hv, rfl⟩ := msome hp
  unfold popAtQ at hv
  have ho0 : ownL i δ = some (xs0.map e) := by unfold ownL; rw [hi0]; rfl
  have ho : ownL i (r w).2 = some ((ys w).map e) := by unfold ownL; rw [hi w]; rfl
  split at hv
  · rename_i c
    obtain ⟨x, h1, rfl⟩ := msome hv
    unfold fPopAt
    rw [ho0, Option.bind_some, h w hw, Option.bind_some, show r w = (.int (m w), (r w).2) from by rw [← hx w]]
    show (ownL i (r w).2).bind _ = _
    rw [ho, Option.bind_some, if_pos (by rw [List.length_map]; exact c), List.getElem?_map, h1]
    show some (e x, (r w).2.set i (.ow (.list (((ys w).map e).eraseIdx (m w).toNat)))) = _
    simp [eLi, erase_map]
  · cases hv
theorem vn_as {z : γ → D} {f : Fe} (h : VN f δ o r) (e : ∀ x, (r x).1 = z x) : VN f δ o (fun x => (z x, (r x).2)) := fun x hx => by
  rw [h x hx]
  show some (r x) = some (z x, (r x).2)
  rw [← e x]
theorem vn_cq {q : γ → Option β} {e : β → D} {f : Fe} (h : VN f δ o r) (hr : ∀ x v, q x = some v → (r x).1 = e v) : VN f δ (o.bind fun x => (q x).map fun v => (x, v)) (fun p => (e p.2, (r p.1).2)) := fun p hp => by
  obtain ⟨x, hx, hp⟩ := bsome hp
  obtain ⟨v, hv, rfl⟩ := msome hp
  rw [h x hx]
  show some (r x) = some (e v, (r x).2)
  rw [← hr x v hv]
theorem tn_of {ga : Fb} {s : Bool} (h : TP ga δ s) {v : β} {r' : β → Bool × List Sl} (e : (s, δ) = r' v) : TN ga δ (some v) r' := fun y hy => by
  cases hy
  exact (show ga δ = some (s, δ) from h).trans (by rw [e])
theorem coL {f : α → β} (h : ∀ x, e x = e' (f x)) (xs : List α) : eLi e xs = eLi e' (xs.map f) := by
  unfold eLi
  rw [List.map_map]
  exact congrArg PyData.list (List.map_congr_left fun x _ => h x)
theorem coT {f : α → β} (h : ∀ x, e x = e' (f x)) (xs : List α) : eTu e xs = eTu e' (xs.map f) := by
  unfold eTu
  rw [List.map_map]
  exact congrArg PyData.tuple (List.map_congr_left fun x _ => h x)
theorem coP2 {α' β' : Type} {u : α' → D} {w : β' → D} {f : α → α'} {g : β → β'} (h1 : ∀ x, e x = u (f x)) (h2 : ∀ x, e' x = w (g x)) (p : α × β) : eP2 e e' p = eP2 u w (f p.1, g p.2) := by
  unfold eP2
  rw [h1, h2]
theorem coP3 {α' β' γ' : Type} {u : α' → D} {w : β' → D} {y : γ' → D} {f : α → α'} {g : β → β'} {k : γ → γ'} (h1 : ∀ x, e x = u (f x)) (h2 : ∀ x, e' x = w (g x)) (h3 : ∀ x, e3 x = y (k x)) (p : α × β × γ) : eP3 e e' e3 p = eP3 u w y (f p.1, g p.2.1, k p.2.2) := by
  unfold eP3
  rw [h1, h2, h3]
theorem coPT1 {w : τ → D} {f : α → τ} (h1 : ∀ x, e x = w (f x)) (p : α) : eP1 e p = eTu w [f p] := by
  unfold eP1 eTu
  rw [h1]; rfl
theorem coPT2 {w : τ → D} {f : α → τ} {g : β → τ} (h1 : ∀ x, e x = w (f x)) (h2 : ∀ x, e' x = w (g x)) (p : α × β) : eP2 e e' p = eTu w [f p.1, g p.2] := by
  unfold eP2 eTu
  rw [h1, h2]; rfl
theorem coPT3 {w : τ → D} {f : α → τ} {g : β → τ} {k : γ → τ} (h1 : ∀ x, e x = w (f x)) (h2 : ∀ x, e' x = w (g x)) (h3 : ∀ x, e3 x = w (k x)) (p : α × β × γ) : eP3 e e' e3 p = eTu w [f p.1, g p.2.1, k p.2.2] := by
  unfold eP3 eTu
  rw [h1, h2, h3]; rfl
theorem coPT4 {w : τ → D} {f : α → τ} {g : β → τ} {k : γ → τ} {l : κ → τ} (h1 : ∀ x, e x = w (f x)) (h2 : ∀ x, e' x = w (g x)) (h3 : ∀ x, e3 x = w (k x)) (h4 : ∀ x, e4 x = w (l x)) (p : α × β × γ × κ) : eP4 e e' e3 e4 p = eTu w [f p.1, g p.2.1, k p.2.2.1, l p.2.2.2] := by
  unfold eP4 eTu
  rw [h1, h2, h3, h4]; rfl
theorem coPT7 {α1 α2 α3 α4 α5 α6 α7 : Type} {e1 : α1 → D} {e2 : α2 → D} {e3 : α3 → D} {e4 : α4 → D} {e5 : α5 → D} {e6 : α6 → D} {e7 : α7 → D} {w : τ → D} {f1 : α1 → τ} {f2 : α2 → τ} {f3 : α3 → τ} {f4 : α4 → τ} {f5 : α5 → τ} {f6 : α6 → τ} {f7 : α7 → τ} (h1 : ∀ x, e1 x = w (f1 x)) (h2 : ∀ x, e2 x = w (f2 x)) (h3 : ∀ x, e3 x = w (f3 x)) (h4 : ∀ x, e4 x = w (f4 x)) (h5 : ∀ x, e5 x = w (f5 x)) (h6 : ∀ x, e6 x = w (f6 x)) (h7 : ∀ x, e7 x = w (f7 x)) (p : α1 × α2 × α3 × α4 × α5 × α6 × α7) : eP7 e1 e2 e3 e4 e5 e6 e7 p = eTu w [f1 p.1, f2 p.2.1, f3 p.2.2.1, f4 p.2.2.2.1, f5 p.2.2.2.2.1, f6 p.2.2.2.2.2.1, f7 p.2.2.2.2.2.2] := by
  unfold eP7 eTu
  rw [h1, h2, h3, h4, h5, h6, h7]; rfl
theorem catN_d (a b v : List α) (h : catQ a b = some v) : addL (eLi e a) (eLi e b) = some (eLi e v) := by
  unfold catQ at h
  show (if (a.map e).length + (b.map e).length ≤ sizeLine then some (PyData.list (a.map e ++ b.map e)) else none) = _
  split at h
  · rename_i c
    cases h
    rw [List.length_map, List.length_map, if_pos c, ← List.map_append]; rfl
  · cases h
theorem repN_d (xs : List α) (k : Int) (v : List α) (h : repQ xs k = some v) : mulL (eLi e xs) (.int k) = some (eLi e v) := by
  unfold repQ at h
  show (if decide (0 ≤ k) && decide (k < 2 ^ 62) && decide ((xs.map e).length * k.toNat ≤ sizeLine) then some (PyData.list (List.replicate k.toNat (xs.map e)).flatten) else none) = _
  split at h
  · rename_i c
    cases h
    rw [List.length_map, if_pos c, map_flat]; rfl
  · cases h
/-! ### data back to types -/
def asI : D → Option Int | .int i => some i | _ => none
def asB : D → Option Bool | .bool i => some i | _ => none
def asS : D → Option Str | .str i => some i | _ => none
def asL (f : D → Option α) : D → Option (List α) | .list ds => ds.mapM f | _ => none
def asT (f : D → Option α) : D → Option (List α) | .tuple ds => ds.mapM f | _ => none
theorem asI_d (d : D) (v : Int) (h : asI d = some v) : d = .int v := by
  cases d <;> first | cases h; rfl | cases h
theorem asB_d (d : D) (v : Bool) (h : asB d = some v) : d = .bool v := by
  cases d <;> first | cases h; rfl | cases h
theorem asS_d (d : D) (v : Str) (h : asS d = some v) : d = .str v := by
  cases d <;> first | cases h; rfl | cases h
theorem mapM_d {f : D → Option α} (hf : ∀ d v, f d = some v → d = e v) : ∀ (ds : List D) (vs : List α), ds.mapM f = some vs → ds = vs.map e
  | [], vs, h => by simp at h; subst h; rfl
  | d :: ds, vs, h => by
    rw [List.mapM_cons] at h
    obtain ⟨v, h1, h⟩ := bsome h
    obtain ⟨ws, h2, h⟩ := bsome h
    cases h
    rw [hf d v h1, mapM_d hf ds ws h2]; rfl
theorem asL_d {f : D → Option α} (hf : ∀ d v, f d = some v → d = e v) (d : D) (v : List α) (h : asL f d = some v) : d = eLi e v := by
  cases d with
  | list ds => exact congrArg PyData.list (mapM_d hf ds v h)
  | _ => cases h
theorem asT_d {f : D → Option α} (hf : ∀ d v, f d = some v → d = e v) (d : D) (v : List α) (h : asT f d = some v) : d = eTu e v := by
  cases d with
  | tuple ds => exact congrArg PyData.tuple (mapM_d hf ds v h)
  | _ => cases h
def asP2 (f : D → Option α) (g : D → Option β) : D → Option (α × β) | .tuple [a, b] => (f a).bind fun x => (g b).map fun y => (x, y) | _ => none
theorem asP2_d {f : D → Option α} {g : D → Option β} (hf : ∀ d v, f d = some v → d = e v) (hg : ∀ d v, g d = some v → d = e' v) (d : D) (v : α × β) (h : asP2 f g d = some v) : d = eP2 e e' v := by
  unfold asP2 at h
  split at h
  · obtain ⟨x, h1, h⟩ := bsome h
    obtain ⟨y, h2, rfl⟩ := msome h
    rw [hf _ _ h1, hg _ _ h2]; rfl
  · cases h
theorem mapM_map {f : D → Option β} (hf : ∀ d v, f d = some v → d = e' v) : ∀ (ds : List D) (vs : List β), ds.mapM f = some vs → ds.map eD = vs.map e'
  | [], vs, h => by simp at h; subst h; rfl
  | d :: ds, vs, h => by
    rw [List.mapM_cons] at h
    obtain ⟨v, h1, h⟩ := bsome h
    obtain ⟨ws, h2, h⟩ := bsome h
    cases h
    rw [List.map_cons, List.map_cons, mapM_map hf ds ws h2, ← hf d v h1]; rfl
theorem dnL {f : D → Option β} (hf : ∀ d v, f d = some v → d = e' v) (ds : List D) (v : List β) (h : List.mapM f ds = some v) : eLi eD ds = eLi e' v := congrArg PyData.list (mapM_map hf ds v h)
theorem dnT {f : D → Option β} (hf : ∀ d v, f d = some v → d = e' v) (ds : List D) (v : List β) (h : List.mapM f ds = some v) : eTu eD ds = eTu e' v := congrArg PyData.tuple (mapM_map hf ds v h)
theorem itLn_d {f : D → Option β} (hf : ∀ d v, f d = some v → d = e' v) (ds : List D) (v : List β) (h : List.mapM f ds = some v) : itemsD (eLi eD ds) = some (v.map e') := congrArg some (mapM_map hf ds v h)
theorem itTn_d {f : D → Option β} (hf : ∀ d v, f d = some v → d = e' v) (ds : List D) (v : List β) (h : List.mapM f ds = some v) : itemsD (eTu eD ds) = some (v.map e') := congrArg some (mapM_map hf ds v h)
theorem itDn_d {f : D → Option β} (hf : ∀ d v, f d = some v → d = e' v) (d : D) (v : List β) (h : (itemsD d).bind (List.mapM f) = some v) : itemsD d = some (v.map e') := by
  obtain ⟨ds, h1, h2⟩ := bsome h
  have := mapM_map hf ds v h2
  rw [h1, ← this]
  congr 1
  exact (List.map_id ds).symm
theorem itDD_d (d : D) (v : List D) (h : itemsD d = some v) : itemsD d = some (v.map eD) := by
  rw [h]
  congr 1
  exact (List.map_id v).symm
theorem rawI (o : Option D) (v : Int) (h : o.bind asI = some v) : o = some (.int v) := by
  obtain ⟨d, h1, h2⟩ := bsome h
  rw [h1, asI_d d v h2]
theorem rawBl (o : Option D) (v : Bool) (h : o.bind asB = some v) : o = some (.bool v) := by
  obtain ⟨d, h1, h2⟩ := bsome h
  rw [h1, asB_d d v h2]
def sortQ (ds : List D) : Option (List D) := if alikeB ds && sortB ds && ds.all (fun d => decide (d.depth ≤ 64)) then some (sortL ds) else none
theorem mapeD (ds : List D) : ds.map eD = ds := List.map_id ds
theorem sortQ_d (ds v : List D) (h : sortQ ds = some v) : g1 sortD [eLi eD ds] = some (eLi eD v) := by
  unfold sortQ at h
  show (if alikeB (ds.map eD) && sortB (ds.map eD) && (ds.map eD).all (fun d => decide (d.depth ≤ 64)) then some (PyData.list (sortL (ds.map eD))) else none) = _
  rw [mapeD]
  split at h
  · rename_i c
    cases h
    rw [if_pos c]
    unfold eLi
    rw [mapeD]
  · cases h
/-! the deck -/
def deckN (ns : List Int) : Dk := ⟨deckOf ns, mixOf ns, 0⟩
def drawN (k : Dk) (M : Int) : Option (Int × Dk) := match φDraw [sDk k, .fz (.int M)] with
  | some (.int r, [.dk cs m n, .fz (.int M')]) => if M' = M then some (r, ⟨cs, m, n⟩) else none
  | _ => none
theorem n_draw0 (k : Dk) (M : Int) : ∀ v, drawN k M = some v → φDraw [sDk k, .fz (.int M)] = some (.int v.1, [sDk v.2, .fz (.int M)]) := fun v h => by
  unfold drawN at h
  split at h
  · rename_i r cs m n M' e
    split at h
    · rename_i c
      cases h
      subst c
      exact e
    · cases h
  · cases h
theorem drawN_ok (k : Dk) (M : Int) (hM : 0 < M) (hM2 : M < 2 ^ 30) (hc : k.cs.length ≤ 63) : ∃ r k', drawN k M = some (r, k') ∧ 0 ≤ r ∧ r < M ∧ k'.cs.length ≤ 63 := by
  obtain ⟨r, cs', n', h1, h2, h3, h4⟩ := draw_ok k.cs k.m k.n M hM hM2 hc
  refine ⟨r, ⟨cs', k.m, n'⟩, ?_, h1, h2, h3⟩
  unfold drawN
  show (match φDraw [.dk k.cs k.m k.n, .fz (.int M)] with | some (.int r, [.dk cs m n, .fz (.int M')]) => if M' = M then some (r, (⟨cs, m, n⟩ : Dk)) else none | _ => none) = _
  rw [h4]
  exact if_pos rfl
theorem sb_deck {i j : Nat} {as : List Sl} {g' : Fg} {o : Option β} {r : β → Oc} {ns : List Int} (k : SB as g' (δ.set i (sDk (deckN ns))) o r) (hj : δ[j]? = some (.scr ns) := by rfl) (hi : decide (i < δ.length) = true := by rfl) : SB as (sSeq (sDeck i j) g') δ o r := fun v hv => by
  rw [sseq_nx (δ1 := δ.set i (sDk (deckN ns)))]
  · exact k v hv
  · unfold sDeck
    rw [hj]
    exact if_pos (of_decide_eq_true hi)
theorem vp_dct0 : VP fDct δ (eDi e e' []) := rfl
def PPr (f : List Sl → Option (List (D × D) × List Sl)) (δ : List Sl) (ds : List (D × D)) : Prop := f δ = some (ds, δ)
theorem pp_nil : PPr pNil δ [] := rfl
theorem pp_cons {fk fv : Fe} {fr : List Sl → Option (List (D × D) × List Sl)} {k v : D} {ds : List (D × D)} (hk : VP fk δ k) (hv : VP fv δ v) (hr : PPr fr δ ds) : PPr (pCons fk fv fr) δ ((k, v) :: ds) := by
  unfold PPr pCons
  rw [show fk δ = some (k, δ) from hk, Option.bind_some, show fv δ = some (v, δ) from hv, Option.bind_some, show fr δ = some (ds, δ) from hr]
  rfl
theorem vp_disp {fr : List Sl → Option (List (D × D) × List Sl)} {ds : List (D × D)} {ks : List Key} (h : PPr fr δ ds) (hk : keysOf ds = some ks) (hl : decide (ks.length ≤ 15) = true := by rfl) : VP (fDisp fr) δ (.dict ds) := by
  unfold VP fDisp
  rw [show fr δ = some (ds, δ) from h, Option.bind_some, hk, Option.bind_some]
  exact if_pos (of_decide_eq_true hl)
def asP3 (f : D → Option α) (g : D → Option β) (h : D → Option γ) : D → Option (α × β × γ) | .tuple [a, b, c] => (f a).bind fun x => (g b).bind fun y => (h c).map fun z => (x, y, z) | _ => none
theorem asP3_d {f : D → Option α} {g : D → Option β} {h : D → Option γ} (hf : ∀ d v, f d = some v → d = e v) (hg : ∀ d v, g d = some v → d = e' v) (hh : ∀ d v, h d = some v → d = e3 v) (d : D) (v : α × β × γ) (q : asP3 f g h d = some v) : d = eP3 e e' e3 v := by
  unfold asP3 at q
  split at q
  · obtain ⟨x, h1, q⟩ := bsome q
    obtain ⟨y, h2, q⟩ := bsome q
    obtain ⟨z, h3, rfl⟩ := msome q
    rw [hf _ _ h1, hg _ _ h2, hh _ _ h3]; rfl
  · cases q
def asP4 (f : D → Option α) (g : D → Option β) (h : D → Option γ) (i : D → Option κ) : D → Option (α × β × γ × κ) | .tuple [a, b, c, d] => (f a).bind fun x => (g b).bind fun y => (h c).bind fun z => (i d).map fun u => (x, y, z, u) | _ => none
theorem asP4_d {f : D → Option α} {g : D → Option β} {h : D → Option γ} {i : D → Option κ} (hf : ∀ d v, f d = some v → d = e v) (hg : ∀ d v, g d = some v → d = e' v) (hh : ∀ d v, h d = some v → d = e3 v) (hi : ∀ d v, i d = some v → d = e4 v) (d : D) (v : α × β × γ × κ) (q : asP4 f g h i d = some v) : d = eP4 e e' e3 e4 v := by
  unfold asP4 at q
  split at q
  · obtain ⟨x, h1, q⟩ := bsome q
    obtain ⟨y, h2, q⟩ := bsome q
    obtain ⟨z, h3, q⟩ := bsome q
    obtain ⟨u, h4, rfl⟩ := msome q
    rw [hf _ _ h1, hg _ _ h2, hh _ _ h3, hi _ _ h4]; rfl
  · cases q
def asP5 (f : D → Option α) (g : D → Option β) (h : D → Option γ) (i : D → Option κ) (j : D → Option μ) : D → Option (α × β × γ × κ × μ) | .tuple [a, b, c, d, k] => (f a).bind fun x => (g b).bind fun y => (h c).bind fun z => (i d).bind fun u => (j k).map fun w => (x, y, z, u, w) | _ => none
theorem asP5_d {f : D → Option α} {g : D → Option β} {h : D → Option γ} {i : D → Option κ} {j : D → Option μ} (hf : ∀ d v, f d = some v → d = e v) (hg : ∀ d v, g d = some v → d = e' v) (hh : ∀ d v, h d = some v → d = e3 v) (hi : ∀ d v, i d = some v → d = e4 v) (hj : ∀ d v, j d = some v → d = e5 v) (d : D) (v : α × β × γ × κ × μ) (q : asP5 f g h i j d = some v) : d = eP5 e e' e3 e4 e5 v := by
  unfold asP5 at q
  split at q
  · obtain ⟨x, h1, q⟩ := bsome q
    obtain ⟨y, h2, q⟩ := bsome q
    obtain ⟨z, h3, q⟩ := bsome q
    obtain ⟨u, h4, q⟩ := bsome q
    obtain ⟨w, h5, rfl⟩ := msome q
    rw [hf _ _ h1, hg _ _ h2, hh _ _ h3, hi _ _ h4, hj _ _ h5]; rfl
  · cases q
/-! raw operations -/
theorem raw (o : Option D) (v : D) (h : o = some v) : o = some (eD v) := h
theorem rawB (o : Option Bool) (v : Bool) (h : o = some v) : o.map PyData.bool = some (.bool v) := by rw [h]; rfl
end
end Z

/-! N4: every other one, pairs. -/
namespace Z
open PySem PySem.Spec PyProof.Rows L2
variable {α β : Type}
/-- every other one from k on -/
def stpN (k : Nat) (xs : List α) : List α := evry (xs.drop k)
theorem stL_d (e : α → D) (xs : List α) (lo hi : Option Int) (k : Nat) (h : loN lo = some k) : stpD (eLi e xs) lo hi = some (eLi e (stpN k xs)) := by
  show (loN lo).map (fun k => PyData.list (evry ((xs.map e).drop k))) = _
  rw [h, Option.map_some, ← List.map_drop, evry_map]
  rfl
theorem stT_d (e : α → D) (xs : List α) (lo hi : Option Int) (k : Nat) (h : loN lo = some k) : stpD (eTu e xs) lo hi = some (eTu e (stpN k xs)) := by
  show (loN lo).map (fun k => PyData.tuple (evry ((xs.map e).drop k))) = _
  rw [h, Option.map_some, ← List.map_drop, evry_map]
  rfl
theorem stN_d (e : α → D) (xs : List α) (lo hi : Option Int) (k : Nat) (h : loN lo = some k) : stpL (eLi e xs) lo hi = some (eLi e (stpN k xs)) := by
  show (loN lo).map (fun k => PyData.list (evry ((xs.map e).drop k))) = _
  rw [h, Option.map_some, ← List.map_drop, evry_map]
  rfl
theorem pairs_map (e : α → D) (e' : β → D) : ∀ (xs : List α) (ys : List β), ((xs.map e).zip (ys.map e')).map pairD = (xs.zip ys).map (eP2 e e')
  | [], _ => rfl
  | _ :: _, [] => rfl
  | x :: xs, y :: ys => by
    show pairD (e x, e' y) :: ((xs.map e).zip (ys.map e')).map pairD = eP2 e e' (x, y) :: (xs.zip ys).map (eP2 e e')
    rw [pairs_map e e' xs ys]
    rfl
theorem zipLL_d (e : α → D) (e' : β → D) (xs : List α) (ys : List β) : zipLD [eLi e xs, eLi e' ys] = some (eLi (eP2 e e') (xs.zip ys)) := congrArg (fun z => some (PyData.list z)) (pairs_map e e' xs ys)
theorem zipTT_d (e : α → D) (e' : β → D) (xs : List α) (ys : List β) : zipLD [eTu e xs, eTu e' ys] = some (eLi (eP2 e e') (xs.zip ys)) := congrArg (fun z => some (PyData.list z)) (pairs_map e e' xs ys)
theorem zipLT_d (e : α → D) (e' : β → D) (xs : List α) (ys : List β) : zipLD [eLi e xs, eTu e' ys] = some (eLi (eP2 e e') (xs.zip ys)) := congrArg (fun z => some (PyData.list z)) (pairs_map e e' xs ys)
theorem zipTL_d (e : α → D) (e' : β → D) (xs : List α) (ys : List β) : zipLD [eTu e xs, eLi e' ys] = some (eLi (eP2 e e') (xs.zip ys)) := congrArg (fun z => some (PyData.list z)) (pairs_map e e' xs ys)
end Z

namespace Z
open PySem PySem.Spec PyProof.Rows L2
/-! N5: natives of counting -/
def cntN (xs : List Int) (k : Int) : Int := (xs.count k : Nat)
theorem cntN_d (xs : List Int) (k : Int) : cntD (eLi PyData.int xs) (.int k) = some (.int (cntN xs k)) := by
  show (intsOf (xs.map PyData.int)).map _ = _
  rw [intsOf_map]
  rfl
def scntQ (c : Int) (xs : List Int) (lo hi : Option Int) : Option Int := if HT.sIx xs.length 0 lo = 0 ∧ HT.sIx xs.length xs.length hi = xs.length then none else some ((cutL xs lo hi).count c : Nat)
theorem scntQ_d (c : Int) (xs : List Int) (lo hi : Option Int) (v : Int) (h : scntQ c xs lo hi = some v) : scntD c (eTu PyData.int xs) lo hi = some (.int v) := by
  unfold scntQ at h
  split at h
  · cases h
  · rename_i hw
    cases h
    show (if HT.sIx (xs.map PyData.int).length 0 lo = 0 ∧ HT.sIx (xs.map PyData.int).length (xs.map PyData.int).length hi = (xs.map PyData.int).length then none else (intsOf (cutL (xs.map PyData.int) lo hi)).map fun ns => (PyData.int (ns.count c : Nat))) = _
    rw [List.length_map, if_neg hw]
    have e : cutL (xs.map PyData.int) lo hi = (cutL xs lo hi).map PyData.int := by
      unfold cutL
      rw [List.length_map, List.map_take, List.map_drop]
    rw [e, intsOf_map]
    rfl
end Z
namespace Z
open PySem PySem.Spec PyProof.Rows L2
theorem lenK_d {α β : Type} {e : α → D} {e' : β → D} (xs : List (α × β)) : g1 lenKD [eDi e e' xs] = some (.int (lenN xs)) := by
  show some (PyData.int (xs.map fun p => (e p.1, e' p.2)).length) = _
  rw [List.length_map]
  rfl
end Z

namespace Z
open PySem PySem.Spec PyProof.Rows L2
/-! what a native answers -/
def Wt {α : Type} (o : Option α) (P : α → Prop) : Prop := ∃ a, o = some a ∧ P a
variable {α β γ σ ι τ ρ : Type}
theorem Wt.mon {o : Option α} {P Q : α → Prop} (h : Wt o P) (q : ∀ a, P a → Q a) : Wt o Q := by
  obtain ⟨a, e, p⟩ := h
  exact ⟨a, e, q a p⟩
theorem wt_some {a : α} {P : α → Prop} (h : P a) : Wt (some a) P := ⟨a, rfl, h⟩
theorem wt_bind {o : Option α} {k : α → Option β} {P : β → Prop} (h : Wt o fun a => Wt (k a) P) : Wt (o.bind k) P := by
  obtain ⟨a, rfl, b, e, p⟩ := h
  exact ⟨b, e, p⟩
theorem wt_map {o : Option α} {k : α → β} {P : β → Prop} (h : Wt o fun a => P (k a)) : Wt (o.map k) P := by
  obtain ⟨a, rfl, p⟩ := h
  exact ⟨_, rfl, p⟩
theorem wt_letC {v : α} {k : α → Option β} {P : β → Prop} (h : Wt (k v) P) : Wt (letC v k) P := h
theorem wt_ite {c : Bool} {a b : Option α} {P : α → Prop} (h1 : c = true → Wt a P) (h2 : c = false → Wt b P) : Wt (if c then a else b) P := by
  cases c
  · exact h2 rfl
  · exact h1 rfl
theorem wt_iteP {c : Prop} [Decidable c] {a b : Option α} {P : α → Prop} (h1 : c → Wt a P) (h2 : ¬ c → Wt b P) : Wt (if c then a else b) P := by
  by_cases d : c
  · rw [if_pos d]; exact h1 d
  · rw [if_neg d]; exact h2 d
theorem wt_draw {k : Dk} {M : Int} {P : Int × Dk → Prop} (hc : k.cs.length ≤ 63) (hM : 0 < M) (hM2 : M < 2 ^ 30) (h : ∀ r k', 0 ≤ r → r < M → k'.cs.length ≤ 63 → P (r, k')) : Wt (drawN k M) P := by
  obtain ⟨r, k', e, h1, h2, h3⟩ := drawN_ok k M hM hM2 hc
  exact ⟨_, e, h r k' h1 h2 h3⟩
theorem atI_some (xs : List α) (i : Int) (h0 : 0 ≤ i) (h1 : i < xs.length) : ∃ h : i.toNat < xs.length, atI xs i = some (xs[i.toNat]'h) := by
  refine ⟨by omega, ?_⟩
  unfold atI ixN
  rw [if_pos h0, if_pos h1]
  exact List.getElem?_eq_getElem _
theorem wt_at {xs : List α} {i : Int} {P : α → Prop} (h0 : 0 ≤ i) (h1 : i < xs.length) (h : ∀ x ∈ xs, P x) : Wt (atI xs i) P := by
  obtain ⟨c, e⟩ := atI_some xs i h0 h1
  exact ⟨_, e, h _ (List.getElem_mem _)⟩
theorem wt_atv {xs : List α} {i : Int} {P : α → Prop} (h0 : 0 ≤ i) (h1 : i < xs.length) (h : ∀ hh : i.toNat < xs.length, P (xs[i.toNat]'hh)) : Wt (atI xs i) P := by
  obtain ⟨c, e⟩ := atI_some xs i h0 h1
  exact ⟨_, e, h _⟩
theorem wt_set {xs : List α} {i : Int} {v : α} {P : List α → Prop} (h0 : 0 ≤ i) (h1 : i < xs.length) (h : P (xs.set i.toNat v)) : Wt (setQ xs i v) P := by
  unfold setQ ixN
  rw [if_pos h0, if_pos h1]
  exact ⟨_, rfl, h⟩
theorem sz_big : 1000000 ≤ sizeLine := line_big
theorem wt_app {xs : List α} {x : α} {P : List α → Prop} (h0 : xs.length < 1000000) (h : P (xs ++ [x])) : Wt (appQ xs x) P := ⟨_, if_pos (Nat.lt_of_lt_of_le h0 sz_big), h⟩
theorem wt_ext {xs ys : List α} {P : List α → Prop} (h0 : xs.length + ys.length ≤ 1000000) (h : P (xs ++ ys)) : Wt (extQ xs ys) P := ⟨_, if_pos (Nat.le_trans h0 sz_big), h⟩
theorem wt_cat {xs ys : List α} {P : List α → Prop} (h0 : xs.length + ys.length ≤ 1000000) (h : P (xs ++ ys)) : Wt (catQ xs ys) P := ⟨_, if_pos (Nat.le_trans h0 sz_big), h⟩
theorem wt_mapC {f : ι → τ} {xs : List ι} {P : List τ → Prop} (h0 : xs.length ≤ 1000000) (h : P (xs.map f)) : Wt (mapC f xs) P := ⟨_, if_pos (Nat.le_trans h0 sz_big), h⟩
theorem wt_filC {c : ι → Bool} {f : ι → τ} {xs : List ι} {P : List τ → Prop} (h0 : xs.length ≤ 1000000) (h : P ((xs.filter c).map f)) : Wt (filC c f xs) P := ⟨_, if_pos (Nat.le_trans h0 sz_big), h⟩
theorem wt_lenC {xs : List ι} {o : Option τ} {P : τ → Prop} (h0 : xs.length ≤ 1000000) (h : Wt o P) : Wt (lenC xs o) P := by
  unfold lenC
  rw [if_pos (Nat.le_trans h0 sz_big)]
  exact h
theorem wt_rng1 {j : Int} {P : List Int → Prop} (h0 : -1000000 ≤ j) (h1 : j ≤ 1000000) (h : P (rngN 0 j.toNat)) : Wt (rng1 j) P := ⟨_, if_pos (small62_of h0 h1), h⟩
theorem wt_rng2 {i j : Int} {P : List Int → Prop} (h0 : -1000000 ≤ i) (h1 : i ≤ 1000000) (h2 : -1000000 ≤ j) (h3 : j ≤ 1000000) (h : P (rngN i (j - i).toNat)) : Wt (rng2 i j) P := ⟨_, if_pos (by rw [small62_of h0 h1, small62_of h2 h3]; rfl), h⟩
theorem wt_rgQ {i j : Int} {P : List Int → Prop} (h0 : 0 ≤ i) (h1 : i ≤ 1000000) (h2 : 0 ≤ j) (h3 : j ≤ 1000000) (h : P (rngN i (j - i).toNat)) : Wt (rgQ i j) P := ⟨_, if_pos (by unfold rgB; rw [decide_eq_true h0, decide_eq_true h2, decide_eq_true (show i ≤ 16777216 by omega), decide_eq_true (show j ≤ 16777216 by omega)]; rfl), h⟩
theorem wt_mul {a b : Int} {P : Int → Prop} (h : lim64 a = true ∨ lim64 b = true) (p : P (a * b)) : Wt (mulQ a b) P := ⟨_, if_pos (by rcases h with h | h <;> simp [h]), p⟩
theorem lim_of {a : Int} (h0 : -1000000 ≤ a) (h1 : a ≤ 1000000) : lim64 a = true := by
  unfold lim64
  simp
  omega
theorem wt_popAt {xs : List α} {n : Int} {P : α × List α → Prop} (h0 : 0 ≤ n) (h1 : n < xs.length) (hl : xs.length ≤ 1000000) (h : ∀ hh : n.toNat < xs.length, P (xs[n.toNat]'hh, xs.eraseIdx n.toNat)) : Wt (popAtQ xs n) P := by
  unfold popAtQ
  rw [if_pos ⟨h0, Nat.le_trans hl sz_big⟩, List.getElem?_eq_getElem (by omega)]
  exact ⟨_, rfl, h _⟩
theorem wt_rep {x : α} {k : Int} {P : List α → Prop} (h0 : 0 ≤ k) (h1 : k ≤ 1000000) (h : P (List.replicate k.toNat x)) : Wt (repQ [x] k) P := by
  have big := sz_big
  unfold repQ
  rw [decide_eq_true h0, decide_eq_true (show k < 2 ^ 62 by omega), decide_eq_true (show ([x] : List α).length * k.toNat ≤ sizeLine by simp; omega)]
  refine ⟨_, rfl, ?_⟩
  have : (List.replicate k.toNat [x]).flatten = List.replicate k.toNat x := by
    induction k.toNat with
    | zero => rfl
    | succ n ih => rw [List.replicate_succ, List.replicate_succ, List.flatten_cons, ih]; rfl
  rw [this]
  exact h
/-- loops, the invariant sees what is ahead -/
theorem wt_for {step : ι → σ → Option σ} (I : List ι → σ → Prop) {P : σ → Prop} : ∀ {xs : List ι} {s : σ}, I xs s → (∀ x xs s, I (x :: xs) s → Wt (step x s) (I xs)) → (∀ s, I [] s → P s) → Wt (forN step xs s) P
  | [], s, h, _, q => ⟨s, rfl, q s h⟩
  | x :: xs, s, h, st, q => by
    unfold forN
    refine wt_bind ((st x xs s h).mon fun s' h' => wt_for I h' st q)
/-- .. one that does not -/
theorem wt_for0 {step : ι → σ → Option σ} (I : σ → Prop) {P : σ → Prop} {xs : List ι} {s : σ} (h : I s) (st : ∀ x ∈ xs, ∀ s, I s → Wt (step x s) I) (q : ∀ s, I s → P s) : Wt (forN step xs s) P :=
  wt_for (fun ys s => (∀ y ∈ ys, y ∈ xs) ∧ I s) ⟨fun _ h => h, h⟩ (fun x ys s h => (st x (h.1 x (List.mem_cons_self ..)) s h.2).mon fun s' h' => ⟨fun y hy => h.1 y (List.mem_cons_of_mem _ hy), h'⟩) fun s h => q s h.2
theorem wt_forR {step : ι → σ → Option (σ ⊕ ρ)} (I : σ → Prop) {P : σ ⊕ ρ → Prop} : ∀ {xs : List ι} {s : σ}, I s → (∀ x ∈ xs, ∀ s, I s → Wt (step x s) fun w => ∃ s', w = .inl s' ∧ I s') → (∀ s, I s → P (.inl s)) → Wt (forR step xs s) P
  | [], s, h, _, q => ⟨_, rfl, q s h⟩
  | x :: xs, s, h, st, q => by
    unfold forR
    refine wt_bind ((st x (List.mem_cons_self ..) s h).mon fun w hw => ?_)
    obtain ⟨s', rfl, h'⟩ := hw
    exact wt_forR I h' (fun y hy => st y (List.mem_cons_of_mem _ hy)) q
theorem wt_while {c : σ → Option Bool} {step : σ → Option σ} (I : Nat → σ → Prop) {P : σ → Prop} : ∀ {n : Nat} {s : σ}, I n s → (∀ n s, I n s → Wt (c s) fun b => if b = true then ∃ m, n = m + 1 ∧ Wt (step s) (I m) else 0 < n ∧ P s) → Wt (whileN c step n s) P
  | 0, s, h, st => by
    obtain ⟨b, _, q⟩ := st 0 s h
    cases b
    · exact absurd q.1 (by omega)
    · obtain ⟨m, hm, _⟩ := q
      omega
  | n + 1, s, h, st => by
    unfold whileN
    refine wt_bind ((st _ s h).mon fun b hb => ?_)
    cases b
    · exact wt_some hb.2
    · obtain ⟨m, hm, w⟩ := hb
      cases hm
      exact wt_bind (w.mon fun s' h' => wt_while I h' st)
/-- comprehensions -/
theorem wt_mapM {f : ι → Option τ} {P : List τ → Prop} {xs : List ι} (g : ι → τ) (hf : ∀ x ∈ xs, f x = some (g x)) (h : P (xs.map g)) : Wt (mapM f xs) P := by
  have : ∀ ys : List ι, (∀ x ∈ ys, f x = some (g x)) → mapM f ys = some (ys.map g) := by
    intro ys
    induction ys with
    | nil => intro _; rfl
    | cons y ys ih =>
      intro hy
      unfold mapM
      rw [hy y (List.mem_cons_self ..), Option.bind_some, ih fun x hx => hy x (List.mem_cons_of_mem _ hx)]
      rfl
  exact ⟨_, this xs hf, h⟩
theorem filM_eq {c : ι → Option Bool} {f : ι → Option τ} (b : ι → Bool) (g : ι → τ) : ∀ xs : List ι, (∀ x ∈ xs, c x = some (b x)) → (∀ x ∈ xs, b x = true → f x = some (g x)) → filM c f xs = some ((xs.filter b).map g)
  | [], _, _ => rfl
  | x :: xs, hc, hf => by
    unfold filM
    rw [hc x (List.mem_cons_self ..), Option.bind_some, filM_eq b g xs (fun y hy => hc y (List.mem_cons_of_mem _ hy)) (fun y hy => hf y (List.mem_cons_of_mem _ hy)), List.filter_cons]
    cases e : b x
    · rfl
    · show (f x).bind _ = _
      rw [hf x (List.mem_cons_self ..) e]
      rfl
theorem wt_filM {c : ι → Option Bool} {f : ι → Option τ} {P : List τ → Prop} {xs : List ι} (b : ι → Bool) (g : ι → τ) (hc : ∀ x ∈ xs, c x = some (b x)) (hf : ∀ x ∈ xs, b x = true → f x = some (g x)) (h : P ((xs.filter b).map g)) : Wt (filM c f xs) P := ⟨_, filM_eq b g xs hc hf, h⟩
/-- .. with a state: how many, each so -/
theorem wt_mapS {f : ι → σ → Option (τ × σ)} {P : List τ × σ → Prop} (Q : τ → Prop) (I : List ι → σ → Prop) : ∀ {xs : List ι} {s : σ}, I xs s → (∀ x xs s, I (x :: xs) s → Wt (f x s) fun p => Q p.1 ∧ I xs p.2) → (∀ ys s, ys.length = xs.length → (∀ y ∈ ys, Q y) → I [] s → P (ys, s)) → Wt (mapS f xs s) P
  | [], s, h, _, q => ⟨_, rfl, q [] s rfl (fun _ h => nomatch h) h⟩
  | x :: xs, s, h, st, q => by
    unfold mapS
    refine wt_bind ((st x xs s h).mon fun p hp => wt_map (wt_mapS Q I hp.2 st fun ys s' e a i => ?_))
    refine q _ _ (by simp [e]) (fun y hy => ?_) i
    rcases List.mem_cons.mp hy with rfl | hy
    · exact hp.1
    · exact a y hy
/-! dicts -/
theorem dGet_mem [DecidableEq α] {xs : List (α × β)} {k : α} {v : β} (h : dGet xs k = some v) : (k, v) ∈ xs := by
  unfold dGet at h
  cases e : xs.find? (fun p => decide (p.1 = k)) with
  | none => rw [e] at h; cases h
  | some p =>
    rw [e] at h
    cases h
    have h1 := List.find?_some e
    have h2 := List.mem_of_find?_eq_some e
    have : p.1 = k := of_decide_eq_true h1
    rw [← this]
    exact h2
theorem dGet_has [DecidableEq α] {xs : List (α × β)} {k : α} (h : k ∈ xs.map (·.1)) : ∃ v, dGet xs k = some v := by
  unfold dGet
  cases e : xs.find? (fun p => decide (p.1 = k)) with
  | none =>
    obtain ⟨p, hp, rfl⟩ := List.mem_map.mp h
    have := List.find?_eq_none.mp e p hp
    simp at this
  | some p => exact ⟨_, rfl⟩
theorem wt_get [DecidableEq α] {xs : List (α × β)} {k : α} {P : β → Prop} (h : k ∈ xs.map (·.1)) (p : ∀ v, dGet xs k = some v → (k, v) ∈ xs → P v) : Wt (dGet xs k) P := by
  obtain ⟨v, e⟩ := dGet_has h
  exact ⟨v, e, p v e (dGet_mem e)⟩
theorem dPut_keys [DecidableEq α] (xs : List (α × β)) (k : α) (v : β) (h : k ∈ xs.map (·.1)) : (dPut xs k v).map (·.1) = xs.map (·.1) := by
  unfold dPut
  have : xs.any (fun p => decide (p.1 = k)) = true := by
    rw [List.any_eq_true]
    obtain ⟨p, hp, e⟩ := List.mem_map.mp h
    exact ⟨p, hp, decide_eq_true e⟩
  rw [if_pos this, List.map_map]
  apply List.map_congr_left
  intro p _
  simp only [Function.comp]
  split
  · rename_i e; simp [e]
  · rfl
theorem dPut_new [DecidableEq α] (xs : List (α × β)) (k : α) (v : β) (h : k ∉ xs.map (·.1)) : dPut xs k v = xs ++ [(k, v)] := by
  unfold dPut
  rw [if_neg]
  intro c
  rw [List.any_eq_true] at c
  obtain ⟨p, hp, e⟩ := c
  exact h (List.mem_map.mpr ⟨p, hp, of_decide_eq_true e⟩)
theorem dPut_mem [DecidableEq α] {xs : List (α × β)} {k : α} {v : β} {p : α × β} (h : p ∈ dPut xs k v) : p = (k, v) ∨ p ∈ xs := by
  unfold dPut at h
  split at h
  · obtain ⟨q, hq, e⟩ := List.mem_map.mp h
    split at e
    · rename_i c; left; rw [← e, c]
    · right; rw [← e]; exact hq
  · rcases List.mem_append.mp h with h | h
    · exact .inr h
    · exact .inl (List.mem_singleton.mp h)
theorem dPut_has [DecidableEq α] (xs : List (α × β)) (k : α) (v : β) {j : α} (h : j = k ∨ j ∈ xs.map (·.1)) : j ∈ (dPut xs k v).map (·.1) := by
  by_cases c : k ∈ xs.map (·.1)
  · rw [dPut_keys _ _ _ c]
    rcases h with rfl | h
    · exact c
    · exact h
  · rw [dPut_new _ _ _ c, List.map_append]
    rcases h with rfl | h
    · exact List.mem_append.mpr (.inr (List.mem_singleton.mpr rfl))
    · exact List.mem_append.mpr (.inl h)
theorem dPut_len [DecidableEq α] (xs : List (α × β)) (k : α) (v : β) : (dPut xs k v).length ≤ xs.length + 1 := by
  unfold dPut
  split
  · rw [List.length_map]; omega
  · simp
theorem wt_put [DecidableEq α] {xs : List (α × β)} {k : α} {v : β} {P : List (α × β) → Prop} (h0 : xs.length < 1000000) (h : P (dPut xs k v)) : Wt (dPutQ xs k v) P := ⟨_, if_pos (Nat.lt_of_lt_of_le h0 sz_big), h⟩
theorem wt_sortK {xs : List (Int × β)} {P : List Int → Prop} (h0 : xs.length < 64) (h : ∀ ks, ks.Perm (xs.map (·.1)) → P ks) : Wt (sortK xs) P := ⟨_, if_pos h0, h _ (List.mergeSort_perm _ _)⟩
theorem mem_rngN {lo : Int} {n : Nat} {x : Int} (h : x ∈ rngN lo n) : lo ≤ x ∧ x < lo + n := by
  unfold rngN at h
  obtain ⟨i, hi, rfl⟩ := List.mem_map.mp h
  rw [List.mem_range] at hi
  omega
theorem len_rngN (lo : Int) (n : Nat) : (rngN lo n).length = n := by simp [rngN]
theorem nodup_rngN (lo : Int) (n : Nat) : (rngN lo n).Nodup := by
  unfold rngN
  rw [List.nodup_iff_pairwise_ne, List.pairwise_map]
  exact List.Pairwise.imp (fun {a b} h => by omega) (List.nodup_iff_pairwise_ne.mp List.nodup_range)
theorem cut_nat {xs : List α} {a b : Nat} : cutL xs (some (a : Int)) (some (b : Int)) = (xs.drop (min a xs.length)).take (min b xs.length - min a xs.length) := by
  unfold cutL
  rw [HT.sIx_nat, HT.sIx_nat]
theorem cut_to {xs : List α} {b : Int} (h : 0 ≤ b) : cutL xs none (some b) = xs.take b.toNat := by
  obtain ⟨n, rfl⟩ := Int.eq_ofNat_of_zero_le h
  unfold cutL
  rw [HT.sIx_nat, HT.sIx_none, List.drop_zero]
  simp [List.take_eq_take_iff]
theorem cut_from {xs : List α} {a : Int} (h : 0 ≤ a) : cutL xs (some a) none = xs.drop a.toNat := by
  obtain ⟨n, rfl⟩ := Int.eq_ofNat_of_zero_le h
  unfold cutL
  rw [HT.sIx_nat, HT.sIx_none]
  by_cases c : n ≤ xs.length
  · rw [Nat.min_eq_left c]
    simp [List.take_of_length_le]
  · rw [Nat.min_eq_right (by omega)]
    simp
    omega
theorem cut_mid {xs : List α} {a b : Int} (h : 0 ≤ a) (h1 : a ≤ xs.length) (h2 : a ≤ b) : cutL xs (some a) (some b) = (xs.drop a.toNat).take (b - a).toNat := by
  obtain ⟨n, rfl⟩ := Int.eq_ofNat_of_zero_le h
  obtain ⟨m, rfl⟩ := Int.eq_ofNat_of_zero_le (show 0 ≤ b by omega)
  have hn : n ≤ xs.length := by omega
  have hm : n ≤ m := by omega
  have e1 : ((n : Int)).toNat = n := by omega
  have e2 : ((m : Int) - (n : Int)).toNat = m - n := by omega
  rw [cut_nat, e1, e2, Nat.min_eq_left hn]
  by_cases c : m ≤ xs.length
  · rw [Nat.min_eq_left c]
  · rw [Nat.min_eq_right (by omega)]
    rw [List.take_of_length_le (by simp), List.take_of_length_le (by simp; omega)]
theorem cut_mem {xs : List α} {lo hi : Option Int} {x : α} (h : x ∈ cutL xs lo hi) : x ∈ xs := List.mem_of_mem_drop (List.mem_of_mem_take h)
theorem enum_mem {xs : List τ} {p : Int × τ} (h : p ∈ enumN xs) : 0 ≤ p.1 ∧ p.1 < xs.length ∧ p.2 ∈ xs := by
  unfold enumN at h
  obtain ⟨q, hq, rfl⟩ := List.mem_map.mp h
  obtain ⟨a, b⟩ := q
  have := List.mem_zipIdx hq
  refine ⟨Int.natCast_nonneg _, by simp at this ⊢; omega, ?_⟩
  simp at this ⊢
  rw [this.2]
  exact List.getElem_mem _
/-! repr -/
structure Sh (w k : Nat) (d : D) : Prop where
  s : d.showable = true
  n : d.hasDict = false
  l : d.leavesShort 13 = true
  dp : d.depth ≤ k
  wt : d.weight ≤ w
theorem sh_int {i : Int} (h0 : -1000000 ≤ i) (h1 : i ≤ 1000000) : Sh 40 0 (.int i) := by
  have h12 : i.natAbs < 10 ^ 12 := by omega
  have hl : i ≠ 0 → i.natAbs.log2 < 40 := fun h => (Nat.log2_lt (by omega)).mpr (by omega)
  refine ⟨?_, rfl, ?_, Nat.le_refl _, ?_⟩
  · simp only [PyData.showable]
    by_cases c : i = 0
    · subst c; decide
    · have := hl c; simp; omega
  · simp only [PyData.leavesShort, decide_eq_true_eq]
    exact PyData.shown_int_le h12
  · simp only [PyData.weight]
    split
    · omega
    · rename_i c
      have := hl (by simpa using c)
      omega
theorem sh_bool {b : Bool} : Sh 0 0 (.bool b) := ⟨rfl, rfl, rfl, Nat.le_refl _, Nat.le_refl _⟩
theorem Sh.mon {w k w' k' : Nat} {d : D} (h : Sh w k d) (a : w ≤ w') (b : k ≤ k') : Sh w' k' d := ⟨h.s, h.n, h.l, Nat.le_trans h.dp b, Nat.le_trans h.wt a⟩
theorem sh_all {w k : Nat} : ∀ (ds : List D), (∀ d ∈ ds, Sh w k d) → PyData.showableAll ds = true ∧ PyData.hasDictAll ds = false ∧ PyData.leavesShortAll 13 ds = true ∧ PyData.depthAll ds ≤ k ∧ PyData.weightAll ds ≤ (w + 1) * ds.length
  | [], _ => ⟨rfl, rfl, rfl, Nat.zero_le _, Nat.zero_le _⟩
  | d :: ds, h => by
    obtain ⟨a1, a2, a3, a4, a5⟩ := sh_all ds fun x hx => h x (List.mem_cons_of_mem _ hx)
    have b := h d (List.mem_cons_self ..)
    refine ⟨?_, ?_, ?_, ?_, ?_⟩
    · simp only [PyData.showableAll, b.s, a1]; rfl
    · simp only [PyData.hasDictAll, b.n, a2]; rfl
    · simp only [PyData.leavesShortAll, b.l, a3]; rfl
    · simp only [PyData.depthAll]; exact Nat.max_le.mpr ⟨b.dp, a4⟩
    · simp only [PyData.weightAll, List.length_cons, Nat.mul_add]
      have := b.wt
      omega
theorem sh_tuple {w k n : Nat} {ds : List D} (h : ∀ d ∈ ds, Sh w k d) (hn : ds.length ≤ n) : Sh ((w + 1) * n) (k + 1) (.tuple ds) := by
  obtain ⟨a1, a2, a3, a4, a5⟩ := sh_all ds h
  refine ⟨by simpa only [PyData.showable] using a1, by simpa only [PyData.hasDict] using a2, by simpa only [PyData.leavesShort] using a3, ?_, ?_⟩
  · simp only [PyData.depth]; omega
  · simp only [PyData.weight]; exact Nat.le_trans a5 (Nat.mul_le_mul_left _ hn)
theorem sh_list {w k n : Nat} {ds : List D} (h : ∀ d ∈ ds, Sh w k d) (hn : ds.length ≤ n) : Sh ((w + 1) * n) (k + 1) (.list ds) := by
  obtain ⟨a1, a2, a3, a4, a5⟩ := sh_all ds h
  refine ⟨by simpa only [PyData.showable] using a1, by simpa only [PyData.hasDict] using a2, by simpa only [PyData.leavesShort] using a3, ?_, ?_⟩
  · simp only [PyData.depth]; omega
  · simp only [PyData.weight]; exact Nat.le_trans a5 (Nat.mul_le_mul_left _ hn)
theorem wt_repr {w : Nat} {d : D} {P : Str → Prop} (h : Sh w 64 d) (hw : w ≤ 2 ^ 20) (p : P d.shown) : Wt (reprQ d) P := by
  have e : d.shown.length ≤ sizeLine := PyData.shown_fits (B := 13) (by omega) (by omega) h.l (Nat.le_trans h.wt hw)
  refine ⟨d.shown, ?_, p⟩
  unfold reprQ reprD
  rw [h.s, h.n, decide_eq_true e, decide_eq_true h.dp]
  rfl
end Z

namespace Z
open PySem PySem.Spec PyProof.Rows L2
/-! repr of what holds long ints -/
structure ShB (w k : Nat) (d : D) : Prop where
  s : d.showable = true
  n : d.hasDict = false
  l : d.leavesShort 600 = true
  dp : d.depth ≤ k
  wt : d.weight ≤ w
theorem shB_int {i : Int} (h : i.natAbs < 10 ^ 60) : ShB 200 0 (.int i) := by
  have hl : i ≠ 0 → i.natAbs.log2 < 200 := fun c => (Nat.log2_lt (by omega)).mpr (Nat.lt_trans h (by decide))
  refine ⟨?_, rfl, ?_, Nat.le_refl _, ?_⟩
  · simp only [PyData.showable]
    by_cases c : i = 0
    · subst c; decide
    · have := hl c; simp; omega
  · simp only [PyData.leavesShort, decide_eq_true_eq]
    have e := int_text_length_le10 (k := 60) (by decide) h
    show (Str.ofString (toString i)).length ≤ 600
    rw [PySem.ofString_length]
    omega
  · simp only [PyData.weight]
    split
    · omega
    · rename_i c
      have := hl (by simpa using c)
      omega
theorem ShB.mon {w k w' k' : Nat} {d : D} (h : ShB w k d) (a : w ≤ w') (b : k ≤ k') : ShB w' k' d := ⟨h.s, h.n, h.l, Nat.le_trans h.dp b, Nat.le_trans h.wt a⟩
theorem shB_all {w k : Nat} : ∀ (ds : List D), (∀ d ∈ ds, ShB w k d) → PyData.showableAll ds = true ∧ PyData.hasDictAll ds = false ∧ PyData.leavesShortAll 600 ds = true ∧ PyData.depthAll ds ≤ k ∧ PyData.weightAll ds ≤ (w + 1) * ds.length
  | [], _ => ⟨rfl, rfl, rfl, Nat.zero_le _, Nat.zero_le _⟩
  | d :: ds, h => by
    obtain ⟨a1, a2, a3, a4, a5⟩ := shB_all ds fun x hx => h x (List.mem_cons_of_mem _ hx)
    have b := h d (List.mem_cons_self ..)
    refine ⟨?_, ?_, ?_, ?_, ?_⟩
    · simp only [PyData.showableAll, b.s, a1]; rfl
    · simp only [PyData.hasDictAll, b.n, a2]; rfl
    · simp only [PyData.leavesShortAll, b.l, a3]; rfl
    · simp only [PyData.depthAll]; exact Nat.max_le.mpr ⟨b.dp, a4⟩
    · simp only [PyData.weightAll, List.length_cons, Nat.mul_add]
      have := b.wt
      omega
theorem shB_tuple {w k n : Nat} {ds : List D} (h : ∀ d ∈ ds, ShB w k d) (hn : ds.length ≤ n) : ShB ((w + 1) * n) (k + 1) (.tuple ds) := by
  obtain ⟨a1, a2, a3, a4, a5⟩ := shB_all ds h
  refine ⟨by simpa only [PyData.showable] using a1, by simpa only [PyData.hasDict] using a2, by simpa only [PyData.leavesShort] using a3, ?_, ?_⟩
  · simp only [PyData.depth]; omega
  · simp only [PyData.weight]; exact Nat.le_trans a5 (Nat.mul_le_mul_left _ hn)
theorem shB_list {w k n : Nat} {ds : List D} (h : ∀ d ∈ ds, ShB w k d) (hn : ds.length ≤ n) : ShB ((w + 1) * n) (k + 1) (.list ds) := by
  obtain ⟨a1, a2, a3, a4, a5⟩ := shB_all ds h
  refine ⟨by simpa only [PyData.showable] using a1, by simpa only [PyData.hasDict] using a2, by simpa only [PyData.leavesShort] using a3, ?_, ?_⟩
  · simp only [PyData.depth]; omega
  · simp only [PyData.weight]; exact Nat.le_trans a5 (Nat.mul_le_mul_left _ hn)
theorem wt_reprB {w : Nat} {d : D} {P : Str → Prop} (h : ShB w 64 d) (hw : w ≤ 27000) (p : P d.shown) : Wt (reprQ d) P := by
  have e1 := PyData.shown_le 600 (by omega) d h.l
  have e2 : 602 * d.weight ≤ 602 * 27000 := Nat.mul_le_mul_left _ (Nat.le_trans h.wt hw)
  have e : d.shown.length ≤ sizeLine := by rw [sizeLine_eq]; omega
  refine ⟨d.shown, ?_, p⟩
  unfold reprQ reprD
  rw [h.s, h.n, decide_eq_true e, decide_eq_true h.dp]
  rfl
end Z

/-! The walk of law_k28_entries_and_worths, printed by gen.py. -/
namespace K28
open PySem PySem.Spec PyProof.Rows L2 Z
def top (i : Nat) : Stmt := PySem.Challenge.pw_soundstore_k28_entries_and_worths.main.body.getD i (.Pass ⟨0, 0, 0, 0⟩)
/-- what the text leans on -/
structure Txt (K : PySem.W.Frag) (mg : Str → Option Value) : Prop where
  c_BLOCK_CELLS : GC K mg "BLOCK_CELLS" (.int 4)
  c_FILE : GC K mg "FILE" (.int 1)
  c_FOLDER : GC K mg "FOLDER" (.int 2)
  c_HEAD_CELLS : GC K mg "HEAD_CELLS" (.int 7)
  c_HEAD_PARTS : GC K mg "HEAD_PARTS" (.tuple [.str "kind", .str "count", .str "length", .str "sum"])
  c_LOG_HEAD : GC K mg "LOG_HEAD" (.tuple [.str "mark", .str "seal"])
  c_MOST_LENGTH : GC K mg "MOST_LENGTH" (.int 12)
  c_PAIR_PARTS : GC K mg "PAIR_PARTS" (.tuple [.str "place", .str "worth"])
  c_SLOTS : GC K mg "SLOTS" (.int 3)
  t_HEAD_PARTS : GCt K mg "HEAD_PARTS" [.str "kind", .str "count", .str "length", .str "sum"]
  t_LOG_HEAD : GCt K mg "LOG_HEAD" [.str "mark", .str "seal"]
  t_PAIR_PARTS : GCt K mg "PAIR_PARTS" [.str "place", .str "worth"]
  m_enumerate : mg "enumerate" = none
  m_int : mg "int" = none
  m_len : mg "len" = none
  m_list : mg "list" = none
  m_max : mg "max" = none
  m_min : mg "min" = none
  m_range : mg "range" = none
  m_repr : mg "repr" = none
  m_reversed : mg "reversed" = none
  m_sorted : mg "sorted" = none
  m_sum : mg "sum" = none
  m_tuple : mg "tuple" = none
  m_zip : mg "zip" = none
section
variable {P : Program} {w : World} {K : PySem.W.Frag} {mg : Str → Option Value} {base : Heap}
/-! map_first -/
abbrev s_map_first : Stmt := top 6
theorem sc_map_first : FnScope ["heads"] ["heads"] (defScope s_map_first) := ⟨rfl, rfl, rfl, by decide +kernel, rfl, by decide +kernel, by decide +kernel⟩
def g_map_first : List Sl → Option Out := sSeq (sRet (f2 mulA (fCon (.int 7)) (fVar 0))) (sNil)
def φ_map_first : List Sl → Option (D × List Sl) := fnF [false] 1 false g_map_first
theorem ok_map_first (T : Txt K mg)  {f : Addr} {fd : FuncData} (Fu : Fun K "map_first" "map_first" s_map_first f fd) (m : mg "map_first" = some (.ref f)) : GK P w K mg base "map_first" 1 1 false φ_map_first := by
  refine ⟨f, fd, ["heads"], fn_ok Fu sc_map_first rfl (fun cd A out s G E hG hr => ?_), rfl, m, Fu.kp, Fu.binds fun _ _ _ _ _ _ us hl => match us, hl with | [_], _ => rfl⟩
  have S := sc_map_first; have h1 := hu1 hr; have h65 := hu65 hr; have h66 := hu66 hr; have h67 := hu67 hr
  exact bv_cons (sv_ret (ev_op op_mul4 os_mulA (ev_g T.c_HEAD_CELLS) (ev_v 0))) (bv_nil)
/-! block_first -/
abbrev s_block_first : Stmt := top 7
theorem sc_block_first : FnScope ["heads", "blocks"] ["heads", "blocks"] (defScope s_block_first) := ⟨rfl, rfl, rfl, by decide +kernel, rfl, by decide +kernel, by decide +kernel⟩
def g_block_first : List Sl → Option Out := sSeq (sRet (f2 addA (callF [] true φ_map_first (kCons (fVar 0) (kNil))) (fVar 1))) (sNil)
def φ_block_first : List Sl → Option (D × List Sl) := fnF [false, false] 2 false g_block_first
theorem ok_block_first (T : Txt K mg) (k_map_first : GK P w K mg base "map_first" 1 1 false φ_map_first) {f : Addr} {fd : FuncData} (Fu : Fun K "block_first" "block_first" s_block_first f fd) (m : mg "block_first" = some (.ref f)) : GK P w K mg base "block_first" 2 2 false φ_block_first := by
  refine ⟨f, fd, ["heads", "blocks"], fn_ok Fu sc_block_first rfl (fun cd A out s G E hG hr => ?_), rfl, m, Fu.kp, Fu.binds fun _ _ _ _ _ _ us hl => match us, hl with | [_, _], _ => rfl⟩
  have S := sc_block_first; have h1 := hu1 hr; have h65 := hu65 hr; have h66 := hu66 hr; have h67 := hu67 hr
  exact bv_cons (sv_ret (ev_op op_add4 os_addA (ev_fn (k_map_first.kn hr hG) (kn_cons (ev_v 0) (kn_nil))) (ev_v 1))) (bv_nil)
/-! log_first -/
abbrev s_log_first : Stmt := top 8
theorem sc_log_first : FnScope ["heads", "blocks"] ["heads", "blocks"] (defScope s_log_first) := ⟨rfl, rfl, rfl, by decide +kernel, rfl, by decide +kernel, by decide +kernel⟩
def g_log_first : List Sl → Option Out := sSeq (sRet (f2 addA (callF [] true φ_block_first (kCons (fVar 0) (kCons (fVar 1) (kNil)))) (f2 mulA (fCon (.int 4)) (fVar 1)))) (sNil)
def φ_log_first : List Sl → Option (D × List Sl) := fnF [false, false] 2 false g_log_first
theorem ok_log_first (T : Txt K mg) (k_block_first : GK P w K mg base "block_first" 2 2 false φ_block_first) {f : Addr} {fd : FuncData} (Fu : Fun K "log_first" "log_first" s_log_first f fd) (m : mg "log_first" = some (.ref f)) : GK P w K mg base "log_first" 3 2 false φ_log_first := by
  refine ⟨f, fd, ["heads", "blocks"], fn_ok Fu sc_log_first rfl (fun cd A out s G E hG hr => ?_), rfl, m, Fu.kp, Fu.binds fun _ _ _ _ _ _ us hl => match us, hl with | [_, _], _ => rfl⟩
  have S := sc_log_first; have h1 := hu1 hr; have h65 := hu65 hr; have h66 := hu66 hr; have h67 := hu67 hr
  exact bv_cons (sv_ret (ev_op op_add4 os_addA (ev_fn (k_block_first.kn hr hG) (kn_cons (ev_v 0) (kn_cons (ev_v 1) (kn_nil)))) (ev_op op_mul4 os_mulA (ev_g T.c_BLOCK_CELLS) (ev_v 1)))) (bv_nil)
/-! place_of -/
abbrev s_place_of : Stmt := top 9
theorem sc_place_of : FnScope ["heads", "blocks", "what", "word"] ["heads", "blocks", "what"] (defScope s_place_of) := ⟨rfl, rfl, rfl, by decide +kernel, rfl, by decide +kernel, by decide +kernel⟩
def g_place_of : List Sl → Option Out := sSeq (sSet 3 (f2 idxD (fVar 2) (fCon (.int 0)))) (sSeq (sIf (fun δ => toB (f2 (bD inD) (fVar 3) (fCon (.tuple [.str "kind", .str "count", .str "length", .str "sum"])) δ)) (sSeq (sRet (f2 addA (f2 mulA (fCon (.int 7)) (f2 subD (f2 idxD (fVar 2) (fCon (.int 1))) (fCon (.int 1)))) (f1 (tixD (.tuple [.str "kind", .str "count", .str "length", .str "sum"])) (fVar 3)))) (sNil)) (sNil)) (sSeq (sIf (fun δ => toB (f2 (bD eqD) (fVar 3) (fCon (.str "slot")) δ)) (sSeq (sRet (f2 addA (f2 addA (f2 mulA (fCon (.int 7)) (f2 subD (f2 idxD (fVar 2) (fCon (.int 1))) (fCon (.int 1)))) (fA (g1 lenD) (aCons (fCon (.tuple [.str "kind", .str "count", .str "length", .str "sum"])) (aNil)))) (f2 idxD (fVar 2) (fCon (.int 2))))) (sNil)) (sNil)) (sSeq (sIf (fun δ => toB (f2 (bD eqD) (fVar 3) (fCon (.str "map")) δ)) (sSeq (sRet (f2 subD (f2 addA (callF [] true φ_map_first (kCons (fVar 0) (kNil))) (f2 idxD (fVar 2) (fCon (.int 1)))) (fCon (.int 1)))) (sNil)) (sNil)) (sSeq (sIf (fun δ => toB (f2 (bD eqD) (fVar 3) (fCon (.str "cell")) δ)) (sSeq (sRet (f2 addA (f2 addA (callF [] true φ_block_first (kCons (fVar 0) (kCons (fVar 1) (kNil)))) (f2 mulA (fCon (.int 4)) (f2 subD (f2 idxD (fVar 2) (fCon (.int 1))) (fCon (.int 1))))) (f2 idxD (fVar 2) (fCon (.int 2))))) (sNil)) (sNil)) (sSeq (sIf (fun δ => toB (f2 (bD inD) (fVar 3) (fCon (.tuple [.str "mark", .str "seal"])) δ)) (sSeq (sRet (f2 addA (callF [] true φ_log_first (kCons (fVar 0) (kCons (fVar 1) (kNil)))) (f1 (tixD (.tuple [.str "mark", .str "seal"])) (fVar 3)))) (sNil)) (sNil)) (sSeq (sRet (f2 addA (f2 addA (f2 addA (callF [] true φ_log_first (kCons (fVar 0) (kCons (fVar 1) (kNil)))) (fA (g1 lenD) (aCons (fCon (.tuple [.str "mark", .str "seal"])) (aNil)))) (f2 mulA (fCon (.int 2)) (f2 idxD (fVar 2) (fCon (.int 1))))) (f1 (tixD (.tuple [.str "place", .str "worth"])) (fVar 3)))) (sNil)))))))
def φ_place_of : List Sl → Option (D × List Sl) := fnF [false, false, false] 4 false g_place_of
theorem ok_place_of (T : Txt K mg) (k_block_first : GK P w K mg base "block_first" 2 2 false φ_block_first) (k_log_first : GK P w K mg base "log_first" 3 2 false φ_log_first) (k_map_first : GK P w K mg base "map_first" 1 1 false φ_map_first) {f : Addr} {fd : FuncData} (Fu : Fun K "place_of" "place_of" s_place_of f fd) (m : mg "place_of" = some (.ref f)) : GK P w K mg base "place_of" 4 3 false φ_place_of := by
  refine ⟨f, fd, ["heads", "blocks", "what"], fn_ok Fu sc_place_of rfl (fun cd A out s G E hG hr => ?_), rfl, m, Fu.kp, Fu.binds fun _ _ _ _ _ _ us hl => match us, hl with | [_, _, _], _ => rfl⟩
  have S := sc_place_of; have h1 := hu1 hr; have h65 := hu65 hr; have h66 := hu66 hr; have h67 := hu67 hr
  exact bv_cons (sv_set rfl (tgk 3 S.nd) (ev_idx h1 (ev_v 2) (ev_int))) (bv_cons (sv_if (tv_cmp (cd_in h65).op os_cmp (ev_v 3) (ev_g T.c_HEAD_PARTS)) (bv_cons (sv_ret (ev_op op_add4 os_addA (ev_op op_mul4 os_mulA (ev_g T.c_HEAD_CELLS) (ev_op op_sub os_sub (ev_idx h1 (ev_v 2) (ev_int)) (ev_int))) (ev_ti T.t_HEAD_PARTS (ev_v 3)))) (bv_nil)) (bv_nil)) (bv_cons (sv_if (tv_cmp (cd_eq h65).op os_cmp (ev_v 3) (ev_str)) (bv_cons (sv_ret (ev_op op_add4 os_addA (ev_op op_add4 os_addA (ev_op op_mul4 os_mulA (ev_g T.c_HEAD_CELLS) (ev_op op_sub os_sub (ev_idx h1 (ev_v 2) (ev_int)) (ev_int))) (ev_callB (bnk T.m_len) cr_len cs_len (av_cons (ev_g T.c_HEAD_PARTS) (av_nil)))) (ev_idx h1 (ev_v 2) (ev_int)))) (bv_nil)) (bv_nil)) (bv_cons (sv_if (tv_cmp (cd_eq h65).op os_cmp (ev_v 3) (ev_str)) (bv_cons (sv_ret (ev_op op_sub os_sub (ev_op op_add4 os_addA (ev_fn (k_map_first.kn hr hG) (kn_cons (ev_v 0) (kn_nil))) (ev_idx h1 (ev_v 2) (ev_int))) (ev_int))) (bv_nil)) (bv_nil)) (bv_cons (sv_if (tv_cmp (cd_eq h65).op os_cmp (ev_v 3) (ev_str)) (bv_cons (sv_ret (ev_op op_add4 os_addA (ev_op op_add4 os_addA (ev_fn (k_block_first.kn hr hG) (kn_cons (ev_v 0) (kn_cons (ev_v 1) (kn_nil)))) (ev_op op_mul4 os_mulA (ev_g T.c_BLOCK_CELLS) (ev_op op_sub os_sub (ev_idx h1 (ev_v 2) (ev_int)) (ev_int)))) (ev_idx h1 (ev_v 2) (ev_int)))) (bv_nil)) (bv_nil)) (bv_cons (sv_if (tv_cmp (cd_in h65).op os_cmp (ev_v 3) (ev_g T.c_LOG_HEAD)) (bv_cons (sv_ret (ev_op op_add4 os_addA (ev_fn (k_log_first.kn hr hG) (kn_cons (ev_v 0) (kn_cons (ev_v 1) (kn_nil)))) (ev_ti T.t_LOG_HEAD (ev_v 3)))) (bv_nil)) (bv_nil)) (bv_cons (sv_ret (ev_op op_add4 os_addA (ev_op op_add4 os_addA (ev_op op_add4 os_addA (ev_fn (k_log_first.kn hr hG) (kn_cons (ev_v 0) (kn_cons (ev_v 1) (kn_nil)))) (ev_callB (bnk T.m_len) cr_len cs_len (av_cons (ev_g T.c_LOG_HEAD) (av_nil)))) (ev_op op_mul4 os_mulA (ev_int) (ev_idx h1 (ev_v 2) (ev_int)))) (ev_ti T.t_PAIR_PARTS (ev_v 3)))) (bv_nil)))))))
/-! cell_of -/
abbrev s_cell_of : Stmt := top 15
theorem sc_cell_of : FnScope ["store", "what"] ["store", "what"] (defScope s_cell_of) := ⟨rfl, rfl, rfl, by decide +kernel, rfl, by decide +kernel, by decide +kernel⟩
def g_cell_of : List Sl → Option Out := sSeq (sRet (f2 idxD (f2 idxD (fVar 0) (fCon (.int 2))) (callF [] true φ_place_of (kCons (f2 idxD (fVar 0) (fCon (.int 0))) (kCons (f2 idxD (fVar 0) (fCon (.int 1))) (kCons (fVar 1) (kNil))))))) (sNil)
def φ_cell_of : List Sl → Option (D × List Sl) := fnF [false, false] 2 false g_cell_of
theorem ok_cell_of (T : Txt K mg) (k_place_of : GK P w K mg base "place_of" 4 3 false φ_place_of) {f : Addr} {fd : FuncData} (Fu : Fun K "cell_of" "cell_of" s_cell_of f fd) (m : mg "cell_of" = some (.ref f)) : GK P w K mg base "cell_of" 5 2 false φ_cell_of := by
  refine ⟨f, fd, ["store", "what"], fn_ok Fu sc_cell_of rfl (fun cd A out s G E hG hr => ?_), rfl, m, Fu.kp, Fu.binds fun _ _ _ _ _ _ us hl => match us, hl with | [_, _], _ => rfl⟩
  have S := sc_cell_of; have h1 := hu1 hr; have h65 := hu65 hr; have h66 := hu66 hr; have h67 := hu67 hr
  exact bv_cons (sv_ret (ev_idx h1 (ev_idx h1 (ev_v 0) (ev_int)) (ev_fn (k_place_of.kn hr hG) (kn_cons (ev_idx h1 (ev_v 0) (ev_int)) (kn_cons (ev_idx h1 (ev_v 0) (ev_int)) (kn_cons (ev_v 1) (kn_nil))))))) (bv_nil)
/-! is_length -/
abbrev s_is_length : Stmt := top 16
theorem sc_is_length : FnScope ["kind", "length"] ["kind", "length"] (defScope s_is_length) := ⟨rfl, rfl, rfl, by decide +kernel, rfl, by decide +kernel, by decide +kernel⟩
def g_is_length : List Sl → Option Out := sSeq (sRet (fAnd (fChain (bD leD) (bD leD) (fCon (.int 0)) (fVar 1) (fCon (.int 12))) (fOr (f2 (bD neD) (fVar 0) (fCon (.int 2))) (f2 (bD eqD) (f2 modD (fVar 1) (fCon (.int 2))) (fCon (.int 0)))))) (sNil)
def φ_is_length : List Sl → Option (D × List Sl) := fnF [false, false] 2 false g_is_length
theorem ok_is_length (T : Txt K mg)  {f : Addr} {fd : FuncData} (Fu : Fun K "is_length" "is_length" s_is_length f fd) (m : mg "is_length" = some (.ref f)) : GK P w K mg base "is_length" 1 2 false φ_is_length := by
  refine ⟨f, fd, ["kind", "length"], fn_ok Fu sc_is_length rfl (fun cd A out s G E hG hr => ?_), rfl, m, Fu.kp, Fu.binds fun _ _ _ _ _ _ us hl => match us, hl with | [_, _], _ => rfl⟩
  have S := sc_is_length; have h1 := hu1 hr; have h65 := hu65 hr; have h66 := hu66 hr; have h67 := hu67 hr
  exact bv_cons (sv_ret (ev_and (ev_chain cd_le.op os_cmp cd_le.op os_cmp (ev_int) (ev_v 1) (ev_g T.c_MOST_LENGTH)) (ev_and1 (ev_or (ev_cmp (cd_ne h65).op os_cmp (ev_v 0) (ev_g T.c_FOLDER)) (ev_or1 (ev_cmp (cd_eq h65).op os_cmp (ev_op op_mod os_mod (ev_v 1) (ev_int)) (ev_int))))))) (bv_nil)
/-! is_measured -/
abbrev s_is_measured : Stmt := top 17
theorem sc_is_measured : FnScope ["store", "head", "kind"] ["store", "head"] (defScope s_is_measured) := ⟨rfl, rfl, rfl, by decide +kernel, rfl, by decide +kernel, by decide +kernel⟩
def g_is_measured : List Sl → Option Out := sSeq (sSet 2 (callF [] true φ_cell_of (kCons (fVar 0) (kCons (fTup (aCons (fCon (.str "kind")) (aCons (fVar 1) (aNil)))) (kNil))))) (sSeq (sIf (gAnd (fun δ => toB (f2 (bD neD) (fVar 2) (fCon (.int 2)) δ)) (gOr (fun δ => toB (f2 (bD neD) (fVar 2) (fCon (.int 1)) δ)) (fun δ => toB (f2 (bD leD) (fVar 1) (fCon (.int 2)) δ)))) (sSeq (sRet (fCon (.bool false))) (sNil)) (sNil)) (sSeq (sRet (callF [] true φ_is_length (kCons (fVar 2) (kCons (callF [] true φ_cell_of (kCons (fVar 0) (kCons (fTup (aCons (fCon (.str "length")) (aCons (fVar 1) (aNil)))) (kNil)))) (kNil))))) (sNil)))
def φ_is_measured : List Sl → Option (D × List Sl) := fnF [false, false] 3 false g_is_measured
theorem ok_is_measured (T : Txt K mg) (k_cell_of : GK P w K mg base "cell_of" 5 2 false φ_cell_of) (k_is_length : GK P w K mg base "is_length" 1 2 false φ_is_length) {f : Addr} {fd : FuncData} (Fu : Fun K "is_measured" "is_measured" s_is_measured f fd) (m : mg "is_measured" = some (.ref f)) : GK P w K mg base "is_measured" 6 2 false φ_is_measured := by
  refine ⟨f, fd, ["store", "head"], fn_ok Fu sc_is_measured rfl (fun cd A out s G E hG hr => ?_), rfl, m, Fu.kp, Fu.binds fun _ _ _ _ _ _ us hl => match us, hl with | [_, _], _ => rfl⟩
  have S := sc_is_measured; have h1 := hu1 hr; have h65 := hu65 hr; have h66 := hu66 hr; have h67 := hu67 hr
  exact bv_cons (sv_set rfl (tgk 2 S.nd) (ev_fn (k_cell_of.kn hr hG) (kn_cons (ev_v 0) (kn_cons (ev_tup (av_cons (ev_str) (av_cons (ev_v 1) (av_nil)))) (kn_nil))))) (bv_cons (sv_if (WV.tv (wv_and (tv_cmp (cd_ne h65).op os_cmp (ev_v 2) (ev_g T.c_FOLDER)) (wv_and1 (WV.tv (wv_or (tv_cmp (cd_ne h65).op os_cmp (ev_v 2) (ev_g T.c_FILE)) (wv_or1 (tv_cmp cd_le.op os_cmp (ev_v 1) (ev_int)))))))) (bv_cons (sv_ret (ev_bl)) (bv_nil)) (bv_nil)) (bv_cons (sv_ret (ev_fn (k_is_length.kn hr hG) (kn_cons (ev_v 2) (kn_cons (ev_fn (k_cell_of.kn hr hG) (kn_cons (ev_v 0) (kn_cons (ev_tup (av_cons (ev_str) (av_cons (ev_v 1) (av_nil)))) (kn_nil)))) (kn_nil))))) (bv_nil)))
/-! is_needed -/
abbrev s_is_needed : Stmt := top 18
theorem sc_is_needed : FnScope ["store", "head", "j"] ["store", "head", "j"] (defScope s_is_needed) := ⟨rfl, rfl, rfl, by decide +kernel, rfl, by decide +kernel, by decide +kernel⟩
def g_is_needed : List Sl → Option Out := sSeq (sRet (fOr (f2 (bD eqD) (fVar 1) (fCon (.int 2))) (f2 (bD gtD) (callF [] true φ_cell_of (kCons (fVar 0) (kCons (fTup (aCons (fCon (.str "length")) (aCons (fVar 1) (aNil)))) (kNil)))) (f2 mulA (fCon (.int 4)) (fVar 2))))) (sNil)
def φ_is_needed : List Sl → Option (D × List Sl) := fnF [false, false, false] 3 false g_is_needed
theorem ok_is_needed (T : Txt K mg) (k_cell_of : GK P w K mg base "cell_of" 5 2 false φ_cell_of) {f : Addr} {fd : FuncData} (Fu : Fun K "is_needed" "is_needed" s_is_needed f fd) (m : mg "is_needed" = some (.ref f)) : GK P w K mg base "is_needed" 6 3 false φ_is_needed := by
  refine ⟨f, fd, ["store", "head", "j"], fn_ok Fu sc_is_needed rfl (fun cd A out s G E hG hr => ?_), rfl, m, Fu.kp, Fu.binds fun _ _ _ _ _ _ us hl => match us, hl with | [_, _, _], _ => rfl⟩
  have S := sc_is_needed; have h1 := hu1 hr; have h65 := hu65 hr; have h66 := hu66 hr; have h67 := hu67 hr
  exact bv_cons (sv_ret (ev_or (ev_cmp (cd_eq h65).op os_cmp (ev_v 1) (ev_int)) (ev_or1 (ev_cmp cd_gt.op os_cmp (ev_fn (k_cell_of.kn hr hG) (kn_cons (ev_v 0) (kn_cons (ev_tup (av_cons (ev_str) (av_cons (ev_v 1) (av_nil)))) (kn_nil)))) (ev_op op_mul4 os_mulA (ev_g T.c_BLOCK_CELLS) (ev_v 2)))))) (bv_nil)
/-! may_hold -/
abbrev s_may_hold : Stmt := top 19
theorem sc_may_hold : FnScope ["store", "head", "j", "block"] ["store", "head", "j", "block"] (defScope s_may_hold) := ⟨rfl, rfl, rfl, by decide +kernel, rfl, by decide +kernel, by decide +kernel⟩
def g_may_hold : List Sl → Option Out := sSeq (sIf (fun δ => toB (f2 (bD eqD) (fVar 1) (fCon (.int 2)) δ)) (sSeq (sRet (f2 (bD eqD) (fVar 3) (f2 addA (fVar 2) (fCon (.int 1))))) (sNil)) (sNil)) (sSeq (sRet (fChain (bD leD) (bD leD) (fCon (.int 4)) (fVar 3) (f2 idxD (fVar 0) (fCon (.int 1))))) (sNil))
def φ_may_hold : List Sl → Option (D × List Sl) := fnF [false, false, false, false] 4 false g_may_hold
theorem ok_may_hold (T : Txt K mg)  {f : Addr} {fd : FuncData} (Fu : Fun K "may_hold" "may_hold" s_may_hold f fd) (m : mg "may_hold" = some (.ref f)) : GK P w K mg base "may_hold" 1 4 false φ_may_hold := by
  refine ⟨f, fd, ["store", "head", "j", "block"], fn_ok Fu sc_may_hold rfl (fun cd A out s G E hG hr => ?_), rfl, m, Fu.kp, Fu.binds fun _ _ _ _ _ _ us hl => match us, hl with | [_, _, _, _], _ => rfl⟩
  have S := sc_may_hold; have h1 := hu1 hr; have h65 := hu65 hr; have h66 := hu66 hr; have h67 := hu67 hr
  exact bv_cons (sv_if (tv_cmp (cd_eq h65).op os_cmp (ev_v 1) (ev_int)) (bv_cons (sv_ret (ev_cmp (cd_eq h65).op os_cmp (ev_v 3) (ev_op op_add4 os_addA (ev_v 2) (ev_int)))) (bv_nil)) (bv_nil)) (bv_cons (sv_ret (ev_chain cd_le.op os_cmp cd_le.op os_cmp (ev_int) (ev_v 3) (ev_idx h1 (ev_v 0) (ev_int)))) (bv_nil))
/-! in_use -/
abbrev s_in_use : Stmt := top 20
theorem sc_in_use : FnScope ["store", "head", "j"] ["store", "head", "j"] (defScope s_in_use) := ⟨rfl, rfl, rfl, by decide +kernel, rfl, by decide +kernel, by decide +kernel⟩
def g_in_use : List Sl → Option Out := sSeq (sRet (fA (g2 maxD) (aCons (fCon (.int 0)) (aCons (fA (g2 minD) (aCons (fCon (.int 4)) (aCons (f2 subD (callF [] true φ_cell_of (kCons (fVar 0) (kCons (fTup (aCons (fCon (.str "length")) (aCons (fVar 1) (aNil)))) (kNil)))) (f2 mulA (fCon (.int 4)) (fVar 2))) (aNil)))) (aNil))))) (sNil)
def φ_in_use : List Sl → Option (D × List Sl) := fnF [false, false, false] 3 false g_in_use
theorem ok_in_use (T : Txt K mg) (k_cell_of : GK P w K mg base "cell_of" 5 2 false φ_cell_of) {f : Addr} {fd : FuncData} (Fu : Fun K "in_use" "in_use" s_in_use f fd) (m : mg "in_use" = some (.ref f)) : GK P w K mg base "in_use" 6 3 false φ_in_use := by
  refine ⟨f, fd, ["store", "head", "j"], fn_ok Fu sc_in_use rfl (fun cd A out s G E hG hr => ?_), rfl, m, Fu.kp, Fu.binds fun _ _ _ _ _ _ us hl => match us, hl with | [_, _, _], _ => rfl⟩
  have S := sc_in_use; have h1 := hu1 hr; have h65 := hu65 hr; have h66 := hu66 hr; have h67 := hu67 hr
  exact bv_cons (sv_ret (ev_callB (bnk T.m_max) (cr_max2 rfl) cs_max2 (av_cons (ev_int) (av_cons (ev_callB (bnk T.m_min) (cr_min2 rfl) cs_min2 (av_cons (ev_g T.c_BLOCK_CELLS) (av_cons (ev_op op_sub os_sub (ev_fn (k_cell_of.kn hr hG) (kn_cons (ev_v 0) (kn_cons (ev_tup (av_cons (ev_str) (av_cons (ev_v 1) (av_nil)))) (kn_nil)))) (ev_op op_mul4 os_mulA (ev_g T.c_BLOCK_CELLS) (ev_v 2))) (av_nil)))) (av_nil))))) (bv_nil)
/-! held_by -/
abbrev s_held_by : Stmt := top 21
theorem sc_held_by : FnScope ["store", "head", "found", "j", "block"] ["store", "head"] (defScope s_held_by) := ⟨rfl, rfl, rfl, by decide +kernel, rfl, by decide +kernel, by decide +kernel⟩
def g_held_by : List Sl → Option Out := sSeq (sOwn 2 (fLst (aNil))) (sSeq (sIf (fun δ => toB (callF [] true φ_is_measured (kCons (fVar 0) (kCons (fVar 1) (kNil))) δ)) (sSeq (sWip [3, 4] (sFor (.nm 3) (fRng (aCons (fCon (.int 3)) (aNil))) (sSeq (sSet 4 (callF [] true φ_cell_of (kCons (fVar 0) (kCons (fTup (aCons (fCon (.str "slot")) (aCons (fVar 1) (aCons (fVar 3) (aNil))))) (kNil))))) (sSeq (sIf (gAnd (fun δ => toB (callF [] true φ_is_needed (kCons (fVar 0) (kCons (fVar 1) (kCons (fVar 3) (kNil)))) δ)) (fun δ => toB (callF [] true φ_may_hold (kCons (fVar 0) (kCons (fVar 1) (kCons (fVar 3) (kCons (fVar 4) (kNil))))) δ))) (sSeq (sExp (fApp 2 (fTup (aCons (fVar 3) (aCons (fVar 4) (aNil)))))) (sNil)) (sNil)) (sNilW [3, 4]))))) (sNilW [3, 4])) (sNilW [3, 4])) (sSeq (sRetV 2) (sNil)))
def φ_held_by : List Sl → Option (D × List Sl) := fnF [false, false] 5 true g_held_by
theorem ok_held_by (T : Txt K mg) (k_cell_of : GK P w K mg base "cell_of" 5 2 false φ_cell_of) (k_is_measured : GK P w K mg base "is_measured" 6 2 false φ_is_measured) (k_is_needed : GK P w K mg base "is_needed" 6 3 false φ_is_needed) (k_may_hold : GK P w K mg base "may_hold" 1 4 false φ_may_hold) {f : Addr} {fd : FuncData} (Fu : Fun K "held_by" "held_by" s_held_by f fd) (m : mg "held_by" = some (.ref f)) : GK P w K mg base "held_by" 7 2 true φ_held_by := by
  refine ⟨f, fd, ["store", "head"], fn_ok Fu sc_held_by rfl (fun cd A out s G E hG hr => ?_), rfl, m, Fu.kp, Fu.binds fun _ _ _ _ _ _ us hl => match us, hl with | [_, _], _ => rfl⟩
  have S := sc_held_by; have h1 := hu1 hr; have h65 := hu65 hr; have h66 := hu66 hr; have h67 := hu67 hr
  exact bv_cons (sv_own rfl (tgk 2 S.nd) (nv_lst (av_nil))) (bv_cons (sv_if (tv_val (ev_fn (k_is_measured.kn hr hG) (kn_cons (ev_v 0) (kn_cons (ev_v 1) (kn_nil))))) (bv_cons (sv_wip rfl (sv_for (passes_of rfl) rfl (iv_range1 rfl T.m_range (av_cons (ev_g T.c_SLOTS) (av_nil)) rfl (al_cons (al_nil))) (gv_name (tgk 3 S.nd)) (by decide) (bv_cons (sv_set rfl (tgk 4 S.nd) (ev_fn (k_cell_of.kn hr hG) (kn_cons (ev_v 0) (kn_cons (ev_tup (av_cons (ev_str) (av_cons (ev_v 1) (av_cons (ev_v 3) (av_nil))))) (kn_nil))))) (bv_cons (sv_if (WV.tv (wv_and (tv_val (ev_fn (k_is_needed.kn hr hG) (kn_cons (ev_v 0) (kn_cons (ev_v 1) (kn_cons (ev_v 3) (kn_nil)))))) (wv_and1 (tv_val (ev_fn (k_may_hold.kn hr hG) (kn_cons (ev_v 0) (kn_cons (ev_v 1) (kn_cons (ev_v 3) (kn_cons (ev_v 4) (kn_nil)))))))))) (bv_cons (sv_exp (ev_app (nmk 2) (ev_tup (av_cons (ev_v 3) (av_cons (ev_v 4) (av_nil)))) ⟨rfl, rfl, rfl, rfl, rfl⟩)) (bv_nil)) (bv_nil)) (bv_nilw rfl))))) (bv_nilw rfl)) (bv_nilw rfl)) (bv_cons (sv_retV (i := 2) rfl rfl (by first | exact .inl rfl | exact .inr (.inl rfl)) (by decide) (by decide)) (bv_nil)))
/-! content_places -/
abbrev s_content_places : Stmt := top 22
theorem sc_content_places : FnScope ["store", "head", "found", "j", "block", "k"] ["store", "head"] (defScope s_content_places) := ⟨rfl, rfl, rfl, by decide +kernel, rfl, by decide +kernel, by decide +kernel⟩
def g_content_places : List Sl → Option Out := sSeq (sOwn 2 (fLst (aNil))) (sSeq (sWip [3, 4, 5] (sFor (.cons (.nm 3) (.cons (.nm 4) (.nil))) (fIt (callF [] true φ_held_by (kCons (fVar 0) (kCons (fVar 1) (kNil))))) (sSeq (sWip [5] (sFor (.nm 5) (fRng (aCons (callF [] true φ_in_use (kCons (fVar 0) (kCons (fVar 1) (kCons (fVar 3) (kNil))))) (aNil))) (sSeq (sExp (fApp 2 (callF [] true φ_place_of (kCons (f2 idxD (fVar 0) (fCon (.int 0))) (kCons (f2 idxD (fVar 0) (fCon (.int 1))) (kCons (fTup (aCons (fCon (.str "cell")) (aCons (fVar 4) (aCons (fVar 5) (aNil))))) (kNil))))))) (sNilW [5])))) (sNilW [3, 4, 5])))) (sSeq (sRetV 2) (sNil)))
def φ_content_places : List Sl → Option (D × List Sl) := fnF [false, false] 6 true g_content_places
theorem ok_content_places (T : Txt K mg) (k_held_by : GK P w K mg base "held_by" 7 2 true φ_held_by) (k_in_use : GK P w K mg base "in_use" 6 3 false φ_in_use) (k_place_of : GK P w K mg base "place_of" 4 3 false φ_place_of) {f : Addr} {fd : FuncData} (Fu : Fun K "content_places" "content_places" s_content_places f fd) (m : mg "content_places" = some (.ref f)) : GK P w K mg base "content_places" 8 2 true φ_content_places := by
  refine ⟨f, fd, ["store", "head"], fn_ok Fu sc_content_places rfl (fun cd A out s G E hG hr => ?_), rfl, m, Fu.kp, Fu.binds fun _ _ _ _ _ _ us hl => match us, hl with | [_, _], _ => rfl⟩
  have S := sc_content_places; have h1 := hu1 hr; have h65 := hu65 hr; have h66 := hu66 hr; have h67 := hu67 hr
  exact bv_cons (sv_own rfl (tgk 2 S.nd) (nv_lst (av_nil))) (bv_cons (sv_wip rfl (sv_for (passes_of rfl) rfl (iv_seq (NV.ev (nv_fn (k_held_by.kn hr hG) (kn_cons (ev_v 0) (kn_cons (ev_v 1) (kn_nil)))))) (gv_t rfl (gvs_cons (gv_name (tgk 3 S.nd)) (gvs_cons (gv_name (tgk 4 S.nd)) (gvs_nil)))) (by decide) (bv_cons (sv_wip rfl (sv_for (passes_of rfl) rfl (iv_range1 rfl T.m_range (av_cons (ev_fn (k_in_use.kn hr hG) (kn_cons (ev_v 0) (kn_cons (ev_v 1) (kn_cons (ev_v 3) (kn_nil))))) (av_nil)) rfl (al_cons (al_nil))) (gv_name (tgk 5 S.nd)) (by decide) (bv_cons (sv_exp (ev_app (nmk 2) (ev_fn (k_place_of.kn hr hG) (kn_cons (ev_idx h1 (ev_v 0) (ev_int)) (kn_cons (ev_idx h1 (ev_v 0) (ev_int)) (kn_cons (ev_tup (av_cons (ev_str) (av_cons (ev_v 4) (av_cons (ev_v 5) (av_nil))))) (kn_nil))))) ⟨rfl, rfl, rfl, rfl, rfl⟩)) (bv_nilw rfl)))) (bv_nilw rfl)))) (bv_cons (sv_retV (i := 2) rfl rfl (by first | exact .inl rfl | exact .inr (.inl rfl)) (by decide) (by decide)) (bv_nil)))
/-! content_of -/
abbrev s_content_of : Stmt := top 23
theorem sc_content_of : FnScope ["store", "head", "place"] ["store", "head"] (defScope s_content_of) := ⟨rfl, rfl, rfl, by decide +kernel, rfl, by decide +kernel, by decide +kernel⟩
def g_content_of : List Sl → Option Out := sSeq (sRet (fA (g1 tupD) (aCons (fLc (.nm 2) [2] (fIt (callF [] true φ_content_places (kCons (fVar 0) (kCons (fVar 1) (kNil))))) (cYes) (f2 idxD (f2 idxD (fVar 0) (fCon (.int 2))) (fVar 2))) (aNil)))) (sNil)
def φ_content_of : List Sl → Option (D × List Sl) := fnF [false, false] 3 false g_content_of
theorem ok_content_of (T : Txt K mg) (k_content_places : GK P w K mg base "content_places" 8 2 true φ_content_places) {f : Addr} {fd : FuncData} (Fu : Fun K "content_of" "content_of" s_content_of f fd) (m : mg "content_of" = some (.ref f)) : GK P w K mg base "content_of" 9 2 false φ_content_of := by
  refine ⟨f, fd, ["store", "head"], fn_ok Fu sc_content_of rfl (fun cd A out s G E hG hr => ?_), rfl, m, Fu.kp, Fu.binds fun _ _ _ _ _ _ us hl => match us, hl with | [_, _], _ => rfl⟩
  have S := sc_content_of; have h1 := hu1 hr; have h65 := hu65 hr; have h66 := hu66 hr; have h67 := hu67 hr
  exact bv_cons (sv_ret (ev_callT (bnk T.m_tuple) cr_tuple cs_tuple (av_cons (NV.ev (nv_lc (own := [("place", 2)]) rfl S.nd (iv_seq (NV.ev (nv_fn (k_content_places.kn hr hG) (kn_cons (ev_v 0) (kn_cons (ev_v 1) (kn_nil)))))) (blk_of (N := ["store", "head", "place"]) (sc := defScope s_content_of) (by decide +kernel)) (fun _ _ _ _ _ => gv_name (tgk 2 S.nd)) (fun _ _ _ _ _ => tsv_nil) (fun _ _ _ _ _ => ev_idx h1 (ev_idx h1 (ev_v 0) (ev_int)) (ev_v 2)))) (av_nil)))) (bv_nil)
/-! entries_of -/
abbrev s_entries_of : Stmt := top 24
theorem sc_entries_of : FnScope ["store", "head", "content"] ["store", "head"] (defScope s_entries_of) := ⟨rfl, rfl, rfl, by decide +kernel, rfl, by decide +kernel, by decide +kernel⟩
def g_entries_of : List Sl → Option Out := sSeq (sSet 2 (callF [] true φ_content_of (kCons (fVar 0) (kCons (fVar 1) (kNil))))) (sSeq (sRet (fA (g1 tupD) (aCons (fA zipLD (aCons (f3 stpD (fVar 2) (oNone) (oNone)) (aCons (f3 stpD (fVar 2) (oSome (fCon (.int 1))) (oNone)) (aNil)))) (aNil)))) (sNil))
def φ_entries_of : List Sl → Option (D × List Sl) := fnF [false, false] 3 false g_entries_of
theorem ok_entries_of (T : Txt K mg) (k_content_of : GK P w K mg base "content_of" 9 2 false φ_content_of) {f : Addr} {fd : FuncData} (Fu : Fun K "entries_of" "entries_of" s_entries_of f fd) (m : mg "entries_of" = some (.ref f)) : GK P w K mg base "entries_of" 10 2 false φ_entries_of := by
  refine ⟨f, fd, ["store", "head"], fn_ok Fu sc_entries_of rfl (fun cd A out s G E hG hr => ?_), rfl, m, Fu.kp, Fu.binds fun _ _ _ _ _ _ us hl => match us, hl with | [_, _], _ => rfl⟩
  have S := sc_entries_of; have h1 := hu1 hr; have h65 := hu65 hr; have h66 := hu66 hr; have h67 := hu67 hr
  exact bv_cons (sv_set rfl (tgk 2 S.nd) (ev_fn (k_content_of.kn hr hG) (kn_cons (ev_v 0) (kn_cons (ev_v 1) (kn_nil))))) (bv_cons (sv_ret (ev_callT (bnk T.m_tuple) cr_tuple cs_tuple (av_cons (NV.ev (nv_lstZip rfl ⟨rfl, T.m_list⟩ ⟨rfl, T.m_zip⟩ (av_cons (ev_two (ev_v 2) (ov_none)) (av_cons (ev_two (ev_v 2) (ov_some (ev_int))) (av_nil))))) (av_nil)))) (bv_nil))
/-! names_in -/
abbrev s_names_in : Stmt := top 26
theorem sc_names_in : FnScope ["store", "head"] ["store", "head"] (defScope s_names_in) := ⟨rfl, rfl, rfl, by decide +kernel, rfl, by decide +kernel, by decide +kernel⟩
def g_names_in : List Sl → Option Out := sSeq (sRet (callF [] true φ_entries_of (kCons (fVar 0) (kCons (fVar 1) (kNil))))) (sNil)
def φ_names_in : List Sl → Option (D × List Sl) := fnF [false, false] 2 false g_names_in
theorem ok_names_in (T : Txt K mg) (k_entries_of : GK P w K mg base "entries_of" 10 2 false φ_entries_of) {f : Addr} {fd : FuncData} (Fu : Fun K "names_in" "names_in" s_names_in f fd) (m : mg "names_in" = some (.ref f)) : GK P w K mg base "names_in" 11 2 false φ_names_in := by
  refine ⟨f, fd, ["store", "head"], fn_ok Fu sc_names_in rfl (fun cd A out s G E hG hr => ?_), rfl, m, Fu.kp, Fu.binds fun _ _ _ _ _ _ us hl => match us, hl with | [_, _], _ => rfl⟩
  have S := sc_names_in; have h1 := hu1 hr; have h65 := hu65 hr; have h66 := hu66 hr; have h67 := hu67 hr
  exact bv_cons (sv_ret (ev_fn (k_entries_of.kn hr hG) (kn_cons (ev_v 0) (kn_cons (ev_v 1) (kn_nil))))) (bv_nil)
/-! worths_in -/
abbrev s_worths_in : Stmt := top 27
theorem sc_worths_in : FnScope ["store", "head"] ["store", "head"] (defScope s_worths_in) := ⟨rfl, rfl, rfl, by decide +kernel, rfl, by decide +kernel, by decide +kernel⟩
def g_worths_in : List Sl → Option Out := sSeq (sRet (callF [] true φ_content_of (kCons (fVar 0) (kCons (fVar 1) (kNil))))) (sNil)
def φ_worths_in : List Sl → Option (D × List Sl) := fnF [false, false] 2 false g_worths_in
theorem ok_worths_in (T : Txt K mg) (k_content_of : GK P w K mg base "content_of" 9 2 false φ_content_of) {f : Addr} {fd : FuncData} (Fu : Fun K "worths_in" "worths_in" s_worths_in f fd) (m : mg "worths_in" = some (.ref f)) : GK P w K mg base "worths_in" 10 2 false φ_worths_in := by
  refine ⟨f, fd, ["store", "head"], fn_ok Fu sc_worths_in rfl (fun cd A out s G E hG hr => ?_), rfl, m, Fu.kp, Fu.binds fun _ _ _ _ _ _ us hl => match us, hl with | [_, _], _ => rfl⟩
  have S := sc_worths_in; have h1 := hu1 hr; have h65 := hu65 hr; have h66 := hu66 hr; have h67 := hu67 hr
  exact bv_cons (sv_ret (ev_fn (k_content_of.kn hr hG) (kn_cons (ev_v 0) (kn_cons (ev_v 1) (kn_nil))))) (bv_nil)
/-! _law_deck -/
abbrev s__law_deck : Stmt := top 29
theorem sc__law_deck : FnScope ["_law_script", "_law_cells"] ["_law_script"] (defScope s__law_deck) := ⟨rfl, rfl, rfl, by decide +kernel, rfl, by decide +kernel, by decide +kernel⟩
theorem ok__law_deck (T : Txt K mg) {f : Addr} {fd : FuncData} (Fu : Fun K "_law_deck" "_law_deck" s__law_deck f fd) (m : mg "_law_deck" = some (.ref f)) : GKD P w K mg base "_law_deck" 1 := by
  refine ⟨f, fd, ["_law_script"], deck_ok (f1 := f2 addA (f2 modD (fA (g1 sumD) (aCons (fRd 1) (aNil))) (fCon (.int 2147483629))) (f2 mulA (fCon (.int 48271)) (fA (g1 lenD) (aCons (fRd 1) (aNil))))) Fu sc__law_deck rfl (fun ns => ?_) (fun cd A out s G E hG hr => ?_), m, Fu.kp, Fu.binds fun _ _ _ _ _ _ us hl => match us, hl with | [_], _ => rfl⟩
  · exact deck_f1 ns
  · have S := sc__law_deck; have h1 := hu1 hr; have h65 := hu65 hr
    exact ⟨sv_own rfl (tgk 1 S.nd) (nv_revScr rfl rfl T.m_list rfl T.m_reversed (nmk 0) rfl rfl), cv_io (nmk 1) (cv_cons (ev_op op_add4 os_addA (ev_op op_mod os_mod (ev_callB (bnk T.m_sum) (cr_sumL rfl) cs_sum (av_cons (ev_rd 1) (av_nil))) (ev_int)) (ev_op op_mul4 os_mulA (ev_int) (ev_callB (bnk T.m_len) cr_len cs_len (av_cons (ev_rd 1) (av_nil))))) (cv_cons ev_int cv_nil))⟩
/-! _law_draw -/
abbrev s__law_draw : Stmt := top 30
theorem sc__law_draw : FnScope ["_law_deck_here", "_law_most", "_law_cell", "_law_number"] ["_law_deck_here", "_law_most"] (defScope s__law_draw) := ⟨rfl, rfl, rfl, by decide +kernel, rfl, by decide +kernel, by decide +kernel⟩
def g__law_draw : List Sl → Option Out := sSeq (sDkN 0 (f2 addA (fDkN 0) (fCon (.int 1)))) (sSeq (sSet 2 (fIte (gDkE 0) (fDkM 0) (fDkPop 0))) (sSeq (sIf (fun δ => toB (f2 (bD geD) (fVar 2) (f2 powD (fCon (.int 10)) (fCon (.int 18))) δ)) (sSeq (sExp (fDkPush 0 (f2 fdivD (fVar 2) (fVar 1)))) (sSeq (sRet (f2 modD (fVar 2) (fVar 1))) (sNil))) (sNil)) (sSeq (sSet 3 (f2 modD (f2 mulA (f2 addA (f2 addA (f2 modD (fVar 2) (fCon (.int 2147483629))) (f2 mulA (fCon (.int 104729)) (fDkN 0))) (fCon (.int 1))) (fCon (.int 48271))) (fCon (.int 2147483647)))) (sSeq (sSet 3 (f2 modD (f2 addA (f2 addA (f2 mulA (fVar 3) (fVar 3)) (f2 mulA (fCon (.int 69621)) (fDkN 0))) (fCon (.int 7))) (fCon (.int 2147483587)))) (sSeq (sRet (f2 modD (f2 fdivD (f2 modD (f2 mulA (fVar 3) (f2 addA (f2 fdivD (fVar 3) (fCon (.int 3))) (fCon (.int 39373)))) (fCon (.int 2305843009213693951))) (fCon (.int 128))) (fVar 1))) (sNil))))))
def φ__law_draw : List Sl → Option (D × List Sl) := fnF [true, false] 4 false g__law_draw
theorem ok__law_draw (T : Txt K mg)  {f : Addr} {fd : FuncData} (Fu : Fun K "_law_draw" "_law_draw" s__law_draw f fd) (m : mg "_law_draw" = some (.ref f)) : GK P w K mg base "_law_draw" 1 2 false φ__law_draw := by
  refine ⟨f, fd, ["_law_deck_here", "_law_most"], fn_ok Fu sc__law_draw rfl (fun cd A out s G E hG hr => ?_), rfl, m, Fu.kp, Fu.binds fun _ _ _ _ _ _ us hl => match us, hl with | [_, _], _ => rfl⟩
  have S := sc__law_draw; have h1 := hu1 hr; have h65 := hu65 hr; have h66 := hu66 hr; have h67 := hu67 hr
  exact bv_cons (sv_dkN h1 (nmk 0) (ev_op op_add4 os_addA (ev_dkN h1 (nmk 0)) (ev_int)) ⟨rfl, rfl, rfl, fun _ => rfl⟩) (bv_cons (sv_set rfl (tgk 2 S.nd) (ev_ite (tv_dkE h65 (nmk 0)) (ev_dkM h1 (nmk 0)) (ev_dkPop h1 (nmk 0) (by intro _ _; rfl) ⟨rfl, rfl⟩))) (bv_cons (sv_if (tv_cmp cd_ge.op os_cmp (ev_v 2) (ev_op op_pow os_pow (ev_int) (ev_int))) (bv_cons (sv_exp (ev_dkPush h1 (nmk 0) (by intro _ _; rfl) (ev_op op_fdiv os_fdiv (ev_v 2) (ev_v 1)) ⟨rfl, rfl, rfl, rfl, rfl⟩)) (bv_cons (sv_ret (ev_op op_mod os_mod (ev_v 2) (ev_v 1))) (bv_nil))) (bv_nil)) (bv_cons (sv_set rfl (tgk 3 S.nd) (ev_op op_mod os_mod (ev_op op_mul4 os_mulA (ev_op op_add4 os_addA (ev_op op_add4 os_addA (ev_op op_mod os_mod (ev_v 2) (ev_int)) (ev_op op_mul4 os_mulA (ev_int) (ev_dkN h1 (nmk 0)))) (ev_int)) (ev_int)) (ev_int))) (bv_cons (sv_set rfl (tgk 3 S.nd) (ev_op op_mod os_mod (ev_op op_add4 os_addA (ev_op op_add4 os_addA (ev_op op_mul4 os_mulA (ev_v 3) (ev_v 3)) (ev_op op_mul4 os_mulA (ev_int) (ev_dkN h1 (nmk 0)))) (ev_int)) (ev_int))) (bv_cons (sv_ret (ev_op op_mod os_mod (ev_op op_fdiv os_fdiv (ev_op op_mod os_mod (ev_op op_mul4 os_mulA (ev_v 3) (ev_op op_add4 os_addA (ev_op op_fdiv os_fdiv (ev_v 3) (ev_int)) (ev_int))) (ev_int)) (ev_int)) (ev_v 1))) (bv_nil))))))
/-! _law_pick -/
abbrev s__law_pick : Stmt := top 31
theorem sc__law_pick : FnScope ["_law_deck_here", "_law_some"] ["_law_deck_here", "_law_some"] (defScope s__law_pick) := ⟨rfl, rfl, rfl, by decide +kernel, rfl, by decide +kernel, by decide +kernel⟩
def g__law_pick : List Sl → Option Out := sSeq (sRet (f2 idxD (fVar 1) (callF [] true φ__law_draw (kIo 0 (kCons (fA (g1 lenD) (aCons (fVar 1) (aNil))) (kNil)))))) (sNil)
def φ__law_pick : List Sl → Option (D × List Sl) := fnF [true, false] 2 false g__law_pick
theorem ok__law_pick (T : Txt K mg) (k__law_draw : GK P w K mg base "_law_draw" 1 2 false φ__law_draw) {f : Addr} {fd : FuncData} (Fu : Fun K "_law_pick" "_law_pick" s__law_pick f fd) (m : mg "_law_pick" = some (.ref f)) : GK P w K mg base "_law_pick" 2 2 false φ__law_pick := by
  refine ⟨f, fd, ["_law_deck_here", "_law_some"], fn_ok Fu sc__law_pick rfl (fun cd A out s G E hG hr => ?_), rfl, m, Fu.kp, Fu.binds fun _ _ _ _ _ _ us hl => match us, hl with | [_, _], _ => rfl⟩
  have S := sc__law_pick; have h1 := hu1 hr; have h65 := hu65 hr; have h66 := hu66 hr; have h67 := hu67 hr
  exact bv_cons (sv_ret (ev_idx h1 (ev_v 1) (ev_fn (k__law_draw.kn hr hG) (kn_io (nmk 0) (kn_cons (ev_callB (bnk T.m_len) cr_len cs_len (av_cons (ev_v 1) (av_nil))) (kn_nil)))))) (bv_nil)
/-! _law_shape -/
abbrev s__law_shape : Stmt := top 32
theorem sc__law_shape : FnScope ["_law_deck_here", "_law_way", "_law_heads", "_law_blocks"] ["_law_deck_here"] (defScope s__law_shape) := ⟨rfl, rfl, rfl, by decide +kernel, rfl, by decide +kernel, by decide +kernel⟩
def g__law_shape : List Sl → Option Out := sSeq (sSet 1 (callF [] true φ__law_draw (kIo 0 (kCons (fCon (.int 8)) (kNil))))) (sSeq (sPar2 2 3 (aCons (f2 addA (fCon (.int 3)) (callF [] true φ__law_draw (kIo 0 (kCons (fCon (.int 5)) (kNil))))) (aCons (f2 addA (fCon (.int 4)) (callF [] true φ__law_draw (kIo 0 (kCons (fCon (.int 7)) (kNil))))) (aNil)))) (sSeq (sRet (f2 idxD (fLst (aCons (fTup (aCons (fVar 2) (aCons (fVar 3) (aNil)))) (aCons (fTup (aCons (fCon (.int 8)) (aCons (fCon (.int 12)) (aNil)))) (aCons (fTup (aCons (fCon (.int 2)) (aCons (fCon (.int 3)) (aNil)))) (aNil))))) (f2 addA (fA (g1 intD) (aCons (f2 (bD eqD) (fVar 1) (fCon (.int 5))) (aNil))) (f2 mulA (fCon (.int 2)) (fA (g1 intD) (aCons (f2 (bD eqD) (fVar 1) (fCon (.int 3))) (aNil))))))) (sNil)))
def φ__law_shape : List Sl → Option (D × List Sl) := fnF [true] 4 false g__law_shape
theorem ok__law_shape (T : Txt K mg) (k__law_draw : GK P w K mg base "_law_draw" 1 2 false φ__law_draw) {f : Addr} {fd : FuncData} (Fu : Fun K "_law_shape" "_law_shape" s__law_shape f fd) (m : mg "_law_shape" = some (.ref f)) : GK P w K mg base "_law_shape" 2 1 false φ__law_shape := by
  refine ⟨f, fd, ["_law_deck_here"], fn_ok Fu sc__law_shape rfl (fun cd A out s G E hG hr => ?_), rfl, m, Fu.kp, Fu.binds fun _ _ _ _ _ _ us hl => match us, hl with | [_], _ => rfl⟩
  have S := sc__law_shape; have h1 := hu1 hr; have h65 := hu65 hr; have h66 := hu66 hr; have h67 := hu67 hr
  exact bv_cons (sv_set rfl (tgk 1 S.nd) (ev_fn (k__law_draw.kn hr hG) (kn_io (nmk 0) (kn_cons (ev_int) (kn_nil))))) (bv_cons (sv_par2 rfl rfl rfl (tgk 2 S.nd) (tgk 3 S.nd) (by decide) rfl rfl (av_cons (ev_op op_add4 os_addA (ev_int) (ev_fn (k__law_draw.kn hr hG) (kn_io (nmk 0) (kn_cons (ev_int) (kn_nil))))) (av_cons (ev_op op_add4 os_addA (ev_int) (ev_fn (k__law_draw.kn hr hG) (kn_io (nmk 0) (kn_cons (ev_int) (kn_nil))))) (av_nil)))) (bv_cons (sv_ret (ev_idx h1 (NV.ev (nv_lst (av_cons (ev_tup (av_cons (ev_v 2) (av_cons (ev_v 3) (av_nil)))) (av_cons (ev_tup (av_cons (ev_int) (av_cons (ev_int) (av_nil)))) (av_cons (ev_tup (av_cons (ev_int) (av_cons (ev_int) (av_nil)))) (av_nil)))))) (ev_op op_add4 os_addA (ev_callT (bnk T.m_int) cr_int cs_int (av_cons (ev_cmp (cd_eq h65).op os_cmp (ev_v 1) (ev_int)) (av_nil))) (ev_op op_mul4 os_mulA (ev_int) (ev_callT (bnk T.m_int) cr_int cs_int (av_cons (ev_cmp (cd_eq h65).op os_cmp (ev_v 1) (ev_int)) (av_nil))))))) (bv_nil)))
/-! _law_needs -/
abbrev s__law_needs : Stmt := top 33
theorem sc__law_needs : FnScope ["_law_kind", "_law_rows"] ["_law_kind", "_law_rows"] (defScope s__law_needs) := ⟨rfl, rfl, rfl, by decide +kernel, rfl, by decide +kernel, by decide +kernel⟩
def g__law_needs : List Sl → Option Out := sSeq (sRet (f2 fdivD (f2 addA (f2 mulA (fVar 0) (fA (g1 lenD) (aCons (fVar 1) (aNil)))) (fCon (.int 3))) (fCon (.int 4)))) (sNil)
def φ__law_needs : List Sl → Option (D × List Sl) := fnF [false, false] 2 false g__law_needs
theorem ok__law_needs (T : Txt K mg)  {f : Addr} {fd : FuncData} (Fu : Fun K "_law_needs" "_law_needs" s__law_needs f fd) (m : mg "_law_needs" = some (.ref f)) : GK P w K mg base "_law_needs" 1 2 false φ__law_needs := by
  refine ⟨f, fd, ["_law_kind", "_law_rows"], fn_ok Fu sc__law_needs rfl (fun cd A out s G E hG hr => ?_), rfl, m, Fu.kp, Fu.binds fun _ _ _ _ _ _ us hl => match us, hl with | [_, _], _ => rfl⟩
  have S := sc__law_needs; have h1 := hu1 hr; have h65 := hu65 hr; have h66 := hu66 hr; have h67 := hu67 hr
  exact bv_cons (sv_ret (ev_op op_fdiv os_fdiv (ev_op op_add4 os_addA (ev_op op_mul4 os_mulA (ev_v 0) (ev_callB (bnk T.m_len) cr_len cs_len (av_cons (ev_v 1) (av_nil)))) (ev_int)) (ev_int))) (bv_nil)
/-! _law_left -/
abbrev s__law_left : Stmt := top 34
theorem sc__law_left : FnScope ["_law_model_here", "_law_blocks", "_law_head"] ["_law_model_here", "_law_blocks"] (defScope s__law_left) := ⟨rfl, rfl, rfl, by decide +kernel, rfl, by decide +kernel, by decide +kernel⟩
def g__law_left : List Sl → Option Out := sSeq (sRet (f2 subD (f2 subD (fVar 1) (fCon (.int 3))) (fA (g1 sumD) (aCons (fLc (.nm 2) [2] (fIt (fVar 0)) (fun δ => toB (f2 (bD neD) (fVar 2) (fCon (.int 2)) δ)) (callF [] true φ__law_needs (kCons (f2 idxD (f2 idxD (fVar 0) (fVar 2)) (fCon (.int 0))) (kCons (f2 idxD (f2 idxD (fVar 0) (fVar 2)) (fCon (.int 1))) (kNil))))) (aNil))))) (sNil)
def φ__law_left : List Sl → Option (D × List Sl) := fnF [false, false] 3 false g__law_left
theorem ok__law_left (T : Txt K mg) (k__law_needs : GK P w K mg base "_law_needs" 1 2 false φ__law_needs) {f : Addr} {fd : FuncData} (Fu : Fun K "_law_left" "_law_left" s__law_left f fd) (m : mg "_law_left" = some (.ref f)) : GK P w K mg base "_law_left" 2 2 false φ__law_left := by
  refine ⟨f, fd, ["_law_model_here", "_law_blocks"], fn_ok Fu sc__law_left rfl (fun cd A out s G E hG hr => ?_), rfl, m, Fu.kp, Fu.binds fun _ _ _ _ _ _ us hl => match us, hl with | [_, _], _ => rfl⟩
  have S := sc__law_left; have h1 := hu1 hr; have h65 := hu65 hr; have h66 := hu66 hr; have h67 := hu67 hr
  exact bv_cons (sv_ret (ev_op op_sub os_sub (ev_op op_sub os_sub (ev_v 1) (ev_int)) (ev_callB (bnk T.m_sum) (cr_sumL rfl) cs_sum (av_cons (NV.ev (nv_lc (own := [("_law_head", 2)]) rfl S.nd (iv_seq (ev_v 0)) (blk_of (N := ["_law_model_here", "_law_blocks", "_law_head"]) (sc := defScope s__law_left) (by decide +kernel)) (fun _ _ _ _ _ => gv_name (tgk 2 S.nd)) (fun _ _ _ _ _ => tsv_one (tv_cmp (cd_ne h65).op os_cmp (ev_v 2) (ev_int))) (fun _ _ _ _ _ => ev_fn (k__law_needs.kn hr hG) (kn_cons (ev_idx h1 (ev_idx h1 (ev_v 0) (ev_v 2)) (ev_int)) (kn_cons (ev_idx h1 (ev_idx h1 (ev_v 0) (ev_v 2)) (ev_int)) (kn_nil)))))) (av_nil))))) (bv_nil)
/-! _law_enter -/
abbrev s__law_enter : Stmt := top 35
theorem sc__law_enter : FnScope ["_law_model_here", "_law_blocks", "_law_folder", "_law_name", "_law_head", "_law_kind", "_law_rows", "_law_more", "_law_room", "_law_one"] ["_law_model_here", "_law_blocks", "_law_folder", "_law_name", "_law_head"] (defScope s__law_enter) := ⟨rfl, rfl, rfl, by decide +kernel, rfl, by decide +kernel, by decide +kernel⟩
def g__law_enter : List Sl → Option Out := sSeq (sAsg (.cons (.nm 5) (.cons (.nm 6) (.nil))) (fLk 0 (f2 idxD (fRd 0) (fVar 2)))) (sSeq (sSet 7 (fA (g1 sortD) (aCons (f2 addA (fVar 6) (fLst (aCons (fTup (aCons (fVar 3) (aCons (fVar 4) (aNil)))) (aNil)))) (aNil)))) (sSeq (sSet 8 (f2 (bD leD) (f2 subD (callF [] true φ__law_needs (kCons (fCon (.int 2)) (kCons (fVar 7) (kNil)))) (callF [] true φ__law_needs (kCons (fCon (.int 2)) (kCons (fVar 6) (kNil))))) (fLk 0 (callF [0] true φ__law_left (kCons (fRd 0) (kCons (fVar 1) (kNil))))))) (sSeq (sIf (gAnd (fun δ => toB (f2 (bD ltD) (fA (g1 lenD) (aCons (fVar 6) (aNil))) (fCon (.int 6)) δ)) (gAnd (fun δ => toB ((fVar 8) δ)) (fun δ => toB (f2 (bD eqD) (fLc (.nm 9) [9] (fIt (fVar 6)) (fun δ => toB (f2 (bD eqD) (f2 idxD (fVar 9) (fCon (.int 0))) (fVar 3) δ)) (fVar 9)) (fLst (aNil)) δ)))) (sSeq (sPut 0 (fVar 2) (fTup (aCons (fCon (.int 2)) (aCons (fVar 7) (aNil))))) (sSeq (sRet (fCon (.bool true))) (sNil))) (sNil)) (sSeq (sRet (fCon (.bool false))) (sNil)))))
def φ__law_enter : List Sl → Option (D × List Sl) := fnF [true, false, false, false, false] 10 false g__law_enter
theorem ok__law_enter (T : Txt K mg) (k__law_left : GK P w K mg base "_law_left" 2 2 false φ__law_left) (k__law_needs : GK P w K mg base "_law_needs" 1 2 false φ__law_needs) {f : Addr} {fd : FuncData} (Fu : Fun K "_law_enter" "_law_enter" s__law_enter f fd) (m : mg "_law_enter" = some (.ref f)) : GK P w K mg base "_law_enter" 3 5 false φ__law_enter := by
  refine ⟨f, fd, ["_law_model_here", "_law_blocks", "_law_folder", "_law_name", "_law_head"], fn_ok Fu sc__law_enter rfl (fun cd A out s G E hG hr => ?_), rfl, m, Fu.kp, Fu.binds fun _ _ _ _ _ _ us hl => match us, hl with | [_, _, _, _, _], _ => rfl⟩
  have S := sc__law_enter; have h1 := hu1 hr; have h65 := hu65 hr; have h66 := hu66 hr; have h67 := hu67 hr
  exact bv_cons (sv_asg (by decide) (ev_lk 0 (ev_idx h1 (ev_rd 0) (ev_v 2))) (gv_t rfl (gvs_cons (gv_name (tgk 5 S.nd)) (gvs_cons (gv_name (tgk 6 S.nd)) (gvs_nil))))) (bv_cons (sv_set rfl (tgk 7 S.nd) (NV.ev (nv_callB (bnk T.m_sorted) (cr_sortD h67) cn_sort (av_cons (ev_op op_add4 os_addA (ev_v 6) (NV.ev (nv_lst (av_cons (ev_tup (av_cons (ev_v 3) (av_cons (ev_v 4) (av_nil)))) (av_nil))))) (av_nil))))) (bv_cons (sv_set rfl (tgk 8 S.nd) (ev_cmp cd_le.op os_cmp (ev_op op_sub os_sub (ev_fn (k__law_needs.kn hr hG) (kn_cons (ev_int) (kn_cons (ev_v 7) (kn_nil)))) (ev_fn (k__law_needs.kn hr hG) (kn_cons (ev_int) (kn_cons (ev_v 6) (kn_nil))))) (ev_lk 0 (ev_fn (k__law_left.kn hr hG) (kn_cons (ev_rd 0) (kn_cons (ev_v 1) (kn_nil))))))) (bv_cons (sv_if (WV.tv (wv_and (tv_cmp (cd_lt h65).op os_cmp (ev_callB (bnk T.m_len) cr_len cs_len (av_cons (ev_v 6) (av_nil))) (ev_int)) (wv_and (tv_val (ev_v 8)) (wv_and1 (tv_cmp (cd_eq h65).op os_cmp (NV.ev (nv_lc (own := [("_law_one", 9)]) rfl S.nd (iv_seq (ev_v 6)) (blk_of (N := ["_law_model_here", "_law_blocks", "_law_folder", "_law_name", "_law_head", "_law_kind", "_law_rows", "_law_more", "_law_room", "_law_one"]) (sc := defScope s__law_enter) (by decide +kernel)) (fun _ _ _ _ _ => gv_name (tgk 9 S.nd)) (fun _ _ _ _ _ => tsv_one (tv_cmp (cd_eq h65).op os_cmp (ev_idx h1 (ev_v 9) (ev_int)) (ev_v 3))) (fun _ _ _ _ _ => ev_v 9))) (NV.ev (nv_lst (av_nil)))))))) (bv_cons (sv_put h1 (nmk 0) (ev_v 2) (ev_tup (av_cons (ev_int) (av_cons (ev_v 7) (av_nil)))) ⟨rfl, rfl, rfl, fun _ => rfl⟩) (bv_cons (sv_ret (ev_bl)) (bv_nil))) (bv_nil)) (bv_cons (sv_ret (ev_bl)) (bv_nil)))))
/-! _law_model -/
abbrev s__law_model : Stmt := top 36
theorem sc__law_model : FnScope ["_law_deck_here", "_law_heads", "_law_blocks", "_law_model_here", "_law_folders", "_law_left_here", "_law_head", "_law_way", "_law_times", "_law_folder", "_law_worths", "_law_entered", "_law_k"] ["_law_deck_here", "_law_heads", "_law_blocks"] (defScope s__law_model) := ⟨rfl, rfl, rfl, by decide +kernel, rfl, by decide +kernel, by decide +kernel⟩
def g__law_model : List Sl → Option Out := sSeq (sOwn 3 (fDisp (pCons (fCon (.int 1)) (fTup (aCons (fCon (.int 2)) (aCons (fLst (aNil)) (aNil)))) (pCons (fCon (.int 2)) (fTup (aCons (fCon (.int 2)) (aCons (fLst (aNil)) (aNil)))) (pNil))))) (sSeq (sOwn 4 (fLst (aCons (fCon (.int 1)) (aNil)))) (sSeq (sOwn 5 (f2 rgD (fCon (.int 3)) (f2 addA (fVar 1) (fCon (.int 1))))) (sSeq (sWip [6, 7, 8, 9, 10, 11, 12] (whileF (fun δ => toB (f2 (bD neD) (fRd 5) (fLst (aNil)) δ)) (sSeq (sSet 6 (fPopAt 5 (callF [] true φ__law_draw (kIo 0 (kCons (fA (g1 lenD) (aCons (fRd 5) (aNil))) (kNil)))))) (sSeq (sSet 7 (callF [] true φ__law_draw (kIo 0 (kCons (fCon (.int 6)) (kNil))))) (sSeq (sSet 8 (callF [] true φ__law_pick (kIo 0 (kCons (fLst (aCons (fCon (.int 1)) (aCons (fCon (.int 1)) (aCons (fCon (.int 2)) (aCons (fCon (.int 3)) (aNil)))))) (kNil))))) (sSeq (sSet 9 (callF [4] true φ__law_pick (kIo 0 (kCons (fRd 4) (kNil))))) (sSeq (sIf (fun δ => toB (f2 (bD eqD) (fVar 7) (fCon (.int 0)) δ)) (sSeq (sContW [6, 7, 8, 9, 10, 11, 12]) (sNil)) (sNil)) (sSeq (sOwn 10 (fLc (.nm 12) [12] (fRng (aCons (callF [] true φ__law_draw (kIo 0 (kCons (fCon (.int 13)) (kNil)))) (aNil))) (cYes) (callF [] true φ__law_draw (kIo 0 (kCons (fCon (.int 100)) (kNil)))))) (sSeq (sPut 3 (fVar 6) (fIte (fun δ => toB (f2 (bD ltD) (fVar 7) (fCon (.int 3)) δ)) (fTup (aCons (fCon (.int 2)) (aCons (fLst (aNil)) (aNil)))) (fTup (aCons (fCon (.int 1)) (aCons (f3 slcD (fRd 10) (oNone) (oSome (f2 mulA (fCon (.int 4)) (fLk 3 (callF [3] true φ__law_left (kCons (fRd 3) (kCons (fVar 2) (kNil)))))))) (aNil)))))) (sSeq (sSet 11 (fAnd (f2 (bD neD) (fVar 7) (fCon (.int 5))) (callF [] true φ__law_enter (kIo 3 (kCons (fVar 2) (kCons (fVar 9) (kCons (f2 addA (fCon (.int 1)) (callF [] true φ__law_draw (kIo 0 (kCons (fCon (.int 99)) (kNil))))) (kCons (fVar 6) (kNil))))))))) (sSeq (sIf (gNot (fun δ => toB ((fVar 11) δ))) (sSeq (sPut 3 (fCon (.int 2)) (fTup (aCons (fCon (.int 2)) (aCons (fA (g1 sortD) (aCons (f2 addA (f2 idxD (fLk 3 (f2 idxD (fRd 3) (fCon (.int 2)))) (fCon (.int 1))) (fLst (aCons (fTup (aCons (fVar 6) (aCons (fVar 6) (aNil)))) (aNil)))) (aNil))) (aNil))))) (sNil)) (sNil)) (sSeq (sWip [12] (sFor (.nm 12) (fRng (aCons (f2 mulA (f2 subD (fVar 8) (fCon (.int 1))) (fA (g1 intD) (aCons (f2 (bD gtD) (fVar 7) (fCon (.int 2))) (aNil)))) (aNil))) (sSeq (sExp (callF [] true φ__law_enter (kIo 3 (kCons (fVar 2) (kCons (callF [4] true φ__law_pick (kIo 0 (kCons (fRd 4) (kNil)))) (kCons (f2 addA (fCon (.int 1)) (callF [] true φ__law_draw (kIo 0 (kCons (fCon (.int 99)) (kNil))))) (kCons (fVar 6) (kNil)))))))) (sNilW [12])))) (sSeq (sIf (fun δ => toB (f2 (bD ltD) (fVar 7) (fCon (.int 3)) δ)) (sSeq (sExp (fApp 4 (fVar 6))) (sNil)) (sNil)) (sNilW [6, 7, 8, 9, 10, 11, 12])))))))))))) 100)) (sSeq (sRetV 3) (sNil)))))
def φ__law_model : List Sl → Option (D × List Sl) := fnF [true, false, false] 13 true g__law_model
theorem ok__law_model (T : Txt K mg) (k__law_draw : GK P w K mg base "_law_draw" 1 2 false φ__law_draw) (k__law_enter : GK P w K mg base "_law_enter" 3 5 false φ__law_enter) (k__law_left : GK P w K mg base "_law_left" 2 2 false φ__law_left) (k__law_pick : GK P w K mg base "_law_pick" 2 2 false φ__law_pick) {f : Addr} {fd : FuncData} (Fu : Fun K "_law_model" "_law_model" s__law_model f fd) (m : mg "_law_model" = some (.ref f)) : GK P w K mg base "_law_model" 4 3 true φ__law_model := by
  refine ⟨f, fd, ["_law_deck_here", "_law_heads", "_law_blocks"], fn_ok Fu sc__law_model rfl (fun cd A out s G E hG hr => ?_), rfl, m, Fu.kp, Fu.binds fun _ _ _ _ _ _ us hl => match us, hl with | [_, _, _], _ => rfl⟩
  have S := sc__law_model; have h1 := hu1 hr; have h65 := hu65 hr; have h66 := hu66 hr; have h67 := hu67 hr
  exact bv_cons (sv_own rfl (tgk 3 S.nd) (nv_disp (pv_cons (ev_int) (ev_tup (av_cons (ev_int) (av_cons (NV.ev (nv_lst (av_nil))) (av_nil)))) (pv_cons (ev_int) (ev_tup (av_cons (ev_int) (av_cons (NV.ev (nv_lst (av_nil))) (av_nil)))) (pv_nil))))) (bv_cons (sv_own rfl (tgk 4 S.nd) (nv_lst (av_cons (ev_int) (av_nil)))) (bv_cons (sv_own rfl (tgk 5 S.nd) (nv_lrg2 rfl T.m_list T.m_range (ev_int) (ev_op op_add4 os_addA (ev_v 1) (ev_int)))) (bv_cons (sv_wip rfl (sv_while (passes_of rfl) (tv_cmp (cd_ne h65).op os_cmp (ev_rd 5) (NV.ev (nv_lst (av_nil)))) (bv_cons (sv_set rfl (tgk 6 S.nd) (ev_popAt (nmk 5) (ev_fn (k__law_draw.kn hr hG) (kn_io (nmk 0) (kn_cons (ev_callB (bnk T.m_len) cr_len cs_len (av_cons (ev_rd 5) (av_nil))) (kn_nil)))) ⟨rfl, rfl, rfl, rfl, rfl⟩)) (bv_cons (sv_set rfl (tgk 7 S.nd) (ev_fn (k__law_draw.kn hr hG) (kn_io (nmk 0) (kn_cons (ev_int) (kn_nil))))) (bv_cons (sv_set rfl (tgk 8 S.nd) (ev_fn (k__law_pick.kn hr hG) (kn_io (nmk 0) (kn_cons (NV.ev (nv_lst (av_cons (ev_int) (av_cons (ev_int) (av_cons (ev_int) (av_cons (ev_int) (av_nil))))))) (kn_nil))))) (bv_cons (sv_set rfl (tgk 9 S.nd) (ev_fn (k__law_pick.kn hr hG) (kn_io (nmk 0) (kn_cons (ev_rd 4) (kn_nil))))) (bv_cons (sv_if (tv_cmp (cd_eq h65).op os_cmp (ev_v 7) (ev_int)) (bv_cons (sv_contw rfl) (bv_nil)) (bv_nil)) (bv_cons (sv_lc (own := [("_law_k", 12)]) rfl S.nd rfl rfl rfl (iv_range1 rfl T.m_range (av_cons (ev_fn (k__law_draw.kn hr hG) (kn_io (nmk 0) (kn_cons (ev_int) (kn_nil)))) (av_nil)) rfl (al_cons (al_nil))) (blk_of (N := ["_law_deck_here", "_law_heads", "_law_blocks", "_law_model_here", "_law_folders", "_law_left_here", "_law_head", "_law_way", "_law_times", "_law_folder", "_law_worths", "_law_entered", "_law_k"]) (sc := defScope s__law_model) (by decide +kernel)) (fun _ _ _ _ _ => gv_name (tgk 12 S.nd)) (fun _ _ _ _ _ => tsv_nil) (fun _ _ _ _ _ => ev_fn (k__law_draw.kn hr hG) (kn_io (nmk 0) (kn_cons (ev_int) (kn_nil)))) (by intro _; rfl) (by decide) (by decide) rfl) (bv_cons (sv_put h1 (nmk 3) (ev_v 6) (ev_ite (tv_cmp (cd_lt h65).op os_cmp (ev_v 7) (ev_int)) (ev_tup (av_cons (ev_int) (av_cons (NV.ev (nv_lst (av_nil))) (av_nil)))) (ev_tup (av_cons (ev_int) (av_cons (ev_slice (ev_rd 10) (ov_none) (ov_some (ev_op op_mul4 os_mulA (ev_int) (ev_lk 3 (ev_fn (k__law_left.kn hr hG) (kn_cons (ev_rd 3) (kn_cons (ev_v 2) (kn_nil)))))))) (av_nil))))) ⟨rfl, rfl, rfl, fun _ => rfl⟩) (bv_cons (sv_set rfl (tgk 11 S.nd) (ev_and (ev_cmp (cd_ne h65).op os_cmp (ev_v 7) (ev_int)) (ev_and1 (ev_fn (k__law_enter.kn hr hG) (kn_io (nmk 3) (kn_cons (ev_v 2) (kn_cons (ev_v 9) (kn_cons (ev_op op_add4 os_addA (ev_int) (ev_fn (k__law_draw.kn hr hG) (kn_io (nmk 0) (kn_cons (ev_int) (kn_nil))))) (kn_cons (ev_v 6) (kn_nil)))))))))) (bv_cons (sv_if (tv_not (tv_val (ev_v 11))) (bv_cons (sv_put h1 (nmk 3) (ev_int) (ev_tup (av_cons (ev_int) (av_cons (NV.ev (nv_callB (bnk T.m_sorted) (cr_sortD h67) cn_sort (av_cons (ev_op op_add4 os_addA (ev_idx h1 (ev_lk 3 (ev_idx h1 (ev_rd 3) (ev_int))) (ev_int)) (NV.ev (nv_lst (av_cons (ev_tup (av_cons (ev_v 6) (av_cons (ev_v 6) (av_nil)))) (av_nil))))) (av_nil)))) (av_nil)))) ⟨rfl, rfl, rfl, fun _ => rfl⟩) (bv_nil)) (bv_nil)) (bv_cons (sv_wip rfl (sv_for (passes_of rfl) rfl (iv_range1 rfl T.m_range (av_cons (ev_op op_mul4 os_mulA (ev_op op_sub os_sub (ev_v 8) (ev_int)) (ev_callT (bnk T.m_int) cr_int cs_int (av_cons (ev_cmp cd_gt.op os_cmp (ev_v 7) (ev_int)) (av_nil)))) (av_nil)) rfl (al_cons (al_nil))) (gv_name (tgk 12 S.nd)) (by decide) (bv_cons (sv_exp (ev_fn (k__law_enter.kn hr hG) (kn_io (nmk 3) (kn_cons (ev_v 2) (kn_cons (ev_fn (k__law_pick.kn hr hG) (kn_io (nmk 0) (kn_cons (ev_rd 4) (kn_nil)))) (kn_cons (ev_op op_add4 os_addA (ev_int) (ev_fn (k__law_draw.kn hr hG) (kn_io (nmk 0) (kn_cons (ev_int) (kn_nil))))) (kn_cons (ev_v 6) (kn_nil)))))))) (bv_nilw rfl)))) (bv_cons (sv_if (tv_cmp (cd_lt h65).op os_cmp (ev_v 7) (ev_int)) (bv_cons (sv_exp (ev_app (nmk 4) (ev_v 6) ⟨rfl, rfl, rfl, rfl, rfl⟩)) (bv_nil)) (bv_nil)) (bv_nilw rfl)))))))))))))) (bv_cons (sv_retV (i := 3) rfl rfl (by first | exact .inl rfl | exact .inr (.inl rfl)) (by decide) (by decide)) (bv_nil)))))
/-! _law_given -/
abbrev s__law_given : Stmt := top 37
theorem sc__law_given : FnScope ["_law_deck_here", "_law_model_here", "_law_blocks", "_law_left_here", "_law_given_here", "_law_head", "_law_many", "_law_k"] ["_law_deck_here", "_law_model_here", "_law_blocks"] (defScope s__law_given) := ⟨rfl, rfl, rfl, by decide +kernel, rfl, by decide +kernel, by decide +kernel⟩
def g__law_given : List Sl → Option Out := sSeq (sOwn 3 (f2 rgD (fCon (.int 4)) (f2 addA (fVar 2) (fCon (.int 1))))) (sSeq (sOwn 4 (fDisp (pCons (fCon (.int 2)) (fLst (aCons (fCon (.int 1)) (aCons (fCon (.int 2)) (aCons (fCon (.int 3)) (aNil))))) (pNil)))) (sSeq (sWip [5, 6] (sFor (.nm 5) (fIt (fA (g1 sortKD) (aCons (fVar 1) (aNil)))) (sSeq (sIf (fun δ => toB (f2 (bD neD) (fVar 5) (fCon (.int 2)) δ)) (sSeq (sSet 6 (callF [] true φ__law_needs (kCons (f2 idxD (f2 idxD (fVar 1) (fVar 5)) (fCon (.int 0))) (kCons (f2 idxD (f2 idxD (fVar 1) (fVar 5)) (fCon (.int 1))) (kNil))))) (sSeq (sPut 4 (fVar 5) (fLc (.nm 7) [7] (fRng (aCons (fVar 6) (aNil))) (cYes) (fPopAt 3 (callF [] true φ__law_draw (kIo 0 (kCons (fA (g1 lenD) (aCons (fRd 3) (aNil))) (kNil))))))) (sNilW [6]))) (sNilW [6])) (sNilW [5, 6])))) (sSeq (sRetV 4) (sNil))))
def φ__law_given : List Sl → Option (D × List Sl) := fnF [true, false, false] 8 true g__law_given
theorem ok__law_given (T : Txt K mg) (k__law_draw : GK P w K mg base "_law_draw" 1 2 false φ__law_draw) (k__law_needs : GK P w K mg base "_law_needs" 1 2 false φ__law_needs) {f : Addr} {fd : FuncData} (Fu : Fun K "_law_given" "_law_given" s__law_given f fd) (m : mg "_law_given" = some (.ref f)) : GK P w K mg base "_law_given" 2 3 true φ__law_given := by
  refine ⟨f, fd, ["_law_deck_here", "_law_model_here", "_law_blocks"], fn_ok Fu sc__law_given rfl (fun cd A out s G E hG hr => ?_), rfl, m, Fu.kp, Fu.binds fun _ _ _ _ _ _ us hl => match us, hl with | [_, _, _], _ => rfl⟩
  have S := sc__law_given; have h1 := hu1 hr; have h65 := hu65 hr; have h66 := hu66 hr; have h67 := hu67 hr
  exact bv_cons (sv_own rfl (tgk 3 S.nd) (nv_lrg2 rfl T.m_list T.m_range (ev_int) (ev_op op_add4 os_addA (ev_v 2) (ev_int)))) (bv_cons (sv_own rfl (tgk 4 S.nd) (nv_disp (pv_cons (ev_int) (NV.ev (nv_lst (av_cons (ev_int) (av_cons (ev_int) (av_cons (ev_int) (av_nil)))))) (pv_nil)))) (bv_cons (sv_wip rfl (sv_for (passes_of rfl) rfl (iv_seq (NV.ev (nv_callB (bnk T.m_sorted) (cr_sortKD rfl) cn_sortK (av_cons (ev_v 1) (av_nil))))) (gv_name (tgk 5 S.nd)) (by decide) (bv_cons (sv_if (tv_cmp (cd_ne h65).op os_cmp (ev_v 5) (ev_int)) (bv_cons (sv_set rfl (tgk 6 S.nd) (ev_fn (k__law_needs.kn hr hG) (kn_cons (ev_idx h1 (ev_idx h1 (ev_v 1) (ev_v 5)) (ev_int)) (kn_cons (ev_idx h1 (ev_idx h1 (ev_v 1) (ev_v 5)) (ev_int)) (kn_nil))))) (bv_cons (sv_put h1 (nmk 4) (ev_v 5) (NV.ev (nv_lc (own := [("_law_k", 7)]) rfl S.nd (iv_range1 rfl T.m_range (av_cons (ev_v 6) (av_nil)) rfl (al_cons (al_nil))) (blk_of (N := ["_law_deck_here", "_law_model_here", "_law_blocks", "_law_left_here", "_law_given_here", "_law_head", "_law_many", "_law_k"]) (sc := defScope s__law_given) (by decide +kernel)) (fun _ _ _ _ _ => gv_name (tgk 7 S.nd)) (fun _ _ _ _ _ => tsv_nil) (fun _ _ _ _ _ => ev_popAt (nmk 3) (ev_fn (k__law_draw.kn hr hG) (kn_io (nmk 0) (kn_cons (ev_callB (bnk T.m_len) cr_len cs_len (av_cons (ev_rd 3) (av_nil))) (kn_nil)))) ⟨rfl, rfl, rfl, rfl, rfl⟩))) ⟨rfl, rfl, rfl, fun _ => rfl⟩) (bv_nilw rfl))) (bv_nilw rfl)) (bv_nilw rfl)))) (bv_cons (sv_retV (i := 4) rfl rfl (by first | exact .inl rfl | exact .inr (.inl rfl)) (by decide) (by decide)) (bv_nil))))
/-! _law_laid -/
abbrev s__law_laid : Stmt := top 38
theorem sc__law_laid : FnScope ["_law_heads", "_law_blocks", "_law_model_here", "_law_given_here", "_law_cells", "_law_head", "_law_row", "_law_kind", "_law_rows", "_law_name", "_law_other", "_law_j", "_law_block", "_law_k", "_law_worth"] ["_law_heads", "_law_blocks", "_law_model_here", "_law_given_here"] (defScope s__law_laid) := ⟨rfl, rfl, rfl, by decide +kernel, rfl, by decide +kernel, by decide +kernel⟩
def g__law_laid : List Sl → Option Out := sSeq (sOwn 4 (f2 mulL (fLst (aCons (fCon (.int 0)) (aNil))) (f2 addA (f2 addA (f2 mulA (fCon (.int 7)) (fVar 0)) (f2 mulA (fCon (.int 5)) (fVar 1))) (fCon (.int 82))))) (sSeq (sWip [5, 6, 7, 8, 9, 10, 11, 12, 13, 14] (sFor (.nm 5) (fIt (fVar 2)) (sSeq (sAsg (.cons (.nm 7) (.cons (.nm 8) (.nil))) (f2 idxD (fVar 2) (fVar 5))) (sSeq (sOwn 6 (fIte (fun δ => toB (f2 (bD eqD) (fVar 7) (fCon (.int 1)) δ)) (fA (g1 listD) (aCons (fVar 8) (aNil))) (fLst (aNil)))) (sSeq (sWip [9, 10] (sFor (.cons (.nm 9) (.cons (.nm 10) (.nil))) (fIt (fIte (fun δ => toB (f2 (bD eqD) (fVar 7) (fCon (.int 2)) δ)) (fVar 8) (fLst (aNil)))) (sSeq (sExp (fExt 6 (fLst (aCons (fVar 9) (aCons (fVar 10) (aNil)))))) (sSeq (sPut 4 (f2 subD (f2 mulA (fCon (.int 7)) (fVar 10)) (fCon (.int 6))) (f2 addA (f2 idxD (fRd 4) (f2 subD (f2 mulA (fCon (.int 7)) (fVar 10)) (fCon (.int 6)))) (fCon (.int 1)))) (sNilW [9, 10]))))) (sSeq (sPut 4 (f2 subD (f2 mulA (fCon (.int 7)) (fVar 5)) (fCon (.int 7))) (fVar 7)) (sSeq (sPut 4 (f2 subD (f2 mulA (fCon (.int 7)) (fVar 5)) (fCon (.int 5))) (fA (g1 lenD) (aCons (fRd 6) (aNil)))) (sSeq (sPut 4 (f2 subD (f2 mulA (fCon (.int 7)) (fVar 5)) (fCon (.int 4))) (fA (g1 sumD) (aCons (fRd 6) (aNil)))) (sSeq (sWip [11, 12, 13, 14] (sFor (.cons (.nm 11) (.cons (.nm 12) (.nil))) (fEnum (f2 idxD (fVar 3) (fVar 5))) (sSeq (sPut 4 (f2 addA (f2 subD (f2 mulA (fCon (.int 7)) (fVar 5)) (fCon (.int 3))) (fVar 11)) (fVar 12)) (sSeq (sPut 4 (f2 subD (f2 addA (f2 mulA (fCon (.int 7)) (fVar 0)) (fVar 12)) (fCon (.int 1))) (fCon (.int 1))) (sSeq (sWip [13, 14] (sFor (.cons (.nm 13) (.cons (.nm 14) (.nil))) (fEnum (f3 slcD (fRd 6) (oSome (f2 mulA (fCon (.int 4)) (fVar 11))) (oSome (f2 addA (f2 mulA (fCon (.int 4)) (fVar 11)) (fCon (.int 4)))))) (sSeq (sPut 4 (f2 addA (f2 subD (f2 addA (f2 addA (f2 mulA (fCon (.int 7)) (fVar 0)) (fVar 1)) (f2 mulA (fCon (.int 4)) (fVar 12))) (fCon (.int 4))) (fVar 13)) (fVar 14)) (sNilW [13, 14])))) (sNilW [11, 12, 13, 14])))))) (sNilW [5, 6, 7, 8, 9, 10, 11, 12, 13, 14])))))))))) (sSeq (sRet (fTup (aCons (fVar 0) (aCons (fVar 1) (aCons (fA (g1 tupD) (aCons (fRd 4) (aNil))) (aNil)))))) (sNil)))
def φ__law_laid : List Sl → Option (D × List Sl) := fnF [false, false, false, false] 15 false g__law_laid
theorem ok__law_laid (T : Txt K mg)  {f : Addr} {fd : FuncData} (Fu : Fun K "_law_laid" "_law_laid" s__law_laid f fd) (m : mg "_law_laid" = some (.ref f)) : GK P w K mg base "_law_laid" 1 4 false φ__law_laid := by
  refine ⟨f, fd, ["_law_heads", "_law_blocks", "_law_model_here", "_law_given_here"], fn_ok Fu sc__law_laid rfl (fun cd A out s G E hG hr => ?_), rfl, m, Fu.kp, Fu.binds fun _ _ _ _ _ _ us hl => match us, hl with | [_, _, _, _], _ => rfl⟩
  have S := sc__law_laid; have h1 := hu1 hr; have h65 := hu65 hr; have h66 := hu66 hr; have h67 := hu67 hr
  exact bv_cons (sv_own rfl (tgk 4 S.nd) (nv_op op_rep on_rep (NV.ev (nv_lst (av_cons (ev_int) (av_nil)))) (ev_op op_add4 os_addA (ev_op op_add4 os_addA (ev_op op_mul4 os_mulA (ev_int) (ev_v 0)) (ev_op op_mul4 os_mulA (ev_int) (ev_v 1))) (ev_int)))) (bv_cons (sv_wip rfl (sv_for (passes_of rfl) rfl (iv_seq (ev_v 2)) (gv_name (tgk 5 S.nd)) (by decide) (bv_cons (sv_asg (by decide) (ev_idx h1 (ev_v 2) (ev_v 5)) (gv_t rfl (gvs_cons (gv_name (tgk 7 S.nd)) (gvs_cons (gv_name (tgk 8 S.nd)) (gvs_nil))))) (bv_cons (sv_own rfl (tgk 6 S.nd) (nv_ite (tv_cmp (cd_eq h65).op os_cmp (ev_v 7) (ev_int)) (nv_callT (bnk T.m_list) cr_list cn_list (av_cons (ev_v 8) (av_nil))) (nv_lst (av_nil)))) (bv_cons (sv_wip rfl (sv_for (passes_of rfl) rfl (iv_seq (ev_ite (tv_cmp (cd_eq h65).op os_cmp (ev_v 7) (ev_int)) (ev_v 8) (NV.ev (nv_lst (av_nil))))) (gv_t rfl (gvs_cons (gv_name (tgk 9 S.nd)) (gvs_cons (gv_name (tgk 10 S.nd)) (gvs_nil)))) (by decide) (bv_cons (sv_exp (ev_ext (nmk 6) (NV.ev (nv_lst (av_cons (ev_v 9) (av_cons (ev_v 10) (av_nil))))) ⟨rfl, rfl, rfl, rfl, rfl⟩)) (bv_cons (sv_put h1 (nmk 4) (ev_op op_sub os_sub (ev_op op_mul4 os_mulA (ev_int) (ev_v 10)) (ev_int)) (ev_op op_add4 os_addA (ev_idx h1 (ev_rd 4) (ev_op op_sub os_sub (ev_op op_mul4 os_mulA (ev_int) (ev_v 10)) (ev_int))) (ev_int)) ⟨rfl, rfl, rfl, fun _ => rfl⟩) (bv_nilw rfl))))) (bv_cons (sv_put h1 (nmk 4) (ev_op op_sub os_sub (ev_op op_mul4 os_mulA (ev_int) (ev_v 5)) (ev_int)) (ev_v 7) ⟨rfl, rfl, rfl, fun _ => rfl⟩) (bv_cons (sv_put h1 (nmk 4) (ev_op op_sub os_sub (ev_op op_mul4 os_mulA (ev_int) (ev_v 5)) (ev_int)) (ev_callB (bnk T.m_len) cr_len cs_len (av_cons (ev_rd 6) (av_nil))) ⟨rfl, rfl, rfl, fun _ => rfl⟩) (bv_cons (sv_put h1 (nmk 4) (ev_op op_sub os_sub (ev_op op_mul4 os_mulA (ev_int) (ev_v 5)) (ev_int)) (ev_callB (bnk T.m_sum) (cr_sumL rfl) cs_sum (av_cons (ev_rd 6) (av_nil))) ⟨rfl, rfl, rfl, fun _ => rfl⟩) (bv_cons (sv_wip rfl (sv_for (passes_of rfl) rfl (iv_enum rfl T.m_enumerate (ev_idx h1 (ev_v 3) (ev_v 5))) (gv_t rfl (gvs_cons (gv_name (tgk 11 S.nd)) (gvs_cons (gv_name (tgk 12 S.nd)) (gvs_nil)))) (by decide) (bv_cons (sv_put h1 (nmk 4) (ev_op op_add4 os_addA (ev_op op_sub os_sub (ev_op op_mul4 os_mulA (ev_int) (ev_v 5)) (ev_int)) (ev_v 11)) (ev_v 12) ⟨rfl, rfl, rfl, fun _ => rfl⟩) (bv_cons (sv_put h1 (nmk 4) (ev_op op_sub os_sub (ev_op op_add4 os_addA (ev_op op_mul4 os_mulA (ev_int) (ev_v 0)) (ev_v 12)) (ev_int)) (ev_int) ⟨rfl, rfl, rfl, fun _ => rfl⟩) (bv_cons (sv_wip rfl (sv_for (passes_of rfl) rfl (iv_enum rfl T.m_enumerate (ev_slice (ev_rd 6) (ov_some (ev_op op_mul4 os_mulA (ev_int) (ev_v 11))) (ov_some (ev_op op_add4 os_addA (ev_op op_mul4 os_mulA (ev_int) (ev_v 11)) (ev_int))))) (gv_t rfl (gvs_cons (gv_name (tgk 13 S.nd)) (gvs_cons (gv_name (tgk 14 S.nd)) (gvs_nil)))) (by decide) (bv_cons (sv_put h1 (nmk 4) (ev_op op_add4 os_addA (ev_op op_sub os_sub (ev_op op_add4 os_addA (ev_op op_add4 os_addA (ev_op op_mul4 os_mulA (ev_int) (ev_v 0)) (ev_v 1)) (ev_op op_mul4 os_mulA (ev_int) (ev_v 12))) (ev_int)) (ev_v 13)) (ev_v 14) ⟨rfl, rfl, rfl, fun _ => rfl⟩) (bv_nilw rfl)))) (bv_nilw rfl)))))) (bv_nilw rfl)))))))))) (bv_cons (sv_ret (ev_tup (av_cons (ev_v 0) (av_cons (ev_v 1) (av_cons (ev_callT (bnk T.m_tuple) cr_tuple cs_tuple (av_cons (ev_rd 4) (av_nil))) (av_nil)))))) (bv_nil)))
/-! _law_right -/
abbrev s__law_right : Stmt := top 39
theorem sc__law_right : FnScope ["_law_store", "_law_model_here", "_law_head", "_law_kind", "_law_rows"] ["_law_store", "_law_model_here", "_law_head"] (defScope s__law_right) := ⟨rfl, rfl, rfl, by decide +kernel, rfl, by decide +kernel, by decide +kernel⟩
def g__law_right : List Sl → Option Out := sSeq (sAsg (.cons (.nm 3) (.cons (.nm 4) (.nil))) (f2 idxD (fVar 1) (fVar 2))) (sSeq (sIf (fun δ => toB (f2 (bD eqD) (fVar 3) (fCon (.int 2)) δ)) (sSeq (sRet (f2 (bD eqD) (fA (g1 reprD) (aCons (callF [] true φ_names_in (kCons (fVar 0) (kCons (fVar 2) (kNil)))) (aNil))) (fA (g1 reprD) (aCons (fA (g1 tupD) (aCons (fVar 4) (aNil))) (aNil))))) (sNil)) (sNil)) (sSeq (sRet (f2 (bD eqD) (fA (g1 reprD) (aCons (callF [] true φ_worths_in (kCons (fVar 0) (kCons (fVar 2) (kNil)))) (aNil))) (fA (g1 reprD) (aCons (fA (g1 tupD) (aCons (fVar 4) (aNil))) (aNil))))) (sNil)))
def φ__law_right : List Sl → Option (D × List Sl) := fnF [false, false, false] 5 false g__law_right
theorem ok__law_right (T : Txt K mg) (k_names_in : GK P w K mg base "names_in" 11 2 false φ_names_in) (k_worths_in : GK P w K mg base "worths_in" 10 2 false φ_worths_in) {f : Addr} {fd : FuncData} (Fu : Fun K "_law_right" "_law_right" s__law_right f fd) (m : mg "_law_right" = some (.ref f)) : GK P w K mg base "_law_right" 12 3 false φ__law_right := by
  refine ⟨f, fd, ["_law_store", "_law_model_here", "_law_head"], fn_ok Fu sc__law_right rfl (fun cd A out s G E hG hr => ?_), rfl, m, Fu.kp, Fu.binds fun _ _ _ _ _ _ us hl => match us, hl with | [_, _, _], _ => rfl⟩
  have S := sc__law_right; have h1 := hu1 hr; have h65 := hu65 hr; have h66 := hu66 hr; have h67 := hu67 hr
  exact bv_cons (sv_asg (by decide) (ev_idx h1 (ev_v 1) (ev_v 2)) (gv_t rfl (gvs_cons (gv_name (tgk 3 S.nd)) (gvs_cons (gv_name (tgk 4 S.nd)) (gvs_nil))))) (bv_cons (sv_if (tv_cmp (cd_eq h65).op os_cmp (ev_v 3) (ev_int)) (bv_cons (sv_ret (ev_cmp (cd_eq h65).op os_cmp (ev_callB (bnk T.m_repr) (cr_repr hG h66) cs_repr (av_cons (ev_fn (k_names_in.kn hr hG) (kn_cons (ev_v 0) (kn_cons (ev_v 2) (kn_nil)))) (av_nil))) (ev_callB (bnk T.m_repr) (cr_repr hG h66) cs_repr (av_cons (ev_callT (bnk T.m_tuple) cr_tuple cs_tuple (av_cons (ev_v 4) (av_nil))) (av_nil))))) (bv_nil)) (bv_nil)) (bv_cons (sv_ret (ev_cmp (cd_eq h65).op os_cmp (ev_callB (bnk T.m_repr) (cr_repr hG h66) cs_repr (av_cons (ev_fn (k_worths_in.kn hr hG) (kn_cons (ev_v 0) (kn_cons (ev_v 2) (kn_nil)))) (av_nil))) (ev_callB (bnk T.m_repr) (cr_repr hG h66) cs_repr (av_cons (ev_callT (bnk T.m_tuple) cr_tuple cs_tuple (av_cons (ev_v 4) (av_nil))) (av_nil))))) (bv_nil)))
/-! law -/
abbrev s_law : Stmt := top 40
theorem sc_law : FnScope ["_law_script", "_law_deck_here", "_law_some", "_law_turn", "_law_model_here", "_law_store", "_law_heads", "_law_blocks", "_law_head"] ["_law_script"] (defScope s_law) := ⟨rfl, rfl, rfl, by decide +kernel, rfl, by decide +kernel, by decide +kernel⟩
def g_law : List Sl → Option Out := sSeq (sDeck 1 0) (sSeq (sSet 2 (fLst (aNil))) (sSeq (sWip [3, 4, 5, 6, 7] (sFor (.nm 3) (fRng (aCons (fCon (.int 2)) (aNil))) (sSeq (sAsg (.cons (.nm 6) (.cons (.nm 7) (.nil))) (callF [] true φ__law_shape (kIo 1 (kNil)))) (sSeq (sSet 4 (callF [] true φ__law_model (kIo 1 (kCons (fVar 6) (kCons (fVar 7) (kNil)))))) (sSeq (sSet 5 (callF [] true φ__law_laid (kCons (fVar 6) (kCons (fVar 7) (kCons (fVar 4) (kCons (callF [] true φ__law_given (kIo 1 (kCons (fVar 4) (kCons (fVar 7) (kNil))))) (kNil))))))) (sSeq (sSet 2 (f2 addA (fVar 2) (fLc (.nm 8) [8] (fIt (fA (g1 sortKD) (aCons (fVar 4) (aNil)))) (cYes) (fTup (aCons (fVar 5) (aCons (fVar 4) (aCons (fVar 8) (aNil)))))))) (sNilW [3, 4, 5, 6, 7]))))))) (sSeq (sWip [4, 5, 8] (sFor (.cons (.nm 5) (.cons (.nm 4) (.cons (.nm 8) (.nil)))) (fIt (f2 addA (fVar 2) (f1 revL (fVar 2)))) (sSeq (sIf (gNot (fun δ => toB (callF [] true φ__law_right (kCons (fVar 5) (kCons (fVar 4) (kCons (fVar 8) (kNil)))) δ))) (sSeq (sRet (fCon (.bool false))) (sNil)) (sNil)) (sNilW [4, 5, 8])))) (sSeq (sRet (fCon (.bool true))) (sNil)))))
def φ_law : List Sl → Option (D × List Sl) := fnF [false] 9 false g_law
theorem fn_law (T : Txt K mg) (k__law_deck : GKD P w K mg base "_law_deck" 1) (k__law_given : GK P w K mg base "_law_given" 2 3 true φ__law_given) (k__law_laid : GK P w K mg base "_law_laid" 1 4 false φ__law_laid) (k__law_model : GK P w K mg base "_law_model" 4 3 true φ__law_model) (k__law_right : GK P w K mg base "_law_right" 12 3 false φ__law_right) (k__law_shape : GK P w K mg base "_law_shape" 2 1 false φ__law_shape) {f : Addr} {fd : FuncData} (Fu : Fun K "law" "law" s_law f fd) : FnG P w K mg base CX0 13 f fd ["_law_script"] (spF K 1 false φ_law) := by
  refine fn_ok Fu sc_law rfl fun cd A out s G E hG hr => ?_
  have S := sc_law; have h1 := hu1 hr; have h65 := hu65 hr; have h66 := hu66 hr; have h67 := hu67 hr
  exact bv_cons (sv_deck rfl (tgk 1 S.nd) (nmk 0) (k__law_deck.kn hr hG)) (bv_cons (sv_set rfl (tgk 2 S.nd) (NV.ev (nv_lst (av_nil)))) (bv_cons (sv_wip rfl (sv_for (passes_of rfl) rfl (iv_range1 rfl T.m_range (av_cons (ev_int) (av_nil)) rfl (al_cons (al_nil))) (gv_name (tgk 3 S.nd)) (by decide) (bv_cons (sv_asg (by decide) (ev_fn (k__law_shape.kn hr hG) (kn_io (nmk 1) (kn_nil))) (gv_t rfl (gvs_cons (gv_name (tgk 6 S.nd)) (gvs_cons (gv_name (tgk 7 S.nd)) (gvs_nil))))) (bv_cons (sv_set rfl (tgk 4 S.nd) (NV.ev (nv_fn (k__law_model.kn hr hG) (kn_io (nmk 1) (kn_cons (ev_v 6) (kn_cons (ev_v 7) (kn_nil))))))) (bv_cons (sv_set rfl (tgk 5 S.nd) (ev_fn (k__law_laid.kn hr hG) (kn_cons (ev_v 6) (kn_cons (ev_v 7) (kn_cons (ev_v 4) (kn_cons (NV.ev (nv_fn (k__law_given.kn hr hG) (kn_io (nmk 1) (kn_cons (ev_v 4) (kn_cons (ev_v 7) (kn_nil)))))) (kn_nil))))))) (bv_cons (sv_set rfl (tgk 2 S.nd) (ev_op op_add4 os_addA (ev_v 2) (NV.ev (nv_lc (own := [("_law_head", 8)]) rfl S.nd (iv_seq (NV.ev (nv_callB (bnk T.m_sorted) (cr_sortKD rfl) cn_sortK (av_cons (ev_v 4) (av_nil))))) (blk_of (N := ["_law_script", "_law_deck_here", "_law_some", "_law_turn", "_law_model_here", "_law_store", "_law_heads", "_law_blocks", "_law_head"]) (sc := defScope s_law) (by decide +kernel)) (fun _ _ _ _ _ => gv_name (tgk 8 S.nd)) (fun _ _ _ _ _ => tsv_nil) (fun _ _ _ _ _ => ev_tup (av_cons (ev_v 5) (av_cons (ev_v 4) (av_cons (ev_v 8) (av_nil))))))))) (bv_nilw rfl))))))) (bv_cons (sv_wip rfl (sv_for (passes_of rfl) rfl (iv_seq (ev_op op_add4 os_addA (ev_v 2) (NV.ev (nv_revL (ev_v 2))))) (gv_t rfl (gvs_cons (gv_name (tgk 5 S.nd)) (gvs_cons (gv_name (tgk 4 S.nd)) (gvs_cons (gv_name (tgk 8 S.nd)) (gvs_nil))))) (by decide) (bv_cons (sv_if (tv_not (tv_val (ev_fn (k__law_right.kn hr hG) (kn_cons (ev_v 5) (kn_cons (ev_v 4) (kn_cons (ev_v 8) (kn_nil))))))) (bv_cons (sv_ret (ev_bl)) (bv_nil)) (bv_nil)) (bv_nilw rfl)))) (bv_cons (sv_ret (ev_bl)) (bv_nil)))))
end
end K28

namespace K28
open PySem PySem.Spec PyProof.Rows L2 Z
/-! map_first -/
def N_map_first (heads : Int) : Option Int := (some (7 * heads))
theorem n_map_first (heads : Int) : ∀ v, N_map_first heads = some v → φ_map_first [.fz (PyData.int heads)] = some ((PyData.int v), [.fz (PyData.int heads)]) := by
  exact fn_n (sb_ret (vp_2 (vp_con : VP _ _ (.int 7)) (vp_var 0 rfl) (mulA_l _ _ rfl)) rfl)
/-! block_first -/
def N_block_first (heads : Int) (blocks : Int) : Option Int := ((N_map_first heads)).bind fun r1 => (some (r1 + blocks))
theorem n_block_first (heads : Int) (blocks : Int) : ∀ v, N_block_first heads blocks = some v → φ_block_first [.fz (PyData.int heads), .fz (PyData.int blocks)] = some ((PyData.int v), [.fz (PyData.int heads), .fz (PyData.int blocks)]) := by
  exact fn_n (sb_retN (vn_2 (an_np (vn_call (kp_cons (vp_var 0 rfl) kp_nil) (n_map_first _ )) (fun r1 => (ap_cons (vp_var 1 rfl) ap_nil))) (fun r1 => g2x (addA_int _ _))) (fun _ => rfl))
/-! log_first -/
def N_log_first (heads : Int) (blocks : Int) : Option Int := ((N_block_first heads blocks)).bind fun r1 => (some (r1 + (4 * blocks)))
theorem n_log_first (heads : Int) (blocks : Int) : ∀ v, N_log_first heads blocks = some v → φ_log_first [.fz (PyData.int heads), .fz (PyData.int blocks)] = some ((PyData.int v), [.fz (PyData.int heads), .fz (PyData.int blocks)]) := by
  exact fn_n (sb_retN (vn_2 (an_np (vn_call (kp_cons (vp_var 0 rfl) (kp_cons (vp_var 1 rfl) kp_nil)) (n_block_first _ _ )) (fun r1 => (ap_cons (vp_2 (vp_con : VP _ _ (.int 4)) (vp_var 1 rfl) (mulA_l _ _ rfl)) ap_nil))) (fun r1 => g2x (addA_int _ _))) (fun _ => rfl))
/-! place_of -/
def N_place_of (heads : Int) (blocks : Int) (what : D) : Option Int := ((idxD what (PyData.int 0))).bind fun v1 => ((inD v1 ((eTu PyData.str) ([("kind" : Str), ("count" : Str), ("length" : Str), ("sum" : Str)])))).bind fun v3 => if v3 then ((((((idxD what (PyData.int 1))).bind fun v4 => (asI v4).map fun c6 => (v4, c6))).bind fun c5 => (((tixD (.tuple [(.str "kind"), (.str "count"), (.str "length"), (.str "sum")]) v1).bind asI)).map fun v7 => (c5, v7))).bind fun b8 => (some ((7 * (b8.1.2 - 1)) + b8.2)) else ((eqD v1 (PyData.str ("slot" : Str)))).bind fun v9 => if v9 then ((((((idxD what (PyData.int 1))).bind fun v10 => (asI v10).map fun c12 => (v10, c12))).bind fun c11 => ((((idxD what (PyData.int 2))).bind fun v13 => (asI v13).map fun c15 => (v13, c15))).map fun c14 => (c11, c14))).bind fun b16 => (some (((7 * (b16.1.2 - 1)) + (lenN ([("kind" : Str), ("count" : Str), ("length" : Str), ("sum" : Str)]))) + b16.2.2)) else ((eqD v1 (PyData.str ("map" : Str)))).bind fun v17 => if v17 then ((((N_map_first heads)).bind fun r18 => ((((idxD what (PyData.int 1))).bind fun v19 => (asI v19).map fun c21 => (v19, c21))).map fun c20 => (r18, c20))).bind fun b22 => (some ((b22.1 + b22.2.2) - 1)) else ((eqD v1 (PyData.str ("cell" : Str)))).bind fun v23 => if v23 then ((((((N_block_first heads blocks)).bind fun r24 => ((((idxD what (PyData.int 1))).bind fun v25 => (asI v25).map fun c27 => (v25, c27))).map fun c26 => (r24, c26))).bind fun b28 => ((((idxD what (PyData.int 2))).bind fun v29 => (asI v29).map fun c31 => (v29, c31))).map fun c30 => (b28, c30))).bind fun b32 => (some ((b32.1.1 + (4 * (b32.1.2.2 - 1))) + b32.2.2)) else ((inD v1 ((eTu PyData.str) ([("mark" : Str), ("seal" : Str)])))).bind fun v33 => if v33 then ((((N_log_first heads blocks)).bind fun r34 => (((tixD (.tuple [(.str "mark"), (.str "seal")]) v1).bind asI)).map fun v35 => (r34, v35))).bind fun b36 => (some (b36.1 + b36.2)) else ((((((N_log_first heads blocks)).bind fun r37 => ((((idxD what (PyData.int 1))).bind fun v38 => (asI v38).map fun c40 => (v38, c40))).map fun c39 => (r37, c39))).bind fun b41 => (((tixD (.tuple [(.str "place"), (.str "worth")]) v1).bind asI)).map fun v42 => (b41, v42))).bind fun b43 => (some (((b43.1.1 + (lenN ([("mark" : Str), ("seal" : Str)]))) + (2 * b43.1.2.2)) + b43.2))
theorem n_place_of (heads : Int) (blocks : Int) (what : D) : ∀ v, N_place_of heads blocks what = some v → φ_place_of [.fz (PyData.int heads), .fz (PyData.int blocks), .fz what] = some ((PyData.int v), [.fz (PyData.int heads), .fz (PyData.int blocks), .fz what]) := by
  exact fn_n (sb_setN (vp_2q (q := (idxD what (PyData.int 0))) (e := eD) (vp_var 2 rfl) (vp_con : VP _ _ (.int 0)) (fun _ h => h)) (fun v1 => (sb_at (δ' := [.fz (PyData.int heads), .fz (PyData.int blocks), .fz what, .fz v1]) (sb_ifN (tn_v (vp_2q (q := (inD v1 ((eTu PyData.str) ([("kind" : Str), ("count" : Str), ("length" : Str), ("sum" : Str)])))) (e := PyData.bool) (vp_var 3 rfl) (vp_con : VP _ _ ((eTu PyData.str) [("kind" : Str), ("count" : Str), ("length" : Str), ("sum" : Str)])) (fun _ h => rawB _ _ h)) (fun _ => rfl)) (fun _ => rfl) (fun v3 => (sb_assoc (sb_retN (vn_2 (an_nn (vn_2 (an_pn (vp_con : VP _ _ (.int 7)) (an_np (vn_2 (an_np (vn_cq (e := PyData.int) (vp_2q (q := (idxD what (PyData.int 1))) (e := eD) (vp_var 2 rfl) (vp_con : VP _ _ (.int 1)) (fun _ h => h)) (fun _ => (asI_d) _)) (fun c5 => (ap_cons (vp_con : VP _ _ (.int 1)) ap_nil))) (fun c5 => g2x (subD_int _ _))) (fun c5 => ap_nil))) (fun c5 => g2x (mulA_l _ _ rfl))) (fun c5 => (an_np (vp_1q (q := ((tixD (.tuple [(.str "kind"), (.str "count"), (.str "length"), (.str "sum")]) v1).bind asI)) (e := PyData.int) (vp_var 3 rfl) (fun _ h => rawI _ _ h)) (fun v7 => ap_nil)))) (fun b8 => g2x (addA_int _ _))) (fun _ => rfl)))) (fun v3 => (sb_nilS (sb_at (δ' := [.fz (PyData.int heads), .fz (PyData.int blocks), .fz what, .fz v1]) (sb_ifN (tn_v (vp_2q (q := (eqD v1 (PyData.str ("slot" : Str)))) (e := PyData.bool) (vp_var 3 rfl) (vp_con : VP _ _ (.str ("slot" : Str))) (fun _ h => rawB _ _ h)) (fun _ => rfl)) (fun _ => rfl) (fun v9 => (sb_assoc (sb_retN (vn_2 (an_nn (vn_2 (an_np (vn_2 (an_pn (vp_con : VP _ _ (.int 7)) (an_np (vn_2 (an_np (vn_cq (e := PyData.int) (vp_2q (q := (idxD what (PyData.int 1))) (e := eD) (vp_var 2 rfl) (vp_con : VP _ _ (.int 1)) (fun _ h => h)) (fun _ => (asI_d) _)) (fun c11 => (ap_cons (vp_con : VP _ _ (.int 1)) ap_nil))) (fun c11 => g2x (subD_int _ _))) (fun c11 => ap_nil))) (fun c11 => g2x (mulA_l _ _ rfl))) (fun c11 => (ap_cons (vp_A (ap_cons (vp_con : VP _ _ ((eTu PyData.str) [("kind" : Str), ("count" : Str), ("length" : Str), ("sum" : Str)])) ap_nil) (lenT_d _)) ap_nil))) (fun c11 => g2x (addA_int _ _))) (fun c11 => (an_np (vn_cq (e := PyData.int) (vp_2q (q := (idxD what (PyData.int 2))) (e := eD) (vp_var 2 rfl) (vp_con : VP _ _ (.int 2)) (fun _ h => h)) (fun _ => (asI_d) _)) (fun c14 => ap_nil)))) (fun b16 => g2x (addA_int _ _))) (fun _ => rfl)))) (fun v9 => (sb_nilS (sb_at (δ' := [.fz (PyData.int heads), .fz (PyData.int blocks), .fz what, .fz v1]) (sb_ifN (tn_v (vp_2q (q := (eqD v1 (PyData.str ("map" : Str)))) (e := PyData.bool) (vp_var 3 rfl) (vp_con : VP _ _ (.str ("map" : Str))) (fun _ h => rawB _ _ h)) (fun _ => rfl)) (fun _ => rfl) (fun v17 => (sb_assoc (sb_retN (vn_2 (an_np (vn_2 (an_nn (vn_call (kp_cons (vp_var 0 rfl) kp_nil) (n_map_first _ )) (fun r18 => (an_np (vn_cq (e := PyData.int) (vp_2q (q := (idxD what (PyData.int 1))) (e := eD) (vp_var 2 rfl) (vp_con : VP _ _ (.int 1)) (fun _ h => h)) (fun _ => (asI_d) _)) (fun c20 => ap_nil)))) (fun b22 => g2x (addA_int _ _))) (fun b22 => (ap_cons (vp_con : VP _ _ (.int 1)) ap_nil))) (fun b22 => g2x (subD_int _ _))) (fun _ => rfl)))) (fun v17 => (sb_nilS (sb_at (δ' := [.fz (PyData.int heads), .fz (PyData.int blocks), .fz what, .fz v1]) (sb_ifN (tn_v (vp_2q (q := (eqD v1 (PyData.str ("cell" : Str)))) (e := PyData.bool) (vp_var 3 rfl) (vp_con : VP _ _ (.str ("cell" : Str))) (fun _ h => rawB _ _ h)) (fun _ => rfl)) (fun _ => rfl) (fun v23 => (sb_assoc (sb_retN (vn_2 (an_nn (vn_2 (an_nn (vn_call (kp_cons (vp_var 0 rfl) (kp_cons (vp_var 1 rfl) kp_nil)) (n_block_first _ _ )) (fun r24 => (an_np (vn_2 (an_pn (vp_con : VP _ _ (.int 4)) (an_np (vn_2 (an_np (vn_cq (e := PyData.int) (vp_2q (q := (idxD what (PyData.int 1))) (e := eD) (vp_var 2 rfl) (vp_con : VP _ _ (.int 1)) (fun _ h => h)) (fun _ => (asI_d) _)) (fun c26 => (ap_cons (vp_con : VP _ _ (.int 1)) ap_nil))) (fun c26 => g2x (subD_int _ _))) (fun c26 => ap_nil))) (fun c26 => g2x (mulA_l _ _ rfl))) (fun c26 => ap_nil)))) (fun b28 => g2x (addA_int _ _))) (fun b28 => (an_np (vn_cq (e := PyData.int) (vp_2q (q := (idxD what (PyData.int 2))) (e := eD) (vp_var 2 rfl) (vp_con : VP _ _ (.int 2)) (fun _ h => h)) (fun _ => (asI_d) _)) (fun c30 => ap_nil)))) (fun b32 => g2x (addA_int _ _))) (fun _ => rfl)))) (fun v23 => (sb_nilS (sb_at (δ' := [.fz (PyData.int heads), .fz (PyData.int blocks), .fz what, .fz v1]) (sb_ifN (tn_v (vp_2q (q := (inD v1 ((eTu PyData.str) ([("mark" : Str), ("seal" : Str)])))) (e := PyData.bool) (vp_var 3 rfl) (vp_con : VP _ _ ((eTu PyData.str) [("mark" : Str), ("seal" : Str)])) (fun _ h => rawB _ _ h)) (fun _ => rfl)) (fun _ => rfl) (fun v33 => (sb_assoc (sb_retN (vn_2 (an_nn (vn_call (kp_cons (vp_var 0 rfl) (kp_cons (vp_var 1 rfl) kp_nil)) (n_log_first _ _ )) (fun r34 => (an_np (vp_1q (q := ((tixD (.tuple [(.str "mark"), (.str "seal")]) v1).bind asI)) (e := PyData.int) (vp_var 3 rfl) (fun _ h => rawI _ _ h)) (fun v35 => ap_nil)))) (fun b36 => g2x (addA_int _ _))) (fun _ => rfl)))) (fun v33 => (sb_nilS (sb_retN (vn_2 (an_nn (vn_2 (an_nn (vn_2 (an_np (vn_call (kp_cons (vp_var 0 rfl) (kp_cons (vp_var 1 rfl) kp_nil)) (n_log_first _ _ )) (fun r37 => (ap_cons (vp_A (ap_cons (vp_con : VP _ _ ((eTu PyData.str) [("mark" : Str), ("seal" : Str)])) ap_nil) (lenT_d _)) ap_nil))) (fun r37 => g2x (addA_int _ _))) (fun r37 => (an_np (vn_2 (an_pn (vp_con : VP _ _ (.int 2)) (an_np (vn_cq (e := PyData.int) (vp_2q (q := (idxD what (PyData.int 1))) (e := eD) (vp_var 2 rfl) (vp_con : VP _ _ (.int 1)) (fun _ h => h)) (fun _ => (asI_d) _)) (fun c39 => ap_nil))) (fun c39 => g2x (mulA_l _ _ rfl))) (fun c39 => ap_nil)))) (fun b41 => g2x (addA_int _ _))) (fun b41 => (an_np (vp_1q (q := ((tixD (.tuple [(.str "place"), (.str "worth")]) v1).bind asI)) (e := PyData.int) (vp_var 3 rfl) (fun _ h => rawI _ _ h)) (fun v42 => ap_nil)))) (fun b43 => g2x (addA_int _ _))) (fun _ => rfl))))))))))))))))))))))))
/-! cell_of -/
def N_cell_of (store : (Int × Int × (List Int))) (what : D) : Option Int := ((((N_place_of store.1 store.2.1 what)).bind fun r1 => ((atI store.2.2 r1)).map fun v3 => (r1, v3))).bind fun b2 => (some b2.2)
theorem n_cell_of (store : (Int × Int × (List Int))) (what : D) : ∀ v, N_cell_of store what = some v → φ_cell_of [.fz ((eP3 PyData.int PyData.int (eTu PyData.int)) store), .fz what] = some ((PyData.int v), [.fz ((eP3 PyData.int PyData.int (eTu PyData.int)) store), .fz what]) := by
  exact fn_n (sb_retN (vn_2q (e := fun _ => PyData.int) (an_pn (vp_2 (vp_var 0 rfl) (vp_con : VP _ _ (.int 2)) (ixp2 _ _ _ _)) (an_np (vn_call (kp_cons (vp_2 (vp_var 0 rfl) (vp_con : VP _ _ (.int 0)) (ixp0 _ _)) (kp_cons (vp_2 (vp_var 0 rfl) (vp_con : VP _ _ (.int 1)) (ixp1 _ _ _)) (kp_cons (vp_var 1 rfl) kp_nil))) (n_place_of _ _ _ )) (fun r1 => ap_nil))) (fun r1 _ h => g2x (ixT_d _ _ _ h))) (fun _ => rfl))
/-! is_length -/
def N_is_length (kind : Int) (length : Int) : Option Bool := (some ((decide (0 ≤ length) && decide (length ≤ 12)) && ((!decide (kind = 2)) || (decide ((length % 2) = 0)))))
theorem n_is_length (kind : Int) (length : Int) : ∀ v, N_is_length kind length = some v → φ_is_length [.fz (PyData.int kind), .fz (PyData.int length)] = some ((PyData.bool v), [.fz (PyData.int kind), .fz (PyData.int length)]) := by
  exact fn_n (sb_ret (vp_and (vp_chain (vp_con : VP _ _ (.int 0)) (vp_var 1 rfl) (vp_con : VP _ _ (.int 12)) (le_i _ _) (le_i _ _)) (vp_or (vp_2 (vp_var 0 rfl) (vp_con : VP _ _ (.int 2)) (ne_g gI _ _)) (vp_2 (vp_2 (vp_var 1 rfl) (vp_con : VP _ _ (.int 2)) (modD_int _ _ (by decide))) (vp_con : VP _ _ (.int 0)) (eq_g gI _ _)))) rfl)
/-! is_measured -/
def N_is_measured (store : (Int × Int × (List Int))) (head : D) : Option Bool := ((N_cell_of store ((eP2 PyData.str eD) (("kind" : Str), head)))).bind fun r1 => ((if (!decide (r1 = 2)) then (if (!decide (r1 = 1)) then some true else (((asI head)).map fun c3 => (decide (c3 ≤ 2)))) else some false)).bind fun b7 => if b7 then (some false) else ((((N_cell_of store ((eP2 PyData.str eD) (("length" : Str), head)))).bind fun r8 => (N_is_length r1 r8).map fun v10 => (r8, v10))).bind fun r9 => (some r9.2)
theorem n_is_measured (store : (Int × Int × (List Int))) (head : D) : ∀ v, N_is_measured store head = some v → φ_is_measured [.fz ((eP3 PyData.int PyData.int (eTu PyData.int)) store), .fz head] = some ((PyData.bool v), [.fz ((eP3 PyData.int PyData.int (eTu PyData.int)) store), .fz head]) := by
  exact fn_n (sb_setN (vn_call (kp_cons (vp_var 0 rfl) (kp_cons ((vp_tup (ap_cons (vp_con : VP _ _ (.str ("kind" : Str))) (ap_cons (vp_var 1 rfl) ap_nil))) : VP _ _ ((eP2 PyData.str eD) (("kind" : Str), head))) kp_nil)) (n_cell_of _ _ )) (fun r1 => (sb_at (δ' := [.fz ((eP3 PyData.int PyData.int (eTu PyData.int)) store), .fz head, .fz (PyData.int r1)]) (sb_ifN (tn_andP (v := false) (tp_v (vp_2 (vp_var 2 rfl) (vp_con : VP _ _ (.int 2)) (ne_g gI _ _))) (tn_co (r' := fun c6 => (c6, [.fz ((eP3 PyData.int PyData.int (eTu PyData.int)) store), .fz head, .fz (PyData.int r1)])) (tn_orP (v := true) (tp_v (vp_2 (vp_var 2 rfl) (vp_con : VP _ _ (.int 1)) (ne_g gI _ _))) (tn_map (r' := fun c4 => (c4, [.fz ((eP3 PyData.int PyData.int (eTu PyData.int)) store), .fz head, .fz (PyData.int r1)])) (tn_v (vn_2 (an_np (vp_coq (q := asI head) (e := PyData.int) (vp_var 1 rfl) ((asI_d) _)) (fun c3 => (ap_cons (vp_con : VP _ _ (.int 2)) ap_nil))) (fun c3 => g2x (le_i _ _))) (fun _ => rfl)) (fun _ => rfl)) rfl) (fun _ => rfl)) rfl) (fun _ => rfl) (fun b7 => (sb_assoc (sb_ret (vp_con : VP _ _ (.bool false)) rfl))) (fun b7 => (sb_nilS (sb_retN (vn_callN (kn_pn (vp_var 2 rfl) (kn_np (vn_call (kp_cons (vp_var 0 rfl) (kp_cons ((vp_tup (ap_cons (vp_con : VP _ _ (.str ("length" : Str))) (ap_cons (vp_var 1 rfl) ap_nil))) : VP _ _ ((eP2 PyData.str eD) (("length" : Str), head))) kp_nil)) (n_cell_of _ _ )) (fun r8 => kp_nil))) (fun _ => n_is_length _ _ )) (fun _ => rfl))))))))
/-! is_needed -/
def N_is_needed (store : (Int × Int × (List Int))) (head : Int) (j : Int) : Option Bool := ((if (decide (head = 2)) then some true else (((N_cell_of store ((eP2 PyData.str PyData.int) (("length" : Str), head)))).map fun r1 => (decide ((4 * j) < r1))))).bind fun b3 => (some b3)
theorem n_is_needed (store : (Int × Int × (List Int))) (head : Int) (j : Int) : ∀ v, N_is_needed store head j = some v → φ_is_needed [.fz ((eP3 PyData.int PyData.int (eTu PyData.int)) store), .fz (PyData.int head), .fz (PyData.int j)] = some ((PyData.bool v), [.fz ((eP3 PyData.int PyData.int (eTu PyData.int)) store), .fz (PyData.int head), .fz (PyData.int j)]) := by
  exact fn_n (sb_retN (vn_orP (v := true) (vp_2 (vp_var 1 rfl) (vp_con : VP _ _ (.int 2)) (eq_g gI _ _)) (vn_map (r' := fun c2 => ((PyData.bool c2), [.fz ((eP3 PyData.int PyData.int (eTu PyData.int)) store), .fz (PyData.int head), .fz (PyData.int j)])) (vn_2 (an_np (vn_call (kp_cons (vp_var 0 rfl) (kp_cons ((vp_tup (ap_cons (vp_con : VP _ _ (.str ("length" : Str))) (ap_cons (vp_var 1 rfl) ap_nil))) : VP _ _ ((eP2 PyData.str PyData.int) (("length" : Str), head))) kp_nil)) (n_cell_of _ _ )) (fun r1 => (ap_cons (vp_2 (vp_con : VP _ _ (.int 4)) (vp_var 2 rfl) (mulA_l _ _ rfl)) ap_nil))) (fun r1 => g2x (gt_i _ _))) (fun _ => rfl)) rfl) (fun _ => rfl))
/-! may_hold -/
def N_may_hold (store : (Int × Int × (List Int))) (head : Int) (j : Int) (block : Int) : Option Bool := if (decide (head = 2)) then (some (decide (block = (j + 1)))) else (some (decide (4 ≤ block) && decide (block ≤ store.2.1)))
theorem n_may_hold (store : (Int × Int × (List Int))) (head : Int) (j : Int) (block : Int) : ∀ v, N_may_hold store head j block = some v → φ_may_hold [.fz ((eP3 PyData.int PyData.int (eTu PyData.int)) store), .fz (PyData.int head), .fz (PyData.int j), .fz (PyData.int block)] = some ((PyData.bool v), [.fz ((eP3 PyData.int PyData.int (eTu PyData.int)) store), .fz (PyData.int head), .fz (PyData.int j), .fz (PyData.int block)]) := by
  exact fn_n (sb_at (δ' := [.fz ((eP3 PyData.int PyData.int (eTu PyData.int)) store), .fz (PyData.int head), .fz (PyData.int j), .fz (PyData.int block)]) (sb_if (tp_v (vp_2 (vp_var 1 rfl) (vp_con : VP _ _ (.int 2)) (eq_g gI _ _))) (sb_assoc (sb_ret (vp_2 (vp_var 3 rfl) (vp_2 (vp_var 2 rfl) (vp_con : VP _ _ (.int 1)) (addA_int _ _)) (eq_g gI _ _)) rfl)) (sb_nilS (sb_ret (vp_chain (vp_con : VP _ _ (.int 4)) (vp_var 3 rfl) (vp_2 (vp_var 0 rfl) (vp_con : VP _ _ (.int 1)) (ixp1 _ _ _)) (le_i _ _) (le_i _ _)) rfl))))
/-! in_use -/
def N_in_use (store : (Int × Int × (List Int))) (head : Int) (j : Int) : Option Int := ((N_cell_of store ((eP2 PyData.str PyData.int) (("length" : Str), head)))).bind fun r1 => (some (max 0 (min 4 (r1 - (4 * j)))))
theorem n_in_use (store : (Int × Int × (List Int))) (head : Int) (j : Int) : ∀ v, N_in_use store head j = some v → φ_in_use [.fz ((eP3 PyData.int PyData.int (eTu PyData.int)) store), .fz (PyData.int head), .fz (PyData.int j)] = some ((PyData.int v), [.fz ((eP3 PyData.int PyData.int (eTu PyData.int)) store), .fz (PyData.int head), .fz (PyData.int j)]) := by
  exact fn_n (sb_retN (vn_A (an_pn (vp_con : VP _ _ (.int 0)) (an_np (vn_A (an_pn (vp_con : VP _ _ (.int 4)) (an_np (vn_2 (an_np (vn_call (kp_cons (vp_var 0 rfl) (kp_cons ((vp_tup (ap_cons (vp_con : VP _ _ (.str ("length" : Str))) (ap_cons (vp_var 1 rfl) ap_nil))) : VP _ _ ((eP2 PyData.str PyData.int) (("length" : Str), head))) kp_nil)) (n_cell_of _ _ )) (fun r1 => (ap_cons (vp_2 (vp_con : VP _ _ (.int 4)) (vp_var 2 rfl) (mulA_l _ _ rfl)) ap_nil))) (fun r1 => g2x (subD_int _ _))) (fun r1 => ap_nil))) (fun r1 => min_i _ _)) (fun r1 => ap_nil))) (fun r1 => max_i _ _)) (fun _ => rfl))
/-! held_by -/
def N_held_by (store : (Int × Int × (List Int))) (head : Int) : Option (List (Int × Int)) := (((N_is_measured store (PyData.int head))).bind fun r2 => if r2 then (forN (fun x5 s4 => ((N_cell_of store ((eP3 PyData.str PyData.int PyData.int) (("slot" : Str), head, x5)))).bind fun r6 => (((((N_is_needed store head x5)).bind fun r8 => if r8 then (N_may_hold store head x5 r6) else some false)).bind fun b11 => if b11 then ((appQ s4 (x5, r6))).bind fun p13 => (some p13) else (some s4)).bind fun s12 => (some s12)) (rngN 0 (3 : Int).toNat) []).bind fun s4 => (some s4) else (some [])).bind fun s3 => (some s3)
theorem n_held_by (store : (Int × Int × (List Int))) (head : Int) : ∀ v, N_held_by store head = some v → φ_held_by [.fz ((eP3 PyData.int PyData.int (eTu PyData.int)) store), .fz (PyData.int head)] = some (((eLi (eP2 PyData.int PyData.int)) v), [.fz ((eP3 PyData.int PyData.int (eTu PyData.int)) store), .fz (PyData.int head)]) := by
  exact fn_n (sb_at (δ' := [.fz ((eP3 PyData.int PyData.int (eTu PyData.int)) store), .fz (PyData.int head), .no, .no, .no]) (sb_own ((vp_lst ap_nil) : VP _ _ ((eLi (eP2 PyData.int PyData.int)) ([]))) (sb_at (δ' := [.fz ((eP3 PyData.int PyData.int (eTu PyData.int)) store), .fz (PyData.int head), .ow ((eLi (eP2 PyData.int PyData.int)) ([])), .no, .no]) (sb_join (st := fun s3 => [.fz ((eP3 PyData.int PyData.int (eTu PyData.int)) store), .fz (PyData.int head), .ow ((eLi (eP2 PyData.int PyData.int)) s3), .no, .no]) (sb_if1N (tn_v (vn_call (kp_cons (vp_var 0 rfl) (kp_cons (vp_var 1 rfl) kp_nil)) (n_is_measured _ _ )) (fun _ => rfl)) (fun _ => rfl) (fun r2 => (sb_wip (sb_at (δ' := [.fz ((eP3 PyData.int PyData.int (eTu PyData.int)) store), .fz (PyData.int head), .ow ((eLi (eP2 PyData.int PyData.int)) ([])), .no, .no]) (sb_for (e := PyData.int) (st := fun s4 => [.fz ((eP3 PyData.int PyData.int (eTu PyData.int)) store), .fz (PyData.int head), .ow ((eLi (eP2 PyData.int PyData.int)) s4), .no, .no]) (s0 := []) (ip_rngP (ap_cons (vp_con : VP _ _ (.int 3)) ap_nil)) (fun x5 s4 => (bt_nm 3)) (fun x5 s4 => (sb_at (δ' := [.fz ((eP3 PyData.int PyData.int (eTu PyData.int)) store), .fz (PyData.int head), .ow ((eLi (eP2 PyData.int PyData.int)) s4), .fz (PyData.int x5), .no]) (sb_setN (vn_call (kp_cons (vp_var 0 rfl) (kp_cons ((vp_tup (ap_cons (vp_con : VP _ _ (.str ("slot" : Str))) (ap_cons (vp_var 1 rfl) (ap_cons (vp_var 3 rfl) ap_nil)))) : VP _ _ ((eP3 PyData.str PyData.int PyData.int) (("slot" : Str), head, x5))) kp_nil)) (n_cell_of _ _ )) (fun r6 => (sb_at (δ' := [.fz ((eP3 PyData.int PyData.int (eTu PyData.int)) store), .fz (PyData.int head), .ow ((eLi (eP2 PyData.int PyData.int)) s4), .fz (PyData.int x5), .fz (PyData.int r6)]) (sb_join (st := fun s12 => [.fz ((eP3 PyData.int PyData.int (eTu PyData.int)) store), .fz (PyData.int head), .ow ((eLi (eP2 PyData.int PyData.int)) s12), .fz (PyData.int x5), .fz (PyData.int r6)]) (sb_if1N (tn_andN (tn_v (vn_call (kp_cons (vp_var 0 rfl) (kp_cons (vp_var 1 rfl) (kp_cons (vp_var 3 rfl) kp_nil))) (n_is_needed _ _ _ )) (fun _ => rfl)) (fun _ => rfl) (fun r8 => (tn_co (r' := fun c10 => (c10, [.fz ((eP3 PyData.int PyData.int (eTu PyData.int)) store), .fz (PyData.int head), .ow ((eLi (eP2 PyData.int PyData.int)) s4), .fz (PyData.int x5), .fz (PyData.int r6)])) (tn_v (vn_call (kp_cons (vp_var 0 rfl) (kp_cons (vp_var 1 rfl) (kp_cons (vp_var 3 rfl) (kp_cons (vp_var 4 rfl) kp_nil)))) (n_may_hold _ _ _ _ )) (fun _ => rfl)) (fun _ => rfl))) (fun _ => rfl)) (fun _ => rfl) (fun b11 => (sb_at (δ' := [.fz ((eP3 PyData.int PyData.int (eTu PyData.int)) store), .fz (PyData.int head), .ow ((eLi (eP2 PyData.int PyData.int)) s4), .fz (PyData.int x5), .fz (PyData.int r6)]) (sb_exp (vp_app 2 (e := (eP2 PyData.int PyData.int)) ((vp_tup (ap_cons (vp_var 3 rfl) (ap_cons (vp_var 4 rfl) ap_nil))) : VP _ _ ((eP2 PyData.int PyData.int) (x5, r6)))) (fun p13 => (sb_nil (v := p13) rfl))))) (fun b11 => (sb_nil (v := s4) rfl))) (fun s12 => (sb_nilWL (v := s12) rfl))))))))  (fun s4 => (sb_nilW (v := s4) rfl)))))) (fun r2 => (sb_nilW (v := []) rfl))) (fun s3 => (sb_at (δ' := [.fz ((eP3 PyData.int PyData.int (eTu PyData.int)) store), .fz (PyData.int head), .ow ((eLi (eP2 PyData.int PyData.int)) s3), .no, .no]) (sb_retV rfl rfl)))))))
/-! content_places -/
def N_content_places (store : (Int × Int × (List Int))) (head : Int) : Option (List Int) := ((N_held_by store head)).bind fun r2 => (forN (fun x4 s3 => ((((N_in_use store head x4.1)).bind fun r5 => (rng1 r5).map fun v7 => (r5, v7))).bind fun b6 => (forN (fun x9 s8 => ((((N_place_of store.1 store.2.1 ((eP3 PyData.str PyData.int PyData.int) (("cell" : Str), x4.2, x9)))).bind fun r10 => (appQ s8 r10).map fun v12 => (r10, v12))).bind fun p11 => (some p11.2)) b6.2 s3).bind fun s8 => (some s8)) r2 []).bind fun s3 => (some s3)
theorem n_content_places (store : (Int × Int × (List Int))) (head : Int) : ∀ v, N_content_places store head = some v → φ_content_places [.fz ((eP3 PyData.int PyData.int (eTu PyData.int)) store), .fz (PyData.int head)] = some (((eLi PyData.int) v), [.fz ((eP3 PyData.int PyData.int (eTu PyData.int)) store), .fz (PyData.int head)]) := by
  exact fn_n (sb_at (δ' := [.fz ((eP3 PyData.int PyData.int (eTu PyData.int)) store), .fz (PyData.int head), .no, .no, .no, .no]) (sb_own ((vp_lst ap_nil) : VP _ _ ((eLi PyData.int) ([]))) (sb_wip (sb_at (δ' := [.fz ((eP3 PyData.int PyData.int (eTu PyData.int)) store), .fz (PyData.int head), .ow ((eLi PyData.int) ([])), .no, .no, .no]) (sb_forI (in_it (vn_call (kp_cons (vp_var 0 rfl) (kp_cons (vp_var 1 rfl) kp_nil)) (n_held_by _ _ )) (fun _ => itL_d _)) (fun r2 => (sb_for (e := (eP2 PyData.int PyData.int)) (st := fun s3 => [.fz ((eP3 PyData.int PyData.int (eTu PyData.int)) store), .fz (PyData.int head), .ow ((eLi PyData.int) s3), .no, .no, .no]) (s0 := []) ip_at (fun x4 s3 => (bt_tup (bts_cons (bt_nm 3) (bts_cons (bt_nm 4) bts_nil)))) (fun x4 s3 => (sb_wip (sb_at (δ' := [.fz ((eP3 PyData.int PyData.int (eTu PyData.int)) store), .fz (PyData.int head), .ow ((eLi PyData.int) s3), .fz (PyData.int x4.1), .fz (PyData.int x4.2), .no]) (sb_forI (in_rng1N  (an_np (vn_call (kp_cons (vp_var 0 rfl) (kp_cons (vp_var 1 rfl) (kp_cons (vp_var 3 rfl) kp_nil))) (n_in_use _ _ _ )) (fun r5 => ap_nil)) (fun _ => rfl)) (fun b6 => (sb_for (e := PyData.int) (st := fun s8 => [.fz ((eP3 PyData.int PyData.int (eTu PyData.int)) store), .fz (PyData.int head), .ow ((eLi PyData.int) s8), .fz (PyData.int x4.1), .fz (PyData.int x4.2), .no]) (s0 := s3) ip_at (fun x9 s8 => (bt_nm 5)) (fun x9 s8 => (sb_at (δ' := [.fz ((eP3 PyData.int PyData.int (eTu PyData.int)) store), .fz (PyData.int head), .ow ((eLi PyData.int) s8), .fz (PyData.int x4.1), .fz (PyData.int x4.2), .fz (PyData.int x9)]) (sb_exp (vn_app 2 (e := PyData.int) (vn_call (kp_cons (vp_2 (vp_var 0 rfl) (vp_con : VP _ _ (.int 0)) (ixp0 _ _)) (kp_cons (vp_2 (vp_var 0 rfl) (vp_con : VP _ _ (.int 1)) (ixp1 _ _ _)) (kp_cons ((vp_tup (ap_cons (vp_con : VP _ _ (.str ("cell" : Str))) (ap_cons (vp_var 4 rfl) (ap_cons (vp_var 5 rfl) ap_nil)))) : VP _ _ ((eP3 PyData.str PyData.int PyData.int) (("cell" : Str), x4.2, x9))) kp_nil))) (n_place_of _ _ _ )) (fun _ => rfl)) (fun p11 => (sb_nilWL (v := p11.2) rfl)))))  (fun s8 => (sb_nilWL (v := s8) rfl))))))))  (fun s3 => (sb_at (δ' := [.fz ((eP3 PyData.int PyData.int (eTu PyData.int)) store), .fz (PyData.int head), .ow ((eLi PyData.int) s3), .no, .no, .no]) (sb_retV rfl rfl))))))))))
/-! content_of -/
def N_content_of (store : (Int × Int × (List Int))) (head : Int) : Option (List Int) := ((((N_content_places store head)).bind fun r1 => (lenC r1 (mapM (fun x2 => (atI store.2.2 x2)) r1)).map fun v6 => (r1, v6))).bind fun l5 => (some l5.2)
theorem n_content_of (store : (Int × Int × (List Int))) (head : Int) : ∀ v, N_content_of store head = some v → φ_content_of [.fz ((eP3 PyData.int PyData.int (eTu PyData.int)) store), .fz (PyData.int head)] = some (((eTu PyData.int) v), [.fz ((eP3 PyData.int PyData.int (eTu PyData.int)) store), .fz (PyData.int head)]) := by
  exact fn_n (sb_retN (vn_A (an_np (vn_lcI (in_it (vn_call (kp_cons (vp_var 0 rfl) (kp_cons (vp_var 1 rfl) kp_nil)) (n_content_places _ _ )) (fun _ => itL_d _)) (fun r1 => (vn_lcMY (e := PyData.int) (e' := PyData.int) ip_at (fun x2 => (bt_nm 2)) (fun x2 => (vn_co (vp_2q (q := (atI store.2.2 x2)) (e := PyData.int) (vp_2 (vp_var 0 rfl) (vp_con : VP _ _ (.int 2)) (ixp2 _ _ _ _)) (vp_var 2 rfl) (fun _ h => ixT_d _ _ _ h)) (fun _ => rfl)))))) (fun l5 => ap_nil)) (fun l5 => tupL_d _)) (fun _ => rfl))
/-! entries_of -/
def N_entries_of (store : (Int × Int × (List Int))) (head : Int) : Option (List (Int × Int)) := ((N_content_of store head)).bind fun r1 => (some (((stpN 0 r1)).zip (stpN 1 r1)))
theorem n_entries_of (store : (Int × Int × (List Int))) (head : Int) : ∀ v, N_entries_of store head = some v → φ_entries_of [.fz ((eP3 PyData.int PyData.int (eTu PyData.int)) store), .fz (PyData.int head)] = some (((eTu (eP2 PyData.int PyData.int)) v), [.fz ((eP3 PyData.int PyData.int (eTu PyData.int)) store), .fz (PyData.int head)]) := by
  exact fn_n (sb_setN (vn_call (kp_cons (vp_var 0 rfl) (kp_cons (vp_var 1 rfl) kp_nil)) (n_content_of _ _ )) (fun r1 => (sb_ret (vp_A (ap_cons (vp_A (ap_cons (vp_3 (vp_var 2 rfl) op_none op_none (stT_d _ _ _ _ 0 rfl)) (ap_cons (vp_3 (vp_var 2 rfl) (op_some (vp_con : VP _ _ (.int 1))) op_none (stT_d _ _ _ _ 1 rfl)) ap_nil)) (zipTT_d _ _ _ _)) ap_nil) (tupL_d _)) rfl)))
/-! names_in -/
def N_names_in (store : (Int × Int × (List Int))) (head : Int) : Option (List (Int × Int)) := ((N_entries_of store head)).bind fun r1 => (some r1)
theorem n_names_in (store : (Int × Int × (List Int))) (head : Int) : ∀ v, N_names_in store head = some v → φ_names_in [.fz ((eP3 PyData.int PyData.int (eTu PyData.int)) store), .fz (PyData.int head)] = some (((eTu (eP2 PyData.int PyData.int)) v), [.fz ((eP3 PyData.int PyData.int (eTu PyData.int)) store), .fz (PyData.int head)]) := by
  exact fn_n (sb_retN (vn_call (kp_cons (vp_var 0 rfl) (kp_cons (vp_var 1 rfl) kp_nil)) (n_entries_of _ _ )) (fun _ => rfl))
/-! worths_in -/
def N_worths_in (store : (Int × Int × (List Int))) (head : Int) : Option (List Int) := ((N_content_of store head)).bind fun r1 => (some r1)
theorem n_worths_in (store : (Int × Int × (List Int))) (head : Int) : ∀ v, N_worths_in store head = some v → φ_worths_in [.fz ((eP3 PyData.int PyData.int (eTu PyData.int)) store), .fz (PyData.int head)] = some (((eTu PyData.int) v), [.fz ((eP3 PyData.int PyData.int (eTu PyData.int)) store), .fz (PyData.int head)]) := by
  exact fn_n (sb_retN (vn_call (kp_cons (vp_var 0 rfl) (kp_cons (vp_var 1 rfl) kp_nil)) (n_content_of _ _ )) (fun _ => rfl))
theorem n_draw (k : Dk) (M : Int) : ∀ v, drawN k M = some v → φ__law_draw [sDk k, .fz (.int M)] = some (.int v.1, [sDk v.2, .fz (.int M)]) := n_draw0 k M
/-! _law_pick -/
def N_l_pick (deck : Dk) (some_ : (List Int)) : Option (Int × Dk) := ((((drawN deck (lenN some_))).bind fun r1 => ((atI some_ r1.1)).map fun v3 => (r1, v3))).bind fun b2 => (some (b2.2, b2.1.2))
theorem n_l_pick (deck : Dk) (some_ : (List Int)) : ∀ v, N_l_pick deck some_ = some v → φ__law_pick [sDk deck, .fz ((eLi PyData.int) some_)] = some ((PyData.int v.1), [sDk v.2, .fz ((eLi PyData.int) some_)]) := by
  exact fn_n (sb_retN (vn_2q (e := fun _ => PyData.int) (an_pn (vp_var 1 rfl) (an_np (vn_call (kp_io 0 (kp_cons (vp_A (ap_cons (vp_var 1 rfl) ap_nil) (lenL_d _)) kp_nil)) (n_draw _ _ )) (fun r1 => ap_nil))) (fun r1 _ h => g2x (ixL_d _ _ _ h))) (fun _ => rfl))
/-! _law_shape -/
def N_l_shape (deck : Dk) : Option ((Int × Int) × Dk) := ((drawN deck 8)).bind fun r1 => ((((drawN r1.2 5)).bind fun r3 => ((drawN r3.2 7)).map fun r4 => (r3, r4))).bind fun b5 => ((atI ([((3 + b5.1.1), (4 + b5.2.1)), (8, 12), (2, 3)]) ((boI (decide (r1.1 = 5))) + (2 * (boI (decide (r1.1 = 3))))))).bind fun v6 => (some (v6, b5.2.2))
theorem n_l_shape (deck : Dk) : ∀ v, N_l_shape deck = some v → φ__law_shape [sDk deck] = some (((eP2 PyData.int PyData.int) v.1), [sDk v.2]) := by
  exact fn_n (sb_setN (vn_call (kp_io 0 (kp_cons (vp_con : VP _ _ (.int 8)) kp_nil)) (n_draw _ _ )) (fun r1 => (sb_par2N (a := fun b5 => (PyData.int (3 + b5.1.1))) (b := fun b5 => (PyData.int (4 + b5.2.1))) (an_nn (vn_2 (an_pn (vp_con : VP _ _ (.int 3)) (an_np (vn_call (kp_io 0 (kp_cons (vp_con : VP _ _ (.int 5)) kp_nil)) (n_draw _ _ )) (fun r3 => ap_nil))) (fun r3 => g2x (addA_int _ _))) (fun r3 => (an_np (vn_2 (an_pn (vp_con : VP _ _ (.int 4)) (an_np (vn_call (kp_io 0 (kp_cons (vp_con : VP _ _ (.int 7)) kp_nil)) (n_draw _ _ )) (fun r4 => ap_nil))) (fun r4 => g2x (addA_int _ _))) (fun r4 => ap_nil)))) (fun _ => rfl) (fun b5 => (sb_retN (vp_2q (q := (atI ([((3 + b5.1.1), (4 + b5.2.1)), (8, 12), (2, 3)]) ((boI (decide (r1.1 = 5))) + (2 * (boI (decide (r1.1 = 3))))))) (e := (eP2 PyData.int PyData.int)) ((vp_lst (ap_cons ((vp_tup (ap_cons (vp_var 2 rfl) (ap_cons (vp_var 3 rfl) ap_nil))) : VP _ _ ((eP2 PyData.int PyData.int) ((3 + b5.1.1), (4 + b5.2.1)))) (ap_cons ((vp_tup (ap_cons (vp_con : VP _ _ (.int 8)) (ap_cons (vp_con : VP _ _ (.int 12)) ap_nil))) : VP _ _ ((eP2 PyData.int PyData.int) (8, 12))) (ap_cons ((vp_tup (ap_cons (vp_con : VP _ _ (.int 2)) (ap_cons (vp_con : VP _ _ (.int 3)) ap_nil))) : VP _ _ ((eP2 PyData.int PyData.int) (2, 3))) ap_nil)))) : VP _ _ ((eLi (eP2 PyData.int PyData.int)) ([((3 + b5.1.1), (4 + b5.2.1)), (8, 12), (2, 3)]))) (vp_2 (vp_A (ap_cons (vp_2 (vp_var 1 rfl) (vp_con : VP _ _ (.int 5)) (eq_g gI _ _)) ap_nil) (int_b _)) (vp_2 (vp_con : VP _ _ (.int 2)) (vp_A (ap_cons (vp_2 (vp_var 1 rfl) (vp_con : VP _ _ (.int 3)) (eq_g gI _ _)) ap_nil) (int_b _)) (mulA_l _ _ rfl)) (addA_int _ _)) (fun _ h => ixL_d _ _ _ h)) (fun _ => rfl))))))
/-! _law_needs -/
def N_l_needs (kind : Int) (rows : (List D)) : Option Int := (mulQ kind (lenN rows)).bind fun v1 => (some ((v1 + 3) / 4))
theorem n_l_needs (kind : Int) (rows : (List D)) : ∀ v, N_l_needs kind rows = some v → φ__law_needs [.fz (PyData.int kind), .fz ((eLi eD) rows)] = some ((PyData.int v), [.fz (PyData.int kind), .fz ((eLi eD) rows)]) := by
  exact fn_n (sb_retN (vn_2 (an_np (vn_2 (an_np (vp_2q (q := mulQ kind (lenN rows)) (e := PyData.int) (vp_var 0 rfl) (vp_A (ap_cons (vp_var 1 rfl) ap_nil) (lenL_d _)) (fun _ h => mulQ_d _ _ _ h)) (fun v1 => (ap_cons (vp_con : VP _ _ (.int 3)) ap_nil))) (fun v1 => g2x (addA_int _ _))) (fun v1 => (ap_cons (vp_con : VP _ _ (.int 4)) ap_nil))) (fun v1 => g2x (fdivD_int _ _ (by decide) (by decide)))) (fun _ => rfl))
/-! _law_left -/
def N_l_left (model : (List (Int × (Int × (List D))))) (blocks : Int) : Option Int := ((lenC (model.map (·.1)) (filM (fun x1 => (some (!decide (x1 = 2)))) (fun x1 => (((((((dGet model x1)).bind fun v2 => ((dGet model x1)).map fun v3 => (v2, v3))).bind fun b4 => (N_l_needs b4.1.1 b4.2.2).map fun v6 => (b4, v6))).map fun r5 => r5.2)) (model.map (·.1))))).bind fun l7 => (some ((blocks - 3) - l7.sum))
theorem n_l_left (model : (List (Int × (Int × (List D))))) (blocks : Int) : ∀ v, N_l_left model blocks = some v → φ__law_left [.fz ((eDi PyData.int (eP2 PyData.int (eLi eD))) model), .fz (PyData.int blocks)] = some ((PyData.int v), [.fz ((eDi PyData.int (eP2 PyData.int (eLi eD))) model), .fz (PyData.int blocks)]) := by
  exact fn_n (sb_retN (vn_2 (an_pn (vp_2 (vp_var 1 rfl) (vp_con : VP _ _ (.int 3)) (subD_int _ _)) (an_np (vn_A (an_np (vn_lcM (e := PyData.int) (e' := PyData.int) (ip_it (vp_var 0 rfl) (itD_d _)) (fun x1 => (bt_nm 2)) (fun x1 => (tn_of (v := (!decide (x1 = 2))) (tp_v (vp_2 (vp_var 2 rfl) (vp_con : VP _ _ (.int 2)) (ne_g gI _ _))) rfl)) (fun x1 => (vn_map (vn_callN (kn_nn (vn_2 (an_np (vp_2q (q := (dGet model x1)) (e := (eP2 PyData.int (eLi eD))) (vp_var 0 rfl) (vp_var 2 rfl) (fun _ h => ixD_d kgI _ _ _ h)) (fun v2 => (ap_cons (vp_con : VP _ _ (.int 0)) ap_nil))) (fun v2 => g2x (ixp0 _ _))) (fun v2 => (kn_np (vn_2 (an_np (vp_2q (q := (dGet model x1)) (e := (eP2 PyData.int (eLi eD))) (vp_var 0 rfl) (vp_var 2 rfl) (fun _ h => ixD_d kgI _ _ _ h)) (fun v3 => (ap_cons (vp_con : VP _ _ (.int 1)) ap_nil))) (fun v3 => g2x (ixp1 _ _ _))) (fun v3 => kp_nil)))) (fun _ => n_l_needs _ _ )) (fun _ => rfl)))) (fun l7 => ap_nil)) (fun l7 => sum_d _)) (fun l7 => ap_nil))) (fun l7 => g2x (subD_int _ _))) (fun _ => rfl))
/-! _law_enter -/
def N_l_enter (model : (List (Int × (Int × (List D))))) (blocks : Int) (folder : Int) (name : Int) (head : Int) : Option (Bool × (List (Int × (Int × (List D))))) := ((dGet model folder)).bind fun v1 => (((catQ v1.2 ([((eP2 PyData.int PyData.int) (name, head))])).bind fun v2 => ((sortQ v2)).map fun v4 => (v2, v4))).bind fun b3 => ((((((N_l_needs 2 b3.2)).bind fun r6 => ((N_l_needs 2 v1.2)).map fun r7 => (r6, r7))).bind fun b8 => ((N_l_left model blocks)).map fun r9 => (b8, r9))).bind fun b10 => letC (decide ((b10.1.1 - b10.1.2) ≤ b10.2)) fun room_11 => ((if (decide ((lenN v1.2) < 6)) then (if room_11 then (((((lenC v1.2 (filM (fun x12 => (((((idxD x12 (PyData.int 0))).bind fun v13 => ((eqD v13 (PyData.int name))).map fun v15 => (v13, v15))).map fun b14 => b14.2)) (fun x12 => (some x12)) v1.2))).bind fun l16 => ((eqD ((eLi eD) l16) ((eLi eD) ([])))).map fun v18 => (l16, v18))).map fun b17 => b17.2) else some false) else some false)).bind fun b22 => if b22 then (dPutQ model folder (2, b3.2)).bind fun u23 => (some (true, u23)) else (some (false, model))
theorem n_l_enter (model : (List (Int × (Int × (List D))))) (blocks : Int) (folder : Int) (name : Int) (head : Int) : ∀ v, N_l_enter model blocks folder name head = some v → φ__law_enter [.ow ((eDi PyData.int (eP2 PyData.int (eLi eD))) model), .fz (PyData.int blocks), .fz (PyData.int folder), .fz (PyData.int name), .fz (PyData.int head)] = some ((PyData.bool v.1), [.ow ((eDi PyData.int (eP2 PyData.int (eLi eD))) v.2), .fz (PyData.int blocks), .fz (PyData.int folder), .fz (PyData.int name), .fz (PyData.int head)]) := by
  exact fn_n (sb_at (δ' := [.ow ((eDi PyData.int (eP2 PyData.int (eLi eD))) model), .fz (PyData.int blocks), .fz (PyData.int folder), .fz (PyData.int name), .fz (PyData.int head), .no, .no, .no, .no, .no]) (sb_asgN (vn_lk 0 (vp_2q (q := (dGet model folder)) (e := (eP2 PyData.int (eLi eD))) (vp_rdk 0 rfl : VP _ _ ((eDi PyData.int (eP2 PyData.int (eLi eD))) model)) (vp_var 2 rfl) (fun _ h => ixD_d kgI _ _ _ h)) rfl (fun _ => rfl)) (fun v1 => (bt_tup (bts_cons (bt_nm 5) (bts_cons (bt_nm 6) bts_nil)))) (fun v1 => (sb_at (δ' := [.ow ((eDi PyData.int (eP2 PyData.int (eLi eD))) model), .fz (PyData.int blocks), .fz (PyData.int folder), .fz (PyData.int name), .fz (PyData.int head), .fz (PyData.int v1.1), .fz ((eLi eD) v1.2), .no, .no, .no]) (sb_setN (vn_Aq (e := fun _ => (eLi eD)) (an_np (vp_2q (q := catQ v1.2 ([((eP2 PyData.int PyData.int) (name, head))])) (e := (eLi eD)) (vp_var 6 rfl) ((vp_lst (ap_cons ((vp_tup (ap_cons (vp_var 3 rfl) (ap_cons (vp_var 4 rfl) ap_nil))) : VP _ _ ((eP2 PyData.int PyData.int) (name, head))) ap_nil)) : VP _ _ ((eLi eD) ([((eP2 PyData.int PyData.int) (name, head))]))) (fun _ h => catL_d _ _ _ h)) (fun v2 => ap_nil)) (fun v2 _ h => sortQ_d _ _ h)) (fun b3 => (sb_at (δ' := [.ow ((eDi PyData.int (eP2 PyData.int (eLi eD))) model), .fz (PyData.int blocks), .fz (PyData.int folder), .fz (PyData.int name), .fz (PyData.int head), .fz (PyData.int v1.1), .fz ((eLi eD) v1.2), .fz ((eLi eD) b3.2), .no, .no]) (sb_setM (e := PyData.bool) (vn_2 (an_nn (vn_2 (an_nn (vn_call (kp_cons (vp_con : VP _ _ (.int 2)) (kp_cons (vp_var 7 rfl) kp_nil)) (n_l_needs _ _ )) (fun r6 => (an_np (vn_call (kp_cons (vp_con : VP _ _ (.int 2)) (kp_cons (vp_var 6 rfl) kp_nil)) (n_l_needs _ _ )) (fun r7 => ap_nil)))) (fun b8 => g2x (subD_int _ _))) (fun b8 => (an_np (vn_lk 0 (vn_call (kp_cons (vp_rdk 0 rfl : VP _ _ ((eDi PyData.int (eP2 PyData.int (eLi eD))) model)) (kp_cons (vp_var 1 rfl) kp_nil)) (n_l_left _ _ )) rfl (fun _ => rfl)) (fun r9 => ap_nil)))) (fun b10 => g2x (le_i _ _))) (fun _ => rfl) (fun b10 room_11 => (sb_at (δ' := [.ow ((eDi PyData.int (eP2 PyData.int (eLi eD))) model), .fz (PyData.int blocks), .fz (PyData.int folder), .fz (PyData.int name), .fz (PyData.int head), .fz (PyData.int v1.1), .fz ((eLi eD) v1.2), .fz ((eLi eD) b3.2), .fz (PyData.bool room_11), .no]) (sb_ifN (tn_andP (v := false) (tp_v (vp_2 (vp_A (ap_cons (vp_var 6 rfl) ap_nil) (lenL_d _)) (vp_con : VP _ _ (.int 6)) (lt_i _ _))) (tn_co (r' := fun c21 => (c21, [.ow ((eDi PyData.int (eP2 PyData.int (eLi eD))) model), .fz (PyData.int blocks), .fz (PyData.int folder), .fz (PyData.int name), .fz (PyData.int head), .fz (PyData.int v1.1), .fz ((eLi eD) v1.2), .fz ((eLi eD) b3.2), .fz (PyData.bool room_11), .no])) (tn_andP (v := false) (tp_v (vp_var 8 rfl)) (tn_map (r' := fun c19 => (c19, [.ow ((eDi PyData.int (eP2 PyData.int (eLi eD))) model), .fz (PyData.int blocks), .fz (PyData.int folder), .fz (PyData.int name), .fz (PyData.int head), .fz (PyData.int v1.1), .fz ((eLi eD) v1.2), .fz ((eLi eD) b3.2), .fz (PyData.bool room_11), .no])) (tn_v (vn_2q (e := fun _ => PyData.bool) (an_np (vn_lcM (e := eD) (e' := eD) (ip_it (vp_var 6 rfl) (itL_d _)) (fun x12 => (bt_nm 9)) (fun x12 => (tn_map (tn_v (vn_2q (e := fun _ => PyData.bool) (an_np (vp_2q (q := (idxD x12 (PyData.int 0))) (e := eD) (vp_var 9 rfl) (vp_con : VP _ _ (.int 0)) (fun _ h => h)) (fun v13 => (ap_cons (vp_var 3 rfl) ap_nil))) (fun v13 _ h => g2x (rawB _ _ h))) (fun _ => rfl)) (fun _ => rfl))) (fun x12 => (vn_of (v := x12) (vp_var 9 rfl) rfl))) (fun l16 => (ap_cons ((vp_lst ap_nil) : VP _ _ ((eLi eD) ([]))) ap_nil))) (fun l16 _ h => g2x (rawB _ _ h))) (fun _ => rfl)) (fun _ => rfl)) rfl) (fun _ => rfl)) rfl) (fun _ => rfl) (fun b22 => (sb_assoc (sb_at (δ' := [.ow ((eDi PyData.int (eP2 PyData.int (eLi eD))) model), .fz (PyData.int blocks), .fz (PyData.int folder), .fz (PyData.int name), .fz (PyData.int head), .fz (PyData.int v1.1), .fz ((eLi eD) v1.2), .fz ((eLi eD) b3.2), .fz (PyData.bool room_11), .no]) (sb_put (q := (dPutQ model folder (2, b3.2))) (e := (eDi PyData.int (eP2 PyData.int (eLi eD)))) ((vp_tup (ap_cons (vp_con : VP _ _ (.int 2)) (ap_cons (vp_var 7 rfl) ap_nil))) : VP _ _ ((eP2 PyData.int (eLi eD)) (2, b3.2))) (vp_var 2 rfl) rfl (fun _ h => putD_d (e' := (eP2 PyData.int (eLi eD))) kgI _ _ _ _ h) (fun u23 => (sb_assoc (sb_at (δ' := [.ow ((eDi PyData.int (eP2 PyData.int (eLi eD))) u23), .fz (PyData.int blocks), .fz (PyData.int folder), .fz (PyData.int name), .fz (PyData.int head), .fz (PyData.int v1.1), .fz ((eLi eD) v1.2), .fz ((eLi eD) b3.2), .fz (PyData.bool room_11), .no]) (sb_ret (vp_con : VP _ _ (.bool true)) rfl)))))))) (fun b22 => (sb_nilS (sb_at (δ' := [.ow ((eDi PyData.int (eP2 PyData.int (eLi eD))) model), .fz (PyData.int blocks), .fz (PyData.int folder), .fz (PyData.int name), .fz (PyData.int head), .fz (PyData.int v1.1), .fz ((eLi eD) v1.2), .fz ((eLi eD) b3.2), .fz (PyData.bool room_11), .no]) (sb_ret (vp_con : VP _ _ (.bool false)) rfl)))))))))))))))
/-! _law_model -/
def N_l_model (deck : Dk) (heads : Int) (blocks : Int) : Option ((List (Int × (Int × (List D)))) × Dk) := letC ([(1, (2, [])), (2, (2, []))]) fun model_1 => ((rgQ 3 (heads + 1))).bind fun v3 => (whileN (fun s5 => (some (!decide (s5.2.2.2 = ([]))))) (fun s5 => ((((drawN s5.1 (lenN s5.2.2.2))).bind fun r6 => (popAtQ s5.2.2.2 r6.1).map fun v8 => (r6, v8))).bind fun p7 => ((drawN p7.1.2 6)).bind fun r10 => ((N_l_pick r10.2 ([1, 1, 2, 3]))).bind fun r12 => ((N_l_pick r12.2 s5.2.2.1)).bind fun r14 => if (decide (r10.1 = 0)) then (some (r14.2, s5.2.1, s5.2.2.1, p7.2.2)) else ((((((drawN r14.2 13)).bind fun r16 => (rng1 r16.1).map fun v18 => (r16, v18))).bind fun b17 => (lenC b17.2 (mapS (fun x22 s21 => (((drawN s21 100)).map fun r23 => (r23.1, r23.2))) b17.2 b17.1.2)).map fun v25 => (b17, v25))).bind fun l24 => ((if (decide (r10.1 < 3)) then (some (2, [])) else (((N_l_left s5.2.1 blocks)).map fun r27 => (1, (List.map PyData.int (cutL l24.2.1 none (some (4 * r27)))))))).bind fun b30 => (dPutQ s5.2.1 p7.2.1 b30).bind fun u31 => ((if (!decide (r10.1 = 5)) then (((((drawN l24.2.2 99)).bind fun r32 => (N_l_enter u31 blocks r14.1 (1 + r32.1) p7.2.1).map fun v34 => (r32, v34))).map fun r33 => (r33.2.1, r33.1.2, r33.2.2)) else some (false, l24.2.2, u31))).bind fun b36 => (if (!b36.1) then ((((((dGet b36.2.2 2)).bind fun v39 => (catQ v39.2 ([((eP2 PyData.int PyData.int) (p7.2.1, p7.2.1))])).map fun v41 => (v39, v41))).bind fun b40 => ((sortQ b40.2)).map fun v43 => (b40, v43))).bind fun b42 => (dPutQ b36.2.2 2 (2, b42.2)).bind fun u44 => (some u44) else (some b36.2.2)).bind fun s38 => (((mulQ (r12.1 - 1) (boI (decide (2 < r10.1)))).bind fun v45 => (rng1 v45).map fun v47 => (v45, v47))).bind fun b46 => (forN (fun x49 s48 => ((((((N_l_pick s48.1 s5.2.2.1)).bind fun r50 => ((drawN r50.2 99)).map fun r51 => (r50, r51))).bind fun b52 => (N_l_enter s48.2 blocks b52.1.1 (1 + b52.2.1) p7.2.1).map fun v54 => (b52, v54))).bind fun r53 => (some (r53.1.2.2, r53.2.2))) b46.2 (b36.2.1, s38)).bind fun s48 => (if (decide (r10.1 < 3)) then ((appQ s5.2.2.1 p7.2.1)).bind fun p56 => (some p56) else (some s5.2.2.1)).bind fun s55 => (some (s48.1, s48.2, s55, p7.2.2))) 100 (deck, model_1, [1], v3)).bind fun s5 => (some (s5.2.1, s5.1))
theorem n_l_model (deck : Dk) (heads : Int) (blocks : Int) : ∀ v, N_l_model deck heads blocks = some v → φ__law_model [sDk deck, .fz (PyData.int heads), .fz (PyData.int blocks)] = some (((eDi PyData.int (eP2 PyData.int (eLi eD))) v.1), [sDk v.2, .fz (PyData.int heads), .fz (PyData.int blocks)]) := by
  exact fn_n (sb_at (δ' := [sDk deck, .fz (PyData.int heads), .fz (PyData.int blocks), .no, .no, .no, .no, .no, .no, .no, .no, .no, .no]) (sb_ownL (e := (eDi PyData.int (eP2 PyData.int (eLi eD)))) (v := [(1, (2, [])), (2, (2, []))]) (vp_disp (pp_cons (vp_con : VP _ _ (.int 1)) ((vp_tup (ap_cons (vp_con : VP _ _ (.int 2)) (ap_cons ((vp_lst ap_nil) : VP _ _ ((eLi eD) ([]))) ap_nil))) : VP _ _ ((eP2 PyData.int (eLi eD)) (2, []))) (pp_cons (vp_con : VP _ _ (.int 2)) ((vp_tup (ap_cons (vp_con : VP _ _ (.int 2)) (ap_cons ((vp_lst ap_nil) : VP _ _ ((eLi eD) ([]))) ap_nil))) : VP _ _ ((eP2 PyData.int (eLi eD)) (2, []))) pp_nil)) rfl : VP _ _ ((eDi PyData.int (eP2 PyData.int (eLi eD))) [(1, (2, [])), (2, (2, []))])) (fun model_1 => (sb_at (δ' := [sDk deck, .fz (PyData.int heads), .fz (PyData.int blocks), .ow ((eDi PyData.int (eP2 PyData.int (eLi eD))) model_1), .no, .no, .no, .no, .no, .no, .no, .no, .no]) (sb_own ((vp_lst (ap_cons (vp_con : VP _ _ (.int 1)) ap_nil)) : VP _ _ ((eLi PyData.int) ([1]))) (sb_at (δ' := [sDk deck, .fz (PyData.int heads), .fz (PyData.int blocks), .ow ((eDi PyData.int (eP2 PyData.int (eLi eD))) model_1), .ow ((eLi PyData.int) ([1])), .no, .no, .no, .no, .no, .no, .no, .no]) (sb_ownN (vp_2q (q := (rgQ 3 (heads + 1))) (e := (eLi PyData.int)) (vp_con : VP _ _ (.int 3)) (vp_2 (vp_var 1 rfl) (vp_con : VP _ _ (.int 1)) (addA_int _ _)) (fun _ h => rg_d _ _ _ h)) (fun v3 => (sb_wip (sb_at (δ' := [sDk deck, .fz (PyData.int heads), .fz (PyData.int blocks), .ow ((eDi PyData.int (eP2 PyData.int (eLi eD))) model_1), .ow ((eLi PyData.int) ([1])), .ow ((eLi PyData.int) v3), .no, .no, .no, .no, .no, .no, .no]) (sb_while (st := fun s5 => [sDk s5.1, .fz (PyData.int heads), .fz (PyData.int blocks), .ow ((eDi PyData.int (eP2 PyData.int (eLi eD))) s5.2.1), .ow ((eLi PyData.int) s5.2.2.1), .ow ((eLi PyData.int) s5.2.2.2), .no, .no, .no, .no, .no, .no, .no]) (s0 := (deck, model_1, [1], v3)) (fun s5 => (tn_of (v := (!decide (s5.2.2.2 = ([])))) (tp_v (vp_2 (vp_rd 5 rfl : VP _ _ ((eLi PyData.int) s5.2.2.2)) ((vp_lst ap_nil) : VP _ _ ((eLi PyData.int) ([]))) (ne_g (gLi gI) _ _))) rfl)) (fun s5 => (sb_at (δ' := [sDk s5.1, .fz (PyData.int heads), .fz (PyData.int blocks), .ow ((eDi PyData.int (eP2 PyData.int (eLi eD))) s5.2.1), .ow ((eLi PyData.int) s5.2.2.1), .ow ((eLi PyData.int) s5.2.2.2), .no, .no, .no, .no, .no, .no, .no]) (sb_setN (vn_popAt 5 (vn_call (kp_io 0 (kp_cons (vp_A (ap_cons (vp_rd 5 rfl : VP _ _ ((eLi PyData.int) s5.2.2.2)) ap_nil) (lenL_d _)) kp_nil)) (n_draw _ _ )) (fun _ => rfl)) (fun p7 => (sb_at (δ' := [sDk p7.1.2, .fz (PyData.int heads), .fz (PyData.int blocks), .ow ((eDi PyData.int (eP2 PyData.int (eLi eD))) s5.2.1), .ow ((eLi PyData.int) s5.2.2.1), .ow ((eLi PyData.int) p7.2.2), .fz (PyData.int p7.2.1), .no, .no, .no, .no, .no, .no]) (sb_setN (vn_call (kp_io 0 (kp_cons (vp_con : VP _ _ (.int 6)) kp_nil)) (n_draw _ _ )) (fun r10 => (sb_at (δ' := [sDk r10.2, .fz (PyData.int heads), .fz (PyData.int blocks), .ow ((eDi PyData.int (eP2 PyData.int (eLi eD))) s5.2.1), .ow ((eLi PyData.int) s5.2.2.1), .ow ((eLi PyData.int) p7.2.2), .fz (PyData.int p7.2.1), .fz (PyData.int r10.1), .no, .no, .no, .no, .no]) (sb_setN (vn_call (kp_io 0 (kp_cons ((vp_lst (ap_cons (vp_con : VP _ _ (.int 1)) (ap_cons (vp_con : VP _ _ (.int 1)) (ap_cons (vp_con : VP _ _ (.int 2)) (ap_cons (vp_con : VP _ _ (.int 3)) ap_nil))))) : VP _ _ ((eLi PyData.int) ([1, 1, 2, 3]))) kp_nil)) (n_l_pick _ _ )) (fun r12 => (sb_at (δ' := [sDk r12.2, .fz (PyData.int heads), .fz (PyData.int blocks), .ow ((eDi PyData.int (eP2 PyData.int (eLi eD))) s5.2.1), .ow ((eLi PyData.int) s5.2.2.1), .ow ((eLi PyData.int) p7.2.2), .fz (PyData.int p7.2.1), .fz (PyData.int r10.1), .fz (PyData.int r12.1), .no, .no, .no, .no]) (sb_setN (vn_call (kp_io 0 (kp_cons (vp_rd 4 rfl : VP _ _ ((eLi PyData.int) s5.2.2.1)) kp_nil)) (n_l_pick _ _ )) (fun r14 => (sb_at (δ' := [sDk r14.2, .fz (PyData.int heads), .fz (PyData.int blocks), .ow ((eDi PyData.int (eP2 PyData.int (eLi eD))) s5.2.1), .ow ((eLi PyData.int) s5.2.2.1), .ow ((eLi PyData.int) p7.2.2), .fz (PyData.int p7.2.1), .fz (PyData.int r10.1), .fz (PyData.int r12.1), .fz (PyData.int r14.1), .no, .no, .no]) (sb_if (tp_v (vp_2 (vp_var 7 rfl) (vp_con : VP _ _ (.int 0)) (eq_g gI _ _))) (sb_assoc (sb_cont (v := (r14.2, s5.2.1, s5.2.2.1, p7.2.2)) rfl)) (sb_nilS (sb_at (δ' := [sDk r14.2, .fz (PyData.int heads), .fz (PyData.int blocks), .ow ((eDi PyData.int (eP2 PyData.int (eLi eD))) s5.2.1), .ow ((eLi PyData.int) s5.2.2.1), .ow ((eLi PyData.int) p7.2.2), .fz (PyData.int p7.2.1), .fz (PyData.int r10.1), .fz (PyData.int r12.1), .fz (PyData.int r14.1), .no, .no, .no]) (sb_ownN (vn_lcI (in_rng1N  (an_np (vn_call (kp_io 0 (kp_cons (vp_con : VP _ _ (.int 13)) kp_nil)) (n_draw _ _ )) (fun r16 => ap_nil)) (fun _ => rfl)) (fun b17 => (vn_lcSY (e := PyData.int) (e' := PyData.int) (st := fun s21 => [sDk s21, .fz (PyData.int heads), .fz (PyData.int blocks), .ow ((eDi PyData.int (eP2 PyData.int (eLi eD))) s5.2.1), .ow ((eLi PyData.int) s5.2.2.1), .ow ((eLi PyData.int) p7.2.2), .fz (PyData.int p7.2.1), .fz (PyData.int r10.1), .fz (PyData.int r12.1), .fz (PyData.int r14.1), .no, .no, .no]) (s0 := b17.1.2) ip_at (fun x22 s21 => (bt_nm 12)) (fun x22 s21 => (vn_map  (vn_call (kp_io 0 (kp_cons (vp_con : VP _ _ (.int 100)) kp_nil)) (n_draw _ _ )) (fun _ => rfl)))))) (fun l24 => (sb_at (δ' := [sDk l24.2.2, .fz (PyData.int heads), .fz (PyData.int blocks), .ow ((eDi PyData.int (eP2 PyData.int (eLi eD))) s5.2.1), .ow ((eLi PyData.int) s5.2.2.1), .ow ((eLi PyData.int) p7.2.2), .fz (PyData.int p7.2.1), .fz (PyData.int r10.1), .fz (PyData.int r12.1), .fz (PyData.int r14.1), .ow ((eLi PyData.int) l24.2.1), .no, .no]) (sb_putV (e := fun _ => (eDi PyData.int (eP2 PyData.int (eLi eD)))) (vn_ite (tp_v (vp_2 (vp_var 7 rfl) (vp_con : VP _ _ (.int 3)) (lt_i _ _))) (vn_of (v := (2, [])) (r' := fun c28 => (((eP2 PyData.int (eLi eD)) c28), [sDk l24.2.2, .fz (PyData.int heads), .fz (PyData.int blocks), .ow ((eDi PyData.int (eP2 PyData.int (eLi eD))) s5.2.1), .ow ((eLi PyData.int) s5.2.2.1), .ow ((eLi PyData.int) p7.2.2), .fz (PyData.int p7.2.1), .fz (PyData.int r10.1), .fz (PyData.int r12.1), .fz (PyData.int r14.1), .ow ((eLi PyData.int) l24.2.1), .no, .no])) ((vp_tup (ap_cons (vp_con : VP _ _ (.int 2)) (ap_cons ((vp_lst ap_nil) : VP _ _ ((eLi eD) ([]))) ap_nil))) : VP _ _ ((eP2 PyData.int (eLi eD)) (2, []))) rfl) (vn_map (r' := fun c29 => (((eP2 PyData.int (eLi eD)) c29), [sDk l24.2.2, .fz (PyData.int heads), .fz (PyData.int blocks), .ow ((eDi PyData.int (eP2 PyData.int (eLi eD))) s5.2.1), .ow ((eLi PyData.int) s5.2.2.1), .ow ((eLi PyData.int) p7.2.2), .fz (PyData.int p7.2.1), .fz (PyData.int r10.1), .fz (PyData.int r12.1), .fz (PyData.int r14.1), .ow ((eLi PyData.int) l24.2.1), .no, .no])) (vn_as (z := fun r27 => ((eP2 PyData.int (eLi eD)) (1, (List.map PyData.int (cutL l24.2.1 none (some (4 * r27))))))) (vn_as (z := fun r27 => ((eP2 PyData.int (eLi PyData.int)) (1, (cutL l24.2.1 none (some (4 * r27)))))) (vn_tup (an_pn (vp_con : VP _ _ (.int 1)) (an_np (vn_3h (vp_rd 10 rfl : VP _ _ ((eLi PyData.int) l24.2.1)) op_none (on_some (vn_2 (an_pn (vp_con : VP _ _ (.int 4)) (an_np (vn_lk 3 (vn_call (kp_cons (vp_rdk 3 rfl : VP _ _ ((eDi PyData.int (eP2 PyData.int (eLi eD))) s5.2.1)) (kp_cons (vp_var 2 rfl) kp_nil)) (n_l_left _ _ )) rfl (fun _ => rfl)) (fun r27 => ap_nil))) (fun r27 => g2x (mulA_l _ _ rfl))) (fun _ => rfl)) (fun _ => slL_d _ _ _)) (fun r27 => ap_nil)))) (fun _ => rfl)) (fun r27 => (coP2 (fun _ => rfl) (coL (e := PyData.int) (e' := eD) (f := PyData.int) (fun _ => rfl))) (1, (cutL l24.2.1 none (some (4 * r27)))))) (fun _ => rfl))) (fun b30 => (vp_var 6 rfl)) (fun _ => rfl) (fun _ _ h => putD_d (e' := (eP2 PyData.int (eLi eD))) kgI _ _ _ _ h) (fun b30 u31 => (sb_at (δ' := [sDk l24.2.2, .fz (PyData.int heads), .fz (PyData.int blocks), .ow ((eDi PyData.int (eP2 PyData.int (eLi eD))) u31), .ow ((eLi PyData.int) s5.2.2.1), .ow ((eLi PyData.int) p7.2.2), .fz (PyData.int p7.2.1), .fz (PyData.int r10.1), .fz (PyData.int r12.1), .fz (PyData.int r14.1), .ow ((eLi PyData.int) l24.2.1), .no, .no]) (sb_setN (vn_andP (v := (false, l24.2.2, u31)) (vp_2 (vp_var 7 rfl) (vp_con : VP _ _ (.int 5)) (ne_g gI _ _)) (vn_map (r' := fun c35 => ((PyData.bool c35.1), [sDk c35.2.1, .fz (PyData.int heads), .fz (PyData.int blocks), .ow ((eDi PyData.int (eP2 PyData.int (eLi eD))) c35.2.2), .ow ((eLi PyData.int) s5.2.2.1), .ow ((eLi PyData.int) p7.2.2), .fz (PyData.int p7.2.1), .fz (PyData.int r10.1), .fz (PyData.int r12.1), .fz (PyData.int r14.1), .ow ((eLi PyData.int) l24.2.1), .no, .no])) (vn_callN (kn_ion 3 (kn_pn (vp_var 2 rfl) (kn_pn (vp_var 9 rfl) (kn_np (vn_2 (an_pn (vp_con : VP _ _ (.int 1)) (an_np (vn_call (kp_io 0 (kp_cons (vp_con : VP _ _ (.int 99)) kp_nil)) (n_draw _ _ )) (fun r32 => ap_nil))) (fun r32 => g2x (addA_int _ _))) (fun r32 => (kp_cons (vp_var 6 rfl) kp_nil)))))) (fun _ => n_l_enter _ _ _ _ _ )) (fun _ => rfl)) rfl) (fun b36 => (sb_at (δ' := [sDk b36.2.1, .fz (PyData.int heads), .fz (PyData.int blocks), .ow ((eDi PyData.int (eP2 PyData.int (eLi eD))) b36.2.2), .ow ((eLi PyData.int) s5.2.2.1), .ow ((eLi PyData.int) p7.2.2), .fz (PyData.int p7.2.1), .fz (PyData.int r10.1), .fz (PyData.int r12.1), .fz (PyData.int r14.1), .ow ((eLi PyData.int) l24.2.1), .fz (PyData.bool b36.1), .no]) (sb_join (st := fun s38 => [sDk b36.2.1, .fz (PyData.int heads), .fz (PyData.int blocks), .ow ((eDi PyData.int (eP2 PyData.int (eLi eD))) s38), .ow ((eLi PyData.int) s5.2.2.1), .ow ((eLi PyData.int) p7.2.2), .fz (PyData.int p7.2.1), .fz (PyData.int r10.1), .fz (PyData.int r12.1), .fz (PyData.int r14.1), .ow ((eLi PyData.int) l24.2.1), .fz (PyData.bool b36.1), .no]) (sb_if1 (tp_not (tp_v (vp_var 11 rfl))) (sb_at (δ' := [sDk b36.2.1, .fz (PyData.int heads), .fz (PyData.int blocks), .ow ((eDi PyData.int (eP2 PyData.int (eLi eD))) b36.2.2), .ow ((eLi PyData.int) s5.2.2.1), .ow ((eLi PyData.int) p7.2.2), .fz (PyData.int p7.2.1), .fz (PyData.int r10.1), .fz (PyData.int r12.1), .fz (PyData.int r14.1), .ow ((eLi PyData.int) l24.2.1), .fz (PyData.bool b36.1), .no]) (sb_putV (e := fun _ => (eDi PyData.int (eP2 PyData.int (eLi eD)))) (vn_as (z := fun b42 => ((eP2 PyData.int (eLi eD)) (2, b42.2))) (vn_tup (an_pn (vp_con : VP _ _ (.int 2)) (an_np (vn_Aq (e := fun _ => (eLi eD)) (an_np (vn_2q (e := fun _ => (eLi eD)) (an_np (vn_2 (an_np (vn_lk 3 (vp_2q (q := (dGet b36.2.2 2)) (e := (eP2 PyData.int (eLi eD))) (vp_rdk 3 rfl : VP _ _ ((eDi PyData.int (eP2 PyData.int (eLi eD))) b36.2.2)) (vp_con : VP _ _ (.int 2)) (fun _ h => ixD_d kgI _ _ _ h)) rfl (fun _ => rfl)) (fun v39 => (ap_cons (vp_con : VP _ _ (.int 1)) ap_nil))) (fun v39 => g2x (ixp1 _ _ _))) (fun v39 => (ap_cons ((vp_lst (ap_cons ((vp_tup (ap_cons (vp_var 6 rfl) (ap_cons (vp_var 6 rfl) ap_nil))) : VP _ _ ((eP2 PyData.int PyData.int) (p7.2.1, p7.2.1))) ap_nil)) : VP _ _ ((eLi eD) ([((eP2 PyData.int PyData.int) (p7.2.1, p7.2.1))]))) ap_nil))) (fun v39 _ h => g2x (catL_d _ _ _ h))) (fun b40 => ap_nil)) (fun b40 _ h => sortQ_d _ _ h)) (fun b42 => ap_nil)))) (fun _ => rfl)) (fun b42 => (vp_con : VP _ _ (.int 2))) (fun _ => rfl) (fun _ _ h => putD_d (e' := (eP2 PyData.int (eLi eD))) kgI _ _ _ _ h) (fun b42 u44 => (sb_nil (v := u44) rfl)))) (sb_nil (v := b36.2.2) rfl)) (fun s38 => (sb_wip (sb_at (δ' := [sDk b36.2.1, .fz (PyData.int heads), .fz (PyData.int blocks), .ow ((eDi PyData.int (eP2 PyData.int (eLi eD))) s38), .ow ((eLi PyData.int) s5.2.2.1), .ow ((eLi PyData.int) p7.2.2), .fz (PyData.int p7.2.1), .fz (PyData.int r10.1), .fz (PyData.int r12.1), .fz (PyData.int r14.1), .ow ((eLi PyData.int) l24.2.1), .fz (PyData.bool b36.1), .no]) (sb_forI (in_rng1N  (an_np (vp_2q (q := mulQ (r12.1 - 1) (boI (decide (2 < r10.1)))) (e := PyData.int) (vp_2 (vp_var 8 rfl) (vp_con : VP _ _ (.int 1)) (subD_int _ _)) (vp_A (ap_cons (vp_2 (vp_var 7 rfl) (vp_con : VP _ _ (.int 2)) (gt_i _ _)) ap_nil) (int_b _)) (fun _ h => mulQ_d _ _ _ h)) (fun v45 => ap_nil)) (fun _ => rfl)) (fun b46 => (sb_for (e := PyData.int) (st := fun s48 => [sDk s48.1, .fz (PyData.int heads), .fz (PyData.int blocks), .ow ((eDi PyData.int (eP2 PyData.int (eLi eD))) s48.2), .ow ((eLi PyData.int) s5.2.2.1), .ow ((eLi PyData.int) p7.2.2), .fz (PyData.int p7.2.1), .fz (PyData.int r10.1), .fz (PyData.int r12.1), .fz (PyData.int r14.1), .ow ((eLi PyData.int) l24.2.1), .fz (PyData.bool b36.1), .no]) (s0 := (b36.2.1, s38)) ip_at (fun x49 s48 => (bt_nm 12)) (fun x49 s48 => (sb_at (δ' := [sDk s48.1, .fz (PyData.int heads), .fz (PyData.int blocks), .ow ((eDi PyData.int (eP2 PyData.int (eLi eD))) s48.2), .ow ((eLi PyData.int) s5.2.2.1), .ow ((eLi PyData.int) p7.2.2), .fz (PyData.int p7.2.1), .fz (PyData.int r10.1), .fz (PyData.int r12.1), .fz (PyData.int r14.1), .ow ((eLi PyData.int) l24.2.1), .fz (PyData.bool b36.1), .fz (PyData.int x49)]) (sb_exp (vn_callN (kn_ion 3 (kn_pn (vp_var 2 rfl) (kn_nn (vn_call (kp_io 0 (kp_cons (vp_rd 4 rfl : VP _ _ ((eLi PyData.int) s5.2.2.1)) kp_nil)) (n_l_pick _ _ )) (fun r50 => (kn_np (vn_2 (an_pn (vp_con : VP _ _ (.int 1)) (an_np (vn_call (kp_io 0 (kp_cons (vp_con : VP _ _ (.int 99)) kp_nil)) (n_draw _ _ )) (fun r51 => ap_nil))) (fun r51 => g2x (addA_int _ _))) (fun r51 => (kp_cons (vp_var 6 rfl) kp_nil))))))) (fun _ => n_l_enter _ _ _ _ _ )) (fun r53 => (sb_nilWL (v := (r53.1.2.2, r53.2.2)) rfl)))))  (fun s48 => (sb_at (δ' := [sDk s48.1, .fz (PyData.int heads), .fz (PyData.int blocks), .ow ((eDi PyData.int (eP2 PyData.int (eLi eD))) s48.2), .ow ((eLi PyData.int) s5.2.2.1), .ow ((eLi PyData.int) p7.2.2), .fz (PyData.int p7.2.1), .fz (PyData.int r10.1), .fz (PyData.int r12.1), .fz (PyData.int r14.1), .ow ((eLi PyData.int) l24.2.1), .fz (PyData.bool b36.1), .no]) (sb_join (st := fun s55 => [sDk s48.1, .fz (PyData.int heads), .fz (PyData.int blocks), .ow ((eDi PyData.int (eP2 PyData.int (eLi eD))) s48.2), .ow ((eLi PyData.int) s55), .ow ((eLi PyData.int) p7.2.2), .fz (PyData.int p7.2.1), .fz (PyData.int r10.1), .fz (PyData.int r12.1), .fz (PyData.int r14.1), .ow ((eLi PyData.int) l24.2.1), .fz (PyData.bool b36.1), .no]) (sb_if1 (tp_v (vp_2 (vp_var 7 rfl) (vp_con : VP _ _ (.int 3)) (lt_i _ _))) (sb_at (δ' := [sDk s48.1, .fz (PyData.int heads), .fz (PyData.int blocks), .ow ((eDi PyData.int (eP2 PyData.int (eLi eD))) s48.2), .ow ((eLi PyData.int) s5.2.2.1), .ow ((eLi PyData.int) p7.2.2), .fz (PyData.int p7.2.1), .fz (PyData.int r10.1), .fz (PyData.int r12.1), .fz (PyData.int r14.1), .ow ((eLi PyData.int) l24.2.1), .fz (PyData.bool b36.1), .no]) (sb_exp (vp_app 4 (e := PyData.int) (vp_var 6 rfl)) (fun p56 => (sb_nil (v := p56) rfl)))) (sb_nil (v := s5.2.2.1) rfl)) (fun s55 => (sb_nilWL (v := (s48.1, s48.2, s55, p7.2.2)) rfl))))))))))))))))))))))))))))))))))))))  (fun s5 => (sb_at (δ' := [sDk s5.1, .fz (PyData.int heads), .fz (PyData.int blocks), .ow ((eDi PyData.int (eP2 PyData.int (eLi eD))) s5.2.1), .ow ((eLi PyData.int) s5.2.2.1), .ow ((eLi PyData.int) s5.2.2.2), .no, .no, .no, .no, .no, .no, .no]) (sb_retV rfl rfl))))))))))))))
/-! _law_given -/
def N_l_given (deck : Dk) (model : (List (Int × (Int × (List D))))) (blocks : Int) : Option ((List (Int × (List Int))) × Dk) := ((rgQ 4 (blocks + 1))).bind fun v1 => letC ([(2, [1, 2, 3])]) fun given_3 => ((sortK model)).bind fun v4 => (forN (fun x6 s5 => (if (!decide (x6 = 2)) then ((((((dGet model x6)).bind fun v8 => ((dGet model x6)).map fun v9 => (v8, v9))).bind fun b10 => (N_l_needs b10.1.1 b10.2.2).map fun v12 => (b10, v12))).bind fun r11 => ((((rng1 r11.2)).bind fun v14 => (lenC v14 (mapS (fun x20 s19 => (((((drawN s19.1 (lenN s19.2))).bind fun r21 => (popAtQ s19.2 r21.1).map fun v23 => (r21, v23))).map fun p22 => (p22.2.1, (p22.1.2, p22.2.2)))) v14 (s5.1, s5.2.1))).map fun v25 => (v14, v25))).bind fun l24 => (dPutQ s5.2.2 x6 l24.2.1).bind fun u26 => (some (l24.2.2.1, l24.2.2.2, u26)) else (some (s5.1, s5.2.1, s5.2.2))).bind fun s7 => (some (s7.1, s7.2.1, s7.2.2))) v4 (deck, v1, given_3)).bind fun s5 => (some (s5.2.2, s5.1))
theorem n_l_given (deck : Dk) (model : (List (Int × (Int × (List D))))) (blocks : Int) : ∀ v, N_l_given deck model blocks = some v → φ__law_given [sDk deck, .fz ((eDi PyData.int (eP2 PyData.int (eLi eD))) model), .fz (PyData.int blocks)] = some (((eDi PyData.int (eLi PyData.int)) v.1), [sDk v.2, .fz ((eDi PyData.int (eP2 PyData.int (eLi eD))) model), .fz (PyData.int blocks)]) := by
  exact fn_n (sb_at (δ' := [sDk deck, .fz ((eDi PyData.int (eP2 PyData.int (eLi eD))) model), .fz (PyData.int blocks), .no, .no, .no, .no, .no]) (sb_ownN (vp_2q (q := (rgQ 4 (blocks + 1))) (e := (eLi PyData.int)) (vp_con : VP _ _ (.int 4)) (vp_2 (vp_var 2 rfl) (vp_con : VP _ _ (.int 1)) (addA_int _ _)) (fun _ h => rg_d _ _ _ h)) (fun v1 => (sb_at (δ' := [sDk deck, .fz ((eDi PyData.int (eP2 PyData.int (eLi eD))) model), .fz (PyData.int blocks), .ow ((eLi PyData.int) v1), .no, .no, .no, .no]) (sb_ownL (e := (eDi PyData.int (eLi PyData.int))) (v := [(2, [1, 2, 3])]) (vp_disp (pp_cons (vp_con : VP _ _ (.int 2)) ((vp_lst (ap_cons (vp_con : VP _ _ (.int 1)) (ap_cons (vp_con : VP _ _ (.int 2)) (ap_cons (vp_con : VP _ _ (.int 3)) ap_nil)))) : VP _ _ ((eLi PyData.int) ([1, 2, 3]))) pp_nil) rfl : VP _ _ ((eDi PyData.int (eLi PyData.int)) [(2, [1, 2, 3])])) (fun given_3 => (sb_wip (sb_at (δ' := [sDk deck, .fz ((eDi PyData.int (eP2 PyData.int (eLi eD))) model), .fz (PyData.int blocks), .ow ((eLi PyData.int) v1), .ow ((eDi PyData.int (eLi PyData.int)) given_3), .no, .no, .no]) (sb_forI (in_it (vp_Aq (q := (sortK model)) (e := (eLi PyData.int)) (ap_cons (vp_var 1 rfl) ap_nil) (fun _ h => sortK_d _ _ h)) (fun _ => itL_d _)) (fun v4 => (sb_for (e := PyData.int) (st := fun s5 => [sDk s5.1, .fz ((eDi PyData.int (eP2 PyData.int (eLi eD))) model), .fz (PyData.int blocks), .ow ((eLi PyData.int) s5.2.1), .ow ((eDi PyData.int (eLi PyData.int)) s5.2.2), .no, .no, .no]) (s0 := (deck, v1, given_3)) ip_at (fun x6 s5 => (bt_nm 5)) (fun x6 s5 => (sb_at (δ' := [sDk s5.1, .fz ((eDi PyData.int (eP2 PyData.int (eLi eD))) model), .fz (PyData.int blocks), .ow ((eLi PyData.int) s5.2.1), .ow ((eDi PyData.int (eLi PyData.int)) s5.2.2), .fz (PyData.int x6), .no, .no]) (sb_join (st := fun s7 => [sDk s7.1, .fz ((eDi PyData.int (eP2 PyData.int (eLi eD))) model), .fz (PyData.int blocks), .ow ((eLi PyData.int) s7.2.1), .ow ((eDi PyData.int (eLi PyData.int)) s7.2.2), .fz (PyData.int x6), .no, .no]) (sb_if1 (tp_v (vp_2 (vp_var 5 rfl) (vp_con : VP _ _ (.int 2)) (ne_g gI _ _))) (sb_at (δ' := [sDk s5.1, .fz ((eDi PyData.int (eP2 PyData.int (eLi eD))) model), .fz (PyData.int blocks), .ow ((eLi PyData.int) s5.2.1), .ow ((eDi PyData.int (eLi PyData.int)) s5.2.2), .fz (PyData.int x6), .no, .no]) (sb_setN (vn_callN (kn_nn (vn_2 (an_np (vp_2q (q := (dGet model x6)) (e := (eP2 PyData.int (eLi eD))) (vp_var 1 rfl) (vp_var 5 rfl) (fun _ h => ixD_d kgI _ _ _ h)) (fun v8 => (ap_cons (vp_con : VP _ _ (.int 0)) ap_nil))) (fun v8 => g2x (ixp0 _ _))) (fun v8 => (kn_np (vn_2 (an_np (vp_2q (q := (dGet model x6)) (e := (eP2 PyData.int (eLi eD))) (vp_var 1 rfl) (vp_var 5 rfl) (fun _ h => ixD_d kgI _ _ _ h)) (fun v9 => (ap_cons (vp_con : VP _ _ (.int 1)) ap_nil))) (fun v9 => g2x (ixp1 _ _ _))) (fun v9 => kp_nil)))) (fun _ => n_l_needs _ _ )) (fun r11 => (sb_at (δ' := [sDk s5.1, .fz ((eDi PyData.int (eP2 PyData.int (eLi eD))) model), .fz (PyData.int blocks), .ow ((eLi PyData.int) s5.2.1), .ow ((eDi PyData.int (eLi PyData.int)) s5.2.2), .fz (PyData.int x6), .fz (PyData.int r11.2), .no]) (sb_putV (e := fun _ => (eDi PyData.int (eLi PyData.int))) (vn_lcI (in_rng1 (ap_cons (vp_var 6 rfl) ap_nil)) (fun v14 => (vn_lcSY (e := PyData.int) (e' := PyData.int) (st := fun s19 => [sDk s19.1, .fz ((eDi PyData.int (eP2 PyData.int (eLi eD))) model), .fz (PyData.int blocks), .ow ((eLi PyData.int) s19.2), .ow ((eDi PyData.int (eLi PyData.int)) s5.2.2), .fz (PyData.int x6), .fz (PyData.int r11.2), .no]) (s0 := (s5.1, s5.2.1)) ip_at (fun x20 s19 => (bt_nm 7)) (fun x20 s19 => (vn_map  (vn_popAt 3 (vn_call (kp_io 0 (kp_cons (vp_A (ap_cons (vp_rd 3 rfl : VP _ _ ((eLi PyData.int) s19.2)) ap_nil) (lenL_d _)) kp_nil)) (n_draw _ _ )) (fun _ => rfl)) (fun _ => rfl)))))) (fun l24 => (vp_var 5 rfl)) (fun _ => rfl) (fun _ _ h => putD_d (e' := (eLi PyData.int)) kgI _ _ _ _ h) (fun l24 u26 => (sb_nilW (v := (l24.2.2.1, l24.2.2.2, u26)) rfl))))))) (sb_nilW (v := (s5.1, s5.2.1, s5.2.2)) rfl)) (fun s7 => (sb_nilWL (v := (s7.1, s7.2.1, s7.2.2)) rfl)))))  (fun s5 => (sb_at (δ' := [sDk s5.1, .fz ((eDi PyData.int (eP2 PyData.int (eLi eD))) model), .fz (PyData.int blocks), .ow ((eLi PyData.int) s5.2.1), .ow ((eDi PyData.int (eLi PyData.int)) s5.2.2), .no, .no, .no]) (sb_retV rfl rfl))))))))))))))
/-! _law_laid -/
def N_l_laid (heads : Int) (blocks : Int) (model : (List (Int × (Int × (List D))))) (given : (List (Int × (List Int)))) : Option (Int × Int × (List Int)) := (repQ ([0]) (((7 * heads) + (5 * blocks)) + 82)).bind fun v1 => (forN (fun x4 s3 => ((dGet model x4)).bind fun v5 => (((fun ds => List.mapM asI ds) (if (decide (v5.1 = 1)) then v5.2 else []))).bind fun c7 => ((List.mapM (asP2 asI asI) (if (decide (v5.1 = 2)) then v5.2 else []))).bind fun v8 => (forN (fun x10 s9 => ((extQ s9.2 ([x10.1, x10.2]))).bind fun p11 => ((atI s9.1 ((7 * x10.2) - 6))).bind fun v12 => (setQ s9.1 ((7 * x10.2) - 6) (v12 + 1)).bind fun u13 => (some (u13, p11))) v8 (s3, c7)).bind fun s9 => (setQ s9.1 ((7 * x4) - 7) v5.1).bind fun u14 => (setQ u14 ((7 * x4) - 5) (lenN s9.2)).bind fun u15 => (setQ u15 ((7 * x4) - 4) s9.2.sum).bind fun u16 => ((dGet given x4)).bind fun v17 => (forN (fun x19 s18 => (setQ s18 (((7 * x4) - 3) + x19.1) x19.2).bind fun u20 => (setQ u20 (((7 * heads) + x19.2) - 1) 1).bind fun u21 => (forN (fun x23 s22 => (setQ s22 (((((7 * heads) + blocks) + (4 * x19.2)) - 4) + x23.1) x23.2).bind fun u24 => (some u24)) (enumN (cutL s9.2 (some (4 * x19.1)) (some ((4 * x19.1) + 4)))) u21).bind fun s22 => (some s22)) (enumN v17) u16).bind fun s18 => (some s18)) (model.map (·.1)) v1).bind fun s3 => (some (heads, blocks, s3))
theorem n_l_laid (heads : Int) (blocks : Int) (model : (List (Int × (Int × (List D))))) (given : (List (Int × (List Int)))) : ∀ v, N_l_laid heads blocks model given = some v → φ__law_laid [.fz (PyData.int heads), .fz (PyData.int blocks), .fz ((eDi PyData.int (eP2 PyData.int (eLi eD))) model), .fz ((eDi PyData.int (eLi PyData.int)) given)] = some (((eP3 PyData.int PyData.int (eTu PyData.int)) v), [.fz (PyData.int heads), .fz (PyData.int blocks), .fz ((eDi PyData.int (eP2 PyData.int (eLi eD))) model), .fz ((eDi PyData.int (eLi PyData.int)) given)]) := by
  exact fn_n (sb_at (δ' := [.fz (PyData.int heads), .fz (PyData.int blocks), .fz ((eDi PyData.int (eP2 PyData.int (eLi eD))) model), .fz ((eDi PyData.int (eLi PyData.int)) given), .no, .no, .no, .no, .no, .no, .no, .no, .no, .no, .no]) (sb_ownN (vp_2q (q := repQ ([0]) (((7 * heads) + (5 * blocks)) + 82)) (e := (eLi PyData.int)) ((vp_lst (ap_cons (vp_con : VP _ _ (.int 0)) ap_nil)) : VP _ _ ((eLi PyData.int) ([0]))) (vp_2 (vp_2 (vp_2 (vp_con : VP _ _ (.int 7)) (vp_var 0 rfl) (mulA_l _ _ rfl)) (vp_2 (vp_con : VP _ _ (.int 5)) (vp_var 1 rfl) (mulA_l _ _ rfl)) (addA_int _ _)) (vp_con : VP _ _ (.int 82)) (addA_int _ _)) (fun _ h => repN_d _ _ _ h)) (fun v1 => (sb_wip (sb_at (δ' := [.fz (PyData.int heads), .fz (PyData.int blocks), .fz ((eDi PyData.int (eP2 PyData.int (eLi eD))) model), .fz ((eDi PyData.int (eLi PyData.int)) given), .ow ((eLi PyData.int) v1), .no, .no, .no, .no, .no, .no, .no, .no, .no, .no]) (sb_for (e := PyData.int) (st := fun s3 => [.fz (PyData.int heads), .fz (PyData.int blocks), .fz ((eDi PyData.int (eP2 PyData.int (eLi eD))) model), .fz ((eDi PyData.int (eLi PyData.int)) given), .ow ((eLi PyData.int) s3), .no, .no, .no, .no, .no, .no, .no, .no, .no, .no]) (s0 := v1) (ip_it (vp_var 2 rfl) (itD_d _)) (fun x4 s3 => (bt_nm 5)) (fun x4 s3 => (sb_at (δ' := [.fz (PyData.int heads), .fz (PyData.int blocks), .fz ((eDi PyData.int (eP2 PyData.int (eLi eD))) model), .fz ((eDi PyData.int (eLi PyData.int)) given), .ow ((eLi PyData.int) s3), .fz (PyData.int x4), .no, .no, .no, .no, .no, .no, .no, .no, .no]) (sb_asgN (vp_2q (q := (dGet model x4)) (e := (eP2 PyData.int (eLi eD))) (vp_var 2 rfl) (vp_var 5 rfl) (fun _ h => ixD_d kgI _ _ _ h)) (fun v5 => (bt_tup (bts_cons (bt_nm 7) (bts_cons (bt_nm 8) bts_nil)))) (fun v5 => (sb_at (δ' := [.fz (PyData.int heads), .fz (PyData.int blocks), .fz ((eDi PyData.int (eP2 PyData.int (eLi eD))) model), .fz ((eDi PyData.int (eLi PyData.int)) given), .ow ((eLi PyData.int) s3), .fz (PyData.int x4), .no, .fz (PyData.int v5.1), .fz ((eLi eD) v5.2), .no, .no, .no, .no, .no, .no]) (sb_ownN (vp_coq (q := (fun ds => List.mapM asI ds) (if (decide (v5.1 = 1)) then v5.2 else [])) (e := (eLi PyData.int)) (vp_ite (e := (eLi eD)) (tp_v (vp_2 (vp_var 7 rfl) (vp_con : VP _ _ (.int 1)) (eq_g gI _ _))) (vp_A (ap_cons (vp_var 8 rfl) ap_nil) (listL_d _)) ((vp_lst ap_nil) : VP _ _ ((eLi eD) ([])))) ((dnL (asI_d)) _)) (fun c7 => (sb_wip (sb_at (δ' := [.fz (PyData.int heads), .fz (PyData.int blocks), .fz ((eDi PyData.int (eP2 PyData.int (eLi eD))) model), .fz ((eDi PyData.int (eLi PyData.int)) given), .ow ((eLi PyData.int) s3), .fz (PyData.int x4), .ow ((eLi PyData.int) c7), .fz (PyData.int v5.1), .fz ((eLi eD) v5.2), .no, .no, .no, .no, .no, .no]) (sb_forI (in_itq (q := (List.mapM (asP2 asI asI) (if (decide (v5.1 = 2)) then v5.2 else []))) (z := fun v => List.map (eP2 PyData.int PyData.int) v) (vp_ite (e := (eLi eD)) (tp_v (vp_2 (vp_var 7 rfl) (vp_con : VP _ _ (.int 2)) (eq_g gI _ _))) (vp_var 8 rfl) ((vp_lst ap_nil) : VP _ _ ((eLi eD) ([])))) (fun _ h => itLn_d (asP2_d asI_d asI_d) _ _ h)) (fun v8 => (sb_for (e := (eP2 PyData.int PyData.int)) (st := fun s9 => [.fz (PyData.int heads), .fz (PyData.int blocks), .fz ((eDi PyData.int (eP2 PyData.int (eLi eD))) model), .fz ((eDi PyData.int (eLi PyData.int)) given), .ow ((eLi PyData.int) s9.1), .fz (PyData.int x4), .ow ((eLi PyData.int) s9.2), .fz (PyData.int v5.1), .fz ((eLi eD) v5.2), .no, .no, .no, .no, .no, .no]) (s0 := (s3, c7)) ip_at (fun x10 s9 => (bt_tup (bts_cons (bt_nm 9) (bts_cons (bt_nm 10) bts_nil)))) (fun x10 s9 => (sb_at (δ' := [.fz (PyData.int heads), .fz (PyData.int blocks), .fz ((eDi PyData.int (eP2 PyData.int (eLi eD))) model), .fz ((eDi PyData.int (eLi PyData.int)) given), .ow ((eLi PyData.int) s9.1), .fz (PyData.int x4), .ow ((eLi PyData.int) s9.2), .fz (PyData.int v5.1), .fz ((eLi eD) v5.2), .fz (PyData.int x10.1), .fz (PyData.int x10.2), .no, .no, .no, .no]) (sb_exp (vp_ext 6 (e := PyData.int) ((vp_lst (ap_cons (vp_var 9 rfl) (ap_cons (vp_var 10 rfl) ap_nil))) : VP _ _ ((eLi PyData.int) ([x10.1, x10.2])))) (fun p11 => (sb_at (δ' := [.fz (PyData.int heads), .fz (PyData.int blocks), .fz ((eDi PyData.int (eP2 PyData.int (eLi eD))) model), .fz ((eDi PyData.int (eLi PyData.int)) given), .ow ((eLi PyData.int) s9.1), .fz (PyData.int x4), .ow ((eLi PyData.int) p11), .fz (PyData.int v5.1), .fz ((eLi eD) v5.2), .fz (PyData.int x10.1), .fz (PyData.int x10.2), .no, .no, .no, .no]) (sb_putV (e := fun _ => (eLi PyData.int)) (vn_2 (an_np (vp_2q (q := (atI s9.1 ((7 * x10.2) - 6))) (e := PyData.int) (vp_rd 4 rfl : VP _ _ ((eLi PyData.int) s9.1)) (vp_2 (vp_2 (vp_con : VP _ _ (.int 7)) (vp_var 10 rfl) (mulA_l _ _ rfl)) (vp_con : VP _ _ (.int 6)) (subD_int _ _)) (fun _ h => ixL_d _ _ _ h)) (fun v12 => (ap_cons (vp_con : VP _ _ (.int 1)) ap_nil))) (fun v12 => g2x (addA_int _ _))) (fun v12 => (vp_2 (vp_2 (vp_con : VP _ _ (.int 7)) (vp_var 10 rfl) (mulA_l _ _ rfl)) (vp_con : VP _ _ (.int 6)) (subD_int _ _))) (fun _ => rfl) (fun _ _ h => putL_d _ _ _ _ h) (fun v12 u13 => (sb_nilWL (v := (u13, p11)) rfl))))))))  (fun s9 => (sb_at (δ' := [.fz (PyData.int heads), .fz (PyData.int blocks), .fz ((eDi PyData.int (eP2 PyData.int (eLi eD))) model), .fz ((eDi PyData.int (eLi PyData.int)) given), .ow ((eLi PyData.int) s9.1), .fz (PyData.int x4), .ow ((eLi PyData.int) s9.2), .fz (PyData.int v5.1), .fz ((eLi eD) v5.2), .no, .no, .no, .no, .no, .no]) (sb_put (q := (setQ s9.1 ((7 * x4) - 7) v5.1)) (e := (eLi PyData.int)) (vp_var 7 rfl) (vp_2 (vp_2 (vp_con : VP _ _ (.int 7)) (vp_var 5 rfl) (mulA_l _ _ rfl)) (vp_con : VP _ _ (.int 7)) (subD_int _ _)) rfl (fun _ h => putL_d _ _ _ _ h) (fun u14 => (sb_at (δ' := [.fz (PyData.int heads), .fz (PyData.int blocks), .fz ((eDi PyData.int (eP2 PyData.int (eLi eD))) model), .fz ((eDi PyData.int (eLi PyData.int)) given), .ow ((eLi PyData.int) u14), .fz (PyData.int x4), .ow ((eLi PyData.int) s9.2), .fz (PyData.int v5.1), .fz ((eLi eD) v5.2), .no, .no, .no, .no, .no, .no]) (sb_put (q := (setQ u14 ((7 * x4) - 5) (lenN s9.2))) (e := (eLi PyData.int)) (vp_A (ap_cons (vp_rd 6 rfl : VP _ _ ((eLi PyData.int) s9.2)) ap_nil) (lenL_d _)) (vp_2 (vp_2 (vp_con : VP _ _ (.int 7)) (vp_var 5 rfl) (mulA_l _ _ rfl)) (vp_con : VP _ _ (.int 5)) (subD_int _ _)) rfl (fun _ h => putL_d _ _ _ _ h) (fun u15 => (sb_at (δ' := [.fz (PyData.int heads), .fz (PyData.int blocks), .fz ((eDi PyData.int (eP2 PyData.int (eLi eD))) model), .fz ((eDi PyData.int (eLi PyData.int)) given), .ow ((eLi PyData.int) u15), .fz (PyData.int x4), .ow ((eLi PyData.int) s9.2), .fz (PyData.int v5.1), .fz ((eLi eD) v5.2), .no, .no, .no, .no, .no, .no]) (sb_put (q := (setQ u15 ((7 * x4) - 4) s9.2.sum)) (e := (eLi PyData.int)) (vp_A (ap_cons (vp_rd 6 rfl : VP _ _ ((eLi PyData.int) s9.2)) ap_nil) (sum_d _)) (vp_2 (vp_2 (vp_con : VP _ _ (.int 7)) (vp_var 5 rfl) (mulA_l _ _ rfl)) (vp_con : VP _ _ (.int 4)) (subD_int _ _)) rfl (fun _ h => putL_d _ _ _ _ h) (fun u16 => (sb_wip (sb_at (δ' := [.fz (PyData.int heads), .fz (PyData.int blocks), .fz ((eDi PyData.int (eP2 PyData.int (eLi eD))) model), .fz ((eDi PyData.int (eLi PyData.int)) given), .ow ((eLi PyData.int) u16), .fz (PyData.int x4), .ow ((eLi PyData.int) s9.2), .fz (PyData.int v5.1), .fz ((eLi eD) v5.2), .no, .no, .no, .no, .no, .no]) (sb_forI (in_enum (vp_2q (q := (dGet given x4)) (e := (eLi PyData.int)) (vp_var 3 rfl) (vp_var 5 rfl) (fun _ h => ixD_d kgI _ _ _ h)) (fun _ => rfl)) (fun v17 => (sb_for (e := (eP2 PyData.int PyData.int)) (st := fun s18 => [.fz (PyData.int heads), .fz (PyData.int blocks), .fz ((eDi PyData.int (eP2 PyData.int (eLi eD))) model), .fz ((eDi PyData.int (eLi PyData.int)) given), .ow ((eLi PyData.int) s18), .fz (PyData.int x4), .ow ((eLi PyData.int) s9.2), .fz (PyData.int v5.1), .fz ((eLi eD) v5.2), .no, .no, .no, .no, .no, .no]) (s0 := u16) ip_at (fun x19 s18 => (bt_tup (bts_cons (bt_nm 11) (bts_cons (bt_nm 12) bts_nil)))) (fun x19 s18 => (sb_at (δ' := [.fz (PyData.int heads), .fz (PyData.int blocks), .fz ((eDi PyData.int (eP2 PyData.int (eLi eD))) model), .fz ((eDi PyData.int (eLi PyData.int)) given), .ow ((eLi PyData.int) s18), .fz (PyData.int x4), .ow ((eLi PyData.int) s9.2), .fz (PyData.int v5.1), .fz ((eLi eD) v5.2), .no, .no, .fz (PyData.int x19.1), .fz (PyData.int x19.2), .no, .no]) (sb_put (q := (setQ s18 (((7 * x4) - 3) + x19.1) x19.2)) (e := (eLi PyData.int)) (vp_var 12 rfl) (vp_2 (vp_2 (vp_2 (vp_con : VP _ _ (.int 7)) (vp_var 5 rfl) (mulA_l _ _ rfl)) (vp_con : VP _ _ (.int 3)) (subD_int _ _)) (vp_var 11 rfl) (addA_int _ _)) rfl (fun _ h => putL_d _ _ _ _ h) (fun u20 => (sb_at (δ' := [.fz (PyData.int heads), .fz (PyData.int blocks), .fz ((eDi PyData.int (eP2 PyData.int (eLi eD))) model), .fz ((eDi PyData.int (eLi PyData.int)) given), .ow ((eLi PyData.int) u20), .fz (PyData.int x4), .ow ((eLi PyData.int) s9.2), .fz (PyData.int v5.1), .fz ((eLi eD) v5.2), .no, .no, .fz (PyData.int x19.1), .fz (PyData.int x19.2), .no, .no]) (sb_put (q := (setQ u20 (((7 * heads) + x19.2) - 1) 1)) (e := (eLi PyData.int)) (vp_con : VP _ _ (.int 1)) (vp_2 (vp_2 (vp_2 (vp_con : VP _ _ (.int 7)) (vp_var 0 rfl) (mulA_l _ _ rfl)) (vp_var 12 rfl) (addA_int _ _)) (vp_con : VP _ _ (.int 1)) (subD_int _ _)) rfl (fun _ h => putL_d _ _ _ _ h) (fun u21 => (sb_wip (sb_at (δ' := [.fz (PyData.int heads), .fz (PyData.int blocks), .fz ((eDi PyData.int (eP2 PyData.int (eLi eD))) model), .fz ((eDi PyData.int (eLi PyData.int)) given), .ow ((eLi PyData.int) u21), .fz (PyData.int x4), .ow ((eLi PyData.int) s9.2), .fz (PyData.int v5.1), .fz ((eLi eD) v5.2), .no, .no, .fz (PyData.int x19.1), .fz (PyData.int x19.2), .no, .no]) (sb_for (e := (eP2 PyData.int PyData.int)) (st := fun s22 => [.fz (PyData.int heads), .fz (PyData.int blocks), .fz ((eDi PyData.int (eP2 PyData.int (eLi eD))) model), .fz ((eDi PyData.int (eLi PyData.int)) given), .ow ((eLi PyData.int) s22), .fz (PyData.int x4), .ow ((eLi PyData.int) s9.2), .fz (PyData.int v5.1), .fz ((eLi eD) v5.2), .no, .no, .fz (PyData.int x19.1), .fz (PyData.int x19.2), .no, .no]) (s0 := u21) (ip_enum (vp_3 (vp_rd 6 rfl : VP _ _ ((eLi PyData.int) s9.2)) (op_some (vp_2 (vp_con : VP _ _ (.int 4)) (vp_var 11 rfl) (mulA_l _ _ rfl))) (op_some (vp_2 (vp_2 (vp_con : VP _ _ (.int 4)) (vp_var 11 rfl) (mulA_l _ _ rfl)) (vp_con : VP _ _ (.int 4)) (addA_int _ _))) (slL_d _ _ _))) (fun x23 s22 => (bt_tup (bts_cons (bt_nm 13) (bts_cons (bt_nm 14) bts_nil)))) (fun x23 s22 => (sb_at (δ' := [.fz (PyData.int heads), .fz (PyData.int blocks), .fz ((eDi PyData.int (eP2 PyData.int (eLi eD))) model), .fz ((eDi PyData.int (eLi PyData.int)) given), .ow ((eLi PyData.int) s22), .fz (PyData.int x4), .ow ((eLi PyData.int) s9.2), .fz (PyData.int v5.1), .fz ((eLi eD) v5.2), .no, .no, .fz (PyData.int x19.1), .fz (PyData.int x19.2), .fz (PyData.int x23.1), .fz (PyData.int x23.2)]) (sb_put (q := (setQ s22 (((((7 * heads) + blocks) + (4 * x19.2)) - 4) + x23.1) x23.2)) (e := (eLi PyData.int)) (vp_var 14 rfl) (vp_2 (vp_2 (vp_2 (vp_2 (vp_2 (vp_con : VP _ _ (.int 7)) (vp_var 0 rfl) (mulA_l _ _ rfl)) (vp_var 1 rfl) (addA_int _ _)) (vp_2 (vp_con : VP _ _ (.int 4)) (vp_var 12 rfl) (mulA_l _ _ rfl)) (addA_int _ _)) (vp_con : VP _ _ (.int 4)) (subD_int _ _)) (vp_var 13 rfl) (addA_int _ _)) rfl (fun _ h => putL_d _ _ _ _ h) (fun u24 => (sb_nilWL (v := u24) rfl)))))  (fun s22 => (sb_nilWL (v := s22) rfl))))))))))))  (fun s18 => (sb_nilWL (v := s18) rfl)))))))))))))))))))))))))))))  (fun s3 => (sb_at (δ' := [.fz (PyData.int heads), .fz (PyData.int blocks), .fz ((eDi PyData.int (eP2 PyData.int (eLi eD))) model), .fz ((eDi PyData.int (eLi PyData.int)) given), .ow ((eLi PyData.int) s3), .no, .no, .no, .no, .no, .no, .no, .no, .no, .no]) (sb_ret ((vp_tup (ap_cons (vp_var 0 rfl) (ap_cons (vp_var 1 rfl) (ap_cons (vp_A (ap_cons (vp_rd 4 rfl : VP _ _ ((eLi PyData.int) s3)) ap_nil) (tupL_d _)) ap_nil)))) : VP _ _ ((eP3 PyData.int PyData.int (eTu PyData.int)) (heads, blocks, s3))) rfl)))))))))
/-! _law_right -/
def N_l_right (store : (Int × Int × (List Int))) (model : (List (Int × (Int × (List D))))) (head : Int) : Option Bool := ((dGet model head)).bind fun v1 => if (decide (v1.1 = 2)) then ((((((N_names_in store head)).bind fun r2 => ((reprQ ((eTu (eP2 PyData.int PyData.int)) r2))).map fun v4 => (r2, v4))).bind fun b3 => ((reprQ ((eTu eD) v1.2))).map fun v5 => (b3, v5))).bind fun b6 => (some (decide (b6.1.2 = b6.2))) else ((((((N_worths_in store head)).bind fun r7 => ((reprQ ((eTu PyData.int) r7))).map fun v9 => (r7, v9))).bind fun b8 => ((reprQ ((eTu eD) v1.2))).map fun v10 => (b8, v10))).bind fun b11 => (some (decide (b11.1.2 = b11.2)))
theorem n_l_right (store : (Int × Int × (List Int))) (model : (List (Int × (Int × (List D))))) (head : Int) : ∀ v, N_l_right store model head = some v → φ__law_right [.fz ((eP3 PyData.int PyData.int (eTu PyData.int)) store), .fz ((eDi PyData.int (eP2 PyData.int (eLi eD))) model), .fz (PyData.int head)] = some ((PyData.bool v), [.fz ((eP3 PyData.int PyData.int (eTu PyData.int)) store), .fz ((eDi PyData.int (eP2 PyData.int (eLi eD))) model), .fz (PyData.int head)]) := by
  exact fn_n (sb_at (δ' := [.fz ((eP3 PyData.int PyData.int (eTu PyData.int)) store), .fz ((eDi PyData.int (eP2 PyData.int (eLi eD))) model), .fz (PyData.int head), .no, .no]) (sb_asgN (vp_2q (q := (dGet model head)) (e := (eP2 PyData.int (eLi eD))) (vp_var 1 rfl) (vp_var 2 rfl) (fun _ h => ixD_d kgI _ _ _ h)) (fun v1 => (bt_tup (bts_cons (bt_nm 3) (bts_cons (bt_nm 4) bts_nil)))) (fun v1 => (sb_at (δ' := [.fz ((eP3 PyData.int PyData.int (eTu PyData.int)) store), .fz ((eDi PyData.int (eP2 PyData.int (eLi eD))) model), .fz (PyData.int head), .fz (PyData.int v1.1), .fz ((eLi eD) v1.2)]) (sb_if (tp_v (vp_2 (vp_var 3 rfl) (vp_con : VP _ _ (.int 2)) (eq_g gI _ _))) (sb_assoc (sb_at (δ' := [.fz ((eP3 PyData.int PyData.int (eTu PyData.int)) store), .fz ((eDi PyData.int (eP2 PyData.int (eLi eD))) model), .fz (PyData.int head), .fz (PyData.int v1.1), .fz ((eLi eD) v1.2)]) (sb_retN (vn_2 (an_nn (vn_Aq (e := fun _ => PyData.str) (an_np (vn_call (kp_cons (vp_var 0 rfl) (kp_cons (vp_var 2 rfl) kp_nil)) (n_names_in _ _ )) (fun r2 => ap_nil)) (fun r2 _ h => reprQ_d _ _ h)) (fun b3 => (an_np (vp_Aq (q := (reprQ ((eTu eD) v1.2))) (e := PyData.str) (ap_cons (vp_A (ap_cons (vp_var 4 rfl) ap_nil) (tupL_d _)) ap_nil) (fun _ h => reprQ_d _ _ h)) (fun v5 => ap_nil)))) (fun b6 => g2x (eq_g gS _ _))) (fun _ => rfl)))) (sb_nilS (sb_at (δ' := [.fz ((eP3 PyData.int PyData.int (eTu PyData.int)) store), .fz ((eDi PyData.int (eP2 PyData.int (eLi eD))) model), .fz (PyData.int head), .fz (PyData.int v1.1), .fz ((eLi eD) v1.2)]) (sb_retN (vn_2 (an_nn (vn_Aq (e := fun _ => PyData.str) (an_np (vn_call (kp_cons (vp_var 0 rfl) (kp_cons (vp_var 2 rfl) kp_nil)) (n_worths_in _ _ )) (fun r7 => ap_nil)) (fun r7 _ h => reprQ_d _ _ h)) (fun b8 => (an_np (vp_Aq (q := (reprQ ((eTu eD) v1.2))) (e := PyData.str) (ap_cons (vp_A (ap_cons (vp_var 4 rfl) ap_nil) (tupL_d _)) ap_nil) (fun _ h => reprQ_d _ _ h)) (fun v10 => ap_nil)))) (fun b11 => g2x (eq_g gS _ _))) (fun _ => rfl)))))))))
/-! law -/
def N_law (script : List Int) : Option Bool := (forN (fun x3 s2 => ((N_l_shape s2.1)).bind fun r4 => ((N_l_model r4.2 r4.1.1 r4.1.2)).bind fun r5 => ((((N_l_given r5.2 r5.1 r4.1.2)).bind fun r7 => (N_l_laid r4.1.1 r4.1.2 r5.1 r7.1).map fun v9 => (r7, v9))).bind fun r8 => ((((((sortK r5.1)).bind fun v11 => (mapC (fun x12 => (r8.2, r5.1, x12)) v11).map fun v15 => (v11, v15))).bind fun l14 => (catQ s2.2 l14.2).map fun v17 => (l14, v17))).bind fun b16 => (some (r8.1.2, b16.2))) (rngN 0 (2 : Int).toNat) ((deckN script), [])).bind fun s2 => (catQ s2.2 s2.2.reverse).bind fun v19 => (forR (fun x21 s20 => ((N_l_right x21.1 x21.2.1 x21.2.2)).bind fun r22 => if (!r22) then (some (Sum.inr false)) else (some (Sum.inl ()))) v19 ()).bind (Sum.elim (fun s20 => (some true)) (fun v24 => (some v24)))
theorem n_law (script : List Int) : ∀ v, N_law script = some v → φ_law [.scr script] = some ((PyData.bool v), [.scr script]) := by
  exact fn_n (sb_at (δ' := [.scr script, .no, .no, .no, .no, .no, .no, .no, .no]) (sb_deck (sb_at (δ' := [.scr script, sDk (deckN script), .no, .no, .no, .no, .no, .no, .no]) (sb_set ((vp_lst ap_nil) : VP _ _ ((eLi (eP3 (eP3 PyData.int PyData.int (eTu PyData.int)) (eDi PyData.int (eP2 PyData.int (eLi eD))) PyData.int)) ([]))) (sb_wip (sb_at (δ' := [.scr script, sDk (deckN script), .fz ((eLi (eP3 (eP3 PyData.int PyData.int (eTu PyData.int)) (eDi PyData.int (eP2 PyData.int (eLi eD))) PyData.int)) ([])), .no, .no, .no, .no, .no, .no]) (sb_for (e := PyData.int) (st := fun s2 => [.scr script, sDk s2.1, .fz ((eLi (eP3 (eP3 PyData.int PyData.int (eTu PyData.int)) (eDi PyData.int (eP2 PyData.int (eLi eD))) PyData.int)) s2.2), .no, .no, .no, .no, .no, .no]) (s0 := ((deckN script), [])) (ip_rngP (ap_cons (vp_con : VP _ _ (.int 2)) ap_nil)) (fun x3 s2 => (bt_nm 3)) (fun x3 s2 => (sb_at (δ' := [.scr script, sDk s2.1, .fz ((eLi (eP3 (eP3 PyData.int PyData.int (eTu PyData.int)) (eDi PyData.int (eP2 PyData.int (eLi eD))) PyData.int)) s2.2), .fz (PyData.int x3), .no, .no, .no, .no, .no]) (sb_asgN (vn_call (kp_io 1 kp_nil) (n_l_shape _ )) (fun r4 => (bt_tup (bts_cons (bt_nm 6) (bts_cons (bt_nm 7) bts_nil)))) (fun r4 => (sb_at (δ' := [.scr script, sDk r4.2, .fz ((eLi (eP3 (eP3 PyData.int PyData.int (eTu PyData.int)) (eDi PyData.int (eP2 PyData.int (eLi eD))) PyData.int)) s2.2), .fz (PyData.int x3), .no, .no, .fz (PyData.int r4.1.1), .fz (PyData.int r4.1.2), .no]) (sb_setN (vn_call (kp_io 1 (kp_cons (vp_var 6 rfl) (kp_cons (vp_var 7 rfl) kp_nil))) (n_l_model _ _ _ )) (fun r5 => (sb_at (δ' := [.scr script, sDk r5.2, .fz ((eLi (eP3 (eP3 PyData.int PyData.int (eTu PyData.int)) (eDi PyData.int (eP2 PyData.int (eLi eD))) PyData.int)) s2.2), .fz (PyData.int x3), .fz ((eDi PyData.int (eP2 PyData.int (eLi eD))) r5.1), .no, .fz (PyData.int r4.1.1), .fz (PyData.int r4.1.2), .no]) (sb_setN (vn_callN (kn_pn (vp_var 6 rfl) (kn_pn (vp_var 7 rfl) (kn_pn (vp_var 4 rfl) (kn_np (vn_call (kp_io 1 (kp_cons (vp_var 4 rfl) (kp_cons (vp_var 7 rfl) kp_nil))) (n_l_given _ _ _ )) (fun r7 => kp_nil))))) (fun _ => n_l_laid _ _ _ _ )) (fun r8 => (sb_at (δ' := [.scr script, sDk r8.1.2, .fz ((eLi (eP3 (eP3 PyData.int PyData.int (eTu PyData.int)) (eDi PyData.int (eP2 PyData.int (eLi eD))) PyData.int)) s2.2), .fz (PyData.int x3), .fz ((eDi PyData.int (eP2 PyData.int (eLi eD))) r5.1), .fz ((eP3 PyData.int PyData.int (eTu PyData.int)) r8.2), .fz (PyData.int r4.1.1), .fz (PyData.int r4.1.2), .no]) (sb_setN (vn_2q (e := fun _ => (eLi (eP3 (eP3 PyData.int PyData.int (eTu PyData.int)) (eDi PyData.int (eP2 PyData.int (eLi eD))) PyData.int))) (an_pn (vp_var 2 rfl) (an_np (vn_lcI (in_it (vp_Aq (q := (sortK r5.1)) (e := (eLi PyData.int)) (ap_cons (vp_var 4 rfl) ap_nil) (fun _ h => sortK_d _ _ h)) (fun _ => itL_d _)) (fun v11 => (vn_lcY (e := PyData.int) (e' := (eP3 (eP3 PyData.int PyData.int (eTu PyData.int)) (eDi PyData.int (eP2 PyData.int (eLi eD))) PyData.int)) ip_at (fun x12 => (bt_nm 8)) (fun x12 => ((vp_tup (ap_cons (vp_var 5 rfl) (ap_cons (vp_var 4 rfl) (ap_cons (vp_var 8 rfl) ap_nil)))) : VP _ _ ((eP3 (eP3 PyData.int PyData.int (eTu PyData.int)) (eDi PyData.int (eP2 PyData.int (eLi eD))) PyData.int) (r8.2, r5.1, x12))))))) (fun l14 => ap_nil))) (fun l14 _ h => g2x (catL_d _ _ _ h))) (fun b16 => (sb_nilWL (v := (r8.1.2, b16.2)) rfl))))))))))))))  (fun s2 => (sb_wip (sb_at (δ' := [.scr script, sDk s2.1, .fz ((eLi (eP3 (eP3 PyData.int PyData.int (eTu PyData.int)) (eDi PyData.int (eP2 PyData.int (eLi eD))) PyData.int)) s2.2), .no, .no, .no, .no, .no, .no]) (sb_forI (in_it (vp_2q (q := catQ s2.2 s2.2.reverse) (e := (eLi (eP3 (eP3 PyData.int PyData.int (eTu PyData.int)) (eDi PyData.int (eP2 PyData.int (eLi eD))) PyData.int))) (vp_var 2 rfl) (vp_1 (vp_var 2 rfl) (revL_d _)) (fun _ h => catL_d _ _ _ h)) (fun _ => itL_d _)) (fun v19 => (sb_forR (e := (eP3 (eP3 PyData.int PyData.int (eTu PyData.int)) (eDi PyData.int (eP2 PyData.int (eLi eD))) PyData.int)) (st := fun s20 => [.scr script, sDk s2.1, .fz ((eLi (eP3 (eP3 PyData.int PyData.int (eTu PyData.int)) (eDi PyData.int (eP2 PyData.int (eLi eD))) PyData.int)) s2.2), .no, .no, .no, .no, .no, .no]) (s0 := ()) (rv := fun v23 => (PyData.bool v23)) (ro := fun v23 => [.scr script]) ip_at (fun x21 s20 => (bt_tup (bts_cons (bt_nm 5) (bts_cons (bt_nm 4) (bts_cons (bt_nm 8) bts_nil))))) (fun x21 s20 => (sb_at (δ' := [.scr script, sDk s2.1, .fz ((eLi (eP3 (eP3 PyData.int PyData.int (eTu PyData.int)) (eDi PyData.int (eP2 PyData.int (eLi eD))) PyData.int)) s2.2), .no, .fz ((eDi PyData.int (eP2 PyData.int (eLi eD))) x21.2.1), .fz ((eP3 PyData.int PyData.int (eTu PyData.int)) x21.1), .no, .no, .fz (PyData.int x21.2.2)]) (sb_ifN (tn_not (tn_v (vn_call (kp_cons (vp_var 5 rfl) (kp_cons (vp_var 4 rfl) (kp_cons (vp_var 8 rfl) kp_nil))) (n_l_right _ _ _ )) (fun _ => rfl))) (fun _ => rfl) (fun r22 => (sb_assoc (sb_at (δ' := [.scr script, sDk s2.1, .fz ((eLi (eP3 (eP3 PyData.int PyData.int (eTu PyData.int)) (eDi PyData.int (eP2 PyData.int (eLi eD))) PyData.int)) s2.2), .no, .fz ((eDi PyData.int (eP2 PyData.int (eLi eD))) x21.2.1), .fz ((eP3 PyData.int PyData.int (eTu PyData.int)) x21.1), .no, .no, .fz (PyData.int x21.2.2)]) (sb_ret (vp_con : VP _ _ (.bool false)) rfl)))) (fun r22 => (sb_nilS (sb_nilWL (v := (Sum.inl ())) rfl)))))) (fun _ => ⟨_, rfl, rfl⟩) (fun s20 => (sb_at (δ' := [.scr script, sDk s2.1, .fz ((eLi (eP3 (eP3 PyData.int PyData.int (eTu PyData.int)) (eDi PyData.int (eP2 PyData.int (eLi eD))) PyData.int)) s2.2), .no, .no, .no, .no, .no, .no]) (sb_ret (vp_con : VP _ _ (.bool true)) rfl))))))))))))))))
end K28

namespace K28
open PySem PySem.Spec PyProof.Rows L2 Z
variable {ι τ σ ρ : Type}
abbrev St := Int × Int × List Int
structure WF (st : St) : Prop where
  h1 : 2 ≤ st.1
  h2 : st.1 ≤ 8
  b1 : 3 ≤ st.2.1
  b2 : st.2.1 ≤ 12
  n : (st.2.2.length : Int) = 7 * st.1 + 5 * st.2.1 + 82
theorem pl_kind (h b x : Int) : N_place_of h b ((eP2 PyData.str eD) (("kind" : Str), PyData.int x)) = some (7 * (x - 1) + 0) := by rfl
theorem pl_length (h b x : Int) : N_place_of h b ((eP2 PyData.str eD) (("length" : Str), PyData.int x)) = some (7 * (x - 1) + 2) := by rfl
theorem pl_length' (h b x : Int) : N_place_of h b ((eP2 PyData.str PyData.int) (("length" : Str), x)) = some (7 * (x - 1) + 2) := by rfl
theorem pl_slot (h b x j : Int) : N_place_of h b ((eP3 PyData.str PyData.int PyData.int) (("slot" : Str), x, j)) = some (7 * (x - 1) + 4 + j) := by rfl
def cel (cs : List Int) (i : Int) : Int := cs.getD i.toNat 0
theorem at_cel (cs : List Int) (i : Int) (h0 : 0 ≤ i) (h1 : i < cs.length) : atI cs i = some (cel cs i) := by
  obtain ⟨c, e⟩ := atI_some cs i h0 h1
  rw [e]
  unfold cel
  rw [List.getD_eq_getElem?_getD, List.getElem?_eq_getElem c]
  rfl
theorem cell_ok {st : St} {w : D} {p : Int} (hp : N_place_of st.1 st.2.1 w = some p) (h0 : 0 ≤ p) (h1 : p < st.2.2.length) : N_cell_of st w = some (cel st.2.2 p) := by
  unfold N_cell_of
  rw [hp, Option.bind_some, at_cel _ _ h0 h1]
  rfl
def hK (st : St) (x : Int) : Int := cel st.2.2 (7 * (x - 1) + 0)
def hL (st : St) (x : Int) : Int := cel st.2.2 (7 * (x - 1) + 2)
def hS (st : St) (x j : Int) : Int := cel st.2.2 (7 * (x - 1) + 4 + j)
theorem row7 (cs : List Int) (n : Nat) (h : n + 7 ≤ cs.length) : (cs.drop n).take 7 = [cs.getD n 0, cs.getD (n + 1) 0, cs.getD (n + 2) 0, cs.getD (n + 3) 0, cs.getD (n + 4) 0, cs.getD (n + 5) 0, cs.getD (n + 6) 0] := by
  apply List.ext_getElem
  · simp; omega
  · intro i h1 h2
    have : i < 7 := h2
    rw [List.getElem_take, List.getElem_drop]
    match i, this with
    | 0, _ => simp [List.getD_eq_getElem?_getD, List.getElem?_eq_getElem (show n < cs.length by omega)]
    | 1, _ => simp [List.getD_eq_getElem?_getD, List.getElem?_eq_getElem (show n + 1 < cs.length by omega)]
    | 2, _ => simp [List.getD_eq_getElem?_getD, List.getElem?_eq_getElem (show n + 2 < cs.length by omega)]
    | 3, _ => simp [List.getD_eq_getElem?_getD, List.getElem?_eq_getElem (show n + 3 < cs.length by omega)]
    | 4, _ => simp [List.getD_eq_getElem?_getD, List.getElem?_eq_getElem (show n + 4 < cs.length by omega)]
    | 5, _ => simp [List.getD_eq_getElem?_getD, List.getElem?_eq_getElem (show n + 5 < cs.length by omega)]
    | 6, _ => simp [List.getD_eq_getElem?_getD, List.getElem?_eq_getElem (show n + 6 < cs.length by omega)]
theorem head_lit (a b c d e f g : Int) : ((addA ((eTu PyData.int) (cutL [a, b, c, d, e, f, g] none (some 4))) ((eP1 (eTu PyData.int)) (cutL [a, b, c, d, e, f, g] (some 4) none))).bind fun v2 => ((asP5 asI asI asI asI (asT asI)) v2).map fun c4 => (v2, c4)) = some (.tuple [.int a, .int b, .int c, .int d, .tuple [.int e, .int f, .int g]], a, b, c, d, [e, f, g]) := by rfl
def meas (k l x : Int) : Bool := decide ((k = 2 ∨ (k = 1 ∧ 2 < x)) ∧ 0 ≤ l ∧ l ≤ 12 ∧ (k = 2 → l % 2 = 0))
theorem kind_ok {st : St} (w : WF st) {x : Int} (h1 : 1 ≤ x) (h2 : x ≤ st.1) : N_cell_of st ((eP2 PyData.str eD) (("kind" : Str), PyData.int x)) = some (hK st x) := by
  obtain ⟨q1, q2, q3, q4, q5⟩ := w
  exact cell_ok (pl_kind _ _ _) (by omega) (by omega)
theorem len_ok {st : St} (w : WF st) {x : Int} (h1 : 1 ≤ x) (h2 : x ≤ st.1) : N_cell_of st ((eP2 PyData.str eD) (("length" : Str), PyData.int x)) = some (hL st x) := by
  obtain ⟨q1, q2, q3, q4, q5⟩ := w
  exact cell_ok (pl_length _ _ _) (by omega) (by omega)
theorem len_ok' {st : St} (w : WF st) {x : Int} (h1 : 1 ≤ x) (h2 : x ≤ st.1) : N_cell_of st ((eP2 PyData.str PyData.int) (("length" : Str), x)) = some (hL st x) := by
  obtain ⟨q1, q2, q3, q4, q5⟩ := w
  exact cell_ok (pl_length' _ _ _) (by omega) (by omega)
theorem slot_ok {st : St} (w : WF st) {x j : Int} (h1 : 1 ≤ x) (h2 : x ≤ st.1) (j0 : 0 ≤ j) (j1 : j < 3) : N_cell_of st ((eP3 PyData.str PyData.int PyData.int) (("slot" : Str), x, j)) = some (hS st x j) := by
  obtain ⟨q1, q2, q3, q4, q5⟩ := w
  exact cell_ok (pl_slot _ _ _ _) (by omega) (by omega)
theorem ismeas_ok {st : St} (w : WF st) {x : Int} (h1 : 1 ≤ x) (h2 : x ≤ st.1) : N_is_measured st (.int x) = some (meas (hK st x) (hL st x) x) := by
  unfold N_is_measured N_is_length
  rw [kind_ok w h1 h2, Option.bind_some, len_ok w h1 h2]
  generalize hK st x = k
  generalize hL st x = l
  simp only [asI, Option.map_some, Option.bind_some]
  unfold meas
  by_cases c2 : k = 2
  · simp [c2]
    by_cases a : 0 ≤ l <;> by_cases b : l ≤ 12 <;> by_cases c : l % 2 = 0 <;> simp [a, b, c]
  · by_cases c1 : k = 1
    · simp [c1]
      by_cases a : 0 ≤ l <;> by_cases b : l ≤ 12 <;> by_cases c : 2 < x <;> simp [a, b, c] <;> omega
    · simp [c1, c2]
def need (l x j : Int) : Bool := decide (x = 2 ∨ 4 * j < l)
def mayB (b x j s : Int) : Bool := decide ((x = 2 ∧ s = j + 1) ∨ (x ≠ 2 ∧ 4 ≤ s ∧ s ≤ b))
theorem need_ok {st : St} (w : WF st) {x : Int} (h1 : 1 ≤ x) (h2 : x ≤ st.1) (j : Int) : N_is_needed st x j = some (need (hL st x) x j) := by
  unfold N_is_needed need
  rw [len_ok' w h1 h2]
  by_cases c : x = 2
  · simp [c]
  · simp [c]
theorem may_ok (st : St) (x j s : Int) : N_may_hold st x j s = some (mayB st.2.1 x j s) := by
  unfold N_may_hold mayB
  by_cases c : x = 2
  · simp [c]
  · simp [c]
def hold (st : St) (x j : Int) : Bool := need (hL st x) x j && mayB st.2.1 x j (hS st x j)
def m3 (st : St) (x : Int) : List Int := if meas (hK st x) (hL st x) x then [0, 1, 2] else []
def hj (st : St) (x : Int) : List Int := (m3 st x).filter (hold st x)
theorem hj_le (st : St) (x : Int) : (hj st x).length ≤ 3 := by
  unfold hj m3
  split
  · exact List.length_filter_le _ _
  · simp
theorem heldby_ok {st : St} (w : WF st) {x : Int} (h1 : 1 ≤ x) (h2 : x ≤ st.1) : N_held_by st x = some ((hj st x).map fun j => (j, hS st x j)) := by
  unfold N_held_by
  rw [ismeas_ok w h1 h2, Option.bind_some]
  unfold hj m3
  cases meas (hK st x) (hL st x) x
  · rfl
  · simp only [if_true]
    have e : rngN 0 (3 : Int).toNat = [0, 1, 2] := rfl
    rw [e]
    have st1 : ∀ (j : Int) (s : List (Int × Int)), 0 ≤ j → j < 3 → s.length < 1000 → (((N_cell_of st ((eP3 PyData.str PyData.int PyData.int) (("slot" : Str), x, j)))).bind fun r6 => (((((N_is_needed st x j)).bind fun r8 => if r8 then (N_may_hold st x j r6) else some false)).bind fun b11 => if b11 then ((appQ s (j, r6))).bind fun p13 => (some p13) else (some s)).bind fun s12 => (some s12)) = some (s ++ if hold st x j then [(j, hS st x j)] else []) := by
      intro j s j0 j1 hs
      rw [slot_ok w h1 h2 j0 j1, Option.bind_some, need_ok w h1 h2, may_ok]
      unfold hold
      have ap : appQ s (j, hS st x j) = some (s ++ [(j, hS st x j)]) := if_pos (by have := sz_big; omega)
      rw [ap]
      cases need (hL st x) x j <;> cases mayB st.2.1 x j (hS st x j) <;> simp
    simp only [forN]
    rw [st1 0 [] (by omega) (by omega) (by simp), Option.bind_some, st1 1 _ (by omega) (by omega) (by split <;> simp), Option.bind_some, st1 2 _ (by omega) (by omega) (by split <;> split <;> simp), Option.bind_some]
    simp only [List.filter_cons, List.filter_nil]
    cases hold st x 0 <;> cases hold st x 1 <;> cases hold st x 2 <;> rfl
theorem forA {step : ι → List τ → Option (List τ)} (f : ι → List τ) : ∀ (xs : List ι) (s : List τ), s.length + (xs.flatMap f).length ≤ 1000000 → (∀ x ∈ xs, ∀ s, s.length + (f x).length ≤ 1000000 → step x s = some (s ++ f x)) → forN step xs s = some (s ++ xs.flatMap f)
  | [], s, _, _ => by simp [forN]
  | x :: xs, s, hb, st => by
    unfold forN
    rw [List.flatMap_cons, List.length_append] at hb
    rw [st x (List.mem_cons_self ..) s (by omega), Option.bind_some, forA f xs _ (by rw [List.length_append]; omega) fun y hy => st y (List.mem_cons_of_mem _ hy), List.flatMap_cons, List.append_assoc]
theorem flat_le (f : ι → List τ) (n : Nat) : ∀ (xs : List ι), (∀ x, (f x).length ≤ n) → (xs.flatMap f).length ≤ n * xs.length
  | [], _ => by simp
  | x :: xs, h => by
    have := flat_le f n xs h
    have := h x
    rw [List.flatMap_cons, List.length_append, List.length_cons, Nat.mul_add]
    omega
def hq (st : St) (x j : Int) : Int × Int × Int × Int := (x, j, hS st x j, max 0 (min 4 (hL st x - 4 * j)))
theorem flat_filter (f : Int → List τ) (p : τ → Int) (hp : ∀ y, ∀ t ∈ f y, p t = y) (x : Int) : ∀ xs : List Int, xs.Nodup → (xs.flatMap f).filter (fun t => decide (p t = x)) = if x ∈ xs then f x else []
  | [], _ => rfl
  | y :: ys, h => by
    rw [List.flatMap_cons, List.filter_append, flat_filter f p hp x ys (List.nodup_cons.mp h).2]
    have hy := (List.nodup_cons.mp h).1
    by_cases c : y = x
    · subst c
      rw [if_neg hy, List.append_nil, if_pos (List.mem_cons_self ..)]
      rw [List.filter_eq_self]
      intro t ht
      exact decide_eq_true (hp _ t ht)
    · have : (f y).filter (fun t => decide (p t = x)) = [] := by
        rw [List.filter_eq_nil_iff]
        intro t ht
        rw [hp _ t ht]
        simpa using c
      rw [this, List.nil_append]
      by_cases d : x ∈ ys
      · rw [if_pos d, if_pos (List.mem_cons_of_mem _ d)]
      · rw [if_neg d, if_neg]
        intro q
        rcases List.mem_cons.mp q with q | q
        · exact c q.symm
        · exact d q
def many (st : St) (x : Int) : Int := if x = 2 then 3 else (hL st x + 3) / 4
def whole (st : St) (x : Int) : Bool := meas (hK st x) (hL st x) x && decide ((hj st x).length = many st x)
theorem filt3 (l x : Int) (n h : Int → Bool) (h3 : ∀ j, h j = true → n j = true) (hn : ∀ j, n j = need l x j) (l0 : 0 ≤ l) (l1 : l ≤ 12) (m : Int) (hm : m = if x = 2 then 3 else (l + 3) / 4) : (decide ([0, 1, 2].filter h = ([0, 1, 2] : List Int).filter n)) = decide ((([0, 1, 2].filter h).length : Int) = m) := by
  have n0 := hn 0
  have n1 := hn 1
  have n2 := hn 2
  have a0 := h3 0
  have a1 := h3 1
  have a2 := h3 2
  have em : m = ((([0, 1, 2] : List Int).filter n).length : Int) := by
    simp only [List.filter_cons, List.filter_nil, n0, n1, n2, need]
    rw [hm]
    by_cases c : x = 2
    · simp [c]
    · simp only [c, false_or, if_false, decide_eq_true_eq]
      split <;> split <;> split <;> simp <;> omega
  rw [em]
  simp only [List.filter_cons, List.filter_nil]
  cases e0 : n 0 <;> cases e1 : n 1 <;> cases e2 : n 2 <;> cases f0 : h 0 <;> cases f1 : h 1 <;> cases f2 : h 2 <;> simp_all
def usd (st : St) (x j : Int) : Int := max 0 (min 4 (hL st x - 4 * j))
def plc (st : St) (b k : Int) : Int := 7 * st.1 + st.2.1 + 4 * b - 4 + k
def pcs (st : St) (x : Int) : List Int := (hj st x).flatMap fun j => (rngN 0 (usd st x j).toNat).map fun k => plc st (hS st x j) k
theorem usd_le (st : St) (x j : Int) : 0 ≤ usd st x j ∧ usd st x j ≤ 4 := by
  unfold usd
  omega
theorem hj_fact {st : St} (w : WF st) {x j : Int} (h : j ∈ hj st x) : (0 ≤ j ∧ j < 3) ∧ 1 ≤ hS st x j ∧ hS st x j ≤ st.2.1 := by
  have ⟨q1, q2, q3, q4, q5⟩ := w
  unfold hj at h
  obtain ⟨jm, hh⟩ := List.mem_filter.mp h
  have jj : j = 0 ∨ j = 1 ∨ j = 2 := by
    unfold m3 at jm
    split at jm
    · simpa using jm
    · simp at jm
  have hb := of_decide_eq_true (Bool.and_eq_true _ _ ▸ hh : _ ∧ _).2
  omega
theorem pcs_len (st : St) (x : Int) : (pcs st x).length ≤ 12 := by
  have h := flat_le (fun j => (rngN 0 (usd st x j).toNat).map fun k => plc st (hS st x j) k) 4 (hj st x) (fun j => by
    rw [List.length_map, len_rngN]
    have := usd_le st x j
    omega)
  have := hj_le st x
  unfold pcs
  omega
theorem pcs_mem {st : St} (w : WF st) {x p : Int} (h : p ∈ pcs st x) : 0 ≤ p ∧ p < st.2.2.length := by
  have ⟨q1, q2, q3, q4, q5⟩ := w
  unfold pcs at h
  obtain ⟨j, hj', h⟩ := List.mem_flatMap.mp h
  obtain ⟨k, hk, rfl⟩ := List.mem_map.mp h
  have a := hj_fact w hj'
  have b := mem_rngN hk
  have c := usd_le st x j
  unfold plc
  omega
theorem pl_cell (h b x j : Int) : N_place_of h b ((eP3 PyData.str PyData.int PyData.int) (("cell" : Str), x, j)) = some (7 * h + b + 4 * (x - 1) + j) := by rfl
theorem inuse_ok {st : St} (w : WF st) {x : Int} (h1 : 1 ≤ x) (h2 : x ≤ st.1) (j : Int) : N_in_use st x j = some (usd st x j) := by
  unfold N_in_use
  rw [len_ok' w h1 h2]
  rfl
theorem flat1 (f : ι → τ) : ∀ xs : List ι, (xs.flatMap fun k => [f k]) = xs.map f
  | [] => rfl
  | x :: xs => by
    rw [List.flatMap_cons, flat1 f xs]
    rfl
theorem cplaces_ok {st : St} (w : WF st) {x : Int} (h1 : 1 ≤ x) (h2 : x ≤ st.1) : N_content_places st x = some (pcs st x) := by
  unfold N_content_places
  rw [heldby_ok w h1 h2, Option.bind_some, forA (fun t : Int × Int => (rngN 0 (usd st x t.1).toNat).map fun k => plc st t.2 k)]
  · rw [Option.bind_some, List.nil_append]
    congr 1
    unfold pcs
    rw [List.flatMap_map]
  · have := flat_le (fun t : Int × Int => (rngN 0 (usd st x t.1).toNat).map fun k => plc st t.2 k) 4 ((hj st x).map fun j => (j, hS st x j)) (fun t => by
      rw [List.length_map, len_rngN]
      have := usd_le st x t.1
      omega)
    rw [List.length_map] at this
    have := hj_le st x
    simp only [List.length_nil]
    omega
  · intro t ht s hs
    have hu := usd_le st x t.1
    rw [inuse_ok w h1 h2, Option.bind_some]
    obtain ⟨r, e, hr⟩ : Wt (rng1 (usd st x t.1)) fun r => r = rngN 0 (usd st x t.1).toNat := wt_rng1 (by omega) (by omega) rfl
    subst hr
    rw [e, Option.map_some, Option.bind_some]
    dsimp only
    rw [forA (fun k => [plc st t.2 k])]
    · rw [Option.bind_some, flat1]
    · rw [flat1]
      exact hs
    · intro k hk s hs
      rw [pl_cell, Option.bind_some]
      have ep : 7 * st.1 + st.2.1 + 4 * (t.2 - 1) + k = plc st t.2 k := by unfold plc; omega
      rw [ep]
      have ap : appQ s (plc st t.2 k) = some (s ++ [plc st t.2 k]) := if_pos (by simp at hs; have := sz_big; omega)
      rw [ap]
      rfl
def vls (st : St) (x : Int) : List Int := (pcs st x).map (cel st.2.2)
theorem cels_ok {st : St} (w : WF st) (x : Int) : lenC (pcs st x) (mapM (fun p => (atI st.2.2 p)) (pcs st x)) = some (vls st x) := by
  have := pcs_len st x
  unfold lenC
  rw [if_pos (by have := sz_big; omega)]
  obtain ⟨r, e, hr⟩ : Wt (mapM (fun p => (atI st.2.2 p)) (pcs st x)) fun r => r = vls st x := wt_mapM (cel st.2.2) (fun p hp => by
    have := pcs_mem w hp
    exact at_cel _ _ this.1 this.2) rfl
  rw [e, hr]
theorem content_ok {st : St} (w : WF st) {x : Int} (h1 : 1 ≤ x) (h2 : x ≤ st.1) : N_content_of st x = some (vls st x) := by
  unfold N_content_of
  rw [cplaces_ok w h1 h2, Option.bind_some, cels_ok w x]
  rfl
theorem entries_ok {st : St} (w : WF st) {x : Int} (h1 : 1 ≤ x) (h2 : x ≤ st.1) : N_entries_of st x = some ((stpN 0 (vls st x)).zip (stpN 1 (vls st x))) := by
  unfold N_entries_of
  rw [content_ok w h1 h2]
  rfl
theorem flat_if (p : τ → Bool) (g : τ → List ι) : ∀ xs : List τ, (xs.flatMap fun t => if p t then g t else []) = (xs.filter p).flatMap g
  | [] => rfl
  | x :: xs => by
    rw [List.flatMap_cons, flat_if p g xs, List.filter_cons]
    cases p x <;> simp
theorem cel_mem {cs : List Int} {i : Int} (h0 : 0 ≤ i) (h1 : i < cs.length) : cel cs i ∈ cs := by
  obtain ⟨c, e⟩ := atI_some cs i h0 h1
  rw [at_cel cs i h0 h1] at e
  injection e with e
  rw [e]
  exact List.getElem_mem _

theorem lim_big {a : Int} (h0 : 0 ≤ a) (h1 : a ≤ 1000000000000000) : lim64 a = true := by
  unfold lim64
  simp
  omega
theorem pick_ok {k : Dk} {xs : List Int} {P : Int × Dk → Prop} (hk : k.cs.length ≤ 63) (h0 : 0 < xs.length) (h1 : xs.length < 1000) (h : ∀ x ∈ xs, ∀ k' : Dk, k'.cs.length ≤ 63 → P (x, k')) : Wt (N_l_pick k xs) P := by
  unfold N_l_pick lenN
  repeat (first | (with_reducible refine wt_bind ?_) | (with_reducible refine wt_map ?_) | (with_reducible refine wt_letC ?_) | (with_reducible refine wt_draw (by assumption) (by omega) (by omega) ?_; intro _ _ _ _ _; dsimp only))
  refine wt_at (by assumption) (by assumption) fun x hx => ?_
  exact wt_some (h x hx _ (by assumption))
theorem shape_ok {k : Dk} {P : (Int × Int) × Dk → Prop} (hk : k.cs.length ≤ 63) (h : ∀ a b k', 2 ≤ a → a ≤ 8 → 3 ≤ b → b ≤ 12 → k'.cs.length ≤ 63 → P ((a, b), k')) : Wt (N_l_shape k) P := by
  unfold N_l_shape boI
  repeat (first | (with_reducible refine wt_bind ?_) | (with_reducible refine wt_map ?_) | (with_reducible refine wt_letC ?_) | (with_reducible refine wt_draw (by assumption) (by omega) (by omega) ?_; intro _ _ _ _ _; dsimp only))
  refine wt_at (by split <;> split <;> omega) (by simp only [List.length_cons, List.length_nil]; split <;> split <;> simp_all <;> omega) fun x hx => ?_
  refine wt_some ?_
  obtain ⟨a, b⟩ := x
  simp only [List.mem_cons, List.not_mem_nil, or_false, Prod.mk.injEq] at hx
  exact h _ _ _ (by omega) (by omega) (by omega) (by omega) (by assumption)
def Bd (B : Int) (st : St) : Prop := ∀ c ∈ st.2.2, -B ≤ c ∧ c ≤ B
abbrev Mo := List (Int × (Int × List D))
def needs (k : Int) (rows : List D) : Int := (k * (rows.length : Int) + 3) / 4
theorem needs_ok {k : Int} {rows : List D} (h0 : 0 ≤ k) (h1 : k ≤ 1000) : N_l_needs k rows = some (needs k rows) := by
  obtain ⟨a, e, rfl⟩ : Wt (mulQ k (lenN rows)) fun a => a = k * (rows.length : Int) := wt_mul (.inl (lim_big (by omega) (by omega))) rfl
  unfold N_l_needs
  rw [e]
  rfl
theorem needs_nn {k : Int} {rows : List D} (h0 : 0 ≤ k) : 0 ≤ needs k rows := by
  unfold needs
  have : 0 ≤ k * (rows.length : Int) := Int.mul_nonneg h0 (by omega)
  omega
def nk (m : Mo) (x : Int) : Int := match dGet m x with | some v => needs v.1 v.2 | none => 0
def sm (m : Mo) (xs : List Int) : Int := ((xs.filter fun x => !decide (x = 2)).map (nk m)).sum
def ks (m : Mo) : List Int := m.map (·.1)
theorem sm_cons (m : Mo) (x : Int) (xs : List Int) : sm m (x :: xs) = (if x = 2 then 0 else nk m x) + sm m xs := by
  unfold sm
  rw [List.filter_cons]
  by_cases c : x = 2 <;> simp [c]
theorem sm_nil (m : Mo) : sm m [] = 0 := rfl
theorem sm_perm (m : Mo) {xs ys : List Int} (p : xs.Perm ys) : sm m xs = sm m ys := by
  induction p with
  | nil => rfl
  | cons x _ ih => rw [sm_cons, sm_cons, ih]
  | swap x y l => simp only [sm_cons]; omega
  | trans _ _ a b => exact a.trans b
theorem sm_congr (m m' : Mo) : ∀ xs : List Int, (∀ x ∈ xs, nk m x = nk m' x) → sm m xs = sm m' xs
  | [], _ => rfl
  | x :: xs, h => by rw [sm_cons, sm_cons, h x (List.mem_cons_self ..), sm_congr m m' xs fun y hy => h y (List.mem_cons_of_mem _ hy)]
theorem sm_one (m m' : Mo) (f : Int) : ∀ xs : List Int, xs.Nodup → (∀ x ∈ xs, x ≠ f → nk m x = nk m' x) → f ∈ xs → sm m' xs = sm m xs + (if f = 2 then 0 else nk m' f - nk m f)
  | [], _, _, h => nomatch h
  | x :: xs, nd, h, hf => by
    rw [sm_cons, sm_cons]
    have nd' := List.nodup_cons.mp nd
    by_cases c : x = f
    · subst c
      rw [sm_congr m m' xs fun y hy => h y (List.mem_cons_of_mem _ hy) (fun e => nd'.1 (e ▸ hy))]
      split <;> omega
    · have hf' : f ∈ xs := by
        rcases List.mem_cons.mp hf with e | e
        · exact absurd e.symm c
        · exact e
      rw [sm_one m m' f xs nd'.2 (fun y hy => h y (List.mem_cons_of_mem _ hy)) hf', h x (List.mem_cons_self ..) c]
      omega
theorem dGet_put (m : Mo) (k : Int) (v : Int × List D) (x : Int) : dGet (dPut m k v) x = if x = k then some v else dGet m x := by
  unfold dPut
  by_cases c : m.any (fun p => decide (p.1 = k)) = true
  · rw [if_pos c]
    have eq : ∀ p : Int × (Int × List D), (if p.1 = k then (p.1, v) else p).1 = p.1 := fun p => by split <;> rfl
    have e0 : (m.map fun p => if p.1 = k then (p.1, v) else p).find? (fun p => decide (p.1 = x)) = (m.find? fun p => decide (p.1 = x)).map fun p => if p.1 = k then (p.1, v) else p := by
      rw [List.find?_map]
      congr 1
      congr 1
      funext p
      simp only [Function.comp, eq]
    unfold dGet
    rw [e0]
    cases e1 : m.find? (fun p => decide (p.1 = x)) with
    | none =>
      by_cases e : x = k
      · subst e
        obtain ⟨p, hp, q⟩ := List.any_eq_true.mp c
        exact absurd q (List.find?_eq_none.mp e1 p hp)
      · rw [if_neg e]; rfl
    | some p =>
      have hp0 := List.find?_some e1
      have hp := of_decide_eq_true hp0
      by_cases e : x = k
      · rw [if_pos e]
        simp [hp, e]
      · rw [if_neg e]
        simp [hp, e]
  · rw [if_neg c]
    unfold dGet
    rw [List.find?_append]
    by_cases e : x = k
    · subst e
      have : m.find? (fun p => decide (p.1 = x)) = none := by
        rw [List.find?_eq_none]
        intro p hp q
        exact c (List.any_eq_true.mpr ⟨p, hp, q⟩)
      rw [this, if_pos rfl]
      simp
    · rw [if_neg e]
      have : ([(k, v)] : Mo).find? (fun p => decide (p.1 = x)) = none := by
        rw [List.find?_eq_none]
        intro p hp q
        rw [List.mem_singleton] at hp
        subst hp
        exact e (of_decide_eq_true q).symm
      rw [this, Option.or_none]
def Row (h : Int) (d : D) : Prop := ∃ a c : Int, d = .tuple [.int a, .int c] ∧ 1 ≤ c ∧ c ≤ h ∧ 0 ≤ a ∧ a ≤ 100
structure MI (h b L : Int) (m : Mo) : Prop where
  nd : (ks m).Nodup
  k1 : 1 ∈ ks m
  k2 : 2 ∈ ks m
  kb : ∀ x ∈ ks m, 1 ≤ x ∧ x ≤ h
  ent : ∀ p ∈ m, (p.2.1 = 2 ∧ ∀ d ∈ p.2.2, Row h d) ∨ (p.2.1 = 1 ∧ ∀ d ∈ p.2.2, ∃ a : Int, d = .int a ∧ 0 ≤ a ∧ a ≤ 100)
  len : ∀ p ∈ m, (p.2.2.length : Int) ≤ L
  lf : sm m (ks m) ≤ b - 3
  ml : m.length ≤ 8
def FO (m : Mo) (fs : List Int) : Prop := ∀ f ∈ fs, ∃ rows, dGet m f = some (2, rows)
theorem MI.mon {h b L L' : Int} {m : Mo} (i : MI h b L m) (l : L ≤ L') : MI h b L' m := ⟨i.nd, i.k1, i.k2, i.kb, i.ent, fun p hp => by have := i.len p hp; omega, i.lf, i.ml⟩
theorem MI.kind {h b L : Int} {m : Mo} (i : MI h b L m) {p : Int × (Int × List D)} (hp : p ∈ m) : 0 ≤ p.2.1 ∧ p.2.1 ≤ 2 := by
  rcases i.ent p hp with ⟨e, _⟩ | ⟨e, _⟩ <;> rw [e] <;> omega
theorem nk_get {m : Mo} {x : Int} {v : Int × List D} (e : dGet m x = some v) : nk m x = needs v.1 v.2 := by
  unfold nk
  rw [e]
theorem MI.nk_nn {h b L : Int} {m : Mo} (i : MI h b L m) (x : Int) : 0 ≤ nk m x := by
  unfold nk
  split
  · rename_i v e
    exact needs_nn (i.kind (dGet_mem e)).1
  · omega
theorem left_ok {h b L : Int} {m : Mo} (i : MI h b L m) : N_l_left m b = some (b - 3 - sm m (ks m)) := by
  have hl := i.ml
  unfold N_l_left
  have e : lenC (m.map (·.1)) (filM (fun x1 => (some (!decide (x1 = 2)))) (fun x1 => (((((((dGet m x1)).bind fun v2 => ((dGet m x1)).map fun v3 => (v2, v3))).bind fun b4 => (N_l_needs b4.1.1 b4.2.2).map fun v6 => (b4, v6))).map fun r5 => r5.2)) (m.map (·.1))) = some (((ks m).filter fun x => !decide (x = 2)).map (nk m)) := by
    unfold lenC
    rw [if_pos (by rw [List.length_map]; have := sz_big; omega)]
    refine filM_eq _ _ _ (fun _ _ => rfl) fun x hx _ => ?_
    obtain ⟨v, e⟩ := dGet_has hx
    have := i.kind (dGet_mem e)
    dsimp only at this
    rw [e]
    simp only [Option.bind_some, Option.map_some]
    rw [needs_ok (by omega) (by omega), nk_get e]
    rfl
  rw [e]
  rfl
/-- a new head -/
theorem MI.new {h b L : Int} {m : Mo} (i : MI h b L m) {x : Int} {v : Int × List D} (hx : x ∉ ks m) (h1 : 3 ≤ x) (h2 : x ≤ h) (hv : (v.1 = 2 ∧ v.2 = []) ∨ (v.1 = 1 ∧ ∀ d ∈ v.2, ∃ a : Int, d = .int a ∧ 0 ≤ a ∧ a ≤ 100)) (hl : (v.2.length : Int) ≤ L) (hn : sm m (ks m) + needs v.1 v.2 ≤ b - 3) (hm : m.length < 8) : MI h b L (dPut m x v) ∧ ks (dPut m x v) = ks m ++ [x] := by
  have e : dPut m x v = m ++ [(x, v)] := dPut_new _ _ _ hx
  have ek : ks (dPut m x v) = ks m ++ [x] := by rw [e]; simp [ks]
  refine ⟨⟨?_, ?_, ?_, ?_, ?_, ?_, ?_, ?_⟩, ek⟩
  · rw [ek, List.nodup_append]
    exact ⟨i.nd, by simp, fun a ha c hc => by rw [List.mem_singleton] at hc; subst hc; exact fun q => hx (q ▸ ha)⟩
  · rw [ek]; exact List.mem_append.mpr (.inl i.k1)
  · rw [ek]; exact List.mem_append.mpr (.inl i.k2)
  · intro y hy
    rw [ek] at hy
    rcases List.mem_append.mp hy with hy | hy
    · exact i.kb y hy
    · rw [List.mem_singleton] at hy; omega
  · intro p hp
    rcases dPut_mem hp with rfl | hp
    · rcases hv with ⟨a, c⟩ | hv
      · exact .inl ⟨a, fun d hd => by rw [c] at hd; exact nomatch hd⟩
      · exact .inr hv
    · exact i.ent p hp
  · intro p hp
    rcases dPut_mem hp with rfl | hp
    · exact hl
    · exact i.len p hp
  · rw [ek]
    have e1 : ∀ (ys : List Int), sm (dPut m x v) (ys ++ [x]) = sm (dPut m x v) ys + needs v.1 v.2 := by
      intro ys
      induction ys with
      | nil =>
        rw [List.nil_append, sm_cons, sm_nil, if_neg (by omega), nk_get (v := v) (by rw [dGet_put, if_pos rfl])]
        omega
      | cons y ys ih => rw [List.cons_append, sm_cons, sm_cons, ih]; omega
    rw [e1, sm_congr (dPut m x v) m (ks m) fun y hy => by
      unfold nk
      rw [dGet_put, if_neg (fun q : y = x => hx (q ▸ hy))]]
    exact hn
  · have := dPut_len m x v
    omega
/-- more rows in a folder -/
theorem MI.more {h b L : Int} {m : Mo} (i : MI h b L m) {f : Int} {rows more : List D} (hf : dGet m f = some (2, rows)) (hr : ∀ d ∈ more, Row h d) (hl : (more.length : Int) ≤ L + 1) (hn : f = 2 ∨ needs 2 more - needs 2 rows ≤ b - 3 - sm m (ks m)) : MI h b (L + 1) (dPut m f (2, more)) ∧ ks (dPut m f (2, more)) = ks m := by
  have hm := dGet_mem hf
  have hk : f ∈ ks m := List.mem_map.mpr ⟨_, hm, rfl⟩
  have ek : ks (dPut m f (2, more)) = ks m := dPut_keys _ _ _ hk
  refine ⟨⟨?_, ?_, ?_, ?_, ?_, ?_, ?_, ?_⟩, ek⟩
  · rw [ek]; exact i.nd
  · rw [ek]; exact i.k1
  · rw [ek]; exact i.k2
  · rw [ek]; exact i.kb
  · intro p hp
    rcases dPut_mem hp with rfl | hp
    · exact .inl ⟨rfl, hr⟩
    · exact i.ent p hp
  · intro p hp
    rcases dPut_mem hp with rfl | hp
    · exact hl
    · have := i.len p hp
      omega
  · rw [ek, sm_one m _ f (ks m) i.nd (fun y hy hy2 => by unfold nk; rw [dGet_put, if_neg hy2]) hk]
    have e1 : nk (dPut m f (2, more)) f = needs 2 more := nk_get (v := (2, more)) (by rw [dGet_put, if_pos rfl])
    have e2 : nk m f = needs 2 rows := nk_get hf
    have := i.lf
    rw [e1, e2]
    split <;> omega
  · have e3 : (ks (dPut m f (2, more))).length = (ks m).length := by rw [ek]
    unfold ks at e3
    rw [List.length_map, List.length_map] at e3
    have := i.ml
    omega
theorem FO.put {m : Mo} {fs : List Int} (o : FO m fs) (f : Int) (rows : List D) : FO (dPut m f (2, rows)) fs := by
  intro g hg
  rw [dGet_put]
  by_cases c : g = f
  · exact ⟨_, if_pos c⟩
  · rw [if_neg c]
    exact o g hg
theorem FO.new {m : Mo} {fs : List Int} (o : FO m fs) {f : Int} {v : Int × List D} (hf : f ∉ ks m) : FO (dPut m f v) fs := by
  intro g hg
  obtain ⟨r, e⟩ := o g hg
  have : g ≠ f := fun q => hf (q ▸ List.mem_map.mpr ⟨_, dGet_mem e, rfl⟩)
  rw [dGet_put, if_neg this]
  exact ⟨r, e⟩

theorem eqD_int (a b : Int) : eqD (.int a) (.int b) = some (decide (a = b)) := by
  have h := eq_g gI a b
  unfold bD at h
  cases e : eqD (.int a) (.int b) with
  | none => rw [e] at h; cases h
  | some q =>
    rw [e] at h
    injection h with h
    injection h with h
    rw [h]
theorem rows_shp {h : Int} : ∀ (ds : List D), (∀ d ∈ ds, Row h d) → PyData.plainAll ds = true ∧ PyData.depthAll ds ≤ 1
  | [], _ => ⟨rfl, Nat.zero_le _⟩
  | d :: ds, H => by
    obtain ⟨a, c, rfl, _⟩ := H d (List.mem_cons_self ..)
    obtain ⟨p, q⟩ := rows_shp ds fun x hx => H x (List.mem_cons_of_mem _ hx)
    refine ⟨?_, ?_⟩
    · simp only [PyData.plainAll, p]
      rfl
    · simp only [PyData.depthAll, PyData.depth]
      omega
theorem sort_ok {h : Int} {ds : List D} {P : List D → Prop} (H : ∀ d ∈ ds, Row h d) (p : ∀ es, es.Perm ds → P es) : Wt (sortQ ds) P := by
  have h1 : alikeB ds = true := by
    unfold alikeB
    rw [List.all_eq_true]
    intro d hd
    rw [List.all_eq_true]
    intro e he
    obtain ⟨a, c, rfl, _⟩ := H d hd
    obtain ⟨a2, c2, rfl, _⟩ := H e he
    rfl
  have h2 : sortB ds = true := by
    unfold sortB
    rw [Bool.or_eq_true]
    left
    rw [List.all_eq_true]
    intro d hd
    obtain ⟨a, c, rfl, _⟩ := H d hd
    rfl
  have h3 : ds.all (fun d => decide (d.depth ≤ 64)) = true := by
    rw [List.all_eq_true]
    intro d hd
    obtain ⟨a, c, rfl, _⟩ := H d hd
    rfl
  refine ⟨sortL ds, ?_, p _ (List.mergeSort_perm _ _)⟩
  unfold sortQ
  rw [h1, h2, h3]
  rfl
theorem enter_ok {h b L : Int} {m : Mo} {fs : List Int} {f name x : Int} {P : Bool × Mo → Prop} (i : MI h b L m) (o : FO m fs) (hf : f ∈ fs) (x1 : 1 ≤ x) (x2 : x ≤ h) (n0 : 0 ≤ name) (n1 : name ≤ 100) (hL : L ≤ 1000) (hP : ∀ ok m', MI h b (L + 1) m' → (∀ gs, FO m gs → FO m' gs) → ks m' = ks m → P (ok, m')) : Wt (N_l_enter m b f name x) P := by
  obtain ⟨rows, ef⟩ := o f hf
  have hm := dGet_mem ef
  have hl := i.len _ hm
  dsimp only at hl
  have hr : ∀ d ∈ rows, Row h d := by
    rcases i.ent _ hm with ⟨_, q⟩ | ⟨q, _⟩
    · exact q
    · exact absurd (show (2 : Int) = 1 from q) (by decide)
  unfold N_l_enter lenN
  rw [ef, Option.bind_some]
  repeat (first | (with_reducible refine wt_bind ?_) | (with_reducible refine wt_map ?_) | (with_reducible refine wt_letC ?_) | (with_reducible refine wt_draw (by assumption) (by omega) (by omega) ?_; intro _ _ _ _ _; dsimp only))
  refine wt_cat (by simp; omega) ?_
  have hr2 : ∀ d ∈ rows ++ [((eP2 PyData.int PyData.int) (name, x))], Row h d := by
    intro d hd
    rcases List.mem_append.mp hd with hd | hd
    · exact hr d hd
    · rw [List.mem_singleton] at hd
      subst hd
      exact ⟨_, _, rfl, x1, x2, n0, n1⟩
  repeat (first | (with_reducible refine wt_bind ?_) | (with_reducible refine wt_map ?_) | (with_reducible refine wt_letC ?_) | (with_reducible refine wt_draw (by assumption) (by omega) (by omega) ?_; intro _ _ _ _ _; dsimp only))
  refine sort_ok hr2 fun more pm => ?_
  have hm1 : (more.length : Int) ≤ L + 1 := by rw [pm.length_eq, List.length_append]; simp; omega
  have hmr : ∀ d ∈ more, Row h d := fun d hd => hr2 d (pm.mem_iff.mp hd)
  dsimp only
  rw [needs_ok (by omega) (by omega), needs_ok (by omega) (by omega), left_ok i]
  simp only [Option.bind_some, Option.map_some]
  repeat (first | (with_reducible refine wt_bind ?_) | (with_reducible refine wt_map ?_) | (with_reducible refine wt_letC ?_) | (with_reducible refine wt_draw (by assumption) (by omega) (by omega) ?_; intro _ _ _ _ _; dsimp only))
  have same : P (false, m) := hP _ _ (i.mon (by omega)) (fun _ h => h) rfl
  by_cases c1 : (rows.length : Int) < 6
  · simp only [decide_eq_true c1, if_true]
    refine wt_ite (fun c2 => ?_) (fun _ => wt_some (by simpa using wt_some same))
    have c2' := of_decide_eq_true c2
    obtain ⟨l, el, hl'⟩ : Wt (lenC rows (filM (fun x12 => (((((idxD x12 (PyData.int 0))).bind fun v13 => ((eqD v13 (PyData.int name))).map fun v15 => (v13, v15))).map fun b14 => b14.2)) (fun x12 => (some x12)) rows)) fun l => ∀ d ∈ l, Row h d := by
      refine wt_lenC (by omega) (wt_filM (fun d => match d with | .tuple [.int a, _] => decide (a = name) | _ => false) id (fun d hd => ?_) (fun _ _ _ => rfl) fun d hd => ?_)
      · obtain ⟨a, c, rfl, _⟩ := hr d hd
        have : eqD (.int a) (.int name) = some (decide (a = name)) := eqD_int a name
        show ((eqD (.int a) (.int name)).map fun v15 => ((PyData.int a : D), v15)).map (fun b14 => b14.2) = _
        rw [this]
        rfl
      · rw [List.map_id] at hd
        exact hr d (List.mem_filter.mp hd).1
    rw [el, Option.bind_some]
    have es : ∃ q, eqD ((eLi eD) l) ((eLi eD) ([])) = some q := by
      have q := rows_shp l hl'
      have s1 : shp ((eLi eD) l) = true := by
        unfold shp eLi
        have : l.map eD = l := List.map_id' _
        rw [this]
        rw [Bool.and_eq_true]
        exact ⟨by simpa only [PyData.plain] using q.1, decide_eq_true (by simp only [PyData.depth]; have := q.2; omega)⟩
      have s2 : shp ((eLi eD) ([])) = true := rfl
      unfold eqD
      rw [s1, s2]
      exact ⟨_, rfl⟩
    obtain ⟨q, eq⟩ := es
    rw [eq]
    simp only [Option.map_some]
    refine wt_some ?_
    refine wt_ite (fun _ => ?_) (fun _ => wt_some same)
    have hml := i.ml
    refine wt_bind (wt_put (by omega) (wt_some ?_))
    have mm := MI.more i ef hmr hm1 (.inr c2')
    exact hP _ _ mm.1 (fun gs o => o.put _ _) mm.2
  · simp only [decide_eq_false c1, if_false, Bool.false_eq_true]
    exact wt_some (by simpa using wt_some same)

theorem flatMap_cg {α β : Type} {f g : α → List β} : ∀ {xs : List α}, (∀ x ∈ xs, f x = g x) → xs.flatMap f = xs.flatMap g
  | [], _ => rfl
  | x :: xs, h => by
    rw [List.flatMap_cons, List.flatMap_cons, h x (List.mem_cons_self ..), flatMap_cg fun y hy => h y (List.mem_cons_of_mem _ hy)]
def pr1 (d : D) : Int × Int := match d with | .tuple [.int a, .int c] => (a, c) | _ => (0, 0)
def iv1 (d : D) : Int := match d with | .int a => a | _ => 0
def rw2 (v : Int × List D) : List (Int × Int) := if v.1 = 2 then v.2.map pr1 else []
def fl2 : List (Int × Int) → List Int
  | [] => []
  | p :: r => p.1 :: p.2 :: fl2 r
def cont (v : Int × List D) : List Int := if v.1 = 2 then fl2 (v.2.map pr1) else v.2.map iv1
def named (m : Mo) : List Int := m.flatMap fun p => (rw2 p.2).map (·.2)
structure MX (m : Mo) (x : Int) : Prop where
  fi : ∀ p ∈ m, p.2.1 = 1 → p.2.2.length ≤ 12 ∧ ∀ d ∈ p.2.2, ∃ a : Int, d = .int a ∧ 0 ≤ a ∧ a ≤ 99
  fo : ∀ p ∈ m, p.2.1 = 2 → p.2.2.length ≤ 6 ∧ (∀ d ∈ p.2.2, ∃ a c : Int, d = .tuple [.int a, .int c]) ∧ (rw2 p.2).Pairwise (fun a b => a.1 < b.1) ∧ ∀ e ∈ rw2 p.2, 1 ≤ e.1 ∧ e.1 ≤ 99 ∧ 3 ≤ e.2 ∧ e.2 ∈ ks m ∧ (p.1 = 2 → e.1 = e.2)
  on : ∀ y v, dGet m y = some v → 3 ≤ y → y ≠ x → v.1 = 2 → (named m).count y = 1
  so : ∀ y, y ∈ ks m → 3 ≤ y → y ≠ x → 1 ≤ (named m).count y
  nx : (named m).count x = 0
  rk : ∃ r : Int → Nat, ∀ y v, dGet m y = some v → 3 ≤ y → y ≠ x → v.1 = 2 → ∃ f w, dGet m f = some w ∧ w.1 = 2 ∧ (f = 1 ∨ f = 2 ∨ (r f < r y ∧ f ≠ x)) ∧ y ∈ (rw2 w).map (·.2)
  f1 : ∃ r, dGet m 1 = some (2, r)
  f2 : ∃ r, dGet m 2 = some (2, r)
theorem MX.nm {m : Mo} {x : Int} (i : MX m x) {z : Int} (h : z ∈ named m) : z ∈ ks m ∧ 3 ≤ z := by
  obtain ⟨p, hp, h⟩ := List.mem_flatMap.mp h
  obtain ⟨e, he, rfl⟩ := List.mem_map.mp h
  by_cases c : p.2.1 = 2
  · obtain ⟨_, _, _, q⟩ := i.fo p hp c
    obtain ⟨_, _, a, b, _⟩ := q e he
    exact ⟨b, a⟩
  · unfold rw2 at he
    rw [if_neg c] at he
    exact nomatch he
theorem MX.new {m : Mo} (i : MX m 0) {x : Int} {v : Int × List D} (hx : x ∉ ks m) (x3 : 3 ≤ x) (hv : (v.1 = 2 ∧ v.2 = []) ∨ (v.1 = 1 ∧ v.2.length ≤ 12 ∧ ∀ d ∈ v.2, ∃ a : Int, d = .int a ∧ 0 ≤ a ∧ a ≤ 99)) : MX (dPut m x v) x := by
  have e : dPut m x v = m ++ [(x, v)] := dPut_new _ _ _ hx
  have ek : ks (dPut m x v) = ks m ++ [x] := by rw [e]; simp [ks]
  have rv : rw2 v = [] := by
    unfold rw2
    rcases hv with ⟨a, b⟩ | ⟨a, _⟩
    · rw [if_pos a, b]; rfl
    · rw [if_neg (by rw [a]; decide)]
  have en : named (dPut m x v) = named m := by
    rw [e]
    unfold named
    rw [List.flatMap_append]
    simp [rv]
  have gx : ∀ y, y ≠ x → dGet (dPut m x v) y = dGet m y := fun y hy => by rw [dGet_put, if_neg hy]
  refine ⟨fun p hp c => ?_, fun p hp c => ?_, fun y w hw y3 yx c => ?_, fun y hy y3 yx => ?_, ?_, ?_, by rw [gx 1 (by omega)]; exact i.f1, by rw [gx 2 (by omega)]; exact i.f2⟩
  · rw [e] at hp
    rcases List.mem_append.mp hp with hp | hp
    · exact i.fi p hp c
    · rw [List.mem_singleton] at hp
      subst hp
      rcases hv with ⟨a, _⟩ | ⟨_, a⟩
      · dsimp only at c; omega
      · exact a
  · have hp' := hp
    rw [e] at hp
    rcases List.mem_append.mp hp with hp | hp
    · obtain ⟨a, b, d, q⟩ := i.fo p hp c
      refine ⟨a, b, d, fun z hz => ?_⟩
      obtain ⟨q1, q2, q3, q4, q5⟩ := q z hz
      exact ⟨q1, q2, q3, by rw [ek]; exact List.mem_append.mpr (.inl q4), q5⟩
    · rw [List.mem_singleton] at hp
      subst hp
      rcases hv with ⟨_, a⟩ | ⟨a, _⟩
      · refine ⟨by rw [a]; simp, by rw [a]; exact fun _ h => (nomatch h), by rw [rv]; exact .nil, by rw [rv]; exact fun _ h => (nomatch h)⟩
      · dsimp only at c; omega
  · rw [en]
    rw [gx y yx] at hw
    exact i.on y w hw y3 (by omega) c
  · rw [en]
    rw [ek] at hy
    rcases List.mem_append.mp hy with hy | hy
    · exact i.so y hy y3 (by omega)
    · exact absurd (List.mem_singleton.mp hy) yx
  · rw [en]
    exact List.count_eq_zero.mpr fun q => hx (i.nm q).1
  · obtain ⟨r, hr⟩ := i.rk
    refine ⟨r, fun y w hw y3 yx c => ?_⟩
    rw [gx y yx] at hw
    obtain ⟨f, w2, q1, q2, q3, q4⟩ := hr y w hw y3 (by omega) c
    have fx : f ≠ x := fun q => hx (q ▸ List.mem_map.mpr ⟨_, dGet_mem q1, rfl⟩)
    exact ⟨f, w2, by rw [gx f fx]; exact q1, q2, q3.elim .inl fun q => .inr (q.elim .inl fun q => .inr ⟨q.1, fx⟩), q4⟩
theorem dput_split {f : Int} {v v' : Int × List D} : ∀ {m : Mo}, (ks m).Nodup → dGet m f = some v → ∃ a b, m = a ++ (f, v) :: b ∧ dPut m f v' = a ++ (f, v') :: b
  | [], _, h => by cases h
  | (k, u) :: m, nd, h => by
    have hk : f ∈ ks ((k, u) :: m) := List.mem_map.mpr ⟨_, dGet_mem h, rfl⟩
    have nd' := List.nodup_cons.mp nd
    by_cases c : k = f
    · subst c
      have : u = v := by
        unfold dGet at h
        simp at h
        exact h
      subst this
      refine ⟨[], m, rfl, ?_⟩
      unfold dPut
      have ha : ((k, u) :: m).any (fun p => decide (p.1 = k)) = true := by simp
      rw [if_pos ha, List.map_cons, if_pos rfl, List.nil_append]
      congr 1
      have : ∀ p ∈ m, (if p.1 = k then (p.1, v') else p) = p := fun p hp => if_neg (fun q : p.1 = k => nd'.1 (q ▸ List.mem_map.mpr ⟨p, hp, rfl⟩))
      rw [List.map_congr_left this, List.map_id']
    · have h' : dGet m f = some v := by
        unfold dGet at h ⊢
        rw [List.find?_cons, decide_eq_false c] at h
        exact h
      obtain ⟨a, b, e1, e2⟩ := dput_split (v' := v') nd'.2 h'
      refine ⟨(k, u) :: a, b, by rw [e1]; rfl, ?_⟩
      have hm : f ∈ m.map (·.1) := List.mem_map.mpr ⟨_, dGet_mem h', rfl⟩
      have hany : m.any (fun p => decide (p.1 = f)) = true := by
        rw [List.any_eq_true]
        obtain ⟨p, hp, q⟩ := List.mem_map.mp hm
        exact ⟨p, hp, decide_eq_true q⟩
      unfold dPut at e2 ⊢
      rw [if_pos hany] at e2
      rw [if_pos (by rw [List.any_cons, hany, Bool.or_true]), List.map_cons, if_neg c, e2]
      rfl
theorem named_put {m : Mo} (nd : (ks m).Nodup) {f : Int} {v v' : Int × List D} (h : dGet m f = some v) (z : Int) : (named (dPut m f v')).count z + ((rw2 v).map (·.2)).count z = (named m).count z + ((rw2 v').map (·.2)).count z := by
  obtain ⟨a, b, e1, e2⟩ := dput_split (v' := v') nd h
  rw [e2]
  conv => rhs; rw [e1]
  unfold named
  simp only [List.flatMap_append, List.flatMap_cons, List.count_append]
  omega
theorem inc_le : ∀ (xs : List Int) (lo hi : Int), xs.Pairwise (· < ·) → (∀ x ∈ xs, lo ≤ x ∧ x ≤ hi) → lo ≤ hi + 1 → (xs.length : Int) ≤ hi + 1 - lo
  | [], lo, hi, _, _, h => by simp; omega
  | x :: xs, lo, hi, p, b, h => by
    have hx := b x (List.mem_cons_self ..)
    have q := List.pairwise_cons.mp p
    have := inc_le xs (x + 1) hi q.2 (fun y hy => ⟨by have := q.1 y hy; omega, (b y (List.mem_cons_of_mem _ hy)).2⟩) (by omega)
    rw [List.length_cons]
    omega
theorem MX.add {m : Mo} {y : Int} (i : MX m y) (nd : (ks m).Nodup) {f name x : Int} {rows more : List D} (hf : dGet m f = some (2, rows)) (k0 : (0 : Int) ∉ ks m) (hfx : f ≠ x) (hx : x ∈ ks m) (x3 : 3 ≤ x) (n1 : 1 ≤ name) (n99 : name ≤ 99) (h2 : f = 2 → name = x)
    (pm : (more.map pr1).Perm (rows.map pr1 ++ [(name, x)])) (hs : (more.map pr1).Pairwise (fun a b => a.1 < b.1)) (hfm : ∀ d ∈ more, ∃ a c : Int, d = .tuple [.int a, .int c]) (hl : more.length ≤ 6)
    (hxy : y = x ∨ (y = 0 ∧ ∃ ws, dGet m x = some (1, ws))) : MX (dPut m f (2, more)) 0 := by
  have hm := dGet_mem hf
  have hk : f ∈ ks m := List.mem_map.mpr ⟨_, hm, rfl⟩
  have ek : ks (dPut m f (2, more)) = ks m := dPut_keys _ _ _ hk
  have gp : ∀ z, dGet (dPut m f (2, more)) z = if z = f then some (2, more) else dGet m z := fun z => dGet_put m f _ z
  have e1 : rw2 (2, more) = more.map pr1 := if_pos rfl
  have e2 : rw2 (2, rows) = rows.map pr1 := if_pos rfl
  have cn : ∀ z, (named (dPut m f (2, more))).count z = (named m).count z + if z = x then 1 else 0 := fun z => by
    have q := named_put (v' := (2, more)) nd hf z
    rw [e1, e2] at q
    have q2 := (pm.map (·.2)).count_eq z
    rw [List.map_append, List.count_append] at q2
    have q3 : ([(name, x)].map (fun p : Int × Int => p.2)).count z = if z = x then 1 else 0 := by
      simp only [List.map_cons, List.map_nil, List.count_cons, List.count_nil, Nat.zero_add]
      by_cases c : z = x
      · simp [c]
      · have : ¬ x = z := fun q => c q.symm
        simp [c, this]
    omega
  have f0 : f ≠ 0 := fun q => k0 (q ▸ hk)
  obtain ⟨g1, g2, g3, g4⟩ := i.fo _ hm rfl
  have ff : ∀ z, (∃ r, dGet m z = some (2, r)) → ∃ r, dGet (dPut m f (2, more)) z = some (2, r) := fun z hz => by
    rw [gp]
    by_cases c : z = f
    · exact ⟨more, if_pos c⟩
    · rw [if_neg c]; exact hz
  refine ⟨fun p hp c => ?_, fun p hp c => ?_, fun z w hw z3 zx c => ?_, fun z hz z3 zx => ?_, ?_, ?_, ff 1 i.f1, ff 2 i.f2⟩
  · rcases dPut_mem hp with rfl | hp
    · dsimp only at c; omega
    · exact i.fi p hp c
  · rcases dPut_mem hp with rfl | hp
    · refine ⟨hl, hfm, by rw [e1]; exact hs, fun e he => ?_⟩
      rw [e1] at he
      rcases List.mem_append.mp (pm.mem_iff.mp he) with he | he
      · obtain ⟨q1, q2, q3, q4, q5⟩ := g4 e (by rw [e2]; exact he)
        exact ⟨q1, q2, q3, by rw [ek]; exact q4, q5⟩
      · rw [List.mem_singleton] at he
        subst he
        exact ⟨n1, n99, x3, by rw [ek]; exact hx, h2⟩
    · obtain ⟨q1, q2, q3, q4⟩ := i.fo p hp c
      refine ⟨q1, q2, q3, fun e he => ?_⟩
      obtain ⟨r1, r2, r3, r4, r5⟩ := q4 e he
      exact ⟨r1, r2, r3, by rw [ek]; exact r4, r5⟩
  · have horg : ∃ w0, dGet m z = some w0 ∧ w0.1 = 2 := by
      rw [gp] at hw
      by_cases d : z = f
      · subst d; exact ⟨_, hf, rfl⟩
      · rw [if_neg d] at hw; exact ⟨w, hw, c⟩
    obtain ⟨w0, hw0, c0⟩ := horg
    rw [cn]
    by_cases d : z = x
    · subst d
      rcases hxy with rfl | ⟨_, ws, hws⟩
      · rw [i.nx, if_pos rfl]
      · rw [hws] at hw0
        cases hw0
        exact absurd (show (1 : Int) = 2 from c0) (by decide)
    · rw [if_neg d, i.on z w0 hw0 z3 (hxy.elim (fun q => q ▸ d) fun q => q.1 ▸ zx) c0]
  · rw [cn]
    rw [ek] at hz
    by_cases d : z = x
    · rw [if_pos d]; omega
    · have := i.so z hz z3 (hxy.elim (fun q => q ▸ d) fun q => q.1 ▸ zx)
      omega
  · rw [cn, if_neg (by omega)]
    have : (0 : Int) ∉ named m := fun q => by have := (i.nm q).2; omega
    rw [List.count_eq_zero.mpr this]
  · obtain ⟨r, hr⟩ := i.rk
    refine ⟨fun z => if z = x ∧ y = x then r f + 1 else r z, fun z w hw z3 zx c => ?_⟩
    have horg : ∃ w0, dGet m z = some w0 ∧ w0.1 = 2 := by
      rw [gp] at hw
      by_cases d : z = f
      · subst d; exact ⟨_, hf, rfl⟩
      · rw [if_neg d] at hw; exact ⟨w, hw, c⟩
    obtain ⟨w0, hw0, c0⟩ := horg
    by_cases d : z = x
    · subst d
      rcases hxy with rfl | ⟨_, ws, hws⟩
      · refine ⟨f, (2, more), by rw [gp, if_pos rfl], rfl, .inr (.inr ⟨?_, f0⟩), ?_⟩
        · dsimp only
          rw [if_neg (fun q => hfx q.1), if_pos ⟨rfl, rfl⟩]
          omega
        · rw [e1]
          exact List.mem_map.mpr ⟨(name, y), pm.mem_iff.mpr (by simp), rfl⟩
      · rw [hws] at hw0
        cases hw0
        exact absurd (show (1 : Int) = 2 from c0) (by decide)
    · obtain ⟨g, w1, q1, q2, q3, q4⟩ := hr z w0 hw0 z3 (hxy.elim (fun q => q ▸ d) fun q => q.1 ▸ zx) c0
      have hg0 : g ∈ ks m := List.mem_map.mpr ⟨_, dGet_mem q1, rfl⟩
      have g0 : g ≠ 0 := fun q => k0 (q ▸ hg0)
      have q5 : g = 1 ∨ g = 2 ∨ ((if g = x ∧ y = x then r f + 1 else r g) < (if z = x ∧ y = x then r f + 1 else r z) ∧ g ≠ 0) := by
        rcases q3 with q | q | q
        · exact .inl q
        · exact .inr (.inl q)
        · refine .inr (.inr ⟨?_, g0⟩)
          have n1 : ¬ (g = x ∧ y = x) := fun ⟨a, b⟩ => q.2 (by rw [a, b])
          rw [if_neg n1, if_neg (fun q => d q.1)]
          exact q.1
      by_cases gf : g = f
      · subst gf
        rw [hf] at q1
        cases q1
        refine ⟨g, (2, more), by rw [gp, if_pos rfl], rfl, q5, ?_⟩
        rw [e2] at q4
        rw [e1]
        obtain ⟨e, he, rfl⟩ := List.mem_map.mp q4
        exact List.mem_map.mpr ⟨e, pm.mem_iff.mpr (List.mem_append.mpr (.inl he)), rfl⟩
      · exact ⟨g, w1, by rw [gp, if_neg gf]; exact q1, q2, q5, q4⟩

def gb (g : List (Int × List Int)) (x : Int) : List Int := (dGet g x).getD []
def namedIn (m : Mo) (dn : List Int) : List Int := dn.flatMap fun x => match dGet m x with | some v => (rw2 v).map (·.2) | none => []
theorem cel_set {cs : List Int} {i v p : Int} (i0 : 0 ≤ i) (i1 : i < cs.length) (p0 : 0 ≤ p) : cel (cs.set i.toNat v) p = if p = i then v else cel cs p := by
  unfold cel
  rw [List.getD_eq_getElem?_getD, List.getElem?_set, List.getD_eq_getElem?_getD]
  by_cases c : p = i
  · subst c
    rw [if_pos rfl, if_pos rfl, if_pos (by omega)]
    rfl
  · rw [if_neg c, if_neg (by omega)]
theorem cel_out {cs : List Int} {p : Int} (h : (cs.length : Int) ≤ p) : cel cs p = 0 := by
  unfold cel
  rw [List.getD_eq_getElem?_getD, List.getElem?_eq_none (by omega)]
  rfl
theorem wt_forE' {step : Int × τ → σ → Option σ} (I : Nat → σ → Prop) {P : σ → Prop} : ∀ (ys : List τ) (k : Nat) (s : σ), I k s → (∀ i x s, ys[i]? = some x → I (k + i) s → Wt (step (((k + i : Nat) : Int), x) s) (I (k + i + 1))) → (∀ s, I (k + ys.length) s → P s) → Wt (forN step ((ys.zipIdx k).map fun p => ((p.2 : Int), p.1)) s) P
  | [], k, s, h, _, q => ⟨s, rfl, q s h⟩
  | y :: ys, k, s, h, st, q => by
    rw [List.zipIdx_cons, List.map_cons]
    unfold forN
    refine wt_bind ((st 0 y s rfl h).mon fun s' h' => wt_forE' I ys (k + 1) s' h' (fun i x s hx hi => ?_) (fun s hs => q s ?_))
    · have := st (i + 1) x s (by simpa using hx) (by rw [show k + (i + 1) = k + 1 + i by omega]; exact hi)
      rw [show k + (i + 1) = k + 1 + i by omega] at this
      exact this
    · rw [List.length_cons, show k + (ys.length + 1) = k + 1 + ys.length by omega]
      exact hs
theorem wt_forE {step : Int × τ → σ → Option σ} (I : Nat → σ → Prop) {P : σ → Prop} {xs : List τ} {s : σ} (h : I 0 s) (st : ∀ i x s, xs[i]? = some x → I i s → Wt (step ((i : Int), x) s) (I (i + 1))) (q : ∀ s, I xs.length s → P s) : Wt (forN step (enumN xs) s) P :=
  wt_forE' I xs 0 s h (fun i x s hx hi => by rw [Nat.zero_add] at hi ⊢; exact st i x s hx hi) (fun s hs => q s (by rw [Nat.zero_add] at hs; exact hs))
theorem fill_ok {base : Int} {seg c : List Int} {P : List Int → Prop} (b0 : 0 ≤ base) (b1 : base + seg.length ≤ c.length) (h : ∀ s : List Int, s.length = c.length → (∀ p, 0 ≤ p → cel s p = if base ≤ p ∧ p < base + seg.length then seg.getD (p - base).toNat 0 else cel c p) → P s) : Wt (forN (fun (x : Int × Int) (s : List Int) => (setQ s (base + x.1) x.2).bind fun u => (some u)) (enumN seg) c) P := by
  refine wt_forE (fun k s => s.length = c.length ∧ k ≤ seg.length ∧ ∀ p, 0 ≤ p → cel s p = if base ≤ p ∧ p < base + k then seg.getD (p - base).toNat 0 else cel c p) ⟨rfl, by omega, fun p _ => by rw [if_neg (by omega)]⟩ (fun i x s hx hs => ?_) (fun s hs => h s hs.1 hs.2.2)
  obtain ⟨a1, a2, a3⟩ := hs
  have hi : i < seg.length := (List.getElem?_eq_some_iff.mp hx).1
  dsimp only
  refine wt_bind (wt_set (by omega) (by omega) (wt_some ⟨by rw [List.length_set]; exact a1, by omega, fun p hp => ?_⟩))
  rw [cel_set (by omega) (by omega) hp]
  by_cases c0 : p = base + i
  · have e : (p - base).toNat = i := by omega
    rw [if_pos c0, if_pos (by omega), e, List.getD_eq_getElem?_getD, hx]
    rfl
  · rw [if_neg c0, a3 p hp]
    by_cases c1 : base ≤ p ∧ p < base + i
    · rw [if_pos c1, if_pos (by omega)]
    · rw [if_neg c1, if_neg (by omega)]
theorem ents_ok {h : Int} {P : List Int × List Int → Prop} : ∀ (es : List (Int × Int)) (c r : List Int), (∀ e ∈ es, 1 ≤ e.2 ∧ e.2 ≤ h) → 7 * h ≤ c.length → r.length + 2 * es.length ≤ 1000 →
    (∀ s : List Int × List Int, s.1.length = c.length → s.2 = r ++ fl2 es → (∀ p, 0 ≤ p → cel s.1 p = cel c p + (((es.map fun e => 7 * e.2 - 6).count p : Nat) : Int)) → P s) →
    Wt (forN (fun (x10 : Int × Int) (s9 : List Int × List Int) => ((extQ s9.2 ([x10.1, x10.2]))).bind fun p11 => ((atI s9.1 ((7 * x10.2) - 6))).bind fun v12 => (setQ s9.1 ((7 * x10.2) - 6) (v12 + 1)).bind fun u13 => (some (u13, p11))) es (c, r)) P
  | [], c, r, _, _, _, q => ⟨_, rfl, q _ rfl (by simp [fl2]) fun p _ => by simp⟩
  | e :: es, c, r, he, hc, hr, q => by
    have h1 := he e (List.mem_cons_self ..)
    rw [List.length_cons] at hr
    unfold forN
    refine wt_bind (wt_bind (wt_ext (by simp; omega) ?_))
    dsimp only
    rw [at_cel _ _ (show 0 ≤ 7 * e.2 - 6 by omega) (by omega), Option.bind_some]
    refine wt_bind (wt_set (by omega) (by omega) (wt_some ?_))
    refine ents_ok es _ _ (fun z hz => he z (List.mem_cons_of_mem _ hz)) (by rw [List.length_set]; exact hc) (by simp; omega) fun s s1 s2 s3 => q s (by rw [s1, List.length_set]) (by rw [s2]; simp [fl2]) fun p hp => ?_
    rw [s3 p hp, cel_set (by omega) (by omega) hp, List.map_cons, List.count_cons]
    by_cases c0 : p = 7 * e.2 - 6
    · subst c0
      simp
      omega
    · have : ¬ 7 * e.2 - 6 = p := fun q => c0 q.symm
      simp [c0, this]
theorem cnt7 (z : Int) : ∀ es : List (Int × Int), (es.map fun e => 7 * e.2 - 6).count (7 * z - 6) = (es.map (·.2)).count z
  | [] => rfl
  | e :: es => by
    rw [List.map_cons, List.map_cons, List.count_cons, List.count_cons, cnt7 z es]
    by_cases c : e.2 = z
    · subst c; simp
    · have : ¬ 7 * e.2 - 6 = 7 * z - 6 := by omega
      simp [c, this]
theorem cnt7n {p : Int} (es : List (Int × Int)) (h : ∀ z : Int, p ≠ 7 * z - 6) : (es.map fun e => 7 * e.2 - 6).count p = 0 := by
  rw [List.count_eq_zero]
  intro q
  obtain ⟨e, _, e2⟩ := List.mem_map.mp q
  exact h e.2 e2.symm
structure Lay (h b : Int) (m : Mo) (g : List (Int × List Int)) (dn c : List Int) : Prop where
  n : (c.length : Int) = 7 * h + 5 * b + 82
  kd : ∀ x ∈ dn, ∀ v, dGet m x = some v → cel c (7 * x - 7) = v.1 ∧ cel c (7 * x - 5) = (cont v).length ∧ cel c (7 * x - 4) = (cont v).sum
  sl : ∀ x ∈ dn, ∀ i : Nat, i < 3 → cel c (7 * x - 3 + i) = (gb g x).getD i 0
  ct : ∀ x, 1 ≤ x → x ≤ h → cel c (7 * x - 6) = ((namedIn m dn).count x : Nat)
  fr : ∀ x, 1 ≤ x → x ≤ h → x ∉ dn → cel c (7 * x - 7) = 0 ∧ cel c (7 * x - 5) = 0 ∧ cel c (7 * x - 4) = 0 ∧ ∀ i : Nat, i < 3 → cel c (7 * x - 3 + i) = 0
  mp : ∀ y, 1 ≤ y → y ≤ b → cel c (7 * h + y - 1) = if y ∈ dn.flatMap (gb g) then 1 else 0
  bc : ∀ x ∈ dn, ∀ v, dGet m x = some v → ∀ (i : Nat) (y : Int), (gb g x)[i]? = some y → ∀ k : Nat, k < 4 → cel c (7 * h + b + 4 * y - 4 + k) = (cont v).getD (4 * i + k) 0
  br : ∀ y, 1 ≤ y → y ≤ b → y ∉ dn.flatMap (gb g) → ∀ k : Nat, k < 4 → cel c (7 * h + b + 4 * y - 4 + k) = 0
  lg : ∀ p, 7 * h + 5 * b ≤ p → cel c p = 0
theorem Lay.step {h b : Int} {m : Mo} {g : List (Int × List Int)} {dn c0 : List Int} (L : Lay h b m g dn c0) (hdn : ∀ y ∈ dn, 1 ≤ y ∧ y ≤ h) (hgb : ∀ y ∈ dn, ∀ z ∈ gb g y, 1 ≤ z ∧ z ≤ b) {x : Int} {v : Int × List D} (hx : x ∉ dn) (x1 : 1 ≤ x) (xh : x ≤ h) (hv : dGet m x = some v) {bs : List Int} (hbs : gb g x = bs) (l3 : bs.length ≤ 3) (bb : ∀ y ∈ bs, 1 ≤ y ∧ y ≤ b) (dj : ∀ y ∈ bs, y ∉ dn.flatMap (gb g)) (he : ∀ e ∈ rw2 v, e.2 ≤ h) (b0 : 0 ≤ b)
    {c1 c2 c3 : List Int} (C1 : ∀ p, 0 ≤ p → cel c1 p = cel c0 p + ((((rw2 v).map fun e => 7 * e.2 - 6).count p : Nat) : Int))
    (C2 : ∀ p, 0 ≤ p → cel c2 p = if p = 7 * x - 4 then (cont v).sum else if p = 7 * x - 5 then ((cont v).length : Int) else if p = 7 * x - 7 then v.1 else cel c1 p)
    (n3 : c3.length = c0.length) (Ca : ∀ (i : Nat) (y : Int), bs[i]? = some y → cel c3 (7 * x - 3 + i) = y ∧ cel c3 (7 * h + y - 1) = 1 ∧ ∀ k : Nat, k < 4 → cel c3 (7 * h + b + 4 * y - 4 + k) = (cont v).getD (4 * i + k) 0)
    (Cb : ∀ p, 0 ≤ p → (∀ (i : Nat) (y : Int), bs[i]? = some y → p ≠ 7 * x - 3 + i ∧ p ≠ 7 * h + y - 1 ∧ (p < 7 * h + b + 4 * y - 4 ∨ 7 * h + b + 4 * y ≤ p)) → cel c3 p = cel c2 p) : Lay h b m g (dn ++ [x]) c3 := by
  have bi : ∀ (i : Nat) (y : Int), bs[i]? = some y → i < 3 ∧ 1 ≤ y ∧ y ≤ b := fun i y e => by
    have q := (List.getElem?_eq_some_iff.mp e).1
    have q2 := bb y (List.mem_of_getElem? e)
    omega
  -- what stands in the heads and isn't one of x
  have far : ∀ p, 0 ≤ p → p < 7 * h → (p < 7 * x - 7 ∨ 7 * x ≤ p) → cel c3 p = cel c0 p + ((((rw2 v).map fun e => 7 * e.2 - 6).count p : Nat) : Int) := fun p p0 p1 p2 => by
    rw [Cb p p0 fun i y e => by have := bi i y e; omega, C2 p p0, if_neg (by omega), if_neg (by omega), if_neg (by omega), C1 p p0]
  have own : ∀ p, 7 * x - 7 ≤ p → p < 7 * x → (∀ (i : Nat) (y : Int), bs[i]? = some y → p ≠ 7 * x - 3 + i) → cel c3 p = cel c2 p := fun p p0 p1 p2 => Cb p (by omega) fun i y e => ⟨p2 i y e, by have := bi i y e; omega, by have := bi i y e; omega⟩
  have beh : ∀ p, 7 * h ≤ p → (∀ (i : Nat) (y : Int), bs[i]? = some y → p ≠ 7 * h + y - 1 ∧ (p < 7 * h + b + 4 * y - 4 ∨ 7 * h + b + 4 * y ≤ p)) → cel c3 p = cel c0 p + ((((rw2 v).map fun e => 7 * e.2 - 6).count p : Nat) : Int) := fun p p0 p2 => by
    rw [Cb p (by omega) fun i y e => ⟨by have := bi i y e; omega, (p2 i y e).1, (p2 i y e).2⟩, C2 p (by omega), if_neg (by omega), if_neg (by omega), if_neg (by omega), C1 p (by omega)]
  have hcn : ∀ p, 7 * h ≤ p → ((rw2 v).map fun e => 7 * e.2 - 6).count p = 0 := fun p p0 => by
    rw [List.count_eq_zero]
    intro r
    obtain ⟨e, he', e2⟩ := List.mem_map.mp r
    have := he e he'
    omega
  have ef : ∀ z, z ∈ (dn ++ [x]).flatMap (gb g) ↔ z ∈ dn.flatMap (gb g) ∨ z ∈ bs := fun z => by
    rw [List.flatMap_append, List.mem_append, List.flatMap_cons, List.flatMap_nil, List.append_nil, hbs]
  have en : ∀ z, (namedIn m (dn ++ [x])).count z = (namedIn m dn).count z + ((rw2 v).map (·.2)).count z := fun z => by
    unfold namedIn
    rw [List.flatMap_append, List.count_append, List.flatMap_cons, List.flatMap_nil, List.append_nil, hv]
  have inb : ∀ z ∈ bs, ∃ i : Nat, bs[i]? = some z := fun z hz => List.mem_iff_getElem?.mp hz
  refine ⟨by rw [n3]; exact L.n, fun y hy w hw => ?_, fun y hy i hi => ?_, fun y y1 yh => ?_, fun y y1 yh hy => ?_, fun y y1 yb => ?_, fun y hy w hw i z hz k hk => ?_, fun y y1 yb hy k hk => ?_, fun p hp => ?_⟩
  · rcases List.mem_append.mp hy with hy | hy
    · have hd := hdn y hy
      have yx : y ≠ x := fun q => hx (q ▸ hy)
      obtain ⟨k1, k2, k3⟩ := L.kd y hy w hw
      refine ⟨?_, ?_, ?_⟩
      · rw [far _ (by omega) (by omega) (by omega), cnt7n _ (by omega), k1]; simp
      · rw [far _ (by omega) (by omega) (by omega), cnt7n _ (by omega), k2]; simp
      · rw [far _ (by omega) (by omega) (by omega), cnt7n _ (by omega), k3]; simp
    · rw [List.mem_singleton] at hy
      subst hy
      rw [hv] at hw
      cases hw
      refine ⟨?_, ?_, ?_⟩
      · rw [own _ (by omega) (by omega) (by omega), C2 _ (by omega), if_neg (by omega), if_neg (by omega), if_pos rfl]
      · rw [own _ (by omega) (by omega) (by omega), C2 _ (by omega), if_neg (by omega), if_pos rfl]
      · rw [own _ (by omega) (by omega) (by omega), C2 _ (by omega), if_pos rfl]
  · rcases List.mem_append.mp hy with hy | hy
    · have hd := hdn y hy
      have yx : y ≠ x := fun q => hx (q ▸ hy)
      rw [far _ (by omega) (by omega) (by omega), cnt7n _ (by omega), L.sl y hy i hi]; simp
    · rw [List.mem_singleton] at hy
      subst hy
      rw [hbs]
      by_cases c : i < bs.length
      · have e := List.getElem?_eq_getElem c
        rw [(Ca i _ e).1, List.getD_eq_getElem?_getD, e]
        rfl
      · have e : bs[i]? = none := List.getElem?_eq_none (by omega)
        rw [own _ (by omega) (by omega) (fun j z ej => by
          have := (List.getElem?_eq_some_iff.mp ej).1
          omega), C2 _ (by omega), if_neg (by omega), if_neg (by omega), if_neg (by omega), C1 _ (by omega), cnt7n _ (by omega), ((L.fr y x1 xh hx).2.2.2 i hi), List.getD_eq_getElem?_getD, e]
        rfl
  · rw [en]
    by_cases c : y = x
    · subst c
      rw [own _ (by omega) (by omega) (by omega), C2 _ (by omega), if_neg (by omega), if_neg (by omega), if_neg (by omega), C1 _ (by omega), cnt7, L.ct y y1 yh]
      simp
    · rw [far _ (by omega) (by omega) (by omega), cnt7, L.ct y y1 yh]
      simp
  · have hn : y ∉ dn := fun q => hy (List.mem_append.mpr (.inl q))
    have yx : y ≠ x := fun q => hy (List.mem_append.mpr (.inr (List.mem_singleton.mpr q)))
    obtain ⟨k1, k2, k3, k4⟩ := L.fr y y1 yh hn
    refine ⟨?_, ?_, ?_, fun i hi => ?_⟩
    · rw [far _ (by omega) (by omega) (by omega), cnt7n _ (by omega), k1]; simp
    · rw [far _ (by omega) (by omega) (by omega), cnt7n _ (by omega), k2]; simp
    · rw [far _ (by omega) (by omega) (by omega), cnt7n _ (by omega), k3]; simp
    · rw [far _ (by omega) (by omega) (by omega), cnt7n _ (by omega), k4 i hi]; simp
  · by_cases c : y ∈ bs
    · obtain ⟨i, e⟩ := inb y c
      rw [(Ca i y e).2.1, if_pos ((ef y).mpr (.inr c))]
    · have hy : ∀ (i : Nat) (z : Int), bs[i]? = some z → z ≠ y := fun i z e q => c (q ▸ List.mem_of_getElem? e)
      rw [beh _ (by omega) (fun i z e => by have := bi i z e; have := hy i z e; omega), hcn _ (by omega), L.mp y y1 yb]
      have : (y ∈ (dn ++ [x]).flatMap (gb g)) ↔ y ∈ dn.flatMap (gb g) := by rw [ef]; simp [c]
      by_cases d : y ∈ dn.flatMap (gb g)
      · rw [if_pos d, if_pos (this.mpr d)]; simp
      · rw [if_neg d, if_neg (fun q => d (this.mp q))]; simp
  · rcases List.mem_append.mp hy with hy | hy
    · have hz0 := List.mem_of_getElem? hz
      have hzb := hgb y hy z hz0
      have hzd : z ∈ dn.flatMap (gb g) := List.mem_flatMap.mpr ⟨y, hy, hz0⟩
      have hne : ∀ (i : Nat) (u : Int), bs[i]? = some u → u ≠ z := fun i u e q => dj u (List.mem_of_getElem? e) (q ▸ hzd)
      rw [beh _ (by omega) (fun i u e => by have := bi i u e; have := hne i u e; omega), hcn _ (by omega), L.bc y hy w hw i z hz k hk]
      simp
    · rw [List.mem_singleton] at hy
      subst hy
      rw [hv] at hw
      cases hw
      rw [hbs] at hz
      exact (Ca i z hz).2.2 k hk
  · have hn : y ∉ dn.flatMap (gb g) := fun q => hy ((ef y).mpr (.inl q))
    have hne : ∀ (i : Nat) (u : Int), bs[i]? = some u → u ≠ y := fun i u e q => hy ((ef y).mpr (.inr (q ▸ List.mem_of_getElem? e)))
    rw [beh _ (by omega) (fun i u e => by have := bi i u e; have := hne i u e; omega), hcn _ (by omega), L.br y y1 yb hn k hk]
    simp
  · rw [beh _ (by omega) (fun i u e => by have := bi i u e; omega), hcn _ (by omega), L.lg p hp]
    simp

structure GX (h b : Int) (m : Mo) (g : List (Int × List Int)) : Prop where
  has : ∀ x ∈ ks m, ∃ bs, dGet g x = some bs
  two : dGet g 2 = some [1, 2, 3]
  len : ∀ x v, dGet m x = some v → x ≠ 2 → ((gb g x).length : Int) = needs v.1 v.2
  nd : ((ks m).flatMap (gb g)).Nodup
  bd : ∀ x ∈ ks m, ∀ y ∈ gb g x, 1 ≤ y ∧ y ≤ b ∧ (x ≠ 2 → 4 ≤ y)
theorem seg_get (row : List Int) (k t : Nat) (ht : t < 4) : (t < (cutL row (some (4 * (k : Int))) (some (4 * (k : Int) + 4))).length → (cutL row (some (4 * (k : Int))) (some (4 * (k : Int) + 4))).getD t 0 = row.getD (4 * k + t) 0) ∧ ((cutL row (some (4 * (k : Int))) (some (4 * (k : Int) + 4))).length ≤ t → row.getD (4 * k + t) 0 = 0) ∧ (cutL row (some (4 * (k : Int))) (some (4 * (k : Int) + 4))).length ≤ 4 := by
  have e : cutL row (some (4 * (k : Int))) (some (4 * (k : Int) + 4)) = (row.drop (min (4 * k) row.length)).take (min (4 * k + 4) row.length - min (4 * k) row.length) := by
    rw [show (4 * (k : Int)) = ((4 * k : Nat) : Int) by omega, show (((4 * k : Nat) : Int) + 4) = ((4 * k + 4 : Nat) : Int) by omega]
    exact cut_nat
  rw [e, List.length_take, List.length_drop]
  refine ⟨fun h => ?_, fun h => ?_, by omega⟩
  · rw [List.getD_eq_getElem?_getD, List.getD_eq_getElem?_getD, List.getElem?_take, if_pos (by omega), List.getElem?_drop, Nat.min_eq_left (by omega)]
  · rw [List.getD_eq_getElem?_getD, List.getElem?_eq_none (by omega)]
    rfl
theorem blocks_ok {h b x : Int} {row bs c2 : List Int} (x1 : 1 ≤ x) (xh : x ≤ h) (b0 : 0 ≤ b) (n2 : (c2.length : Int) = 7 * h + 5 * b + 82) (l3 : bs.length ≤ 3) (bb : ∀ y ∈ bs, 1 ≤ y ∧ y ≤ b) (nd : bs.Nodup) (z0 : ∀ y ∈ bs, ∀ t : Nat, t < 4 → cel c2 (7 * h + b + 4 * y - 4 + t) = 0) {P : List Int → Prop}
    (hP : ∀ c3 : List Int, c3.length = c2.length → (∀ (i : Nat) (y : Int), bs[i]? = some y → cel c3 (7 * x - 3 + i) = y ∧ cel c3 (7 * h + y - 1) = 1 ∧ ∀ k : Nat, k < 4 → cel c3 (7 * h + b + 4 * y - 4 + k) = row.getD (4 * i + k) 0) →
      (∀ p, 0 ≤ p → (∀ (i : Nat) (y : Int), bs[i]? = some y → p ≠ 7 * x - 3 + i ∧ p ≠ 7 * h + y - 1 ∧ (p < 7 * h + b + 4 * y - 4 ∨ 7 * h + b + 4 * y ≤ p)) → cel c3 p = cel c2 p) → P c3) :
    Wt (forN (fun (x19 : Int × Int) (s18 : List Int) => (setQ s18 (((7 * x) - 3) + x19.1) x19.2).bind fun u20 => (setQ u20 (((7 * h) + x19.2) - 1) 1).bind fun u21 => (forN (fun (x23 : Int × Int) (s22 : List Int) => (setQ s22 (((((7 * h) + b) + (4 * x19.2)) - 4) + x23.1) x23.2).bind fun u24 => (some u24)) (enumN (cutL row (some (4 * x19.1)) (some ((4 * x19.1) + 4)))) u21).bind fun s22 => (some s22)) (enumN bs) c2) P := by
  refine wt_forE (fun k c => c.length = c2.length ∧ k ≤ bs.length ∧ (∀ (i : Nat) (y : Int), i < k → bs[i]? = some y → cel c (7 * x - 3 + i) = y ∧ cel c (7 * h + y - 1) = 1 ∧ ∀ k : Nat, k < 4 → cel c (7 * h + b + 4 * y - 4 + k) = row.getD (4 * i + k) 0) ∧
    ∀ p, 0 ≤ p → (∀ (i : Nat) (y : Int), i < k → bs[i]? = some y → p ≠ 7 * x - 3 + i ∧ p ≠ 7 * h + y - 1 ∧ (p < 7 * h + b + 4 * y - 4 ∨ 7 * h + b + 4 * y ≤ p)) → cel c p = cel c2 p) ⟨rfl, Nat.zero_le _, fun i y q => by omega, fun p _ _ => rfl⟩ (fun k y c hy hc => ?_) (fun c hc => ?_)
  · obtain ⟨a1, a2, a3, a4⟩ := hc
    have hk := (List.getElem?_eq_some_iff.mp hy).1
    have hyb := bb y (List.mem_of_getElem? hy)
    have hne : ∀ (i : Nat) (z : Int), i < k → bs[i]? = some z → z ≠ y ∧ 1 ≤ z ∧ z ≤ b := fun i z hi hz => by
      have hzb := bb z (List.mem_of_getElem? hz)
      refine ⟨fun q => ?_, hzb⟩
      subst q
      obtain ⟨u1, u2⟩ := List.getElem?_eq_some_iff.mp hy
      obtain ⟨w1, w2⟩ := List.getElem?_eq_some_iff.mp hz
      have := (List.getElem_inj nd).mp (w2.trans u2.symm)
      omega
    dsimp only
    refine wt_bind (wt_set (by omega) (by omega) ?_)
    refine wt_bind (wt_set (by omega) (by rw [List.length_set]; omega) ?_)
    have s4 := (seg_get row k 0 (by omega)).2.2
    refine wt_bind (fill_ok (by omega) (by rw [List.length_set, List.length_set]; omega) fun s s1 s2 => wt_some ?_)
    rw [List.length_set, List.length_set] at s1
    have s3 : ∀ p, 0 ≤ p → cel s p = if 7 * h + b + 4 * y - 4 ≤ p ∧ p < 7 * h + b + 4 * y - 4 + ((cutL row (some (4 * (k : Int))) (some (4 * (k : Int) + 4))).length : Int) then (cutL row (some (4 * (k : Int))) (some (4 * (k : Int) + 4))).getD (p - (7 * h + b + 4 * y - 4)).toNat 0 else if p = 7 * h + y - 1 then 1 else if p = 7 * x - 3 + k then y else cel c p := fun p hp => by
      rw [s2 p hp, cel_set (by omega) (by rw [List.length_set]; omega) hp, cel_set (by omega) (by omega) hp]
    refine ⟨by omega, by omega, fun i z hi hz => ?_, fun p hp q => ?_⟩
    · by_cases ci : i = k
      · subst ci
        rw [hy] at hz
        cases hz
        refine ⟨?_, ?_, fun t ht => ?_⟩
        · rw [s3 _ (by omega), if_neg (by omega), if_neg (by omega), if_pos rfl]
        · rw [s3 _ (by omega), if_neg (by omega), if_pos rfl]
        · obtain ⟨g1, g2, _⟩ := seg_get row i t ht
          rw [s3 _ (by omega)]
          by_cases ct : t < (cutL row (some (4 * (i : Int))) (some (4 * (i : Int) + 4))).length
          · rw [if_pos (by omega), show (7 * h + b + 4 * y - 4 + (t : Int) - (7 * h + b + 4 * y - 4)).toNat = t by omega]
            exact g1 ct
          · rw [if_neg (by omega), if_neg (by omega), if_neg (by omega), a4 _ (by omega) (fun j z hj hz => by have := hne j z hj hz; omega), z0 y (List.mem_of_getElem? hy) t ht, g2 (by omega)]
      · have hz' := hne i z (by omega) hz
        obtain ⟨e1, e2, e3⟩ := a3 i z (by omega) hz
        refine ⟨?_, ?_, fun t ht => ?_⟩
        · rw [s3 _ (by omega), if_neg (by omega), if_neg (by omega), if_neg (by omega)]; exact e1
        · rw [s3 _ (by omega), if_neg (by omega), if_neg (by omega), if_neg (by omega)]; exact e2
        · rw [s3 _ (by omega), if_neg (by omega), if_neg (by omega), if_neg (by omega)]; exact e3 t ht
    · have qk := q k y (by omega) hy
      rw [s3 p hp, if_neg (by omega), if_neg (by omega), if_neg (by omega)]
      exact a4 p hp fun i z hi hz => q i z (by omega) hz
  · exact hP c hc.1 (fun i y hy => hc.2.2.1 i y (List.getElem?_eq_some_iff.mp hy).1 hy) fun p hp q => hc.2.2.2 p hp fun i y _ hy => q i y hy
theorem mapM_eq {α β : Type} {f : α → Option β} (g : α → β) : ∀ ds : List α, (∀ d ∈ ds, f d = some (g d)) → List.mapM f ds = some (ds.map g)
  | [], _ => rfl
  | d :: ds, h => by
    rw [List.mapM_cons, h d (List.mem_cons_self ..), mapM_eq g ds fun x hx => h x (List.mem_cons_of_mem _ hx)]
    rfl
theorem cel_rep (n : Nat) (p : Int) : cel (List.replicate n 0) p = 0 := by
  unfold cel
  rw [List.getD_eq_getElem?_getD, List.getElem?_replicate]
  split <;> rfl
theorem Lay.zero {h b : Int} {m : Mo} {g : List (Int × List Int)} (hn : 0 ≤ 7 * h + 5 * b + 82) : Lay h b m g [] (List.replicate (7 * h + 5 * b + 82).toNat 0) :=
  ⟨by rw [List.length_replicate]; omega, fun _ h => (nomatch h), fun _ h => (nomatch h), fun x _ _ => by rw [cel_rep]; rfl, fun x _ _ _ => ⟨cel_rep _ _, cel_rep _ _, cel_rep _ _, fun i _ => cel_rep _ _⟩, fun y _ _ => by rw [cel_rep]; rfl, fun _ h => (nomatch h), fun y _ _ _ k _ => cel_rep _ _, fun p _ => cel_rep _ _⟩
theorem laid_ex {h b : Int} {m : Mo} {g : List (Int × List Int)} (i : MI h b 60 m) (j : MX m 0) (gx : GX h b m g) (h2 : 2 ≤ h) (h8 : h ≤ 8) (b3 : 3 ≤ b) (b12 : b ≤ 12) {P : Int × Int × List Int → Prop} (hP : ∀ c, Lay h b m g (ks m) c → P (h, b, c)) : Wt (N_l_laid h b m g) P := by
  have hml := i.ml
  unfold N_l_laid lenN
  refine wt_bind (wt_rep (by omega) (by omega) ?_)
  refine wt_bind (wt_for (fun ys c => ∃ dn, ks m = dn ++ ys ∧ Lay h b m g dn c) ⟨[], rfl, Lay.zero (by omega)⟩ (fun x xs c hc => ?_) (fun c hc => ?_))
  · obtain ⟨dn, ek, L⟩ := hc
    have hxm : x ∈ ks m := by rw [ek]; simp
    have hxb := i.kb x hxm
    have hnd := i.nd
    rw [ek] at hnd
    have hxd : x ∉ dn := fun q => (List.nodup_append.mp hnd).2.2 x q x (List.mem_cons_self ..) rfl
    have hdm : ∀ y ∈ dn, y ∈ ks m := fun y hy => by rw [ek]; exact List.mem_append.mpr (.inl hy)
    refine wt_bind (wt_get hxm fun v ev hv => ?_)
    have hrow : ∃ c7 v8, List.mapM asI (if (decide (v.1 = 1)) then v.2 else []) = some c7 ∧ List.mapM (asP2 asI asI) (if (decide (v.1 = 2)) then v.2 else []) = some v8 ∧ v8 = rw2 v ∧ c7 ++ fl2 v8 = cont v ∧ c7.length ≤ 60 ∧ v8.length ≤ 60 := by
      have hl := i.len _ hv
      dsimp only at hl
      rcases i.ent _ hv with ⟨e, q⟩ | ⟨e, q⟩
      · dsimp only at e q
        obtain ⟨_, q2, _⟩ := j.fo _ hv e
        refine ⟨[], v.2.map pr1, ?_, ?_, ?_, ?_, by simp, by rw [List.length_map]; omega⟩
        · rw [if_neg (by rw [e]; decide)]; rfl
        · rw [if_pos (by rw [e]; decide)]
          exact mapM_eq pr1 _ fun d hd => by
            obtain ⟨a, c, rfl⟩ := q2 d hd
            rfl
        · unfold rw2
          rw [if_pos e]
        · unfold cont
          rw [if_pos e]
          rfl
      · dsimp only at e q
        refine ⟨v.2.map iv1, [], ?_, ?_, ?_, ?_, by rw [List.length_map]; omega, by simp⟩
        · rw [if_pos (by rw [e]; decide)]
          exact mapM_eq iv1 _ fun d hd => by
            obtain ⟨a, rfl, _⟩ := q d hd
            rfl
        · rw [if_neg (by rw [e]; decide)]; rfl
        · unfold rw2
          rw [if_neg (by rw [e]; decide)]
        · unfold cont fl2
          rw [if_neg (by rw [e]; decide), List.append_nil]
    obtain ⟨c7, v8, e7, e8, er, ec, l7, l8⟩ := hrow
    refine wt_bind ⟨c7, e7, ?_⟩
    refine wt_bind ⟨v8, e8, ?_⟩
    have hn := L.n
    have hoh : ∀ e ∈ v8, 1 ≤ e.2 ∧ e.2 ≤ h := fun e he => by
      have hnm : e.2 ∈ named m := List.mem_flatMap.mpr ⟨_, hv, List.mem_map.mpr ⟨e, er ▸ he, rfl⟩⟩
      exact i.kb _ (j.nm hnm).1
    refine wt_bind (ents_ok (h := h) v8 c c7 hoh (by omega) (by omega) fun s s1 s2 s3 => ?_)
    rw [ec] at s2
    rw [er] at s3
    rw [s2]
    refine wt_bind (wt_set (by omega) (by omega) ?_)
    refine wt_bind (wt_set (by omega) (by rw [List.length_set]; omega) ?_)
    refine wt_bind (wt_set (by omega) (by rw [List.length_set, List.length_set]; omega) ?_)
    obtain ⟨bs, ebs⟩ := gx.has x hxm
    have hgb : gb g x = bs := by unfold gb; rw [ebs]; rfl
    rw [ebs, Option.bind_some]
    have C2 : ∀ p, 0 ≤ p → cel (((s.1.set (7 * x - 7).toNat v.1).set (7 * x - 5).toNat ((cont v).length : Int)).set (7 * x - 4).toNat (cont v).sum) p = if p = 7 * x - 4 then (cont v).sum else if p = 7 * x - 5 then ((cont v).length : Int) else if p = 7 * x - 7 then v.1 else cel s.1 p := fun p hp => by
      rw [cel_set (by omega) (by rw [List.length_set, List.length_set]; omega) hp, cel_set (by omega) (by rw [List.length_set]; omega) hp, cel_set (by omega) (by omega) hp]
    have hl2 : ((((s.1.set (7 * x - 7).toNat v.1).set (7 * x - 5).toNat ((cont v).length : Int)).set (7 * x - 4).toNat (cont v).sum).length : Int) = 7 * h + 5 * b + 82 := by
      rw [List.length_set, List.length_set, List.length_set, s1]
      exact hn
    revert C2 hl2
    generalize (((s.1.set (7 * x - 7).toNat v.1).set (7 * x - 5).toNat ((cont v).length : Int)).set (7 * x - 4).toNat (cont v).sum) = c2
    intro C2 hl2
    have hnd2 := gx.nd
    rw [ek, List.flatMap_append, List.flatMap_cons, hgb] at hnd2
    have hnd3 := List.nodup_append.mp hnd2
    have hnd4 := List.nodup_append.mp hnd3.2.1
    have dj : ∀ y ∈ bs, y ∉ dn.flatMap (gb g) := fun y hy q => hnd3.2.2 y q y (List.mem_append.mpr (.inl hy)) rfl
    have bb : ∀ y ∈ bs, 1 ≤ y ∧ y ≤ b := fun y hy => by have := gx.bd x hxm y (by rw [hgb]; exact hy); exact ⟨this.1, this.2.1⟩
    have l3 : bs.length ≤ 3 := by
      by_cases c2 : x = 2
      · subst c2
        have := gx.two
        rw [ebs] at this
        cases this
        exact Nat.le_refl _
      · have q := gx.len x v ev c2
        rw [hgb] at q
        unfold needs at q
        rcases i.ent _ hv with ⟨e, _⟩ | ⟨e, _⟩
        · have := (j.fo _ hv e).1
          dsimp only at e this
          rw [e] at q
          omega
        · have := (j.fi _ hv e).1
          dsimp only at e this
          rw [e] at q
          omega
    refine wt_bind (blocks_ok (row := cont v) hxb.1 hxb.2 (by omega) hl2 l3 bb hnd4.1 (fun y hy t ht => ?_) fun c3 n3 Ca Cb => wt_some ⟨dn ++ [x], by rw [ek]; simp, ?_⟩)
    · have hyb := bb y hy
      have e0 : ((rw2 v).map fun e => 7 * e.2 - 6).count (7 * h + b + 4 * y - 4 + (t : Int)) = 0 := by
        rw [List.count_eq_zero]
        intro r
        obtain ⟨e, he', e2⟩ := List.mem_map.mp r
        have := hoh e (er ▸ he')
        omega
      rw [C2 _ (by omega), if_neg (by omega), if_neg (by omega), if_neg (by omega), s3 _ (by omega), e0, L.br y hyb.1 hyb.2 (dj y hy) t ht]
      rfl
    · exact L.step (fun y hy => i.kb y (hdm y hy)) (fun y hy z hz => ⟨(gx.bd y (hdm y hy) z hz).1, (gx.bd y (hdm y hy) z hz).2.1⟩) hxd hxb.1 hxb.2 ev hgb l3 bb dj (fun e he => (hoh e (er ▸ he)).2) (by omega) s3 C2 (by omega) Ca Cb
  · obtain ⟨dn, ek, L⟩ := hc
    rw [List.append_nil] at ek
    subst ek
    exact wt_some (hP _ L)

theorem dGet_putG {β : Type} (m : List (Int × β)) (k : Int) (v : β) (x : Int) : dGet (dPut m k v) x = if x = k then some v else dGet m x := by
  unfold dPut
  by_cases c : m.any (fun p => decide (p.1 = k)) = true
  · rw [if_pos c]
    have eq : ∀ p : Int × β, (if p.1 = k then (p.1, v) else p).1 = p.1 := fun p => by split <;> rfl
    have e0 : (m.map fun p => if p.1 = k then (p.1, v) else p).find? (fun p => decide (p.1 = x)) = (m.find? fun p => decide (p.1 = x)).map fun p => if p.1 = k then (p.1, v) else p := by
      rw [List.find?_map]
      congr 1
      congr 1
      funext p
      simp only [Function.comp, eq]
    unfold dGet
    rw [e0]
    cases e1 : m.find? (fun p => decide (p.1 = x)) with
    | none =>
      by_cases e : x = k
      · subst e
        obtain ⟨p, hp, q⟩ := List.any_eq_true.mp c
        exact absurd q (List.find?_eq_none.mp e1 p hp)
      · rw [if_neg e]; rfl
    | some p =>
      have hp0 := List.find?_some e1
      have hp := of_decide_eq_true hp0
      by_cases e : x = k
      · rw [if_pos e]
        simp [hp, e]
      · rw [if_neg e]
        simp [hp, e]
  · rw [if_neg c]
    unfold dGet
    rw [List.find?_append]
    by_cases e : x = k
    · subst e
      have : m.find? (fun p => decide (p.1 = x)) = none := by
        rw [List.find?_eq_none]
        intro p hp q
        exact c (List.any_eq_true.mpr ⟨p, hp, q⟩)
      rw [this, if_pos rfl]
      simp
    · rw [if_neg e]
      have : ([(k, v)] : List (Int × β)).find? (fun p => decide (p.1 = x)) = none := by
        rw [List.find?_eq_none]
        intro p hp q
        rw [List.mem_singleton] at hp
        subst hp
        exact e (of_decide_eq_true q).symm
      rw [this, Option.or_none]
theorem gb_put (g : List (Int × List Int)) (x : Int) (ws : List Int) (y : Int) : gb (dPut g x ws) y = if y = x then ws else gb g y := by
  unfold gb
  rw [dGet_putG]
  split <;> rfl
theorem perm_erase {xs : List Int} {i : Nat} (h : i < xs.length) : (xs[i]'h :: xs.eraseIdx i).Perm xs := by
  induction xs generalizing i with
  | nil => exact absurd h (by simp)
  | cons x xs ih =>
    cases i with
    | zero => exact List.Perm.refl _
    | succ i =>
      rw [List.getElem_cons_succ, List.eraseIdx_cons_succ]
      have := ih (i := i) (by simpa using h)
      exact (List.Perm.swap x _ _).trans (List.Perm.cons x this)
theorem pops_ok {P : List Int × (Dk × List Int) → Prop} : ∀ (zs : List Int) (k : Dk) (sp : List Int), k.cs.length ≤ 63 → sp.length ≤ 1000 → zs.length ≤ sp.length → (∀ ws (k' : Dk) sp', ws.length = zs.length → (ws ++ sp').Perm sp → k'.cs.length ≤ 63 → P (ws, (k', sp'))) →
    Wt (mapS (fun (x20 : Int) (s19 : Dk × List Int) => (((((drawN s19.1 (lenN s19.2))).bind fun r21 => (popAtQ s19.2 r21.1).map fun v23 => (r21, v23))).map fun p22 => (p22.2.1, (p22.1.2, p22.2.2)))) zs (k, sp)) P
  | [], k, sp, hk, _, _, q => ⟨_, rfl, q [] k sp rfl (List.Perm.refl _) hk⟩
  | z :: zs, k, sp, hk, hs, hz, q => by
    rw [List.length_cons] at hz
    unfold mapS lenN
    dsimp only
    repeat (first | (with_reducible refine wt_bind ?_) | (with_reducible refine wt_map ?_) | (with_reducible refine wt_letC ?_) | (with_reducible refine wt_draw (by assumption) (by omega) (by omega) ?_; intro _ _ _ _ _; dsimp only))
    rename_i r0 kr hr0 hr1 hkr
    refine wt_popAt hr0 hr1 (by omega) fun hh => ?_
    have e4 := List.length_eraseIdx_of_lt hh
    dsimp only
    repeat (first | (with_reducible refine wt_bind ?_) | (with_reducible refine wt_map ?_) | (with_reducible refine wt_letC ?_) | (with_reducible refine wt_draw (by assumption) (by omega) (by omega) ?_; intro _ _ _ _ _; dsimp only))
    refine pops_ok zs kr _ hkr (by omega) (by omega) fun ws k' sp' h1 h2 h3 => q _ _ _ (by simp [h1]) ?_ h3
    rw [List.cons_append]
    exact (List.Perm.cons _ h2).trans (perm_erase hh)
theorem given_ex {k : Dk} {h b : Int} {m : Mo} (hk : k.cs.length ≤ 63) (i : MI h b 60 m) (b3 : 3 ≤ b) (b12 : b ≤ 12) {P : List (Int × List Int) × Dk → Prop} (hP : ∀ g k', GX h b m g → k'.cs.length ≤ 63 → P (g, k')) : Wt (N_l_given k m b) P := by
  have hml := i.ml
  unfold N_l_given lenN
  repeat (first | (with_reducible refine wt_bind ?_) | (with_reducible refine wt_map ?_) | (with_reducible refine wt_letC ?_) | (with_reducible refine wt_draw (by assumption) (by omega) (by omega) ?_; intro _ _ _ _ _; dsimp only))
  refine wt_rgQ (by omega) (by omega) (by omega) (by omega) ?_
  repeat (first | (with_reducible refine wt_bind ?_) | (with_reducible refine wt_map ?_) | (with_reducible refine wt_letC ?_) | (with_reducible refine wt_draw (by assumption) (by omega) (by omega) ?_; intro _ _ _ _ _; dsimp only))
  refine wt_sortK (by omega) fun xs pm => ?_
  have hlen : xs.length = m.length := by rw [pm.length_eq, List.length_map]
  have hxn : xs.Nodup := pm.nodup_iff.mpr i.nd
  have hx2 : 2 ∈ xs := pm.mem_iff.mpr i.k2
  repeat (first | (with_reducible refine wt_bind ?_) | (with_reducible refine wt_map ?_) | (with_reducible refine wt_letC ?_) | (with_reducible refine wt_draw (by assumption) (by omega) (by omega) ?_; intro _ _ _ _ _; dsimp only))
  refine wt_for (fun ys (s : Dk × List Int × List (Int × List Int)) => ∃ dn, xs = dn ++ ys ∧ s.1.cs.length ≤ 63 ∧ s.2.1.length ≤ 12 ∧ sm m ys ≤ s.2.1.length ∧ (((dn.filter fun x => !decide (x = 2)).flatMap (gb s.2.2)) ++ s.2.1).Perm (rngN 4 (b - 3).toNat) ∧ (∀ x ∈ dn, ∃ bs, dGet s.2.2 x = some bs) ∧ dGet s.2.2 2 = some [1, 2, 3] ∧ (∀ x ∈ dn, x ≠ 2 → ∀ v, dGet m x = some v → ((gb s.2.2 x).length : Int) = needs v.1 v.2) ∧ s.2.2.length + ys.length ≤ 100) ⟨[], rfl, hk, ?_, ?_, ?_, (fun _ h => nomatch h), rfl, (fun _ h => nomatch h), ?_⟩ (fun y ys s hs => ?_) (fun s hs => ?_)
  · simp only [len_rngN]; omega
  · rw [sm_perm m pm]
    have := i.lf
    simp only [len_rngN]
    show sm m (ks m) ≤ _
    omega
  · dsimp only
    rw [List.filter_nil, List.flatMap_nil, List.nil_append, show b + 1 - 4 = b - 3 by omega]
  · simp only [List.length_cons, List.length_nil]; omega
  · obtain ⟨k1, sp, g⟩ := s
    obtain ⟨dn, e0, a1, a2, a4, a5, a6, a7, a8, a9⟩ := hs
    dsimp only at a1 a2 a4 a5 a6 a7 a8 a9 ⊢
    rw [List.length_cons] at a9
    rw [sm_cons] at a4
    have hyx : y ∈ xs := by rw [e0]; simp
    have hyk : y ∈ ks m := pm.mem_iff.mp hyx
    have hyd : y ∉ dn := fun q => by
      rw [e0] at hxn
      exact (List.nodup_append.mp hxn).2.2 y q y (List.mem_cons_self ..) rfl
    have hnn : 0 ≤ sm m ys := by
      clear a4 e0 a9
      induction ys with
      | nil => rw [sm_nil]; omega
      | cons z zs ih =>
        rw [sm_cons]
        have := i.nk_nn z
        split <;> omega
    refine wt_bind (wt_ite (fun c => ?_) (fun c => ?_))
    · have c2 : y ≠ 2 := by simpa using c
      rw [if_neg c2] at a4
      obtain ⟨v, ev⟩ := dGet_has hyk
      have hkd := i.kind (dGet_mem ev)
      dsimp only at hkd
      have en := nk_get ev
      have nn := i.nk_nn y
      rw [ev]
      simp only [Option.bind_some, Option.map_some]
      rw [needs_ok (by omega) (by omega), ← en]
      simp only [Option.bind_some, Option.map_some]
      repeat (first | (with_reducible refine wt_bind ?_) | (with_reducible refine wt_map ?_) | (with_reducible refine wt_letC ?_) | (with_reducible refine wt_draw (by assumption) (by omega) (by omega) ?_; intro _ _ _ _ _; dsimp only))
      refine wt_rng1 (by omega) (by omega) ?_
      repeat (first | (with_reducible refine wt_bind ?_) | (with_reducible refine wt_map ?_) | (with_reducible refine wt_letC ?_) | (with_reducible refine wt_draw (by assumption) (by omega) (by omega) ?_; intro _ _ _ _ _; dsimp only))
      refine wt_lenC (by rw [len_rngN]; omega) (pops_ok _ _ _ a1 (by omega) (by rw [len_rngN]; omega) fun ws k2 sp2 w1 w2 w3 => ?_)
      rw [len_rngN] at w1
      have w4 := w2.length_eq
      rw [List.length_append] at w4
      dsimp only
      repeat (first | (with_reducible refine wt_bind ?_) | (with_reducible refine wt_map ?_) | (with_reducible refine wt_letC ?_) | (with_reducible refine wt_draw (by assumption) (by omega) (by omega) ?_; intro _ _ _ _ _; dsimp only))
      refine wt_put (by omega) (wt_some (wt_some ?_))
      have hl := dPut_len g y ws
      have gdn : ∀ x ∈ dn, gb (dPut g y ws) x = gb g x := fun x hx => by rw [gb_put, if_neg (fun q : x = y => hyd (q ▸ hx))]
      refine ⟨dn ++ [y], by rw [e0]; simp, w3, by dsimp only; omega, by dsimp only; omega, ?_, fun x hx => ?_, ?_, fun x hx x2 u hu => ?_, by dsimp only; omega⟩
      · dsimp only
        rw [List.filter_append, List.flatMap_append]
        have f1 : ([y].filter fun x => !decide (x = 2)) = [y] := by simp [c2]
        have f2 : (dn.filter fun x => !decide (x = 2)).flatMap (gb (dPut g y ws)) = (dn.filter fun x => !decide (x = 2)).flatMap (gb g) := flatMap_cg fun x hx => gdn x (List.mem_filter.mp hx).1
        rw [f1, f2, List.flatMap_cons, List.flatMap_nil, List.append_nil, gb_put, if_pos rfl, List.append_assoc]
        exact (List.Perm.append_left _ w2).trans a5
      · dsimp only
        rw [dGet_putG]
        by_cases c3 : x = y
        · exact ⟨ws, if_pos c3⟩
        · rw [if_neg c3]
          rcases List.mem_append.mp hx with hx | hx
          · exact a6 x hx
          · exact absurd (List.mem_singleton.mp hx) c3
      · dsimp only
        rw [dGet_putG, if_neg (fun q => c2 q.symm)]
        exact a7
      · dsimp only
        rw [gb_put]
        by_cases c3 : x = y
        · subst c3
          rw [if_pos rfl, w1]
          rw [ev] at hu
          cases hu
          rw [← en]
          omega
        · rw [if_neg c3]
          rcases List.mem_append.mp hx with hx | hx
          · exact a8 x hx x2 u hu
          · exact absurd (List.mem_singleton.mp hx) c3
    · have c2 : y = 2 := by simpa using c
      subst c2
      rw [if_pos rfl] at a4
      refine wt_some (wt_some ⟨dn ++ [2], by rw [e0]; simp, a1, a2, by dsimp only; omega, ?_, fun x hx => ?_, a7, fun x hx x2 u hu => ?_, by dsimp only; omega⟩)
      · dsimp only
        rw [List.filter_append]
        have f1 : (([2] : List Int).filter fun x => !decide (x = 2)) = [] := rfl
        rw [f1, List.append_nil]
        exact a5
      · rcases List.mem_append.mp hx with hx | hx
        · exact a6 x hx
        · rw [List.mem_singleton.mp hx]
          exact ⟨_, a7⟩
      · rcases List.mem_append.mp hx with hx | hx
        · exact a8 x hx x2 u hu
        · exact absurd (List.mem_singleton.mp hx) x2
  · obtain ⟨dn, e0, a1, a2, a4, a5, a6, a7, a8, a9⟩ := hs
    rw [List.append_nil] at e0
    subst e0
    have g2 : gb s.2.2 2 = [1, 2, 3] := by unfold gb; rw [a7]; rfl
    have hp2 : xs.Perm (2 :: xs.filter fun x => !decide (x = 2)) := by
      have q := List.filter_append_perm (fun x : Int => decide (x = 2)) xs
      have e1 : (xs.filter fun x => decide (x = 2)) = [2] := by
        have h1 : ∀ zs : List Int, zs.Nodup → 2 ∈ zs → (zs.filter fun x => decide (x = 2)) = [2] := by
          intro zs
          induction zs with
          | nil => intro _ h; exact nomatch h
          | cons z zs ih =>
            intro hn hm
            have hn' := List.nodup_cons.mp hn
            by_cases c : z = 2
            · subst c
              rw [List.filter_cons, if_pos (decide_eq_true rfl)]
              congr 1
              rw [List.filter_eq_nil_iff]
              intro u hu q
              exact hn'.1 (of_decide_eq_true q ▸ hu)
            · rw [List.filter_cons, if_neg (by simpa using c)]
              refine ih hn'.2 ?_
              rcases List.mem_cons.mp hm with q | q
              · exact absurd q.symm c
              · exact q
        exact h1 xs hxn hx2
      rw [e1] at q
      exact q.symm
    have hfl : ((ks m).flatMap (gb s.2.2)).Perm ([1, 2, 3] ++ (xs.filter fun x => !decide (x = 2)).flatMap (gb s.2.2)) := by
      have q : ((ks m).flatMap (gb s.2.2)).Perm (xs.flatMap (gb s.2.2)) := pm.symm.flatMap_right _
      refine q.trans ((hp2.flatMap_right _).trans ?_)
      rw [List.flatMap_cons, g2]
    have hnd : ([1, 2, 3] ++ rngN 4 (b - 3).toNat : List Int).Nodup := by
      rw [List.nodup_append]
      refine ⟨by decide, nodup_rngN _ _, fun u hu w hw e => ?_⟩
      have := mem_rngN hw
      simp at hu
      omega
    refine wt_some (hP _ _ ⟨fun x hx => a6 x (pm.mem_iff.mpr hx), a7, fun x v hv x2 => a8 x (pm.mem_iff.mpr (List.mem_map.mpr ⟨_, dGet_mem hv, rfl⟩)) x2 v hv, ?_, fun x hx y hy => ?_⟩ a1)
    · rw [hfl.nodup_iff]
      have hs : ([1, 2, 3] ++ (xs.filter fun x => !decide (x = 2)).flatMap (gb s.2.2)).Sublist ([1, 2, 3] ++ ((xs.filter fun x => !decide (x = 2)).flatMap (gb s.2.2) ++ s.2.1)) := (List.Sublist.refl _).append (List.sublist_append_left ..)
      refine hs.nodup ?_
      rw [(List.Perm.append_left [1, 2, 3] a5).nodup_iff]
      exact hnd
    · by_cases c : x = 2
      · subst c
        rw [g2] at hy
        simp at hy
        exact ⟨by omega, by omega, fun q => absurd rfl q⟩
      · have : y ∈ rngN 4 (b - 3).toNat := a5.mem_iff.mp (List.mem_append.mpr (.inl (List.mem_flatMap.mpr ⟨x, List.mem_filter.mpr ⟨pm.mem_iff.mpr hx, by simp [c]⟩, hy⟩)))
        have := mem_rngN this
        omega

def leP (a b : Int × Int) : Bool := decide (a.1 < b.1 ∨ (a.1 = b.1 ∧ a.2 ≤ b.2))
theorem leE_pair : leE (eP2 PyData.int PyData.int) = leP := by
  funext a b
  exact congrFun (congrFun (PySem.W.dataLe_ii (fun p : Int × Int => p.1) (fun p => p.2)) a) b
theorem leP_sorted (ps : List (Int × Int)) : (ps.mergeSort leP).Pairwise (fun a b => leP a b = true) :=
  List.pairwise_mergeSort (fun a b c h1 h2 => by simp only [leP, decide_eq_true_eq] at *; omega) (fun a b => by simp only [leP, Bool.or_eq_true, decide_eq_true_eq]; omega) ps
theorem pr1_e (ps : List (Int × Int)) : (ps.map (eP2 PyData.int PyData.int)).map pr1 = ps := by
  rw [List.map_map]
  exact List.map_id _
theorem row_e {ds : List D} (H : ∀ d ∈ ds, ∃ a c : Int, d = .tuple [.int a, .int c]) : ds = (ds.map pr1).map (eP2 PyData.int PyData.int) := by
  rw [List.map_map]
  conv => lhs; rw [← List.map_id ds]
  apply List.map_congr_left
  intro d hd
  obtain ⟨a, c, rfl⟩ := H d hd
  rfl
theorem sort_ex {ds : List D} {P : List D → Prop} (H : ∀ d ∈ ds, ∃ a c : Int, d = .tuple [.int a, .int c]) (p : ∀ es, es.Perm ds → (es.map pr1).Pairwise (fun a b => leP a b = true) → P es) : Wt (sortQ ds) P := by
  have h1 : alikeB ds = true := by
    unfold alikeB
    rw [List.all_eq_true]
    intro d hd
    rw [List.all_eq_true]
    intro e he
    obtain ⟨a, c, rfl⟩ := H d hd
    obtain ⟨a2, c2, rfl⟩ := H e he
    rfl
  have h2 : sortB ds = true := by
    unfold sortB
    rw [Bool.or_eq_true]
    left
    rw [List.all_eq_true]
    intro d hd
    obtain ⟨a, c, rfl⟩ := H d hd
    rfl
  have h3 : ds.all (fun d => decide (d.depth ≤ 64)) = true := by
    rw [List.all_eq_true]
    intro d hd
    obtain ⟨a, c, rfl⟩ := H d hd
    rfl
  have e : sortL ds = ((ds.map pr1).mergeSort leP).map (eP2 PyData.int PyData.int) := by
    conv => lhs; rw [row_e H]
    unfold sortL
    rw [← leE_pair]
    exact (List.map_mergeSort (r := leE (eP2 PyData.int PyData.int)) (s := PySem.W.dataLe false id) (f := eP2 PyData.int PyData.int) (l := ds.map pr1) (fun a _ b _ => rfl)).symm
  refine ⟨sortL ds, ?_, p _ (List.mergeSort_perm _ _) ?_⟩
  · unfold sortQ
    rw [h1, h2, h3]
    rfl
  · rw [e, pr1_e]
    exact leP_sorted _
theorem leP_strict {es : List (Int × Int)} (h : es.Pairwise (fun a b => leP a b = true)) (nd : (es.map (·.1)).Nodup) : es.Pairwise (fun a b => a.1 < b.1) := by
  have nd' := List.pairwise_map.mp (List.nodup_iff_pairwise_ne.mp nd)
  refine (h.and nd').imp fun {a b} q => ?_
  have q1 := of_decide_eq_true q.1
  have q2 := q.2
  omega
theorem strict_nodup {es : List (Int × Int)} (h : es.Pairwise (fun a b => a.1 < b.1)) : (es.map (·.1)).Nodup := by
  rw [List.nodup_iff_pairwise_ne, List.pairwise_map]
  exact h.imp fun {a b} q => by omega
/-- the rows of a folder with one more -/
theorem rows_more {ds more : List D} {name x : Int} (H : ∀ d ∈ ds, ∃ a c : Int, d = .tuple [.int a, .int c]) (st : (ds.map pr1).Pairwise (fun a b => a.1 < b.1)) (hn : name ∉ (ds.map pr1).map (·.1)) (pm : more.Perm (ds ++ [((eP2 PyData.int PyData.int) (name, x))])) (hs : (more.map pr1).Pairwise (fun a b => leP a b = true)) :
    (more.map pr1).Perm (ds.map pr1 ++ [(name, x)]) ∧ (more.map pr1).Pairwise (fun a b => a.1 < b.1) ∧ ∀ d ∈ more, ∃ a c : Int, d = .tuple [.int a, .int c] := by
  have p1 : (more.map pr1).Perm (ds.map pr1 ++ [(name, x)]) := by
    have := pm.map pr1
    rw [List.map_append] at this
    exact this
  refine ⟨p1, leP_strict hs ?_, fun d hd => ?_⟩
  · have p2 := (p1.map (·.1)).nodup_iff
    rw [p2, List.map_append, List.nodup_append]
    refine ⟨strict_nodup st, by simp, fun a ha b hb e => ?_⟩
    simp only [List.map_cons, List.map_nil, List.mem_singleton] at hb
    exact hn (hb ▸ e ▸ ha)
  · rcases List.mem_append.mp (pm.mem_iff.mp hd) with hd | hd
    · exact H d hd
    · rw [List.mem_singleton] at hd
      exact ⟨name, x, hd⟩
theorem enter_ex {h b L : Int} {m : Mo} {fs : List Int} {f name x y : Int} {P : Bool × Mo → Prop} (i : MI h b L m) (j : MX m y) (o : FO m fs) (hf : f ∈ fs) (hfx : f ≠ x) (f2 : f ≠ 2) (hx : x ∈ ks m) (x1 : 3 ≤ x) (x2 : x ≤ h) (n0 : 1 ≤ name) (n1 : name ≤ 99) (hL : L ≤ 1000) (hxy : y = x ∨ (y = 0 ∧ ∃ ws, dGet m x = some (1, ws))) (hP : ∀ ok m', MI h b (L + 1) m' → (∀ gs, FO m gs → FO m' gs) → ks m' = ks m → (ok = true → MX m' 0) → (ok = false → m' = m) → (∀ z, z ≠ f → dGet m' z = dGet m z) → P (ok, m')) : Wt (N_l_enter m b f name x) P := by
  obtain ⟨rows, ef⟩ := o f hf
  have hm := dGet_mem ef
  have hl := i.len _ hm
  dsimp only at hl
  have hr : ∀ d ∈ rows, Row h d := by
    rcases i.ent _ hm with ⟨_, q⟩ | ⟨q, _⟩
    · exact q
    · exact absurd (show (2 : Int) = 1 from q) (by decide)
  obtain ⟨g1, g2, g3, g4⟩ := j.fo _ hm rfl
  dsimp only at g2
  have er : rw2 (2, rows) = rows.map pr1 := if_pos rfl
  rw [er] at g3
  unfold N_l_enter lenN
  rw [ef, Option.bind_some]
  repeat (first | (with_reducible refine wt_bind ?_) | (with_reducible refine wt_map ?_) | (with_reducible refine wt_letC ?_) | (with_reducible refine wt_draw (by assumption) (by omega) (by omega) ?_; intro _ _ _ _ _; dsimp only))
  refine wt_cat (by simp; omega) ?_
  have hr2 : ∀ d ∈ rows ++ [((eP2 PyData.int PyData.int) (name, x))], Row h d := by
    intro d hd
    rcases List.mem_append.mp hd with hd | hd
    · exact hr d hd
    · rw [List.mem_singleton] at hd
      subst hd
      exact ⟨_, _, rfl, by omega, x2, by omega, by omega⟩
  repeat (first | (with_reducible refine wt_bind ?_) | (with_reducible refine wt_map ?_) | (with_reducible refine wt_letC ?_) | (with_reducible refine wt_draw (by assumption) (by omega) (by omega) ?_; intro _ _ _ _ _; dsimp only))
  refine sort_ex (fun d hd => by obtain ⟨a, c, e, _⟩ := hr2 d hd; exact ⟨a, c, e⟩) fun more pm hsort => ?_
  have hm1 : (more.length : Int) ≤ L + 1 := by rw [pm.length_eq, List.length_append]; simp; omega
  have hmr : ∀ d ∈ more, Row h d := fun d hd => hr2 d (pm.mem_iff.mp hd)
  dsimp only
  rw [needs_ok (by omega) (by omega), needs_ok (by omega) (by omega), left_ok i]
  simp only [Option.bind_some, Option.map_some]
  repeat (first | (with_reducible refine wt_bind ?_) | (with_reducible refine wt_map ?_) | (with_reducible refine wt_letC ?_) | (with_reducible refine wt_draw (by assumption) (by omega) (by omega) ?_; intro _ _ _ _ _; dsimp only))
  have same : P (false, m) := hP _ _ (i.mon (by omega)) (fun _ h => h) rfl (fun q => nomatch q) (fun _ => rfl) (fun _ _ => rfl)
  by_cases c1 : (rows.length : Int) < 6
  · simp only [decide_eq_true c1, if_true]
    refine wt_ite (fun c2 => ?_) (fun _ => wt_some (by simpa using wt_some same))
    have c2' := of_decide_eq_true c2
    obtain ⟨l, el, hl', hin⟩ : Wt (lenC rows (filM (fun x12 => (((((idxD x12 (PyData.int 0))).bind fun v13 => ((eqD v13 (PyData.int name))).map fun v15 => (v13, v15))).map fun b14 => b14.2)) (fun x12 => (some x12)) rows)) fun l => (∀ d ∈ l, Row h d) ∧ (l = [] → name ∉ (rows.map pr1).map (·.1)) := by
      refine wt_lenC (by omega) (wt_filM (fun d => match d with | .tuple [.int a, _] => decide (a = name) | _ => false) id (fun d hd => ?_) (fun _ _ _ => rfl) ⟨fun d hd => ?_, fun q r => ?_⟩)
      · obtain ⟨a, c, rfl, _⟩ := hr d hd
        have : eqD (.int a) (.int name) = some (decide (a = name)) := eqD_int a name
        show ((eqD (.int a) (.int name)).map fun v15 => ((PyData.int a : D), v15)).map (fun b14 => b14.2) = _
        rw [this]
        rfl
      · rw [List.map_id] at hd
        exact hr d (List.mem_filter.mp hd).1
      · rw [List.map_id, List.filter_eq_nil_iff] at q
        obtain ⟨e, he, e2⟩ := List.mem_map.mp r
        obtain ⟨d, hd, e3⟩ := List.mem_map.mp he
        have := q d hd
        obtain ⟨a, c, rfl, _⟩ := hr d hd
        apply this
        subst e3
        exact decide_eq_true e2
    rw [el, Option.bind_some]
    have es : eqD ((eLi eD) l) ((eLi eD) ([])) = some l.isEmpty := by
      have q := rows_shp l hl'
      have s1 : shp ((eLi eD) l) = true := by
        unfold shp eLi
        have : l.map eD = l := List.map_id' _
        rw [this]
        rw [Bool.and_eq_true]
        exact ⟨by simpa only [PyData.plain] using q.1, decide_eq_true (by simp only [PyData.depth]; have := q.2; omega)⟩
      have s2 : shp ((eLi eD) ([])) = true := rfl
      unfold eqD
      rw [s1, s2]
      cases l with
      | nil => rfl
      | cons a l => rfl
    rw [es]
    simp only [Option.map_some]
    refine wt_some ?_
    refine wt_ite (fun ce => ?_) (fun _ => wt_some same)
    have hnew := hin (List.isEmpty_iff.mp ce)
    have hml := i.ml
    refine wt_bind (wt_put (by omega) (wt_some ?_))
    have mm := MI.more i ef hmr hm1 (.inr c2')
    obtain ⟨k1, k2, k3⟩ := rows_more g2 g3 hnew pm hsort
    have k0 : (0 : Int) ∉ ks m := fun q => by have := i.kb 0 q; omega
    have ml : more.length ≤ 6 := by rw [pm.length_eq, List.length_append]; simp; omega
    exact hP _ _ mm.1 (fun gs o => o.put _ _) mm.2 (fun _ => j.add i.nd ef k0 hfx hx x1 n0 n1 (fun q => absurd q f2) k1 k2 k3 ml hxy) (fun q => nomatch q) (fun z hz => by rw [dGet_put, if_neg hz])
  · simp only [decide_eq_false c1, if_false, Bool.false_eq_true]
    exact wt_some (by simpa using wt_some same)

theorem named_all {m : Mo} (nd : (ks m).Nodup) : namedIn m (ks m) = named m := by
  unfold namedIn ks named
  rw [List.flatMap_map]
  refine flatMap_cg fun p hp => ?_
  have : dGet m p.1 = some p.2 := by
    induction m with
    | nil => exact nomatch hp
    | cons q m ih =>
      have nd' := List.nodup_cons.mp nd
      rcases List.mem_cons.mp hp with rfl | hp
      · unfold dGet; simp
      · have hne : q.1 ≠ p.1 := fun e => nd'.1 (List.mem_map.mpr ⟨p, hp, e.symm⟩)
        have := ih nd'.2 hp
        unfold dGet at this ⊢
        rw [List.find?_cons, decide_eq_false hne]
        exact this
  rw [this]
theorem get_mem {m : Mo} (nd : (ks m).Nodup) {p : Int × (Int × List D)} (hp : p ∈ m) : dGet m p.1 = some p.2 := by
  induction m with
  | nil => exact nomatch hp
  | cons q m ih =>
    have nd' := List.nodup_cons.mp nd
    rcases List.mem_cons.mp hp with rfl | hp
    · unfold dGet; simp
    · have hne : q.1 ≠ p.1 := fun e => nd'.1 (List.mem_map.mpr ⟨p, hp, e.symm⟩)
      have := ih nd'.2 hp
      unfold dGet at this ⊢
      rw [List.find?_cons, decide_eq_false hne]
      exact this
theorem fl2_len : ∀ ps : List (Int × Int), (fl2 ps).length = 2 * ps.length
  | [] => rfl
  | p :: ps => by
    show (fl2 ps).length + 1 + 1 = 2 * (ps.length + 1)
    rw [fl2_len ps]
    omega
theorem evry_fl2 : ∀ ps : List (Int × Int), evry (fl2 ps) = ps.map (·.1)
  | [] => rfl
  | p :: ps => by
    show p.1 :: evry (fl2 ps) = _
    rw [evry_fl2 ps]
    rfl
theorem evry_fl2' : ∀ ps : List (Int × Int), evry ((fl2 ps).drop 1) = ps.map (·.2)
  | [] => rfl
  | [p] => rfl
  | p :: q :: ps => by
    show p.2 :: evry (q.2 :: fl2 ps) = _
    have := evry_fl2' (q :: ps)
    rw [List.map_cons]
    exact congrArg _ this
theorem zip_fl2 (ps : List (Int × Int)) : (stpN 0 (fl2 ps)).zip (stpN 1 (fl2 ps)) = ps := by
  show (evry ((fl2 ps).drop 0)).zip (evry ((fl2 ps).drop 1)) = ps
  rw [List.drop_zero, evry_fl2, evry_fl2']
  induction ps with
  | nil => rfl
  | cons p ps ih => rw [List.map_cons, List.map_cons, List.zip_cons_cons, ih]
theorem seg_all (xs : List Int) (h : xs.length ≤ 12) : ([0, 1, 2] : List Int).flatMap (fun j => (rngN 0 (max 0 (min 4 ((xs.length : Int) - 4 * j))).toNat).map fun k => xs.getD (4 * j + k).toNat 0) = xs := by
  have one : ∀ j : Nat, (rngN 0 (max 0 (min 4 ((xs.length : Int) - 4 * (j : Int)))).toNat).map (fun k => xs.getD (4 * (j : Int) + k).toNat 0) = (xs.drop (4 * j)).take 4 := fun j => by
    apply List.ext_getElem
    · rw [List.length_map, len_rngN, List.length_take, List.length_drop]
      omega
    · intro i h1 h2
      rw [List.getElem_map, List.getElem_take, List.getElem_drop]
      rw [List.length_map, len_rngN] at h1
      unfold rngN
      rw [List.getElem_map, List.getElem_range, List.getD_eq_getElem?_getD, show (4 * (j : Int) + (0 + (i : Int))).toNat = 4 * j + i by omega, List.getElem?_eq_getElem (by omega)]
      rfl
  have e0 := one 0
  have e1 := one 1
  have e2 := one 2
  rw [List.flatMap_cons, List.flatMap_cons, List.flatMap_cons, List.flatMap_nil, List.append_nil]
  rw [show ((0 : Nat) : Int) = 0 from rfl] at e0
  rw [show ((1 : Nat) : Int) = 1 from rfl] at e1
  rw [show ((2 : Nat) : Int) = 2 from rfl] at e2
  rw [e0, e1, e2, List.drop_zero]
  have f2 : (xs.drop (4 * 2)).take 4 = xs.drop 8 := List.take_of_length_le (by rw [List.length_drop]; omega)
  rw [f2]
  have f1 : (xs.drop (4 * 1)).take 4 ++ xs.drop 8 = xs.drop 4 := by
    have := List.take_append_drop 4 (xs.drop 4)
    rw [List.drop_drop] at this
    exact this
  rw [f1, List.take_append_drop]
/-- what is read in a store laid out -/
structure SM (h b : Int) (m : Mo) (g : List (Int × List Int)) (c : List Int) : Prop where
  i : MI h b 60 m
  j : MX m 0
  gx : GX h b m g
  l : Lay h b m g (ks m) c
  h2 : 2 ≤ h
  h8 : h ≤ 8
  b3 : 3 ≤ b
  b12 : b ≤ 12
section
variable {h b : Int} {m : Mo} {g : List (Int × List Int)} {c : List Int}
theorem SM.wf (S : SM h b m g c) : WF (h, b, c) := ⟨S.h2, S.h8, S.b3, S.b12, S.l.n⟩
theorem SM.key (S : SM h b m g c) {x : Int} {v : Int × List D} (hv : dGet m x = some v) : x ∈ ks m ∧ 1 ≤ x ∧ x ≤ h := by
  have : x ∈ ks m := List.mem_map.mpr ⟨_, dGet_mem hv, rfl⟩
  exact ⟨this, S.i.kb x this⟩
theorem SM.kind (S : SM h b m g c) {x : Int} {v : Int × List D} (hv : dGet m x = some v) : hK (h, b, c) x = v.1 := by
  unfold hK
  dsimp only
  rw [show 7 * (x - 1) + 0 = 7 * x - 7 by omega]
  exact (S.l.kd x (S.key hv).1 v hv).1
theorem SM.kind0 (S : SM h b m g c) {x : Int} (x1 : 1 ≤ x) (xh : x ≤ h) (hv : x ∉ ks m) : hK (h, b, c) x = 0 := by
  unfold hK
  dsimp only
  rw [show 7 * (x - 1) + 0 = 7 * x - 7 by omega]
  exact (S.l.fr x x1 xh hv).1
theorem SM.len (S : SM h b m g c) {x : Int} {v : Int × List D} (hv : dGet m x = some v) : hL (h, b, c) x = (cont v).length := by
  unfold hL
  dsimp only
  rw [show 7 * (x - 1) + 2 = 7 * x - 5 by omega]
  exact (S.l.kd x (S.key hv).1 v hv).2.1
theorem SM.slot (S : SM h b m g c) {x : Int} {v : Int × List D} (hv : dGet m x = some v) (j : Nat) (hj : j < 3) : hS (h, b, c) x j = (gb g x).getD j 0 := by
  unfold hS
  dsimp only
  rw [show 7 * (x - 1) + 4 + (j : Int) = 7 * x - 3 + j by omega]
  exact S.l.sl x (S.key hv).1 j hj
/-- of each: a folder, or a file from 3 on; how long; how many blocks -/
theorem SM.cases (S : SM h b m g c) {x : Int} {v : Int × List D} (hv : dGet m x = some v) : ((v.1 = 2 ∧ (cont v).length = 2 * v.2.length ∧ v.2.length ≤ 6) ∨ (v.1 = 1 ∧ 2 < x ∧ (cont v).length = v.2.length ∧ v.2.length ≤ 12)) ∧ ((gb g x).length : Int) = if x = 2 then 3 else (((cont v).length : Int) + 3) / 4 := by
  have hm := dGet_mem hv
  have hl := S.gx.len x v hv
  have h2 : x = 2 → (gb g x).length = 3 := fun e => by
    subst e
    have := S.gx.two
    unfold gb
    rw [this]
    rfl
  rcases S.i.ent _ hm with ⟨e, _⟩ | ⟨e, _⟩
  · dsimp only at e
    have ec : (cont v).length = 2 * v.2.length := by
      unfold cont
      rw [if_pos e, fl2_len, List.length_map]
    refine ⟨.inl ⟨e, ec, (S.j.fo _ hm e).1⟩, ?_⟩
    split
    · rename_i c2; rw [h2 c2]; rfl
    · rename_i c2
      rw [hl c2, ec]
      unfold needs
      rw [e]
      omega
  · dsimp only at e
    have ec : (cont v).length = v.2.length := by
      unfold cont
      rw [if_neg (by rw [e]; decide), List.length_map]
    have x12 : x ≠ 1 ∧ x ≠ 2 := by
      refine ⟨fun q => ?_, fun q => ?_⟩
      · subst q
        obtain ⟨r, hr⟩ := S.j.f1
        rw [hr] at hv
        cases hv
        exact absurd (show (2 : Int) = 1 from e) (by decide)
      · subst q
        obtain ⟨r, hr⟩ := S.j.f2
        rw [hr] at hv
        cases hv
        exact absurd (show (2 : Int) = 1 from e) (by decide)
    have := (S.key hv).2.1
    refine ⟨.inr ⟨e, by omega, ec, (S.j.fi _ hm e).1⟩, ?_⟩
    rw [if_neg x12.2, hl x12.2, ec]
    unfold needs
    rw [e]
    omega
theorem SM.meas (S : SM h b m g c) {x : Int} {v : Int × List D} (hv : dGet m x = some v) : meas (hK (h, b, c) x) (hL (h, b, c) x) x = true := by
  unfold K28.meas
  rw [S.kind hv, S.len hv]
  obtain ⟨q, _⟩ := S.cases hv
  apply decide_eq_true
  omega
theorem SM.hold (S : SM h b m g c) {x : Int} {v : Int × List D} (hv : dGet m x = some v) (j : Nat) (hj : j < 3) : hold (h, b, c) x j = decide ((j : Int) < ((gb g x).length : Int)) := by
  unfold K28.hold
  rw [S.slot hv j hj, S.len hv]
  obtain ⟨q, q2⟩ := S.cases hv
  have hk := S.key hv
  by_cases c1 : j < (gb g x).length
  · rw [decide_eq_true (show (j : Int) < ((gb g x).length : Int) by omega)]
    have e := List.getElem?_eq_getElem c1
    have hb := S.gx.bd x hk.1 _ (List.getElem_mem c1)
    rw [List.getD_eq_getElem?_getD, e, Option.getD_some, Bool.and_eq_true]
    refine ⟨decide_eq_true ?_, decide_eq_true ?_⟩
    · by_cases c2 : x = 2
      · exact .inl c2
      · rw [if_neg c2] at q2
        exact .inr (by omega)
    · by_cases c2 : x = 2
      · subst c2
        refine .inl ⟨rfl, ?_⟩
        have e2 : gb g 2 = [1, 2, 3] := by unfold gb; rw [S.gx.two]; rfl
        have hj' : j = 0 ∨ j = 1 ∨ j = 2 := by omega
        simp only [e2]
        rcases hj' with rfl | rfl | rfl <;> rfl
      · exact .inr ⟨c2, hb.2.2 c2, hb.2.1⟩
  · rw [decide_eq_false (show ¬ (j : Int) < ((gb g x).length : Int) by omega)]
    have : need ((cont v).length : Int) x j = false := by
      unfold need
      apply decide_eq_false
      intro r
      rcases r with r | r
      · rw [if_pos r] at q2
        omega
      · by_cases c2 : x = 2
        · rw [if_pos c2] at q2; omega
        · rw [if_neg c2] at q2; omega
    rw [this]
    rfl
theorem SM.hj (S : SM h b m g c) {x : Int} {v : Int × List D} (hv : dGet m x = some v) : hj (h, b, c) x = ([0, 1, 2] : List Int).filter fun j => decide (j < ((gb g x).length : Int)) := by
  unfold K28.hj m3
  rw [S.meas hv, if_pos rfl]
  have h0 := S.hold hv 0 (by omega)
  have h1 := S.hold hv 1 (by omega)
  have h2 := S.hold hv 2 (by omega)
  rw [show ((0 : Nat) : Int) = 0 from rfl] at h0
  rw [show ((1 : Nat) : Int) = 1 from rfl] at h1
  rw [show ((2 : Nat) : Int) = 2 from rfl] at h2
  simp only [List.filter_cons, List.filter_nil, h0, h1, h2]
theorem SM.gl (S : SM h b m g c) {x : Int} {v : Int × List D} (hv : dGet m x = some v) : (gb g x).length ≤ 3 := by
  obtain ⟨q, q2⟩ := S.cases hv
  split at q2 <;> omega
theorem SM.hjl (S : SM h b m g c) {x : Int} {v : Int × List D} (hv : dGet m x = some v) : (K28.hj (h, b, c) x).length = (gb g x).length := by
  rw [S.hj hv]
  have := S.gl hv
  simp only [List.filter_cons, List.filter_nil]
  split <;> split <;> split <;> simp_all <;> omega
theorem SM.whole (S : SM h b m g c) {x : Int} {v : Int × List D} (hv : dGet m x = some v) : whole (h, b, c) x = true := by
  unfold K28.whole
  rw [S.meas hv, Bool.true_and]
  apply decide_eq_true
  rw [S.hjl hv]
  unfold many
  rw [S.len hv]
  exact (S.cases hv).2
theorem SM.vls (S : SM h b m g c) {x : Int} {v : Int × List D} (hv : dGet m x = some v) : vls (h, b, c) x = cont v := by
  obtain ⟨q, q2⟩ := S.cases hv
  have hl : (cont v).length ≤ 12 := by omega
  rw [← seg_all (cont v) hl]
  have hlen := S.len hv
  have gl := S.gl hv
  unfold K28.vls pcs
  rw [List.map_flatMap, S.hj hv]
  have one : ∀ j : Nat, j < 3 → j < (gb g x).length → (((rngN 0 (usd (h, b, c) x j).toNat).map fun k => plc (h, b, c) (hS (h, b, c) x j) k).map (cel c)) = (rngN 0 (max 0 (min 4 (((cont v).length : Int) - 4 * (j : Int)))).toNat).map fun k => (cont v).getD (4 * (j : Int) + k).toNat 0 := fun j hj hg => by
    unfold usd
    rw [hlen, List.map_map]
    apply List.map_congr_left
    intro k hk
    have hk' := mem_rngN hk
    have e := List.getElem?_eq_getElem hg
    rw [Function.comp, S.slot hv j hj, List.getD_eq_getElem?_getD, e, Option.getD_some]
    unfold plc
    dsimp only
    have := S.l.bc x (S.key hv).1 v hv j _ e k.toNat (by omega)
    rw [show ((k.toNat : Nat) : Int) = k by omega] at this
    rw [this]
    congr 1
    omega
  have no : ∀ j : Nat, ¬ j < (gb g x).length → (max 0 (min 4 (((cont v).length : Int) - 4 * (j : Int)))).toNat = 0 := fun j hj => by
    split at q2 <;> omega
  have f : ∀ j : Nat, j < 3 → ((if decide (((j : Nat) : Int) < ((gb g x).length : Int)) = true then [(j : Int)] else []).flatMap fun j => ((rngN 0 (usd (h, b, c) x j).toNat).map fun k => plc (h, b, c) (hS (h, b, c) x j) k).map (cel c)) = (rngN 0 (max 0 (min 4 (((cont v).length : Int) - 4 * (j : Int)))).toNat).map fun k => (cont v).getD (4 * (j : Int) + k).toNat 0 := fun j hj => by
    by_cases c1 : j < (gb g x).length
    · rw [if_pos (decide_eq_true (by omega)), List.flatMap_cons, List.flatMap_nil, List.append_nil, one j hj c1]
    · rw [if_neg (by rw [decide_eq_false (by omega)]; exact Bool.false_ne_true), List.flatMap_nil, no j c1]
      rfl
  have f0 := f 0 (by omega)
  have f1 := f 1 (by omega)
  have f2 := f 2 (by omega)
  rw [show ((0 : Nat) : Int) = 0 from rfl] at f0
  rw [show ((1 : Nat) : Int) = 1 from rfl] at f1
  rw [show ((2 : Nat) : Int) = 2 from rfl] at f2
  have split3 : ∀ (p : Int → Bool), ([0, 1, 2] : List Int).filter p = (if p 0 = true then [0] else []) ++ ((if p 1 = true then [1] else []) ++ (if p 2 = true then [2] else [])) := fun p => by
    simp only [List.filter_cons, List.filter_nil]
    cases p 0 <;> cases p 1 <;> cases p 2 <;> rfl
  rw [split3, List.flatMap_append, List.flatMap_append, List.flatMap_cons, List.flatMap_cons, List.flatMap_cons, List.flatMap_nil, List.append_nil, f0, f1, f2]
end

end K28

namespace K28
open PySem PySem.Spec PyProof.Rows L2 Z
variable {ι τ σ ρ : Type}
theorem erase_nd {xs : List Int} (nd : xs.Nodup) {i : Nat} (hi : i < xs.length) : (xs.eraseIdx i).Nodup ∧ (∀ x ∈ xs.eraseIdx i, x ∈ xs) ∧ xs[i]'hi ∉ xs.eraseIdx i := by
  refine ⟨nd.sublist (List.eraseIdx_sublist ..), fun x hx => (List.eraseIdx_sublist ..).mem hx, fun q => ?_⟩
  obtain ⟨j, hj, hne, e⟩ := List.mem_eraseIdx_iff_getElem.mp q
  exact hne ((List.getElem_inj nd).mp e)

structure LX (h b : Int) (n : Nat) (s : Dk × Mo × List Int × List Int) : Prop where
  ok : s.1.cs.length ≤ 63
  fu : s.2.2.2.length < n
  nd : s.2.2.2.Nodup
  sp : ∀ x ∈ s.2.2.2, 3 ≤ x ∧ x ≤ h ∧ x ∉ ks s.2.1
  mi : MI h b (60 - 4 * (s.2.2.2.length : Int)) s.2.1
  fo : FO s.2.1 (2 :: s.2.2.1)
  f0 : 0 < s.2.2.1.length
  f8 : s.2.2.1.length + s.2.2.2.length ≤ 8
  m8 : s.2.1.length + s.2.2.2.length ≤ 8
  mx : MX s.2.1 0
  n2 : ∀ f ∈ s.2.2.1, f ≠ 2
theorem mx0 : MX [(1, (2, [])), (2, (2, []))] 0 := by
  refine ⟨fun p hp c => ?_, fun p hp c => ?_, fun y v h y3 _ _ => ?_, fun y hy y3 _ => ?_, rfl, ⟨fun _ => 0, fun y v h y3 _ _ => ?_⟩, ⟨[], rfl⟩, ⟨[], rfl⟩⟩
  · simp at hp
    rcases hp with rfl | rfl <;> exact absurd (show (2 : Int) = 1 from c) (by decide)
  · simp at hp
    rcases hp with rfl | rfl <;> exact ⟨by simp, fun _ h => (nomatch h), .nil, fun _ h => (nomatch h)⟩
  · have := dGet_mem h
    simp at this
    omega
  · simp [ks] at hy
    omega
  · have := dGet_mem h
    simp at this
    omega
theorem model_ex {k : Dk} {h b : Int} (hk : k.cs.length ≤ 63) (h2 : 2 ≤ h) (h8 : h ≤ 8) (b3 : 3 ≤ b) {P : Mo × Dk → Prop} (hP : ∀ m k', MI h b 60 m → MX m 0 → k'.cs.length ≤ 63 → P (m, k')) : Wt (N_l_model k h b) P := by
  unfold N_l_model lenN
  repeat (first | (with_reducible refine wt_bind ?_) | (with_reducible refine wt_map ?_) | (with_reducible refine wt_letC ?_) | (with_reducible refine wt_draw (by assumption) (by omega) (by omega) ?_; intro _ _ _ _ _; dsimp only))
  refine wt_rgQ (by omega) (by omega) (by omega) (by omega) ?_
  repeat (first | (with_reducible refine wt_bind ?_) | (with_reducible refine wt_map ?_) | (with_reducible refine wt_letC ?_) | (with_reducible refine wt_draw (by assumption) (by omega) (by omega) ?_; intro _ _ _ _ _; dsimp only))
  refine wt_while (LX h b) (P := fun s => Wt (some (s.2.1, s.1)) P) ?_ ?_
  · refine ⟨hk, ?_, nodup_rngN _ _, ?_, ?_, ?_, by simp, ?_, ?_, mx0, by simp⟩
    · simp only [len_rngN]; omega
    · intro x hx
      have := mem_rngN hx
      refine ⟨by omega, by omega, ?_⟩
      simp [ks]
      omega
    · refine MI.mon (L := 0) ⟨?_, ?_, ?_, ?_, ?_, ?_, ?_, ?_⟩ (by simp only [len_rngN]; omega)
      · simp [ks]
      · simp [ks]
      · simp [ks]
      · intro x hx
        simp [ks] at hx
        omega
      · intro p hp
        simp at hp
        rcases hp with rfl | rfl <;> exact .inl ⟨rfl, fun d hd => nomatch hd⟩
      · intro p hp
        simp at hp
        rcases hp with rfl | rfl <;> simp
      · have : sm [(1, (2, [])), (2, (2, []))] (ks [(1, (2, [])), (2, (2, []))]) = 0 := rfl
        rw [this]
        omega
      · simp
    · intro f hf
      simp at hf
      rcases hf with rfl | rfl <;> exact ⟨[], rfl⟩
    · simp only [len_rngN, List.length_cons, List.length_nil]; omega
    · simp only [len_rngN, List.length_cons, List.length_nil]; omega
  · rintro n ⟨k, m, fs, sp⟩ ⟨ok, fu, nd, hsp, mi, fo, f0, f8, m8, mx, n2⟩
    dsimp only at ok fu nd hsp mi fo f0 f8 m8 mx n2
    refine wt_some ?_
    by_cases c : sp = []
    · rw [if_neg (by simp [c])]
      exact ⟨by omega, wt_some (hP _ _ (mi.mon (by omega)) mx ok)⟩
    · rw [if_pos (by simp [c])]
      have sp0 : 0 < sp.length := List.length_pos_iff.mpr c
      obtain ⟨n, rfl⟩ : ∃ n', n = n' + 1 := ⟨n - 1, by omega⟩
      refine ⟨n, rfl, ?_⟩
      dsimp only
      repeat (first | (with_reducible refine wt_bind ?_) | (with_reducible refine wt_map ?_) | (with_reducible refine wt_letC ?_) | (with_reducible refine wt_draw (by assumption) (by omega) (by omega) ?_; intro _ _ _ _ _; dsimp only))
      rename_i r0 kr hr0 hr1 hkr
      refine wt_popAt hr0 hr1 (by omega) fun hh => ?_
      obtain ⟨e1, e2, e3⟩ := erase_nd nd hh
      have e4 := List.length_eraseIdx_of_lt hh
      have hx := hsp _ (List.getElem_mem hh)
      revert e1 e2 e3 e4 hx
      generalize sp[r0.toNat]'hh = x
      generalize sp.eraseIdx r0.toNat = sp'
      intro e1 e2 e3 e4 hx
      dsimp only
      repeat (first | (with_reducible refine wt_bind ?_) | (with_reducible refine wt_map ?_) | (with_reducible refine wt_letC ?_) | (with_reducible refine wt_draw (by assumption) (by omega) (by omega) ?_; intro _ _ _ _ _; dsimp only))
      rename_i way kw hw0 hw1 hkw
      refine pick_ok hkw (by simp) (by simp) fun t ht k3 hk3 => ?_
      dsimp only
      repeat (first | (with_reducible refine wt_bind ?_) | (with_reducible refine wt_map ?_) | (with_reducible refine wt_letC ?_) | (with_reducible refine wt_draw (by assumption) (by omega) (by omega) ?_; intro _ _ _ _ _; dsimp only))
      refine pick_ok hk3 f0 (by omega) fun f hf k4 hk4 => ?_
      dsimp only
      have hsp' : ∀ y ∈ sp', 3 ≤ y ∧ y ≤ h ∧ y ∉ ks m := fun y hy => hsp y (e2 y hy)
      refine wt_ite (fun _ => ?_) (fun _ => ?_)
      · refine wt_some ⟨hk4, ?_, e1, hsp', mi.mon ?_, fo, f0, ?_, ?_, mx, n2⟩ <;> dsimp only <;> omega
      · repeat (first | (with_reducible refine wt_bind ?_) | (with_reducible refine wt_map ?_) | (with_reducible refine wt_letC ?_) | (with_reducible refine wt_draw (by assumption) (by omega) (by omega) ?_; intro _ _ _ _ _; dsimp only))
        rename_i n13 k13 hn0 hn1 hk13
        refine wt_rng1 (by omega) (by omega) ?_
        dsimp only
        repeat (first | (with_reducible refine wt_bind ?_) | (with_reducible refine wt_map ?_) | (with_reducible refine wt_letC ?_) | (with_reducible refine wt_draw (by assumption) (by omega) (by omega) ?_; intro _ _ _ _ _; dsimp only))
        refine wt_lenC (by rw [len_rngN]; omega) (wt_mapS (fun y => 0 ≤ y ∧ y < 100) (fun _ s => s.cs.length ≤ 63) hk13 (fun y ys s hs => ?_) fun ws k5 hws hw100 hk5 => ?_)
        · repeat (first | (with_reducible refine wt_bind ?_) | (with_reducible refine wt_map ?_) | (with_reducible refine wt_letC ?_) | (with_reducible refine wt_draw (by assumption) (by omega) (by omega) ?_; intro _ _ _ _ _; dsimp only))
          exact ⟨⟨by assumption, by assumption⟩, by assumption⟩
        · rw [len_rngN] at hws
          dsimp only
          repeat (first | (with_reducible refine wt_bind ?_) | (with_reducible refine wt_map ?_) | (with_reducible refine wt_letC ?_) | (with_reducible refine wt_draw (by assumption) (by omega) (by omega) ?_; intro _ _ _ _ _; dsimp only))
          have hv : Wt (if decide (way < 3) = true then some ((2 : Int), ([] : List D)) else (N_l_left m b).map fun r27 => (1, List.map PyData.int (cutL ws none (some (4 * r27))))) (fun v => ((v.1 = 2 ∧ v.2 = []) ∨ (v.1 = 1 ∧ ∀ d ∈ v.2, ∃ a : Int, d = .int a ∧ 0 ≤ a ∧ a ≤ 100)) ∧ (v.2.length : Int) ≤ 12 ∧ sm m (ks m) + needs v.1 v.2 ≤ b - 3 ∧ (way < 3 → v = (2, [])) ∧ ((v.1 = 2 ∧ v.2 = []) ∨ (v.1 = 1 ∧ v.2.length ≤ 12 ∧ ∀ d ∈ v.2, ∃ a : Int, d = .int a ∧ 0 ≤ a ∧ a ≤ 99)) ∧ (¬ way < 3 → v.1 = 1)) := by
            have lf := mi.lf
            refine wt_ite (fun _ => wt_some ⟨.inl ⟨rfl, rfl⟩, by simp, ?_, fun _ => rfl, .inl ⟨rfl, rfl⟩, fun q => absurd (of_decide_eq_true ‹_›) q⟩) (fun c => ?_)
            · have : needs 2 [] = 0 := rfl
              dsimp only
              rw [this]
              omega
            · rw [left_ok mi]
              refine ⟨_, rfl, .inr ⟨rfl, fun d hd => ?_⟩, ?_, ?_, fun q => ?_, .inr ⟨rfl, ?_, fun d hd => ?_⟩, fun _ => rfl⟩
              · obtain ⟨a, ha, rfl⟩ := List.mem_map.mp hd
                have := hw100 a (cut_mem ha)
                exact ⟨a, rfl, by omega, by omega⟩
              · dsimp only
                rw [cut_to (by omega), List.length_map, List.length_take]
                omega
              · unfold needs
                dsimp only
                rw [cut_to (by omega), List.length_map, List.length_take]
                omega
              · exact absurd q (by simpa using c)
              · dsimp only
                rw [cut_to (by omega), List.length_map, List.length_take]
                omega
              · obtain ⟨a, ha, rfl⟩ := List.mem_map.mp hd
                have := hw100 a (cut_mem ha)
                exact ⟨a, rfl, by omega, by omega⟩
          refine hv.mon fun v hv => ?_
          obtain ⟨v1, v2, v3, v4, v5, v6⟩ := hv
          repeat (first | (with_reducible refine wt_bind ?_) | (with_reducible refine wt_map ?_) | (with_reducible refine wt_letC ?_) | (with_reducible refine wt_draw (by assumption) (by omega) (by omega) ?_; intro _ _ _ _ _; dsimp only))
          refine wt_put (by omega) ?_
          obtain ⟨mu, kk⟩ := mi.new (v := v) hx.2.2 hx.1 hx.2.1 v1 (by omega) v3 (by omega)
          have fu1 : FO (dPut m x v) (2 :: if way < 3 then fs ++ [x] else fs) := by
            have f1 : FO (dPut m x v) (2 :: fs) := fo.new hx.2.2
            split
            · rename_i c3
              intro g hg
              by_cases cg : g ∈ 2 :: fs
              · exact f1 g cg
              · have : g = x := by
                  rcases List.mem_cons.mp hg with q | q
                  · exact absurd (List.mem_cons.mpr (.inl q)) cg
                  · rcases List.mem_append.mp q with q | q
                    · exact absurd (List.mem_cons.mpr (.inr q)) cg
                    · exact List.mem_singleton.mp q
                subst this
                rw [dGet_put, if_pos rfl, v4 c3]
                exact ⟨_, rfl⟩
            · exact f1
          have lu := dPut_len m x v
          have mxu := mx.new hx.2.2 hx.1 v5
          have gxu : dGet (dPut m x v) x = some v := by rw [dGet_put, if_pos rfl]
          revert mu kk fu1 lu mxu gxu
          generalize dPut m x v = u
          intro mu kk fu1 lu mxu gxu
          have hxu : x ∈ ks u := List.mem_map.mpr ⟨_, dGet_mem gxu, rfl⟩
          have fsx : ∀ g ∈ fs, g ≠ x ∧ g ≠ 2 := fun g hg => by
            refine ⟨fun q => ?_, n2 g hg⟩
            obtain ⟨r, er⟩ := fo g (List.mem_cons_of_mem _ hg)
            exact hx.2.2 (q ▸ List.mem_map.mpr ⟨_, dGet_mem er, rfl⟩)
          have sub : ∀ g ∈ 2 :: fs, g ∈ 2 :: if way < 3 then fs ++ [x] else fs := by
            intro g hg
            split
            · rcases List.mem_cons.mp hg with q | q
              · exact List.mem_cons.mpr (.inl q)
              · exact List.mem_cons.mpr (.inr (List.mem_append.mpr (.inl q)))
            · exact hg
          revert fu1 sub
          generalize hgs : (2 :: if way < 3 then fs ++ [x] else fs) = gs
          intro fu1 sub
          have hent : Wt (if (!decide (way = 5)) = true then (((((drawN k5 99)).bind fun r32 => (N_l_enter u b f (1 + r32.1) x).map fun v34 => (r32, v34))).map fun r33 => (r33.2.1, r33.1.2, r33.2.2)) else some (false, k5, u)) (fun r => r.2.1.cs.length ≤ 63 ∧ MI h b (60 - 4 * (sp.length : Int) + 1) r.2.2 ∧ FO r.2.2 gs ∧ ks r.2.2 = ks u ∧ MX r.2.2 (if r.1 = true then 0 else x) ∧ dGet r.2.2 x = some v) := by
            refine wt_ite (fun _ => wt_map (wt_bind (wt_draw hk5 (by omega) (by omega) fun r99 k6 hr0 hr1 hk6 => wt_map (enter_ex mu mxu fu1 (sub f (List.mem_cons_of_mem _ hf)) (fsx f hf).1 (fsx f hf).2 hxu hx.1 hx.2.1 (by omega) (by omega) (by omega) (.inl rfl) fun ok m' a1 a2 a3 a4 a5 a6 => ⟨hk6, a1, a2 _ fu1, a3, ?_, by rw [a6 x (fun q => (fsx f hf).1 q.symm)]; exact gxu⟩)))) (fun _ => wt_some ⟨hk5, mu.mon (by omega), fu1, rfl, mxu, gxu⟩)
            dsimp only
            cases ok with
            | true => exact a4 rfl
            | false => rw [a5 rfl]; exact mxu
          refine wt_bind (hent.mon fun r hr => ?_)
          obtain ⟨okb, k6, m2⟩ := r
          obtain ⟨hk6, a1, a2, a3, a4, a5⟩ := hr
          dsimp only at hk6 a1 a2 a3 a4 a5 ⊢
          repeat (first | (with_reducible refine wt_bind ?_) | (with_reducible refine wt_map ?_) | (with_reducible refine wt_letC ?_) | (with_reducible refine wt_draw (by assumption) (by omega) (by omega) ?_; intro _ _ _ _ _; dsimp only))
          have hand : Wt (if (!okb) = true then ((((((dGet m2 2)).bind fun v39 => (catQ v39.2 ([((eP2 PyData.int PyData.int) (x, x))])).map fun v41 => (v39, v41))).bind fun b40 => ((sortQ b40.2)).map fun v43 => (b40, v43))).bind fun b42 => (dPutQ m2 2 (2, b42.2)).bind fun u44 => (some u44) else (some m2)) (fun m3 => MI h b (60 - 4 * (sp.length : Int) + 1 + 1) m3 ∧ FO m3 gs ∧ ks m3 = ks u ∧ MX m3 0 ∧ dGet m3 x = some v) := by
            refine wt_ite (fun ck => ?_) (fun ck => wt_some ⟨a1.mon (by omega), a2, a3, by rw [if_pos (by simpa using ck)] at a4; exact a4, a5⟩)
            rw [if_neg (by simpa using ck)] at a4
            obtain ⟨rows, er⟩ := a2 2 (sub 2 (List.mem_cons_self ..))
            have hm := dGet_mem er
            have hl := a1.len _ hm
            dsimp only at hl
            have hr : ∀ d ∈ rows, Row h d := by
              rcases a1.ent _ hm with ⟨_, q⟩ | ⟨q, _⟩
              · exact q
              · exact absurd (show (2 : Int) = 1 from q) (by decide)
            have hr2 : ∀ d ∈ rows ++ [((eP2 PyData.int PyData.int) (x, x))], Row h d := by
              intro d hd
              rcases List.mem_append.mp hd with hd | hd
              · exact hr d hd
              · rw [List.mem_singleton] at hd
                subst hd
                exact ⟨_, _, rfl, by omega, hx.2.1, by omega, by omega⟩
            rw [er]
            simp only [Option.bind_some]
            repeat (first | (with_reducible refine wt_bind ?_) | (with_reducible refine wt_map ?_) | (with_reducible refine wt_letC ?_) | (with_reducible refine wt_draw (by assumption) (by omega) (by omega) ?_; intro _ _ _ _ _; dsimp only))
            refine wt_cat (by simp; omega) ?_
            repeat (first | (with_reducible refine wt_bind ?_) | (with_reducible refine wt_map ?_) | (with_reducible refine wt_letC ?_) | (with_reducible refine wt_draw (by assumption) (by omega) (by omega) ?_; intro _ _ _ _ _; dsimp only))
            obtain ⟨g1, g2, g3, g4⟩ := a4.fo _ hm rfl
            dsimp only at g2
            have er2 : rw2 (2, rows) = rows.map pr1 := if_pos rfl
            rw [er2] at g3 g4
            have hnew : x ∉ (rows.map pr1).map (·.1) := fun q => by
              obtain ⟨e, he, e2⟩ := List.mem_map.mp q
              have e3 := (g4 e he).2.2.2.2 rfl
              have : x ∈ named m2 := List.mem_flatMap.mpr ⟨_, hm, List.mem_map.mpr ⟨e, er2.symm ▸ he, by rw [← e3, e2]⟩⟩
              exact absurd (List.count_eq_zero.mp a4.nx) (fun z => z this)
            refine sort_ex (fun d hd => by obtain ⟨a, c, e, _⟩ := hr2 d hd; exact ⟨a, c, e⟩) fun more pm hsort => ?_
            obtain ⟨k1, k2, k3⟩ := rows_more g2 g3 hnew pm hsort
            have k6 : more.length ≤ 6 := by
              have q := inc_le ((more.map pr1).map (·.1)) 3 8 (List.pairwise_map.mpr k2) (fun z hz => by
                obtain ⟨e, he, rfl⟩ := List.mem_map.mp hz
                rcases List.mem_append.mp (k1.mem_iff.mp he) with he | he
                · obtain ⟨_, _, q3, q4, q5⟩ := g4 e he
                  have := a1.kb _ q4
                  have := q5 rfl
                  omega
                · rw [List.mem_singleton] at he
                  subst he
                  have := hx.2.1
                  dsimp only
                  omega) (by omega)
              rw [List.length_map, List.length_map] at q
              omega
            have hm1 : (more.length : Int) ≤ 60 - 4 * (sp.length : Int) + 1 + 1 := by rw [pm.length_eq, List.length_append]; simp; omega
            have hmr : ∀ d ∈ more, Row h d := fun d hd => hr2 d (pm.mem_iff.mp hd)
            have hml := a1.ml
            dsimp only
            repeat (first | (with_reducible refine wt_bind ?_) | (with_reducible refine wt_map ?_) | (with_reducible refine wt_letC ?_) | (with_reducible refine wt_draw (by assumption) (by omega) (by omega) ?_; intro _ _ _ _ _; dsimp only))
            refine wt_put (by omega) (wt_some ?_)
            have mm := MI.more a1 er hmr hm1 (.inl rfl)
            have k0 : (0 : Int) ∉ ks m2 := fun q => by have := a1.kb 0 q; omega
            exact ⟨mm.1, a2.put _ _, mm.2.trans a3, a4.add a1.nd er k0 (by omega) (a3 ▸ hxu) hx.1 (by omega) (by omega) (fun _ => rfl) k1 k2 k3 k6 (.inl rfl), by rw [dGet_put, if_neg (by omega)]; exact a5⟩
          refine hand.mon fun m3 hm3 => ?_
          obtain ⟨c1, c2, c3, c4, c5⟩ := hm3
          repeat (first | (with_reducible refine wt_bind ?_) | (with_reducible refine wt_map ?_) | (with_reducible refine wt_letC ?_) | (with_reducible refine wt_draw (by assumption) (by omega) (by omega) ?_; intro _ _ _ _ _; dsimp only))
          have ht' : 1 ≤ t ∧ t ≤ 3 := by simp at ht; omega
          refine wt_mul (.inl (lim_big (by omega) (by omega))) ?_
          have hbo : 0 ≤ (t - 1) * boI (decide (2 < way)) ∧ (t - 1) * boI (decide (2 < way)) ≤ 2 ∧ (0 < (t - 1) * boI (decide (2 < way)) → ¬ way < 3) := by
            unfold boI
            split
            · rename_i cw
              have := of_decide_eq_true cw
              exact ⟨by omega, by omega, fun _ => by omega⟩
            · exact ⟨by omega, by omega, fun q => by omega⟩
          revert hbo
          generalize (t - 1) * boI (decide (2 < way)) = tt
          intro hbo
          repeat (first | (with_reducible refine wt_bind ?_) | (with_reducible refine wt_map ?_) | (with_reducible refine wt_letC ?_) | (with_reducible refine wt_draw (by assumption) (by omega) (by omega) ?_; intro _ _ _ _ _; dsimp only))
          refine wt_rng1 (by omega) (by omega) ?_
          dsimp only
          repeat (first | (with_reducible refine wt_bind ?_) | (with_reducible refine wt_map ?_) | (with_reducible refine wt_letC ?_) | (with_reducible refine wt_draw (by assumption) (by omega) (by omega) ?_; intro _ _ _ _ _; dsimp only))
          refine wt_for (fun xs s => s.1.cs.length ≤ 63 ∧ xs.length ≤ 2 ∧ MI h b (60 - 4 * (sp.length : Int) + 4 - (xs.length : Int)) s.2 ∧ FO s.2 gs ∧ ks s.2 = ks u ∧ MX s.2 0 ∧ (xs ≠ [] → ∃ ws, dGet s.2 x = some (1, ws))) ⟨hk6, by rw [len_rngN]; omega, c1.mon (by rw [len_rngN]; omega), c2, c3, c4, fun q => ⟨v.2, by
            have q0 : 0 < tt := by
              by_cases q1 : 0 < tt
              · exact q1
              · exact absurd (by rw [show tt.toNat = 0 by omega]; rfl) q
            rw [c5]
            have := v6 (hbo.2.2 q0)
            rw [← this]⟩⟩ (fun y ys s hs => ?_) (fun s hs => ?_)
          · obtain ⟨d1, d2, d3, d4, d5, d6, d7⟩ := hs
            rw [List.length_cons] at d2 d3
            obtain ⟨ws, hws⟩ := d7 (by simp)
            repeat (first | (with_reducible refine wt_bind ?_) | (with_reducible refine wt_map ?_) | (with_reducible refine wt_letC ?_) | (with_reducible refine wt_draw (by assumption) (by omega) (by omega) ?_; intro _ _ _ _ _; dsimp only))
            refine pick_ok d1 f0 (by omega) fun f2 hf2 k7 hk7 => ?_
            dsimp only
            repeat (first | (with_reducible refine wt_bind ?_) | (with_reducible refine wt_map ?_) | (with_reducible refine wt_letC ?_) | (with_reducible refine wt_draw (by assumption) (by omega) (by omega) ?_; intro _ _ _ _ _; dsimp only))
            refine enter_ex d3 d6 d4 (sub f2 (List.mem_cons_of_mem _ hf2)) (fsx f2 hf2).1 (fsx f2 hf2).2 (d5.symm ▸ hxu) hx.1 hx.2.1 (by omega) (by omega) (by omega) (.inr ⟨rfl, ws, hws⟩) fun ok m' a1 a2 a3 a4 a5 a6 => ?_
            refine wt_some ⟨by assumption, by omega, a1.mon (by omega), a2 _ d4, a3.trans d5, ?_, fun _ => ⟨ws, by dsimp only; rw [a6 x (fun q => (fsx f2 hf2).1 q.symm)]; exact hws⟩⟩
            dsimp only
            cases ok with
            | true => exact a4 rfl
            | false => rw [a5 rfl]; exact d6
          · obtain ⟨d1, d2, d3, d4, d5, d6, d7⟩ := hs
            have hfo : Wt (if decide (way < 3) = true then (appQ fs x).bind fun p56 => some p56 else some fs) (fun fs' => 2 :: fs' = gs ∧ 0 < fs'.length ∧ fs'.length ≤ fs.length + 1 ∧ ∀ f ∈ fs', f ≠ 2) := by
              refine wt_ite (fun c => ?_) (fun c => wt_some ⟨?_, f0, by omega, n2⟩)
              · refine wt_bind (wt_app (by omega) (wt_some ⟨?_, by simp, by simp, fun g hg => by
                  rcases List.mem_append.mp hg with hg | hg
                  · exact n2 g hg
                  · rw [List.mem_singleton] at hg; omega⟩))
                rw [← hgs, if_pos (of_decide_eq_true c)]
              · rw [← hgs, if_neg (of_decide_eq_false c)]
            refine wt_bind (hfo.mon fun fs' hfs => wt_some ?_)
            obtain ⟨g1, g2, g3, g4⟩ := hfs
            have hlen : s.2.length ≤ m.length + 1 := by
              have : (ks s.2).length = (ks u).length := by rw [d5]
              unfold ks at this
              rw [List.length_map, List.length_map] at this
              omega
            refine ⟨d1, ?_, e1, ?_, ?_, ?_, g2, ?_, ?_, d6, g4⟩
            · dsimp only; omega
            · intro y hy
              refine ⟨(hsp' y hy).1, (hsp' y hy).2.1, ?_⟩
              dsimp only
              rw [d5, kk]
              intro q
              rcases List.mem_append.mp q with q | q
              · exact (hsp' y hy).2.2 q
              · rw [List.mem_singleton] at q
                subst q
                exact e3 hy
            · refine d3.mon ?_
              simp only [List.length_nil]
              omega
            · dsimp only
              rw [g1]
              exact d4
            · dsimp only; omega
            · dsimp only; omega

end K28

namespace K28
open PySem PySem.Spec PyProof.Rows L2 Z
variable {ι τ σ ρ : Type}
theorem rows_int {ds : List D} (H : ∀ d ∈ ds, ∃ a : Int, d = .int a) : ds = (ds.map iv1).map PyData.int := by
  rw [List.map_map]
  conv => lhs; rw [← List.map_id ds]
  apply List.map_congr_left
  intro d hd
  obtain ⟨a, rfl⟩ := H d hd
  rfl
section
variable {h b : Int} {m : Mo} {g : List (Int × List Int)} {c : List Int}
theorem SM.entries (S : SM h b m g c) {x : Int} {v : Int × List D} (hv : dGet m x = some v) (h2 : v.1 = 2) : N_entries_of (h, b, c) x = some (v.2.map pr1) := by
  rw [entries_ok S.wf (S.key hv).2.1 (S.key hv).2.2, S.vls hv]
  unfold cont
  rw [if_pos h2, zip_fl2]
theorem SM.content (S : SM h b m g c) {x : Int} {v : Int × List D} (hv : dGet m x = some v) (h1 : v.1 = 1) : N_content_of (h, b, c) x = some (v.2.map iv1) := by
  rw [content_ok S.wf (S.key hv).2.1 (S.key hv).2.2, S.vls hv]
  unfold cont
  rw [if_neg (by omega)]
theorem SM.kd (S : SM h b m g c) {x : Int} {v : Int × List D} (hv : dGet m x = some v) : (v.1 = 2 ∧ v.2 = (v.2.map pr1).map (eP2 PyData.int PyData.int)) ∨ (v.1 = 1 ∧ v.2 = (v.2.map iv1).map PyData.int) := by
  have hm := dGet_mem hv
  rcases S.i.ent _ hm with ⟨e, _⟩ | ⟨e, q⟩
  · obtain ⟨_, q, _⟩ := S.j.fo _ hm e
    exact .inl ⟨e, row_e q⟩
  · exact .inr ⟨e, rows_int fun d hd => by obtain ⟨a, e, _⟩ := q d hd; exact ⟨a, e⟩⟩
theorem SM.shows (S : SM h b m g c) {x : Int} {v : Int × List D} (hv : dGet m x = some v) : ∃ z, reprQ (.tuple v.2) = some z := by
  have hm := dGet_mem hv
  obtain ⟨z, e, _⟩ : Wt (reprQ (.tuple v.2)) fun _ => True := by
    rcases S.i.ent _ hm with ⟨e, q⟩ | ⟨e, q⟩
    · have := (S.j.fo _ hm e).1
      refine wt_repr (w := ((40 + 1) * 2 + 1) * 6) ((sh_tuple (w := (40 + 1) * 2) (k := 1) (n := 6) (fun d hd => ?_) this).mon (Nat.le_refl _) (by omega)) (by omega) trivial
      obtain ⟨a, c', rfl, c1, c2, c3, c4⟩ := q d hd
      have h8 := S.h8
      refine sh_tuple (w := 40) (k := 0) (n := 2) (fun d hd => ?_) (by simp)
      simp only [List.mem_cons, List.not_mem_nil, or_false] at hd
      rcases hd with rfl | rfl
      · exact sh_int (by omega) (by omega)
      · exact sh_int (by omega) (by omega)
    · have := (S.j.fi _ hm e).1
      refine wt_repr (w := (40 + 1) * 12) ((sh_tuple (w := 40) (k := 0) (n := 12) (fun d hd => ?_) this).mon (Nat.le_refl _) (by omega)) (by omega) trivial
      obtain ⟨a, rfl, a0, a1⟩ := q d hd
      exact sh_int (by omega) (by omega)
  exact ⟨z, e⟩
theorem eTu_pr {v : List D} (e : v = (v.map pr1).map (eP2 PyData.int PyData.int)) : (eTu (eP2 PyData.int PyData.int)) (v.map pr1) = PyData.tuple v := by
  show PyData.tuple ((v.map pr1).map (eP2 PyData.int PyData.int)) = _
  rw [← e]
theorem eTu_iv {v : List D} (e : v = (v.map iv1).map PyData.int) : (eTu PyData.int) (v.map iv1) = PyData.tuple v := by
  show PyData.tuple ((v.map iv1).map PyData.int) = _
  rw [← e]
theorem eTu_D (v : List D) : (eTu eD) v = PyData.tuple v := by
  show PyData.tuple (v.map eD) = _
  rw [mapeD]
end

theorem right_ok {h b : Int} {m : Mo} {g : List (Int × List Int)} {c : List Int} (S : SM h b m g c) {x : Int} (hx : x ∈ ks m) : N_l_right (h, b, c) m x = some true := by
  obtain ⟨v, hv⟩ := dGet_has hx
  obtain ⟨z, ez⟩ := S.shows hv
  unfold N_l_right N_names_in N_worths_in
  rw [hv, Option.bind_some]
  rcases S.kd hv with ⟨e, q⟩ | ⟨e, q⟩
  · rw [if_pos (decide_eq_true e), S.entries hv e]
    simp only [Option.bind_some, eTu_pr q, eTu_D, ez, Option.map_some, decide_true]
  · rw [if_neg (by rw [decide_eq_false (by omega)]; exact Bool.false_ne_true), S.content hv e]
    simp only [Option.bind_some, eTu_iv q, eTu_D, ez, Option.map_some, decide_true]
def RT (t : St × Mo × Int) : Prop := ∃ h b g c, t.1 = (h, b, c) ∧ SM h b t.2.1 g c ∧ t.2.2 ∈ ks t.2.1
theorem law_ok (ns : List Int) : N_law ns = some true := by
  have hk : (deckN ns).cs.length ≤ 63 := by
    show ((ns.take 63).reverse).length ≤ 63
    rw [List.length_reverse, List.length_take]
    omega
  unfold N_law
  refine (?_ : ∀ (o : Option Bool), Wt o (fun w => w = true) → o = some true) _ (wt_bind (wt_for (fun ys (s : Dk × List (St × Mo × Int)) => s.1.cs.length ≤ 63 ∧ s.2.length + 8 * ys.length ≤ 100 ∧ ∀ t ∈ s.2, RT t) ⟨hk, by rw [len_rngN]; simp, fun _ h => nomatch h⟩ (fun x xs s hs => ?_) (fun s hs => ?_)))
  · rintro o ⟨q, rfl, rfl⟩
    rfl
  · obtain ⟨a1, a2, a3⟩ := hs
    rw [List.length_cons] at a2
    refine wt_bind (shape_ok a1 fun h b k1 h2 h8 b3 b12 hk1 => ?_)
    dsimp only
    refine wt_bind (model_ex hk1 h2 h8 b3 fun m k2 mi mx hk2 => ?_)
    have ml := mi.ml
    dsimp only
    refine wt_bind (wt_bind (given_ex hk2 mi b3 b12 fun g k4 gx hk4 => wt_map (laid_ex mi mx gx h2 h8 b3 b12 fun c L => ?_)))
    have S : SM h b m g c := ⟨mi, mx, gx, L, h2, h8, b3, b12⟩
    dsimp only
    refine wt_bind (wt_bind (wt_bind (wt_sortK (by omega) fun xs pm => wt_map (wt_mapC (by rw [pm.length_eq, List.length_map]; omega) (wt_map (wt_cat (by rw [List.length_map, pm.length_eq, List.length_map]; omega) (wt_some ⟨hk4, ?_, fun t ht => ?_⟩)))))))
    · dsimp only
      rw [List.length_append, List.length_map, pm.length_eq, List.length_map]
      omega
    · rcases List.mem_append.mp ht with ht | ht
      · exact a3 t ht
      · obtain ⟨x, hx, rfl⟩ := List.mem_map.mp ht
        exact ⟨h, b, g, c, rfl, S, pm.mem_iff.mp hx⟩
  · obtain ⟨a1, a2, a3⟩ := hs
    simp only [List.length_nil] at a2
    refine wt_bind (wt_cat (by rw [List.length_reverse]; omega) ?_)
    refine (?_ : ∀ (o : Option (Unit ⊕ Bool)), Wt o (fun w => w = .inl ()) → Wt (o.bind (Sum.elim (fun s20 => (some true)) (fun v24 => (some v24)))) (fun w => w = true)) _ (wt_forR (fun _ => True) trivial (fun t ht _ _ => ?_) (fun _ _ => rfl))
    · rintro o ⟨q, rfl, rfl⟩
      exact wt_some rfl
    · have hR : RT t := by
        rcases List.mem_append.mp ht with ht | ht
        · exact a3 t ht
        · exact a3 t (List.mem_reverse.mp ht)
      obtain ⟨h, b, g, c, e, S, hx⟩ := hR
      rw [e, right_ok S hx]
      exact ⟨_, rfl, (), rfl, trivial⟩
theorem law_true : ∀ ns : List Int, ns.length ≤ 63 → ∃ outs, φ_law [.scr ns] = some (.bool true, outs) := fun ns _ => ⟨_, n_law ns true (law_ok ns)⟩

end K28

namespace K28
open PySem PySem.Spec PyProof.Rows L2 Z
theorem all_mk {l : PySem.W.OpenLaw} {w : World} {K : PySem.W.Frag} {h : Heap} {mg : Str → Option Value} {fa : Addr} (X : K.In h) (G : h.Ns mainGlobals mg) (hfa : mg "law" = some (.ref fa))
    {f0 : Addr} {od0 an0 : Option Addr} {sl0 : Array (Option Value)} {oc0 kV0 dc0 pm0 cd0 ct0 : Value}
    {f1 : Addr} {od1 an1 : Option Addr} {sl1 : Array (Option Value)} {oc1 kV1 dc1 pm1 cd1 ct1 : Value}
    {f2 : Addr} {od2 an2 : Option Addr} {sl2 : Array (Option Value)} {oc2 kV2 dc2 pm2 cd2 ct2 : Value}
    {f3 : Addr} {od3 an3 : Option Addr} {sl3 : Array (Option Value)} {oc3 kV3 dc3 pm3 cd3 ct3 : Value}
    {f4 : Addr} {od4 an4 : Option Addr} {sl4 : Array (Option Value)} {oc4 kV4 dc4 pm4 cd4 ct4 : Value}
    {f5 : Addr} {od5 an5 : Option Addr} {sl5 : Array (Option Value)} {oc5 kV5 dc5 pm5 cd5 ct5 : Value}
    {f6 : Addr} {od6 an6 : Option Addr} {sl6 : Array (Option Value)} {oc6 kV6 dc6 pm6 cd6 ct6 : Value}
    {f7 : Addr} {od7 an7 : Option Addr} {sl7 : Array (Option Value)} {oc7 kV7 dc7 pm7 cd7 ct7 : Value}
    {f8 : Addr} {od8 an8 : Option Addr} {sl8 : Array (Option Value)} {oc8 kV8 dc8 pm8 cd8 ct8 : Value}
    {f9 : Addr} {od9 an9 : Option Addr} {sl9 : Array (Option Value)} {oc9 kV9 dc9 pm9 cd9 ct9 : Value}
    {f10 : Addr} {od10 an10 : Option Addr} {sl10 : Array (Option Value)} {oc10 kV10 dc10 pm10 cd10 ct10 : Value}
    {f11 : Addr} {od11 an11 : Option Addr} {sl11 : Array (Option Value)} {oc11 kV11 dc11 pm11 cd11 ct11 : Value}
    {f12 : Addr} {od12 an12 : Option Addr} {sl12 : Array (Option Value)} {oc12 kV12 dc12 pm12 cd12 ct12 : Value}
    {f13 : Addr} {od13 an13 : Option Addr} {sl13 : Array (Option Value)} {oc13 kV13 dc13 pm13 cd13 ct13 : Value}
    {f14 : Addr} {od14 an14 : Option Addr} {sl14 : Array (Option Value)} {oc14 kV14 dc14 pm14 cd14 ct14 : Value}
    {f15 : Addr} {od15 an15 : Option Addr} {sl15 : Array (Option Value)} {oc15 kV15 dc15 pm15 cd15 ct15 : Value}
    {f16 : Addr} {od16 an16 : Option Addr} {sl16 : Array (Option Value)} {oc16 kV16 dc16 pm16 cd16 ct16 : Value}
    {f17 : Addr} {od17 an17 : Option Addr} {sl17 : Array (Option Value)} {oc17 kV17 dc17 pm17 cd17 ct17 : Value}
    {f18 : Addr} {od18 an18 : Option Addr} {sl18 : Array (Option Value)} {oc18 kV18 dc18 pm18 cd18 ct18 : Value}
    {f19 : Addr} {od19 an19 : Option Addr} {sl19 : Array (Option Value)} {oc19 kV19 dc19 pm19 cd19 ct19 : Value}
    {f20 : Addr} {od20 an20 : Option Addr} {sl20 : Array (Option Value)} {oc20 kV20 dc20 pm20 cd20 ct20 : Value}
    {f21 : Addr} {od21 an21 : Option Addr} {sl21 : Array (Option Value)} {oc21 kV21 dc21 pm21 cd21 ct21 : Value}
    {f22 : Addr} {od22 an22 : Option Addr} {sl22 : Array (Option Value)} {oc22 kV22 dc22 pm22 cd22 ct22 : Value}
    {f23 : Addr} {od23 an23 : Option Addr} {sl23 : Array (Option Value)} {oc23 kV23 dc23 pm23 cd23 ct23 : Value}
    {f24 : Addr} {od24 an24 : Option Addr} {sl24 : Array (Option Value)} {oc24 kV24 dc24 pm24 cd24 ct24 : Value}
    {f25 : Addr} {od25 an25 : Option Addr} {sl25 : Array (Option Value)} {oc25 kV25 dc25 pm25 cd25 ct25 : Value}
    {f26 : Addr} {od26 an26 : Option Addr} {sl26 : Array (Option Value)} {oc26 kV26 dc26 pm26 cd26 ct26 : Value}
    {f27 : Addr} {od27 an27 : Option Addr} {sl27 : Array (Option Value)} {oc27 kV27 dc27 pm27 cd27 ct27 : Value}
    {u0 : Value}
    {u1 : Value}
    {u2 : Value}
    {u3 : Value}
    {u4 : Value}
    {u5 : Value}
    {u6 : Value}
    {u7 : Value}
    {u8 : Value}
    (a0 : PySem.W.nsIn K mainGlobals "map_first" = some (some (.ref f0))) (l0 : K.lookup f0 = some ⟨oc0, od0, .func (PySem.W.fnOf "map_first" "map_first" (defArgs s_map_first) (defBody s_map_first) (defScope s_map_first) .none kV0 dc0 pm0 an0 cd0 ct0), sl0⟩) (c0 : PySem.W.codeIn K cd0 "map_first" = true) (k0 : PySem.W.keepIn K (.ref f0) = true)
    (a1 : PySem.W.nsIn K mainGlobals "block_first" = some (some (.ref f1))) (l1 : K.lookup f1 = some ⟨oc1, od1, .func (PySem.W.fnOf "block_first" "block_first" (defArgs s_block_first) (defBody s_block_first) (defScope s_block_first) .none kV1 dc1 pm1 an1 cd1 ct1), sl1⟩) (c1 : PySem.W.codeIn K cd1 "block_first" = true) (k1 : PySem.W.keepIn K (.ref f1) = true)
    (a2 : PySem.W.nsIn K mainGlobals "log_first" = some (some (.ref f2))) (l2 : K.lookup f2 = some ⟨oc2, od2, .func (PySem.W.fnOf "log_first" "log_first" (defArgs s_log_first) (defBody s_log_first) (defScope s_log_first) .none kV2 dc2 pm2 an2 cd2 ct2), sl2⟩) (c2 : PySem.W.codeIn K cd2 "log_first" = true) (k2 : PySem.W.keepIn K (.ref f2) = true)
    (a3 : PySem.W.nsIn K mainGlobals "place_of" = some (some (.ref f3))) (l3 : K.lookup f3 = some ⟨oc3, od3, .func (PySem.W.fnOf "place_of" "place_of" (defArgs s_place_of) (defBody s_place_of) (defScope s_place_of) .none kV3 dc3 pm3 an3 cd3 ct3), sl3⟩) (c3 : PySem.W.codeIn K cd3 "place_of" = true) (k3 : PySem.W.keepIn K (.ref f3) = true)
    (a4 : PySem.W.nsIn K mainGlobals "cell_of" = some (some (.ref f4))) (l4 : K.lookup f4 = some ⟨oc4, od4, .func (PySem.W.fnOf "cell_of" "cell_of" (defArgs s_cell_of) (defBody s_cell_of) (defScope s_cell_of) .none kV4 dc4 pm4 an4 cd4 ct4), sl4⟩) (c4 : PySem.W.codeIn K cd4 "cell_of" = true) (k4 : PySem.W.keepIn K (.ref f4) = true)
    (a5 : PySem.W.nsIn K mainGlobals "is_length" = some (some (.ref f5))) (l5 : K.lookup f5 = some ⟨oc5, od5, .func (PySem.W.fnOf "is_length" "is_length" (defArgs s_is_length) (defBody s_is_length) (defScope s_is_length) .none kV5 dc5 pm5 an5 cd5 ct5), sl5⟩) (c5 : PySem.W.codeIn K cd5 "is_length" = true) (k5 : PySem.W.keepIn K (.ref f5) = true)
    (a6 : PySem.W.nsIn K mainGlobals "is_measured" = some (some (.ref f6))) (l6 : K.lookup f6 = some ⟨oc6, od6, .func (PySem.W.fnOf "is_measured" "is_measured" (defArgs s_is_measured) (defBody s_is_measured) (defScope s_is_measured) .none kV6 dc6 pm6 an6 cd6 ct6), sl6⟩) (c6 : PySem.W.codeIn K cd6 "is_measured" = true) (k6 : PySem.W.keepIn K (.ref f6) = true)
    (a7 : PySem.W.nsIn K mainGlobals "is_needed" = some (some (.ref f7))) (l7 : K.lookup f7 = some ⟨oc7, od7, .func (PySem.W.fnOf "is_needed" "is_needed" (defArgs s_is_needed) (defBody s_is_needed) (defScope s_is_needed) .none kV7 dc7 pm7 an7 cd7 ct7), sl7⟩) (c7 : PySem.W.codeIn K cd7 "is_needed" = true) (k7 : PySem.W.keepIn K (.ref f7) = true)
    (a8 : PySem.W.nsIn K mainGlobals "may_hold" = some (some (.ref f8))) (l8 : K.lookup f8 = some ⟨oc8, od8, .func (PySem.W.fnOf "may_hold" "may_hold" (defArgs s_may_hold) (defBody s_may_hold) (defScope s_may_hold) .none kV8 dc8 pm8 an8 cd8 ct8), sl8⟩) (c8 : PySem.W.codeIn K cd8 "may_hold" = true) (k8 : PySem.W.keepIn K (.ref f8) = true)
    (a9 : PySem.W.nsIn K mainGlobals "in_use" = some (some (.ref f9))) (l9 : K.lookup f9 = some ⟨oc9, od9, .func (PySem.W.fnOf "in_use" "in_use" (defArgs s_in_use) (defBody s_in_use) (defScope s_in_use) .none kV9 dc9 pm9 an9 cd9 ct9), sl9⟩) (c9 : PySem.W.codeIn K cd9 "in_use" = true) (k9 : PySem.W.keepIn K (.ref f9) = true)
    (a10 : PySem.W.nsIn K mainGlobals "held_by" = some (some (.ref f10))) (l10 : K.lookup f10 = some ⟨oc10, od10, .func (PySem.W.fnOf "held_by" "held_by" (defArgs s_held_by) (defBody s_held_by) (defScope s_held_by) .none kV10 dc10 pm10 an10 cd10 ct10), sl10⟩) (c10 : PySem.W.codeIn K cd10 "held_by" = true) (k10 : PySem.W.keepIn K (.ref f10) = true)
    (a11 : PySem.W.nsIn K mainGlobals "content_places" = some (some (.ref f11))) (l11 : K.lookup f11 = some ⟨oc11, od11, .func (PySem.W.fnOf "content_places" "content_places" (defArgs s_content_places) (defBody s_content_places) (defScope s_content_places) .none kV11 dc11 pm11 an11 cd11 ct11), sl11⟩) (c11 : PySem.W.codeIn K cd11 "content_places" = true) (k11 : PySem.W.keepIn K (.ref f11) = true)
    (a12 : PySem.W.nsIn K mainGlobals "content_of" = some (some (.ref f12))) (l12 : K.lookup f12 = some ⟨oc12, od12, .func (PySem.W.fnOf "content_of" "content_of" (defArgs s_content_of) (defBody s_content_of) (defScope s_content_of) .none kV12 dc12 pm12 an12 cd12 ct12), sl12⟩) (c12 : PySem.W.codeIn K cd12 "content_of" = true) (k12 : PySem.W.keepIn K (.ref f12) = true)
    (a13 : PySem.W.nsIn K mainGlobals "entries_of" = some (some (.ref f13))) (l13 : K.lookup f13 = some ⟨oc13, od13, .func (PySem.W.fnOf "entries_of" "entries_of" (defArgs s_entries_of) (defBody s_entries_of) (defScope s_entries_of) .none kV13 dc13 pm13 an13 cd13 ct13), sl13⟩) (c13 : PySem.W.codeIn K cd13 "entries_of" = true) (k13 : PySem.W.keepIn K (.ref f13) = true)
    (a14 : PySem.W.nsIn K mainGlobals "names_in" = some (some (.ref f14))) (l14 : K.lookup f14 = some ⟨oc14, od14, .func (PySem.W.fnOf "names_in" "names_in" (defArgs s_names_in) (defBody s_names_in) (defScope s_names_in) .none kV14 dc14 pm14 an14 cd14 ct14), sl14⟩) (c14 : PySem.W.codeIn K cd14 "names_in" = true) (k14 : PySem.W.keepIn K (.ref f14) = true)
    (a15 : PySem.W.nsIn K mainGlobals "worths_in" = some (some (.ref f15))) (l15 : K.lookup f15 = some ⟨oc15, od15, .func (PySem.W.fnOf "worths_in" "worths_in" (defArgs s_worths_in) (defBody s_worths_in) (defScope s_worths_in) .none kV15 dc15 pm15 an15 cd15 ct15), sl15⟩) (c15 : PySem.W.codeIn K cd15 "worths_in" = true) (k15 : PySem.W.keepIn K (.ref f15) = true)
    (a16 : PySem.W.nsIn K mainGlobals "_law_deck" = some (some (.ref f16))) (l16 : K.lookup f16 = some ⟨oc16, od16, .func (PySem.W.fnOf "_law_deck" "_law_deck" (defArgs s__law_deck) (defBody s__law_deck) (defScope s__law_deck) .none kV16 dc16 pm16 an16 cd16 ct16), sl16⟩) (c16 : PySem.W.codeIn K cd16 "_law_deck" = true) (k16 : PySem.W.keepIn K (.ref f16) = true)
    (a17 : PySem.W.nsIn K mainGlobals "_law_draw" = some (some (.ref f17))) (l17 : K.lookup f17 = some ⟨oc17, od17, .func (PySem.W.fnOf "_law_draw" "_law_draw" (defArgs s__law_draw) (defBody s__law_draw) (defScope s__law_draw) .none kV17 dc17 pm17 an17 cd17 ct17), sl17⟩) (c17 : PySem.W.codeIn K cd17 "_law_draw" = true) (k17 : PySem.W.keepIn K (.ref f17) = true)
    (a18 : PySem.W.nsIn K mainGlobals "_law_pick" = some (some (.ref f18))) (l18 : K.lookup f18 = some ⟨oc18, od18, .func (PySem.W.fnOf "_law_pick" "_law_pick" (defArgs s__law_pick) (defBody s__law_pick) (defScope s__law_pick) .none kV18 dc18 pm18 an18 cd18 ct18), sl18⟩) (c18 : PySem.W.codeIn K cd18 "_law_pick" = true) (k18 : PySem.W.keepIn K (.ref f18) = true)
    (a19 : PySem.W.nsIn K mainGlobals "_law_shape" = some (some (.ref f19))) (l19 : K.lookup f19 = some ⟨oc19, od19, .func (PySem.W.fnOf "_law_shape" "_law_shape" (defArgs s__law_shape) (defBody s__law_shape) (defScope s__law_shape) .none kV19 dc19 pm19 an19 cd19 ct19), sl19⟩) (c19 : PySem.W.codeIn K cd19 "_law_shape" = true) (k19 : PySem.W.keepIn K (.ref f19) = true)
    (a20 : PySem.W.nsIn K mainGlobals "_law_needs" = some (some (.ref f20))) (l20 : K.lookup f20 = some ⟨oc20, od20, .func (PySem.W.fnOf "_law_needs" "_law_needs" (defArgs s__law_needs) (defBody s__law_needs) (defScope s__law_needs) .none kV20 dc20 pm20 an20 cd20 ct20), sl20⟩) (c20 : PySem.W.codeIn K cd20 "_law_needs" = true) (k20 : PySem.W.keepIn K (.ref f20) = true)
    (a21 : PySem.W.nsIn K mainGlobals "_law_left" = some (some (.ref f21))) (l21 : K.lookup f21 = some ⟨oc21, od21, .func (PySem.W.fnOf "_law_left" "_law_left" (defArgs s__law_left) (defBody s__law_left) (defScope s__law_left) .none kV21 dc21 pm21 an21 cd21 ct21), sl21⟩) (c21 : PySem.W.codeIn K cd21 "_law_left" = true) (k21 : PySem.W.keepIn K (.ref f21) = true)
    (a22 : PySem.W.nsIn K mainGlobals "_law_enter" = some (some (.ref f22))) (l22 : K.lookup f22 = some ⟨oc22, od22, .func (PySem.W.fnOf "_law_enter" "_law_enter" (defArgs s__law_enter) (defBody s__law_enter) (defScope s__law_enter) .none kV22 dc22 pm22 an22 cd22 ct22), sl22⟩) (c22 : PySem.W.codeIn K cd22 "_law_enter" = true) (k22 : PySem.W.keepIn K (.ref f22) = true)
    (a23 : PySem.W.nsIn K mainGlobals "_law_model" = some (some (.ref f23))) (l23 : K.lookup f23 = some ⟨oc23, od23, .func (PySem.W.fnOf "_law_model" "_law_model" (defArgs s__law_model) (defBody s__law_model) (defScope s__law_model) .none kV23 dc23 pm23 an23 cd23 ct23), sl23⟩) (c23 : PySem.W.codeIn K cd23 "_law_model" = true) (k23 : PySem.W.keepIn K (.ref f23) = true)
    (a24 : PySem.W.nsIn K mainGlobals "_law_given" = some (some (.ref f24))) (l24 : K.lookup f24 = some ⟨oc24, od24, .func (PySem.W.fnOf "_law_given" "_law_given" (defArgs s__law_given) (defBody s__law_given) (defScope s__law_given) .none kV24 dc24 pm24 an24 cd24 ct24), sl24⟩) (c24 : PySem.W.codeIn K cd24 "_law_given" = true) (k24 : PySem.W.keepIn K (.ref f24) = true)
    (a25 : PySem.W.nsIn K mainGlobals "_law_laid" = some (some (.ref f25))) (l25 : K.lookup f25 = some ⟨oc25, od25, .func (PySem.W.fnOf "_law_laid" "_law_laid" (defArgs s__law_laid) (defBody s__law_laid) (defScope s__law_laid) .none kV25 dc25 pm25 an25 cd25 ct25), sl25⟩) (c25 : PySem.W.codeIn K cd25 "_law_laid" = true) (k25 : PySem.W.keepIn K (.ref f25) = true)
    (a26 : PySem.W.nsIn K mainGlobals "_law_right" = some (some (.ref f26))) (l26 : K.lookup f26 = some ⟨oc26, od26, .func (PySem.W.fnOf "_law_right" "_law_right" (defArgs s__law_right) (defBody s__law_right) (defScope s__law_right) .none kV26 dc26 pm26 an26 cd26 ct26), sl26⟩) (c26 : PySem.W.codeIn K cd26 "_law_right" = true) (k26 : PySem.W.keepIn K (.ref f26) = true)
    (a27 : PySem.W.nsIn K mainGlobals "law" = some (some (.ref f27))) (l27 : K.lookup f27 = some ⟨oc27, od27, .func (PySem.W.fnOf "law" "law" (defArgs s_law) (defBody s_law) (defScope s_law) .none kV27 dc27 pm27 an27 cd27 ct27), sl27⟩) (c27 : PySem.W.codeIn K cd27 "law" = true) (k27 : PySem.W.keepIn K (.ref f27) = true)
    (b0 : PySem.W.nsIn K mainGlobals "BLOCK_CELLS" = some (some u0)) (r0 : (kRp K 40 u0).map (·.2) = some (.int 4))
    (b1 : PySem.W.nsIn K mainGlobals "FILE" = some (some u1)) (r1 : (kRp K 40 u1).map (·.2) = some (.int 1))
    (b2 : PySem.W.nsIn K mainGlobals "FOLDER" = some (some u2)) (r2 : (kRp K 40 u2).map (·.2) = some (.int 2))
    (b3 : PySem.W.nsIn K mainGlobals "HEAD_CELLS" = some (some u3)) (r3 : (kRp K 40 u3).map (·.2) = some (.int 7))
    (b4 : PySem.W.nsIn K mainGlobals "HEAD_PARTS" = some (some u4)) (r4 : (kRp K 40 u4).map (·.2) = some (.tuple [.str "kind", .str "count", .str "length", .str "sum"]))
    (b5 : PySem.W.nsIn K mainGlobals "LOG_HEAD" = some (some u5)) (r5 : (kRp K 40 u5).map (·.2) = some (.tuple [.str "mark", .str "seal"]))
    (b6 : PySem.W.nsIn K mainGlobals "MOST_LENGTH" = some (some u6)) (r6 : (kRp K 40 u6).map (·.2) = some (.int 12))
    (b7 : PySem.W.nsIn K mainGlobals "PAIR_PARTS" = some (some u7)) (r7 : (kRp K 40 u7).map (·.2) = some (.tuple [.str "place", .str "worth"]))
    (b8 : PySem.W.nsIn K mainGlobals "SLOTS" = some (some u8)) (r8 : (kRp K 40 u8).map (·.2) = some (.int 3))
    (t4 : kDn K u4 = true)
    (t5 : kDn K u5 = true)
    (t7 : kDn K u7 = true)
    (z0 : PySem.W.nsIn K mainGlobals "enumerate" = some none)
    (z1 : PySem.W.nsIn K mainGlobals "int" = some none)
    (z2 : PySem.W.nsIn K mainGlobals "len" = some none)
    (z3 : PySem.W.nsIn K mainGlobals "list" = some none)
    (z4 : PySem.W.nsIn K mainGlobals "max" = some none)
    (z5 : PySem.W.nsIn K mainGlobals "min" = some none)
    (z6 : PySem.W.nsIn K mainGlobals "range" = some none)
    (z7 : PySem.W.nsIn K mainGlobals "repr" = some none)
    (z8 : PySem.W.nsIn K mainGlobals "reversed" = some none)
    (z9 : PySem.W.nsIn K mainGlobals "sorted" = some none)
    (z10 : PySem.W.nsIn K mainGlobals "sum" = some none)
    (z11 : PySem.W.nsIn K mainGlobals "tuple" = some none)
    (z12 : PySem.W.nsIn K mainGlobals "zip" = some none)
    : ∃ fd : FuncData, (∀ (s : Shared) (v : Value), BindsTo s fd ⟨[v], []⟩ [("_law_script", v)]) ∧ ∀ base : Heap, K.In base → base.Ns mainGlobals mg → FnG l.prog w K mg base CX0 13 fa fd ["_law_script"] (spF K 1 false φ_law) := by
  cases hfa.symm.trans (PySem.W.mg_of X G a27)
  have T : Txt K mg := { c_BLOCK_CELLS := ⟨_, _, PySem.W.mg_of X G b0, gcs r0⟩, c_FILE := ⟨_, _, PySem.W.mg_of X G b1, gcs r1⟩, c_FOLDER := ⟨_, _, PySem.W.mg_of X G b2, gcs r2⟩, c_HEAD_CELLS := ⟨_, _, PySem.W.mg_of X G b3, gcs r3⟩, c_HEAD_PARTS := ⟨_, _, PySem.W.mg_of X G b4, gcs r4⟩, c_LOG_HEAD := ⟨_, _, PySem.W.mg_of X G b5, gcs r5⟩, c_MOST_LENGTH := ⟨_, _, PySem.W.mg_of X G b6, gcs r6⟩, c_PAIR_PARTS := ⟨_, _, PySem.W.mg_of X G b7, gcs r7⟩, c_SLOTS := ⟨_, _, PySem.W.mg_of X G b8, gcs r8⟩, t_HEAD_PARTS := ⟨_, _, PySem.W.mg_of X G b4, gcs r4, t4⟩, t_LOG_HEAD := ⟨_, _, PySem.W.mg_of X G b5, gcs r5, t5⟩, t_PAIR_PARTS := ⟨_, _, PySem.W.mg_of X G b7, gcs r7, t7⟩, m_enumerate := PySem.W.mg_none_of X G z0, m_int := PySem.W.mg_none_of X G z1, m_len := PySem.W.mg_none_of X G z2, m_list := PySem.W.mg_none_of X G z3, m_max := PySem.W.mg_none_of X G z4, m_min := PySem.W.mg_none_of X G z5, m_range := PySem.W.mg_none_of X G z6, m_repr := PySem.W.mg_none_of X G z7, m_reversed := PySem.W.mg_none_of X G z8, m_sorted := PySem.W.mg_none_of X G z9, m_sum := PySem.W.mg_none_of X G z10, m_tuple := PySem.W.mg_none_of X G z11, m_zip := PySem.W.mg_none_of X G z12 }
  refine ⟨PySem.W.fnOf "law" "law" (defArgs s_law) (defBody s_law) (defScope s_law) .none kV27 dc27 pm27 an27 cd27 ct27, fun s v => .of_eq rfl, fun base _ _ => ?_⟩
  have h_map_first := ok_map_first (P := l.prog) (w := w) (base := base) T  (fun_mk (st := s_map_first) l0 c0 k0) (PySem.W.mg_of X G a0)
  have h_block_first := ok_block_first (P := l.prog) (w := w) (base := base) T h_map_first (fun_mk (st := s_block_first) l1 c1 k1) (PySem.W.mg_of X G a1)
  have h_log_first := ok_log_first (P := l.prog) (w := w) (base := base) T h_block_first (fun_mk (st := s_log_first) l2 c2 k2) (PySem.W.mg_of X G a2)
  have h_place_of := ok_place_of (P := l.prog) (w := w) (base := base) T h_block_first h_log_first h_map_first (fun_mk (st := s_place_of) l3 c3 k3) (PySem.W.mg_of X G a3)
  have h_cell_of := ok_cell_of (P := l.prog) (w := w) (base := base) T h_place_of (fun_mk (st := s_cell_of) l4 c4 k4) (PySem.W.mg_of X G a4)
  have h_is_length := ok_is_length (P := l.prog) (w := w) (base := base) T  (fun_mk (st := s_is_length) l5 c5 k5) (PySem.W.mg_of X G a5)
  have h_is_measured := ok_is_measured (P := l.prog) (w := w) (base := base) T h_cell_of h_is_length (fun_mk (st := s_is_measured) l6 c6 k6) (PySem.W.mg_of X G a6)
  have h_is_needed := ok_is_needed (P := l.prog) (w := w) (base := base) T h_cell_of (fun_mk (st := s_is_needed) l7 c7 k7) (PySem.W.mg_of X G a7)
  have h_may_hold := ok_may_hold (P := l.prog) (w := w) (base := base) T  (fun_mk (st := s_may_hold) l8 c8 k8) (PySem.W.mg_of X G a8)
  have h_in_use := ok_in_use (P := l.prog) (w := w) (base := base) T h_cell_of (fun_mk (st := s_in_use) l9 c9 k9) (PySem.W.mg_of X G a9)
  have h_held_by := ok_held_by (P := l.prog) (w := w) (base := base) T h_cell_of h_is_measured h_is_needed h_may_hold (fun_mk (st := s_held_by) l10 c10 k10) (PySem.W.mg_of X G a10)
  have h_content_places := ok_content_places (P := l.prog) (w := w) (base := base) T h_held_by h_in_use h_place_of (fun_mk (st := s_content_places) l11 c11 k11) (PySem.W.mg_of X G a11)
  have h_content_of := ok_content_of (P := l.prog) (w := w) (base := base) T h_content_places (fun_mk (st := s_content_of) l12 c12 k12) (PySem.W.mg_of X G a12)
  have h_entries_of := ok_entries_of (P := l.prog) (w := w) (base := base) T h_content_of (fun_mk (st := s_entries_of) l13 c13 k13) (PySem.W.mg_of X G a13)
  have h_names_in := ok_names_in (P := l.prog) (w := w) (base := base) T h_entries_of (fun_mk (st := s_names_in) l14 c14 k14) (PySem.W.mg_of X G a14)
  have h_worths_in := ok_worths_in (P := l.prog) (w := w) (base := base) T h_content_of (fun_mk (st := s_worths_in) l15 c15 k15) (PySem.W.mg_of X G a15)
  have h__law_deck := ok__law_deck (P := l.prog) (w := w) (base := base) T  (fun_mk (st := s__law_deck) l16 c16 k16) (PySem.W.mg_of X G a16)
  have h__law_draw := ok__law_draw (P := l.prog) (w := w) (base := base) T  (fun_mk (st := s__law_draw) l17 c17 k17) (PySem.W.mg_of X G a17)
  have h__law_pick := ok__law_pick (P := l.prog) (w := w) (base := base) T h__law_draw (fun_mk (st := s__law_pick) l18 c18 k18) (PySem.W.mg_of X G a18)
  have h__law_shape := ok__law_shape (P := l.prog) (w := w) (base := base) T h__law_draw (fun_mk (st := s__law_shape) l19 c19 k19) (PySem.W.mg_of X G a19)
  have h__law_needs := ok__law_needs (P := l.prog) (w := w) (base := base) T  (fun_mk (st := s__law_needs) l20 c20 k20) (PySem.W.mg_of X G a20)
  have h__law_left := ok__law_left (P := l.prog) (w := w) (base := base) T h__law_needs (fun_mk (st := s__law_left) l21 c21 k21) (PySem.W.mg_of X G a21)
  have h__law_enter := ok__law_enter (P := l.prog) (w := w) (base := base) T h__law_left h__law_needs (fun_mk (st := s__law_enter) l22 c22 k22) (PySem.W.mg_of X G a22)
  have h__law_model := ok__law_model (P := l.prog) (w := w) (base := base) T h__law_draw h__law_enter h__law_left h__law_pick (fun_mk (st := s__law_model) l23 c23 k23) (PySem.W.mg_of X G a23)
  have h__law_given := ok__law_given (P := l.prog) (w := w) (base := base) T h__law_draw h__law_needs (fun_mk (st := s__law_given) l24 c24 k24) (PySem.W.mg_of X G a24)
  have h__law_laid := ok__law_laid (P := l.prog) (w := w) (base := base) T  (fun_mk (st := s__law_laid) l25 c25 k25) (PySem.W.mg_of X G a25)
  have h__law_right := ok__law_right (P := l.prog) (w := w) (base := base) T h_names_in h_worths_in (fun_mk (st := s__law_right) l26 c26 k26) (PySem.W.mg_of X G a26)
  exact fn_law T h__law_deck h__law_given h__law_laid h__law_model h__law_right h__law_shape (fun_mk (st := s_law) l27 c27 k27)
end K28
open PySem PySem.W PyProof.Rows
set_option maxHeartbeats 0 in
theorem PySem.Challenge.cw_soundstore_k28_entries_and_worths_holds : PySem.Challenge.rw_soundstore_k28_entries_and_worths.Holds := by
  w_on; o_law; k_head; (case hw => w_witness2)
  k_fill
  refine Z.zwalk (l := PySem.Challenge.rw_soundstore_k28_entries_and_worths) (n := 63) (k := 13) (x := "_law_script") (φ := K28.φ_law) rfl (by decide) rfl ⟨rfl, by decide, by decide⟩ (fun w h Y => PySem.W.kIn_of Y) ?F K28.law_true
  case F =>
    intro w mg fa h KX G hmg
    refine' K28.all_mk KX G hmg ?a0 ?l0 ?c0 ?k0 ?a1 ?l1 ?c1 ?k1 ?a2 ?l2 ?c2 ?k2 ?a3 ?l3 ?c3 ?k3 ?a4 ?l4 ?c4 ?k4 ?a5 ?l5 ?c5 ?k5 ?a6 ?l6 ?c6 ?k6 ?a7 ?l7 ?c7 ?k7 ?a8 ?l8 ?c8 ?k8 ?a9 ?l9 ?c9 ?k9 ?a10 ?l10 ?c10 ?k10 ?a11 ?l11 ?c11 ?k11 ?a12 ?l12 ?c12 ?k12 ?a13 ?l13 ?c13 ?k13 ?a14 ?l14 ?c14 ?k14 ?a15 ?l15 ?c15 ?k15 ?a16 ?l16 ?c16 ?k16 ?a17 ?l17 ?c17 ?k17 ?a18 ?l18 ?c18 ?k18 ?a19 ?l19 ?c19 ?k19 ?a20 ?l20 ?c20 ?k20 ?a21 ?l21 ?c21 ?k21 ?a22 ?l22 ?c22 ?k22 ?a23 ?l23 ?c23 ?k23 ?a24 ?l24 ?c24 ?k24 ?a25 ?l25 ?c25 ?k25 ?a26 ?l26 ?c26 ?k26 ?a27 ?l27 ?c27 ?k27 ?b0 ?r0 ?b1 ?r1 ?b2 ?r2 ?b3 ?r3 ?b4 ?r4 ?b5 ?r5 ?b6 ?r6 ?b7 ?r7 ?b8 ?r8 ?t4 ?t5 ?t7 ?z0 ?z1 ?z2 ?z3 ?z4 ?z5 ?z6 ?z7 ?z8 ?z9 ?z10 ?z11 ?z12
    (case a0 => k_is); (case l0 => k_is); (case c0 => k_is); (case k0 => k_is); (case a1 => k_is); (case l1 => k_is); (case c1 => k_is); (case k1 => k_is); (case a2 => k_is); (case l2 => k_is); (case c2 => k_is); (case k2 => k_is); (case a3 => k_is); (case l3 => k_is); (case c3 => k_is); (case k3 => k_is); (case a4 => k_is); (case l4 => k_is); (case c4 => k_is); (case k4 => k_is); (case a5 => k_is); (case l5 => k_is); (case c5 => k_is); (case k5 => k_is); (case a6 => k_is); (case l6 => k_is); (case c6 => k_is); (case k6 => k_is); (case a7 => k_is); (case l7 => k_is); (case c7 => k_is); (case k7 => k_is); (case a8 => k_is); (case l8 => k_is); (case c8 => k_is); (case k8 => k_is); (case a9 => k_is); (case l9 => k_is); (case c9 => k_is); (case k9 => k_is); (case a10 => k_is); (case l10 => k_is); (case c10 => k_is); (case k10 => k_is); (case a11 => k_is); (case l11 => k_is); (case c11 => k_is); (case k11 => k_is); (case a12 => k_is); (case l12 => k_is); (case c12 => k_is); (case k12 => k_is); (case a13 => k_is); (case l13 => k_is); (case c13 => k_is); (case k13 => k_is); (case a14 => k_is); (case l14 => k_is); (case c14 => k_is); (case k14 => k_is); (case a15 => k_is); (case l15 => k_is); (case c15 => k_is); (case k15 => k_is); (case a16 => k_is); (case l16 => k_is); (case c16 => k_is); (case k16 => k_is); (case a17 => k_is); (case l17 => k_is); (case c17 => k_is); (case k17 => k_is); (case a18 => k_is); (case l18 => k_is); (case c18 => k_is); (case k18 => k_is); (case a19 => k_is); (case l19 => k_is); (case c19 => k_is); (case k19 => k_is); (case a20 => k_is); (case l20 => k_is); (case c20 => k_is); (case k20 => k_is); (case a21 => k_is); (case l21 => k_is); (case c21 => k_is); (case k21 => k_is); (case a22 => k_is); (case l22 => k_is); (case c22 => k_is); (case k22 => k_is); (case a23 => k_is); (case l23 => k_is); (case c23 => k_is); (case k23 => k_is); (case a24 => k_is); (case l24 => k_is); (case c24 => k_is); (case k24 => k_is); (case a25 => k_is); (case l25 => k_is); (case c25 => k_is); (case k25 => k_is); (case a26 => k_is); (case l26 => k_is); (case c26 => k_is); (case k26 => k_is); (case a27 => k_is); (case l27 => k_is); (case c27 => k_is); (case k27 => k_is); (case b0 => k_is); (case r0 => kernel_rfl); (case b1 => k_is); (case r1 => kernel_rfl); (case b2 => k_is); (case r2 => kernel_rfl); (case b3 => k_is); (case r3 => kernel_rfl); (case b4 => k_is); (case r4 => kernel_rfl); (case b5 => k_is); (case r5 => kernel_rfl); (case b6 => k_is); (case r6 => kernel_rfl); (case b7 => k_is); (case r7 => kernel_rfl); (case b8 => k_is); (case r8 => kernel_rfl); (case t4 => kernel_rfl); (case t5 => kernel_rfl); (case t7 => kernel_rfl); (case z0 => k_is); (case z1 => k_is); (case z2 => k_is); (case z3 => k_is); (case z4 => k_is); (case z5 => k_is); (case z6 => k_is); (case z7 => k_is); (case z8 => k_is); (case z9 => k_is); (case z10 => k_is); (case z11 => k_is); (case z12 => k_is)

