/-
  Part 3 of 5. The law NamesMore of the names layer holds of the given program for every input whose bulk is at most 1048576: it returns true.
-/
import Derived.Test.YtdnndjdlfpkjlaaGreatDoorA2
import Derived.ChangeReads
import Derived.DataReads
import Derived.Lib.Bytealg
import Derived.Lib.Small
import Derived.Lib.Fields
import Derived.Lib.Space
import Derived.Test.YtdnndjdlfpkjlaaGreatDoorProg
import Derived.KernelRfl
section
namespace Go.Lb
mutual
def lensV : (sh : Sh) → DenSh sh → List (Nat × Nat)
  | .own _ r, x => [(r, x.length)]
  | .ro c, x => lensV c x
  | .fn _ a c, x => lensL a x.1 ++ lensL c x.2
  | .tup l, x => lensL l x
  | .tuple l, x => lensL l x
  | _, _ => []
def lensL : (l : List Sh) → DenShL l → List (Nat × Nat)
  | [], _ => []
  | s :: r, x => lensV s x.1 ++ lensL r x.2
end
section
variable {N N' : Nm} {I : Ids} {c m : Nat} {τ : Nat → Nat}
theorem litV_ok (k : Nat) : okV N c (litV k) := by unfold litV; split <;> simp only [okV]
theorem litV_enc (k : Nat) : (litV k).enc I N = (litV k).enc I N' ∧ (litV k).cells I N = (litV k).cells I N' := by unfold litV; split <;> exact ⟨rfl, rfl⟩
theorem inj_enc (d : D) (x : Den d) : (inj d x).enc I N = (inj d x).enc I N' := by cases d <;> rfl
theorem ren_lit (k : Nat) : (litV k).ren τ = litV k := by unfold litV; split <;> rfl
theorem ren_inj (d : D) (x : Den d) : (inj d x).ren τ = inj d x := by cases d <;> rfl
mutual
theorem sh_enc : ∀ (sh : Sh) (x : DenSh sh), (∀ j ∈ ptrN sh, N'.o (τ j) = N.o j) → (∀ p ∈ lensV sh x, N'.r (τ p.1) = N.r p.1) → ((shV sh x).ren τ).enc I N' = (shV sh x).enc I N ∧ ((shV sh x).ren τ).cells I N' = (shV sh x).cells I N
  | .int _, x, _, _ => ⟨rfl, rfl⟩
  | .bool, x, _, _ => ⟨rfl, rfl⟩
  | .str, x, _, _ => ⟨rfl, rfl⟩
  | .n d, x, _, _ => by simp only [shV, ren_inj]; exact ⟨inj_enc d x, by rw [inj_cells, inj_cells]⟩
  | .sl _, x, _, _ => ⟨rfl, rfl⟩
  | .own d r, x, _, h => by
    have := h (r, x.length) (by simp [lensV])
    simp only [shV, Val.ren, Val.enc, Val.cells, XR.enc, this]; exact ⟨trivial, trivial⟩
  | .err, x, _, _ => ⟨rfl, rfl⟩
  | .ptr j off, x, h, _ => by
    have := h j (by simp [ptrN])
    simp only [shV, Val.ren, Val.enc, Val.cells, this]; exact ⟨trivial, trivial⟩
  | .map j, x, h, _ => by
    have := h j (by simp [ptrN])
    simp only [shV, Val.ren, Val.enc, Val.cells, this]; exact ⟨trivial, trivial⟩
  | .ro c, x, h, h2 => by
    have := (sh_enc c x (by simpa only [ptrN] using h) (by simpa only [lensV] using h2)).2
    simp only [shV, Val.ren, Val.enc, Val.cells, this]; exact ⟨trivial, trivial⟩
  | .lit k, x, _, _ => by simp only [shV, ren_lit]; exact litV_enc k
  | .fn f a c, x, h, h2 => by
    simp only [ptrN, List.mem_append] at h
    simp only [lensV, List.mem_append] at h2
    have a1 := (shL_enc a x.1 (fun j hj => h j (.inl hj)) (fun p hp => h2 p (.inl hp))).1
    have a2 := (shL_enc c x.2 (fun j hj => h j (.inr hj)) (fun p hp => h2 p (.inr hp))).1
    simp only [shV, Val.ren, Val.enc, Val.cells, a1, a2]; exact ⟨trivial, trivial⟩
  | .tup l, x, h, h2 => by
    have := (shL_enc l x (by simpa only [ptrN] using h) (by simpa only [lensV] using h2)).2
    simp only [shV, Val.ren, Val.enc, Val.cells, this]; exact ⟨trivial, trivial⟩
  | .tuple l, x, h, h2 => by
    have := (shL_enc l x (by simpa only [ptrN] using h) (by simpa only [lensV] using h2)).1
    simp only [shV, Val.ren, Val.enc, Val.cells, this]; exact ⟨trivial, trivial⟩
theorem shL_enc : ∀ (l : List Sh) (x : DenShL l), (∀ j ∈ ptrNL l, N'.o (τ j) = N.o j) → (∀ p ∈ lensL l x, N'.r (τ p.1) = N.r p.1) → Val.encL I N' (Val.renL τ (shVL l x)) = Val.encL I N (shVL l x) ∧ Val.cellsL I N' (Val.renL τ (shVL l x)) = Val.cellsL I N (shVL l x)
  | [], _, _, _ => ⟨rfl, rfl⟩
  | s :: r, x, h, h2 => by
    simp only [ptrNL, List.mem_append] at h
    simp only [lensL, List.mem_append] at h2
    obtain ⟨a1, a2⟩ := sh_enc s x.1 (fun j hj => h j (.inl hj)) (fun p hp => h2 p (.inl hp))
    obtain ⟨b1, b2⟩ := shL_enc r x.2 (fun j hj => h j (.inr hj)) (fun p hp => h2 p (.inr hp))
    simp only [shVL, Val.renL, Val.encL, Val.cellsL, a1, a2, b1, b2]; exact ⟨trivial, trivial⟩
end
mutual
theorem sh_ok : ∀ (sh : Sh) (x : DenSh sh), (∀ j ∈ ptrN sh, τ j < c) → (∀ p ∈ lensV sh x, τ p.1 < c ∧ N.n (τ p.1) = p.2) → okV N c ((shV sh x).ren τ)
  | .int _, x, _, _ => by simp only [shV, Val.ren, okV]
  | .bool, x, _, _ => by simp only [shV, Val.ren, okV]
  | .str, x, _, _ => by simp only [shV, Val.ren, okV]
  | .n d, x, _, _ => by simp only [shV, ren_inj]; exact inj_ok d x
  | .sl _, x, _, _ => by simp only [shV, Val.ren, okV]
  | .own d r, x, _, h => by
    have := h (r, x.length) (by simp [lensV])
    simp only [shV, Val.ren, okV]; exact this
  | .err, x, _, _ => by simp only [shV, Val.ren, okV]
  | .ptr j off, x, h, _ => by simp only [shV, Val.ren, okV]; exact h j (by simp [ptrN])
  | .map j, x, h, _ => by simp only [shV, Val.ren, okV]; exact h j (by simp [ptrN])
  | .ro c, x, h, h2 => by simp only [shV, Val.ren, okV]; exact sh_ok c x (by simpa only [ptrN] using h) (by simpa only [lensV] using h2)
  | .lit k, x, _, _ => by simp only [shV, ren_lit]; exact litV_ok k
  | .fn f a c, x, h, h2 => by
    simp only [ptrN, List.mem_append] at h
    simp only [lensV, List.mem_append] at h2
    simp only [shV, Val.ren, okV]
    exact ⟨shL_ok a x.1 (fun j hj => h j (.inl hj)) (fun p hp => h2 p (.inl hp)), shL_ok c x.2 (fun j hj => h j (.inr hj)) (fun p hp => h2 p (.inr hp))⟩
  | .tup l, x, h, h2 => by simp only [shV, Val.ren, okV]; exact shL_ok l x (by simpa only [ptrN] using h) (by simpa only [lensV] using h2)
  | .tuple l, x, h, h2 => by simp only [shV, Val.ren, okV]; exact shL_ok l x (by simpa only [ptrN] using h) (by simpa only [lensV] using h2)
theorem shL_ok : ∀ (l : List Sh) (x : DenShL l), (∀ j ∈ ptrNL l, τ j < c) → (∀ p ∈ lensL l x, τ p.1 < c ∧ N.n (τ p.1) = p.2) → okL N c (Val.renL τ (shVL l x))
  | [], _, _, _ => by simp only [shVL, Val.renL, okL]
  | s :: r, x, h, h2 => by
    simp only [ptrNL, List.mem_append] at h
    simp only [lensL, List.mem_append] at h2
    simp only [shVL, Val.renL, okL]
    exact ⟨sh_ok s x.1 (fun j hj => h j (.inl hj)) (fun p hp => h2 p (.inl hp)), shL_ok r x.2 (fun j hj => h j (.inr hj)) (fun p hp => h2 p (.inr hp))⟩
end
mutual
theorem sh_ok_inv : ∀ (sh : Sh) (x : DenSh sh), okV N c (shV sh x) → (∀ j ∈ ptrN sh, j < c) ∧ ∀ p ∈ lensV sh x, p.1 < c ∧ N.n p.1 = p.2
  | .int _, x, _ => ⟨fun _ h => (by cases h), fun _ h => (by cases h)⟩
  | .bool, x, _ => ⟨fun _ h => (by cases h), fun _ h => (by cases h)⟩
  | .str, x, _ => ⟨fun _ h => (by cases h), fun _ h => (by cases h)⟩
  | .n d, x, _ => ⟨fun _ h => (by cases h), fun _ h => (by cases h)⟩
  | .sl _, x, _ => ⟨fun _ h => (by cases h), fun _ h => (by cases h)⟩
  | .own d r, x, h => by
    simp only [shV, okV] at h
    refine ⟨fun _ h => (by cases h), fun p hp => ?_⟩
    simp only [lensV, List.mem_singleton] at hp
    subst hp
    exact h
  | .err, x, _ => ⟨fun _ h => (by cases h), fun _ h => (by cases h)⟩
  | .ptr j off, x, h => by
    simp only [shV, okV] at h
    exact ⟨fun i hi => by simp only [ptrN, List.mem_singleton] at hi; subst hi; exact h, fun _ h => (by cases h)⟩
  | .map j, x, h => by
    simp only [shV, okV] at h
    exact ⟨fun i hi => by simp only [ptrN, List.mem_singleton] at hi; subst hi; exact h, fun _ h => (by cases h)⟩
  | .ro d, x, h => by simp only [shV, okV] at h; exact sh_ok_inv d x h
  | .lit k, x, _ => ⟨fun _ h => (by cases h), fun _ h => (by cases h)⟩
  | .fn f a d, x, h => by
    simp only [shV, okV] at h
    obtain ⟨a1, a2⟩ := shL_ok_inv a x.1 h.1
    obtain ⟨b1, b2⟩ := shL_ok_inv d x.2 h.2
    refine ⟨fun j hj => ?_, fun p hp => ?_⟩
    · simp only [ptrN, List.mem_append] at hj; rcases hj with hj | hj; exact a1 j hj; exact b1 j hj
    · simp only [lensV, List.mem_append] at hp; rcases hp with hp | hp; exact a2 p hp; exact b2 p hp
  | .tup l, x, h => by simp only [shV, okV] at h; exact shL_ok_inv l x h
  | .tuple l, x, h => by simp only [shV, okV] at h; exact shL_ok_inv l x h
theorem shL_ok_inv : ∀ (l : List Sh) (x : DenShL l), okL N c (shVL l x) → (∀ j ∈ ptrNL l, j < c) ∧ ∀ p ∈ lensL l x, p.1 < c ∧ N.n p.1 = p.2
  | [], _, _ => ⟨fun _ h => (by cases h), fun _ h => (by cases h)⟩
  | s :: r, x, h => by
    simp only [shVL, okL] at h
    obtain ⟨a1, a2⟩ := sh_ok_inv s x.1 h.1
    obtain ⟨b1, b2⟩ := shL_ok_inv r x.2 h.2
    refine ⟨fun j hj => ?_, fun p hp => ?_⟩
    · simp only [ptrNL, List.mem_append] at hj; rcases hj with hj | hj; exact a1 j hj; exact b1 j hj
    · simp only [lensL, List.mem_append] at hp; rcases hp with hp | hp; exact a2 p hp; exact b2 p hp
end
theorem weak_fn {f : Fn} {a a' c c' : List AV} (h : WeakL a a') (k : WeakL c c') : Weak (.fn f a c) (.fn f a' c') := by
  intro fz w x r
  simp only [Rel] at r ⊢
  obtain ⟨fs, cs, rfl, h1, h2⟩ := r
  exact ⟨fs, cs, rfl, h _ _ _ h1, k _ _ _ h2⟩
theorem litN_eq {v : Val} {k : Nat} (h : (Nat.beq (litN v) k && Nat.ble k 5) = true) : v = litV k := by
  simp only [Bool.and_eq_true] at h
  have h1 := natBeq h.1
  have h2 := Nat.le_of_ble_eq_true h.2
  subst h1
  cases v <;> simp [litN] at h2 <;> rfl
theorem isN_spec {σ : List (Nat × Nat)} {j a : Nat} (h : isN σ j a = true) : lkN σ j = some a := by
  unfold isN at h
  split at h
  · rename_i b hb; rw [hb, natBeq h]
  · cases h
theorem noN_spec {σ : List (Nat × Nat)} {j : Nat} (h : noN σ j = true) : lkN σ j = none := by
  unfold noN at h
  split at h
  · cases h
  · assumption
structure Pull (N : Nm) (σ : List (Nat × Nat)) (N' : Nm) : Prop where
  o : ∀ j a, lkN σ j = some a → N'.o j = N.o a
  r : ∀ j a, lkN σ j = some a → N'.r j = N.r a
  f : ∀ j, lkN σ j = none → N'.r j = .full
variable {σ : List (Nat × Nat)}
mutual
theorem pack_spec (hp : Pull N σ N') : ∀ (sh : Sh) (v : Val) (x : DenSh sh), packV σ sh v = some x → PW (v.cells I N) ((shV sh x).cells I N') ∧ v.isAgg = (shV sh x).isAgg
  | .int k, v, x, h => by
    simp only [packV] at h
    split at h
    · rename_i k' n
      cases hc : decide (k' = k) with
      | false => rw [hc] at h; cases h
      | true =>
        rw [hc] at h
        simp only [cond_true, Option.some.injEq] at h
        subst h
        rw [of_decide_eq_true hc]
        exact ⟨PW.refl _, rfl⟩
    · cases h
  | .bool, v, x, h => by
    simp only [packV] at h
    split at h
    · simp only [Option.some.injEq] at h; subst h; exact ⟨PW.refl _, rfl⟩
    · cases h
  | .str, v, x, h => by
    simp only [packV] at h
    split at h
    · simp only [Option.some.injEq] at h; subst h; exact ⟨PW.refl _, rfl⟩
    · cases h
  | .n d, v, x, h => by
    simp only [packV] at h
    exact ⟨by simp only [shV, inj_cells]; exact prj_pw h, by simp only [shV]; exact prj_agg h⟩
  | .sl d, v, x, h => by
    simp only [packV] at h
    refine ⟨by simp only [shV, Val.cells]; exact pL_pw h, ?_⟩
    cases v <;> first | rfl | (simp [pL] at h; done)
  | .own d r, v, x, h => by
    simp only [packV] at h
    have key : ∀ {e : D} {l : List (Den e)} {rm : XR}, pL d (.sl e l .full) = some x → rm.enc N = N'.r r → PW ((Val.sl e l rm).cells I N) ((shV (.own d r) x).cells I N') ∧ (Val.sl e l rm).isAgg = (shV (.own d r) x).isAgg := by
      intro e l rm hl hr
      obtain ⟨_, _, _, a1, _, a3, a4⟩ := pL_spec (I := I) (N := N) hl
      simp only [Val.cells, List.cons.injEq, AV.sl.injEq, and_true] at a1
      obtain ⟨b1, b2, _⟩ := a1
      refine ⟨?_, rfl⟩
      show PW [AV.sl l.length ((eD e).encs l) (rm.enc N)] [AV.sl (List.length x) ((eD d).encs x) (N'.r r)]
      rw [hr, b1, b2, a3, a4]
      exact PW.refl _
    split at h
    · cases hc : noN σ r with
      | false => rw [hc] at h; cases h
      | true =>
        rw [hc] at h
        simp only [cond_true, Option.some.injEq] at h
        subst h
        have e := @Enc.encs_nil _ (eD d).toEnc
        simp only [shV, Val.cells, XR.enc, hp.f r (noN_spec hc), e]
        exact ⟨PW.refl _, rfl⟩
    · cases hc : noN σ r with
      | false => rw [hc] at h; cases h
      | true =>
        rw [hc] at h
        exact key h (by rw [hp.f r (noN_spec hc)]; rfl)
    · rename_i e l id
      cases hc : isN σ r id with
      | false => rw [hc] at h; cases h
      | true =>
        rw [hc] at h
        exact key h (by rw [hp.r r id (isN_spec hc)]; rfl)
    · cases h
  | .err, v, x, h => by
    simp only [packV] at h
    split at h
    · simp only [Option.some.injEq] at h; subst h; exact ⟨PW.refl _, rfl⟩
    · simp only [Option.some.injEq] at h; subst h; exact ⟨PW.refl _, rfl⟩
    · cases h
  | .ptr j off, v, x, h => by
    simp only [packV] at h
    split at h
    · rename_i a o
      cases hc : (isN σ j a && Nat.beq o off) with
      | false => rw [hc] at h; cases h
      | true =>
        simp only [Bool.and_eq_true] at hc
        simp only [shV, Val.cells, hp.o j a (isN_spec hc.1), natBeq hc.2]
        exact ⟨PW.refl _, rfl⟩
    · cases h
  | .map j, v, x, h => by
    simp only [packV] at h
    split at h
    · rename_i a
      cases hc : isN σ j a with
      | false => rw [hc] at h; cases h
      | true =>
        simp only [shV, Val.cells, hp.o j a (isN_spec hc)]
        exact ⟨PW.refl _, rfl⟩
    · cases h
  | .ro c, v, x, h => by
    simp only [packV] at h
    split at h
    · rename_i w
      obtain ⟨a1, a2⟩ := pack_spec hp c w x h
      simp only [shV, Val.cells]
      exact ⟨PW.one (weak_ro a1.weakAt), rfl⟩
    · cases h
  | .lit k, v, x, h => by
    simp only [packV] at h
    cases hc : (Nat.beq (litN v) k && Nat.ble k 5) with
    | false => rw [hc] at h; cases h
    | true =>
      rw [litN_eq hc]
      simp only [shV]
      exact ⟨PW.eq (litV_enc k).2, trivial⟩
  | .fn f a c, v, x, h => by
    simp only [packV] at h
    split at h
    · rename_i f' a' c'
      cases hc : Nat.beq f' f with
      | false => rw [hc] at h; cases h
      | true =>
        rw [hc] at h
        simp only [cond_true] at h
        obtain ⟨y, hy, h⟩ := bind2_some h
        obtain ⟨z, hz, h⟩ := bind2_some h
        simp only [Option.some.injEq] at h
        subst h
        have a1 := (packL_spec hp a a' y hy).2
        have a2 := (packL_spec hp c c' z hz).2
        simp only [shV, Val.cells, natBeq hc]
        exact ⟨PW.one (weak_fn a1.weakL a2.weakL), rfl⟩
    · cases h
  | .tup l, v, x, h => by
    simp only [packV] at h
    split at h
    · rename_i vs hvs
      obtain ⟨h1, h2⟩ := fieldsOf_cells (I := I) (N := N) hvs
      rw [h1]
      simp only [shV, Val.cells]
      exact ⟨(packL_spec hp l vs x h).1, h2⟩
    · cases h
  | .tuple l, v, x, h => by
    simp only [packV] at h
    split at h
    · rename_i vs
      simp only [shV, Val.cells]
      exact ⟨PW.one (weak_tuple (packL_spec hp l vs x h).2.weakL), rfl⟩
    · cases h
theorem packL_spec (hp : Pull N σ N') : ∀ (l : List Sh) (vs : List Val) (x : DenShL l), packVL σ l vs = some x → PW (Val.cellsL I N vs) (Val.cellsL I N' (shVL l x)) ∧ PW (Val.encL I N vs) (Val.encL I N' (shVL l x))
  | [], vs, x, h => by
    simp only [packVL] at h
    split at h
    · exact ⟨PW.refl _, PW.refl _⟩
    · cases h
  | s :: r, vs, x, h => by
    simp only [packVL] at h
    split at h
    · rename_i v vs
      obtain ⟨y, hy, h⟩ := bind2_some h
      obtain ⟨z, hz, h⟩ := bind2_some h
      simp only [Option.some.injEq] at h
      subst h
      obtain ⟨a1, a2⟩ := pack_spec hp s v y hy
      obtain ⟨b1, b2⟩ := packL_spec hp r vs z hz
      simp only [Val.cellsL, Val.encL, shVL]
      exact ⟨a1.app b1, weak_of_pw a2 a1, b2⟩
    · cases h
end
mutual
theorem pack_len : ∀ (sh : Sh) (v : Val) (x : DenSh sh), packV σ sh v = some x → okV N c v → ∀ p ∈ lensV sh x, ∀ id, lkN σ p.1 = some id → N.n id = p.2
  | .own d r, v, x, h, ho => by
    intro p hp id hid
    simp only [lensV, List.mem_singleton] at hp
    subst hp
    simp only [packV] at h
    split at h
    · cases hc : noN σ r with
      | false => rw [hc] at h; cases h
      | true => rw [noN_spec hc] at hid; cases hid
    · cases hc : noN σ r with
      | false => rw [hc] at h; cases h
      | true => rw [noN_spec hc] at hid; cases hid
    · rename_i e l id'
      cases hc : isN σ r id' with
      | false => rw [hc] at h; cases h
      | true =>
        rw [hc] at h
        simp only [cond_true] at h
        have hi := isN_spec hc
        simp only at hid
        rw [hi] at hid
        injection hid with hid
        subst hid
        obtain ⟨_, _, _, a1, _, a3, a4⟩ := pL_spec (I := ⟨0, 0⟩) (N := N) h
        simp only [Val.cells, List.cons.injEq, AV.sl.injEq, and_true] at a1
        simp only [okV] at ho
        rw [ho.2, a1.1, a3]
    · cases h
  | .ro d, v, x, h, ho => by
    simp only [packV] at h
    split at h
    · simp only [okV] at ho; exact pack_len d _ x h ho
    · cases h
  | .fn f a d, v, x, h, ho => by
    simp only [packV] at h
    split at h
    · rename_i f' a' c'
      cases hc : Nat.beq f' f with
      | false => rw [hc] at h; cases h
      | true =>
        rw [hc] at h
        simp only [cond_true] at h
        obtain ⟨y, hy, h⟩ := bind2_some h
        obtain ⟨z, hz, h⟩ := bind2_some h
        simp only [Option.some.injEq] at h
        subst h
        simp only [okV] at ho
        intro p hp
        simp only [lensV, List.mem_append] at hp
        rcases hp with hp | hp
        · exact packL_len a a' y hy ho.1 p hp
        · exact packL_len d c' z hz ho.2 p hp
    · cases h
  | .tup l, v, x, h, ho => by
    simp only [packV] at h
    split at h
    · rename_i vs hvs
      exact packL_len l vs x h (fieldsOf_ok hvs ho)
    · cases h
  | .tuple l, v, x, h, ho => by
    simp only [packV] at h
    split at h
    · simp only [okV] at ho; exact packL_len l _ x h ho
    · cases h
  | .int _, _, _, _, _ => fun _ hp => by cases hp
  | .bool, _, _, _, _ => fun _ hp => by cases hp
  | .str, _, _, _, _ => fun _ hp => by cases hp
  | .n _, _, _, _, _ => fun _ hp => by cases hp
  | .sl _, _, _, _, _ => fun _ hp => by cases hp
  | .err, _, _, _, _ => fun _ hp => by cases hp
  | .ptr _ _, _, _, _, _ => fun _ hp => by cases hp
  | .map _, _, _, _, _ => fun _ hp => by cases hp
  | .lit _, _, _, _, _ => fun _ hp => by cases hp
theorem packL_len : ∀ (l : List Sh) (vs : List Val) (x : DenShL l), packVL σ l vs = some x → okL N c vs → ∀ p ∈ lensL l x, ∀ id, lkN σ p.1 = some id → N.n id = p.2
  | [], _, _, _, _ => fun _ hp => by cases hp
  | s :: r, vs, x, h, ho => by
    simp only [packVL] at h
    split at h
    · rename_i v vs
      obtain ⟨y, hy, h⟩ := bind2_some h
      obtain ⟨z, hz, h⟩ := bind2_some h
      simp only [Option.some.injEq] at h
      subst h
      simp only [okL] at ho
      intro p hp
      simp only [lensL, List.mem_append] at hp
      rcases hp with hp | hp
      · exact pack_len s v y hy ho.1 p hp
      · exact packL_len r vs z hz ho.2 p hp
    · cases h
end
end
end Go.Lb
end
section
namespace Go.Lb
open Go.RowKit (Below)
def overL : List (Nat × ABlk) → Heap → Heap
  | [], h => h
  | (b, k) :: l, h => fun i => if i = b then some k else overL l h i
theorem overL_out {l : List (Nat × ABlk)} {h : Heap} {i : Nat} (hi : i ∉ l.map (·.1)) : overL l h i = h i := by
  induction l with
  | nil => rfl
  | cons p l ih =>
    simp only [List.map_cons, List.mem_cons, not_or] at hi
    simp only [overL, if_neg hi.1]
    exact ih hi.2
theorem overL_in {l : List (Nat × ABlk)} {h : Heap} (hn : (l.map (·.1)).Nodup) {p : Nat × ABlk} (hp : p ∈ l) : overL l h p.1 = some p.2 := by
  induction l with
  | nil => cases hp
  | cons q l ih =>
    simp only [List.map_cons] at hn
    obtain ⟨h1, h2⟩ := List.nodup_cons.1 hn
    rcases List.mem_cons.1 hp with rfl | hp
    · simp [overL]
    · have : p.1 ≠ q.1 := fun e => h1 (e ▸ List.mem_map.2 ⟨p, hp, rfl⟩)
      simp only [overL, if_neg this]
      exact ih h2 hp
def cutS (bs : List Nat) (h : Heap) : Heap := fun i => if i ∈ bs then none else h i
def HWk (h h1 : Heap) : Prop := ∀ (B : Nat) (fz : Fz) (w : World), SRel B fz h w → SRel B fz h1 w
theorem HWk.refl (h : Heap) : HWk h h := fun _ _ _ s => s
theorem HWk.wk {X : Cx} {n : Nat} {t : Nat → AV} {h h1 : Heap} (hw : HWk h h1) : Wk X n ⟨t, h⟩ ⟨t, h1⟩ := fun fz w a hs => ⟨hw _ _ _ hs.rel, hs.size, hs.slots, hs.glob, hs.defers⟩
theorem HWk.acalls {X : Cx} {f : FuncId} {args : List AV} {h h1 : Heap} {R : AEnd → Heap → Prop} (hw : HWk h h1) (hc : ACalls X f args h1 R) : ACalls X f args h R := ⟨hc.1, fun fz w ca h1 h2 h3 => hc.2 fz w ca (hw _ _ _ h1) h2 h3⟩
theorem hwk_over {l : List (Nat × ABlk)} {h : Heap} (hl : ∀ p ∈ l, h p.1 = some p.2 ∨ ∃ vs vs' E, h p.1 = some (.cells vs E) ∧ p.2 = .cells vs' E ∧ WeakL vs vs') : HWk h (overL l h) := by
  induction l with
  | nil => exact HWk.refl h
  | cons p l ih =>
    have ih := ih fun q hq => hl q (by simp [hq])
    intro B fz w s
    have s' := ih B fz w s
    refine ⟨s'.base, s'.fzc, fun b k hb => ?_⟩
    simp only [overL] at hb
    split at hb
    · rename_i e
      subst e
      injection hb with hb
      subst hb
      rcases hl p (by simp) with h1 | ⟨vs, vs', E, h1, h2, h3⟩
      · exact s.blk _ _ h1
      · obtain ⟨k1, cs, k2, k3, k4⟩ := s.blk _ _ h1
        rw [h2]
        exact ⟨k1, cs, k2, h3 _ _ _ k3, k4⟩
    · exact s'.blk b k hb
section
variable {h0 h h2 : Heap} {L L1 L2 Lr : List (Nat × ABlk)} {R R1 R2 Rr : List Rw}
theorem HP.hand (hp : HP h0 h L R) (hR : ∀ r ∈ R1, r ∈ R ∨ r.1 = .full) (hL : ∀ p ∈ L1, p.1 ∈ L.map (·.1)) (nd : (L1.map (·.1) ++ R1.filterMap ownB).Nodup) : HP (cutS (L1.map (·.1) ++ R1.filterMap ownB) h) (overL L1 h) L1 R1 := by
  have hn1 : (L1.map (·.1)).Nodup := (List.nodup_append.1 nd).1
  refine ⟨fun b k hb => ?_, fun p hpm => ?_, fun r hr => ?_, nd⟩
  · simp only [cutS] at hb
    split at hb
    · cases hb
    · rename_i hni
      rw [overL_out (fun hm => hni (List.mem_append_left _ hm))]
      exact hb
  · refine ⟨overL_in hn1 hpm, ?_⟩
    simp only [cutS]
    rw [if_pos (List.mem_append_left _ (List.mem_map.2 ⟨p, hpm, rfl⟩))]
  · rcases hR r hr with hrr | hf
    · rcases hp.row r hrr with hf | ⟨b, cap, e1, e2, e3⟩
      · exact .inl hf
      · have hob : ownB r = some b := by obtain ⟨rm, rest⟩ := r; simp only at e1; subst e1; rfl
        have hbm : b ∈ R1.filterMap ownB := List.mem_filterMap.2 ⟨r, hr, hob⟩
        refine .inr ⟨b, cap, e1, ?_, ?_⟩
        · rw [overL_out (fun hm => (List.nodup_append.1 nd).2.2 b hm b hbm rfl)]
          exact e2
        · simp only [cutS]
          rw [if_pos (List.mem_append_right _ hbm)]
    · exact .inl hf
theorem HP.back (hp : HP h0 h L R) (hR : ∀ r ∈ R1, r ∈ R ∨ r.1 = .full) (hL : ∀ p ∈ L1, p.1 ∈ L.map (·.1)) (hp2 : HP (cutS (L1.map (·.1) ++ R1.filterMap ownB) h) h2 L2 R2)
    (hLr : ∀ p ∈ Lr, p ∈ L ∧ p.1 ∉ L1.map (·.1)) (hRr : ∀ r ∈ Rr, r ∈ R ∧ ∀ b, ownB r = some b → b ∉ R1.filterMap ownB) (hndr : (Lr.map (·.1) ++ Rr.filterMap ownB).Nodup) : HP h0 h2 (L2 ++ Lr) (R2 ++ Rr) := by
  have hcut : ∀ b, b ∈ L1.map (·.1) ++ R1.filterMap ownB → h0 b = none := by
    intro b hb
    rcases List.mem_append.1 hb with hb | hb
    · obtain ⟨p, hp1, rfl⟩ := List.mem_map.1 hb
      obtain ⟨q, hq1, hq2⟩ := List.mem_map.1 (hL p hp1)
      rw [← hq2]
      exact (hp.blk q hq1).2
    · obtain ⟨r, hr1, hr2⟩ := List.mem_filterMap.1 hb
      rcases hR r hr1 with hrr | hf
      · rcases hp.row r hrr with hf | ⟨b', cap, e1, e2, e3⟩
        · obtain ⟨rm, rest⟩ := r; simp only at hf; subst hf; simp [ownB] at hr2
        · obtain ⟨rm, rest⟩ := r; simp only at e1; subst e1
          simp only [ownB, Option.some.injEq] at hr2
          subst hr2
          exact e3
      · obtain ⟨rm, rest⟩ := r; simp only at hf; subst hf; simp [ownB] at hr2
  have hsub : ∀ b k, h0 b = some k → cutS (L1.map (·.1) ++ R1.filterMap ownB) h b = some k := by
    intro b k hb
    simp only [cutS]
    rw [if_neg (fun hm => by rw [hcut b hm] at hb; cases hb)]
    exact hp.sub b k hb
  have hfr : ∀ b, cutS (L1.map (·.1) ++ R1.filterMap ownB) h b = none → h0 b = none := by
    intro b hb
    cases hx : h0 b with
    | none => rfl
    | some k => rw [hsub b k hx] at hb; cases hb
  have hrL : ∀ p ∈ Lr, cutS (L1.map (·.1) ++ R1.filterMap ownB) h p.1 = some p.2 := by
    intro p hpm
    obtain ⟨a1, a2⟩ := hLr p hpm
    simp only [cutS]
    rw [if_neg]
    · exact (hp.blk p a1).1
    · intro hm
      rcases List.mem_append.1 hm with hm | hm
      · exact a2 hm
      · obtain ⟨r, hr1, hr2⟩ := List.mem_filterMap.1 hm
        rcases hR r hr1 with hrr | hf
        · exact (List.nodup_append.1 hp.nd).2.2 p.1 (List.mem_map.2 ⟨p, a1, rfl⟩) p.1 (List.mem_filterMap.2 ⟨r, hrr, hr2⟩) rfl
        · obtain ⟨rm, rest⟩ := r; simp only at hf; subst hf; simp [ownB] at hr2
  have hrR : ∀ r ∈ Rr, ∀ b, ownB r = some b → ∃ k, cutS (L1.map (·.1) ++ R1.filterMap ownB) h b = some k ∧ ∀ cap, r.1 = .own b cap → k = .row r.2.1 cap r.2.2.1 r.2.2.2 := by
    intro r hr b hb
    obtain ⟨a1, a2⟩ := hRr r hr
    rcases hp.row r a1 with hf | ⟨b', cap, e1, e2, e3⟩
    · obtain ⟨rm, rest⟩ := r; simp only at hf; subst hf; simp [ownB] at hb
    · have hbb : b' = b := by obtain ⟨rm, rest⟩ := r; simp only at e1; subst e1; simpa [ownB] using hb
      subst hbb
      refine ⟨.row r.2.1 cap r.2.2.1 r.2.2.2, ?_, fun cap' he => ?_⟩
      · simp only [cutS]
        rw [if_neg]
        · exact e2
        · intro hm
          rcases List.mem_append.1 hm with hm | hm
          · obtain ⟨p, hp1, hp2⟩ := List.mem_map.1 hm
            have := hL p hp1
            rw [hp2] at this
            exact (List.nodup_append.1 hp.nd).2.2 b' this b' (List.mem_filterMap.2 ⟨r, a1, hb⟩) rfl
          · exact a2 b' hb hm
      · rw [e1] at he; injection he with _ he; rw [he]
  refine ⟨fun b k hb => hp2.sub b k (hsub b k hb), fun p hpm => ?_, fun r hr => ?_, ?_⟩
  · rcases List.mem_append.1 hpm with hpm | hpm
    · exact ⟨(hp2.blk p hpm).1, hfr _ (hp2.blk p hpm).2⟩
    · exact ⟨hp2.sub _ _ (hrL p hpm), (hp.blk p (hLr p hpm).1).2⟩
  · rcases List.mem_append.1 hr with hr | hr
    · rcases hp2.row r hr with hf | ⟨b, cap, e1, e2, e3⟩
      · exact .inl hf
      · exact .inr ⟨b, cap, e1, e2, hfr b e3⟩
    · rcases hp.row r (hRr r hr).1 with hf | ⟨b, cap, e1, e2, e3⟩
      · exact .inl hf
      · have hob : ownB r = some b := by obtain ⟨rm, rest⟩ := r; simp only at e1; subst e1; rfl
        obtain ⟨k, hk1, hk2⟩ := hrR r hr b hob
        have := hp2.sub _ _ hk1
        rw [hk2 cap e1] at this
        exact .inr ⟨b, cap, e1, this, e3⟩
  · have h2none : ∀ b ∈ L2.map (·.1) ++ R2.filterMap ownB, cutS (L1.map (·.1) ++ R1.filterMap ownB) h b = none := by
      intro b hb
      rcases List.mem_append.1 hb with hb | hb
      · obtain ⟨p, hp1, rfl⟩ := List.mem_map.1 hb
        exact (hp2.blk p hp1).2
      · obtain ⟨r, hr1, hr2⟩ := List.mem_filterMap.1 hb
        rcases hp2.row r hr1 with hf | ⟨b', cap, e1, e2, e3⟩
        · obtain ⟨rm, rest⟩ := r; simp only at hf; subst hf; simp [ownB] at hr2
        · obtain ⟨rm, rest⟩ := r; simp only at e1; subst e1
          simp only [ownB, Option.some.injEq] at hr2
          subst hr2
          exact e3
    have hrsome : ∀ b ∈ Lr.map (·.1) ++ Rr.filterMap ownB, ∃ k, cutS (L1.map (·.1) ++ R1.filterMap ownB) h b = some k := by
      intro b hb
      rcases List.mem_append.1 hb with hb | hb
      · obtain ⟨p, hp1, rfl⟩ := List.mem_map.1 hb
        exact ⟨_, hrL p hp1⟩
      · obtain ⟨r, hr1, hr2⟩ := List.mem_filterMap.1 hb
        obtain ⟨k, hk, _⟩ := hrR r hr1 b hr2
        exact ⟨k, hk⟩
    have hperm : ((L2 ++ Lr).map (·.1) ++ (R2 ++ Rr).filterMap ownB).Perm ((L2.map (·.1) ++ R2.filterMap ownB) ++ (Lr.map (·.1) ++ Rr.filterMap ownB)) := by
      rw [List.map_append, List.filterMap_append, List.append_assoc, List.append_assoc]
      refine List.Perm.append_left _ ?_
      rw [← List.append_assoc, ← List.append_assoc]
      exact List.perm_append_comm.append_right _
    rw [hperm.nodup_iff]
    refine List.nodup_append.2 ⟨hp2.nd, hndr, fun a ha b hb e => ?_⟩
    subst e
    obtain ⟨k, hk⟩ := hrsome a hb
    rw [h2none a ha] at hk
    cases hk
end
end Go.Lb
end
section
namespace Go.Lb
open Go.RowKit (Below)
theorem nodupB_iff : ∀ {l : List Nat}, nodupB l = true → l.Nodup
  | [], _ => List.nodup_nil
  | a :: r, h => by
    simp only [nodupB, Bool.and_eq_true, Bool.not_eq_true'] at h
    refine List.nodup_cons.2 ⟨fun hm => ?_, nodupB_iff h.2⟩
    rw [memb_iff.2 hm] at h
    cases h.1
theorem subB_iff {l m : List Nat} (h : subB l m = true) : ∀ a ∈ l, a ∈ m := by
  intro a ha
  simp only [subB, List.all_eq_true] at h
  exact memb_iff.1 (h a ha)
theorem disjB_iff {l m : List Nat} (h : disjB l m = true) : ∀ a ∈ l, a ∉ m := by
  intro a ha hm
  simp only [disjB, List.all_eq_true, Bool.not_eq_true'] at h
  have := h a ha
  rw [memb_iff.2 hm] at this
  cases this
theorem lt_maxN : ∀ {l : List Nat} {a : Nat}, a ∈ l → a < maxN l
  | b :: r, a, h => by
    simp only [maxN]
    rcases List.mem_cons.1 h with rfl | h
    · omega
    · have := lt_maxN h; omega
mutual
theorem ren_id : ∀ (v : Val), v.ren (fun i => i) = v
  | .sl _ l (.row id) => by simp only [Val.ren]
  | .sl _ l .full => by simp only [Val.ren]
  | .sl _ l .shared => by simp only [Val.ren]
  | .ptr a _ => by simp only [Val.ren]
  | .map a => by simp only [Val.ren]
  | .ro v => by simp only [Val.ren, ren_id v]
  | .iface _ v => by simp only [Val.ren, ren_id v]
  | .fn _ a b => by simp only [Val.ren, renL_id a, renL_id b]
  | .tup l => by simp only [Val.ren, renL_id l]
  | .tuple l => by simp only [Val.ren, renL_id l]
  | .junk => by simp only [Val.ren]
  | .undef => by simp only [Val.ren]
  | .int _ _ => by simp only [Val.ren]
  | .bool _ => by simp only [Val.ren]
  | .str _ => by simp only [Val.ren]
  | .n _ _ => by simp only [Val.ren]
  | .nils => by simp only [Val.ren]
  | .err _ => by simp only [Val.ren]
  | .nilif => by simp only [Val.ren]
  | .nilp => by simp only [Val.ren]
  | .nilmap => by simp only [Val.ren]
  | .nilfn => by simp only [Val.ren]
theorem renL_id : ∀ (l : List Val), Val.renL (fun i => i) l = l
  | [] => by simp only [Val.renL]
  | v :: r => by simp only [Val.renL, ren_id v, renL_id r]
end
def lensS : (ss : List (Nat × Sh)) → DenSS ss → List (Nat × Nat)
  | [], _ => []
  | (_, sh) :: r, x => lensV sh x.1 ++ lensS r x.2
def lensB : (bs : List (Nat × BSh)) → DenBS bs → List (Nat × Nat)
  | [], _ => []
  | (_, .cells _ c) :: r, x => lensV c x.1 ++ lensB r x.2
  | (_, .map _ _) :: r, x => lensB r x.2
  | (_, .iter) :: r, x => lensB r x.2
mutual
theorem lens_keys : ∀ (sh : Sh) (x : DenSh sh), (lensV sh x).map (·.1) = ownN sh
  | .own d r, x => rfl
  | .ro c, x => by simp only [lensV, ownN]; exact lens_keys c x
  | .fn _ a c, x => by simp only [lensV, ownN, List.map_append, lensL_keys a x.1, lensL_keys c x.2]
  | .tup l, x => by simp only [lensV, ownN]; exact lensL_keys l x
  | .tuple l, x => by simp only [lensV, ownN]; exact lensL_keys l x
  | .int _, _ => rfl
  | .bool, _ => rfl
  | .str, _ => rfl
  | .n _, _ => rfl
  | .sl _, _ => rfl
  | .err, _ => rfl
  | .ptr _ _, _ => rfl
  | .map _, _ => rfl
  | .lit _, _ => rfl
theorem lensL_keys : ∀ (l : List Sh) (x : DenShL l), (lensL l x).map (·.1) = ownNL l
  | [], _ => rfl
  | s :: r, x => by simp only [lensL, ownNL, List.map_append, lens_keys s x.1, lensL_keys r x.2]
end
theorem lensS_keys : ∀ (ss : List (Nat × Sh)) (x : DenSS ss), (lensS ss x).map (·.1) = ownS ss
  | [], _ => rfl
  | (_, sh) :: r, x => by simp only [lensS, ownS, List.map_append, lens_keys sh x.1, lensS_keys r x.2]
theorem lensB_keys : ∀ (bs : List (Nat × BSh)) (x : DenBS bs), (lensB bs x).map (·.1) = ownB' bs
  | [], _ => rfl
  | (_, .cells _ c) :: r, x => by simp only [lensB, ownB', List.map_append, lens_keys c x.1, lensB_keys r x.2]
  | (_, .map _ _) :: r, x => by simp only [lensB, ownB']; exact lensB_keys r x.2
  | (_, .iter) :: r, x => by simp only [lensB, ownB']; exact lensB_keys r x.2
theorem lkN_mem : ∀ {l : List (Nat × Nat)}, (l.map (·.1)).Nodup → ∀ {p : Nat × Nat}, p ∈ l → lkN l p.1 = some p.2
  | (j, v) :: r, hn, p, h => by
    simp only [List.map_cons] at hn
    obtain ⟨h1, h2⟩ := List.nodup_cons.1 hn
    simp only [lkN]
    rcases List.mem_cons.1 h with rfl | h
    · simp
    · have : p.1 ≠ j := fun e => h1 (e ▸ List.mem_map.2 ⟨p, h, rfl⟩)
      cases hb : Nat.beq p.1 j with
      | true => exact absurd (natBeq hb) this
      | false => exact lkN_mem h2 h
structure WF (f : Fm) : Prop where
  ptr : ∀ j ∈ ptrS f.sl ++ ptrB f.bl, j ∈ f.bl.map (·.1)
  own : (ownS f.sl ++ ownB' f.bl).Nodup
  row : ∀ j ∈ ownS f.sl ++ ownB' f.bl, j ∈ f.rw.map (·.1)
  rowr : ∀ j ∈ f.rw.map (·.1), j ∈ ownS f.sl ++ ownB' f.bl
  nd : (fnums f).Nodup
theorem wfF_iff {f : Fm} (h : wfF f = true) : WF f := by
  simp only [wfF, Bool.and_eq_true] at h
  obtain ⟨⟨⟨⟨h1, h2⟩, h3⟩, h4⟩, h5⟩ := h
  exact ⟨subB_iff h1, nodupB_iff h2, subB_iff h3, subB_iff h4, nodupB_iff h5⟩
section
variable {I : Ids} {N N1 : Nm} {s : XS} {t : Nat → AV} {h h0 : Heap} {σ : List (Nat × Nat)} {c : Nat}
theorem HR.view (hs : HR I N s h h0) : ∃ L : List (Nat × ABlk), HP h0 h L (s.R.map (rowR N)) ∧ (∀ nm b, lkB s.H nm = some b → ∃ (i : Nat) (k : ABlk), s.H[i]? = some (nm, b) ∧ L[i]? = some (N.o nm, k) ∧ BR I N b k) ∧ L.length = s.H.length ∧ (∀ (i : Nat) (nm : Nat) (b : XB), s.H[i]? = some (nm, b) → ∃ k, L[i]? = some (N.o nm, k) ∧ BR I N b k) := by
  obtain ⟨L, h1, h2, h3⟩ := hs.heap
  refine ⟨L, h3, fun nm b hb => ?_, h1, h2⟩
  obtain ⟨i, hi⟩ := lkB_mem hb
  obtain ⟨k, hk, hr⟩ := h2 i nm b hi
  exact ⟨i, k, hi, hk, hr⟩
theorem nodup_pos {α : Type} {l : List α} (hn : l.Nodup) {i j : Nat} {a : α} (hi : l[i]? = some a) (hj : l[j]? = some a) : i = j := by
  obtain ⟨h1, h1'⟩ := List.getElem?_eq_some_iff.1 hi
  obtain ⟨h2, h2'⟩ := List.getElem?_eq_some_iff.1 hj
  have h3 := List.pairwise_iff_getElem.1 hn
  rcases Nat.lt_trichotomy i j with h | h | h
  · exact absurd (h1'.trans h2'.symm) (h3 i j h1 h2 h)
  · exact h
  · exact absurd (h2'.trans h1'.symm) (h3 j i h2 h1 h)
theorem HP.blk_inj {L : List (Nat × ABlk)} {R : List Rw} (hp : HP h0 h L R) {i j b : Nat} {k k' : ABlk} (hi : L[i]? = some (b, k)) (hj : L[j]? = some (b, k')) : i = j := by
  refine nodup_pos (List.nodup_append.1 hp.nd).1 (a := b) ?_ ?_
  · rw [List.getElem?_map, hi]; rfl
  · rw [List.getElem?_map, hj]; rfl
theorem own_inj : ∀ {R : List Rw}, (R.filterMap ownB).Nodup → ∀ {i j : Nat} {r q : Rw} {b : Nat}, R[i]? = some r → R[j]? = some q → ownB r = some b → ownB q = some b → i = j
  | [], _, i, j, r, q, b, hi, _, _, _ => by simp at hi
  | x :: R, hn, i, j, r, q, b, hi, hj, h1, h2 => by
    have hR : (R.filterMap ownB).Nodup := hn.sublist ((List.sublist_cons_self x R).filterMap _)
    cases i with
    | zero =>
      cases j with
      | zero => rfl
      | succ j =>
        simp only [List.getElem?_cons_zero, Option.some.injEq] at hi
        subst hi
        rw [List.filterMap_cons, h1] at hn
        exact absurd (List.mem_filterMap.2 ⟨q, List.mem_of_getElem? (by simpa using hj), h2⟩) (List.nodup_cons.1 hn).1
    | succ i =>
      cases j with
      | zero =>
        simp only [List.getElem?_cons_zero, Option.some.injEq] at hj
        subst hj
        rw [List.filterMap_cons, h2] at hn
        exact absurd (List.mem_filterMap.2 ⟨r, List.mem_of_getElem? (by simpa using hi), h1⟩) (List.nodup_cons.1 hn).1
      | succ j => exact congrArg Nat.succ (own_inj hR (by simpa using hi) (by simpa using hj) h1 h2)
theorem ownB_eq {r : Rw} {b : Nat} (h : ownB r = some b) : ∃ cap, r.1 = .own b cap := by
  obtain ⟨rm, rest⟩ := r
  cases rm <;> simp [ownB] at h
  subst h
  exact ⟨_, rfl⟩
theorem packS_spec (hp : Pull N σ N1) (A : List (Nat × Val)) : ∀ (ss : List (Nat × Sh)) (x : DenSS ss), packS σ A ss = some x → ∀ i, (lkV (stS ss x) i = .junk ∧ i ∉ ss.map (·.1)) ∨ ∃ sh y, (i, sh) ∈ ss ∧ lkV (stS ss x) i = shV sh y ∧ packV σ sh (lkV A i) = some y ∧ (∀ p ∈ lensV sh y, p ∈ lensS ss x) ∧ (∀ j ∈ ptrN sh, j ∈ ptrS ss)
  | [], x, _, i => .inl ⟨rfl, by simp⟩
  | (j, sh) :: r, x, h, i => by
    simp only [packS] at h
    obtain ⟨y, hy, h⟩ := bind2_some h
    obtain ⟨z, hz, h⟩ := bind2_some h
    simp only [Option.some.injEq] at h
    subst h
    simp only [stS, lkV]
    cases hb : Nat.beq i j with
    | true =>
      have := natBeq hb
      subst this
      exact .inr ⟨sh, y, by simp, rfl, hy, fun p hp => by simp only [lensS, List.mem_append]; exact .inl hp, fun j hj => by simp only [ptrS, List.mem_append]; exact .inl hj⟩
    | false =>
      have hne : i ≠ j := fun e => by subst e; simp at hb
      rcases packS_spec hp A r z hz i with ⟨h1, h2⟩ | ⟨sh', y', h1, h2, h3, h4, h5⟩
      · exact .inl ⟨h1, by simp [hne, h2]⟩
      · exact .inr ⟨sh', y', List.mem_cons_of_mem _ h1, h2, h3, fun p hp => by simp only [lensS, List.mem_append]; exact .inr (h4 p hp), fun j hj => by simp only [ptrS, List.mem_append]; exact .inr (h5 j hj)⟩
theorem packB_spec (H : List (Nat × XB)) : ∀ (bs : List (Nat × BSh)) (x : DenBS bs), packB σ H bs = some x → (stB bs x).length = bs.length ∧ ∀ (i : Nat) (j : Nat) (y : XB), (stB bs x)[i]? = some (j, y) → ∃ a b, (∃ sh, bs[i]? = some (j, sh)) ∧ lkN σ j = some a ∧ lkB H a = some b ∧
    ((∃ E c v z, b = .cells E v ∧ y = .cells E (shV c z) ∧ packV σ c v = some z ∧ (∀ p ∈ lensV c z, p ∈ lensB bs x) ∧ (∀ j ∈ ptrN c, j ∈ ptrB bs)) ∨ (y = b ∧ NB b))
  | [], x, _ => ⟨rfl, fun i j y h => by simp [stB] at h⟩
  | (j, sh) :: r, x, h => by
    simp only [packB] at h
    split at h
    · cases h
    · rename_i a ha
      cases hb : lkB H a with
      | none => rw [hb] at h; cases sh <;> cases h
      | some b0 =>
       rw [hb] at h
       cases b0 with
       | iter u pos =>
        cases sh with
        | cells _ _ => cases h
        | map _ _ => cases h
        | iter =>
         simp only at h
         obtain ⟨z, hz, h⟩ := bind2_some h
         simp only [Option.some.injEq] at h
         subst h
         obtain ⟨l1, l2⟩ := packB_spec H r z hz
         refine ⟨by simp only [stB, List.length_cons, l1], fun i j' y' hi => ?_⟩
         simp only [stB] at hi
         cases i with
         | zero =>
           simp only [List.getElem?_cons_zero, Option.some.injEq, Prod.mk.injEq] at hi
           obtain ⟨rfl, rfl⟩ := hi
           exact ⟨a, _, ⟨_, rfl⟩, ha, hb, .inr ⟨rfl, trivial⟩⟩
         | succ i =>
           obtain ⟨a', b', k1, k2, k3, k4⟩ := l2 i j' y' (by simpa using hi)
           refine ⟨a', b', by simpa using k1, k2, k3, ?_⟩
           rcases k4 with ⟨E, c, v, z', q1, q2, q3, q4, q5⟩ | k4
           · exact .inl ⟨E, c, v, z', q1, q2, q3, fun p hp => by simp only [lensB]; exact q4 p hp, fun j hj => by simp only [ptrB]; exact q5 j hj⟩
           · exact .inr k4
       | cells E v =>
        cases sh with
        | iter => cases h
        | map _ _ => cases h
        | cells E' c =>
         simp only at h
         cases hE : Nat.beq E E' with
         | false => rw [hE] at h; cases h
         | true =>
           rw [hE] at h
           have := natBeq hE
           subst this
           simp only [cond_true] at h
           obtain ⟨y, hy, h⟩ := bind2_some h
           obtain ⟨z, hz, h⟩ := bind2_some h
           simp only [Option.some.injEq] at h
           subst h
           obtain ⟨l1, l2⟩ := packB_spec H r z hz
           refine ⟨by simp only [stB, List.length_cons, l1], fun i j' y' hi => ?_⟩
           simp only [stB] at hi
           cases i with
           | zero =>
             simp only [List.getElem?_cons_zero, Option.some.injEq, Prod.mk.injEq] at hi
             obtain ⟨rfl, rfl⟩ := hi
             exact ⟨a, _, ⟨_, rfl⟩, ha, hb, .inl ⟨E, c, v, y, rfl, rfl, hy, fun p hp => by simp only [lensB, List.mem_append]; exact .inl hp, fun j hj => by simp only [ptrB, List.mem_append]; exact .inl hj⟩⟩
           | succ i =>
             obtain ⟨a', b', k1, k2, k3, k4⟩ := l2 i j' y' (by simpa using hi)
             refine ⟨a', b', by simpa using k1, k2, k3, ?_⟩
             rcases k4 with ⟨E, c, v, z', q1, q2, q3, q4, q5⟩ | k4
             · exact .inl ⟨E, c, v, z', q1, q2, q3, fun p hp => by simp only [lensB, List.mem_append]; exact .inr (q4 p hp), fun j hj => by simp only [ptrB, List.mem_append]; exact .inr (q5 j hj)⟩
             · exact .inr k4
       | map kd vd l =>
        cases sh with
        | iter => cases h
        | cells _ _ => cases h
        | map kd' vd' =>
         simp only at h
         split at h
         · rename_i h1 h2 hd1 hd2
           obtain ⟨z, hz, h⟩ := bind2_some h
           simp only [Option.some.injEq] at h
           have e1 := h1.down
           have e2 := h2.down
           subst e1; subst e2
           have hc : castM h1.down h2.down l = l := rfl
           rw [hc] at h
           subst h
           obtain ⟨l1, l2⟩ := packB_spec H r z hz
           refine ⟨by simp only [stB, List.length_cons, l1], fun i j' y' hi => ?_⟩
           simp only [stB] at hi
           cases i with
           | zero =>
             simp only [List.getElem?_cons_zero, Option.some.injEq, Prod.mk.injEq] at hi
             obtain ⟨rfl, rfl⟩ := hi
             exact ⟨a, _, ⟨_, rfl⟩, ha, hb, .inr ⟨rfl, trivial⟩⟩
           | succ i =>
             obtain ⟨a', b', k1, k2, k3, k4⟩ := l2 i j' y' (by simpa using hi)
             refine ⟨a', b', by simpa using k1, k2, k3, ?_⟩
             rcases k4 with ⟨E, c, v, z', q1, q2, q3, q4, q5⟩ | k4
             · exact .inl ⟨E, c, v, z', q1, q2, q3, fun p hp => by simp only [lensB]; exact q4 p hp, fun j hj => by simp only [ptrB]; exact q5 j hj⟩
             · exact .inr k4
         · cases h
theorem packS_len {A : List (Nat × Val)} (hok : ∀ i, okV N c (lkV A i)) : ∀ (ss : List (Nat × Sh)) (x : DenSS ss), packS σ A ss = some x → ∀ p ∈ lensS ss x, ∀ id, lkN σ p.1 = some id → N.n id = p.2
  | [], _, _ => fun _ hp => by cases hp
  | (i, sh) :: r, x, h => by
    simp only [packS] at h
    obtain ⟨y, hy, h⟩ := bind2_some h
    obtain ⟨z, hz, h⟩ := bind2_some h
    simp only [Option.some.injEq] at h
    subst h
    intro p hp
    simp only [lensS, List.mem_append] at hp
    rcases hp with hp | hp
    · exact pack_len sh _ y hy (hok i) p hp
    · exact packS_len hok r z hz p hp
theorem packB_len {H : List (Nat × XB)} (hok : ∀ nm b, lkB H nm = some b → okB N c b) : ∀ (bs : List (Nat × BSh)) (x : DenBS bs), packB σ H bs = some x → ∀ p ∈ lensB bs x, ∀ id, lkN σ p.1 = some id → N.n id = p.2
  | [], _, _ => fun _ hp => by cases hp
  | (j, sh) :: r, x, h => by
    simp only [packB] at h
    split at h
    · cases h
    · rename_i a ha
      cases hb : lkB H a with
      | none => rw [hb] at h; cases sh <;> cases h
      | some b0 =>
       have ho := hok _ _ hb
       rw [hb] at h
       cases b0 with
       | iter u pos =>
        cases sh with
        | cells _ _ => cases h
        | map _ _ => cases h
        | iter =>
         simp only at h
         obtain ⟨z, hz, h⟩ := bind2_some h
         simp only [Option.some.injEq] at h
         subst h
         intro p hp
         simp only [lensB] at hp
         exact packB_len hok r z hz p hp
       | cells E v =>
        cases sh with
        | iter => cases h
        | map _ _ => cases h
        | cells E' c' =>
         simp only at h
         cases hE : Nat.beq E E' with
         | false => rw [hE] at h; cases h
         | true =>
           rw [hE] at h
           simp only [cond_true] at h
           obtain ⟨y, hy, h⟩ := bind2_some h
           obtain ⟨z, hz, h⟩ := bind2_some h
           simp only [Option.some.injEq] at h
           subst h
           intro p hp
           simp only [lensB, List.mem_append] at hp
           rcases hp with hp | hp
           · exact pack_len c' _ y hy ho p hp
           · exact packB_len hok r z hz p hp
       | map kd vd l =>
        cases sh with
        | iter => cases h
        | cells _ _ => cases h
        | map kd' vd' =>
         simp only at h
         split at h
         · obtain ⟨z, hz, h⟩ := bind2_some h
           simp only [Option.some.injEq] at h
           subst h
           intro p hp
           simp only [lensB] at hp
           exact packB_len hok r z hz p hp
         · cases h
def blkOf (I : Ids) (N : Nm) (h : Heap) (p : Nat × XB) : Nat × ABlk := (N.o p.1, match p.2 with | .cells E v => .cells (v.cells I N) E | _ => (h (N.o p.1)).getD (.cells [] 0))
theorem blkOf_nb {I : Ids} {N : Nm} {h : Heap} {j : Nat} {b : XB} (hb : NB b) : blkOf I N h (j, b) = (N.o j, (h (N.o j)).getD (.cells [] 0)) := by cases b <;> first | exact hb.elim | rfl
theorem BR.extN {I : Ids} {N N' : Nm} {b : XB} {k : ABlk} (hb : NB b) (h : BR I N b k) : BR I N' b k := h.ext (c := 0) ⟨fun _ h => absurd h (by omega), fun _ h => absurd h (by omega), fun _ h => absurd h (by omega)⟩ hb.ok
def pullN (N : Nm) (σ : List (Nat × Nat)) (ls : List (Nat × Nat)) : Nm :=
  ⟨fun j => match lkN σ j with | some a => N.o a | none => 0, fun j => match lkN σ j with | some a => N.r a | none => .full, fun j => (lkN ls j).getD 0⟩
theorem pullN_pull (ls : List (Nat × Nat)) : Pull N σ (pullN N σ ls) := ⟨fun j a h => by simp only [pullN, h], fun j a h => by simp only [pullN, h], fun j h => by simp only [pullN, h]⟩
theorem shV_notJ (sh : Sh) (x : DenSh sh) : shV sh x ≠ .junk := by
  cases sh <;> simp only [shV, ne_eq, reduceCtorEq, not_false_eq_true]
  · rename_i d; cases d <;> simp only [inj, ne_eq, reduceCtorEq, not_false_eq_true]
  · unfold litV; split <;> simp
theorem names_pw : ∀ {l : List Nat}, (namesOf σ l).Nodup → l.Pairwise (fun j k => ∀ a, lkN σ j = some a → lkN σ k = some a → False)
  | [], _ => List.Pairwise.nil
  | j :: r, h => by
    simp only [namesOf] at h
    have hr : (namesOf σ r).Nodup := by
      split at h
      · exact (List.nodup_cons.1 h).2
      · exact h
    refine List.Pairwise.cons (fun k hk a h1 h2 => ?_) (names_pw hr)
    rw [h1] at h
    simp only at h
    refine (List.nodup_cons.1 h).1 ?_
    have : ∀ {l : List Nat}, k ∈ l → a ∈ namesOf σ l := by
      intro l
      induction l with
      | nil => intro h; cases h
      | cons q l ih =>
        intro hm
        simp only [namesOf]
        rcases List.mem_cons.1 hm with rfl | hm
        · rw [h2]; simp
        · split
          · exact List.mem_cons_of_mem _ (ih hm)
          · exact ih hm
    exact this hk
theorem rowsOK_spec {R : List (Nat × Nat × TypeId)} : ∀ {l : List (Nat × Nat × TypeId)}, rowsOK σ R l = true → ∀ r ∈ l, ∀ id, lkN σ r.1 = some id → hasR R id r.2.1 r.2.2 = true
  | (j, sz, E) :: l, h, r, hr, id, hid => by
    simp only [rowsOK, Bool.and_eq_true] at h
    rcases List.mem_cons.1 hr with rfl | hr
    · rw [hid] at h; exact h.1
    · exact rowsOK_spec h.2 r hr id hid
theorem stB_keys : ∀ (bs : List (Nat × BSh)) (x : DenBS bs), (stB bs x).map (·.1) = bs.map (·.1)
  | [], _ => rfl
  | (_, .cells _ _) :: r, x => by simp only [stB, List.map_cons, stB_keys r x.2]
  | (_, .map _ _) :: r, x => by simp only [stB, List.map_cons, stB_keys r x.2]
  | (_, .iter) :: r, x => by simp only [stB, List.map_cons, stB_keys r x.2]
theorem slot_weak (hs : SR I N s t h h0) (i : Nat) : Weak (t i) ((lkV s.A i).enc I N) := by
  by_cases hj : lkV s.A i = .junk
  · rw [hj]; simp only [Val.enc]; exact Weak.junk _
  · rw [hs.slots i hj]; exact Weak.refl _
theorem pack_SR {f : Fm} {x : DenF f} (hs : SR I N s t h h0) (hx : packF s f σ = some x) : ∃ (N1 : Nm) (t1 : Nat → AV) (h1 : Heap), Pull N σ N1 ∧ HWk h h1 ∧ (∀ i, Weak (t i) (t1 i)) ∧ (∀ i, i ∉ f.sl.map (·.1) → t1 i = t i) ∧ WF f ∧
    (∀ j ∈ f.bl.map (·.1), ∃ a b, lkN σ j = some a ∧ lkB s.H a = some b) ∧ (∀ r ∈ f.rw, ∀ id, lkN σ r.1 = some id → hasR s.R id r.2.1 r.2.2 = true) ∧
    ∀ h0', Sub h0' h → (∀ j ∈ f.bl.map (·.1), ∀ a, lkN σ j = some a → h0' (N.o a) = none) → (∀ j ∈ f.rw.map (·.1), ∀ a, lkN σ j = some a → ∀ b cap, N.r a = .own b cap → h0' b = none) → SR I N1 (stF f x) t1 h1 h0' := by
  unfold packF at hx
  cases hc : (nodupB (namesOf σ (fnums f)) && wfF f && rowsOK σ s.R f.rw) with
  | false => rw [hc] at hx; cases hx
  | true =>
  rw [hc] at hx
  simp only [cond_true] at hx
  simp only [Bool.and_eq_true] at hc
  obtain ⟨⟨hnd, hwf⟩, hro⟩ := hc
  have hnd := nodupB_iff hnd
  have wf := wfF_iff hwf
  have hro := rowsOK_spec hro
  obtain ⟨xs, hxs, hx⟩ := bind2_some hx
  obtain ⟨xb, hxb, hx⟩ := bind2_some hx
  simp only [Option.some.injEq] at hx
  subst hx
  let ls := lensS f.sl xs ++ lensB f.bl xb
  let N1 := pullN N σ ls
  have hP : Pull N σ N1 := pullN_pull ls
  have hkeys : ls.map (·.1) = ownS f.sl ++ ownB' f.bl := by simp only [ls, List.map_append, lensS_keys, lensB_keys]
  have hn1 : ∀ p ∈ ls, N1.n p.1 = p.2 := fun p hp => by
    show (lkN ls p.1).getD 0 = p.2
    rw [lkN_mem (by rw [hkeys]; exact wf.own) hp]; rfl
  have hlen : ∀ p ∈ ls, ∀ id, lkN σ p.1 = some id → N.n id = p.2 := fun p hp => by
    rcases List.mem_append.1 hp with hp | hp
    · exact packS_len hs.okA f.sl xs hxs p hp
    · exact packB_len (fun nm b hb => (hs.blk hb).choose_spec.2.2.2) f.bl xb hxb p hp
  have hkey_mem : ∀ p ∈ ls, p.1 ∈ f.rw.map (·.1) := fun p hp => wf.row _ (by rw [← hkeys]; exact List.mem_map.2 ⟨p, hp, rfl⟩)
  have hmaxb : ∀ j ∈ f.bl.map (·.1), j < maxN (fnums f) := fun j hj => lt_maxN (List.mem_append_left _ hj)
  have hmaxr : ∀ j ∈ f.rw.map (·.1), j < maxN (fnums f) := fun j hj => lt_maxN (List.mem_append_right _ hj)
  have hokv : ∀ (sh : Sh) (y : DenSh sh), (∀ j ∈ ptrN sh, j ∈ ptrS f.sl ++ ptrB f.bl) → (∀ p ∈ lensV sh y, p ∈ ls) → okV N1 (maxN (fnums f)) (shV sh y) := fun sh y h1 h2 => by
    have := sh_ok (N := N1) (c := maxN (fnums f)) (τ := fun i => i) sh y (fun j hj => hmaxb _ (wf.ptr _ (h1 j hj))) (fun p hp => ⟨hmaxr _ (hkey_mem _ (h2 p hp)), hn1 _ (h2 p hp)⟩)
    rwa [ren_id] at this
  obtain ⟨L, hpp, hlk, _, _⟩ := hs.view
  obtain ⟨hbl, hbs⟩ := packB_spec (σ := σ) s.H f.bl xb hxb
  have hbl_at : ∀ j ∈ f.bl.map (·.1), ∃ a b, lkN σ j = some a ∧ lkB s.H a = some b := fun j hj => by
    rw [← stB_keys f.bl xb] at hj
    obtain ⟨⟨j', y⟩, hq, rfl⟩ := List.mem_map.1 hj
    obtain ⟨i, hi⟩ := List.mem_iff_getElem?.1 hq
    obtain ⟨a, b, _, k2, k3, _⟩ := hbs i j' y hi
    exact ⟨a, b, k2, k3⟩
  let L1 := (stB f.bl xb).map (blkOf I N1 h)
  have hL1 : ∀ p ∈ L1, ∃ (i : Nat) (k : ABlk), L[i]? = some (p.1, k) ∧ (p.2 = k ∨ ∃ vs vs' E, k = .cells vs E ∧ p.2 = .cells vs' E ∧ WeakL vs vs') := fun p hp => by
    obtain ⟨⟨j, y⟩, hq, rfl⟩ := List.mem_map.1 hp
    obtain ⟨i, hi⟩ := List.mem_iff_getElem?.1 hq
    obtain ⟨a, b, _, k2, k3, k4⟩ := hbs i j y hi
    obtain ⟨i', k, l1, l2, l3⟩ := hlk a b k3
    have ho : N1.o j = N.o a := hP.o j a k2
    refine ⟨i', k, by simp only [blkOf, ho]; exact l2, ?_⟩
    rcases k4 with ⟨E, c, v, z, rfl, rfl, q3, _, _⟩ | ⟨rfl, hnb⟩
    · simp only [BR] at l3
      subst l3
      exact .inr ⟨_, _, _, rfl, rfl, (pack_spec (I := I) hP c v z q3).1.weakL⟩
    · refine .inl ?_
      rw [blkOf_nb hnb]
      simp only [ho, hpp.get i' l2, Option.getD_some]
  have hwk : HWk h (overL L1 h) := hwk_over fun p hp => by
    obtain ⟨i, k, l2, l3⟩ := hL1 p hp
    have hg := hpp.get i l2
    rcases l3 with e | ⟨vs, vs', E, rfl, e2, e3⟩
    · exact .inl (by rw [hg, e])
    · exact .inr ⟨vs, vs', E, hg, e2, e3⟩
  let A1 := stS f.sl xs
  refine ⟨N1, fun i => if (lkV A1 i).isJ then t i else (lkV A1 i).enc I N1, overL L1 h, hP, hwk, fun i => ?_, fun i hi => ?_, wf, hbl_at, hro, fun h0' hsub hcb hcr => ?_⟩
  · rcases packS_spec (σ := σ) hP s.A f.sl xs hxs i with ⟨h1, _⟩ | ⟨sh, y, h1, h2, h3, _, _⟩
    · simp only [A1, h1, Val.isJ, if_true]; exact Weak.refl _
    · simp only [A1, h2]
      split
      · exact Weak.refl _
      · obtain ⟨a1, a2⟩ := pack_spec (I := I) hP sh _ y h3
        exact (slot_weak hs i).trans (weak_of_pw a2 a1)
  · rcases packS_spec (σ := σ) hP s.A f.sl xs hxs i with ⟨h1, _⟩ | ⟨sh, y, h1, h2, h3, _, _⟩
    · simp only [A1, h1, Val.isJ, if_true]
    · exact absurd (List.mem_map.2 ⟨_, h1, rfl⟩) hi
  · have hnb : (f.bl.map (·.1)).Pairwise (fun j k => ∀ a, lkN σ j = some a → lkN σ k = some a → False) := (List.pairwise_append.1 (names_pw hnd)).1
    have hnr : (f.rw.map (·.1)).Pairwise (fun j k => ∀ a, lkN σ j = some a → lkN σ k = some a → False) := (List.pairwise_append.1 (names_pw hnd)).2.1
    have e1 : L1.map (·.1) = (f.bl.map (·.1)).map N1.o := by
      show ((stB f.bl xb).map (blkOf I N1 h)).map (·.1) = _
      rw [← stB_keys f.bl xb, List.map_map, List.map_map]
      rfl
    have hndL : (L1.map (·.1)).Nodup := by
      rw [e1]
      refine List.pairwise_map.2 (hnb.imp_of_mem fun {j k} hj hk hne => ?_)
      obtain ⟨a, b, a1, a2⟩ := hbl_at j hj
      obtain ⟨a', b', b1, b2⟩ := hbl_at k hk
      rw [hP.o j a a1, hP.o k a' b1]
      intro e
      obtain ⟨i, q, c1, c2, _⟩ := hlk a b a2
      obtain ⟨i', q', d1, d2, _⟩ := hlk a' b' b2
      rw [← e] at d2
      have := hpp.blk_inj c2 d2
      subst this
      rw [c1] at d1
      simp only [Option.some.injEq, Prod.mk.injEq] at d1
      exact hne a a1 (by rw [d1.1]; exact b1)
    have hrow : ∀ q ∈ f.rw, rowR N1 q = (.full, N1.n q.1, q.2.1, q.2.2) ∨ ∃ (id i : Nat), lkN σ q.1 = some id ∧ s.R[i]? = some (id, q.2.1, q.2.2) ∧ rowR N1 q = rowR N (id, q.2.1, q.2.2) := fun q hq => by
      cases hl : lkN σ q.1 with
      | none => exact .inl (by simp only [rowR, hP.f _ hl])
      | some id =>
        obtain ⟨i, hi, _⟩ := hasR_at (hro q hq id hl)
        refine .inr ⟨id, i, rfl, hi, ?_⟩
        simp only [rowR, hP.r _ _ hl]
        have hm := wf.rowr q.1 (List.mem_map.2 ⟨q, hq, rfl⟩)
        rw [← hkeys] at hm
        obtain ⟨p, hpm, hpe⟩ := List.mem_map.1 hm
        have h1 := hn1 p hpm
        have h2 := hlen p hpm id (by rw [hpe]; exact hl)
        rw [hpe] at h1
        rw [h1, h2]
    have hndR : ((f.rw.map (rowR N1)).filterMap ownB).Nodup := by
      rw [List.filterMap_map]
      refine (List.pairwise_filterMap).2 ?_
      refine (List.pairwise_map.1 hnr).imp_of_mem fun {q q'} hq hq' hne b hb b' hb' e => ?_
      subst e
      simp only [Function.comp] at hb hb'
      rcases hrow q hq with r1 | ⟨id, i, r1, r2, r3⟩
      · rw [r1] at hb; simp [ownB] at hb
      · rcases hrow q' hq' with u1 | ⟨id', i', u1, u2, u3⟩
        · rw [u1] at hb'; simp [ownB] at hb'
        · rw [r3] at hb
          rw [u3] at hb'
          have := own_inj (List.nodup_append.1 hpp.nd).2.1 (i := i) (j := i') (by rw [List.getElem?_map, r2]; rfl) (by rw [List.getElem?_map, u2]; rfl) hb hb'
          subst this
          rw [r2] at u2
          simp only [Option.some.injEq, Prod.mk.injEq] at u2
          exact hne id r1 (by rw [u2.1]; exact u1)
    have hRm : ∀ r ∈ f.rw.map (rowR N1), r ∈ s.R.map (rowR N) ∨ r.1 = .full := fun r hr => by
      obtain ⟨q, hq, rfl⟩ := List.mem_map.1 hr
      rcases hrow q hq with r1 | ⟨id, i, r1, r2, r3⟩
      · exact .inr (by rw [r1])
      · exact .inl (by rw [r3]; exact List.mem_map.2 ⟨_, List.mem_of_getElem? r2, rfl⟩)
    have hLm : ∀ p ∈ L1, p.1 ∈ L.map (·.1) := fun p hpm => by
      obtain ⟨i, k, l2, _⟩ := hL1 p hpm
      exact List.mem_map.2 ⟨_, List.mem_of_getElem? l2, rfl⟩
    have hdis : (L1.map (·.1) ++ (f.rw.map (rowR N1)).filterMap ownB).Nodup := by
      refine List.nodup_append.2 ⟨hndL, hndR, fun a ha b hb e => ?_⟩
      subst e
      obtain ⟨p, hpm, rfl⟩ := List.mem_map.1 ha
      obtain ⟨r, hr, hrb⟩ := List.mem_filterMap.1 hb
      rcases hRm r hr with hrr | hrr
      · exact (List.nodup_append.1 hpp.nd).2.2 p.1 (hLm p hpm) p.1 (List.mem_filterMap.2 ⟨r, hrr, hrb⟩) rfl
      · obtain ⟨rm, rest⟩ := r; simp only at hrr; subst hrr; simp [ownB] at hrb
    have hHP : HP h0' (overL L1 h) L1 (f.rw.map (rowR N1)) := by
      refine ⟨fun b k hb => ?_, fun p hpm => ⟨overL_in hndL hpm, ?_⟩, fun r hr => ?_, hdis⟩
      · by_cases hbm : b ∈ L1.map (·.1)
        · exfalso
          rw [e1] at hbm
          obtain ⟨j, hj, rfl⟩ := List.mem_map.1 hbm
          obtain ⟨a, b', a1, _⟩ := hbl_at j hj
          rw [hP.o j a a1, hcb j hj a a1] at hb
          cases hb
        · rw [overL_out hbm]; exact hsub b k hb
      · have hm : p.1 ∈ L1.map (·.1) := List.mem_map.2 ⟨p, hpm, rfl⟩
        rw [e1] at hm
        obtain ⟨j, hj, he⟩ := List.mem_map.1 hm
        obtain ⟨a, b', a1, _⟩ := hbl_at j hj
        rw [← he, hP.o j a a1]
        exact hcb j hj a a1
      · obtain ⟨q, hq, rfl⟩ := List.mem_map.1 hr
        rcases hrow q hq with r1 | ⟨id, i, r1, r2, r3⟩
        · exact .inl (by rw [r1])
        · rcases hpp.row _ (List.mem_map.2 ⟨_, List.mem_of_getElem? r2, rfl⟩) with hf | ⟨b, cap, c1, c2, c3⟩
          · exact .inl (by rw [r3]; exact hf)
          · refine .inr ⟨b, cap, by rw [r3]; exact c1, ?_, hcr q.1 (List.mem_map.2 ⟨q, hq, rfl⟩) id r1 b cap c1⟩
            rw [overL_out, r3]
            · exact c2
            · intro hm
              obtain ⟨p, hpm, hpe⟩ := List.mem_map.1 hm
              have hob : ownB (rowR N (id, q.2.1, q.2.2)) = some b := by
                simp only [rowR] at c1 ⊢; rw [c1]; rfl
              exact (List.nodup_append.1 hpp.nd).2.2 b (hpe ▸ hLm p hpm) b (List.mem_filterMap.2 ⟨_, List.mem_map.2 ⟨_, List.mem_of_getElem? r2, rfl⟩, hob⟩) rfl
    refine { heap := ⟨L1, by simp only [L1, List.length_map]; rfl, fun i nm b hi => ?_, hHP⟩, okH := fun e he => ?_, okF := fun e he => (by cases he), okR := fun r hr => hmaxr r.1 (List.mem_map.2 ⟨r, hr, rfl⟩), slots := fun i hj => ?_, okA := fun i => ?_ }
    · have hi' : (stB f.bl xb)[i]? = some (nm, b) := hi
      obtain ⟨a, b0, _, k2, k3, k4⟩ := hbs i nm b hi'
      refine ⟨(blkOf I N1 h (nm, b)).2, by simp only [L1, List.getElem?_map, hi']; rfl, ?_⟩
      rcases k4 with ⟨E, c, v, z, rfl, rfl, q3, _, _⟩ | ⟨rfl, hnb⟩
      · simp only [BR, blkOf]
      · obtain ⟨i', k, l1, l2, l3⟩ := hlk a _ k3
        have ho : N1.o nm = N.o a := hP.o nm a k2
        rw [blkOf_nb hnb]
        simp only [ho, hpp.get i' l2, Option.getD_some]
        exact l3.extN hnb
    · obtain ⟨i, hi⟩ := List.mem_iff_getElem?.1 he
      have hi' : (stB f.bl xb)[i]? = some e := hi
      obtain ⟨a, b0, ⟨sh, k1⟩, k2, k3, k4⟩ := hbs i e.1 e.2 hi'
      refine ⟨hmaxb e.1 (List.mem_map.2 ⟨_, List.mem_of_getElem? k1, rfl⟩), ?_⟩
      rcases k4 with ⟨E, c, v, z, e0, e1, q3, q4, q5⟩ | ⟨e1, hnb⟩
      · rw [e1]
        exact hokv c z (fun j hj => List.mem_append_right _ (q5 j hj)) (fun p hp => List.mem_append_right _ (q4 p hp))
      · rw [e1]; exact hnb.ok
    · have hj' : lkV A1 i ≠ .junk := hj
      show (if (lkV A1 i).isJ then t i else (lkV A1 i).enc I N1) = (lkV A1 i).enc I N1
      rw [if_neg]
      intro h; apply hj'
      revert h
      cases lkV A1 i <;> simp [Val.isJ]
    · show okV N1 (maxN (fnums f)) (lkV A1 i)
      rcases packS_spec (σ := σ) hP s.A f.sl xs hxs i with ⟨h1, _⟩ | ⟨sh, y, h1, h2, h3, h4, h5⟩
      · simp only [A1, h1]; simp only [okV]
      · simp only [A1, h2]
        exact hokv sh y (fun j hj => List.mem_append_left _ (h5 j hj)) (fun p hp => List.mem_append_left _ (h4 p hp))
end
end Go.Lb
end
section
namespace Go.Lb
open Go.RowKit (Below)
inductive Al (I : Ids) (N : Nm) : List (Nat × XB) → List (Nat × ABlk) → Prop where
  | nil : Al I N [] []
  | cons {nm : Nat} {b : XB} {k : ABlk} {H : List (Nat × XB)} {L : List (Nat × ABlk)} (h : BR I N b k) (r : Al I N H L) : Al I N ((nm, b) :: H) ((N.o nm, k) :: L)
section
variable {I : Ids} {N N2 : Nm} {s : XS} {t t2 : Nat → AV} {h h0 h2 : Heap}
theorem Al.of : ∀ {H : List (Nat × XB)} {L : List (Nat × ABlk)}, L.length = H.length → (∀ (i : Nat) (nm : Nat) (b : XB), H[i]? = some (nm, b) → ∃ k, L[i]? = some (N.o nm, k) ∧ BR I N b k) → Al I N H L
  | [], [], _, _ => .nil
  | (nm, b) :: H, [], hl, _ => by simp at hl
  | [], _ :: _, hl, _ => by simp at hl
  | (nm, b) :: H, (b', k') :: L, hl, hb => by
    obtain ⟨k, hk, hr⟩ := hb 0 nm b rfl
    simp only [List.getElem?_cons_zero, Option.some.injEq, Prod.mk.injEq] at hk
    obtain ⟨rfl, rfl⟩ := hk
    exact .cons hr (Al.of (by simpa using hl) fun i nm' b' hi => by simpa using hb (i + 1) nm' b' (by simpa using hi))
theorem Al.at : ∀ {H : List (Nat × XB)} {L : List (Nat × ABlk)}, Al I N H L → L.length = H.length ∧ ∀ (i : Nat) (nm : Nat) (b : XB), H[i]? = some (nm, b) → ∃ k, L[i]? = some (N.o nm, k) ∧ BR I N b k
  | _, _, .nil => ⟨rfl, fun i nm b h => by simp at h⟩
  | _, _, .cons hb r => by
    obtain ⟨r1, r2⟩ := r.at
    refine ⟨by simp [r1], fun i nm b hi => ?_⟩
    cases i with
    | zero =>
      simp only [List.getElem?_cons_zero, Option.some.injEq, Prod.mk.injEq] at hi
      obtain ⟨rfl, rfl⟩ := hi
      exact ⟨_, rfl, hb⟩
    | succ i => simpa using r2 i nm b (by simpa using hi)
theorem Al.app : ∀ {H H' : List (Nat × XB)} {L L' : List (Nat × ABlk)}, Al I N H L → Al I N H' L' → Al I N (H ++ H') (L ++ L')
  | _, _, _, _, .nil, k => k
  | _, _, _, _, .cons hb r, k => .cons hb (r.app k)
theorem Al.mem : ∀ {H : List (Nat × XB)} {L : List (Nat × ABlk)}, Al I N H L → ∀ {e : Nat × XB}, e ∈ H → ∃ k, (N.o e.1, k) ∈ L ∧ BR I N e.2 k
  | _, _, .cons hb r, e, he => by
    rcases List.mem_cons.1 he with rfl | he
    · exact ⟨_, by simp, hb⟩
    · obtain ⟨k, k1, k2⟩ := r.mem he; exact ⟨k, List.mem_cons_of_mem _ k1, k2⟩
theorem Al.split (M : List Nat) : ∀ {H : List (Nat × XB)} {L : List (Nat × ABlk)}, Al I N H L → ∃ L1 Lr, Al I N (keepB M H) L1 ∧ Al I N (dropB M H) Lr ∧ L.Perm (L1 ++ Lr)
  | _, _, .nil => ⟨[], [], .nil, .nil, List.Perm.refl _⟩
  | _, _, .cons (nm := nm) (k := k) hb r => by
    obtain ⟨L1, Lr, h1, h2, h3⟩ := r.split M
    simp only [keepB, dropB]
    cases memb nm M with
    | true => exact ⟨(N.o nm, k) :: L1, Lr, .cons hb h1, h2, h3.cons _⟩
    | false => exact ⟨L1, (N.o nm, k) :: Lr, h1, .cons hb h2, (h3.cons _).trans List.perm_middle.symm⟩
theorem rsplit (M : List Nat) : ∀ R : List (Nat × Nat × TypeId), R.Perm (keepR M R ++ dropR M R)
  | [] => List.Perm.refl _
  | (a, b) :: r => by
    simp only [keepR, dropR]
    cases memb a M with
    | true => exact (rsplit M r).cons _
    | false => exact ((rsplit M r).cons _).trans List.perm_middle.symm
theorem keepB_mem {M : List Nat} : ∀ {H : List (Nat × XB)} {e : Nat × XB}, e ∈ keepB M H ↔ e ∈ H ∧ e.1 ∈ M
  | [], e => by simp [keepB]
  | (a, b) :: r, e => by
    simp only [keepB]
    cases hm : memb a M with
    | true => simp only [cond_true, List.mem_cons, keepB_mem (H := r)]; have := memb_iff.1 hm; constructor <;> rintro (rfl | h) <;> grind
    | false => simp only [cond_false, List.mem_cons, keepB_mem (H := r)]; have : a ∉ M := fun h => by rw [memb_iff.2 h] at hm; cases hm
               constructor <;> grind
theorem dropB_mem {M : List Nat} : ∀ {H : List (Nat × XB)} {e : Nat × XB}, e ∈ dropB M H → e ∈ H
  | [], e, h => by cases h
  | (a, b) :: r, e, h => by
    simp only [dropB] at h
    cases hm : memb a M with
    | true => rw [hm] at h; exact List.mem_cons_of_mem _ (dropB_mem h)
    | false =>
      rw [hm] at h
      rcases List.mem_cons.1 h with rfl | h
      · simp
      · exact List.mem_cons_of_mem _ (dropB_mem h)
theorem keepR_mem {M : List Nat} : ∀ {H : List (Nat × Nat × TypeId)} {e : Nat × Nat × TypeId}, e ∈ keepR M H ↔ e ∈ H ∧ e.1 ∈ M
  | [], e => by simp [keepR]
  | (a, b) :: r, e => by
    simp only [keepR]
    cases hm : memb a M with
    | true => simp only [cond_true, List.mem_cons, keepR_mem (H := r)]; have := memb_iff.1 hm; constructor <;> rintro (rfl | h) <;> grind
    | false => simp only [cond_false, List.mem_cons, keepR_mem (H := r)]; have : a ∉ M := fun h => by rw [memb_iff.2 h] at hm; cases hm
               constructor <;> grind
theorem dropR_mem {M : List Nat} : ∀ {H : List (Nat × Nat × TypeId)} {e : Nat × Nat × TypeId}, e ∈ dropR M H → e ∈ H
  | [], e, h => by cases h
  | (a, b) :: r, e, h => by
    simp only [dropR] at h
    cases hm : memb a M with
    | true => rw [hm] at h; exact List.mem_cons_of_mem _ (dropR_mem h)
    | false =>
      rw [hm] at h
      rcases List.mem_cons.1 h with rfl | h
      · simp
      · exact List.mem_cons_of_mem _ (dropR_mem h)
theorem HP.permL {L L' : List (Nat × ABlk)} {R : List Rw} (hp : HP h0 h L R) (hL : L.Perm L') : HP h0 h L' R :=
  ⟨hp.sub, fun p hpm => hp.blk p (hL.mem_iff.2 hpm), hp.row, (((hL.map (·.1)).append_right _).nodup_iff).1 hp.nd⟩
theorem overL_self : ∀ {l : List (Nat × ABlk)}, (∀ p ∈ l, h p.1 = some p.2) → overL l h = h
  | [], _ => rfl
  | (b, k) :: l, hl => by
    funext i
    simp only [overL]
    split
    · rename_i e; rw [e]; exact (hl (b, k) (by simp)).symm
    · rw [overL_self fun p hp => hl p (by simp [hp])]
structure Part (I : Ids) (N : Nm) (s : XS) (M : List Nat) (h h0 h0' : Heap) (Lr : List (Nat × ABlk)) : Prop where
  sub : Sub h0' h
  hr : HR I N { s with H := keepB M s.H, F := dropB M s.H ++ s.F, R := keepR M s.R } h h0'
  al : Al I N (dropB M s.H) Lr
  back : ∀ h2 L2 R2, HP h0' h2 L2 R2 → HP h0 h2 (L2 ++ Lr) (R2 ++ (dropR M s.R).map (rowR N))
  cutB : ∀ a b, lkB s.H a = some b → a ∈ M → h0' (N.o a) = none
  cutR : ∀ r ∈ s.R, r.1 ∈ M → ∀ b cap, N.r r.1 = .own b cap → h0' b = none
theorem part (M : List Nat) (hs : HR I N s h h0) : ∃ h0' Lr, Part I N s M h h0 h0' Lr := by
  obtain ⟨L, l1, l2, l3⟩ := hs.heap
  obtain ⟨L1, Lr, a1, a2, a3⟩ := (Al.of l1 l2).split M
  have p1 := (l3.permL a3).permR ((rsplit M s.R).map (rowR N))
  rw [List.map_append] at p1
  have nd := p1.nd
  have hblk : ∀ p ∈ L1, h p.1 = some p.2 := fun p hp => (p1.blk p (List.mem_append_left _ hp)).1
  have nd1 : (L1.map (·.1) ++ ((keepR M s.R).map (rowR N)).filterMap ownB).Nodup := by
    refine nd.sublist ?_
    rw [List.map_append, List.filterMap_append]
    exact (List.sublist_append_left _ _).append (List.sublist_append_left _ _)
  have hand := HP.hand (h0 := h0) (h := h) (L := L1 ++ Lr) (L1 := L1) (R := (keepR M s.R).map (rowR N) ++ (dropR M s.R).map (rowR N)) (R1 := (keepR M s.R).map (rowR N)) p1 (fun r hr => .inl (List.mem_append_left _ hr)) (fun p hp => by
    rw [List.map_append]; exact List.mem_append_left _ (List.mem_map.2 ⟨p, hp, rfl⟩)) nd1
  rw [overL_self hblk] at hand
  have ndl : ∀ p ∈ Lr, p.1 ∉ L1.map (·.1) := fun p hp hm => by
    have := (List.nodup_append.1 nd).1
    rw [List.map_append] at this
    exact (List.nodup_append.1 this).2.2 _ hm _ (List.mem_map.2 ⟨p, hp, rfl⟩) rfl
  have ndx : ∀ a ∈ (L1 ++ Lr).map (·.1), a ∉ ((keepR M s.R).map (rowR N)).filterMap ownB := fun a ha hm => by
    refine (List.nodup_append.1 nd).2.2 a ha a ?_ rfl
    rw [List.filterMap_append]
    exact List.mem_append_left _ hm
  have hsub0 : ∀ b k, h0 b = some k → cutS (L1.map (·.1) ++ ((keepR M s.R).map (rowR N)).filterMap ownB) h b = some k := fun b k hb => by
    simp only [cutS]
    rw [if_neg]
    · exact p1.sub b k hb
    · intro hm
      rcases List.mem_append.1 hm with hm | hm
      · obtain ⟨p, hp, rfl⟩ := List.mem_map.1 hm
        rw [(p1.blk p (List.mem_append_left _ hp)).2] at hb
        cases hb
      · obtain ⟨r, hr, hrb⟩ := List.mem_filterMap.1 hm
        obtain ⟨cap, hcap⟩ := ownB_eq hrb
        rcases p1.row r (List.mem_append_left _ hr) with hf | ⟨b', cap', e1, e2, e3⟩
        · rw [hf] at hcap; cases hcap
        · rw [e1] at hcap; injection hcap with hb' _; subst hb'; rw [e3] at hb; cases hb
  refine ⟨cutS (L1.map (·.1) ++ ((keepR M s.R).map (rowR N)).filterMap ownB) h, Lr, hand.sub, ⟨⟨L1, a1.at.1, a1.at.2, hand⟩, fun e he => hs.okH e (keepB_mem.1 he).1, fun e he => ?_, fun r hr => hs.okR r (keepR_mem.1 hr).1⟩, a2, fun h2 L2 R2 hp2 => ?_, fun a b hab hM => ?_, fun r hr hM b cap hcap => ?_⟩
  · rcases List.mem_append.1 he with he | he
    · have ho := hs.okH e (dropB_mem he)
      obtain ⟨k, k1, k2⟩ := a2.mem he
      refine ⟨ho.1, ho.2, k, ?_, k2⟩
      simp only [cutS]
      rw [if_neg]
      · exact (p1.blk _ (List.mem_append_right _ k1)).1
      · intro hm
        rcases List.mem_append.1 hm with hm | hm
        · exact ndl _ k1 hm
        · exact ndx _ (List.mem_map.2 ⟨_, List.mem_append_right _ k1, rfl⟩) hm
    · obtain ⟨b1, b2, k, k1, k2⟩ := hs.okF e he
      exact ⟨b1, b2, k, hsub0 _ _ k1, k2⟩
  · refine HP.back p1 (fun r hr => .inl (List.mem_append_left _ hr)) (fun p hp => by rw [List.map_append]; exact List.mem_append_left _ (List.mem_map.2 ⟨p, hp, rfl⟩)) hp2 (fun p hp => ⟨List.mem_append_right _ hp, ndl p hp⟩) (fun r hr => ⟨List.mem_append_right _ hr, fun b hb hm => ?_⟩) ?_
    · have := (List.nodup_append.1 nd).2.1
      rw [List.filterMap_append] at this
      exact (List.nodup_append.1 this).2.2 b hm b (List.mem_filterMap.2 ⟨r, hr, hb⟩) rfl
    · refine nd.sublist ?_
      rw [List.map_append, List.filterMap_append]
      exact (List.sublist_append_right _ _).append (List.sublist_append_right _ _)
  · obtain ⟨i, hi⟩ := lkB_mem hab
    obtain ⟨k, k1, k2⟩ := a1.mem (keepB_mem.2 ⟨List.mem_of_getElem? hi, hM⟩)
    simp only [cutS]
    rw [if_pos (List.mem_append_left _ (List.mem_map.2 ⟨_, k1, rfl⟩))]
  · simp only [cutS]
    rw [if_pos]
    refine List.mem_append_right _ (List.mem_filterMap.2 ⟨_, List.mem_map.2 ⟨r, keepR_mem.2 ⟨hr, hM⟩, rfl⟩, ?_⟩)
    simp only [rowR, hcap]
    rfl
def joinN (c : Nat) (N N2 : Nm) : Nm := ⟨fun i => if i < c then N.o i else N2.o (i - c), fun i => if i < c then N.r i else N2.r (i - c), fun i => if i < c then N.n i else N2.n (i - c)⟩
theorem ext_join (c : Nat) : Ext c N (joinN c N N2) := ⟨fun i hi => by simp only [joinN, if_pos hi], fun i hi => by simp only [joinN, if_pos hi], fun i hi => by simp only [joinN, if_pos hi]⟩
theorem ptrS_mem : ∀ {ss : List (Nat × Sh)} {i : Nat} {sh : Sh}, (i, sh) ∈ ss → (∀ j ∈ ptrN sh, j ∈ ptrS ss) ∧ (∀ j ∈ ownN sh, j ∈ ownS ss)
  | (i', sh') :: r, i, sh, h => by
    rcases List.mem_cons.1 h with e | h
    · cases e
      exact ⟨fun j hj => by simp [ptrS, hj], fun j hj => by simp [ownS, hj]⟩
    · have := ptrS_mem h
      exact ⟨fun j hj => by simp [ptrS, this.1 j hj], fun j hj => by simp [ownS, this.2 j hj]⟩
theorem stS_at : ∀ (ss : List (Nat × Sh)) (x : DenSS ss) (τ : Nat → Nat) (B : List (Nat × Val)) (i : Nat), (i ∉ ss.map (·.1) ∧ lkV (renA τ (stS ss x) ++ B) i = lkV B i) ∨ ∃ sh y, (i, sh) ∈ ss ∧ lkV (stS ss x) i = shV sh y ∧ lkV (renA τ (stS ss x) ++ B) i = (shV sh y).ren τ
  | [], x, τ, B, i => .inl ⟨by simp, rfl⟩
  | (j, sh) :: r, x, τ, B, i => by
    simp only [stS, renA, List.cons_append, lkV]
    cases hb : Nat.beq i j with
    | true =>
      have := natBeq hb
      subst this
      exact .inr ⟨sh, x.1, by simp, rfl, rfl⟩
    | false =>
      have hne : i ≠ j := fun e => by subst e; simp at hb
      rcases stS_at r x.2 τ B i with ⟨h1, h2⟩ | ⟨sh', y, h1, h2, h3⟩
      · exact .inl ⟨by simp [hne, h1], h2⟩
      · exact .inr ⟨sh', y, List.mem_cons_of_mem _ h1, h2, h3⟩
theorem junkA_at {W : List Nat} {A : List (Nat × Val)} {i : Nat} : lkV (junkA W A) i = if i ∈ W then .junk else lkV A i := by
  induction A with
  | nil => simp [junkA, lkV]
  | cons p A ih =>
    obtain ⟨j, v⟩ := p
    simp only [junkA]
    cases hm : memb j W with
    | true =>
      simp only [cond_true]
      rw [ih, lkV_cons]
      by_cases h : i ∈ W
      · simp [h]
      · have : i ≠ j := fun e => h (e ▸ memb_iff.1 hm)
        simp [h, this]
    | false =>
      simp only [cond_false]
      rw [lkV_cons, lkV_cons, ih]
      by_cases h : i = j
      · subst h
        have : i ∉ W := fun e => by rw [memb_iff.2 e] at hm; cases hm
        simp [this]
      · simp [h]
theorem renA_at {τ : Nat → Nat} : ∀ {bs : List (Nat × BSh)} {x : DenBS bs} {i nm : Nat} {b : XB}, (renB τ (stB bs x))[i]? = some (nm, b) → ∃ j y, (stB bs x)[i]? = some (j, y) ∧ nm = τ j ∧ b = y.ren τ
  | [], x, i, nm, b, h => by simp [stB, renB] at h
  | (j, .cells E c) :: r, x, i, nm, b, h => by
    simp only [stB, renB] at h ⊢
    cases i with
    | zero => simp only [List.getElem?_cons_zero, Option.some.injEq, Prod.mk.injEq] at h; exact ⟨_, _, rfl, h.1.symm, h.2.symm⟩
    | succ i => simpa using renA_at (i := i) (by simpa using h)
  | (j, .map k v) :: r, x, i, nm, b, h => by
    simp only [stB, renB] at h ⊢
    cases i with
    | zero => simp only [List.getElem?_cons_zero, Option.some.injEq, Prod.mk.injEq] at h; exact ⟨_, _, rfl, h.1.symm, h.2.symm⟩
    | succ i => simpa using renA_at (i := i) (by simpa using h)
  | (j, .iter) :: r, x, i, nm, b, h => by
    simp only [stB, renB] at h ⊢
    cases i with
    | zero => simp only [List.getElem?_cons_zero, Option.some.injEq, Prod.mk.injEq] at h; exact ⟨_, _, rfl, h.1.symm, h.2.symm⟩
    | succ i => simpa using renA_at (i := i) (by simpa using h)
theorem NB.ren {τ : Nat → Nat} {b : XB} (h : NB b) : b.ren τ = b := by cases b <;> first | exact h.elim | rfl
theorem stB_mem : ∀ {bs : List (Nat × BSh)} {x : DenBS bs} {j : Nat} {y : XB}, (j, y) ∈ stB bs x → j ∈ bs.map (·.1) ∧ ((∃ E c z, y = .cells E (shV c z) ∧ (∀ j ∈ ptrN c, j ∈ ptrB bs) ∧ (∀ j ∈ ownN c, j ∈ ownB' bs)) ∨ NB y)
  | [], x, j, y, h => by simp [stB] at h
  | (i, .cells E c) :: r, x, j, y, h => by
    simp only [stB] at h
    rcases List.mem_cons.1 h with e | h
    · cases e
      exact ⟨by simp, .inl ⟨E, c, x.1, rfl, fun j hj => by simp [ptrB, hj], fun j hj => by simp [ownB', hj]⟩⟩
    · obtain ⟨k1, k2⟩ := stB_mem h
      refine ⟨by simp [k1], ?_⟩
      rcases k2 with ⟨E, c, z, e, q1, q2⟩ | k2
      · exact .inl ⟨E, c, z, e, fun j hj => by simp [ptrB, q1 j hj], fun j hj => by simp [ownB', q2 j hj]⟩
      · exact .inr k2
  | (i, .map k v) :: r, x, j, y, h => by
    simp only [stB] at h
    rcases List.mem_cons.1 h with e | h
    · cases e
      exact ⟨by simp, .inr trivial⟩
    · obtain ⟨k1, k2⟩ := stB_mem h
      refine ⟨by simp [k1], ?_⟩
      rcases k2 with ⟨E, c, z, e, q1, q2⟩ | k2
      · exact .inl ⟨E, c, z, e, fun j hj => by simp [ptrB, q1 j hj], fun j hj => by simp [ownB', q2 j hj]⟩
      · exact .inr k2
  | (i, .iter) :: r, x, j, y, h => by
    simp only [stB] at h
    rcases List.mem_cons.1 h with e | h
    · cases e
      exact ⟨by simp, .inr trivial⟩
    · obtain ⟨k1, k2⟩ := stB_mem h
      refine ⟨by simp [k1], ?_⟩
      rcases k2 with ⟨E, c, z, e, q1, q2⟩ | k2
      · exact .inl ⟨E, c, z, e, fun j hj => by simp [ptrB, q1 j hj], fun j hj => by simp [ownB', q2 j hj]⟩
      · exact .inr k2
theorem lkN_key {σ : List (Nat × Nat)} {j a : Nat} : lkN σ j = some a → (j, a) ∈ σ := by
  induction σ with
  | nil => intro h; cases h
  | cons p r ih =>
    obtain ⟨i, v⟩ := p
    intro h
    simp only [lkN] at h
    cases hb : Nat.beq j i with
    | true => rw [hb] at h; simp only [cond_true, Option.some.injEq] at h; subst h; rw [natBeq hb]; simp
    | false => rw [hb] at h; exact List.mem_cons_of_mem _ (ih h)
theorem lkN_none {σ : List (Nat × Nat)} {j : Nat} (h : j ∉ σ.map (·.1)) : lkN σ j = none := by
  cases hl : lkN σ j with
  | none => rfl
  | some a => exact absurd (List.mem_map.2 ⟨_, lkN_key hl, rfl⟩) h
theorem back_SR {f : Fm} {y : DenF f} {σb : List (Nat × Nat)} {M W : List Nat} {h0' : Heap} {Lr : List (Nat × ABlk)} {tA t3 : Nat → AV} (hs : SR I N s tA h h0) (hp : Part I N { s with A := [] } M h h0 h0' Lr) (h2s : SR I N2 (stF f y) t2 h2 h0') (wf : WF f)
    (hσ : ∀ j a, lkN σb j = some a → a < s.c ∧ N2.o j = N.o a) (hdj : ∀ j ∈ f.rw.map (·.1), j ∉ σb.map (·.1)) (ht1 : ∀ i ∈ f.sl.map (·.1), t3 i = t2 i) (ht2 : ∀ i, i ∉ f.sl.map (·.1) → i ∉ W → t3 i = tA i) :
    SR I (joinN s.c N N2) (backF σb M W s f y) t3 h2 h0 := by
  let c := s.c
  let τ := backR σb c
  let N3 := joinN c N N2
  let m := maxN (fnums f)
  have hext : Ext c N N3 := ext_join c
  have hmaxb : ∀ j ∈ f.bl.map (·.1), j < m := fun j hj => lt_maxN (List.mem_append_left _ hj)
  have hmaxr : ∀ j ∈ f.rw.map (·.1), j < m := fun j hj => lt_maxN (List.mem_append_right _ hj)
  have hto : ∀ j, N3.o (τ j) = N2.o j := fun j => by
    show (if backR σb s.c j < s.c then N.o (backR σb s.c j) else N2.o (backR σb s.c j - s.c)) = N2.o j
    cases hl : lkN σb j with
    | some a => simp only [backR, hl]; rw [if_pos (hσ j a hl).1, (hσ j a hl).2]
    | none => simp only [backR, hl]; rw [if_neg (by omega), Nat.add_sub_cancel_left]
  have hrw : ∀ j ∈ f.rw.map (·.1), τ j = c + j := fun j hj => by
    show backR σb s.c j = s.c + j
    simp only [backR, lkN_none (hdj j hj)]
  have htr : ∀ j ∈ f.rw.map (·.1), N3.r (τ j) = N2.r j ∧ N3.n (τ j) = N2.n j := fun j hj => by
    rw [hrw j hj]
    show (if s.c + j < s.c then N.r (s.c + j) else N2.r (s.c + j - s.c)) = N2.r j ∧ (if s.c + j < s.c then N.n (s.c + j) else N2.n (s.c + j - s.c)) = N2.n j
    rw [if_neg (by omega), if_neg (by omega), Nat.add_sub_cancel_left]
    exact ⟨rfl, rfl⟩
  have hτlt : ∀ j, j < m → τ j < c + m := fun j hj => by
    show backR σb s.c j < s.c + m
    cases hl : lkN σb j with
    | some a => simp only [backR, hl]; have := (hσ j a hl).1; omega
    | none => simp only [backR, hl]; omega
  have hv : ∀ (sh : Sh) (z : DenSh sh), okV N2 m (shV sh z) → (∀ j ∈ ptrN sh, j ∈ f.bl.map (·.1)) → (∀ j ∈ ownN sh, j ∈ f.rw.map (·.1)) → (((shV sh z).ren τ).enc I N3 = (shV sh z).enc I N2 ∧ ((shV sh z).ren τ).cells I N3 = (shV sh z).cells I N2) ∧ okV N3 (c + m) ((shV sh z).ren τ) := fun sh z ho h1 h2 => by
    have hk : ∀ p ∈ lensV sh z, p.1 ∈ f.rw.map (·.1) := fun p hp => h2 _ (by rw [← lens_keys sh z]; exact List.mem_map.2 ⟨p, hp, rfl⟩)
    obtain ⟨o1, o2⟩ := sh_ok_inv sh z ho
    exact ⟨sh_enc sh z (fun j _ => hto j) (fun p hp => (htr _ (hk p hp)).1), sh_ok sh z (fun j hj => hτlt _ (hmaxb _ (h1 j hj))) (fun p hp => ⟨hτlt _ (hmaxr _ (hk p hp)), by rw [(htr _ (hk p hp)).2]; exact (o2 p hp).2⟩)⟩
  obtain ⟨L2, e1, e2, e3⟩ := h2s.heap
  have a2 : Al I N2 (stB f.bl y.2) L2 := Al.of e1 e2
  have hb := hp.back h2 L2 _ e3
  have hptr : ∀ j ∈ ptrS f.sl ++ ptrB f.bl, j ∈ f.bl.map (·.1) := wf.ptr
  have hbl : ∀ e ∈ stB f.bl y.2, okB N3 (c + m) (e.2.ren τ) ∧ ∀ k, BR I N2 e.2 k → BR I N3 (e.2.ren τ) k := fun e he => by
    obtain ⟨k1, k2⟩ := stB_mem he
    have ho := (h2s.okH e he).2
    rcases k2 with ⟨E, cc, z, e', q1, q2⟩ | hnb
    · rw [e'] at ho ⊢
      obtain ⟨⟨_, v2⟩, v3⟩ := hv cc z ho (fun j hj => hptr j (List.mem_append_right _ (q1 j hj))) (fun j hj => wf.row j (List.mem_append_right _ (q2 j hj)))
      refine ⟨v3, fun k hk => ?_⟩
      simp only [BR, XB.ren] at hk ⊢
      rw [v2]; exact hk
    · rw [hnb.ren]
      exact ⟨hnb.ok, fun k hk => hk.extN hnb⟩
  refine { heap := ⟨L2 ++ Lr, ?_, fun i nm b hi => ?_, ?_⟩, okH := fun e he => ?_, okF := fun e he => ?_, okR := fun r hr => ?_, slots := fun i hj => ?_, okA := fun i => ?_ }
  · have l1 : (renB τ (stB f.bl y.2)).length = (stB f.bl y.2).length := by
      have : ∀ H : List (Nat × XB), (renB τ H).length = H.length := fun H => by induction H with | nil => rfl | cons p r ih => simp [renB, ih]
      exact this _
    show (L2 ++ Lr).length = (renB τ (stB f.bl y.2) ++ dropB M s.H).length
    have l3 : Lr.length = (dropB M s.H).length := hp.al.at.1
    rw [List.length_append, List.length_append, l1, l3, e1]
    rfl
  · have hi : (renB τ (stB f.bl y.2) ++ dropB M s.H)[i]? = some (nm, b) := hi
    have l1 : (renB τ (stB f.bl y.2)).length = L2.length := by
      have : ∀ H : List (Nat × XB), (renB τ H).length = H.length := fun H => by induction H with | nil => rfl | cons p r ih => simp [renB, ih]
      rw [this, e1]; rfl
    by_cases hlt : i < (renB τ (stB f.bl y.2)).length
    · rw [List.getElem?_append_left hlt] at hi
      obtain ⟨j, b', k1, rfl, rfl⟩ := renA_at hi
      obtain ⟨k, k2, k3⟩ := e2 i j b' k1
      refine ⟨k, ?_, (hbl _ (List.mem_of_getElem? k1)).2 k k3⟩
      rw [List.getElem?_append_left (by omega)]
      show L2[i]? = some (N3.o (τ j), k)
      rw [hto j]; exact k2
    · rw [List.getElem?_append_right (by omega), l1] at hi
      obtain ⟨k, k1, k2⟩ := hp.al.at.2 _ nm b hi
      have ho := hs.okH (nm, b) (dropB_mem (List.mem_of_getElem? hi))
      refine ⟨k, ?_, k2.ext hext ho.2⟩
      rw [List.getElem?_append_right (by omega)]
      show Lr[i - L2.length]? = some (N3.o nm, k)
      rw [hext.o nm ho.1]; exact k1
  · show HP h0 h2 (L2 ++ Lr) ((renR τ f.rw ++ dropR M s.R).map (rowR N3))
    have r1 : (renR τ f.rw).map (rowR N3) = f.rw.map (rowR N2) := by
      have : ∀ l : List (Nat × Nat × TypeId), (∀ r ∈ l, r.1 ∈ f.rw.map (·.1)) → (renR τ l).map (rowR N3) = l.map (rowR N2) := fun l => by
        induction l with
        | nil => intro _; rfl
        | cons r l ih =>
          intro hm
          simp only [renR, List.map_cons]
          rw [ih fun q hq => hm q (by simp [hq])]
          have := htr r.1 (hm r (by simp))
          simp only [rowR, this.1, this.2]
      exact this _ fun r hr => List.mem_map.2 ⟨r, hr, rfl⟩
    rw [List.map_append, r1, rows_ext hext (R := dropR M s.R) fun r hr => hs.okR r (dropR_mem hr)]
    exact hb
  · have he : e ∈ renB τ (stB f.bl y.2) ++ dropB M s.H := he
    rcases List.mem_append.1 he with he | he
    · obtain ⟨i, hi⟩ := List.mem_iff_getElem?.1 he
      obtain ⟨j, b', k1, k2, k3⟩ := renA_at (nm := e.1) (b := e.2) hi
      have hm := List.mem_of_getElem? k1
      refine ⟨?_, ?_⟩
      · show e.1 < c + m
        rw [k2]; exact hτlt _ (hmaxb _ (stB_mem hm).1)
      · show okB N3 (c + m) e.2
        rw [k3]; exact (hbl _ hm).1
    · have ho := hs.okH e (dropB_mem he)
      exact ⟨Nat.lt_of_lt_of_le ho.1 (Nat.le_add_right _ _), ho.2.mono hext (Nat.le_add_right _ _)⟩
  · obtain ⟨k1, k2, k, k3, k4⟩ := hs.okF e he
    exact ⟨Nat.lt_of_lt_of_le k1 (Nat.le_add_right _ _), k2.mono hext (Nat.le_add_right _ _), k, by show h0 (N3.o e.1) = some k; rw [hext.o _ k1]; exact k3, k4.ext hext k2⟩
  · have hr : r ∈ renR τ f.rw ++ dropR M s.R := hr
    show r.1 < c + m
    rcases List.mem_append.1 hr with hr | hr
    · have : ∀ l : List (Nat × Nat × TypeId), (∀ r ∈ l, r.1 ∈ f.rw.map (·.1)) → r ∈ renR τ l → r.1 < c + m := fun l => by
        induction l with
        | nil => intro _ h; cases h
        | cons q l ih =>
          intro hm h
          simp only [renR] at h
          rcases List.mem_cons.1 h with e | h
          · rw [e]; exact hτlt _ (hmaxr _ (hm q (by simp)))
          · exact ih (fun q hq => hm q (by simp [hq])) h
      exact this _ (fun r hr => List.mem_map.2 ⟨r, hr, rfl⟩) hr
    · exact Nat.lt_of_lt_of_le (hs.okR r (dropR_mem hr)) (Nat.le_add_right _ _)
  · have hj : lkV (renA τ (stS f.sl y.1) ++ junkA W s.A) i ≠ .junk := hj
    show t3 i = (lkV (renA τ (stS f.sl y.1) ++ junkA W s.A) i).enc I N3
    rcases stS_at f.sl y.1 τ (junkA W s.A) i with ⟨k1, k2⟩ | ⟨sh, z, k1, k2, k3⟩
    · rw [k2] at hj ⊢
      rw [junkA_at] at hj ⊢
      split at hj
      · exact absurd rfl hj
      · rename_i hW
        rw [if_neg hW, ht2 i k1 hW, enc_ext hext (hs.okA i)]
        exact hs.slots i hj
    · have ho := h2s.okA i
      have hl : lkV (stF f y).A i = shV sh z := k2
      rw [hl] at ho
      obtain ⟨⟨v1, _⟩, _⟩ := hv sh z ho (fun j hj => hptr j (List.mem_append_left _ ((ptrS_mem k1).1 j hj))) (fun j hj => wf.row j (List.mem_append_left _ ((ptrS_mem k1).2 j hj)))
      rw [k3, v1, ht1 i (List.mem_map.2 ⟨_, k1, rfl⟩), ← hl]
      exact h2s.slots i (by rw [hl]; exact shV_notJ sh z)
  · show okV N3 (c + m) (lkV (renA τ (stS f.sl y.1) ++ junkA W s.A) i)
    rcases stS_at f.sl y.1 τ (junkA W s.A) i with ⟨k1, k2⟩ | ⟨sh, z, k1, k2, k3⟩
    · rw [k2, junkA_at]
      split
      · simp only [okV]
      · exact (hs.okA i).mono hext (Nat.le_add_right _ _)
    · have ho := h2s.okA i
      have hl : lkV (stF f y).A i = shV sh z := k2
      rw [hl] at ho
      rw [k3]
      exact (hv sh z ho (fun j hj => hptr j (List.mem_append_left _ ((ptrS_mem k1).1 j hj))) (fun j hj => wf.row j (List.mem_append_left _ ((ptrS_mem k1).2 j hj)))).2
end
end Go.Lb
end
section
namespace Go.Lb
open Go.RowKit (Below)
inductive OutA : (al : Alts) → DenA al → XK → (f : Fm) → DenF f → Prop
  | one {e : XK} {f : Fm} (x : DenF f) : OutA [(e, f)] x e f x
  | fst {e : XK} {f : Fm} {q : XK × Fm} {r : Alts} (x : DenF f) : OutA ((e, f) :: q :: r) (Sum.inl x) e f x
  | snd {e0 : XK} {f0 : Fm} {q : XK × Fm} {r : Alts} {y : DenA (q :: r)} {e : XK} {f : Fm} {x : DenF f} (h : OutA (q :: r) y e f x) : OutA ((e0, f0) :: q :: r) (Sum.inr y) e f x
theorem isE_eq {k : XK} {e : XE} (h : k.isE e = true) : e = k.toE := by
  cases k <;> cases e <;> simp [XK.isE] at h <;> simp [XK.toE]
  · exact h.symm
theorem packA_spec {σ0 : List (Nat × Nat)} {e : XE} {s : XS} : ∀ {al : Alts} {y : DenA al}, packA σ0 e s al = some y → ∃ (k : XK) (f : Fm) (x : DenF f), OutA al y k f x ∧ e = k.toE ∧ packF s f (sigF s f σ0) = some x
  | [], y, h => by cases h
  | [(k, f)], y, h => by
    simp only [packA] at h
    cases hk : k.isE e with
    | false => rw [hk] at h; cases h
    | true => rw [hk] at h; exact ⟨k, f, y, .one y, isE_eq hk, h⟩
  | (k, f) :: q :: r, y, h => by
    simp only [packA] at h
    cases hk : k.isE e with
    | true =>
      rw [hk] at h
      simp only [cond_true] at h
      split at h
      · rename_i z hz
        simp only [Option.some.injEq] at h
        subst h
        exact ⟨k, f, z, .fst z, isE_eq hk, hz⟩
      · cases h
    | false =>
      rw [hk] at h
      simp only [cond_false] at h
      split at h
      · rename_i z hz
        simp only [Option.some.injEq] at h
        subst h
        obtain ⟨k', f', x, h1, h2, h3⟩ := packA_spec hz
        exact ⟨k', f', x, .snd h1, h2, h3⟩
      · cases h
theorem and_of {a b : Bool} {ρ : Type} {x : Option ρ} {r : ρ} (h : (bif a && b then x else none) = some r) : a = true ∧ b = true ∧ x = some r := by
  cases a <;> cases b <;> simp at h ⊢
  exact h
theorem cond_of {a : Bool} {ρ : Type} {x : Option ρ} {r : ρ} (h : (bif a then x else none) = some r) : a = true ∧ x = some r := by
  cases a <;> simp at h ⊢
  exact h
theorem backA_spec {ρ : Type} {σb : List (Nat × Nat)} {M W : List Nat} {s : XS} {k : XE → XS → Option ρ} {r : ρ} : ∀ {al : Alts} {y : DenA al}, backA σb M W s al y k = some r → ∀ {e : XK} {f : Fm} {x : DenF f}, OutA al y e f x →
    (∀ j ∈ f.rw.map (·.1), j ∉ σb.map (·.1)) ∧ (∀ i ∈ f.sl.map (·.1), i ∈ W) ∧ k e.toE (backF σb M W s f x) = some r
  | [(e0, f0)], y, h, e, f, x, ho => by
    cases ho
    simp only [backA, fS_eq] at h
    obtain ⟨h1, h2, h3⟩ := and_of h
    exact ⟨disjB_iff h1, subB_iff h2, h3⟩
  | (e0, f0) :: q :: l, y, h, e, f, x, ho => by
    simp only [backA, fS_eq] at h
    cases ho with
    | fst x =>
      simp only at h
      obtain ⟨h1, h2, h3⟩ := and_of h
      exact ⟨disjB_iff h1, subB_iff h2, h3⟩
    | snd ho => exact backA_spec h ho
def XE.toA (I : Ids) (N : Nm) : XE → AExit
  | .normal => .normal
  | .exit i => .exit i
  | .goto l => .goto l
  | .ret => .ret
  | .panic v => .panic (v.enc I N)
section
variable {I : Ids} {N N1 : Nm} {σ : List (Nat × Nat)}
theorem prj_n {d d' : D} {z : Den d'} {x : Den d} (h : prj d (.n d' z) = some x) : (eD d').enc z = (eD d).enc x := by
  cases d <;> simp only [prj, pInt, pStr, pBool, pTok, pTy, pEx, pSt, pPar, pFn, pPl, pLo, pY, pB, pL, reduceCtorEq] at h <;> cases d' <;> simp only [Option.some.injEq, reduceCtorEq] at h <;> first | (cases h; rfl) | skip
mutual
theorem exact_enc (hp : Pull N σ N1) : ∀ (sh : Sh) (v : Val) (x : DenSh sh), packV σ sh v = some x → exactV sh v = true → v.enc I N = (shV sh x).enc I N1 ∧ v.cells I N = (shV sh x).cells I N1
  | .n d, v, x, h, he => by
    simp only [exactV] at he
    split at he
    · rename_i d' z
      simp only [packV] at h
      have hc := prj_n h
      have ha := prj_agg h
      have hc' : (Val.n d' z).cells I N = (inj d x).cells I N1 := by rw [inj_cells]; simp only [Val.cells]; exact hc
      refine ⟨?_, by simp only [shV]; exact hc'⟩
      simp only [shV]
      have ha' : (inj d x).isAgg = true := by rw [← ha]; rfl
      rw [enc_agg ha', ← hc', enc_agg (by rfl)]
    · cases he
  | .sl d, v, x, h, he => by
    simp only [exactV] at he
    split at he
    · rename_i e l
      simp only [packV] at h
      obtain ⟨_, _, _, a1, _, a3, a4⟩ := pL_spec (I := I) (N := N) h
      simp only [Val.cells, List.cons.injEq, AV.sl.injEq, and_true] at a1
      obtain ⟨b1, b2, _⟩ := a1
      simp only [shV, Val.enc, Val.cells, XR.enc]
      rw [b1, b2, a3, a4]
      exact ⟨rfl, rfl⟩
    · cases he
  | .own d r, v, x, h, he => by
    clear he
    simp only [packV] at h
    have key : ∀ {e : D} {l : List (Den e)} {rm : XR}, pL d (.sl e l .full) = some x → rm.enc N = N1.r r → (Val.sl e l rm).enc I N = (shV (.own d r) x).enc I N1 ∧ (Val.sl e l rm).cells I N = (shV (.own d r) x).cells I N1 := by
      intro e l rm hl hr
      obtain ⟨_, _, _, a1, _, a3, a4⟩ := pL_spec (I := I) (N := N) hl
      simp only [Val.cells, List.cons.injEq, AV.sl.injEq, and_true] at a1
      obtain ⟨b1, b2, _⟩ := a1
      have e1 : AV.sl l.length ((eD e).encs l) (rm.enc N) = AV.sl (List.length x) ((eD d).encs x) (N1.r r) := by rw [hr, b1, b2, a3, a4]
      exact ⟨e1, congrArg (fun a => [a]) e1⟩
    split at h
    · cases hc : noN σ r with
      | false => rw [hc] at h; cases h
      | true =>
        rw [hc] at h
        simp only [cond_true, Option.some.injEq] at h
        subst h
        have e := @Enc.encs_nil _ (eD d).toEnc
        simp only [shV, Val.cells, Val.enc, XR.enc, hp.f r (noN_spec hc), e]
        exact ⟨rfl, rfl⟩
    · cases hc : noN σ r with
      | false => rw [hc] at h; cases h
      | true =>
        rw [hc] at h
        exact key h (by rw [hp.f r (noN_spec hc)]; rfl)
    · rename_i e l id
      cases hc : isN σ r id with
      | false => rw [hc] at h; cases h
      | true =>
        rw [hc] at h
        exact key h (by rw [hp.r r id (isN_spec hc)]; rfl)
    · cases h
  | .int k, v, x, h, he => by
    clear he
    simp only [packV] at h
    split at h
    · rename_i k' n
      obtain ⟨hc, h⟩ := cond_of h
      simp only [Option.some.injEq] at h
      subst h
      rw [of_decide_eq_true hc]
      exact ⟨rfl, rfl⟩
    · cases h
  | .bool, v, x, h, he => by
    clear he
    simp only [packV] at h
    split at h
    · simp only [Option.some.injEq] at h; subst h; exact ⟨rfl, rfl⟩
    · cases h
  | .str, v, x, h, he => by
    clear he
    simp only [packV] at h
    split at h
    · simp only [Option.some.injEq] at h; subst h; exact ⟨rfl, rfl⟩
    · cases h
  | .err, v, x, h, he => by
    clear he
    simp only [packV] at h
    split at h
    · simp only [Option.some.injEq] at h; subst h; exact ⟨rfl, rfl⟩
    · simp only [Option.some.injEq] at h; subst h; exact ⟨rfl, rfl⟩
    · cases h
  | .ptr j off, v, x, h, he => by
    clear he
    simp only [packV] at h
    split at h
    · rename_i a o
      cases hc : (isN σ j a && Nat.beq o off) with
      | false => rw [hc] at h; cases h
      | true =>
        simp only [Bool.and_eq_true] at hc
        simp only [shV, Val.cells, Val.enc, hp.o j a (isN_spec hc.1), natBeq hc.2]
        exact ⟨trivial, trivial⟩
    · cases h
  | .map j, v, x, h, he => by
    clear he
    simp only [packV] at h
    split at h
    · rename_i a
      obtain ⟨hc, h⟩ := cond_of h
      simp only [shV, Val.cells, Val.enc, hp.o j a (isN_spec hc)]
      exact ⟨trivial, trivial⟩
    · cases h
  | .ro c, v, x, h, he => by
    simp only [packV] at h
    split at h
    · rename_i w
      simp only [exactV] at he
      have := (exact_enc hp c w x h he).2
      simp only [shV, Val.enc, Val.cells, this]
      exact ⟨trivial, trivial⟩
    · cases h
  | .lit k, v, x, h, he => by
    clear he
    simp only [packV] at h
    obtain ⟨hc, h⟩ := cond_of h
    rw [litN_eq hc]
    simp only [shV]
    exact litV_enc k
  | .fn f a c, v, x, h, he => by
    simp only [packV] at h
    split at h
    · rename_i f' a' c'
      obtain ⟨hc, h⟩ := cond_of h
      obtain ⟨y, hy, h⟩ := bind2_some h
      obtain ⟨z, hz, h⟩ := bind2_some h
      simp only [Option.some.injEq] at h
      subst h
      simp only [exactV, Bool.and_eq_true] at he
      have a1 := (exactL_enc hp a a' y hy he.1).1
      have a2 := (exactL_enc hp c c' z hz he.2).1
      simp only [shV, Val.cells, Val.enc, natBeq hc, a1, a2]
      exact ⟨trivial, trivial⟩
    · cases h
  | .tup l, v, x, h, he => by
    simp only [packV] at h
    split at h
    · rename_i vs hvs
      simp only [exactV, hvs] at he
      obtain ⟨h1, h2⟩ := fieldsOf_cells (I := I) (N := N) hvs
      have := (exactL_enc hp l vs x h he).2
      rw [enc_agg h2, h1]
      simp only [shV, Val.cells, Val.enc, this]
      exact ⟨trivial, trivial⟩
    · cases h
  | .tuple l, v, x, h, he => by
    simp only [packV] at h
    split at h
    · rename_i vs
      simp only [exactV] at he
      have := (exactL_enc hp l vs x h he).1
      simp only [shV, Val.cells, Val.enc, this]
      exact ⟨trivial, trivial⟩
    · cases h
theorem exactL_enc (hp : Pull N σ N1) : ∀ (l : List Sh) (vs : List Val) (x : DenShL l), packVL σ l vs = some x → exactL l vs = true → Val.encL I N vs = Val.encL I N1 (shVL l x) ∧ Val.cellsL I N vs = Val.cellsL I N1 (shVL l x)
  | [], vs, x, h, _ => by
    simp only [packVL] at h
    split at h
    · exact ⟨rfl, rfl⟩
    · cases h
  | s :: r, vs, x, h, he => by
    simp only [packVL] at h
    split at h
    · rename_i v vs
      obtain ⟨y, hy, h⟩ := bind2_some h
      obtain ⟨z, hz, h⟩ := bind2_some h
      simp only [Option.some.injEq] at h
      subst h
      simp only [exactL, Bool.and_eq_true] at he
      obtain ⟨a1, a2⟩ := exact_enc hp s v y hy he.1
      obtain ⟨b1, b2⟩ := exactL_enc hp r vs z hz he.2
      simp only [Val.cellsL, Val.encL, shVL, a1, a2, b1, b2]
      exact ⟨trivial, trivial⟩
    · cases h
end
theorem pack_notJ : ∀ (sh : Sh) (x : DenSh sh), packV σ sh .junk = some x → False
  | .n d, x, h => by simp only [packV] at h; cases d <;> simp [prj, pInt, pStr, pBool, pTok, pTy, pEx, pSt, pPar, pFn, pPl, pLo, pY, pB, pL] at h
  | .lit k, x, h => by
    simp only [packV] at h
    obtain ⟨hc, _⟩ := cond_of h
    simp only [Bool.and_eq_true, litN] at hc
    have h1 := natBeq hc.1
    have h2 := Nat.le_of_ble_eq_true hc.2
    omega
  | .int _, x, h => by simp [packV] at h
  | .bool, x, h => by simp [packV] at h
  | .str, x, h => by simp [packV] at h
  | .sl _, x, h => by simp [packV, pL] at h
  | .own _ _, x, h => by simp [packV] at h
  | .err, x, h => by simp [packV] at h
  | .ptr _ _, x, h => by simp [packV] at h
  | .map _, x, h => by simp [packV] at h
  | .ro _, x, h => by simp [packV] at h
  | .fn _ _ _, x, h => by simp [packV] at h
  | .tup _, x, h => by simp [packV, fieldsOf] at h
  | .tuple _, x, h => by simp [packV] at h
theorem exactS_at {W : List Nat} {A : List (Nat × Val)} : ∀ {ss : List (Nat × Sh)} {i : Nat} {sh : Sh}, exactS W A ss = true → (i, sh) ∈ ss → i ∉ W → exactV sh (lkV A i) = true
  | (j, sh') :: r, i, sh, h, hm, hW => by
    simp only [exactS, Bool.and_eq_true, Bool.or_eq_true] at h
    rcases List.mem_cons.1 hm with e | hm
    · cases e
      rcases h.1 with h1 | h1
      · exact absurd (memb_iff.1 h1) hW
      · exact h1
    · exact exactS_at h.2 hm hW
end
section
variable {I : Ids} {N N2 : Nm} {s : XS} {t t2 : Nat → AV} {h h0 h2 : Heap} {σ : List (Nat × Nat)}
theorem pack_SRW {W : List Nat} {f : Fm} {x : DenF f} (hs : SR I N s t h h0) (hx : packF s f σ = some x) (he : exactS W s.A f.sl = true) : ∃ (N1 : Nm) (t1 : Nat → AV) (h1 : Heap), Pull N σ N1 ∧ HWk h h1 ∧ (∀ i, Weak (t i) (t1 i)) ∧ (∀ i, i ∉ W → t1 i = t i) ∧ WF f ∧
    (∀ j ∈ f.bl.map (·.1), ∃ a b, lkN σ j = some a ∧ lkB s.H a = some b) ∧ (∀ r ∈ f.rw, ∀ id, lkN σ r.1 = some id → hasR s.R id r.2.1 r.2.2 = true) ∧
    ∀ h0', Sub h0' h → (∀ j ∈ f.bl.map (·.1), ∀ a, lkN σ j = some a → h0' (N.o a) = none) → (∀ j ∈ f.rw.map (·.1), ∀ a, lkN σ j = some a → ∀ b cap, N.r a = .own b cap → h0' b = none) → SR I N1 (stF f x) t1 h1 h0' := by
  obtain ⟨N1, t1, h1, a1, a2, a3, a4, a5, a6, a7, a8⟩ := pack_SR hs hx
  have key : ∀ i, i ∉ W → lkV (stS f.sl x.1) i ≠ .junk → t i = (lkV (stS f.sl x.1) i).enc I N1 := fun i hW hj => by
    unfold packF at hx
    obtain ⟨_, hx⟩ := cond_of hx
    obtain ⟨xs, hxs, hx⟩ := bind2_some hx
    obtain ⟨xb, hxb, hx⟩ := bind2_some hx
    simp only [Option.some.injEq] at hx
    subst hx
    rcases packS_spec (σ := σ) a1 s.A f.sl xs hxs i with ⟨h1, _⟩ | ⟨sh, y, k1, k2, k3, _, _⟩
    · exact absurd h1 hj
    · rw [k2, ← (exact_enc (I := I) a1 sh _ y k3 (exactS_at he k1 hW)).1]
      refine hs.slots i fun e => ?_
      rw [e] at k3
      exact pack_notJ sh y k3
  refine ⟨N1, fun i => if i ∈ W then t1 i else t i, h1, a1, a2, fun i => ?_, fun i hi => if_neg hi, a5, a6, a7, fun h0' b1 b2 b3 => ?_⟩
  · show Weak (t i) (if i ∈ W then t1 i else t i)
    split
    · exact a3 i
    · exact Weak.refl _
  · have hS := a8 h0' b1 b2 b3
    refine { heap := hS.heap, okH := hS.okH, okF := hS.okF, okR := hS.okR, slots := fun i hj => ?_, okA := hS.okA }
    show (if i ∈ W then t1 i else t i) = _
    split
    · exact hS.slots i hj
    · rename_i hW
      exact key i hW hj
theorem namesOf_mem {l : List Nat} {j a : Nat} (hj : j ∈ l) (ha : lkN σ j = some a) : a ∈ namesOf σ l := by
  induction l with
  | nil => cases hj
  | cons q l ih =>
    simp only [namesOf]
    rcases List.mem_cons.1 hj with rfl | hm
    · rw [ha]; simp
    · split
      · exact List.mem_cons_of_mem _ (ih hm)
      · exact ih hm
theorem noRows_at {f : Fm} {j a : Nat} : ∀ {σ : List (Nat × Nat)}, lkN (noRows f σ) j = some a → lkN σ j = some a ∧ j ∈ f.bl.map (·.1)
  | [], h => by cases h
  | (i, b) :: r, h => by
    simp only [noRows] at h
    cases hm : memb i (f.bl.map (·.1)) with
    | true =>
      rw [hm] at h
      simp only [cond_true, lkN] at h ⊢
      cases hb : Nat.beq j i with
      | true => rw [hb] at h; exact ⟨h, by rw [natBeq hb]; exact memb_iff.1 hm⟩
      | false => rw [hb] at h; exact noRows_at h
    | false =>
      rw [hm] at h
      obtain ⟨h1, h2⟩ := noRows_at h
      simp only [lkN]
      cases hb : Nat.beq j i with
      | true => rw [natBeq hb, ] at h2; rw [memb_iff.2 h2] at hm; cases hm
      | false => exact ⟨h1, h2⟩
theorem toHR0 (hs : SR I N s t h h0) : HR I N { s with A := [] } h h0 := ⟨hs.heap, hs.okH, hs.okF, hs.okR⟩
theorem xcon_pre {ρ : Type} {L : Con} {W : List Nat} {k : XE → XS → Option ρ} {r : ρ} (hx : xcon L W s k = some r) (hs : SR I N s t h h0) : ∃ (x : DenF L.f) (y : DenA L.al) (N1 : Nm) (t1 : Nat → AV) (h1 h0' : Heap), L.fn x = some y ∧ HWk h h1 ∧ (∀ i, Weak (t i) (t1 i)) ∧ (∀ i, i ∉ W → t1 i = t i) ∧ SR I N1 (stF L.f x) t1 h1 h0' ∧ packF s L.f (sigF s L.f []) = some x ∧ Pull N (sigF s L.f []) N1 ∧
    ∀ e f' y', OutA L.al y e f' y' → WF f' → ∀ N2 t2 h2, (∀ j ∈ L.f.bl.map (·.1), N2.o j = N1.o j) → SR I N2 (stF f' y') t2 h2 h0' → (∀ i, i ∉ W → i ∉ f'.sl.map (·.1) → t2 i = t1 i) →
      ∃ N3 s3, Ext s.c N N3 ∧ s.c ≤ s3.c ∧ SR I N3 s3 t2 h2 h0 ∧ (∀ i ∈ W, i ∉ f'.sl.map (·.1) → lkV s3.A i = .junk) ∧ (∀ i, i ∉ W → t2 i = t i) ∧ k e.toE s3 = some r := by
  unfold xcon at hx
  obtain ⟨he, hx⟩ := cond_of hx
  obtain ⟨x, hp, hx⟩ := bind2_some hx
  obtain ⟨y, hy, hx⟩ := Option.bind_eq_some_iff.1 hx
  obtain ⟨N1, t1, h1, a1, a2, a3, a4, a5, a6, a7, a8⟩ := pack_SRW hs hp he
  obtain ⟨h0', Lr, pt⟩ := part (namesOf (sigF s L.f []) (fnums L.f)) (toHR0 hs)
  have hS1 := a8 h0' pt.sub (fun j hj a ha => by
    obtain ⟨a', b, e1, e2⟩ := a6 j hj
    rw [ha] at e1
    injection e1 with e1
    subst e1
    exact pt.cutB a b e2 (namesOf_mem (List.mem_append_left _ hj) ha)) (fun j hj a ha b cap hb => by
    obtain ⟨q, hq, rfl⟩ := List.mem_map.1 hj
    obtain ⟨i, hi, _⟩ := hasR_at (a7 q hq a ha)
    exact pt.cutR _ (List.mem_of_getElem? hi) (namesOf_mem (List.mem_append_right _ hj) ha) b cap hb)
  refine ⟨x, y, N1, t1, h1, h0', hy, a2, a3, a4, hS1, hp, a1, fun e f' y' ho wf N2 t2 h2 hN hS2 ht => ?_⟩
  obtain ⟨b1, b2, b3⟩ := backA_spec hx ho
  have hW : ∀ i, i ∉ W → i ∉ f'.sl.map (·.1) := fun i hi hm => hi (b2 i hm)
  have hback := back_SR (W := W) (t3 := t2) hs pt hS2 wf (σb := noRows L.f (sigF s L.f [])) (fun j a hja => by
    obtain ⟨c1, c2⟩ := noRows_at hja
    obtain ⟨a', b, e1, e2⟩ := a6 j c2
    rw [c1] at e1
    injection e1 with e1
    subst e1
    obtain ⟨i, hi⟩ := lkB_mem e2
    exact ⟨(hs.okH _ (List.mem_of_getElem? hi)).1, by rw [hN j c2, a1.o j a c1]⟩) b1 (fun _ _ => rfl) (fun i h1 h2 => by rw [ht i h2 h1, a4 i h2])
  refine ⟨_, _, ext_join s.c, Nat.le_add_right _ _, hback, fun i hi hn => ?_, fun i hi => by rw [ht i hi (hW i hi), a4 i hi], b3⟩
  show lkV (renA (backR (noRows L.f (sigF s L.f [])) s.c) (stS f'.sl y'.1) ++ junkA W s.A) i = .junk
  rcases stS_at f'.sl y'.1 (backR (noRows L.f (sigF s L.f [])) s.c) (junkA W s.A) i with ⟨_, k2⟩ | ⟨sh, z, k1, _, _⟩
  · rw [k2, junkA_at, if_pos hi]
  · exact absurd (List.mem_map.2 ⟨_, k1, rfl⟩) hn
theorem SR.restr {I : Ids} {N : Nm} {s : XS} {t : Nat → AV} {h h0 h0' : Heap} {M : List Nat} {Lr : List (Nat × ABlk)} (hs : SR I N s t h h0) (pt : Part I N { s with A := [] } M h h0 h0' Lr) : SR I N { s with H := keepB M s.H, F := dropB M s.H ++ s.F, R := keepR M s.R } t h h0' :=
  { heap := pt.hr.heap, okH := pt.hr.okH, okF := pt.hr.okF, okR := pt.hr.okR, slots := hs.slots, okA := hs.okA }
end
end Go.Lb
end
section
namespace Go.Lb.DX
open Go.Lb Go.Lb.DG
open Go.RowKit (Below)
def QOK (X : Cx) (n : Nat) (ro : List Nat) (g : Heap) (t : Nat → AV) (o : Oper) (v : AV) : Prop :=
  ∀ H, Sub g H → aopWp X n ro o ⟨t, H⟩ (fun s' => (∃ u, s'.t = puts t o.dst u ∧ Weak u v) ∧ Sub H s'.h) (fun _ _ => False)
def awpA (X : Cx) (n : Nat) (ro : List Nat) (ops : Array Oper) (g : Heap) : List Nat → (Nat → AV) → ((Nat → AV) → Prop) → Prop
  | [], t, K => K t
  | i :: r, t, K =>
    match ops[i]? with
    | none => False
    | some o =>
      match o.dst, guardOf ops t o with
      | some d, some b => (b = true → ∃ v, QOK X n ro g t o v ∧ awpA X n ro ops g r (upd t d v) K) ∧ (b = false → d < n ∧ awpA X n ro ops g r (upd t d undefV) K)
      | _, _ => False
def awpW (X : Cx) (n : Nat) (ro : List Nat) (ops : Array Oper) (g : Heap) (Q : AExit → St → Prop) (NW : Nat → List Nat → List Nat) : List Nat → (Nat → AV) → Heap → ((Nat → AV) → Heap → Prop) → Prop
  | [], t, h, K => K t h
  | i :: r, t, h, K =>
    match ops[i]? with
    | none => False
    | some o =>
      match guardOf ops t o with
      | none => False
      | some b =>
        (b = true → ∀ H, Sub h H → Sub g H → aopWp X n ro o ⟨t, H⟩ (fun s' => ∃ u v, s'.t = puts t o.dst u ∧ Weak u v ∧ Sub g s'.h ∧ (∀ i x, h i = none → H i = some x → s'.h i = some x) ∧ ∃ h1, Sub h1 s'.h ∧ (∀ i, h1 i ≠ none → H i ≠ none → h i ≠ none) ∧ awpA X n ro ops g (NW i r) (puts t o.dst v) fun t2 => awpW X n ro ops g Q NW r t2 h1 K) (fun v s' => ∀ t', Q (.panic v) ⟨t', s'.h⟩)) ∧
        (b = false → putK n o.dst undefV ⟨t, h⟩ fun s' => awpA X n ro ops g (NW i r) s'.t fun t2 => awpW X n ro ops g Q NW r t2 h K)
structure DrawFacts (ops : Array Oper) (k : Nat) (W F : List Nat) : Prop where
  size : k ≤ ops.size
  back : ∀ i o, ops[i]? = some o → ∀ e ∈ o.after, Region.binds .any e = true → e.on < i
  wlt : ∀ i ∈ W, i < k
  flt : ∀ i ∈ F, i < k
  wf : ∀ i ∈ W, i ∉ F
  chain : ∀ a b, a < W.length → b < a → isBefore (closB ops ops.size) (W.getD b 0) (W.getD a 0) = true
  tail : ∀ i, k ≤ i → i < ops.size → ∀ j, j < i → isBefore (closB ops ops.size) j i = true
  dst : ∀ i, i < k → i ∉ W → ∃ d, dstOf ops i = some d
  uniq : ∀ i j d, i < k → j < k → dstOf ops i = some d → dstOf ops j = some d → i = j
  deps : ∀ i j d, i < k → j < k → dstOf ops j = some d → d ∈ looks ops i → i ≠ j ∧ isBefore (closB ops ops.size) j i = true ∧ j ∉ F ∧ ∀ w ∈ W, isBefore (closB ops ops.size) w j = true → isBefore (closB ops ops.size) w i = true
theorem drawOKs_spec {ops : Array Oper} {k : Nat} {W F : List Nat} (h : drawOKs ops k W F = true) : DrawFacts ops k W F := by
  unfold drawOKs at h
  simp only [Bool.and_eq_true, decide_eq_true_eq, List.all_eq_true, List.mem_range, Bool.or_eq_true, Bool.not_eq_true', List.contains_eq_mem, decide_eq_false_iff_not] at h
  obtain ⟨⟨⟨⟨⟨⟨⟨h1, h2⟩, h3⟩, h4⟩, h5⟩, h6⟩, h7⟩, h8⟩ := h
  refine ⟨h1, ?_, h3, h4, h5, fun a b ha hb => h6 a ha b hb, fun i hk hi j hj => ?_, ?_, ?_, ?_⟩
  · intro i o ho e he hb
    unfold backB at h2
    simp only [List.all_eq_true, List.mem_range] at h2
    have hi : i < ops.size := (Array.getElem?_eq_some_iff.1 ho).1
    have := h2 i hi
    rw [ho] at this
    simp only [Option.map_some, Option.getD_some, List.all_eq_true, Bool.or_eq_true, Bool.not_eq_true', decide_eq_true_eq] at this
    rcases this e (by simpa using he) with h | h
    · rw [hb] at h; cases h
    · exact h
  · rcases h7 i hi with h | h
    · omega
    · exact h j hj
  · intro i hi hw
    rcases (h8 i hi).1 with h | h
    · exact absurd h hw
    · exact Option.isSome_iff_exists.1 h
  · intro i j d hi hj hdi hdj
    have := (h8 i hi).2 j hj
    rw [hdj] at this
    simp only [Bool.and_eq_true, Bool.or_eq_true, beq_iff_eq, bne_iff_ne] at this
    rcases this.1 with h | h
    · exact h
    · exact absurd hdi h
  · intro i j d hi hj hdj hl
    have := (h8 i hi).2 j hj
    rw [hdj] at this
    simp only [Bool.and_eq_true, Bool.or_eq_true, beq_iff_eq, bne_iff_ne, Bool.not_eq_true', decide_eq_false_iff_not, decide_eq_true_eq, List.all_eq_true] at this
    rcases this.2 with h | h
    · exact absurd hl h
    · refine ⟨h.1.1.1, h.1.1.2, h.1.2, fun w hw hb => ?_⟩
      rcases h.2 w hw with h' | h'
      · rw [hb] at h'; cases h'
      · exact h'
theorem before_lt {ops : Array Oper} {k : Nat} {W F : List Nat} (hF : DrawFacts ops k W F) {i j : Nat} (hi : i < ops.size) (h : isBefore (closB ops ops.size) j i = true) : j < i := by
  have hcl : Closed ops (· < i) := fun a o' ha hp e he hb => Nat.lt_trans (hF.back a o' ha e he hb) hp
  exact before_done hcl (Array.getElem?_eq_getElem hi) (fun e he hb => hF.back i _ (Array.getElem?_eq_getElem hi) e he hb) h
theorem foldl_mono {ops : Array Oper} {l : List Nat} {j : Nat} : ∀ (es : List Edge) (s : Nat), s.testBit j = true → (es.foldl (fun s e => if Region.binds .any e then s ||| (2 ^ e.on) ||| l.getD e.on 0 else s) s).testBit j = true
  | [], s, h => h
  | e :: es, s, h => by
    refine foldl_mono (ops := ops) es _ ?_
    dsimp only
    split
    · simp only [Nat.testBit_or, h, Bool.true_or]
    · exact h
theorem foldl_has {ops : Array Oper} {l : List Nat} {j : Nat} : ∀ (es : List Edge) (s : Nat), (∃ e ∈ es, Region.binds .any e = true ∧ (e.on = j ∨ (l.getD e.on 0).testBit j = true)) → (es.foldl (fun s e => if Region.binds .any e then s ||| (2 ^ e.on) ||| l.getD e.on 0 else s) s).testBit j = true
  | [], s, ⟨e, he, _⟩ => by cases he
  | e :: es, s, ⟨e', he, hb, h⟩ => by
    simp only [List.foldl_cons]
    rcases List.mem_cons.1 he with rfl | he
    · refine foldl_mono (ops := ops) es _ ?_
      rw [if_pos hb]
      rcases h with h | h
      · subst h
        simp only [Nat.testBit_or, Nat.testBit_two_pow_self, Bool.or_true, Bool.true_or]
      · simp only [Nat.testBit_or, h, Bool.or_true]
    · exact foldl_has (ops := ops) es _ ⟨e', he, hb, h⟩
theorem foldl_inv {l : List Nat} {j : Nat} : ∀ (es : List Edge) (s : Nat), (es.foldl (fun s e => if Region.binds .any e then s ||| (2 ^ e.on) ||| l.getD e.on 0 else s) s).testBit j = true → s.testBit j = true ∨ ∃ e ∈ es, Region.binds .any e = true ∧ (e.on = j ∨ (l.getD e.on 0).testBit j = true)
  | [], s, h => .inl h
  | e :: es, s, h => by
    simp only [List.foldl_cons] at h
    rcases foldl_inv es _ h with h | ⟨e', he, hb, h⟩
    · split at h
      · rename_i hb
        simp only [Nat.testBit_or, Bool.or_eq_true] at h
        rcases h with (h | h) | h
        · exact .inl h
        · rw [Nat.testBit_two_pow] at h
          exact .inr ⟨e, by simp, hb, .inl (by simpa using h)⟩
        · exact .inr ⟨e, by simp, hb, .inr h⟩
      · exact .inl h
    · exact .inr ⟨e', by simp [he], hb, h⟩
theorem closB_get {ops : Array Oper} {i : Nat} : ∀ {m : Nat}, i < m → (closB ops m).getD i 0 = maskB (closB ops i) (ops.getD i default)
  | 0, h => by omega
  | m + 1, h => by
    simp only [closB]
    rw [List.getD_eq_getElem?_getD]
    by_cases him : i < m
    · rw [List.getElem?_append_left (by rw [closB_length]; exact him), ← List.getD_eq_getElem?_getD]
      exact closB_get him
    · have : i = m := by omega
      subst this
      rw [List.getElem?_append_right (by rw [closB_length]; exact Nat.le_refl _)]
      simp only [closB_length, Nat.sub_self, List.getElem?_cons_zero, Option.getD_some]
theorem before_trans {ops : Array Oper} {k : Nat} {W F : List Nat} (hF : DrawFacts ops k W F) {a b : Nat} (h1 : isBefore (closB ops ops.size) a b = true) : ∀ (j : Nat), j < ops.size → isBefore (closB ops ops.size) b j = true → isBefore (closB ops ops.size) a j = true := by
  intro j
  induction j using Nat.strongRecOn with
  | _ j ih =>
    intro hj h2
    unfold isBefore at h2 ⊢
    rw [closB_get hj] at h2 ⊢
    unfold maskB at h2 ⊢
    have ho : ops[j]? = some (ops.getD j default) := by
      rw [Array.getD_eq_getD_getElem?, Array.getElem?_eq_getElem hj]
      rfl
    rcases foldl_inv _ _ h2 with h2 | ⟨e, he, hb, h2⟩
    · simp at h2
    · have hlt := hF.back j _ ho e (by simpa using he) hb
      refine foldl_has (ops := ops) _ _ ⟨e, he, hb, .inr ?_⟩
      have e1 : (closB ops j).getD e.on 0 = (closB ops ops.size).getD e.on 0 := by rw [closB_get hlt, closB_get (Nat.lt_trans hlt hj)]
      rw [e1] at h2 ⊢
      rcases h2 with h2 | h2
      · rw [h2]; exact h1
      · exact ih e.on hlt (Nat.lt_trans hlt hj) h2
theorem before_closed {ops : Array Oper} {p : Nat → Prop} (hc : Closed ops p) {i j : Nat} (hi : p i) (h : isBefore (closB ops ops.size) j i = true) : p j := closB_spec hc ops.size (Nat.le_refl _) i j hi h
theorem QOK.congr {X : Cx} {n : Nat} {ro : List Nat} {g : Heap} {t1 t2 : Nat → AV} {o : Oper} {v : AV} (ha : EvAgree X t1 t2 o.op) (h : QOK X n ro g t1 o v) : QOK X n ro g t2 o v := by
  intro H hH
  refine aopWp_congr ha (h H hH) ?_ (fun _ _ hf => hf)
  intro u h' hp
  unfold putK at hp ⊢
  cases hd : o.dst with
  | none =>
    rw [hd] at hp
    simp only at hp ⊢
    obtain ⟨⟨u', _, hw⟩, h2⟩ := hp
    exact ⟨⟨u', rfl, hw⟩, h2⟩
  | some d =>
    rw [hd] at hp
    simp only at hp ⊢
    split
    · rename_i hdn
      rw [if_pos hdn] at hp
      obtain ⟨⟨u', h1, hw⟩, h2⟩ := hp
      refine ⟨⟨u, rfl, ?_⟩, h2⟩
      simp only [puts] at h1
      have : u = u' := by
        have := congrFun h1 d
        simpa [upd] using this
      rw [this]
      exact hw
    · rename_i hdn
      rw [if_neg hdn] at hp
      exact hp
def AFact (X : Cx) (n : Nat) (ro : List Nat) (ops : Array Oper) (g : Heap) (t1 : Nat → AV) (i : Nat) : Prop :=
  ∃ o d b, ops[i]? = some o ∧ o.dst = some d ∧ guardOf ops t1 o = some b ∧ (b = true → QOK X n ro g t1 o (t1 d)) ∧ (b = false → d < n ∧ t1 d = undefV)
theorem AFact.keep {X : Cx} {n : Nat} {ro : List Nat} {ops : Array Oper} {g : Heap} {t t2 : Nat → AV} {i : Nat} (h : AFact X n ro ops g t i) (h1 : ∀ d ∈ looks ops i, t d = t2 d) (h2 : ∀ d, dstOf ops i = some d → t d = t2 d) : AFact X n ro ops g t2 i := by
  obtain ⟨o, d, b, a1, a2, a3, a4, a5⟩ := h
  obtain ⟨ha, hgd⟩ := agree_of_looks (X := X) a1 h1
  have hd := h2 d (by simp [dstOf, a1, a2])
  exact ⟨o, d, b, a1, a2, by rw [← hgd]; exact a3, fun hb => by rw [← hd]; exact (a4 hb).congr ha, fun hb => by rw [← hd]; exact a5 hb⟩
theorem awpA_spec {X : Cx} {n : Nat} {ro : List Nat} {ops : Array Oper} {g : Heap} {k : Nat} {W F : List Nat} (hF : DrawFacts ops k W F) {K : (Nat → AV) → Prop} : ∀ (l done : List Nat) (t : Nat → AV), l.Pairwise (· < ·) → (∀ i ∈ done ++ l, i ∈ aIdx k W F) → (∀ j ∈ done, ∀ i ∈ l, j ≠ i ∧ isBefore (closB ops ops.size) i j = false) → (∀ i ∈ done, AFact X n ro ops g t i) →
    awpA X n ro ops g l t K → ∃ t1, K t1 ∧ (∀ j, (∀ i ∈ l, dstOf ops i ≠ some j) → t1 j = t j) ∧ ∀ i ∈ done ++ l, AFact X n ro ops g t1 i
  | [], done, t, hpw, hm, hs, hd, h => ⟨t, h, fun _ _ => rfl, fun i hi => hd i (by simpa using hi)⟩
  | i :: r, done, t, hpw, hm, hs, hd, h => by
    obtain ⟨hik, hiW, hiF⟩ := mem_aIdx.1 (hm i (by simp))
    unfold awpA at h
    split at h
    · exact h.elim
    · rename_i o ho
      have hisz : i < ops.size := (Array.getElem?_eq_some_iff.1 ho).1
      split at h
      · rename_i d b hdst hg
        have hdo : dstOf ops i = some d := by simp [dstOf, ho, hdst]
        have hnl : ∀ j ∈ done ++ [i], d ∉ looks ops j := by
          intro j hj hlk
          have hjm : j ∈ aIdx k W F := hm j (by simp at hj ⊢; rcases hj with h | h; exact .inl h; exact .inr (.inl h))
          obtain ⟨hne, hbef, _⟩ := hF.deps j i d (mem_aIdx.1 hjm).1 hik hdo hlk
          rcases List.mem_append.1 hj with hjd | hji
          · have := (hs j hjd i (by simp)).2
            rw [hbef] at this
            cases this
          · simp at hji; exact hne hji
        have step : ∀ v, AFact X n ro ops g (upd t d v) i → (∀ j ∈ done ++ [i], AFact X n ro ops g (upd t d v) j) := by
          intro v hi j hj
          rcases List.mem_append.1 hj with hjd | hji
          · refine (hd j hjd).keep (fun x hx => ?_) (fun dj hdj => ?_)
            · rw [upd_ne]
              rintro rfl
              exact hnl j (by simp [hjd]) hx
            · rw [upd_ne]
              rintro rfl
              exact (hs j hjd i (by simp)).1 (hF.uniq j i dj (mem_aIdx.1 (hm j (by simp [hjd]))).1 hik hdj hdo)
          · simp at hji; subst hji; exact hi
        have hag : ∀ v, EvAgree X t (upd t d v) o.op ∧ guardOf ops t o = guardOf ops (upd t d v) o := fun v => agree_of_looks ho (fun x hx => by
          rw [upd_ne]
          rintro rfl
          exact hnl i (by simp) hx)
        have fin : ∀ v, AFact X n ro ops g (upd t d v) i → awpA X n ro ops g r (upd t d v) K → ∃ t1, K t1 ∧ (∀ j, (∀ i' ∈ i :: r, dstOf ops i' ≠ some j) → t1 j = t j) ∧ ∀ i' ∈ done ++ i :: r, AFact X n ro ops g t1 i' := by
          intro v hi hr
          obtain ⟨t1, k1, k2, k3⟩ := awpA_spec hF r (done ++ [i]) (upd t d v) (List.pairwise_cons.1 hpw).2 (by simpa using hm) (fun j hj i' hi' => by
            have hlt : i < i' := (List.pairwise_cons.1 hpw).1 i' hi'
            rcases List.mem_append.1 hj with hjd | hji
            · exact hs j hjd i' (by simp [hi'])
            · simp at hji
              subst hji
              refine ⟨by omega, ?_⟩
              cases hb : isBefore (closB ops ops.size) i' j with
              | false => rfl
              | true => have := before_lt hF hisz hb; omega) (step v hi) hr
          refine ⟨t1, k1, fun j hj => ?_, by simpa using k3⟩
          rw [k2 j (fun i' hi' => hj i' (by simp [hi']))]
          exact upd_ne _ _ (fun e => hj i (by simp) (by rw [hdo, e]))
        cases b with
        | true =>
          obtain ⟨v, hq, hr⟩ := h.1 rfl
          refine fin v ⟨o, d, true, ho, hdst, by rw [← (hag v).2]; exact hg, fun _ => ?_, fun hb => by cases hb⟩ hr
          rw [upd_same]
          exact hq.congr (hag v).1
        | false =>
          obtain ⟨hdn, hr⟩ := h.2 rfl
          exact fin undefV ⟨o, d, false, ho, hdst, by rw [← (hag undefV).2]; exact hg, fun hb => (by cases hb), fun _ => ⟨hdn, upd_same _ _ _⟩⟩ hr
      · exact h.elim
section
variable {X : Cx} {n : Nat} {ro : List Nat} {ops : Array Oper} {g : Heap} {Q : AExit → St → Prop} {k : Nat} {W F : List Nat} {t0 : Nat → AV} {fz0 : Fz} {w0 : World}
def K3 (X : Cx) (n : Nat) (ro : List Nat) (ops : Array Oper) (g : Heap) (Q : AExit → St → Prop) (k : Nat) : (Nat → AV) → Heap → Prop := fun t3 h3 => WSO X n ops Q k ⟨t3, h3⟩
structure DI (X : Cx) (n : Nat) (ro : List Nat) (ops : Array Oper) (g : Heap) (Q : AExit → St → Prop) (k : Nat) (W F : List Nat) (t0 : Nat → AV) (fz0 : Fz) (w0 : World) (listed : Array Bool) (fz : Fz) (w : World) (a : Act) (Wd Wr : List Nat) (tr : Nat → AV) (hr H : Heap) (bF : Nat → Nat) : Prop where
  split : W = Wd ++ Wr
  done : ∀ i ∈ Wd, LB listed i = true
  open_ : ∀ i ∈ Wr, LB listed i = false
  rest : awpW X n ro ops g Q (newS (closB ops ops.size) k W F) Wr tr hr fun t2 h2 => awpF X n ops F t2 h2 (K3 X n ro ops g Q k)
  kn : ∀ i ∈ aIdx k W F, knownB (closB ops ops.size) Wr i = true → AFact X n ro ops g tr i
  subr : Sub hr H
  subg : Sub g H
  st : ASt X n fz w ⟨curT ops k W F (LB listed) t0 tr bF, H⟩ a
  fblk : ∀ i ∈ F, LB listed i = true → ∀ d cs E, allocOf X n ops i = some (d, cs, E) → H (bF d) = some (.cells cs E) ∧ hr (bF d) = none
  finj : ∀ i ∈ F, ∀ j ∈ F, LB listed i = true → LB listed j = true → i ≠ j → ∀ d e, dstOf ops i = some d → dstOf ops j = some e → bF d ≠ bF e
  tail : ∀ i, k ≤ i → LB listed i = false
  closed : Closed ops (fun i => LB listed i = true)
  size : listed.size = ops.size
  evo : Evo X.B fz0 w0 fz w
theorem looks_ready {listed : Array Bool} (hF : DrawFacts ops k W F) (hc : Closed ops (fun i => LB listed i = true)) {i : Nat} {o : Oper} (hik : i < k) (ho : ops[i]? = some o) (hd : ∀ e ∈ o.after, Region.binds .any e = true → LB listed e.on = true) {tr : Nat → AV} {bF : Nat → Nat} :
    ∀ d ∈ looks ops i, curT ops k W F (LB listed) t0 tr bF d = tr d ∧ ∀ j, j < k → dstOf ops j = some d → LB listed j = true ∧ j ∉ F := by
  intro d hdl
  have key : ∀ j, j < k → dstOf ops j = some d → LB listed j = true ∧ j ∉ F := by
    intro j hj hdj
    obtain ⟨_, h1, h2, _⟩ := hF.deps i j d hik hj hdj hdl
    exact ⟨before_done hc ho hd h1, h2⟩
  refine ⟨?_, key⟩
  unfold curT
  rw [if_neg, if_neg]
  · rintro ⟨j, hj, hdj, _⟩
    exact (key j (hF.flt j hj) hdj).2 hj
  · rintro ⟨j, hj, hdj, hl⟩
    rw [(key j (mem_aIdx.1 hj).1 hdj).1] at hl
    cases hl
theorem stepA (hX : X.OK) (hF : DrawFacts ops k W F) {listed : Array Bool} {fz : Fz} {w : World} {a : Act} {Wd Wr : List Nat} {tr : Nat → AV} {hr H : Heap} {bF : Nat → Nat} (D : DI X n ro ops g Q k W F t0 fz0 w0 listed fz w a Wd Wr tr hr H bF)
    {i : Nat} {o : Oper} (hi : i ∈ aIdx k W F) (ho : ops[i]? = some o) (hl : LB listed i = false) (hd : ∀ e ∈ o.after, Region.binds .any e = true → LB listed e.on = true) {Qc : Exit → Act → World → Prop} :
    wpOp X.P ops Qc i (fun a' w' => ∃ fz' H', DI X n ro ops g Q k W F t0 fz0 w0 (listed.setIfInBounds i true) fz' w' a' Wd Wr tr hr H' bF) a w := by
  obtain ⟨hik, hiW, hiF⟩ := mem_aIdx.1 hi
  have hisz : i < listed.size := by rw [D.size]; exact (Array.getElem?_eq_some_iff.1 ho).1
  obtain ⟨o', d, b, ho', hdst, hg, hq, hu⟩ := D.kn i hi (List.all_eq_true.2 fun w hw => by
    cases hb : isBefore (closB ops ops.size) w i with
    | false => rfl
    | true => have := before_done D.closed ho hd hb; rw [D.open_ w hw] at this; cases this)
  rw [ho] at ho'
  injection ho' with ho'
  subst ho'
  have hdo : dstOf ops i = some d := by simp [dstOf, ho, hdst]
  have hlook := looks_ready (t0 := t0) (tr := tr) (bF := bF) hF D.closed hik ho hd
  obtain ⟨hag, hgd⟩ := agree_of_looks (X := X) ho (t1 := tr) (t2 := curT ops k W F (LB listed) t0 tr bF) (fun x hx => ((hlook x hx).1).symm)
  have hcur : curT ops k W F (LB (listed.setIfInBounds i true)) t0 tr bF = upd (curT ops k W F (LB listed) t0 tr bF) d (tr d) := by
    funext j
    by_cases hj : j = d
    · subst hj
      rw [upd_same]
      unfold curT
      rw [if_neg, if_neg]
      · rintro ⟨i', hi', hd', _⟩
        have := hF.uniq i i' j hik (hF.flt i' hi') hdo hd'
        subst this
        exact hiF hi'
      · rintro ⟨i', hi', hd', hl'⟩
        have := hF.uniq i i' j hik (mem_aIdx.1 hi').1 hdo hd'
        subst this
        rw [LB_set hisz, if_pos rfl] at hl'
        cases hl'
    · rw [upd_ne _ _ hj]
      exact curT_other hdo (fun j' hj' => by rw [LB_set hisz, if_neg hj']) (fun _ _ => rfl) (fun _ _ => rfl) hj
  have fin : ∀ (H' : Heap) (fz' : Fz) (w' : World) (a' : Act), Sub H H' → ASt X n fz' w' ⟨upd (curT ops k W F (LB listed) t0 tr bF) d (tr d), H'⟩ a' → Evo X.B fz w fz' w' →
      DI X n ro ops g Q k W F t0 fz0 w0 (listed.setIfInBounds i true) fz' w' a' Wd Wr tr hr H' bF := by
    intro H' fz' w' a' hsub hst hev
    refine ⟨D.split, fun j hj => ?_, fun j hj => ?_, D.rest, D.kn, D.subr.trans hsub, D.subg.trans hsub, by rw [hcur]; exact hst, fun j hj hlj d' cs E hal => ?_, fun j hj j' hj' h1 h2 => ?_, fun j hj => ?_, closed_set hisz ho hd D.closed, by simp [D.size], D.evo.trans hev⟩
    · rw [LB_set hisz]; split; rfl; exact D.done j hj
    · rw [LB_set hisz, if_neg]
      · exact D.open_ j hj
      · rintro rfl; exact hiW (by rw [D.split]; simp [hj])
    · rw [LB_set hisz, if_neg (by rintro rfl; exact hiF hj)] at hlj
      obtain ⟨h1, h2⟩ := D.fblk j hj hlj d' cs E hal
      exact ⟨hsub _ _ h1, h2⟩
    · rw [LB_set hisz, if_neg (by rintro rfl; exact hiF hj)] at h1
      rw [LB_set hisz, if_neg (by rintro rfl; exact hiF hj')] at h2
      exact D.finj j hj j' hj' h1 h2
    · rw [LB_set hisz, if_neg (by omega)]; exact D.tail j hj
  unfold wpOp
  rw [ho]
  simp only
  have hw := wanted_of_guard D.st.slots (hgd ▸ hg)
  rw [hw]
  cases b with
  | true =>
    simp only [if_true]
    refine .inl ?_
    have hq' := (hq rfl).congr hag H D.subg
    have := aopWp_sound (Q := Qc) hX D.st hq' (fun _ _ _ _ _ hf => hf.elim)
    refine Oper.wp_mono (fun a' w' hn => ?_) this
    obtain ⟨s', fz', ⟨hk1, hk2⟩, hs', he'⟩ := hn
    obtain ⟨u, hk1, hkw⟩ := hk1
    rw [hdst] at hk1
    simp only [puts] at hk1
    refine ⟨fz', s'.h, fin s'.h fz' w' a' hk2 ?_ he'⟩
    have e : s' = ⟨upd (curT ops k W F (LB listed) t0 tr bF) d u, s'.h⟩ := by rw [← hk1]
    rw [e] at hs'
    refine hs'.weak (fun j => ?_) (Sub.refl _)
    unfold upd
    split
    · exact hkw
    · exact Weak.refl _
  | false =>
    simp only [Bool.false_eq_true, if_false]
    obtain ⟨hdn, hu'⟩ := hu rfl
    refine ⟨fz, H, fin H fz w _ (Sub.refl _) ?_ (Evo.refl _ _ _)⟩
    rw [hu', hdst]
    refine ⟨D.st.rel, by simp [Act.put, D.st.size], fun j => ?_, D.st.glob, D.st.defers⟩
    simp only [Act.put]
    rw [getD_set _ _ _ _ (by rw [D.st.size]; exact hdn)]
    unfold upd
    split
    · exact rel_undef _ _
    · exact D.st.slots j
end
section
variable {X : Cx} {n : Nat} {ro : List Nat} {ops : Array Oper} {g : Heap} {Q : AExit → St → Prop} {k : Nat} {W F : List Nat} {t0 : Nat → AV} {fz0 : Fz} {w0 : World}
theorem stepF (hX : X.OK) (hF : DrawFacts ops k W F) (hAl : ∀ i ∈ F, (allocOf X n ops i).isSome = true) {listed : Array Bool} {fz : Fz} {w : World} {a : Act} {Wd Wr : List Nat} {tr : Nat → AV} {hr H : Heap} {bF : Nat → Nat} (D : DI X n ro ops g Q k W F t0 fz0 w0 listed fz w a Wd Wr tr hr H bF)
    {i : Nat} {o : Oper} (hi : i ∈ F) (ho : ops[i]? = some o) (hl : LB listed i = false) (hd : ∀ e ∈ o.after, Region.binds .any e = true → LB listed e.on = true) {Qc : Exit → Act → World → Prop} :
    wpOp X.P ops Qc i (fun a' w' => ∃ fz' H' bF', DI X n ro ops g Q k W F t0 fz0 w0 (listed.setIfInBounds i true) fz' w' a' Wd Wr tr hr H' bF') a w := by
  have hik := hF.flt i hi
  have hiW : i ∉ W := fun h => hF.wf i h hi
  have hisz : i < listed.size := by rw [D.size]; exact (Array.getElem?_eq_some_iff.1 ho).1
  obtain ⟨⟨d, cs, E⟩, hal⟩ := Option.isSome_iff_exists.1 (hAl i hi)
  obtain ⟨hdo, hdn⟩ := alloc_dst hal
  obtain ⟨hdst, hop, hgn, ti, hti, hcs⟩ := allocOf_op ho hal
  unfold wpOp
  rw [ho]
  simp only
  have hw : Region.wanted o (yielded ops a.tmps) = true := by simp [Region.wanted, hgn]
  rw [hw]
  simp only [if_true]
  refine .inl ?_
  have hq : aopWp X n ro o ⟨curT ops k W F (LB listed) t0 tr bF, H⟩ (fun s' => ∃ b, H b = none ∧ s' = ⟨upd (curT ops k W F (LB listed) t0 tr bF) d (.ptr b 0), hset H b (.cells cs E)⟩) (fun _ _ => False) := by
    unfold aopWp
    rw [hop]
    simp only [hti, hcs]
    intro b hb
    simp only [putK, hdst, hdn, if_true]
    exact ⟨b, hb, rfl⟩
  have := aopWp_sound (Q := Qc) hX D.st hq (fun _ _ _ _ _ hf => hf.elim)
  refine Oper.wp_mono (fun a' w' hn => ?_) this
  obtain ⟨s', fz', ⟨b, hb, rfl⟩, hs', he'⟩ := hn
  have hsub : Sub H (hset H b (.cells cs E)) := Sub.hset_new hb
  have hcur : curT ops k W F (LB (listed.setIfInBounds i true)) t0 tr (fun j => if j = d then b else bF j) = upd (curT ops k W F (LB listed) t0 tr bF) d (.ptr b 0) := by
    funext j
    by_cases hj : j = d
    · subst hj
      rw [upd_same]
      unfold curT
      rw [if_neg, if_pos]
      · simp
      · exact ⟨i, hi, hdo, by rw [LB_set hisz, if_pos rfl]⟩
      · rintro ⟨i', hi', hd', hl'⟩
        have := hF.uniq i i' j hik (mem_aIdx.1 hi').1 hdo hd'
        subst this
        exact (mem_aIdx.1 hi').2.2 hi
    · rw [upd_ne _ _ hj]
      exact curT_other hdo (fun j' hj' => by rw [LB_set hisz, if_neg hj']) (fun _ _ => rfl) (fun j' hj' => by rw [if_neg hj']) hj
  have hd_ne : ∀ j ∈ F, j ≠ i → ∀ d', dstOf ops j = some d' → d' ≠ d := by
    rintro j hj hne d' hd' rfl
    exact hne (hF.uniq j i d' (hF.flt j hj) hik hd' hdo)
  refine ⟨fz', hset H b (.cells cs E), fun j => if j = d then b else bF j, D.split, fun j hj => ?_, fun j hj => ?_, D.rest, D.kn, D.subr.trans hsub, D.subg.trans hsub, by rw [hcur]; exact hs', fun j hj hlj d' cs' E' hal' => ?_, fun j hj j' hj' h1 h2 hne d1 d2 hd1 hd2 => ?_, fun j hj => ?_, closed_set hisz ho hd D.closed, by simp [D.size], D.evo.trans he'⟩
  · rw [LB_set hisz]; split; rfl; exact D.done j hj
  · rw [LB_set hisz, if_neg]
    · exact D.open_ j hj
    · rintro rfl; exact hiW (by rw [D.split]; simp [hj])
  · by_cases hji : j = i
    · subst hji
      rw [hal] at hal'
      simp only [Option.some.injEq, Prod.mk.injEq] at hal'
      obtain ⟨rfl, rfl, rfl⟩ := hal'
      simp only [if_true]
      refine ⟨hset_same _ _ _, ?_⟩
      cases hx : hr b with
      | none => rfl
      | some x => have := D.subr b x hx; rw [hb] at this; cases this
    · rw [LB_set hisz, if_neg hji] at hlj
      obtain ⟨h1, h2⟩ := D.fblk j hj hlj d' cs' E' hal'
      have := hd_ne j hj hji d' (alloc_dst hal').1
      simp only [if_neg this]
      exact ⟨hsub _ _ h1, h2⟩
  · rw [LB_set hisz] at h1 h2
    by_cases e1 : j = i
    · subst e1
      have e2 : j' ≠ j := fun e => hne e.symm
      rw [if_neg e2] at h2
      have hd2' := hd_ne j' hj' e2 d2 hd2
      have hd1' : d1 = d := by rw [hdo] at hd1; injection hd1 with hd1; exact hd1.symm
      simp only [hd1', if_true, if_neg hd2']
      obtain ⟨⟨dd, cc, EE⟩, hal2⟩ := Option.isSome_iff_exists.1 (hAl j' hj')
      have hdd : dd = d2 := by have := (alloc_dst hal2).1; rw [hd2] at this; injection this with this; exact this.symm
      subst hdd
      obtain ⟨h3, _⟩ := D.fblk j' hj' h2 dd cc EE hal2
      intro e
      rw [← e, hb] at h3
      cases h3
    · rw [if_neg e1] at h1
      have hd1' := hd_ne j hj e1 d1 hd1
      by_cases e2 : j' = i
      · subst e2
        have hd2' : d2 = d := by rw [hdo] at hd2; injection hd2 with hd2; exact hd2.symm
        simp only [hd2', if_true, if_neg hd1']
        obtain ⟨⟨dd, cc, EE⟩, hal2⟩ := Option.isSome_iff_exists.1 (hAl j hj)
        have hdd : dd = d1 := by have := (alloc_dst hal2).1; rw [hd1] at this; injection this with this; exact this.symm
        subst hdd
        obtain ⟨h3, _⟩ := D.fblk j hj h1 dd cc EE hal2
        intro e
        rw [e, hb] at h3
        cases h3
      · rw [if_neg e2] at h2
        have hd2' := hd_ne j' hj' e2 d2 hd2
        simp only [if_neg hd1', if_neg hd2']
        exact D.finj j hj j' hj' h1 h2 hne d1 d2 hd1 hd2
  · rw [LB_set hisz, if_neg (by omega)]; exact D.tail j hj
theorem newS_spec {c : List Nat} {i : Nat} {r : List Nat} {j : Nat} (h : j ∈ newS c k W F i r) : j ∈ aIdx k W F ∧ isBefore c i j = true := by
  unfold newS at h
  rw [List.mem_filter] at h
  refine ⟨h.1, ?_⟩
  have h2 := h.2
  simp only [knownB, List.all_cons, Bool.and_eq_true, Bool.not_eq_true', Bool.and_eq_false_iff, Bool.not_eq_false'] at h2
  rcases h2.2 with h3 | h3
  · exact h3
  · rw [h2.1] at h3; cases h3
theorem newS_pw {c : List Nat} {i : Nat} {r : List Nat} : (newS c k W F i r).Pairwise (· < ·) := List.Pairwise.filter _ (List.Pairwise.filter _ List.pairwise_lt_range)
theorem stepW (hX : X.OK) (hF : DrawFacts ops k W F) {listed : Array Bool} {fz : Fz} {w : World} {a : Act} {Wd Wr : List Nat} {tr : Nat → AV} {hr H : Heap} {bF : Nat → Nat} {i : Nat} (D : DI X n ro ops g Q k W F t0 fz0 w0 listed fz w a Wd (i :: Wr) tr hr H bF)
    (hnd : W.Nodup) {o : Oper} (ho : ops[i]? = some o) (hl : LB listed i = false) (hd : ∀ e ∈ o.after, Region.binds .any e = true → LB listed e.on = true) :
    wpOp X.P ops (CPost X n Q fz0 w0) i (fun a' w' => ∃ fz' tr' hr' H', DI X n ro ops g Q k W F t0 fz0 w0 (listed.setIfInBounds i true) fz' w' a' (Wd ++ [i]) Wr tr' hr' H' bF) a w := by
  have hiW : i ∈ W := by rw [D.split]; simp
  have hik := hF.wlt i hiW
  have hiF := hF.wf i hiW
  have hisz : i < listed.size := by rw [D.size]; exact (Array.getElem?_eq_some_iff.1 ho).1
  have hlook := looks_ready (t0 := t0) (tr := tr) (bF := bF) hF D.closed hik ho hd
  obtain ⟨hag, hgd⟩ := agree_of_looks (X := X) ho (t1 := tr) (t2 := curT ops k W F (LB listed) t0 tr bF) (fun x hx => ((hlook x hx).1).symm)
  have hrest := D.rest
  unfold awpW at hrest
  rw [ho] at hrest
  simp only at hrest
  have hne : ∀ j, j ∈ aIdx k W F → j ≠ i := fun j hj e => (mem_aIdx.1 hj).2.1 (e ▸ hiW)
  have hnl : ∀ j ∈ newS (closB ops ops.size) k W F i Wr, LB listed j = false := by
    intro j hj
    cases hb : LB listed j with
    | false => rfl
    | true =>
      have := before_closed D.closed (i := j) hb (newS_spec hj).2
      rw [hl] at this
      cases this
  split at hrest
  · exact hrest.elim
  · rename_i b hg
    have hw := wanted_of_guard D.st.slots (hgd ▸ hg)
    have hcur : ∀ v t2, (∀ j, (∀ q ∈ newS (closB ops ops.size) k W F i Wr, dstOf ops q ≠ some j) → t2 j = puts tr o.dst v j) → curT ops k W F (LB (listed.setIfInBounds i true)) t0 t2 bF = puts (curT ops k W F (LB listed) t0 tr bF) o.dst v := by
      intro v t2 ht2
      funext j
      by_cases hj : o.dst = some j
      · have hdo : dstOf ops i = some j := by simp [dstOf, ho, hj]
        have e1 : puts (curT ops k W F (LB listed) t0 tr bF) o.dst v j = v := by rw [hj]; exact upd_same _ _ _
        rw [e1]
        unfold curT
        rw [if_neg, if_neg]
        · rw [ht2 j, hj]
          · exact upd_same _ _ _
          · intro q hq hdq
            have := hF.uniq q i j (mem_aIdx.1 (newS_spec hq).1).1 hik hdq hdo
            exact hne q (newS_spec hq).1 this
        · rintro ⟨i', hi', hd', _⟩
          have := hF.uniq i i' j hik (hF.flt i' hi') hdo hd'
          subst this
          exact hiF hi'
        · rintro ⟨i', hi', hd', hl'⟩
          have := hF.uniq i i' j hik (mem_aIdx.1 hi').1 hdo hd'
          subst this
          exact (mem_aIdx.1 hi').2.1 hiW
      · have e1 : ∀ f : Nat → AV, puts f o.dst v j = f j := by
          intro f
          cases hdd : o.dst with
          | none => rfl
          | some d => exact upd_ne _ _ (fun e => hj (by rw [hdd, e]))
        rw [e1]
        unfold curT
        have hdi : dstOf ops i ≠ some j := by
          intro e
          apply hj
          simpa [dstOf, ho] using e
        have h1 : (∃ i', i' ∈ aIdx k W F ∧ dstOf ops i' = some j ∧ LB (listed.setIfInBounds i true) i' = false) ↔ (∃ i', i' ∈ aIdx k W F ∧ dstOf ops i' = some j ∧ LB listed i' = false) := by
          constructor
          · rintro ⟨i', a1, a2, a3⟩
            rw [LB_set hisz, if_neg (hne i' a1)] at a3
            exact ⟨i', a1, a2, a3⟩
          · rintro ⟨i', a1, a2, a3⟩
            exact ⟨i', a1, a2, by rw [LB_set hisz, if_neg (hne i' a1)]; exact a3⟩
        have h2 : (∃ i', i' ∈ F ∧ dstOf ops i' = some j ∧ LB (listed.setIfInBounds i true) i' = true) ↔ (∃ i', i' ∈ F ∧ dstOf ops i' = some j ∧ LB listed i' = true) := by
          constructor
          · rintro ⟨i', a1, a2, a3⟩
            rw [LB_set hisz, if_neg (by rintro rfl; exact hiF a1)] at a3
            exact ⟨i', a1, a2, a3⟩
          · rintro ⟨i', a1, a2, a3⟩
            exact ⟨i', a1, a2, by rw [LB_set hisz, if_neg (by rintro rfl; exact hiF a1)]; exact a3⟩
        by_cases hc1 : ∃ i', i' ∈ aIdx k W F ∧ dstOf ops i' = some j ∧ LB listed i' = false
        · rw [if_pos (h1.2 hc1), if_pos hc1]
        · rw [if_neg (fun h => hc1 (h1.1 h)), if_neg hc1]
          by_cases hc2 : ∃ i', i' ∈ F ∧ dstOf ops i' = some j ∧ LB listed i' = true
          · rw [if_pos (h2.2 hc2), if_pos hc2]
          · rw [if_neg (fun h => hc2 (h2.1 h)), if_neg hc2, ht2 j, e1]
            intro q hq hdq
            exact hc1 ⟨q, (newS_spec hq).1, hdq, hnl q hq⟩
    have fin : ∀ (v : AV) (h1 H' : Heap) (fz' : Fz) (w' : World) (a' : Act), awpA X n ro ops g (newS (closB ops ops.size) k W F i Wr) (puts tr o.dst v) (fun t2 => awpW X n ro ops g Q (newS (closB ops ops.size) k W F) Wr t2 h1 (fun t2 h2 => awpF X n ops F t2 h2 (K3 X n ro ops g Q k))) → Sub h1 H' → Sub g H' → (∀ i x, hr i = none → H i = some x → H' i = some x) → (∀ i, h1 i ≠ none → H i ≠ none → hr i ≠ none) →
        ASt X n fz' w' ⟨puts (curT ops k W F (LB listed) t0 tr bF) o.dst v, H'⟩ a' → Evo X.B fz w fz' w' → ∃ tr', DI X n ro ops g Q k W F t0 fz0 w0 (listed.setIfInBounds i true) fz' w' a' (Wd ++ [i]) Wr tr' h1 H' bF := by
      intro v h1 H' fz' w' a' hrest hsub hsubg hfr hdom hst hev
      have hnd' := hnd
      rw [D.split] at hnd'
      have hold : ∀ j ∈ knS (closB ops ops.size) k W F (i :: Wr), AFact X n ro ops g (puts tr o.dst v) j := by
        intro j hj
        obtain ⟨hj1, hj2⟩ := List.mem_filter.1 hj
        have hbi : isBefore (closB ops ops.size) i j = false := by
          have := List.all_eq_true.1 hj2 i (by simp)
          simpa using this
        refine (D.kn j hj1 hj2).keep (fun x hx => ?_) (fun dj hdj => ?_)
        · cases hdd : o.dst with
          | none => rfl
          | some d =>
            refine (upd_ne _ _ ?_).symm
            rintro rfl
            have := (hF.deps j i x (mem_aIdx.1 hj1).1 hik (by simp [dstOf, ho, hdd]) hx).2.1
            rw [hbi] at this; cases this
        · cases hdd : o.dst with
          | none => rfl
          | some d =>
            refine (upd_ne _ _ ?_).symm
            rintro rfl
            exact hne j hj1 (hF.uniq j i dj (mem_aIdx.1 hj1).1 hik hdj (by simp [dstOf, ho, hdd]))
      obtain ⟨t2, k1, k2, k3⟩ := awpA_spec hF (newS (closB ops ops.size) k W F i Wr) (knS (closB ops ops.size) k W F (i :: Wr)) (puts tr o.dst v) newS_pw (fun j hj => by
          rcases List.mem_append.1 hj with hj | hj
          · exact (List.mem_filter.1 hj).1
          · exact (newS_spec hj).1) (fun j hj q hq => by
          obtain ⟨hj1, hj2⟩ := List.mem_filter.1 hj
          obtain ⟨hq1, hq2⟩ := newS_spec hq
          have hbi : isBefore (closB ops ops.size) i j = false := by
            have := List.all_eq_true.1 hj2 i (by simp)
            simpa using this
          refine ⟨fun e => (by rw [e, hq2] at hbi; cases hbi), ?_⟩
          cases hb : isBefore (closB ops ops.size) q j with
          | false => rfl
          | true =>
            have := before_trans hF hq2 j (Nat.lt_of_lt_of_le (mem_aIdx.1 hj1).1 hF.size) hb
            rw [hbi] at this; cases this) hold hrest
      refine ⟨t2, ⟨by rw [D.split]; simp, fun j hj => ?_, fun j hj => ?_, k1, fun j hj hkn => ?_, hsub, hsubg, by rw [hcur v t2 k2]; exact hst, fun j hj hlj d' cs E hal => ?_, fun j hj j' hj' h1 h2 => ?_, fun j hj => ?_, closed_set hisz ho hd D.closed, by simp [D.size], D.evo.trans hev⟩⟩
      · rw [LB_set hisz]
        rcases List.mem_append.1 hj with h | h
        · split; rfl; exact D.done j h
        · simp at h; subst h; simp
      · rw [LB_set hisz, if_neg]
        · exact D.open_ j (by simp [hj])
        · rintro rfl
          have := (List.nodup_append.1 hnd').2.1
          exact (List.nodup_cons.1 this).1 hj
      · refine k3 j (List.mem_append.2 ?_)
        by_cases hk : knownB (closB ops ops.size) (i :: Wr) j = true
        · exact .inl (List.mem_filter.2 ⟨hj, hk⟩)
        · exact .inr (List.mem_filter.2 ⟨hj, by rw [hkn]; simpa using hk⟩)
      · rw [LB_set hisz, if_neg (by rintro rfl; exact hiF hj)] at hlj
        obtain ⟨q1, q2⟩ := D.fblk j hj hlj d' cs E hal
        refine ⟨hfr _ _ q2 q1, ?_⟩
        cases hx : h1 (bF d') with
        | none => rfl
        | some x => exact absurd q2 (hdom _ (by rw [hx]; simp) (by rw [q1]; simp))
      · rw [LB_set hisz, if_neg (by rintro rfl; exact hiF hj)] at h1
        rw [LB_set hisz, if_neg (by rintro rfl; exact hiF hj')] at h2
        exact D.finj j hj j' hj' h1 h2
      · rw [LB_set hisz, if_neg (by omega)]; exact D.tail j hj
    unfold wpOp
    rw [ho]
    simp only
    rw [hw]
    cases b with
    | true =>
      simp only [if_true]
      refine .inl ?_
      have hq := hrest.1 rfl H D.subr D.subg
      have hq' := aopWp_congr (Kp' := fun v s' => ∀ t', Q (.panic v) ⟨t', s'.h⟩) (K' := fun s' => ∃ u v, s'.t = puts (curT ops k W F (LB listed) t0 tr bF) o.dst u ∧ Weak u v ∧ Sub g s'.h ∧ (∀ i x, hr i = none → H i = some x → s'.h i = some x) ∧ ∃ h1, Sub h1 s'.h ∧ (∀ i, h1 i ≠ none → H i ≠ none → hr i ≠ none) ∧ awpA X n ro ops g (newS (closB ops ops.size) k W F i Wr) (puts tr o.dst v) (fun t2 => awpW X n ro ops g Q (newS (closB ops ops.size) k W F) Wr t2 h1 (fun t2 h2 => awpF X n ops F t2 h2 (K3 X n ro ops g Q k)))) hag hq
        (by
          intro v h' hp
          unfold putK at hp ⊢
          cases hdst : o.dst with
          | none =>
            rw [hdst] at hp
            simp only at hp ⊢
            obtain ⟨u0, v0, _, pw, p1, p2, h1, p3, p4, p5⟩ := hp
            exact ⟨u0, v0, rfl, pw, p1, p2, h1, p3, p4, p5⟩
          | some d =>
            rw [hdst] at hp
            simp only at hp ⊢
            split
            · rename_i hdn
              rw [if_pos hdn] at hp
              obtain ⟨u0, v0, pe, pw, p1, p2, h1, p3, p4, p5⟩ := hp
              have pe' : v = u0 := by
                have := congrFun pe d
                simpa [puts, upd] using this
              subst pe'
              exact ⟨v, v0, rfl, pw, p1, p2, h1, p3, p4, p5⟩
            · rename_i hdn
              rw [if_neg hdn] at hp
              exact hp)
        (fun v h' hp => hp)
      have := aopWp_sound (Q := CPost X n Q fz0 w0) hX D.st hq' (fun v s' fz' w' c hk hs' he' hrel => ⟨.panic v, s', fz', ⟨c, rfl, hrel⟩, hk s'.t, hs', D.evo.trans he'⟩)
      refine Oper.wp_mono (fun a' w' hn => ?_) this
      obtain ⟨s', fz', ⟨u, v, hk1, hkw, p1, p2, h1, p3, p4, p5⟩, hs', he'⟩ := hn
      have e : s' = ⟨puts (curT ops k W F (LB listed) t0 tr bF) o.dst u, s'.h⟩ := by rw [← hk1]
      rw [e] at hs'
      obtain ⟨t2, D2⟩ := fin v h1 s'.h fz' w' a' p5 p3 p1 p2 p4 (hs'.weak (fun j => by
        cases o.dst with
        | none => exact Weak.refl _
        | some d =>
          simp only [puts, upd]
          split
          · exact hkw
          · exact Weak.refl _) (Sub.refl _)) he'
      exact ⟨fz', t2, h1, s'.h, D2⟩
    | false =>
      simp only [Bool.false_eq_true, if_false]
      have hp := hrest.2 rfl
      have hp' : awpA X n ro ops g (newS (closB ops ops.size) k W F i Wr) (puts tr o.dst undefV) (fun t2 => awpW X n ro ops g Q (newS (closB ops ops.size) k W F) Wr t2 hr (fun t2 h2 => awpF X n ops F t2 h2 (K3 X n ro ops g Q k))) ∧ ASt X n fz w ⟨puts (curT ops k W F (LB listed) t0 tr bF) o.dst undefV, H⟩ (a.put o.dst undef) := by
        unfold putK at hp
        cases hdst : o.dst with
        | none =>
          rw [hdst] at hp
          exact ⟨hp, D.st⟩
        | some d =>
          rw [hdst] at hp
          simp only at hp
          split at hp
          · rename_i hdn
            refine ⟨hp, D.st.rel, by simp [Act.put, D.st.size], fun j => ?_, D.st.glob, D.st.defers⟩
            simp only [Act.put, puts]
            rw [getD_set _ _ _ _ (by rw [D.st.size]; exact hdn)]
            unfold upd
            split
            · exact rel_undef _ _
            · exact D.st.slots j
          · exact hp.elim
      obtain ⟨t2, D2⟩ := fin undefV hr H fz w _ hp'.1 D.subr D.subg (fun _ _ _ h => h) (fun _ h _ => h) hp'.2 (Evo.refl _ _ _)
      exact ⟨fz, t2, hr, H, D2⟩
end
section
variable {X : Cx} {n : Nat} {ro : List Nat} {ops : Array Oper} {g : Heap} {Q : AExit → St → Prop} {k : Nat} {W F : List Nat} {t0 : Nat → AV} {fz0 : Fz} {w0 : World}
theorem tail_any (hF : DrawFacts ops k W F) {Qc : Exit → Act → World → Prop} : ∀ (fuel m : Nat) (listed : Array Bool) (a : Act) (w : World), k ≤ m → m ≤ ops.size → ops.size ≤ m + fuel → listed.size = ops.size → (∀ i, i < m → LB listed i = true) → (∀ i, m ≤ i → LB listed i = false) →
    wpList X.P ops Qc (ops.toList.drop m) a w → wpAny X.P .any ops Qc fuel listed a w
  | 0, m, listed, a, w, h1, h2, h3, hsz, hlt, hge, h => by
    have hm : m = ops.size := by omega
    subst hm
    refine ⟨?_, ?_⟩
    · apply List.eq_nil_iff_forall_not_mem.2
      intro i hi
      obtain ⟨hl, o, ho, _⟩ := (ready_iff hsz).1 hi
      rw [hlt i (Array.getElem?_eq_some_iff.1 ho).1] at hl
      cases hl
    · rw [List.drop_of_length_le (by simp)] at h
      exact h
  | fuel + 1, m, listed, a, w, h1, h2, h3, hsz, hlt, hge, h => by
    by_cases hm : m = ops.size
    · subst hm
      have hr : Region.ready .any ops listed = [] := by
        apply List.eq_nil_iff_forall_not_mem.2
        intro i hi
        obtain ⟨hl, o, ho, _⟩ := (ready_iff hsz).1 hi
        rw [hlt i (Array.getElem?_eq_some_iff.1 ho).1] at hl
        cases hl
      refine ⟨fun _ => ?_, by rw [hr]; intro i hi; cases hi⟩
      rw [List.drop_of_length_le (by simp)] at h
      exact h
    · have hms : m < ops.size := by omega
      have hmo : ops[m]? = some ops[m] := Array.getElem?_eq_getElem hms
      have hready : m ∈ Region.ready .any ops listed := (ready_iff hsz).2 ⟨hge m (Nat.le_refl _), _, hmo, fun e he hb => hlt _ (hF.back m _ hmo e he hb)⟩
      refine ⟨fun hr => (by rw [hr] at hready; cases hready), fun i hi => ?_⟩
      obtain ⟨hl, o, ho, hd⟩ := (ready_iff hsz).1 hi
      have him : i = m := by
        have hi1 : ¬ i < m := fun hlt' => by rw [hlt i hlt'] at hl; cases hl
        by_cases he : i = m
        · exact he
        · exfalso
          have hi2 : m < i := by omega
          have hisz : i < ops.size := (Array.getElem?_eq_some_iff.1 ho).1
          have hc : Closed ops (fun j => LB listed j = true) := by
            intro j o' ho' hj e he hb
            have hjm : j < m := by
              rcases Nat.lt_or_ge j m with h | h
              · exact h
              · have := hge j h; rw [this] at hj; cases hj
            exact hlt _ (Nat.lt_trans (hF.back j o' ho' e he hb) hjm)
          have := before_done hc ho hd (hF.tail i (by omega) hisz m hi2)
          rw [hge m (Nat.le_refl _)] at this
          cases this
      subst him
      have hdrop : ops.toList.drop i = ops[i] :: ops.toList.drop (i + 1) := by
        rw [List.drop_eq_getElem_cons (by simpa using hms)]
        simp
      rw [hdrop] at h
      refine wpOp_of_wpList hmo h fun a' w' h' => ?_
      refine tail_any hF fuel (i + 1) _ a' w' (by omega) (by omega) (by omega) (by simp [hsz]) (fun j hj => ?_) (fun j hj => ?_) h'
      · rw [LB_set (by omega)]; split; rfl; exact hlt j (by omega)
      · rw [LB_set (by omega), if_neg (by omega)]; exact hge j (by omega)
theorem awpF_end (hF : DrawFacts ops k W F) (hAl : ∀ i ∈ F, (allocOf X n ops i).isSome = true) {H : Heap} {bF : Nat → Nat} {K : (Nat → AV) → Heap → Prop} {hr : Heap} (hbl : ∀ i ∈ F, ∀ d cs E, allocOf X n ops i = some (d, cs, E) → H (bF d) = some (.cells cs E) ∧ hr (bF d) = none)
    (hinj : ∀ i ∈ F, ∀ j ∈ F, i ≠ j → ∀ d e, dstOf ops i = some d → dstOf ops j = some e → bF d ≠ bF e) (hnd : F.Nodup) : ∀ (l : List Nat) (done : List Nat) (t : Nat → AV) (h : Heap), done ++ l = F → Sub h H → (∀ i ∈ l, ∀ d, dstOf ops i = some d → h (bF d) = none) → awpF X n ops l t h K →
      ∃ h', Sub h' H ∧ K (fun j => if ∃ i, i ∈ l ∧ dstOf ops i = some j then .ptr (bF j) 0 else t j) h'
  | [], done, t, h, hl, hs, hn, hw => by
    refine ⟨h, hs, ?_⟩
    simpa [awpF] using hw
  | i :: r, done, t, h, hl, hs, hn, hw => by
    have hiF : i ∈ F := by rw [← hl]; simp
    obtain ⟨⟨d, cs, E⟩, hal⟩ := Option.isSome_iff_exists.1 (hAl i hiF)
    obtain ⟨hdo, hdn⟩ := alloc_dst hal
    obtain ⟨b1, b2⟩ := hbl i hiF d cs E hal
    unfold awpF at hw
    rw [hal] at hw
    simp only at hw
    have hw' := hw (bF d) (hn i (by simp) d hdo)
    have hnd' := hnd
    rw [← hl] at hnd'
    have hir : i ∉ r := (List.nodup_cons.1 (List.nodup_append.1 hnd').2.1).1
    obtain ⟨h', k1, k2⟩ := awpF_end hF hAl hbl hinj hnd r (done ++ [i]) (upd t d (.ptr (bF d) 0)) (hset h (bF d) (.cells cs E)) (by simpa using hl) (fun b x hb => by
      by_cases e : b = bF d
      · subst e
        rw [hset_same] at hb
        rw [b1]; exact hb
      · rw [hset_ne _ _ e] at hb
        exact hs b x hb) (fun j hj d' hd' => by
      have hjF : j ∈ F := by rw [← hl]; simp [hj]
      have hne : i ≠ j := by rintro rfl; exact hir hj
      rw [hset_ne]
      · exact hn j (by simp [hj]) d' hd'
      · exact fun e => hinj i hiF j hjF hne d d' hdo hd' e.symm) hw'
    refine ⟨h', k1, ?_⟩
    have : (fun j => if ∃ i, i ∈ r ∧ dstOf ops i = some j then AV.ptr (bF j) 0 else upd t d (.ptr (bF d) 0) j) = (fun j => if ∃ i', i' ∈ i :: r ∧ dstOf ops i' = some j then AV.ptr (bF j) 0 else t j) := by
      funext j
      by_cases hj : ∃ i, i ∈ r ∧ dstOf ops i = some j
      · rw [if_pos hj, if_pos]
        obtain ⟨i', h1, h2⟩ := hj
        exact ⟨i', by simp [h1], h2⟩
      · rw [if_neg hj]
        by_cases hjd : j = d
        · subst hjd
          rw [upd_same, if_pos ⟨i, by simp, hdo⟩]
        · rw [upd_ne _ _ hjd, if_neg]
          rintro ⟨i', h1, h2⟩
          rcases List.mem_cons.1 h1 with h1 | h1
          · subst h1; rw [hdo] at h2; injection h2 with h2; exact hjd h2.symm
          · exact hj ⟨i', h1, h2⟩
    rw [← this]
    exact k2
theorem fin_any (hX : X.OK) (hF : DrawFacts ops k W F) (hndF : F.Nodup) (hAl : ∀ i ∈ F, (allocOf X n ops i).isSome = true) {listed : Array Bool} {fz : Fz} {w : World} {a : Act} {Wd Wr : List Nat} {tr : Nat → AV} {hr H : Heap} {bF : Nat → Nat}
    (D : DI X n ro ops g Q k W F t0 fz0 w0 listed fz w a Wd Wr tr hr H bF) (hc : cnt (LB listed) k = 0) : wpList X.P ops (CPost X n Q fz0 w0) (ops.toList.drop k) a w := by
  have hall := cnt_zero hc
  have hWr : Wr = [] := by
    apply List.eq_nil_iff_forall_not_mem.2
    intro i hi
    have h1 := D.open_ i hi
    rw [hall i (hF.wlt i (by rw [D.split]; simp [hi]))] at h1
    cases h1
  subst hWr
  have hrest := D.rest
  unfold awpW at hrest
  obtain ⟨h', k1, k2⟩ := awpF_end (X := X) (n := n) hF hAl (H := H) (bF := bF) (hr := hr) (fun i hi d cs E hal => D.fblk i hi (hall i (hF.flt i hi)) d cs E hal)
    (fun i hi j hj hne d e hd he => D.finj i hi j hj (hall i (hF.flt i hi)) (hall j (hF.flt j hj)) hne d e hd he) hndF F [] tr hr rfl D.subr (fun i hi d hd => by
      obtain ⟨⟨d', cs, E⟩, hal⟩ := Option.isSome_iff_exists.1 (hAl i hi)
      have hdd : d' = d := by have := (alloc_dst hal).1; rw [hd] at this; injection this with this; exact this.symm
      subst hdd
      exact (D.fblk i hi (hall i (hF.flt i hi)) d' cs E hal).2) hrest
  have hk := k2
  have hst := D.st
  have heq : curT ops k W F (LB listed) t0 tr bF = (fun j => if ∃ i, i ∈ F ∧ dstOf ops i = some j then .ptr (bF j) 0 else tr j) := by
    funext j
    unfold curT
    rw [if_neg (by
      rintro ⟨i, hi, _, hl⟩
      rw [hall i (mem_aIdx.1 hi).1] at hl
      cases hl)]
    by_cases hj : ∃ i, i ∈ F ∧ dstOf ops i = some j
    · rw [if_pos hj, if_pos]
      obtain ⟨i, h1, h2⟩ := hj
      exact ⟨i, h1, h2, hall i (hF.flt i h1)⟩
    · rw [if_neg hj, if_neg]
      rintro ⟨i, h1, h2, _⟩
      exact hj ⟨i, h1, h2⟩
  rw [← heq] at hk
  exact hk fz w a fz0 w0 ⟨hst.rel.sub k1, hst.size, hst.slots, hst.glob, hst.defers⟩ D.evo
theorem main_any (hX : X.OK) (hF : DrawFacts ops k W F) (hndW : W.Nodup) (hndF : F.Nodup) (hAl : ∀ i ∈ F, (allocOf X n ops i).isSome = true) : ∀ (fuel : Nat) (listed : Array Bool) (fz : Fz) (w : World) (a : Act) (Wd Wr : List Nat) (tr : Nat → AV) (hr H : Heap) (bF : Nat → Nat),
    DI X n ro ops g Q k W F t0 fz0 w0 listed fz w a Wd Wr tr hr H bF → cnt (LB listed) k + (ops.size - k) ≤ fuel → wpAny X.P .any ops (CPost X n Q fz0 w0) fuel listed a w := by
  intro fuel
  induction fuel with
  | zero =>
    intro listed fz w a Wd Wr tr hr H bF D hle
    have hc : cnt (LB listed) k = 0 := by omega
    have hk : k = ops.size := by have := hF.size; omega
    exact tail_any hF 0 k listed a w (Nat.le_refl _) hF.size (by omega) D.size (cnt_zero hc) D.tail (fin_any hX hF hndF hAl D hc)
  | succ fuel ih =>
    intro listed fz w a Wd Wr tr hr H bF D hle
    by_cases hc : cnt (LB listed) k = 0
    · exact tail_any hF (fuel + 1) k listed a w (Nat.le_refl _) hF.size (by omega) D.size (cnt_zero hc) D.tail (fin_any hX hF hndF hAl D hc)
    · obtain ⟨i0, hi0, hl0, hbelow⟩ := cnt_pos (Nat.pos_of_ne_zero hc)
      have hi0s : i0 < ops.size := Nat.lt_of_lt_of_le hi0 hF.size
      have ho0 : ops[i0]? = some ops[i0] := Array.getElem?_eq_getElem hi0s
      have hready : i0 ∈ Region.ready .any ops listed := (ready_iff D.size).2 ⟨hl0, _, ho0, fun e he hb => hbelow _ (hF.back i0 _ ho0 e he hb)⟩
      refine ⟨fun h => (by rw [h] at hready; cases hready), fun i hi => ?_⟩
      obtain ⟨hl, o, ho, hd⟩ := (ready_iff D.size).1 hi
      have hisz : i < listed.size := by rw [D.size]; exact (Array.getElem?_eq_some_iff.1 ho).1
      have hik : i < k := by
        rcases Nat.lt_or_ge i k with h | h
        · exact h
        · exfalso
          have := before_done D.closed ho hd (hF.tail i h (by rw [← D.size]; exact hisz) i0 (by omega))
          rw [hl0] at this
          cases this
      have hcn : cnt (LB (listed.setIfInBounds i true)) k + 1 = cnt (LB listed) k := cnt_set hl (by rw [LB_set hisz, if_pos rfl]) (fun j hj => by rw [LB_set hisz, if_neg hj]) hik
      by_cases hiW : i ∈ W
      ·
        have hmem : i ∈ Wr := by
          have := hiW
          rw [D.split] at this
          rcases List.mem_append.1 this with h | h
          · rw [D.done i h] at hl; cases hl
          · exact h
        cases Wr with
        | nil => cases hmem
        | cons i1 Wr =>
          have hi1 : i = i1 := by
            by_cases he : i = i1
            · exact he
            · exfalso
              have hmem' : i ∈ Wr := by rcases List.mem_cons.1 hmem with h | h; exact absurd h he; exact h
              obtain ⟨p, hp, hpe⟩ := List.mem_iff_getElem.1 hmem'
              have hch := hF.chain (Wd.length + 1 + p) Wd.length (by rw [D.split]; simp; omega) (by omega)
              have e1 : W.getD Wd.length 0 = i1 := by rw [D.split]; simp [List.getD_eq_getElem?_getD]
              have e2 : W.getD (Wd.length + 1 + p) 0 = i := by
                rw [D.split, List.getD_eq_getElem?_getD, List.getElem?_append_right (by omega)]
                rw [show Wd.length + 1 + p - Wd.length = p + 1 by omega, List.getElem?_cons_succ, List.getElem?_eq_getElem hp]
                simpa using hpe
              rw [e1, e2] at hch
              have := before_done D.closed ho hd hch
              rw [D.open_ i1 (by simp)] at this
              cases this
          subst hi1
          refine wpOp_mono (fun a' w' hn => ?_) (stepW hX hF D hndW ho hl hd)
          obtain ⟨fz', tr', hr', H', D'⟩ := hn
          exact ih _ fz' w' a' _ _ tr' hr' H' bF D' (by omega)
      · by_cases hiF : i ∈ F
        · refine wpOp_mono (fun a' w' hn => ?_) (stepF hX hF hAl D hiF ho hl hd)
          obtain ⟨fz', H', bF', D'⟩ := hn
          exact ih _ fz' w' a' _ _ tr hr H' bF' D' (by omega)
        · refine wpOp_mono (fun a' w' hn => ?_) (stepA hX hF D (mem_aIdx.2 ⟨hik, hiW, hiF⟩) ho hl hd)
          obtain ⟨fz', H', D'⟩ := hn
          exact ih _ fz' w' a' _ _ tr hr H' bF D' (by omega)
theorem ws_draw {X : Cx} (hX : X.OK) {n : Nat} (ro : List Nat) {id : Nat} {ops : Array Oper} {Q : AExit → St → Prop} {s : St} (k : Nat) (W F : List Nat) (g : Heap) (hok : drawOKs ops k W F = true) (hndW : W.Nodup) (hndF : F.Nodup) (hsub : Sub g s.h) (hAl : ∀ i ∈ F, (allocOf X n ops i).isSome = true)
    (hA : awpA X n ro ops g (knS (closB ops ops.size) k W F W) s.t fun t1 => awpW X n ro ops g Q (newS (closB ops ops.size) k W F) W t1 s.h fun t2 h2 => awpF X n ops F t2 h2 fun t3 h3 => WSO X n ops Q k ⟨t3, h3⟩) : WS X n (.region id ops true) Q s := by
  intro fz w a fz0 w0 hs he
  have hF := drawOKs_spec hok
  obtain ⟨t1, h1, h2, h3⟩ := awpA_spec hF (knS (closB ops ops.size) k W F W) [] s.t (List.Pairwise.filter _ (List.Pairwise.filter _ List.pairwise_lt_range)) (fun i hi => (List.mem_filter.1 (show i ∈ knS (closB ops ops.size) k W F W by simpa using hi)).1) (fun j hj => by cases hj) (fun i hi => by cases hi) hA
  refine wp_region_any hX.mixed ?_
  have hL : ∀ i, LB (Array.replicate ops.size false) i = false := by
    intro i
    simp only [LB, Array.getD_eq_getD_getElem?, Array.getElem?_replicate]
    split <;> rfl
  have D : DI X n ro ops g Q k W F s.t fz0 w0 (Array.replicate ops.size false) fz w.drew a [] W t1 s.h s.h (fun _ => 0) := by
    refine { split := rfl, done := fun i hi => (by cases hi), open_ := fun i hi => hL i, rest := h1, kn := fun i hi hk => h3 i (List.mem_append_right _ (List.mem_filter.2 ⟨hi, hk⟩)), subr := fun _ _ h => h, subg := hsub, st := ?_, fblk := fun i hi hl => (by rw [hL] at hl; cases hl), finj := fun i hi j hj hl => (by rw [hL] at hl; cases hl), tail := fun i hi => hL i, closed := fun i o ho hl => (by have hl' : LB (Array.replicate ops.size false) i = true := hl; rw [hL] at hl'; cases hl'), size := by simp, evo := he.trans drew_evo }
    have hcur : curT ops k W F (LB (Array.replicate ops.size false)) s.t t1 (fun _ => 0) = s.t := by
      funext j
      unfold curT
      by_cases hj : ∃ i, i ∈ aIdx k W F ∧ dstOf ops i = some j
      · rw [if_pos]
        obtain ⟨i, h1, h2⟩ := hj
        exact ⟨i, h1, h2, hL i⟩
      · rw [if_neg (by rintro ⟨i, h1, h2, _⟩; exact hj ⟨i, h1, h2⟩), if_neg (by rintro ⟨i, _, _, h⟩; rw [hL] at h; cases h)]
        exact h2 j (fun i hi hd => hj ⟨i, (List.mem_filter.1 hi).1, hd⟩)
    rw [hcur]
    exact ⟨srel_drew hs.rel, hs.size, fun j => Rel.mono (drew_evo (B := X.B)) _ _ (hs.slots j), GRel.mono (drew_evo (B := X.B)) hs.glob, hs.defers⟩
  refine main_any hX hF hndW hndF hAl _ _ fz w.drew a [] W t1 s.h s.h (fun _ => 0) D ?_
  have : cnt (LB (Array.replicate ops.size false)) k ≤ k := cnt_le _ _
  have := hF.size
  omega
end
end Go.Lb.DX
end
section
namespace Go.Lb
open Go.RowKit (Below)
section
variable {X : Cx} {C : XC} {N : Nm} {s : XS} {t : Nat → AV} {h h0 g : Heap} {n : Nat} {ops : Array Oper} {ρ : Type} {r : ρ} {cl : CallH} {ro : RO} {ct : Cert}
theorem guard_cases {I : Ids} {o : Oper} {kt kf : XS → Option ρ} (hs : SR I N s t h h0) (hx : xguard ops o s kt kf = some r) :
    ∃ (b : Bool) (A' : List (Nat × Val)), guardOf ops t o = some b ∧ SR I N { s with A := A' } t h h0 ∧ (∀ h' h0', SR I N s t h' h0' → SR I N { s with A := A' } t h' h0') ∧ (b = true → kt { s with A := A' } = some r) ∧ (b = false → kf { s with A := A' } = some r) := by
  unfold xguard at hx
  split at hx
  · rename_i hg
    exact ⟨true, s.A, by simp only [guardOf, hg], hs, fun _ _ hs => hs, fun _ => hx, fun e => by cases e⟩
  · rename_i g want hg
    split at hx
    · rename_i hdn
      exact ⟨false, s.A, by simp only [guardOf, hg, gval, hdn], hs, fun _ _ hs => hs, fun e => (by cases e), fun _ => hx⟩
    · rename_i d hdn
      split at hx
      · rename_i b hb
        have htd := hs.slots d (by rw [hb]; simp)
        rw [hb] at htd
        simp only [Val.enc] at htd
        have hgo : guardOf ops t o = some (b == want) := by simp only [guardOf, hg, gval, hdn, htd]
        have hk : ∀ h' h0', SR I N s t h' h0' → SR I N { s with A := (d, .bool b) :: s.A } t h' h0' := fun h' h0' hs => hs.known hb (by simp)
        refine ⟨b == want, (d, .bool b) :: s.A, hgo, hk _ _ hs, hk, fun e => ?_, fun e => ?_⟩
        · cases want <;> cases b <;> simp at e <;> exact hx
        · cases want <;> cases b <;> simp at e <;> exact hx
      · rename_i hb
        have htd := hs.slots d (by rw [hb]; simp)
        rw [hb] at htd
        simp only [Val.enc, undefV] at htd
        exact ⟨false, s.A, by simp only [guardOf, hg, gval, hdn, htd], hs, fun _ _ hs => hs, fun e => (by cases e), fun _ => hx⟩
      · cases hx
theorem SR.any (hs : SR C.I N s t g g) (hH : s.H = []) (hR : s.R = []) {H : Heap} (hg : Sub g H) : SR C.I N s t H H :=
  { heap := ⟨[], by rw [hH]; rfl, fun i nm b hi => by rw [hH] at hi; simp at hi, by rw [hR]; exact ⟨Sub.refl H, fun _ hp => (by cases hp), fun _ hp => (by cases hp), by simp⟩⟩
    okH := hs.okH
    okF := fun e he => by
      obtain ⟨a1, a2, k, a3, a4⟩ := hs.okF e he
      exact ⟨a1, a2, k, hg _ _ a3, a4⟩
    okR := hs.okR, slots := hs.slots, okA := hs.okA }
theorem shT_nameless {T : XT} {ty : TypeId} {sh : Sh} (h : shT T ty = some sh) : ptrN sh = [] ∧ ownN sh = [] := by
  unfold shT at h
  split at h
  · split at h
    · injection h with h; subst h; exact ⟨rfl, rfl⟩
    · injection h with h; subst h; exact ⟨rfl, rfl⟩
    · injection h with h; subst h; exact ⟨rfl, rfl⟩
    · injection h with h; subst h; exact ⟨rfl, rfl⟩
    · split at h
      · split at h
        · injection h with h; subst h; exact ⟨rfl, rfl⟩
        · cases h
      · cases h
    · split at h
      · injection h with h; subst h; exact ⟨rfl, rfl⟩
      · cases h
  · cases h
theorem nameless_enc {I : Ids} {N N' : Nm} {sh : Sh} (x : DenSh sh) (h1 : ptrN sh = []) (h2 : ownN sh = []) : (shV sh x).enc I N' = (shV sh x).enc I N ∧ ∀ c, okV N c (shV sh x) := by
  have hl : ∀ p, p ∉ lensV sh x := fun p hp => by
    have hm : p.1 ∈ (lensV sh x).map (·.1) := List.mem_map.2 ⟨p, hp, rfl⟩
    rw [lens_keys, h2] at hm
    cases hm
  constructor
  · have := (sh_enc (I := I) (N := N) (N' := N') (τ := fun i => i) sh x (fun j hj => by rw [h1] at hj; cases hj) (fun p hp => absurd hp (hl p))).1
    rwa [ren_id] at this
  · intro c
    have := sh_ok (N := N) (c := c) (τ := fun i => i) sh x (fun j hj => by rw [h1] at hj; cases hj) (fun p hp => absurd hp (hl p))
    rwa [ren_id] at this
theorem acalls_wkV {X : Cx} {f : FuncId} {args : List AV} {h : Heap} {v : AV} {P : Heap → Prop} (hc : ACalls X f args h (fun e h' => ∃ av, e = .ret av ∧ Weak av v ∧ P h')) : ACalls X f args h (fun e h' => e = .ret v ∧ P h') :=
  ⟨hc.1, fun fz w ca h1 h2 h3 => (hc.2 fz w ca h1 h2 h3).mono fun e w' ⟨q, h', fz', ⟨av, k0, kw, k1⟩, k2, k3, k4⟩ => ⟨.ret v, h', fz', ⟨rfl, k1⟩, by
    subst k0
    cases e <;> simp only [EndRel] at k2 ⊢
    exact kw _ _ _ k2, k3, k4⟩⟩
theorem pull_nil : Pull N [] (pullN N [] []) := pullN_pull []
theorem xqop_sound (hX : XOKs X C) (hcl : CallsOK X C.I cl) {o : Oper} {d : Tmp} (hd : o.dst = some d) (hs : SR C.I N s t g g) (hH : s.H = []) (hR : s.R = []) {k : Val → Option ρ} (hx : xqop C cl ro ct o s k = some r) :
    ∃ v, k v = some r ∧ okV N s.c v ∧ (d < n → DX.QOK X n ro.l g t o (v.enc C.I N)) := by
  obtain ⟨dst, op, ty, pos, af, gd⟩ := o
  simp only at hd
  subst hd
  have ofop : ∀ {v : Val} {v' : AV}, k v = some r → aop X ⟨t, g⟩ op = some v' → Weak v' (v.enc C.I N) → okV N s.c v → ∃ v, k v = some r ∧ okV N s.c v ∧ (d < n → DX.QOK X n ro.l g t ⟨some d, op, ty, pos, af, gd⟩ (v.enc C.I N)) := by
    intro v v' h1 h2 h3 h4
    refine ⟨v, h1, h4, fun hdn H hH => ?_⟩
    have := qok_of_aop (X := X) (ro := ro.l) (o := ⟨some d, op, ty, pos, af, gd⟩) rfl hdn h2 H hH
    refine aopWp_congr (Kp := fun _ _ => False) (t1 := t) (t2 := t) (fun _ _ _ => rfl) this ?_ (fun _ _ hf => hf)
    intro u h' hp
    unfold putK at hp ⊢
    simp only at hp ⊢
    split
    · rename_i hdn'
      rw [if_pos hdn'] at hp
      exact ⟨⟨_, hp.1, h3⟩, hp.2⟩
    · rename_i hdn'
      exact absurd hdn hdn'
  unfold xqop at hx
  simp only at hx
  split at hx
  · rename_i E x
    rw [force_eq] at hx
    obtain ⟨hlf, hm, hx⟩ := and_of hx
    have hc := cellsOf_enc (I := C.I) (N := N) hlf
    rw [← ev_enc (X := X) hs x (notJ_leafy hlf)] at hc
    refine ⟨_, hx, by simp only [okV]; exact ev_ok hs x, fun hdn H hH => ?_⟩
    have e : St.eval X ⟨t, H⟩ x = St.eval X ⟨t, g⟩ x := by cases x <;> rfl
    unfold aopWp
    simp only [e, hc, Option.any_some]
    rw [if_pos (decide_eq_true (memb_iff.1 hm))]
    simp only [putK, hdn, if_true, puts]
    exact ⟨⟨_, rfl, by simp only [Val.enc]; exact Weak.refl _⟩, Sub.refl _⟩
  · rename_i x t'
    split at hx
    · rename_i m hm
      refine ⟨_, hx, by simp only [okV], fun hdn H hHH => ?_⟩
      have hs' := hs.any hH hR hHH
      unfold lenX at hm
      split at hm
      · rename_i i hi
        have hti := hX.tab.ti _ _ hi
        unfold aopWp
        simp only [List.getElem?_toArray, List.getElem?_cons_zero, List.map_cons, hti]
        split at hm
        · rename_i u hk hv
          simp only [Option.some.injEq] at hm
          subst hm
          have hv' := ev_enc (X := X) hs' x (by rw [hv]; simp)
          rw [hv] at hv'
          simp only [Val.enc] at hv'
          simp only [hk, hv', putK, hdn, if_true]
          intro _
          exact ⟨⟨_, rfl, by simp only [Val.enc]; exact Weak.refl _⟩, Sub.refl _⟩
        · rename_i e d l rm hk hv
          simp only [Option.some.injEq] at hm
          subst hm
          have hv' := ev_enc (X := X) hs' x (by rw [hv]; simp)
          rw [hv] at hv'
          simp only [Val.enc] at hv'
          simp only [hk, hv', putK, hdn, if_true]
          intro _
          exact ⟨⟨_, rfl, by simp only [Val.enc]; exact Weak.refl _⟩, Sub.refl _⟩
        · rename_i e hk hv
          simp only [Option.some.injEq] at hm
          subst hm
          have hv' := ev_enc (X := X) hs' x (by rw [hv]; simp)
          rw [hv] at hv'
          simp only [Val.enc] at hv'
          simp only [hk, hv', putK, hdn, if_true]
          intro _
          exact ⟨⟨_, rfl, by simp only [Val.enc]; exact Weak.refl _⟩, Sub.refl _⟩
        · cases hm
      · cases hm
    · cases hx
  · rename_i f args ats
    split at hx
    · rename_i q a c hf
      split at hx
      · rename_i sh hsh
        obtain ⟨n1, n2⟩ := shT_nameless hsh
        obtain ⟨hj, hx⟩ := cond_of hx
        obtain ⟨x, hx1, hx2⟩ := Option.bind_eq_some_iff.1 hx
        rw [force_eq] at hx2
        refine ⟨_, hx2, (nameless_enc (I := C.I) (N' := N) x n1 n2).2 _, fun hdn H hHH => ?_⟩
        have hs' := hs.any hH hR hHH
        obtain ⟨h1, h2⟩ := ev_mapJ (X := X) hs' hj
        have hf' := ev_enc (X := X) hs' f (by rw [hf]; simp)
        have hfo := ev_ok hs' f
        rw [hf] at hf' hfo
        simp only [Val.enc] at hf'
        simp only [okV] at hfo
        have hall : okL N s.c (a ++ args.toList.map s.ev ++ c) := okL_append.2 ⟨okL_append.2 ⟨hfo.1, h2⟩, hfo.2⟩
        have hc := hcl (DenSh sh) ct q _ s _ x hx1 N H H hs'.toHR hall
        unfold aopWp
        simp only [hf', h1]
        rw [encL_app, encL_app] at hc
        have hc2 := acalls_wkV (v := (shV sh x).enc C.I N) (P := fun h' => Sub H h') (hc.mono fun e h' hr => by
          obtain ⟨v, N', s', av, rfl, he, hcc, hh, hov, hw, hk⟩ := hr
          obtain ⟨L, _, _, hp⟩ := hh.heap
          refine ⟨av, rfl, hw.trans ?_, hp.sub⟩
          obtain ⟨a1, a2⟩ := pack_spec (I := C.I) (N := N') (σ := []) pull_nil sh v x hk
          have := weak_of_pw a2 a1
          rwa [(nameless_enc (I := C.I) (N := N) (N' := pullN N' [] []) x n1 n2).1] at this)
        refine hc2.mono fun e h' hr => ?_
        obtain ⟨rfl, hsub⟩ := hr
        simp only [putK, hdn, if_true, puts]
        exact ⟨⟨_, rfl, Weak.refl _⟩, hsub⟩
      · cases hx
    · cases hx
  · obtain ⟨v, v', h1, h2, h3, h4⟩ := xop_sound (I := C.I) hX.tab hX.es hs hx
    exact ofop h1 h2 h3 h4
theorem DX.QOK.weak {t : Nat → AV} {o : Oper} {v v' : AV} (hv : Weak v v') (h : DX.QOK X n ro.l g t o v) : DX.QOK X n ro.l g t o v' := by
  intro H hH
  refine aopWp_congr (Kp := fun _ _ => False) (t1 := t) (t2 := t) (fun _ _ _ => rfl) (h H hH) ?_ (fun _ _ hf => hf)
  intro u h' hp
  unfold putK at hp ⊢
  cases hd : o.dst with
  | none =>
    rw [hd] at hp
    simp only at hp ⊢
    obtain ⟨⟨u, h1, h2⟩, h3⟩ := hp
    exact ⟨⟨u, h1, h2.trans hv⟩, h3⟩
  | some d =>
    rw [hd] at hp
    simp only at hp ⊢
    split
    · rename_i hdn
      rw [if_pos hdn] at hp
      obtain ⟨⟨u, h1, h2⟩, h3⟩ := hp
      exact ⟨⟨u, h1, h2.trans hv⟩, h3⟩
    · rename_i hdn
      rw [if_neg hdn] at hp
      exact hp
def shr (ro : RO) (d : Nat) (v : Val) : Val := bif memb d ro.sh then v.share else v
theorem shr_weak {I : Ids} (d : Nat) (v : Val) : Weak (v.enc I N) ((shr ro d v).enc I N) := by
  unfold shr
  cases memb d ro.sh with
  | true => exact share_weak v
  | false => exact Weak.refl _
theorem shr_ok {c : Nat} {d : Nat} {v : Val} (h : okV N c v) : okV N c (shr ro d v) := by
  unfold shr
  cases memb d ro.sh with
  | true => exact share_ok v h
  | false => exact h
theorem putX_some {d : Nat} {v : Val} {k : XS → Option ρ} (hx : putX n ro (some d) v s k = some r) : d < n ∧ k { s with A := (d, shr ro d v) :: s.A } = some r := by
  unfold putX at hx
  simp only at hx
  obtain ⟨h1, h2⟩ := cond_of hx
  rw [force_eq] at h2
  exact ⟨ble_lt h1, h2⟩
theorem xqs_sound (hX : XOKs X C) (hcl : CallsOK X C.I cl) {k : XS → Option ρ} {K : (Nat → AV) → Prop} : ∀ (l : List Nat) (s : XS) (t : Nat → AV), xqs C cl n ro ct ops l s k = some r → SR C.I N s t g g → s.H = [] → s.R = [] →
    (∀ A' t', SR C.I N { s with A := A' } t' g g → (∀ i, (∀ q ∈ l, dstOf ops q ≠ some i) → t' i = t i) → k { s with A := A' } = some r → K t') → DX.awpA X n ro.l ops g l t K
  | [], s, t, hx, hs, hH, hR, hK => hK s.A t hs (fun _ _ => rfl) hx
  | i :: l, s, t, hx, hs, hH, hR, hK => by
    unfold xqs at hx
    unfold DX.awpA
    split at hx
    · cases hx
    · rename_i o ho
      split at hx
      · cases hx
      · rename_i d hd
        rw [ho]
        simp only
        obtain ⟨b, A', hg, hs1, _, ht, hf⟩ := guard_cases hs hx
        rw [hd, hg]
        simp only
        have hdo : dstOf ops i = some d := by simp [dstOf, ho, hd]
        have keep : ∀ (v : Val) (A2 : List (Nat × Val)) (t2 : Nat → AV), (∀ q, (∀ q' ∈ l, dstOf ops q' ≠ some q) → t2 q = upd t d (v.enc C.I N) q) → ∀ q, (∀ q' ∈ i :: l, dstOf ops q' ≠ some q) → t2 q = t q := fun v A2 t2 h2 q hq => by
          rw [h2 q (fun q' hq' => hq q' (by simp [hq']))]
          exact upd_ne _ _ (fun e => hq i (by simp) (by rw [hdo, e]))
        constructor
        · intro hb
          obtain ⟨v, h1, h2, h3⟩ := xqop_sound (ct := ct.at i) hX hcl hd hs1 hH hR (ht hb)
          obtain ⟨hdn, h4⟩ := putX_some h1
          refine ⟨(shr ro d v).enc C.I N, (h3 hdn).weak (shr_weak d v), ?_⟩
          refine xqs_sound hX hcl l _ _ h4 (hs1.put (d := d) (v := shr ro d v) (shr_ok h2)) hH hR ?_
          intro A2 t2 hs2 hk2 hx2
          exact hK A2 t2 hs2 (keep _ A2 t2 hk2) hx2
        · intro hb
          obtain ⟨hdn, h4⟩ := cond_of (hf hb)
          refine ⟨ble_lt hdn, ?_⟩
          refine xqs_sound hX hcl l _ _ h4 (hs1.put (d := d) (v := .undef) (by simp only [okV])) hH hR ?_
          intro A2 t2 hs2 hk2 hx2
          exact hK A2 t2 hs2 (keep .undef A2 t2 hk2) hx2
theorem HP.up {L : List (Nat × ABlk)} {R : List Rw} {H : Heap} (hp : HP g h L R) (hh : Sub h H) : HP g H L R :=
  ⟨hp.sub.trans hh, fun p hpm => ⟨hh _ _ (hp.blk p hpm).1, (hp.blk p hpm).2⟩, fun r hr => by
    rcases hp.row r hr with hf | ⟨b, cap, e1, e2, e3⟩
    · exact .inl hf
    · exact .inr ⟨b, cap, e1, hh _ _ e2, e3⟩, hp.nd⟩
def idsOf (L : List (Nat × ABlk)) (R : List Rw) : List Nat := L.map (·.1) ++ R.filterMap ownB
theorem HP.free {L : List (Nat × ABlk)} {R : List Rw} (hp : HP g h L R) {b : Nat} (hb : b ∈ idsOf L R) : g b = none := by
  rcases List.mem_append.1 hb with hb | hb
  · obtain ⟨p, hp1, rfl⟩ := List.mem_map.1 hb
    exact (hp.blk p hp1).2
  · obtain ⟨q, hq1, hq2⟩ := List.mem_filterMap.1 hb
    obtain ⟨cap, hc⟩ := ownB_eq hq2
    rcases hp.row q hq1 with hf | ⟨b', cap', e1, e2, e3⟩
    · rw [hf] at hc; cases hc
    · rw [e1] at hc; injection hc with hc _; subst hc; exact e3
theorem HP.cutS {L : List (Nat × ABlk)} {R : List Rw} (hp : HP g h L R) : HP (Lb.cutS (idsOf L R) h) h L R ∧ Sub g (Lb.cutS (idsOf L R) h) := by
  have := HP.hand (L1 := L) (R1 := R) hp (fun r hr => .inl hr) (fun p hp => List.mem_map.2 ⟨p, hp, rfl⟩) hp.nd
  rw [overL_self fun p hpm => (hp.blk p hpm).1] at this
  refine ⟨this, fun b k hb => ?_⟩
  simp only [Lb.cutS]
  rw [if_neg]
  · exact hp.sub b k hb
  · intro hm
    rw [hp.free hm] at hb
    cases hb
def onlyH (l : List Nat) (h g : Heap) : Heap := fun i => if i ∈ l then h i else g i
theorem HP.only {L : List (Nat × ABlk)} {R : List Rw} {H0 : Heap} (hp : HP H0 h L R) (hg : Sub g H0) : HP g (onlyH (idsOf L R) h g) L R := by
  have hgn : ∀ b ∈ idsOf L R, g b = none := fun b hb => by
    cases hx : g b with
    | none => rfl
    | some k => have := hg b k hx; rw [hp.free hb] at this; cases this
  refine ⟨fun b k hb => ?_, fun p hpm => ?_, fun q hq => ?_, hp.nd⟩
  · simp only [onlyH]
    rw [if_neg]
    · exact hb
    · intro hm; rw [hgn b hm] at hb; cases hb
  · have hm : p.1 ∈ idsOf L R := List.mem_append_left _ (List.mem_map.2 ⟨p, hpm, rfl⟩)
    simp only [onlyH]
    rw [if_pos hm]
    exact ⟨(hp.blk p hpm).1, hgn _ hm⟩
  · rcases hp.row q hq with hf | ⟨b, cap, e1, e2, e3⟩
    · exact .inl hf
    · have hob : ownB q = some b := by obtain ⟨rm, rest⟩ := q; simp only at e1; subst e1; rfl
      have hm : b ∈ idsOf L R := List.mem_append_right _ (List.mem_filterMap.2 ⟨q, hq, hob⟩)
      refine .inr ⟨b, cap, e1, ?_, hgn _ hm⟩
      simp only [onlyH]
      rw [if_pos hm]
      exact e2
theorem xws_sound {Q : AExit → St → Prop} (hX : XOKs X C) (hcl : CallsOK X C.I cl) {F : List (Nat × XB)} {NW : Nat → List Nat → List Nat} {k : XS → Option ρ} {K : (Nat → AV) → Heap → Prop} : ∀ (l : List Nat) (N : Nm) (s : XS) (t : Nat → AV) (h : Heap), xws C cl n ro ct ops F NW l s k = some r → SR C.I N s t h g → s.F = F →
    (∀ N' s' t' h', Ext s.c N N' → s.c ≤ s'.c → SR C.I N' s' t' h' g → (∀ i, (∀ q, dstOf ops q ≠ some i) → t' i = t i) → k s' = some r → K t' h') → DX.awpW X n ro.l ops g Q NW l t h K
  | [], N, s, t, h, hx, hs, hF, hK => hK N s t h (Ext.refl _ _) (Nat.le_refl _) hs (fun _ _ => rfl) hx
  | i :: l, N, s, t, h, hx, hs, hF, hK => by
    unfold xws at hx
    unfold DX.awpW
    split at hx
    · cases hx
    · rename_i o ho
      rw [ho]
      simp only
      obtain ⟨b, A', hg, hs1, hsA, ht, hf⟩ := guard_cases hs hx
      rw [hg]
      simp only
      have stage : ∀ (N1 : Nm) (s1 : XS) (t1 : Nat → AV) (h1 : Heap), xqs C cl n ro ct ops (NW i l) { s1 with H := [], F := F, R := [] } (fun s2 => xws C cl n ro ct ops F NW l { s2 with H := s1.H, F := F, R := s1.R } k) = some r → SR C.I N1 { s1 with F := F } t1 h1 g → Ext s.c N N1 → s.c ≤ s1.c → (∀ i', (∀ q, dstOf ops q ≠ some i') → t1 i' = t i') → DX.awpA X n ro.l ops g (NW i l) t1 fun t2 => DX.awpW X n ro.l ops g Q NW l t2 h1 K := by
        intro N1 s1 t1 h1 hq hs2 he hc hkt
        have hs0 : SR C.I N1 { s1 with H := [], F := F, R := [] } t1 g g :=
          { heap := ⟨[], rfl, fun i nm b hi => by simp at hi, ⟨Sub.refl g, fun _ hp => (by cases hp), fun _ hp => (by cases hp), by simp⟩⟩
            okH := fun e he => (by cases he), okF := hs2.okF, okR := fun q hq => (by cases hq), slots := hs2.slots, okA := hs2.okA }
        refine xqs_sound hX hcl _ _ t1 hq hs0 rfl rfl ?_
        intro A2 t2 hs3 hk2 hx2
        refine xws_sound hX hcl l N1 { s1 with A := A2, F := F } t2 h1 hx2 { heap := hs2.heap, okH := hs2.okH, okF := hs2.okF, okR := hs2.okR, slots := hs3.slots, okA := hs3.okA } rfl ?_
        intro N3 s3 t3 h3 he3 hc3 hs4 hk3 hx3
        exact hK N3 s3 t3 h3 (he.trans hc he3) (Nat.le_trans hc hc3) hs4 (fun q hq' => by rw [hk3 q hq', hk2 q fun q' _ => hq' q', hkt q hq']) hx3
      constructor
      · intro hb H hH hgH
        have hx1 := ht hb
        obtain ⟨L, l1, l2, l3⟩ := hs1.heap
        have l4 := l3.up hH
        obtain ⟨l5, l6⟩ := l4.cutS
        have hsH : SR C.I N { s with A := A' } t H (Lb.cutS (idsOf L (s.R.map (rowR N))) H) :=
          { heap := ⟨L, l1, l2, l5⟩, okH := hs1.okH, okR := hs1.okR, slots := hs1.slots, okA := hs1.okA
            okF := fun e he => by
              obtain ⟨a1, a2, q, a3, a4⟩ := hs1.okF e he
              exact ⟨a1, a2, q, l6 _ _ a3, a4⟩ }
        refine xoper_core hX hcl hsH hx1 ?_
        intro v s' N' h' u hp he hc hs' hv hu
        obtain ⟨L', m1, m2, m3⟩ := hs'.heap
        have hgs : Sub g h' := l6.trans m3.sub
        have hnew : ∀ A2 t2, (∀ i, lkV A2 i ≠ .junk → t2 i = (lkV A2 i).enc C.I N') → (∀ i, okV N' s'.c (lkV A2 i)) → SR C.I N' { s' with A := A2, F := F } t2 (onlyH (idsOf L' (s'.R.map (rowR N'))) h' g) g := fun A2 t2 q1 q2 =>
          { heap := ⟨L', m1, m2, m3.only l6⟩, okH := hs'.okH, okR := hs'.okR, slots := q1, okA := q2
            okF := fun e hm => by
              have hm' : e ∈ s.F := by rw [hF]; exact hm
              obtain ⟨a1, a2, q, a3, a4⟩ := hs.okF e hm'
              exact ⟨Nat.lt_of_lt_of_le a1 hc, a2.mono he hc, q, by rw [he.o _ a1]; exact a3, a4.ext he a2⟩ }
        have hrest : ∀ u' (v' : AV) (t2 : Nat → AV), t2 = puts t o.dst u' → Weak u' v' → (DX.awpA X n ro.l ops g (NW i l) (puts t o.dst v') fun t2 => DX.awpW X n ro.l ops g Q NW l t2 (onlyH (idsOf L' (s'.R.map (rowR N'))) h' g) K) → (∃ u v, (⟨t2, h'⟩ : St).t = puts t o.dst u ∧ Weak u v ∧ Sub g (⟨t2, h'⟩ : St).h ∧ (∀ i x, h i = none → H i = some x → (⟨t2, h'⟩ : St).h i = some x) ∧ ∃ h1, Sub h1 (⟨t2, h'⟩ : St).h ∧ (∀ i, h1 i ≠ none → H i ≠ none → h i ≠ none) ∧ DX.awpA X n ro.l ops g (NW i l) (puts t o.dst v) fun t2 => DX.awpW X n ro.l ops g Q NW l t2 h1 K) := fun u' v' t2 q1 q2 q3 => by
          refine ⟨u', v', q1, q2, hgs, fun j x hj hHj => ?_, _, fun b k hb => ?_, fun j hj hHj => ?_, q3⟩
          · refine m3.sub j x ?_
            simp only [Lb.cutS]
            rw [if_neg]
            · exact hHj
            · intro hm
              obtain ⟨x', hx'⟩ := l3.known hm
              rw [hj] at hx'; cases hx'
          · simp only [onlyH] at hb
            split at hb
            · exact hb
            · exact hgs _ _ hb
          · simp only [onlyH] at hj
            split at hj
            · rename_i hm
              have h0 := m3.free hm
              simp only [Lb.cutS] at h0
              split at h0
              · rename_i hm2
                obtain ⟨x', hx'⟩ := l3.known hm2
                rw [hx']; simp
              · exact absurd h0 hHj
            · cases hgj : g j with
              | none => exact absurd hgj hj
              | some x' => rw [l3.sub j x' hgj]; simp
        cases hdst : o.dst with
        | none =>
          rw [hdst] at hp
          simp only [putX] at hp
          simp only [putK]
          have := hrest undefV undefV t (by rw [hdst]; rfl) (Weak.refl _) (by
            rw [hdst]
            exact stage N' s' t _ hp (hnew s'.A t hs'.slots hs'.okA) he hc (fun _ _ => rfl))
          rw [hdst] at this
          exact this
        | some d =>
          rw [hdst] at hp
          obtain ⟨hdn, hp⟩ := putX_some hp
          have hsp := hs'.put (d := d) (v := shr ro d v) (shr_ok hv)
          simp only [putK, hdn, if_true]
          have := hrest u ((shr ro d v).enc C.I N') (upd t d u) (by rw [hdst]; rfl) (hu.trans (shr_weak d v)) (by
            rw [hdst]
            exact stage N' { s' with A := (d, shr ro d v) :: s'.A } (upd t d ((shr ro d v).enc C.I N')) _ hp (hnew _ _ hsp.slots hsp.okA) he hc (fun q hq => upd_ne _ _ (fun e => hq i (by simp [dstOf, ho, hdst, e]))))
          rw [hdst] at this
          exact this
      · intro hb
        have hx1 := hf hb
        cases hdst : o.dst with
        | none =>
          rw [hdst] at hx1
          simp only [putK] at hx1 ⊢
          exact stage N { s with A := A' } t h hx1 (by rw [← hF]; exact hs1) (Ext.refl _ _) (Nat.le_refl _) (fun _ _ => rfl)
        | some d =>
          rw [hdst] at hx1
          simp only [putK] at hx1 ⊢
          obtain ⟨hdn, hx1⟩ := cond_of hx1
          rw [if_pos (ble_lt hdn)]
          exact stage N { s with A := (d, .undef) :: A' } (upd t d undefV) h hx1 (by rw [← hF]; exact hs1.put (d := d) (v := .undef) (by simp only [okV])) (Ext.refl _ _) (Nat.le_refl _) (fun q hq => upd_ne _ _ (fun e => hq i (by simp [dstOf, ho, hdst, e])))
theorem allocsOK_spec (hX : XOKs X C) : ∀ {l : List Nat}, allocsOK C.T n ops l = true → ∀ i ∈ l, (allocOf X n ops i).isSome = true
  | j :: l, h, i, hi => by
    simp only [allocsOK, Bool.and_eq_true] at h
    rcases List.mem_cons.1 hi with rfl | hi
    · have h1 := h.1
      split at h1
      · rename_i d E _ _ _ ho
        split at h1
        · rename_i ii hT
          obtain ⟨hz, _, _⟩ := hX.tab.z _ _ hT C.I ⟨fun _ => 0, fun _ => .full, fun _ => 0⟩ 0
          unfold allocOf
          rw [ho]
          simp only [hX.tab.ti _ _ hT, Option.bind_some, hz, if_pos (ble_lt h1), Option.isSome_some]
        · cases h1
      · cases h1
    · exact allocsOK_spec hX h.2 i hi
theorem xfs_sound (hX : XOKs X C) {k : XS → Option ρ} {K : (Nat → AV) → Heap → Prop} : ∀ (l : List Nat) (N : Nm) (s : XS) (t : Nat → AV) (h : Heap), xfs C n ops l s k = some r → SR C.I N s t h h0 →
    (∀ N' s' t' h', Ext s.c N N' → s.c ≤ s'.c → SR C.I N' s' t' h' h0 → (∀ i, (∀ q ∈ l, dstOf ops q ≠ some i) → t' i = t i) → k s' = some r → K t' h') → awpF X n ops l t h K
  | [], N, s, t, h, hx, hs, hK => hK N s t h (Ext.refl _ _) (Nat.le_refl _) hs (fun _ _ => rfl) hx
  | i :: l, N, s, t, h, hx, hs, hK => by
    unfold xfs at hx
    unfold awpF
    split at hx
    · rename_i d E ty pos af ho
      split at hx
      · rename_i ii hT
        obtain ⟨hdn, hx⟩ := cond_of hx
        have hti := hX.tab.ti _ _ hT
        obtain ⟨hz, hzo, _⟩ := hX.tab.z _ _ hT C.I N s.c
        have hal : allocOf X n ops i = some (d, ii.z.cells C.I N, E) := by
          unfold allocOf
          rw [ho]
          simp only [hti, Option.bind_some, hz, if_pos (ble_lt hdn)]
        rw [hal]
        simp only
        intro b hb
        have hr := hs.toHR.new (x := .cells E ii.z) (k := .cells (ii.z.cells C.I N) E) hb (by simp only [okB]; exact hzo) (by simp only [BR])
        have he := ext_blk (N := N) b s.c
        have hs2 := (hs.mem (s' := { s with H := (s.c, .cells E ii.z) :: s.H, c := s.c + 1 }) he (Nat.le_succ _) rfl hr).put (d := d) (v := .ptr s.c 0) (by simp only [okV]; exact Nat.lt_succ_self _)
        have e0 : (Val.ptr s.c 0).enc C.I (N.blk s.c b) = .ptr b 0 := by simp only [Val.enc, Nm.blk, if_true]
        rw [e0] at hs2
        refine xfs_sound hX l (N.blk s.c b) _ _ _ hx hs2 ?_
        intro N2 s2 t2 h2 he2 hc2 hs3 hk2 hx2
        refine hK N2 s2 t2 h2 (he.trans (Nat.le_succ _) he2) (Nat.le_trans (Nat.le_succ _) hc2) hs3 (fun q hq => ?_) hx2
        rw [hk2 q fun q' hq' => hq q' (by simp [hq'])]
        exact upd_ne _ _ (fun e => hq i (by simp) (by simp [dstOf, ho, e]))
      · cases hx
    · cases hx
theorem dst_wr {i q : Nat} (h : dstOf ops q = some i) : i ∈ wrO ops.toList := by
  unfold dstOf at h
  cases ho : ops[q]? with
  | none => rw [ho] at h; cases h
  | some o =>
    rw [ho] at h
    have hd : o.dst = some i := h
    exact List.mem_filterMap.2 ⟨o, by rw [← Array.getElem?_toList] at ho; exact List.mem_of_getElem? ho, hd⟩
theorem xdraw_sound {id : Nat} {Q : AExit → St → Prop} (hX : XOKs X C) (hcl : CallsOK X C.I cl) {k : XS → Option ρ} (hx : xdraw C cl n ro ct id ops s k = some r) (hs : SR C.I N s t h h0) (hn : NxtL X C n Q (wrO ops.toList) N s t h0 k r) : WS X n (.region id ops true) Q ⟨t, h⟩ := by
  unfold xdraw at hx
  split at hx
  · rename_i m W F ex hdr
    obtain ⟨hok, hnd, hx⟩ := and_of hx
    simp only [Bool.and_eq_true] at hnd
    obtain ⟨hW, hF, hal⟩ := hnd
    simp only at hx
    obtain ⟨g, Lr, pt⟩ := part (hang s ex) (toHR0 hs)
    have hsr := hs.restr pt
    refine DX.ws_draw hX.x ro.l m W F g hok (nodupB_iff hW) (nodupB_iff hF) pt.sub (allocsOK_spec hX hal) ?_
    have hs0 : SR C.I N { s with H := [], F := dropB (hang s ex) s.H ++ s.F, R := [] } t g g :=
      { heap := ⟨[], rfl, fun i nm b hi => by simp at hi, ⟨Sub.refl g, fun _ hp => (by cases hp), fun _ hp => (by cases hp), by simp⟩⟩
        okH := fun e he => (by cases he), okF := hsr.okF, okR := fun q hq => (by cases hq), slots := hs.slots, okA := hs.okA }
    refine xqs_sound hX hcl _ _ t hx hs0 rfl rfl ?_
    intro A1 t1 hs1 hk1 hx1
    have hs1' : SR C.I N { s with A := A1, H := keepB (hang s ex) s.H, F := dropB (hang s ex) s.H ++ s.F, R := keepR (hang s ex) s.R } t1 h g :=
      { heap := hsr.heap, okH := hsr.okH, okF := hsr.okF, okR := hsr.okR, slots := hs1.slots, okA := hs1.okA }
    refine xws_sound hX hcl W N _ t1 h hx1 hs1' rfl ?_
    intro N2 s2 t2 h2 he2 hc2 hs2 hk2 hx2
    have hs2' : SR C.I N2 { s2 with H := s2.H ++ dropB (hang s ex) s.H, F := s.F, R := s2.R ++ dropR (hang s ex) s.R } t2 h2 h0 := by
      obtain ⟨L2, l1, l2, l3⟩ := hs2.heap
      have hb := pt.back h2 L2 _ l3
      have alr : Al C.I N2 (dropB (hang s ex) s.H) Lr := by
        have hok := fun e he => hs.okH e (dropB_mem (M := hang s ex) he)
        obtain ⟨q1, q2⟩ := pt.al.at
        refine Al.of q1 fun i nm b hi => ?_
        obtain ⟨kk, k1, k2⟩ := q2 i nm b hi
        have ho := hok _ (List.mem_of_getElem? hi)
        exact ⟨kk, by rw [he2.o nm ho.1]; exact k1, k2.ext he2 ho.2⟩
      have al2 := (Al.of l1 l2).app alr
      refine { heap := ⟨L2 ++ Lr, al2.at.1, al2.at.2, ?_⟩, okH := fun e he => ?_, okF := fun e he => ?_, okR := fun q hq => ?_, slots := hs2.slots, okA := hs2.okA }
      · show HP h0 h2 (L2 ++ Lr) ((s2.R ++ dropR (hang s ex) s.R).map (rowR N2))
        rw [List.map_append, rows_ext he2 (R := dropR (hang s ex) s.R) fun q hq => hs.okR q (dropR_mem hq)]
        exact hb
      · rcases List.mem_append.1 he with he | he
        · exact hs2.okH e he
        · have ho := hs.okH e (dropB_mem he)
          exact ⟨Nat.lt_of_lt_of_le ho.1 hc2, ho.2.mono he2 hc2⟩
      · obtain ⟨a1, a2, kk, a3, a4⟩ := hs.okF e he
        exact ⟨Nat.lt_of_lt_of_le a1 hc2, a2.mono he2 hc2, kk, by rw [he2.o _ a1]; exact a3, a4.ext he2 a2⟩
      · rcases List.mem_append.1 hq with hq | hq
        · exact hs2.okR q hq
        · exact Nat.lt_of_lt_of_le (hs.okR q (dropR_mem hq)) hc2
    refine xfs_sound hX F N2 _ t2 h2 hx2 hs2' ?_
    intro N3 s3 t3 h3 he3 hc3 hs3 hk3 hx3
    refine xops_sound hX hcl _ m N3 s3 t3 h3 rfl hx3 hs3 ?_
    intro N4 s4 t4 h4 he4 hc4 hs4 hk4 hx4
    refine hn N4 s4 t4 h4 ((he2.trans hc2 he3).trans (Nat.le_trans hc2 hc3) he4) (Nat.le_trans (Nat.le_trans hc2 hc3) hc4) hs4 (fun i hi => ?_) hx4
    have hd : ∀ q, dstOf ops q ≠ some i := fun q hq => hi (dst_wr hq)
    rw [hk4 i (fun hm => hi ?_), hk3 i (fun q _ => hd q), hk2 i hd, hk1 i (fun q _ => hd q)]
    obtain ⟨o, ho1, ho2⟩ := List.mem_filterMap.1 hm
    exact List.mem_filterMap.2 ⟨o, List.drop_subset _ _ ho1, ho2⟩
end
end Go.Lb
end
section
namespace Go.Lb
mutual
def bulk {H : Type} : DataW H → Nat
  | .lit (.string bytes) => bytes.length + 1
  | .lit _ => 1
  | .nil => 1
  | .ptr d => bulk d + 1
  | .slice elems spare => bulkAll elems + bulkAll spare + 1
  | .agg parts => bulkAll parts + 1
  | .iface _ d => bulk d + 1
  | .map entries => bulkEntries entries + 1
  | .held _ => 1
def bulkAll {H : Type} : List (DataW H) → Nat
  | [] => 0
  | d :: r => bulk d + bulkAll r
def bulkEntries {H : Type} : List (Lit × DataW H) → Nat
  | [] => 0
  | x :: r => bulkEntry x + bulkEntries r
def bulkEntry {H : Type} : Lit × DataW H → Nat
  | (.string bytes, d) => bytes.length + bulk d + 1
  | (_, d) => bulk d + 1
 end
theorem mapM_cons' {α β : Type} {f : α → Option β} {a : α} {l : List α} {r : List β} (h : (a :: l).mapM f = some r) : ∃ y ys, f a = some y ∧ l.mapM f = some ys ∧ r = y :: ys := by
  simp only [List.mapM_cons, Option.bind_eq_bind, Option.bind_eq_some_iff] at h
  obtain ⟨y, h1, ys, h2, h3⟩ := h
  exact ⟨y, ys, h1, h2, by simpa using h3.symm⟩
theorem mapM_nil' {α β : Type} {f : α → Option β} {r : List β} (h : ([] : List α).mapM f = some r) : r = [] := by
  simpa using h.symm
theorem RelL_cons {fz : Fz} {w : World} {u : AV} {us : List AV} {c : Value} {cs : List Value} : RelL fz w (u :: us) (c :: cs) ↔ Rel fz w u c ∧ RelL fz w us cs := by
  simp only [RelL]
  constructor
  · rintro ⟨c', l', h, h1, h2⟩
    injection h with h h'
    subst h; subst h'
    exact ⟨h1, h2⟩
  · rintro ⟨h1, h2⟩
    exact ⟨c, cs, rfl, h1, h2⟩
theorem RelL_nil {fz : Fz} {w : World} : RelL fz w [] [] ↔ True := by simp [RelL]
def fzW (W : World) : Fz := fun b o => ∃ c, W.cell? ⟨b, o, none⟩ = some c
theorem mapM_all {α β : Type} {f : α → Option β} : ∀ {l : List α} {r : List β}, l.mapM f = some r → ∀ x ∈ l, ∃ y, f x = some y
  | [], _, _, x, hx => by cases hx
  | a :: l, r, h, x, hx => by
    simp only [List.mapM_cons, Option.bind_eq_bind, Option.bind_eq_some_iff] at h
    obtain ⟨y, h1, ys, h2, _⟩ := h
    rcases List.mem_cons.1 hx with rfl | hx
    · exact ⟨y, h1⟩
    · exact mapM_all h2 x hx
theorem RelAt.app {fz : Fz} {w : World} : ∀ {us vs : List AV} {b o : Nat}, RelAt fz w us b o → RelAt fz w vs b (o + us.length) → RelAt fz w (us ++ vs) b o
  | [], vs, b, o, _, h => by simpa using h
  | u :: us, vs, b, o, h1, h2 => by
    simp only [RelAt, List.cons_append] at h1 ⊢
    exact ⟨h1.1, RelAt.app h1.2 (by rw [show o + 1 + us.length = o + (u :: us).length by simp; omega]; exact h2)⟩
theorem relAt_cells {W : World} : ∀ {us : List AV} {cs : List Value} {b o : Nat}, RelL (fzW W) W us cs → (∀ j c, cs[j]? = some c → W.cell? ⟨b, o + j, none⟩ = some c) → RelAt (fzW W) W us b o
  | [], _, _, _, _, _ => by simp [RelAt]
  | u :: us, cs, b, o, h, hc => by
    simp only [RelL] at h
    obtain ⟨c, l, rfl, h1, h2⟩ := h
    simp only [RelAt]
    have h0 := hc 0 c rfl
    refine ⟨⟨c, by simpa using h0, ⟨c, by simpa using h0⟩, h1⟩, relAt_cells h2 fun j c' hj => ?_⟩
    have := hc (j + 1) c' (by simpa using hj)
    rw [show o + 1 + j = o + (j + 1) by omega]
    exact this
theorem add_none (b o n : Nat) : (⟨b, o, none⟩ : Addr).add n = ⟨b, o + n, none⟩ := by
  unfold Addr.add
  split
  · rename_i h; subst h; rfl
  · rfl
theorem spot_none {W : World} {a : Addr} {c : Value} (h : W.cell? a = some c) : a.spot = none := by
  unfold World.cell? at h
  split at h
  · cases hs : a.spot with
    | none => rfl
    | some q => rw [hs] at h; simp at h
  · cases h
section
variable {H : Type} {enc : TypeId × Value → H} {P : Program} {W : World} {spare : Nat → Bool} {held : Bool}
theorem rd_row {α : Type} [E : EncL α] {ok : α → Prop} {w : α → Nat} {sz : Nat} {b o : Nat} (hsz : E.sz = sz) {f : Nat → Option (DataW H × List MemPlace)}
    (hg : ∀ i y, f i = some y → ∃ x : α, ok x ∧ w x ≤ bulk y.1 ∧ RelAt (fzW W) W (E.enc x) b (o + i * sz)) : ∀ (k s : Nat) (ys : List (DataW H × List MemPlace)), (List.range' s k).mapM f = some ys → ∃ l : List α, l.length = k ∧ (∀ x ∈ l, ok x) ∧ R.sumL w l ≤ bulkAll (ys.map (·.1)) ∧ RelAt (fzW W) W (E.encs l) b (o + s * sz)
  | 0, s, ys, _ => ⟨[], rfl, fun x hx => (by cases hx), Nat.zero_le _, by rw [E.flat]; simp [RelAt]⟩
  | k + 1, s, ys, h => by
    rw [List.range'_succ] at h
    obtain ⟨y, ys', h1, h2, rfl⟩ := mapM_cons' h
    obtain ⟨x, hx, hw, hr⟩ := hg s y h1
    obtain ⟨l, e1, e2, e3, e4⟩ := rd_row hsz hg k (s + 1) ys' h2
    refine ⟨x :: l, by simp [e1], fun y hy => ?_, ?_, ?_⟩
    · rcases List.mem_cons.1 hy with rfl | hy
      · exact hx
      · exact e2 y hy
    · simp only [R.sumL, List.map_cons, bulkAll]
      omega
    · have : E.encs (x :: l) = E.enc x ++ E.encs l := by rw [E.flat, E.flat]; rfl
      rw [this]
      refine RelAt.app hr ?_
      rw [E.len, hsz, show o + s * sz + sz = o + (s + 1) * sz by rw [Nat.add_mul]; omega]
      exact e4
theorem rd_sl {α : Type} [E : EncL α] {ok : α → Prop} {w : α → Nat} {e t : TypeId} {sz fuel : Nat} (ht : P.underlying t = some (.slice e)) (hsz : P.cellsOf e = sz) (hE : E.sz = sz) (h0 : 0 < sz)
    (hr : ∀ cs d ps, DataW.trod enc P W 0 spare held fuel e cs = some (d, ps) → ∃ x : α, ok x ∧ w x ≤ bulk d ∧ RelL (fzW W) W (E.enc x) cs)
    {v : Value} {d : DataW H} {ps : List MemPlace} (h : DataW.trod enc P W 0 spare held (fuel + 1) t [v] = some (d, ps)) : ∃ l : List α, l.length ≤ R.MX ∧ (∀ x ∈ l, ok x) ∧ R.sumL w l + 1 ≤ bulk d ∧ Rel (fzW W) W (.sl l.length (E.encs l) .shared) v := by
  unfold DataW.trod at h
  rw [ht] at h
  split at h <;> rename_i hu hcs <;> first | (cases hu; done) | (cases hcs; done) | skip
  ·
    cases hcs
    injection h with h
    injection h with hd _
    subst hd
    refine ⟨[], by simp, fun x hx => (by cases hx), by simp [R.sumL, bulk], ?_⟩
    simp only [Rel]
    exact ⟨none, 0, rfl, by simp, by simp [maxLen], trivial, .inl ⟨rfl, by rw [E.flat]; rfl⟩⟩
  · rename_i a len cap
    injection hu with hu
    injection hu with hu
    subst hu
    injection hcs with hcs
    subst hcs
    split at h
    · rename_i hb
      obtain ⟨elems, he, hd⟩ := Option.bind_eq_some_iff.1 h
      obtain ⟨rest, _, hd⟩ := Option.map_eq_some_iff.1 hd
      injection hd with hd _
      subst hd
      have hall := mapM_all he
      have hsp : 0 < len → a.spot = none := fun hlen => by
        obtain ⟨y, hy⟩ := hall 0 (List.mem_range.2 hlen)
        obtain ⟨cs, hc1, hc2⟩ := Option.bind_eq_some_iff.1 hy
        obtain ⟨_, hl, hcell⟩ := World.cells?_some hc1
        rw [hsz] at hl hcell
        have h00 := hcell 0 h0
        rw [List.getElem?_eq_getElem (by omega : 0 < cs.length)] at h00
        have e0 : ∀ x : Addr, x.add 0 = x := fun x => by unfold Addr.add; simp
        rw [Nat.zero_mul, e0, e0] at h00
        exact spot_none h00
      rw [List.range_eq_range'] at he
      obtain ⟨l, h1, h2, h3, h4⟩ : ∃ l : List α, l.length = len ∧ (∀ x ∈ l, ok x) ∧ R.sumL w l ≤ bulkAll (elems.map (·.1)) ∧ RelAt (fzW W) W (E.encs l) a.block (a.off + 0 * sz) := by
        cases hlen : len with
        | zero =>
          refine ⟨[], rfl, fun x hx => (by cases hx), Nat.zero_le _, ?_⟩
          rw [E.flat]
          simp [RelAt]
        | succ n =>
          have hs := hsp (by omega)
          rw [hlen] at he
          refine rd_row hE (fun i y hy => ?_) (n + 1) 0 elems he
          obtain ⟨cs, hc1, hc2⟩ := Option.bind_eq_some_iff.1 hy
          obtain ⟨_, hl, hcell⟩ := World.cells?_some hc1
          rw [hsz] at hl hcell
          obtain ⟨x, hx, hw, hrel⟩ := hr cs y.1 y.2 hc2
          refine ⟨x, hx, hw, relAt_cells hrel fun j c hj => ?_⟩
          have hjl : j < sz := by
            have := (List.getElem?_eq_some_iff.1 hj).1
            omega
          have := hcell j hjl
          rw [hj] at this
          rw [← this]
          obtain ⟨ab, ao, asp⟩ := a
          simp only at hs
          subst hs
          rw [add_none, add_none]
      rw [Nat.zero_mul, Nat.add_zero] at h4
      refine ⟨l, by have := hb.2.2; have := hb.2.1; simp only [maxLen] at *; simp only [R.MX]; omega, h2, by simp only [bulk]; omega, ?_⟩
      simp only [Rel]
      refine ⟨some a, cap, by rw [h1], by rw [h1]; exact hb.2.1, hb.2.2, trivial, ?_⟩
      cases hl : l with
      | nil => exact .inl ⟨rfl, by rw [E.flat]; rfl⟩
      | cons y l' =>
        have hlen : 0 < len := by rw [← h1, hl]; simp
        have hs := hsp hlen
        refine .inr ⟨a.block, a.off, by cases a; simp only at hs; rw [hs], ?_⟩
        rw [← hl]
        exact h4
    · cases h
  · cases h
theorem rd_sl1 {α : Type} [E : EncL α] {ok : α → Prop} {w : α → Nat} {e t : TypeId} {sz fuel : Nat} (ht : P.underlying t = some (.slice e)) (hsz : P.cellsOf e = sz) (hE : E.sz = sz) (h0 : 0 < sz)
    (hr : ∀ f, f < fuel → ∀ cs d ps, DataW.trod enc P W 0 spare held f e cs = some (d, ps) → ∃ x : α, ok x ∧ w x ≤ bulk d ∧ RelL (fzW W) W (E.enc x) cs)
    {v : Value} {y : DataW H × List MemPlace} (h : DataW.trod enc P W 0 spare held fuel t [v] = some y) : ∃ l : List α, l.length ≤ R.MX ∧ (∀ x ∈ l, ok x) ∧ R.sumL w l + 1 ≤ bulk y.1 ∧ Rel (fzW W) W (.sl l.length (E.encs l) .shared) v := by
  cases fuel with
  | zero => unfold DataW.trod at h; cases h
  | succ fuel => exact rd_sl (E := E) ht hsz hE h0 (hr fuel (Nat.lt_succ_self _)) (d := y.1) (ps := y.2) h
theorem rd_st {t : TypeId} {fs : Array Field} {fuel : Nat} (ht : P.underlying t = some (.struct fs)) {cs : List Value} {d : DataW H} {ps : List MemPlace} (h : DataW.trod enc P W 0 spare held (fuel + 1) t cs = some (d, ps)) :
    cs.length = P.cellsOf t ∧ ∃ xs, (fs.toList.mapM fun f => DataW.trod enc P W 0 spare held fuel f.type ((cs.drop f.offset).take (P.cellsOf f.type))) = some xs ∧ bulk d = bulkAll (xs.map (·.1)) + 1 := by
  unfold DataW.trod at h
  rw [ht] at h
  have fin : (if cs.length = P.cellsOf t then (fs.toList.mapM fun f => DataW.trod enc P W 0 spare held fuel f.type ((cs.drop f.offset).take (P.cellsOf f.type))).map fun xs => ((.agg (xs.map (·.1)) : DataW H), xs.flatMap (·.2)) else none) = some (d, ps) → cs.length = P.cellsOf t ∧ ∃ xs, (fs.toList.mapM fun f => DataW.trod enc P W 0 spare held fuel f.type ((cs.drop f.offset).take (P.cellsOf f.type))) = some xs ∧ bulk d = bulkAll (xs.map (·.1)) + 1 := by
    intro h
    split at h
    · rename_i hl
      obtain ⟨xs, hx, hd⟩ := Option.map_eq_some_iff.1 h
      injection hd with hd _
      subst hd
      exact ⟨hl, xs, hx, by simp only [bulk]⟩
    · cases h
  split at h <;> rename_i hu hcs <;> first | (cases hu; done) | (cases hcs; done) | (cases h; done) | skip
  all_goals first | exact fin h | (injection hcs with hcs; injection hcs with hcs; subst hcs; exact fin h) | (injection hu with hu; injection hu with hu; subst hu; exact fin h)
theorem rd_int {t : TypeId} {k : IntKind} {fuel : Nat} (ht : P.underlying t = some (.int k)) {cs : List Value} {y : DataW H × List MemPlace} (h : DataW.trod enc P W 0 spare held fuel t cs = some y) : ∃ n, cs = [.int k n] ∧ (Lit.int k n).wf = true ∧ bulk y.1 = 1 := by
  cases fuel with
  | zero => unfold DataW.trod at h; cases h
  | succ fuel =>
    unfold DataW.trod at h
    rw [ht] at h
    split at h <;> rename_i hu hcs <;> first | (cases hu; done) | (cases hcs; done) | (cases h; done) | skip
    all_goals
      split at h
      · rename_i hk
        cases h
        injection hcs with hcs
        injection hcs with hcs
        subst hcs
        obtain ⟨hk1, hk2⟩ := hk
        subst hk1
        exact ⟨_, rfl, hk2, by simp only [bulk]⟩
      · cases h
theorem rd_bool {t : TypeId} {fuel : Nat} (ht : P.underlying t = some .bool) {cs : List Value} {y : DataW H × List MemPlace} (h : DataW.trod enc P W 0 spare held fuel t cs = some y) : ∃ b, cs = [.bool b] ∧ bulk y.1 = 1 := by
  cases fuel with
  | zero => unfold DataW.trod at h; cases h
  | succ fuel =>
    unfold DataW.trod at h
    rw [ht] at h
    split at h <;> rename_i hu hcs <;> first | (cases hu; done) | (cases hcs; done) | (cases h; done) | skip
    all_goals
      cases h
      exact ⟨_, rfl, by simp only [bulk]⟩
theorem rd_str {t : TypeId} {fuel : Nat} (ht : P.underlying t = some .string) {cs : List Value} {y : DataW H × List MemPlace} (h : DataW.trod enc P W 0 spare held fuel t cs = some y) : ∃ s : Str, s.length ≤ R.MX ∧ cs = [.string ⟨s.toArray⟩] ∧ bulk y.1 = s.length + 1 := by
  cases fuel with
  | zero => unfold DataW.trod at h; cases h
  | succ fuel =>
    unfold DataW.trod at h
    rw [ht] at h
    split at h <;> rename_i hu hcs <;> first | (cases hu; done) | (cases hcs; done) | skip
    · split at h
      · rename_i hs
        cases h
        refine ⟨hu.data.toList, ?_, (by cases hu; rfl), by simp only [bulk]⟩
        have : hu.data.toList.length = hu.size := Array.length_toList
        simp only [maxLen] at hs
        simp only [R.MX]
        omega
      · cases h
    · cases h
end
end Go.Lb
end
section
namespace Go.Lb
open Go.RowKit (Below)
section
variable {X : Cx} {C : XC} {n : Nat}
theorem pack_exit {I : Ids} {N : Nm} {s : XS} {t : Nat → AV} {h h0 : Heap} {σ : List (Nat × Nat)} {f : Fm} {x : DenF f} (hs : SR I N s t h h0) (hx : packF s f σ = some x) : ∃ (N1 : Nm) (t1 : Nat → AV) (h1 : Heap), Pull N σ N1 ∧ HWk h h1 ∧ (∀ i, Weak (t i) (t1 i)) ∧ (∀ i, i ∉ f.sl.map (·.1) → t1 i = t i) ∧ WF f ∧ SR I N1 (stF f x) t1 h1 h0 := by
  obtain ⟨N1, t1, h1, a1, a2, a3, a4, a5, a6, a7, a8⟩ := pack_SR hs hx
  obtain ⟨L, hp, hlk, _, _⟩ := hs.view
  refine ⟨N1, t1, h1, a1, a2, a3, a4, a5, a8 h0 hp.sub (fun j hj a ha => ?_) (fun j hj a ha b cap hb => ?_)⟩
  · obtain ⟨a', b, e1, e2⟩ := a6 j hj
    rw [ha] at e1
    injection e1 with e1
    subst e1
    obtain ⟨i, k, _, l2, _⟩ := hlk a b e2
    exact (hp.blk _ (List.mem_of_getElem? l2)).2
  · obtain ⟨q, hq, rfl⟩ := List.mem_map.1 hj
    obtain ⟨i, hi, _⟩ := hasR_at (a7 q hq a ha)
    rcases hp.row _ (List.mem_map.2 ⟨_, List.mem_of_getElem? hi, rfl⟩) with hf | ⟨b', cap', c1, c2, c3⟩
    · simp only [rowR] at hf; rw [hf] at hb; cases hb
    · simp only [rowR] at c1; rw [c1] at hb; injection hb with hb _; subst hb; exact c3
theorem pack_exitW {I : Ids} {N : Nm} {s : XS} {t : Nat → AV} {h h0 : Heap} {σ : List (Nat × Nat)} {f : Fm} {x : DenF f} {W : List Nat} (hs : SR I N s t h h0) (hx : packF s f σ = some x) (he : exactS W s.A f.sl = true) : ∃ (N1 : Nm) (t1 : Nat → AV) (h1 : Heap), Pull N σ N1 ∧ HWk h h1 ∧ (∀ i, Weak (t i) (t1 i)) ∧ (∀ i, i ∉ W → t1 i = t i) ∧ WF f ∧ SR I N1 (stF f x) t1 h1 h0 := by
  obtain ⟨N1, t1, h1, a1, a2, a3, a4, a5, a6, a7, a8⟩ := pack_SRW hs hx he
  obtain ⟨L, hp, hlk, _, _⟩ := hs.view
  refine ⟨N1, t1, h1, a1, a2, a3, a4, a5, a8 h0 hp.sub (fun j hj a ha => ?_) (fun j hj a ha b cap hb => ?_)⟩
  · obtain ⟨a', b, e1, e2⟩ := a6 j hj
    rw [ha] at e1
    injection e1 with e1
    subst e1
    obtain ⟨i, k, _, l2, _⟩ := hlk a b e2
    exact (hp.blk _ (List.mem_of_getElem? l2)).2
  · obtain ⟨q, hq, rfl⟩ := List.mem_map.1 hj
    obtain ⟨i, hi, _⟩ := hasR_at (a7 q hq a ha)
    rcases hp.row _ (List.mem_map.2 ⟨_, List.mem_of_getElem? hi, rfl⟩) with hf | ⟨b', cap', c1, c2, c3⟩
    · simp only [rowR] at hf; rw [hf] at hb; cases hb
    · simp only [rowR] at c1; rw [c1] at hb; injection hb with hb _; subst hb; exact c3
def NxtE (X : Cx) (C : XC) (n : Nat) (Q : AExit → St → Prop) (W : List Nat) {ρ : Type} (N : Nm) (s : XS) (t : Nat → AV) (h0 : Heap) (k : XE → XS → Option ρ) (r : ρ) : Prop :=
  ∀ e N' s' t' h', Ext s.c N N' → s.c ≤ s'.c → SR C.I N' s' t' h' h0 → (∀ i, i ∉ W → t' i = t i) → k e s' = some r → WK X n Q (e.toA C.I N') ⟨t', h'⟩
def RunOK (X : Cx) (C : XC) (n : Nat) (W : List Nat) (c : Code) (run : CodeX) (p : List Nat) : Prop :=
  ∀ (ct : Cert) (ρ : Type) (s : XS) (k : XE → XS → Option ρ) (r : ρ) (N : Nm) (t : Nat → AV) (h h0 : Heap) (Q : AExit → St → Prop), run p ct ρ s k = some r → SR C.I N s t h h0 → NxtE X C n Q W N s t h0 k r → WS X n c Q ⟨t, h⟩
theorem wk_of {t t1 : Nat → AV} {h h1 : Heap} (hw : HWk h h1) (ht : ∀ i, Weak (t i) (t1 i)) : Wk X n ⟨t, h⟩ ⟨t1, h1⟩ := fun fz w a hs => hw.wk (X := X) (n := n) (t := t1) fz w a (hs.weak ht (Sub.refl _))
theorem xk_toA {I : Ids} {N N' : Nm} (k : XK) : k.toE.toA I N = k.toE.toA I N' := by cases k <;> rfl
theorem lkN_app {σ σ' : List (Nat × Nat)} {j a : Nat} (h : lkN σ j = some a) : lkN (σ ++ σ') j = some a := by
  induction σ with
  | nil => cases h
  | cons p r ih =>
    obtain ⟨i, v⟩ := p
    simp only [List.cons_append, lkN] at h ⊢
    cases hb : Nat.beq j i with
    | true => rw [hb] at h; exact h
    | false => rw [hb] at h; exact ih h
theorem lkN_sigF {s : XS} {f : Fm} {σ : List (Nat × Nat)} {j a : Nat} (h : lkN σ j = some a) : lkN (sigF s f σ) j = some a := by
  unfold sigF
  exact lkN_app (lkN_app h)
theorem sigJ_ok {N : Nm} {c : Nat} {A : List (Nat × Val)} (ho : ∀ i, okV N c (lkV A i)) : ∀ {jb : List (Nat × Nat)} {j a : Nat}, lkN (sigJ A jb) j = some a → a < c
  | [], j, a, h => by cases h
  | (j', i) :: r, j, a, h => by
    have hm := lkN_key h
    simp only [sigJ] at h hm
    have hi := ho i
    split at h
    · rename_i a' _ he
      rw [he] at hi
      simp only [okV] at hi
      simp only [List.cons_append, List.nil_append, lkN] at h
      cases hb : Nat.beq j j' with
      | true => rw [hb] at h; simp only [cond_true, Option.some.injEq] at h; rw [← h]; exact hi
      | false => rw [hb] at h; exact sigJ_ok ho h
    · rename_i a' he
      rw [he] at hi
      simp only [okV] at hi
      simp only [List.cons_append, List.nil_append, lkN] at h
      cases hb : Nat.beq j j' with
      | true => rw [hb] at h; simp only [cond_true, Option.some.injEq] at h; rw [← h]; exact hi
      | false => rw [hb] at h; exact sigJ_ok ho h
    · simp only [List.nil_append] at h
      exact sigJ_ok ho h
theorem xj_sound {W : List Nat} {c : Code} {run : CodeX} {p : List Nat} (hr : RunOK X C n W c run p) : RunOK X C n W c (xj W run) p := by
  intro ct ρ s k r N t h h0 Q hx hs hn
  unfold xj at hx
  split at hx
  · rename_i jb jr al c'
    simp only [fS_eq] at hx
    obtain ⟨x, hx1, hx2⟩ := Option.bind_eq_some_iff.1 hx
    obtain ⟨h0', Lr, pt⟩ := part ((sigJ s.A jb).map (·.2) ++ rowsJ s.A jr) (toHR0 hs)
    refine hr c' (DenA al) _ _ x N t h h0' Q hx1 (hs.restr pt) ?_
    intro e N' s' t' h' he hc hs' hk hp
    obtain ⟨xk, f, y, ho, rfl, hpk⟩ := packA_spec hp
    obtain ⟨N2, t2, h2, a1, a2, a3, a4, a5, a6⟩ := pack_exit hs' hpk
    obtain ⟨b1, b2, b3⟩ := backA_spec hx2 ho
    have hi : ∀ i, i ∉ W → t2 i = t i := fun i hi => by rw [a4 i (fun hm => hi (b2 i hm)), hk i hi]
    have hback := back_SR (W := W) (t3 := t2) hs pt a6 a5 (σb := sigJ s.A jb) (fun j a hja => by
      have hac := sigJ_ok hs.okA hja
      exact ⟨hac, by rw [a1.o j a (lkN_sigF hja)]; exact he.o a hac⟩) b1 (fun _ _ => rfl) (fun i _ h2 => hi i h2)
    have := hn xk.toE _ _ t2 h2 (ext_join s.c) (Nat.le_add_right _ _) hback hi b3
    rw [xk_toA (N' := N')] at this
    exact this.wk (wk_of a2 a3)
  · exact hr ct ρ s k r N t h h0 Q hx hs hn
def LoopOK1 (X : Cx) (C : XC) (n : Nat) (b : Code) (L : Con) (x : DenF L.f) (y : DenA L.al) : Prop :=
  ∀ (N : Nm) (t : Nat → AV) (h h0 : Heap) (Q : AExit → St → Prop), SR C.I N (stF L.f x) t h h0 →
    (∀ e f y', OutA L.al y e f y' → WF f → ∀ N' t' h', (∀ j ∈ L.f.bl.map (·.1), N'.o j = N.o j) → SR C.I N' (stF f y') t' h' h0 → (∀ i, i ∉ wrC b → i ∉ f.sl.map (·.1) → t' i = t i) → WK X n Q (e.toE.toA C.I N') ⟨t', h'⟩) → WL X n b Q ⟨t, h⟩
def LpsOK (X : Cx) (C : XC) (n : Nat) (f0 : FuncId) (body : Code) : Prop :=
  ∀ i q L, C.lp i = some (f0, q, L) → ∀ b, cAt body q = .loop b → ∀ x y, L.fn x = some y → LoopOK1 X C n b L x y
theorem eqL_eq : ∀ {a b : List Nat}, eqL a b = true → a = b
  | [], [], _ => rfl
  | [], _ :: _, h => by cases h
  | _ :: _, [], h => by cases h
  | a :: l, b :: m, h => by
    simp only [eqL, Bool.and_eq_true] at h
    rw [natBeq h.1, eqL_eq h.2]
theorem toA_then {I : Ids} {N : Nm} {Q : AExit → St → Prop} {next : St → Prop} {e : XE} {s : St} (he : e ≠ .normal) (h : WK X n Q (e.toA I N) s) : WK X n (thenA next Q) (e.toA I N) s := by
  cases e <;> first | (exact absurd rfl he) | exact h.mono fun s hq => hq
theorem xunr_sound {b : Code} {run : CodeX} {p : List Nat} (hr : RunOK X C n (wrC b) b run p) (ct : Cert) : ∀ (m : Nat) (ρ : Type) (s : XS) (k : XE → XS → Option ρ) (r : ρ) (N : Nm) (t : Nat → AV) (h h0 : Heap) (Q : AExit → St → Prop), xunr run p ct m ρ s k = some r → SR C.I N s t h h0 → NxtE X C n Q (wrC b) N s t h0 k r → WL X n b Q ⟨t, h⟩
  | 0, _, _, _, _, _, _, _, _, _, hx, _, _ => by cases hx
  | m + 1, ρ, s, k, r, N, t, h, h0, Q, hx, hs, hn => by
    simp only [xunr] at hx
    refine wl_unfold (hr ct ρ s _ r N t h h0 _ hx hs ?_)
    intro e N' s' t' h' he hc hs' hk hx'
    by_cases hen : e = .normal
    · subst hen
      simp only at hx'
      refine wk_mk (s := ⟨t', h'⟩) (xunr_sound hr ct m ρ s' k r N' t' h' h0 Q hx' hs' ?_)
      intro e2 N2 s2 t2 h2 he2 hc2 hs2 hk2 hx2
      exact hn e2 N2 s2 t2 h2 (he.trans hc he2) (Nat.le_trans hc hc2) hs2 (fun i hi => by rw [hk2 i hi, hk i hi]) hx2
    · refine toA_then hen (hn e N' s' t' h' he hc hs' hk ?_)
      cases e <;> first | exact absurd rfl hen | exact hx'
variable {cl : CallH} {ro : RO} {f0 : FuncId} {body : Code}
theorem xcode_sound (hX : XOKs X C) (hcl : CallsOK X C.I cl) (hlp : LpsOK X C n f0 body) : ∀ (c : Code) (p : List Nat), cAt body p = c → RunOK X C n (wrC c) c (xcode C cl n ro f0 c) p := by
  intro c
  induction c with
  | skip =>
    intro p hc ct ρ s k r N t h h0 Q hx hs hn
    simp only [xcode] at hx
    exact ws_skip (hn .normal N s t h (Ext.refl _ _) (Nat.le_refl _) hs (fun _ _ => rfl) hx)
  | ret =>
    intro p hc ct ρ s k r N t h h0 Q hx hs hn
    simp only [xcode] at hx
    exact ws_ret (hn .ret N s t h (Ext.refl _ _) (Nat.le_refl _) hs (fun _ _ => rfl) hx)
  | exit id =>
    intro p hc ct ρ s k r N t h h0 Q hx hs hn
    simp only [xcode] at hx
    exact ws_exit (hn (.exit id) N s t h (Ext.refl _ _) (Nat.le_refl _) hs (fun _ _ => rfl) hx)
  | label l =>
    intro p hc ct ρ s k r N t h h0 Q hx hs hn
    simp only [xcode] at hx
    exact ws_label (hn .normal N s t h (Ext.refl _ _) (Nat.le_refl _) hs (fun _ _ => rfl) hx)
  | region id ops d =>
    intro p hc ct ρ s k r N t h h0 Q hx hs hn
    cases d with
    | true =>
      simp only [xcode, cond_true] at hx
      refine xdraw_sound (k := fun s => k .normal s) hX hcl hx hs ?_
      intro N' s' t' h' he hc hs' hk hx'
      exact hn .normal N' s' t' h' he hc hs' hk hx'
    | false =>
      simp only [xcode, cond_false] at hx
      refine ws_region (xops_sound (k := fun s => k .normal s) hX hcl ops.toList 0 N s t h rfl hx hs ?_)
      intro N' s' t' h' he hc hs' hk hx'
      exact hn .normal N' s' t' h' he hc hs' hk hx'
  | seq a b iha ihb =>
    intro p hc ct ρ s k r N t h h0 Q hx hs hn
    simp only [xcode] at hx
    have ha := xj_sound (iha (0 :: p) (by simp only [cAt, hc, child]))
    have hb := xj_sound (ihb (1 :: p) (by simp only [cAt, hc, child]))
    refine ws_seq (ha ct.a ρ s _ r N t h h0 _ hx hs ?_)
    intro e N' s' t' h' he hcc hs' hk hx'
    have hW : ∀ i, i ∉ wrC (.seq a b) → i ∉ wrC a ∧ i ∉ wrC b := fun i hi => by simp only [wrC, List.mem_append, not_or] at hi; exact hi
    by_cases hen : e = .normal
    · subst hen
      simp only at hx'
      refine wk_mk (s := ⟨t', h'⟩) ?_
      refine hb ct.b ρ s' k r N' t' h' h0 Q hx' hs' ?_
      intro e2 N2 s2 t2 h2 he2 hc2 hs2 hk2 hx2
      exact hn e2 N2 s2 t2 h2 (he.trans hcc he2) (by omega) hs2 (fun i hi => by rw [hk2 i (hW i hi).2, hk i (hW i hi).1]) hx2
    · refine toA_then hen (hn e N' s' t' h' he hcc hs' (fun i hi => hk i (hW i hi).1) ?_)
      cases e <;> first | exact absurd rfl hen | exact hx'
  | cond c a b iha ihb =>
    intro p hc ct ρ s k r N t h h0 Q hx hs hn
    simp only [xcode] at hx
    have ha := xj_sound (iha (0 :: p) (by simp only [cAt, hc, child]))
    have hb := xj_sound (ihb (1 :: p) (by simp only [cAt, hc, child]))
    split at hx
    · rename_i b0 hev
      have hv := ev_enc (X := X) hs c (by rw [hev]; simp)
      rw [hev] at hv
      simp only [Val.enc] at hv
      refine ws_cond hv (fun e => ?_) (fun e => ?_)
      · subst e
        refine ha ct.a ρ s k r N t h h0 Q hx hs ?_
        intro e2 N2 s2 t2 h2 he2 hc2 hs2 hk2 hx2
        exact hn e2 N2 s2 t2 h2 he2 hc2 hs2 (fun i hi => hk2 i (by simp only [wrC, List.mem_append, not_or] at hi; exact hi.1)) hx2
      · subst e
        refine hb ct.b ρ s k r N t h h0 Q hx hs ?_
        intro e2 N2 s2 t2 h2 he2 hc2 hs2 hk2 hx2
        exact hn e2 N2 s2 t2 h2 he2 hc2 hs2 (fun i hi => hk2 i (by simp only [wrC, List.mem_append, not_or] at hi; exact hi.2)) hx2
    · cases hx
  | block id b ih =>
    intro p hc ct ρ s k r N t h h0 Q hx hs hn
    simp only [xcode] at hx
    have hb := xj_sound (ih (0 :: p) (by simp only [cAt, hc, child]))
    refine ws_block (hb ct.a ρ s _ r N t h h0 _ hx hs ?_)
    intro e N' s' t' h' he hcc hs' hk hx'
    cases e with
    | exit i =>
      simp only at hx'
      cases hi : Nat.beq i id with
      | true =>
        rw [hi] at hx'
        have := hn .normal N' s' t' h' he hcc hs' hk hx'
        refine this.mono fun s2 hq => ?_
        show (if i = id then Q .normal s2 else Q (.exit i) s2)
        rw [if_pos (natBeq hi)]; exact hq
      | false =>
        rw [hi] at hx'
        have := hn (.exit i) N' s' t' h' he hcc hs' hk hx'
        refine this.mono fun s2 hq => ?_
        show (if i = id then Q .normal s2 else Q (.exit i) s2)
        rw [if_neg (fun e => by subst e; simp at hi)]; exact hq
    | normal => exact (hn .normal N' s' t' h' he hcc hs' hk hx').mono fun s2 hq => hq
    | goto l => exact (hn (.goto l) N' s' t' h' he hcc hs' hk hx').mono fun s2 hq => hq
    | ret => exact (hn .ret N' s' t' h' he hcc hs' hk hx').mono fun s2 hq => hq
    | panic v => exact (hn (.panic v) N' s' t' h' he hcc hs' hk hx').mono fun s2 hq => hq
  | scope b ih =>
    intro p hc ct ρ s k r N t h h0 Q hx hs hn
    simp only [xcode] at hx
    have hb := xj_sound (ih (0 :: p) (by simp only [cAt, hc, child]))
    refine ws_scope (hb ct.a ρ s _ r N t h h0 _ hx hs ?_)
    intro e N' s' t' h' he hcc hs' hk hx'
    cases e with
    | goto l => cases hx'
    | exit i => exact (hn (.exit i) N' s' t' h' he hcc hs' hk hx').mono fun s2 hq => hq
    | normal => exact (hn .normal N' s' t' h' he hcc hs' hk hx').mono fun s2 hq => hq
    | ret => exact (hn .ret N' s' t' h' he hcc hs' hk hx').mono fun s2 hq => hq
    | panic v => exact (hn (.panic v) N' s' t' h' he hcc hs' hk hx').mono fun s2 hq => hq
  | loop b ih =>
    intro p hc ct ρ s k r N t h h0 Q hx hs hn
    cases ct with
    | loop i =>
      simp only [xcode] at hx
      split at hx
      · rename_i f q L hl
        obtain ⟨h1, h2, hx3⟩ := and_of hx
        clear hx
        have e1 := natBeq h1
        have e2 := eqL_eq h2
        subst e1; subst e2
        obtain ⟨x, y, N1, t1, h1, h0', c1, c2, c3, c4, c5, _, _, c8⟩ := xcon_pre hx3 hs
        refine ws_loop (WL.wk (wk_of c2 c3) (hlp i q L hl b hc x y c1 N1 t1 h1 h0' Q c5 ?_))
        intro e f y' ho wf N' t' h' hN hs' ht
        obtain ⟨N3, s3, d1, d2, d3, _, d4, d5⟩ := c8 e f y' ho wf N' t' h' hN hs' ht
        have := hn e.toE N3 s3 t' h' d1 d2 d3 d4 d5
        rw [xk_toA (N' := N')] at this
        exact this
      · cases hx
    | _ =>
      simp only [xcode] at hx
      exact ws_loop (xunr_sound (ih (0 :: p) (by simp only [cAt, hc, child])) _ _ _ _ _ _ _ _ _ _ _ hx hs hn)
  | _ => intro p hc ct ρ s k r N t h h0 Q hx hs hn; simp only [xcode, reduceCtorEq] at hx
end
end Go.Lb
end
section
namespace Go.Lb
open Go.RowKit (Below)
section
variable {X : Cx} {C : XC} {n : Nat} {ρ : Type} {r : ρ} {N : Nm} {s : XS} {t : Nat → AV} {h h0 : Heap} {cl : CallH}
theorem resX_sound (hX : XOKs X C) (hs : SR C.I N s t h h0) {rv : ResultVar} {k : Val → Option ρ} (hx : resX C s rv k = some r) : ∃ v av, k v = some r ∧ resOf X ⟨t, h⟩ rv = some av ∧ Weak av (v.enc C.I N) ∧ okV N s.c v := by
  cases rv with
  | tmp i =>
    simp only [resX] at hx
    rw [force_eq] at hx
    exact ⟨_, _, hx, rfl, slot_weak hs i, hs.okA i⟩
  | cell ad ty =>
    simp only [resX] at hx
    have hj : lkV s.A ad ≠ .junk := fun e => by
      rw [e] at hx
      unfold xload at hx
      split at hx <;> cases hx
    obtain ⟨v, v', h1, h2, h3, h4⟩ := xload_sound (I := C.I) (N := N) (X := X) hX.tab hs (hs.okA ad) hx
    refine ⟨v, v', h1, ?_, h3, h4⟩
    simp only [resOf]
    rw [hs.slots ad hj]
    exact h2
theorem resL_sound (hX : XOKs X C) (hs : SR C.I N s t h h0) : ∀ {rs : List ResultVar} {k : List Val → Option ρ}, resL C s rs k = some r → ∃ vs avs, k vs = some r ∧ resAll X ⟨t, h⟩ rs = some avs ∧ PW avs (Val.encL C.I N vs) ∧ okL N s.c vs
  | [], k, hx => ⟨[], [], hx, rfl, trivial, by simp only [okL]⟩
  | rv :: l, k, hx => by
    simp only [resL] at hx
    obtain ⟨v, av, h1, h2, h3, h4⟩ := resX_sound hX hs hx
    obtain ⟨vs, avs, k1, k2, k3, k4⟩ := resL_sound hX hs h1
    refine ⟨v :: vs, av :: avs, k1, ?_, ?_, ?_⟩
    · simp only [resAll, h2, k2, Option.bind_some, Option.map_some]
    · simp only [Val.encL]; exact ⟨h3, k3⟩
    · simp only [okL]; exact ⟨h4, k4⟩
theorem resV_sound (hX : XOKs X C) (hs : SR C.I N s t h h0) {rs : List ResultVar} {k : Val → Option ρ} (hx : resV C s rs k = some r) : ∃ v av, k v = some r ∧ resultV X ⟨t, h⟩ rs = some av ∧ Weak av (v.enc C.I N) ∧ okV N s.c v := by
  have tup : ∀ rs, resL C s rs (fun vs => k (.tuple vs)) = some r → ∃ v av, k v = some r ∧ (resAll X ⟨t, h⟩ rs).map AV.tuple = some av ∧ Weak av (v.enc C.I N) ∧ okV N s.c v := fun rs hx => by
    obtain ⟨vs, avs, h1, h2, h3, h4⟩ := resL_sound (k := fun vs => k (.tuple vs)) hX hs hx
    exact ⟨.tuple vs, .tuple avs, h1, by rw [h2]; rfl, by simp only [Val.enc]; exact weak_tuple h3.weakL, by simp only [okV]; exact h4⟩
  unfold resV at hx
  unfold resultV
  cases rs with
  | nil => exact tup [] hx
  | cons a l =>
    cases l with
    | nil => exact resX_sound hX hs hx
    | cons b l => exact tup (a :: b :: l) hx
structure FIok (X : Cx) (f : FuncId) (fi : FI) : Prop where
  ex : ∃ fn, X.P.funcs[f]? = some fn ∧ fn.body = some fi.body ∧ (fn.name == "runtime.NumGoroutine") = false ∧ fn.ntmps = fi.n ∧ fn.results.toList = fi.rs
theorem look_numA {I : Ids} : ∀ (args : List Val) (k i : Nat), lkV (numA k args) i ≠ .junk → look (argA k (Val.encL I N args)) i = (lkV (numA k args) i).enc I N
  | [], k, i, h => absurd rfl h
  | v :: r, k, i, h => by
    simp only [numA, lkV, Val.encL, argA, look] at h ⊢
    cases hb : Nat.beq i k with
    | true => simp
    | false => rw [hb] at h; simp only [cond_false] at h ⊢; exact look_numA r (k + 1) i h
theorem numA_ok {c : Nat} : ∀ (args : List Val) (k i : Nat), okL N c args → okV N c (lkV (numA k args) i)
  | [], k, i, h => by simp only [numA, lkV, okV]
  | v :: r, k, i, h => by
    simp only [numA, lkV]
    simp only [okL] at h
    cases hb : Nat.beq i k with
    | true => exact h.1
    | false => exact numA_ok r (k + 1) i h.2
theorem encL_length {I : Ids} : ∀ (l : List Val), (Val.encL I N l).length = l.length
  | [] => rfl
  | v :: r => by simp only [Val.encL, List.length_cons, encL_length r]
theorem xbody_sound (hX : XOKs X C) (hcl : CallsOK X C.I cl) {f0 : FuncId} {fi : FI} (hfi : FIok X f0 fi) (hlp : LpsOK X C fi.n f0 fi.body) {ct : Cert} {args : List Val} {k : Val → XS → Option ρ} (hx : xbody C cl f0 fi ct args s k = some r) (hr : HR C.I N s h h0) (ha : okL N s.c args) :
    ACalls X f0 (Val.encL C.I N args) h fun e h' => ∃ (v : Val) (N' : Nm) (s' : XS) (av : AV), e = .ret av ∧ Ext s.c N N' ∧ s.c ≤ s'.c ∧ HR C.I N' s' h' h0 ∧ okV N' s'.c v ∧ Weak av (v.enc C.I N') ∧ k v s' = some r := by
  unfold xbody at hx
  obtain ⟨hle, hx⟩ := cond_of hx
  rw [fLA_eq] at hx
  have hle := Nat.le_of_ble_eq_true hle
  obtain ⟨fn, f1, f2, f3, f4, f5⟩ := hfi.ex
  refine acalls_ws hX.x f1 f2 f3 f4 f5 (by rw [encL_length]; exact hle) ?_
  have hs : SR C.I N { s with A := numA 0 args } (look (argA 0 (Val.encL C.I N args))) h h0 :=
    { heap := hr.heap, okH := hr.okH, okF := hr.okF, okR := hr.okR, slots := fun i hj => look_numA args 0 i hj, okA := fun i => numA_ok args 0 i ha }
  have hrun := xj_sound (xcode_sound (ro := fi.ro) hX hcl hlp fi.body [] rfl)
  refine hrun ct ρ _ _ r N _ h h0 _ hx hs ?_
  intro e N' s' t' h' he hc hs' hk hx'
  have fin : ∀ e', (e' = AExit.normal ∨ e' = AExit.ret) → resV C s' fi.rs (fun v => k v s') = some r → WK X fi.n (retPost X fi.rs fun e h' => ∃ (v : Val) (N' : Nm) (s' : XS) (av : AV), e = .ret av ∧ Ext s.c N N' ∧ s.c ≤ s'.c ∧ HR C.I N' s' h' h0 ∧ okV N' s'.c v ∧ Weak av (v.enc C.I N') ∧ k v s' = some r) e' ⟨t', h'⟩ := fun e' hee hx' => by
    obtain ⟨v, av, k1, k2, k3, k4⟩ := resV_sound (k := fun v => k v s') hX hs' hx'
    refine wk_mk ?_
    rcases hee with rfl | rfl
    · show (match resultV X ⟨t', h'⟩ fi.rs with | some v => _ | none => False)
      rw [k2]
      exact ⟨v, N', s', av, rfl, he, hc, hs'.toHR, k4, k3, k1⟩
    · show (match resultV X ⟨t', h'⟩ fi.rs with | some v => _ | none => False)
      rw [k2]
      exact ⟨v, N', s', av, rfl, he, hc, hs'.toHR, k4, k3, k1⟩
  cases e with
  | normal => exact fin _ (.inl rfl) hx'
  | ret => exact fin _ (.inr rfl) hx'
  | _ => cases hx'
def FnOK1 (X : Cx) (C : XC) (f : FuncId) (L : Con) (x : DenF L.f) (y : DenA L.al) : Prop :=
  ∀ (N : Nm) (t : Nat → AV) (h h0 : Heap), SR C.I N (stF L.f x) t h h0 → ACalls X f (Val.encL C.I N ((stS L.f.sl x.1).map (·.2))) h fun e h' =>
    ∃ (av : AV) (f' : Fm) (y' : DenF f') (N' : Nm) (t' : Nat → AV), e = .ret av ∧ OutA L.al y .ret f' y' ∧ WF f' ∧ (∀ j ∈ L.f.bl.map (·.1), N'.o j = N.o j) ∧ SR C.I N' (stF f' y') t' h' h0 ∧ Weak av (t' 1000)
def ConsOK (X : Cx) (C : XC) : Prop := ∀ f L, C.con f = some L → ∀ x y, L.fn x = some y → FnOK1 X C f L x y
theorem acalls_wkR {f : FuncId} {args : List AV} {R : AEnd → Heap → Prop} (hc : ACalls X f args h (fun e h' => ∃ h2, HWk h' h2 ∧ R e h2)) : ACalls X f args h R :=
  ⟨hc.1, fun fz w ca h1 h2 h3 => (hc.2 fz w ca h1 h2 h3).mono fun e w' ⟨q, h', fz', ⟨h4, k0, k1⟩, k2, k3, k4⟩ => ⟨q, h4, fz', k1, k2, k0 _ _ _ k3, k4⟩⟩
theorem acalls_wkA {f : FuncId} {args args' : List AV} {R : AEnd → Heap → Prop} (hw : WeakL args args') (hc : ACalls X f args' h R) : ACalls X f args h R :=
  ⟨hc.1, fun fz w ca h1 h2 h3 => hc.2 fz w ca h1 h2 (hw _ _ _ h3)⟩
theorem lkN_idN {l : List Nat} {j : Nat} (h : j ∈ l) : lkN (idN l) j = some j := by
  induction l with
  | nil => cases h
  | cons i r ih =>
    simp only [idN, lkN]
    cases hb : Nat.beq j i with
    | true => rw [natBeq hb]; rfl
    | false =>
      rcases List.mem_cons.1 h with rfl | h
      · simp at hb
      · exact ih h
theorem stF_args {f : Fm} {x : DenF f} {t : Nat → AV} {I : Ids} (hs : SR I N (stF f x) t h h0) : ∀ (ss : List (Nat × Sh)) (y : DenSS ss) (i : Nat), ss.map (·.1) = seqN i ss.length → (∀ j, i ≤ j → lkV (stF f x).A j = lkV (stS ss y) j) → okL N (stF f x).c ((stS ss y).map (·.2))
  | [], _, _, _, _ => by simp only [stS, List.map_nil, okL]
  | (j, sh) :: l, y, i, hk, hj => by
    simp only [List.map_cons, List.length_cons, seqN, List.cons.injEq] at hk
    obtain ⟨rfl, hk⟩ := hk
    simp only [stS, List.map_cons, okL]
    have h1 := hj j (Nat.le_refl _)
    simp only [stS, lkV] at h1
    have hb : Nat.beq j j = true := by simp
    rw [hb] at h1
    simp only [cond_true] at h1
    refine ⟨by rw [← h1]; exact hs.okA j, stF_args hs l y.2 (j + 1) hk fun q hq => ?_⟩
    have h2 := hj q (by omega)
    simp only [stS, lkV] at h2
    have hb : Nat.beq q j = false := by
      cases hb : Nat.beq q j with
      | true => exact absurd (natBeq hb) (by omega)
      | false => rfl
    rw [hb] at h2
    exact h2
theorem fn_post {f : FuncId} {L : Con} {x : DenF L.f} {y : DenA L.al} {args : List AV} (hc : ACalls X f args h fun e h' => ∃ (v : Val) (N' : Nm) (s' : XS) (av : AV), e = .ret av ∧ Ext (maxN (fnums L.f)) N N' ∧ HR C.I N' s' h' h0 ∧ okV N' s'.c v ∧ Weak av (v.enc C.I N') ∧ packA (idN (L.f.bl.map (·.1))) .ret { s' with A := [(1000, v)] } L.al = some y) :
    ACalls X f args h fun e h' => ∃ (av : AV) (f' : Fm) (y' : DenF f') (N' : Nm) (t' : Nat → AV), e = .ret av ∧ OutA L.al y .ret f' y' ∧ WF f' ∧ (∀ j ∈ L.f.bl.map (·.1), N'.o j = N.o j) ∧ SR C.I N' (stF f' y') t' h' h0 ∧ Weak av (t' 1000) := by
  refine acalls_wkR (hc.mono ?_)
  rintro e h' ⟨v, N', s', av, rfl, he, hh, hv, hw, hp⟩
  obtain ⟨xk, f, y', ho, hxk, hpk⟩ := packA_spec hp
  have hxk' : xk = .ret := by cases xk <;> simp [XK.toE] at hxk ⊢
  subst hxk'
  have hs' : SR C.I N' { s' with A := [(1000, v)] } (fun i => if i = 1000 then v.enc C.I N' else .junk) h' h0 :=
    { heap := hh.heap, okH := hh.okH, okF := hh.okF, okR := hh.okR
      slots := fun i hj => by
        have hj' : lkV [(1000, v)] i ≠ .junk := hj
        show (if i = 1000 then v.enc C.I N' else AV.junk) = (lkV [(1000, v)] i).enc C.I N'
        rw [lkV_cons] at hj' ⊢
        split
        · rfl
        · rename_i hi; rw [if_neg hi] at hj'; exact absurd rfl hj'
      okA := fun i => by
        show okV N' s'.c (lkV [(1000, v)] i)
        rw [lkV_cons]
        split
        · exact hv
        · simp only [lkV, okV] }
  obtain ⟨N2, t2, h2, a1, a2, a3, a4, a5, a6⟩ := pack_exit hs' hpk
  refine ⟨h2, a2, av, f, y', N2, t2, rfl, ho, a5, fun j hj => ?_, a6, hw.trans ?_⟩
  · rw [a1.o j j (lkN_sigF (lkN_idN hj))]
    exact he.o j (lt_maxN (List.mem_append_left _ hj))
  · have := a3 1000
    simpa using this
theorem func_sound (hX : XOKs X C) (hcl : CallsOK X C.I cl) {f0 : FuncId} {fi : FI} (hfi : FIok X f0 fi) (hlp : LpsOK X C fi.n f0 fi.body) {ct : Cert} {L : Con} {x : DenF L.f} {y : DenA L.al} (hx : xfunc C cl f0 fi ct L x = some y) : FnOK1 X C f0 L x y := by
  intro N t h h0 hs
  unfold xfunc at hx
  obtain ⟨hk, hx⟩ := cond_of hx
  have hk := eqL_eq hk
  have hr : HR C.I N { stF L.f x with A := [] } h h0 := ⟨hs.heap, hs.okH, hs.okF, hs.okR⟩
  have hok := stF_args hs L.f.sl x.1 0 hk (fun j _ => rfl)
  refine acalls_wkR ((xbody_sound hX hcl hfi hlp hx hr hok).mono ?_)
  rintro e h' ⟨v, N', s', av, rfl, he, hc, hh, hv, hw, hp⟩
  obtain ⟨xk, f, y', ho, hxk, hpk⟩ := packA_spec hp
  have hxk' : xk = .ret := by cases xk <;> simp [XK.toE] at hxk ⊢
  subst hxk'
  have hs' : SR C.I N' { s' with A := [(1000, v)] } (fun i => if i = 1000 then v.enc C.I N' else .junk) h' h0 :=
    { heap := hh.heap, okH := hh.okH, okF := hh.okF, okR := hh.okR
      slots := fun i hj => by
        have hj' : lkV [(1000, v)] i ≠ .junk := hj
        show (if i = 1000 then v.enc C.I N' else AV.junk) = (lkV [(1000, v)] i).enc C.I N'
        rw [lkV_cons] at hj' ⊢
        split
        · rfl
        · rename_i hi; rw [if_neg hi] at hj'; exact absurd rfl hj'
      okA := fun i => by
        show okV N' s'.c (lkV [(1000, v)] i)
        rw [lkV_cons]
        split
        · exact hv
        · simp only [lkV, okV] }
  obtain ⟨N2, t2, h2, a1, a2, a3, a4, a5, a6⟩ := pack_exit hs' hpk
  refine ⟨h2, a2, av, f, y', N2, t2, rfl, ho, a5, fun j hj => ?_, a6, hw.trans ?_⟩
  · rw [a1.o j j (lkN_sigF (lkN_idN hj))]
    exact he.o j (lt_maxN (List.mem_append_left _ hj))
  · have := a3 1000
    simpa using this
theorem loop_sound (hX : XOKs X C) (hcl : CallsOK X C.I cl) {ro : RO} {f0 : FuncId} {body : Code} (hlp : LpsOK X C n f0 body) {p : List Nat} {b : Code} (hb : cAt body p = .loop b) {ct : Cert} {L : Con} (hfn : ∀ x y, L.fn x = some y → LoopOK1 X C n b L x y) {x : DenF L.f} {y : DenA L.al}
    (hx : xloop C cl n ro f0 p b ct L x = some y) : LoopOK1 X C n b L x y := by
  intro N t h h0 Q hs hQ
  unfold xloop at hx
  obtain ⟨hal, hx⟩ := cond_of hx
  have hrun := xj_sound (xcode_sound (ro := ro) hX hcl hlp b (0 :: p) (by simp only [cAt, hb, child]))
  refine wl_unfold (hrun ct _ _ _ y N t h h0 _ hx hs ?_)
  intro e N' s' t' h' he hc hs' hk hx'
  have halW : ∀ {al : Alts} {y : DenA al} {e : XK} {f : Fm} {z : DenF f}, alOK (wrC b) al = true → OutA al y e f z → ∀ i ∈ f.sl.map (·.1), i ∈ wrC b := by
    intro al y e f z h ho
    induction ho with
    | one x => simp only [alOK, Bool.and_eq_true] at h; exact subB_iff h.1
    | fst x => simp only [alOK, Bool.and_eq_true] at h; exact subB_iff h.1
    | snd ho ih => simp only [alOK, Bool.and_eq_true] at h; exact ih (by simp only [alOK, Bool.and_eq_true]; exact h.2)
  by_cases hen : e = .normal
  · subst hen
    simp only at hx'
    obtain ⟨hex, hx'⟩ := cond_of hx'
    obtain ⟨z, hpk, hfz⟩ := bind2_some hx'
    obtain ⟨N2, t2, h2, a1, a2, a3, a4, a5, a6⟩ := pack_exitW hs' hpk hex
    have hN2 : ∀ j ∈ L.f.bl.map (·.1), N2.o j = N.o j := fun j hj => by
      rw [a1.o j j (lkN_sigF (lkN_idN hj))]
      exact he.o j (lt_maxN (List.mem_append_left _ hj))
    refine wk_mk (s := ⟨t', h'⟩) (WL.wk (wk_of a2 a3) (hfn z y hfz N2 t2 h2 h0 Q a6 ?_))
    intro e f y' ho wf N3 t3 h3 hN hs3 ht
    refine hQ e f y' ho wf N3 t3 h3 (fun j hj => by rw [hN j hj, hN2 j hj]) hs3 fun i hi hf => ?_
    rw [ht i hi hf, a4 i hi, hk i hi]
  · have hx2 : packA (idN (L.f.bl.map (·.1))) e s' L.al = some y := by
      cases e <;> first | exact absurd rfl hen | exact hx'
    refine toA_then hen ?_
    obtain ⟨xk, f, y', ho, rfl, hpk⟩ := packA_spec hx2
    obtain ⟨N2, t2, h2, a1, a2, a3, a4, a5, a6⟩ := pack_exit hs' hpk
    have := hQ xk f y' ho a5 N2 t2 h2 (fun j hj => by
      rw [a1.o j j (lkN_sigF (lkN_idN hj))]
      exact he.o j (lt_maxN (List.mem_append_left _ hj))) a6 (fun i hi hf => by rw [a4 i hf, hk i hi])
    rw [xk_toA (N' := N')] at this
    exact this.wk (wk_of a2 a3)
theorem packS_args {I : Ids} {N1 : Nm} {σ : List (Nat × Nat)} (hp : Pull N σ N1) {A : List (Nat × Val)} : ∀ (args : List Val) (ss : List (Nat × Sh)) (i : Nat) (x : DenSS ss), ss.map (·.1) = seqN i args.length → (∀ j, i ≤ j → lkV A j = lkV (numA i args) j) → packS σ A ss = some x → PW (Val.encL I N args) (Val.encL I N1 ((stS ss x).map (·.2)))
  | [], [], _, _, _, _, _ => trivial
  | [], _ :: _, _, _, h, _, _ => by simp [seqN] at h
  | _ :: _, [], _, _, h, _, _ => by simp [seqN] at h
  | v :: args, (j, sh) :: ss, i, x, hk, hA, h => by
    simp only [List.map_cons, List.length_cons, seqN, List.cons.injEq] at hk
    obtain ⟨rfl, hk⟩ := hk
    simp only [packS] at h
    obtain ⟨y, hy, h⟩ := bind2_some h
    obtain ⟨z, hz, h⟩ := bind2_some h
    simp only [Option.some.injEq] at h
    subst h
    have h1 := hA j (Nat.le_refl _)
    have hb : Nat.beq j j = true := by simp
    simp only [numA, lkV, hb, cond_true] at h1
    rw [h1] at hy
    obtain ⟨a1, a2⟩ := pack_spec (I := I) hp sh v y hy
    simp only [Val.encL, stS, List.map_cons]
    refine ⟨weak_of_pw a2 a1, packS_args hp args ss (j + 1) z hk (fun q hq => ?_) hz⟩
    have h2 := hA q (by omega)
    have hb : Nat.beq q j = false := by
      cases hb : Nat.beq q j with
      | true => exact absurd (natBeq hb) (by omega)
      | false => rfl
    simp only [numA, lkV, hb, cond_false] at h2
    exact h2
theorem xcall_sound (hX : XOKs X C) (hcon : ConsOK X C) (hfi : ∀ f fi, C.fi f = some fi → FIok X f fi) (hlp : ∀ f fi, C.fi f = some fi → LpsOK X C fi.n f fi.body) : ∀ m, CallsOK X C.I (xcall C m)
  | 0 => fun ρ ct g args s k r hx => by cases hx
  | m + 1 => fun ρ ct g args s k r hx N h h0 hr ha => by
    unfold xcall at hx
    split at hx
    · rename_i L hL
      obtain ⟨hk, hx⟩ := cond_of hx
      have hk := eqL_eq hk
      have hs : SR C.I N { s with A := numA 0 args } (fun i => (lkV (numA 0 args) i).enc C.I N) h h0 :=
        { heap := hr.heap, okH := hr.okH, okF := hr.okF, okR := hr.okR, slots := fun i hj => rfl, okA := fun i => numA_ok args 0 i ha }
      obtain ⟨x, y, N1, t1, h1, h0', c1, c2, c3, c4, c5, c6, c7, c8⟩ := xcon_pre hx hs
      have hpw : PW (Val.encL C.I N args) (Val.encL C.I N1 ((stS L.f.sl x.1).map (·.2))) := by
        unfold packF at c6
        obtain ⟨_, c6⟩ := cond_of c6
        obtain ⟨xs, hxs, c6⟩ := bind2_some c6
        obtain ⟨xb, hxb, c6⟩ := bind2_some c6
        simp only [Option.some.injEq] at c6
        subst c6
        exact packS_args c7 args L.f.sl 0 xs hk (fun _ _ => rfl) hxs
      refine acalls_wkA hpw.weakL (c2.acalls ((hcon g L hL x y c1 N1 t1 h1 h0' c5).mono ?_))
      rintro e h' ⟨av, f', y', N2, t2, rfl, ho, wf, hN, hS2, hw⟩
      have hS2' : SR C.I N2 (stF f' y') (fun i => if i ∈ f'.sl.map (·.1) then t2 i else t1 i) h' h0' :=
        { heap := hS2.heap, okH := hS2.okH, okF := hS2.okF, okR := hS2.okR, okA := hS2.okA
          slots := fun i hj => by
            rcases stS_at f'.sl y'.1 (fun i => i) [] i with ⟨k1, k2⟩ | ⟨sh, z, k1, _, _⟩
            · have hh : ∀ (ss : List (Nat × Sh)) (x : DenSS ss), i ∉ ss.map (·.1) → lkV (stS ss x) i = .junk := fun ss => by
                induction ss with
                | nil => intro _ _; rfl
                | cons p l ih =>
                  obtain ⟨q, sh⟩ := p
                  intro x hm
                  simp only [List.map_cons, List.mem_cons, not_or] at hm
                  simp only [stS, lkV]
                  cases hb : Nat.beq i q with
                  | true => exact absurd (natBeq hb) hm.1
                  | false => exact ih x.2 hm.2
              exact absurd (hh f'.sl y'.1 k1) hj
            · show (if i ∈ f'.sl.map (·.1) then t2 i else t1 i) = _
              rw [if_pos (List.mem_map.2 ⟨_, k1, rfl⟩)]
              exact hS2.slots i hj }
      obtain ⟨N3, s3, d1, d2, d3, d4, _, d5⟩ := c8 .ret f' y' ho wf N2 _ h' hN hS2' (fun i _ hi => if_neg hi)
      simp only [XK.toE] at d5
      rw [force_eq] at d5
      refine ⟨_, N3, s3, av, rfl, d1, d2, d3.toHR, d3.okA 1000, ?_, d5⟩
      by_cases hm : 1000 ∈ f'.sl.map (·.1)
      · have := slot_weak d3 1000
        simp only [if_pos hm] at this
        exact hw.trans this
      · rw [d4 1000 (by simp) hm]
        simp only [Val.enc]
        exact Weak.junk _
    · split at hx
      · rename_i fi hf
        exact xbody_sound hX (xcall_sound hX hcon hfi hlp m) (hfi g fi hf) (hlp g fi hf) hx hr ha
      · cases hx
end
end Go.Lb
end
section
namespace Go.Lb
mutual
theorem zc_spec {I : Ids} {N : Nm} {c : Nat} : ∀ (v : Val) (l : List AV), zc v = some l → v.cells I N = l ∧ okV N c v
  | .int k n, l, h => by simp only [zc, Option.some.injEq] at h; subst h; exact ⟨rfl, by simp only [okV]⟩
  | .bool b, l, h => by simp only [zc, Option.some.injEq] at h; subst h; exact ⟨rfl, by simp only [okV]⟩
  | .str s, l, h => by simp only [zc, Option.some.injEq] at h; subst h; exact ⟨rfl, by simp only [okV]⟩
  | .nils, l, h => by simp only [zc, Option.some.injEq] at h; subst h; exact ⟨rfl, by simp only [okV]⟩
  | .nilp, l, h => by simp only [zc, Option.some.injEq] at h; subst h; exact ⟨rfl, by simp only [okV]⟩
  | .nilmap, l, h => by simp only [zc, Option.some.injEq] at h; subst h; exact ⟨rfl, by simp only [okV]⟩
  | .nilfn, l, h => by simp only [zc, Option.some.injEq] at h; subst h; exact ⟨rfl, by simp only [okV]⟩
  | .nilif, l, h => by simp only [zc, Option.some.injEq] at h; subst h; exact ⟨rfl, by simp only [okV]⟩
  | .tup vs, l, h => by
    simp only [zc] at h
    obtain ⟨h1, h2⟩ := zcL_spec (I := I) (N := N) (c := c) vs l h
    exact ⟨by simp only [Val.cells]; exact h1, by simp only [okV]; exact h2⟩
  | .junk, l, h => by simp [zc] at h
  | .undef, l, h => by simp [zc] at h
  | .n _ _, l, h => by simp [zc] at h
  | .sl _ _ _, l, h => by simp [zc] at h
  | .err _, l, h => by simp [zc] at h
  | .iface _ _, l, h => by simp [zc] at h
  | .ptr _ _, l, h => by simp [zc] at h
  | .ro _, l, h => by simp [zc] at h
  | .map _, l, h => by simp [zc] at h
  | .fn _ _ _, l, h => by simp [zc] at h
  | .tuple _, l, h => by simp [zc] at h
theorem zcL_spec {I : Ids} {N : Nm} {c : Nat} : ∀ (vs : List Val) (l : List AV), zcL vs = some l → Val.cellsL I N vs = l ∧ okL N c vs
  | [], l, h => by simp only [zcL, Option.some.injEq] at h; subst h; exact ⟨rfl, by simp only [okL]⟩
  | v :: r, l, h => by
    simp only [zcL] at h
    split at h
    · rename_i a b ha hb
      simp only [Option.some.injEq] at h
      subst h
      obtain ⟨a1, a2⟩ := zc_spec (I := I) (N := N) (c := c) v a ha
      obtain ⟨b1, b2⟩ := zcL_spec (I := I) (N := N) (c := c) r b hb
      exact ⟨by simp only [Val.cellsL, a1, b1], by simp only [okL]; exact ⟨a2, b2⟩⟩
    · cases h
end
structure XIok (P : Program) (t : TypeId) (i : XI) : Prop where
  tof : Tof P t = some i.ti
  z : zc i.z = cellsOf i.ti.zero
  len : Option.map List.length (zc i.z) = some i.ti.size
def AllI (P : Program) : List (Nat × XI) → Prop
  | [] => True
  | (j, v) :: r => XIok P j v ∧ AllI P r
theorem allI_at {P : Program} : ∀ {l : List (Nat × XI)} {t : Nat} {i : XI}, AllI P l → lkI l t = some i → XIok P t i
  | (j, v) :: r, t, i, ha, h => by
    simp only [lkI] at h
    cases hb : Nat.beq t j with
    | true => rw [hb] at h; simp only [cond_true, Option.some.injEq] at h; subst h; rw [natBeq hb]; exact ha.1
    | false => rw [hb] at h; exact allI_at ha.2 h
theorem tabOK_of {X : Cx} {l : List (Nat × XI)} {P : Program} (ha : AllI P l) (hX : X.T = fun t => (lkI l t).map (·.ti)) : TabOK X (lkI l) := by
  refine ⟨fun t i h => by rw [hX]; simp only [h, Option.map_some], fun t i h I N c => ?_⟩
  obtain ⟨a1, a2, a3⟩ := allI_at ha h
  cases hz : zc i.z with
  | none => rw [hz] at a3; cases a3
  | some l =>
    obtain ⟨b1, b2⟩ := zc_spec (I := I) (N := N) (c := c) i.z l hz
    rw [hz] at a2 a3
    refine ⟨by rw [← a2, b1], b2, ?_⟩
    simp only [Option.map_some, Option.some.injEq] at a3
    rw [← a3, ← b1, cells_length]
theorem allT_of {P : Program} : ∀ {l : List (Nat × XI)}, AllI P l → AllT P (l.map fun p => (p.1, p.2.ti))
  | [], _ => trivial
  | (j, v) :: r, ha => ⟨ha.1.tof, allT_of ha.2⟩
theorem lookT_eq : ∀ {l : List (Nat × XI)}, (fun t => (lkI l t).map (·.ti)) = lookT (l.map fun p => (p.1, p.2.ti))
  | [] => rfl
  | (j, v) :: r => by
    funext t
    have := congrFun (lookT_eq (l := r)) t
    simp only [lkI, List.map_cons, lookT]
    cases Nat.beq t j with
    | true => rfl
    | false => exact this
theorem tok_of {P : Program} {l : List (Nat × XI)} (ha : AllI P l) : TOK P (fun t => (lkI l t).map (·.ti)) := by
  rw [lookT_eq]; exact lookT_ok (allT_of ha)
def lkF : List (Nat × FI) → FuncId → Option FI
  | [], _ => none
  | (j, v) :: r, i => bif Nat.beq i j then some v else lkF r i
structure FIok' (P : Program) (f : FuncId) (fi : FI) : Prop where
  ex : ∃ fn, P.funcs[f]? = some fn ∧ fn.body = some fi.body ∧ (fn.name == "runtime.NumGoroutine") = false ∧ fn.ntmps = fi.n ∧ fn.results.toList = fi.rs
def AllF (P : Program) : List (Nat × FI) → Prop
  | [] => True
  | (j, v) :: r => FIok' P j v ∧ AllF P r
theorem allF_at {P : Program} : ∀ {l : List (Nat × FI)} {f : Nat} {fi : FI}, AllF P l → lkF l f = some fi → FIok' P f fi
  | (j, v) :: r, t, i, ha, h => by
    simp only [lkF] at h
    cases hb : Nat.beq t j with
    | true => rw [hb] at h; simp only [cond_true, Option.some.injEq] at h; subst h; rw [natBeq hb]; exact ha.1
    | false => rw [hb] at h; exact allF_at ha.2 h
theorem xi {P : Program} {t : TypeId} {i : XI} (h : (Tof P t, zc i.z, Option.map List.length (zc i.z)) = (some i.ti, cellsOf i.ti.zero, some i.ti.size)) : XIok P t i := by
  simp only [Prod.mk.injEq] at h
  exact ⟨h.1, h.2.1, h.2.2⟩
theorem xf {P : Program} {f : FuncId} {fn : Func} {ro : RO} (h : (P.funcs[f]?, fn.body.isSome, fn.name == "runtime.NumGoroutine") = (some fn, true, false)) : FIok' P f (fiOf fn ro) := by
  simp only [Prod.mk.injEq] at h
  refine ⟨fn, h.1, ?_, h.2.2, rfl, rfl⟩
  obtain ⟨b, hb⟩ := Option.isSome_iff_exists.1 h.2.1
  rw [hb]
  show some b = some (fn.body.getD .skip)
  rw [hb]
  rfl
end Go.Lb
end
section
namespace Go.Lb
def pureCon (sl : List (Nat × Sh)) (sh : Sh) (fn : DenSS sl → Option (DenSh sh)) : Con := ⟨⟨sl, [], []⟩, [(.ret, ⟨[(1000, sh)], [], []⟩)], fun x => bind2 (fn x.1) fun y => some ((y, ()), ())⟩
def N00 : Nm := ⟨fun _ => 0, fun _ => .full, fun _ => 0⟩
theorem nameless_args {I : Ids} {N N' : Nm} : ∀ (ss : List (Nat × Sh)) (x : DenSS ss), ptrS ss = [] → ownS ss = [] → Val.encL I N' ((stS ss x).map (·.2)) = Val.encL I N ((stS ss x).map (·.2))
  | [], _, _, _ => rfl
  | (i, sh) :: r, x, h1, h2 => by
    simp only [ptrS, List.append_eq_nil_iff] at h1
    simp only [ownS, List.append_eq_nil_iff] at h2
    simp only [stS, List.map_cons, Val.encL]
    rw [(nameless_enc (I := I) (N := N) (N' := N') x.1 h1.1 h2.1).1, nameless_args r x.2 h1.2 h2.2]
theorem pure_fnok {X : Cx} {C : XC} {f : FuncId} {sl : List (Nat × Sh)} {sh : Sh} {fn : DenSS sl → Option (DenSh sh)} (p1 : ptrS sl = []) (p2 : ownS sl = []) (p3 : ptrN sh = []) (p4 : ownN sh = [])
    (h : ∀ x y, fn x = some y → Pure X f (Val.encL C.I N00 ((stS sl x).map (·.2))) ((shV sh y).enc C.I N00)) : ∀ x y, (pureCon sl sh fn).fn x = some y → FnOK1 X C f (pureCon sl sh fn) x y := by
  intro x y hx N t hh h0 hs
  obtain ⟨z, hz, hy⟩ := bind2_some hx
  have hy : ((z, ()), ()) = y := Option.some.inj hy
  subst hy
  have hp := h x.1 z hz
  show ACalls X f (Val.encL C.I N ((stS sl x.1).map (·.2))) hh _
  rw [nameless_args (N := N00) sl x.1 p1 p2]
  refine hp hh _ ⟨(shV sh z).enc C.I N00, ⟨[(1000, sh)], [], []⟩, ((z, ()), ()), N, fun i => if i = 1000 then (shV sh z).enc C.I N else .junk, rfl, .one _, ?_, fun j hj => (by cases hj), ?_, ?_⟩
  · refine ⟨fun j hj => ?_, ?_, fun j hj => ?_, fun j hj => (by cases hj), List.nodup_nil⟩
    · simp [ptrS, ptrB, p3] at hj
    · simp [ownS, ownB', p4]
    · simp [ownS, ownB', p4] at hj
  · obtain ⟨L, l1, l2, l3⟩ := hs.heap
    refine { heap := ⟨[], rfl, fun i nm b hi => by simp [stF, stB] at hi, ⟨l3.sub, fun _ hp => (by cases hp), fun _ hp => (by cases hp), by simp [stF]⟩⟩, okH := fun e he => (by cases he), okF := fun e he => (by cases he), okR := fun e he => (by cases he), slots := fun i hj => ?_, okA := fun i => ?_ }
    · have hl : lkV (stF ⟨[(1000, sh)], [], []⟩ ((z, ()), ())).A i = if i = 1000 then shV sh z else .junk := by
        show lkV [(1000, shV sh z)] i = _
        rw [lkV_cons]; rfl
      rw [hl] at hj ⊢
      show (if i = 1000 then _ else AV.junk) = _
      split
      · rfl
      · rename_i hi; rw [if_neg hi] at hj; exact absurd rfl hj
    · have hl : lkV (stF ⟨[(1000, sh)], [], []⟩ ((z, ()), ())).A i = if i = 1000 then shV sh z else .junk := by
        show lkV [(1000, shV sh z)] i = _
        rw [lkV_cons]; rfl
      rw [hl]
      split
      · exact (nameless_enc (I := C.I) (N := N) (N' := N) z p3 p4).2 _
      · simp only [okV]
  · simp only [if_true]
    rw [(nameless_enc (I := C.I) (N := N00) (N' := N) z p3 p4).1]
    exact Weak.refl _
end Go.Lb
end
section
namespace Go.Lb
open Go.RowKit (Below)
theorem slnil_run {P : Program} {T : TypeId → Option TI} (hT : TOK P T) {ty e : TypeId} {i : TI} (hi : T ty = some i) (hk : i.kind = .slice e) {fz : Fz} {w : World} {m : Nat} {cs : List AV} {room : Room} {c : Value} {xo yo : Operand} (hc : isConst xo = true ∨ isConst yo = true) (hx : Rel fz w (.sl m cs room) c) :
    ∃ b : Bool, (do eqGuard .eql ty xo yo c (.slice none 0 0); binOp .eql ty c (.slice none 0 0) : Sem Value).run P w = .ok (.bool b) w ∧ (b = true → m = 0 ∧ cs = []) := by
  simp only [Rel] at hx
  obtain ⟨a, cap, rfl, h1, h2, h3, h4⟩ := hx
  have hb : binOp .eql ty (.slice a m cap) (.slice none 0 0) = (do pure (.bool (← Op.equal ty (.slice a m cap) (.slice none 0 0)))) := rfl
  have hg : (eqGuard .eql ty xo yo (.slice a m cap) (.slice none 0 0)).run P w = .ok () w := by
    cases xo <;> cases yo <;> simp [isConst] at hc <;> simp [eqGuard]
  have he : ∀ d, (Op.equalIn (d + 1) ty (.slice a m cap) (.slice none 0 0)).run P w = .ok a.isNone w := by
    intro d
    rw [Op.equalIn]
    simp [run_underlying (hT.slice hi hk)]
    cases a <;> simp
  refine ⟨a.isNone, ?_, fun hn => ?_⟩
  · have hq : (Op.equal ty (.slice a m cap) (.slice none 0 0)).run P w = .ok a.isNone w := he _
    simp only [Sem.run_bind, hg, Result.andThen_ok, hb, hq, Sem.run_pure]
  · rcases h4 with h4 | ⟨b, o, rfl, _⟩
    · exact h4
    · cases hn
section
variable {X : Cx} {n : Nat} {Q : AExit → St → Prop} {ops : Array Oper} {j : Nat} {o : Oper} {t : Nat → AV} {h : Heap}
theorem wso_nilcmp (hX : X.OK) {d : Tmp} {ty ty' e : TypeId} {x : Operand} {m : Nat} {cs : List AV} {room : Room} {i : TI} (ho : ops[j]? = some o) (hop : o.op = .binOp .eql ty x (.const (.slice none 0 0)) ty') (hg : o.guard = none) (hd : o.dst = some d) (hdn : d < n) (hi : X.T ty = some i) (hk : i.kind = .slice e) (hx : St.eval X ⟨t, h⟩ x = .sl m cs room)
    (hc : ∀ b : Bool, (b = true → m = 0 ∧ cs = []) → WSO X n ops Q (j + 1) ⟨upd t d (.bool b), h⟩) : WSO X n ops Q j ⟨t, h⟩ := fun fz w a fz0 w0 hs he => by
  have hlt : j < ops.toList.length := by simpa using (Array.getElem?_eq_some_iff.1 ho).1
  rw [List.drop_eq_getElem_cons hlt]
  have ho' : ops.toList[j] = o := by
    have := (Array.getElem?_eq_some_iff.1 ho).2
    simpa using this
  rw [ho']
  have hw : Region.wanted o (yielded ops a.tmps) = true := by simp [Region.wanted, hg]
  unfold wpList
  rw [hw]
  simp only [if_true]
  refine .inl ?_
  have hr := eval_rel (X := X) (s := ⟨t, h⟩) hs.slots hs.glob x
  rw [hx] at hr
  obtain ⟨b, hb1, hb2⟩ := slnil_run (xo := x) (yo := .const (.slice none 0 0)) hX.tok hi hk (.inr rfl) hr
  obtain ⟨dst, op, oty, pos, af, gd⟩ := o
  simp only at hop hd
  subst hop; subst hd
  refine oper_wp_value (c := .bool b) (w' := w) ?_ ?_
  · show Sem.run X.P (execOp a.eval ⟨some d, .binOp .eql ty x (.const (.slice none 0 0)) ty', oty, pos, af, gd⟩) w = _
    have he2 : execOp a.eval ⟨some d, .binOp .eql ty x (.const (.slice none 0 0)) ty', oty, pos, af, gd⟩ = (do let v ← (do eqGuard .eql ty x (.const (.slice none 0 0)) (a.eval x) (.slice none 0 0); binOp .eql ty (a.eval x) (.slice none 0 0) : Sem Value); pure (.value v)) := rfl
    rw [he2, Sem.run_bind, hb1]
    rfl
  · refine hc b hb2 fz w _ fz0 w0 ?_ he
    refine ⟨hs.rel, by simp [Act.put, hs.size], fun q => ?_, hs.glob, hs.defers⟩
    simp only [Act.put]
    rw [getD_set _ _ _ _ (by rw [hs.size]; exact hdn)]
    unfold upd
    split
    · simp only [Rel]
    · exact hs.slots q
end
end Go.Lb
end
section
namespace Go.Lb
def lkCon : List (Nat × Con) → FuncId → Option Con
  | [], _ => none
  | (j, v) :: r, i => bif Nat.beq i j then some v else lkCon r i
def FnOKs (X : Cx) (C : XC) (f : FuncId) (L : Con) : Prop := ∀ x y, L.fn x = some y → FnOK1 X C f L x y
def AllC (X : Cx) (C : XC) : List (Nat × Con) → Prop
  | [] => True
  | (j, v) :: r => FnOKs X C j v ∧ AllC X C r
theorem allC_at {X : Cx} {C : XC} : ∀ {l : List (Nat × Con)} {f : Nat} {L : Con}, AllC X C l → lkCon l f = some L → FnOKs X C f L
  | (j, v) :: r, t, i, ha, h => by
    simp only [lkCon] at h
    cases hb : Nat.beq t j with
    | true => rw [hb] at h; simp only [cond_true, Option.some.injEq] at h; subst h; rw [natBeq hb]; exact ha.1
    | false => rw [hb] at h; exact allC_at ha.2 h
theorem consOK_of {X : Cx} {C : XC} {l : List (Nat × Con)} (h : AllC X C l) (hC : C.con = lkCon l) : ConsOK X C := fun f L hL => by rw [hC] at hL; exact allC_at h hL
def lkLp : List (Nat × FuncId × List Nat × Con) → Nat → Option (FuncId × List Nat × Con)
  | [], _ => none
  | (j, v) :: r, i => bif Nat.beq i j then some v else lkLp r i
theorem lps_none {X : Cx} {C : XC} {n : Nat} {f : FuncId} {b : Code} (h : C.lp = fun _ => none) : LpsOK X C n f b := fun i q L hL => by rw [h] at hL; cases hL
theorem fn_noloop {X : Cx} {C : XC} {l : List (Nat × Con)} (hX : XOKs X C) (hF : ∀ f fi, C.fi f = some fi → FIok X f fi) (hl : AllC X C l) (hC : C.con = lkCon l) (hlp : C.lp = fun _ => none) (m : Nat) {f : FuncId} {fi : FI} (hf : C.fi f = some fi) {ct : Cert} {L : Con} {x : DenF L.f} {y : DenA L.al} (hx : xfunc C (xcall C m) f fi ct L x = some y) : FnOK1 X C f L x y :=
  func_sound hX (xcall_sound hX (consOK_of hl hC) hF (fun f fi _ => lps_none hlp) m) (hF f fi hf) (lps_none hlp) hx
def LpOKs (X : Cx) (C : XC) (n : Nat) (b : Code) (L : Con) : Prop := ∀ x y, L.fn x = some y → LoopOK1 X C n b L x y
def AllLp (X : Cx) (C : XC) : List (Nat × FuncId × List Nat × Con) → Prop
  | [] => True
  | (_, f, q, L) :: r => (∃ fi b, C.fi f = some fi ∧ cAt fi.body q = .loop b ∧ LpOKs X C fi.n b L) ∧ AllLp X C r
theorem allLp_at {X : Cx} {C : XC} : ∀ {l : List (Nat × FuncId × List Nat × Con)} {i : Nat} {f : FuncId} {q : List Nat} {L : Con}, AllLp X C l → lkLp l i = some (f, q, L) → ∃ fi b, C.fi f = some fi ∧ cAt fi.body q = .loop b ∧ LpOKs X C fi.n b L
  | (j, v) :: r, i, f, q, L, ha, h => by
    simp only [lkLp] at h
    cases hb : Nat.beq i j with
    | true => rw [hb] at h; simp only [cond_true, Option.some.injEq] at h; subst h; exact ha.1
    | false => rw [hb] at h; exact allLp_at ha.2 h
theorem lpsOK_of {X : Cx} {C : XC} {l : List (Nat × FuncId × List Nat × Con)} (h : AllLp X C l) (hC : C.lp = lkLp l) : ∀ f fi, C.fi f = some fi → LpsOK X C fi.n f fi.body := fun f fi hf i q L hL b hb x y hx => by
  rw [hC] at hL
  obtain ⟨fi', b', h1, h2, h3⟩ := allLp_at h hL
  rw [hf] at h1
  injection h1 with h1
  subst h1
  rw [hb] at h2
  injection h2 with h2
  subst h2
  exact h3 x y hx
theorem krw {α : Type} {a b : Option α} {r : α} (h : b = some r) (e : a = b) : a = some r := e.trans h
theorem gfun {X : Cx} {C : XC} {cl : List (Nat × Con)} {ll : List (Nat × FuncId × List Nat × Con)} (hX : XOKs X C) (hF : ∀ f fi, C.fi f = some fi → FIok X f fi) (hcl : AllC X C cl) (hll : AllLp X C ll) (hC : C.con = lkCon cl) (hlp : C.lp = lkLp ll) (m : Nat) {f : FuncId} {fi : FI} (hf : C.fi f = some fi) {ct : Cert} {L : Con} {x : DenF L.f} {y : DenA L.al} (hx : xfunc C (xcall C m) f fi ct L x = some y) : FnOK1 X C f L x y :=
  func_sound hX (xcall_sound hX (consOK_of hcl hC) hF (lpsOK_of hll hlp) m) (hF f fi hf) (lpsOK_of hll hlp f fi hf) hx
theorem gloop {X : Cx} {C : XC} {cl : List (Nat × Con)} {ll : List (Nat × FuncId × List Nat × Con)} (hX : XOKs X C) (hF : ∀ f fi, C.fi f = some fi → FIok X f fi) (hcl : AllC X C cl) (hll : AllLp X C ll) (hC : C.con = lkCon cl) (hlp : C.lp = lkLp ll) (m : Nat) {f : FuncId} {fi : FI} (hf : C.fi f = some fi) {p : List Nat} {b : Code} (hb : cAt fi.body p = .loop b) {ct : Cert} {L : Con} (hfn : LpOKs X C fi.n b L) {x : DenF L.f} {y : DenA L.al} (hx : xloop C (xcall C m) fi.n fi.ro f p b ct L x = some y) : LoopOK1 X C fi.n b L x y :=
  loop_sound hX (xcall_sound hX (consOK_of hcl hC) hF (lpsOK_of hll hlp) m) (lpsOK_of hll hlp f fi hf) hb hfn hx
end Go.Lb
end
section
namespace Go.Lb.R
def k_strings_IndexByte (a0 : Str) (a1 : Int) : Option Int := some (Lib.indexByte a0 a1.toNat.toUInt8)
def k_unicode_utf8_ValidRune (a0 : Int) : Option Bool := some (Lib.validRune a0)
def k_strings_Fields (a0 : Str) : Option (List Str) := if (a0.all fun b => decide (b.toNat < 128)) = true then (if (decide (a0.length < 4294967281) && (decide ((Lib.fields a0).length ≤ 4294967281) && (Lib.fields a0).all fun s => decide (s.length ≤ 4294967281))) = true then some (Lib.fields a0) else none) else none
end Go.Lb.R
end
section
namespace Go.Lb
abbrev ltI (a b : Int) : Bool := decide (a < b)
abbrev ltN (a b : Nat) : Bool := decide (a < b)
abbrev leI (a b : Int) : Bool := decide (a ≤ b)
abbrev eqI (a b : Int) : Bool := decide (a = b)
abbrev eqS (a b : Str) : Bool := a == b
abbrev eqB (a b : Bool) : Bool := a == b
def nf {α : Type} (a : α) : α := a
theorem nf_eq {α : Type} (a : α) : nf a = a := rfl
end Go.Lb
end
section
set_option maxRecDepth 100000
namespace Go.Lb.R
open Go.Proofs
noncomputable def XTl : List (Nat × XI) := [(1, xt .func 1 8 .nilfn none), (2, xt (.int .i64) 1 8 (.int .i64 0) (some .int)), (3, xt (.int .i64) 1 8 (.int .i64 0) (some .int)), (4, xt .bool 1 1 (.bool false) (some .bool)), (5, xt (.int .u8) 1 1 (.int .u8 0) none), (6, xt (.int .u8) 1 1 (.int .u8 0) none), (7, xt (.struct [(0, 2), (1, 3), (2, 4), (3, 6)]) 4 24 (.tup [.int .i64 0, .int .i64 0, .bool false, .int .u8 0]) none), (8, xt (.struct [(0, 2), (1, 3), (2, 4), (3, 6)]) 4 24 (.tup [.int .i64 0, .int .i64 0, .bool false, .int .u8 0]) none), (9, xt .str 1 16 (.str []) (some .str)), (10, xt .str 1 16 (.str []) (some .str)), (11, xt .str 1 16 (.str []) (some .str)), (12, xt (.int .u64) 1 8 (.int .u64 0) none), (13, xt (.struct [(0, 9), (1, 12)]) 2 24 (.tup [.str [], .int .u64 0]) none), (14, xt (.struct [(0, 9), (1, 12)]) 2 24 (.tup [.str [], .int .u64 0]) none), (15, xt (.ptr 201) 1 8 .nilp none), (16, xt (.ptr 204) 1 8 .nilp none), (17, xt (.ptr 213) 1 8 .nilp none), (18, xt (.struct [(0, 17)]) 1 8 (.tup [.nilp]) none), (19, xt (.struct [(0, 17)]) 1 8 (.tup [.nilp]) none), (20, xt .iface 1 16 .nilif none), (21, xt (.int .i32) 1 4 (.int .i32 0) none), (22, xt (.slice 42) 1 24 .nils (some (.lst .fn))), (23, xt .func 1 8 .nilfn none), (24, xt .func 1 8 .nilfn none), (26, xt .func 1 8 .nilfn none), (27, xt .func 1 8 .nilfn none), (28, xt .iface 1 16 .nilif none), (29, xt .iface 1 16 .nilif none), (30, xt .func 1 8 .nilfn none), (31, xt .func 1 8 .nilfn none), (32, xt (.slice 34) 1 24 .nils (some (.lst .ty))), (33, xt (.struct [(0, 3), (1, 9), (2, 4), (3, 32)]) 4 56 (.tup [.int .i64 0, .str [], .bool false, .nils]) none), (34, xt (.struct [(0, 3), (1, 9), (2, 4), (3, 32)]) 4 56 (.tup [.int .i64 0, .str [], .bool false, .nils]) (some .ty)), (35, xt (.slice 9) 1 24 .nils (some (.lst .str))), (36, xt (.slice 52) 1 24 .nils (some (.lst .par))), (37, xt (.slice 65) 1 24 .nils (some (.lst .st))), (38, xt (.slice 40) 1 24 .nils (some (.lst .ex))), (39, xt (.struct [(0, 3), (1, 2), (2, 9), (3, 4), (4, 38)]) 5 64 (.tup [.int .i64 0, .int .i64 0, .str [], .bool false, .nils]) none), (40, xt (.struct [(0, 3), (1, 2), (2, 9), (3, 4), (4, 38)]) 5 64 (.tup [.int .i64 0, .int .i64 0, .str [], .bool false, .nils]) (some .ex)), (41, xt (.struct [(0, 9), (1, 35), (2, 36), (3, 34), (7, 35), (8, 37), (9, 40)]) 14 232 (.tup [.str [], .nils, .nils, .tup [.int .i64 0, .str [], .bool false, .nils], .nils, .nils, .tup [.int .i64 0, .int .i64 0, .str [], .bool false, .nils]]) none), (42, xt (.struct [(0, 9), (1, 35), (2, 36), (3, 34), (7, 35), (8, 37), (9, 40)]) 14 232 (.tup [.str [], .nils, .nils, .tup [.int .i64 0, .str [], .bool false, .nils], .nils, .nils, .tup [.int .i64 0, .int .i64 0, .str [], .bool false, .nils]]) (some .fn)), (43, xt .func 1 8 .nilfn none), (44, xt (.int .u16) 1 2 (.int .u16 0) none), (45, xt .func 1 8 .nilfn none), (46, xt .func 1 8 .nilfn none), (47, xt .func 1 8 .nilfn none), (48, xt .func 1 8 .nilfn none), (49, xt .func 1 8 .nilfn none), (50, xt .func 1 8 .nilfn none), (51, xt (.struct [(0, 9), (1, 34)]) 5 72 (.tup [.str [], .tup [.int .i64 0, .str [], .bool false, .nils]]) none), (52, xt (.struct [(0, 9), (1, 34)]) 5 72 (.tup [.str [], .tup [.int .i64 0, .str [], .bool false, .nils]]) (some .par)), (53, xt .func 1 8 .nilfn none), (54, xt .func 1 8 .nilfn none), (55, xt (.int .i64) 1 8 (.int .i64 0) (some .int)), (56, xt (.map 9 3) 1 8 .nilmap none), (57, xt .func 1 8 .nilfn none), (58, xt (.ptr 60) 1 8 .nilp none), (59, xt (.struct [(0, 3), (1, 29)]) 2 24 (.tup [.int .i64 0, .nilif]) none), (60, xt (.struct [(0, 3), (1, 29)]) 2 24 (.tup [.int .i64 0, .nilif]) none), (61, xt .func 1 8 .nilfn none), (63, xt .func 1 8 .nilfn none), (64, xt (.struct [(0, 3), (1, 9), (2, 40), (7, 40), (12, 37), (13, 37)]) 14 200 (.tup [.int .i64 0, .str [], .tup [.int .i64 0, .int .i64 0, .str [], .bool false, .nils], .tup [.int .i64 0, .int .i64 0, .str [], .bool false, .nils], .nils, .nils]) none), (65, xt (.struct [(0, 3), (1, 9), (2, 40), (7, 40), (12, 37), (13, 37)]) 14 200 (.tup [.int .i64 0, .str [], .tup [.int .i64 0, .int .i64 0, .str [], .bool false, .nils], .tup [.int .i64 0, .int .i64 0, .str [], .bool false, .nils], .nils, .nils]) (some .st)), (66, xt .func 1 8 .nilfn none), (67, xt .func 1 8 .nilfn none), (68, xt .func 1 8 .nilfn none), (70, xt .func 1 8 .nilfn none), (71, xt .func 1 8 .nilfn none), (72, xt .func 1 8 .nilfn none), (73, xt (.ptr 55) 1 8 .nilp none), (74, xt (.ptr 58) 1 8 .nilp none), (75, xt .func 1 8 .nilfn none), (76, xt (.map 9 4) 1 8 .nilmap none), (77, xt (.map 9 4) 1 8 .nilmap none), (78, xt .func 1 8 .nilfn none), (79, xt .func 1 8 .nilfn none), (80, xt .func 1 8 .nilfn none), (81, xt .func 1 8 .nilfn none), (83, xt .func 1 8 .nilfn none), (84, xt .func 1 8 .nilfn none), (85, xt .func 1 8 .nilfn none), (86, xt .func 1 8 .nilfn none), (87, xt .func 1 8 .nilfn none), (88, xt (.slice 96) 1 24 .nils (some (.lst .tok))), (90, xt .func 1 8 .nilfn none), (91, xt (.ptr 93) 1 8 .nilp none), (92, xt (.struct [(0, 88), (1, 3), (2, 4)]) 3 40 (.tup [.nils, .int .i64 0, .bool false]) none), (93, xt (.struct [(0, 88), (1, 3), (2, 4)]) 3 40 (.tup [.nils, .int .i64 0, .bool false]) none), (94, xt .func 1 8 .nilfn none), (95, xt (.struct [(0, 3), (1, 3), (2, 9)]) 3 32 (.tup [.int .i64 0, .int .i64 0, .str []]) none), (96, xt (.struct [(0, 3), (1, 3), (2, 9)]) 3 32 (.tup [.int .i64 0, .int .i64 0, .str []]) (some .tok)), (97, xt .func 1 8 .nilfn none), (98, xt .func 1 8 .nilfn none), (99, xt .func 1 8 .nilfn none), (101, xt (.int .u64) 1 8 (.int .u64 0) none), (104, xt .func 1 8 .nilfn none), (105, xt .iface 1 16 .nilif none), (106, xt .iface 1 16 .nilif none), (107, xt .func 1 8 .nilfn none), (108, xt (.int .u8) 1 1 (.int .u8 0) none), (109, xt .func 1 8 .nilfn none), (110, xt .func 1 8 .nilfn none), (111, xt .func 1 8 .nilfn none), (112, xt .func 1 8 .nilfn none), (113, xt .func 1 8 .nilfn none), (114, xt .func 1 8 .nilfn none), (115, xt .func 1 8 .nilfn none), (116, xt .func 1 8 .nilfn none), (117, xt .func 1 8 .nilfn none), (118, xt .func 1 8 .nilfn none), (119, xt .func 1 8 .nilfn none), (120, xt .func 1 8 .nilfn none), (121, xt .func 1 8 .nilfn none), (122, xt .func 1 8 .nilfn none), (123, xt .func 1 8 .nilfn none), (124, xt .func 1 8 .nilfn none), (125, xt .func 1 8 .nilfn none), (126, xt .func 1 8 .nilfn none), (127, xt .func 1 8 .nilfn none), (128, xt (.struct [(0, 17)]) 1 8 (.tup [.nilp]) none), (129, xt (.struct [(0, 17)]) 1 8 (.tup [.nilp]) none), (130, xt (.ptr 217) 1 8 .nilp none), (131, xt .func 1 8 .nilfn none), (132, xt .func 1 8 .nilfn none), (133, xt .func 1 8 .nilfn none), (134, xt .iface 1 16 .nilif none), (136, xt .func 1 8 .nilfn none), (137, xt .iface 1 16 .nilif none), (138, xt .func 1 8 .nilfn none), (139, xt .iface 1 16 .nilif none), (140, xt (.slice 29) 1 24 .nils none), (141, xt .func 1 8 .nilfn none), (142, xt .func 1 8 .nilfn none), (143, xt .func 1 8 .nilfn none), (144, xt .func 1 8 .nilfn none), (145, xt .func 1 8 .nilfn none), (146, xt .func 1 8 .nilfn none), (148, xt .func 1 8 .nilfn none), (149, xt .func 1 8 .nilfn none), (150, xt (.arr 4 4) 4 4 (.tup [.bool false, .bool false, .bool false, .bool false]) none), (151, xt (.struct [(0, 4), (1, 4), (2, 4), (3, 3), (4, 3), (5, 98)]) 6 32 (.tup [.bool false, .bool false, .bool false, .int .i64 0, .int .i64 0, .nilfn]) none), (152, xt (.struct [(0, 4), (1, 4), (2, 4), (3, 3), (4, 3), (5, 98)]) 6 32 (.tup [.bool false, .bool false, .bool false, .int .i64 0, .int .i64 0, .nilfn]) none), (153, xt (.arr 9 152) 54 288 (.tup [.tup [.bool false, .bool false, .bool false, .int .i64 0, .int .i64 0, .nilfn], .tup [.bool false, .bool false, .bool false, .int .i64 0, .int .i64 0, .nilfn], .tup [.bool false, .bool false, .bool false, .int .i64 0, .int .i64 0, .nilfn], .tup [.bool false, .bool false, .bool false, .int .i64 0, .int .i64 0, .nilfn], .tup [.bool false, .bool false, .bool false, .int .i64 0, .int .i64 0, .nilfn], .tup [.bool false, .bool false, .bool false, .int .i64 0, .int .i64 0, .nilfn], .tup [.bool false, .bool false, .bool false, .int .i64 0, .int .i64 0, .nilfn], .tup [.bool false, .bool false, .bool false, .int .i64 0, .int .i64 0, .nilfn], .tup [.bool false, .bool false, .bool false, .int .i64 0, .int .i64 0, .nilfn]]) none), (154, xt .func 1 8 .nilfn none), (155, xt .func 1 8 .nilfn none), (156, xt .func 1 8 .nilfn none), (157, xt .func 1 8 .nilfn none), (158, xt .func 1 8 .nilfn none), (159, xt .func 1 8 .nilfn none), (160, xt .func 1 8 .nilfn none), (161, xt .func 1 8 .nilfn none), (162, xt .func 1 8 .nilfn none), (163, xt .func 1 8 .nilfn none), (164, xt .func 1 8 .nilfn none), (165, xt .func 1 8 .nilfn none), (166, xt .func 1 8 .nilfn none), (167, xt .func 1 8 .nilfn none), (168, xt .func 1 8 .nilfn none), (169, xt .func 1 8 .nilfn none), (170, xt .func 1 8 .nilfn none), (172, xt .func 1 8 .nilfn none), (173, xt .func 1 8 .nilfn none), (174, xt .func 1 8 .nilfn none), (175, xt .func 1 8 .nilfn none), (176, xt (.slice 178) 1 24 .nils none), (177, xt (.struct [(0, 3), (1, 3)]) 2 16 (.tup [.int .i64 0, .int .i64 0]) none), (178, xt (.struct [(0, 3), (1, 3)]) 2 16 (.tup [.int .i64 0, .int .i64 0]) none), (179, xt (.int .u32) 1 4 (.int .u32 0) none), (180, xt .func 1 8 .nilfn none), (181, xt (.ptr 191) 1 8 .nilp none), (182, xt .func 1 8 .nilfn none), (183, xt .func 1 8 .nilfn none), (184, xt .func 1 8 .nilfn none), (185, xt .func 1 8 .nilfn none), (186, xt (.int .u64) 1 8 (.int .u64 0) none), (187, xt .func 1 8 .nilfn none), (188, xt (.slice 193) 1 24 .nils none), (189, xt (.slice 196) 1 24 .nils none), (190, xt (.struct [(0, 188), (1, 189), (2, 3)]) 3 56 (.tup [.nils, .nils, .int .i64 0]) none), (191, xt (.struct [(0, 188), (1, 189), (2, 3)]) 3 56 (.tup [.nils, .nils, .int .i64 0]) none), (192, xt (.struct [(0, 44), (1, 44), (2, 44)]) 3 6 (.tup [.int .u16 0, .int .u16 0, .int .u16 0]) none), (193, xt (.struct [(0, 44), (1, 44), (2, 44)]) 3 6 (.tup [.int .u16 0, .int .u16 0, .int .u16 0]) none), (194, xt .func 1 8 .nilfn none), (195, xt (.struct [(0, 179), (1, 179), (2, 179)]) 3 12 (.tup [.int .u32 0, .int .u32 0, .int .u32 0]) none), (196, xt (.struct [(0, 179), (1, 179), (2, 179)]) 3 12 (.tup [.int .u32 0, .int .u32 0, .int .u32 0]) none), (197, xt .func 1 8 .nilfn none), (198, xt (.ptr 193) 1 8 .nilp none), (199, xt (.ptr 196) 1 8 .nilp none), (200, xt (.struct [(0, 17), (1, 17), (2, 17), (3, 9)]) 4 40 (.tup [.nilp, .nilp, .nilp, .str []]) none), (201, xt (.struct [(0, 17), (1, 17), (2, 17), (3, 9)]) 4 40 (.tup [.nilp, .nilp, .nilp, .str []]) none), (205, xt .func 1 8 .nilfn none), (206, xt .func 1 8 .nilfn none), (207, xt (.int .u8) 1 1 (.int .u8 0) none), (208, xt .func 1 8 .nilfn none), (209, xt (.ptr 5) 1 8 .nilp none), (210, xt (.int .i32) 1 4 (.int .i32 0) none), (211, xt (.int .i32) 1 4 (.int .i32 0) none), (212, xt (.struct [(0, 12), (1, 12), (2, 179), (3, 207), (4, 5), (5, 5), (6, 108), (7, 208), (8, 209), (9, 210), (10, 211)]) 11 48 (.tup [.int .u64 0, .int .u64 0, .int .u32 0, .int .u8 0, .int .u8 0, .int .u8 0, .int .u8 0, .nilfn, .nilp, .int .i32 0, .int .i32 0]) none), (213, xt (.struct [(0, 12), (1, 12), (2, 179), (3, 207), (4, 5), (5, 5), (6, 108), (7, 208), (8, 209), (9, 210), (10, 211)]) 11 48 (.tup [.int .u64 0, .int .u64 0, .int .u32 0, .int .u8 0, .int .u8 0, .int .u8 0, .int .u8 0, .nilfn, .nilp, .int .i32 0, .int .i32 0]) none), (214, xt .func 1 8 .nilfn none), (215, xt .func 1 8 .nilfn none), (216, xt (.struct [(0, 9), (1, 108)]) 2 24 (.tup [.str [], .int .u8 0]) none), (217, xt (.struct [(0, 9), (1, 108)]) 2 24 (.tup [.str [], .int .u8 0]) none), (218, xt (.ptr 221) 1 8 .nilp none), (219, xt .func 1 8 .nilfn none), (220, xt (.struct [(0, 210), (1, 44), (2, 44), (3, 179), (4, 179)]) 5 16 (.tup [.int .i32 0, .int .u16 0, .int .u16 0, .int .u32 0, .int .u32 0]) none), (221, xt (.struct [(0, 210), (1, 44), (2, 44), (3, 179), (4, 179)]) 5 16 (.tup [.int .i32 0, .int .u16 0, .int .u16 0, .int .u32 0, .int .u32 0]) none), (222, xt (.slice 225) 1 24 .nils none), (223, xt (.int .i32) 1 4 (.int .i32 0) none), (224, xt (.struct [(0, 210), (1, 211), (2, 223), (3, 223)]) 4 16 (.tup [.int .i32 0, .int .i32 0, .int .i32 0, .int .i32 0]) none), (225, xt (.struct [(0, 210), (1, 211), (2, 223), (3, 223)]) 4 16 (.tup [.int .i32 0, .int .i32 0, .int .i32 0, .int .i32 0]) none), (226, xt (.ptr 29) 1 8 .nilp none)]
theorem XTl_ok : AllI Tryz.prog XTl := ⟨xi (by kernel_rfl), xi (by kernel_rfl), xi (by kernel_rfl), xi (by kernel_rfl), xi (by kernel_rfl), xi (by kernel_rfl), xi (by kernel_rfl), xi (by kernel_rfl), xi (by kernel_rfl), xi (by kernel_rfl), xi (by kernel_rfl), xi (by kernel_rfl), xi (by kernel_rfl), xi (by kernel_rfl), xi (by kernel_rfl), xi (by kernel_rfl), xi (by kernel_rfl), xi (by kernel_rfl), xi (by kernel_rfl), xi (by kernel_rfl), xi (by kernel_rfl), xi (by kernel_rfl), xi (by kernel_rfl), xi (by kernel_rfl), xi (by kernel_rfl), xi (by kernel_rfl), xi (by kernel_rfl), xi (by kernel_rfl), xi (by kernel_rfl), xi (by kernel_rfl), xi (by kernel_rfl), xi (by kernel_rfl), xi (by kernel_rfl), xi (by kernel_rfl), xi (by kernel_rfl), xi (by kernel_rfl), xi (by kernel_rfl), xi (by kernel_rfl), xi (by kernel_rfl), xi (by kernel_rfl), xi (by kernel_rfl), xi (by kernel_rfl), xi (by kernel_rfl), xi (by kernel_rfl), xi (by kernel_rfl), xi (by kernel_rfl), xi (by kernel_rfl), xi (by kernel_rfl), xi (by kernel_rfl), xi (by kernel_rfl), xi (by kernel_rfl), xi (by kernel_rfl), xi (by kernel_rfl), xi (by kernel_rfl), xi (by kernel_rfl), xi (by kernel_rfl), xi (by kernel_rfl), xi (by kernel_rfl), xi (by kernel_rfl), xi (by kernel_rfl), xi (by kernel_rfl), xi (by kernel_rfl), xi (by kernel_rfl), xi (by kernel_rfl), xi (by kernel_rfl), xi (by kernel_rfl), xi (by kernel_rfl), xi (by kernel_rfl), xi (by kernel_rfl), xi (by kernel_rfl), xi (by kernel_rfl), xi (by kernel_rfl), xi (by kernel_rfl), xi (by kernel_rfl), xi (by kernel_rfl), xi (by kernel_rfl), xi (by kernel_rfl), xi (by kernel_rfl), xi (by kernel_rfl), xi (by kernel_rfl), xi (by kernel_rfl), xi (by kernel_rfl), xi (by kernel_rfl), xi (by kernel_rfl), xi (by kernel_rfl), xi (by kernel_rfl), xi (by kernel_rfl), xi (by kernel_rfl), xi (by kernel_rfl), xi (by kernel_rfl), xi (by kernel_rfl), xi (by kernel_rfl), xi (by kernel_rfl), xi (by kernel_rfl), xi (by kernel_rfl), xi (by kernel_rfl), xi (by kernel_rfl), xi (by kernel_rfl), xi (by kernel_rfl), xi (by kernel_rfl), xi (by kernel_rfl), xi (by kernel_rfl), xi (by kernel_rfl), xi (by kernel_rfl), xi (by kernel_rfl), xi (by kernel_rfl), xi (by kernel_rfl), xi (by kernel_rfl), xi (by kernel_rfl), xi (by kernel_rfl), xi (by kernel_rfl), xi (by kernel_rfl), xi (by kernel_rfl), xi (by kernel_rfl), xi (by kernel_rfl), xi (by kernel_rfl), xi (by kernel_rfl), xi (by kernel_rfl), xi (by kernel_rfl), xi (by kernel_rfl), xi (by kernel_rfl), xi (by kernel_rfl), xi (by kernel_rfl), xi (by kernel_rfl), xi (by kernel_rfl), xi (by kernel_rfl), xi (by kernel_rfl), xi (by kernel_rfl), xi (by kernel_rfl), xi (by kernel_rfl), xi (by kernel_rfl), xi (by kernel_rfl), xi (by kernel_rfl), xi (by kernel_rfl), xi (by kernel_rfl), xi (by kernel_rfl), xi (by kernel_rfl), xi (by kernel_rfl), xi (by kernel_rfl), xi (by kernel_rfl), xi (by kernel_rfl), xi (by kernel_rfl), xi (by kernel_rfl), xi (by kernel_rfl), xi (by kernel_rfl), xi (by kernel_rfl), xi (by kernel_rfl), xi (by kernel_rfl), xi (by kernel_rfl), xi (by kernel_rfl), xi (by kernel_rfl), xi (by kernel_rfl), xi (by kernel_rfl), xi (by kernel_rfl), xi (by kernel_rfl), xi (by kernel_rfl), xi (by kernel_rfl), xi (by kernel_rfl), xi (by kernel_rfl), xi (by kernel_rfl), xi (by kernel_rfl), xi (by kernel_rfl), xi (by kernel_rfl), xi (by kernel_rfl), xi (by kernel_rfl), xi (by kernel_rfl), xi (by kernel_rfl), xi (by kernel_rfl), xi (by kernel_rfl), xi (by kernel_rfl), xi (by kernel_rfl), xi (by kernel_rfl), xi (by kernel_rfl), xi (by kernel_rfl), xi (by kernel_rfl), xi (by kernel_rfl), xi (by kernel_rfl), xi (by kernel_rfl), xi (by kernel_rfl), xi (by kernel_rfl), xi (by kernel_rfl), xi (by kernel_rfl), xi (by kernel_rfl), xi (by kernel_rfl), xi (by kernel_rfl), xi (by kernel_rfl), xi (by kernel_rfl), xi (by kernel_rfl), xi (by kernel_rfl), xi (by kernel_rfl), xi (by kernel_rfl), xi (by kernel_rfl), xi (by kernel_rfl), xi (by kernel_rfl), xi (by kernel_rfl), xi (by kernel_rfl), xi (by kernel_rfl), xi (by kernel_rfl), xi (by kernel_rfl), xi (by kernel_rfl), xi (by kernel_rfl), xi (by kernel_rfl), xi (by kernel_rfl), xi (by kernel_rfl), xi (by kernel_rfl), xi (by kernel_rfl), xi (by kernel_rfl), xi (by kernel_rfl), xi (by kernel_rfl), xi (by kernel_rfl), xi (by kernel_rfl), xi (by kernel_rfl), trivial⟩
noncomputable def XFl : List (Nat × FI) := [(3, fiOf Tryz.f3 ro0), (4, fiOf Tryz.f4 ⟨[1], [], []⟩), (5, fiOf Tryz.f5 ro0), (6, fiOf Tryz.f6 ro0), (7, fiOf Tryz.f7 ro0), (8, fiOf Tryz.f8 ro0), (9, fiOf Tryz.f9 ro0), (10, fiOf Tryz.f10 ⟨[28, 54, 80], [], []⟩), (11, fiOf Tryz.f11 ⟨[1], [], []⟩), (12, fiOf Tryz.f12 ⟨[1], [], []⟩), (13, fiOf Tryz.f13 ro0), (14, fiOf Tryz.f14 ro0), (15, fiOf Tryz.f15 ⟨[1], [], []⟩), (16, fiOf Tryz.f16 ro0), (17, fiOf Tryz.f17 ⟨[1], [], []⟩), (18, fiOf Tryz.f18 ro0), (19, fiOf Tryz.f19 ⟨[2], [], []⟩), (20, fiOf Tryz.f20 ro0), (21, fiOf Tryz.f21 ro0), (22, fiOf Tryz.f22 ro0), (23, fiOf Tryz.f23 ro0), (24, fiOf Tryz.f24 ro0), (25, fiOf Tryz.f25 ⟨[2], [], []⟩), (26, fiOf Tryz.f26 ⟨[1], [], []⟩), (27, fiOf Tryz.f27 ⟨[1], [], []⟩), (28, fiOf Tryz.f28 ro0), (29, fiOf Tryz.f29 ⟨[1], [], []⟩), (30, fiOf Tryz.f30 ro0), (31, fiOf Tryz.f31 ⟨[2], [], []⟩), (32, fiOf Tryz.f32 ro0), (33, fiOf Tryz.f33 ro0), (34, fiOf Tryz.f34 ⟨[3], [], []⟩), (35, fiOf Tryz.f35 ro0), (36, fiOf Tryz.f36 ro0), (37, fiOf Tryz.f37 ro0), (38, fiOf Tryz.f38 ⟨[1], [], []⟩), (39, fiOf Tryz.f39 ro0), (40, fiOf Tryz.f40 ro0), (41, fiOf Tryz.f41 ro0), (42, fiOf Tryz.f42 ⟨[1], [], []⟩), (43, fiOf Tryz.f43 ro0), (44, fiOf Tryz.f44 ro0), (45, fiOf Tryz.f45 ro0), (46, fiOf Tryz.f46 ⟨[], [], [(6, 27, [1, 5, 9, 13, 24], [], [0, 2])]⟩), (47, fiOf Tryz.f47 ⟨[4], [], []⟩), (48, fiOf Tryz.f48 ro0), (49, fiOf Tryz.f49 ro0), (50, fiOf Tryz.f50 ro0), (51, fiOf Tryz.f51 ro0), (52, fiOf Tryz.f52 ⟨[1], [], []⟩), (53, fiOf Tryz.f53 ro0), (54, fiOf Tryz.f54 ro0), (55, fiOf Tryz.f55 ro0), (56, fiOf Tryz.f56 ⟨[1], [], []⟩), (57, fiOf Tryz.f57 ro0), (58, fiOf Tryz.f58 ⟨[1], [], []⟩), (59, fiOf Tryz.f59 ro0), (60, fiOf Tryz.f60 ⟨[1], [], []⟩), (64, fiOf Tryz.f64 ⟨[6], [], []⟩), (65, fiOf Tryz.f65 ro0), (66, fiOf Tryz.f66 ⟨[1], [], []⟩), (67, fiOf Tryz.f67 ro0), (68, fiOf Tryz.f68 ⟨[2], [], []⟩), (69, fiOf Tryz.f69 ⟨[1], [], []⟩), (70, fiOf Tryz.f70 ro0), (71, fiOf Tryz.f71 ⟨[1], [], []⟩), (72, fiOf Tryz.f72 ro0), (73, fiOf Tryz.f73 ro0), (74, fiOf Tryz.f74 ro0), (75, fiOf Tryz.f75 ⟨[1], [], []⟩), (76, fiOf Tryz.f76 ro0), (77, fiOf Tryz.f77 ⟨[1], [], [(3, 6, [0, 4], [5], [])]⟩), (78, fiOf Tryz.f78 ro0), (79, fiOf Tryz.f79 ro0), (80, fiOf Tryz.f80 ro0), (81, fiOf Tryz.f81 ro0), (82, fiOf Tryz.f82 ro0), (83, fiOf Tryz.f83 ro0), (84, fiOf Tryz.f84 ro0), (85, fiOf Tryz.f85 ro0), (86, fiOf Tryz.f86 ro0), (87, fiOf Tryz.f87 ro0), (88, fiOf Tryz.f88 ro0), (89, fiOf Tryz.f89 ro0), (90, fiOf Tryz.f90 ⟨[1], [], []⟩), (91, fiOf Tryz.f91 ⟨[1], [], []⟩), (92, fiOf Tryz.f92 ⟨[1], [], []⟩), (93, fiOf Tryz.f93 ⟨[2], [], []⟩), (97, fiOf Tryz.f97 ro0), (98, fiOf Tryz.f98 ⟨[1], [], []⟩), (99, fiOf Tryz.f99 ⟨[1], [], []⟩), (100, fiOf Tryz.f100 ro0), (101, fiOf Tryz.f101 ⟨[1], [], []⟩), (102, fiOf Tryz.f102 ⟨[1], [], []⟩), (103, fiOf Tryz.f103 ro0), (104, fiOf Tryz.f104 ⟨[38], [], []⟩), (105, fiOf Tryz.f105 ro0), (106, fiOf Tryz.f106 ro0), (107, fiOf Tryz.f107 ro0), (108, fiOf Tryz.f108 ro0), (109, fiOf Tryz.f109 ⟨[2], [], []⟩), (110, fiOf Tryz.f110 ro0), (111, fiOf Tryz.f111 ⟨[2], [], []⟩), (112, fiOf Tryz.f112 ⟨[1], [], []⟩), (113, fiOf Tryz.f113 ⟨[1], [], []⟩), (114, fiOf Tryz.f114 ⟨[1], [], []⟩), (115, fiOf Tryz.f115 ro0), (116, fiOf Tryz.f116 ro0), (117, fiOf Tryz.f117 ro0), (118, fiOf Tryz.f118 ro0), (119, fiOf Tryz.f119 ro0), (120, fiOf Tryz.f120 ro0), (121, fiOf Tryz.f121 ro0), (122, fiOf Tryz.f122 ro0), (123, fiOf Tryz.f123 ro0), (124, fiOf Tryz.f124 ro0), (125, fiOf Tryz.f125 ⟨[1], [], []⟩), (126, fiOf Tryz.f126 ro0), (127, fiOf Tryz.f127 ⟨[2], [], []⟩), (128, fiOf Tryz.f128 ro0), (129, fiOf Tryz.f129 ro0), (130, fiOf Tryz.f130 ro0), (131, fiOf Tryz.f131 ⟨[2], [], []⟩), (132, fiOf Tryz.f132 ro0), (133, fiOf Tryz.f133 ro0), (134, fiOf Tryz.f134 ⟨[1], [], []⟩), (135, fiOf Tryz.f135 ⟨[1], [], []⟩), (136, fiOf Tryz.f136 ⟨[1], [], []⟩), (137, fiOf Tryz.f137 ⟨[1], [], []⟩), (138, fiOf Tryz.f138 ⟨[1], [], []⟩), (139, fiOf Tryz.f139 ⟨[1], [], []⟩), (140, fiOf Tryz.f140 ⟨[1], [], []⟩), (141, fiOf Tryz.f141 ⟨[1], [], []⟩), (142, fiOf Tryz.f142 ro0), (143, fiOf Tryz.f143 ⟨[2], [], []⟩), (144, fiOf Tryz.f144 ro0), (145, fiOf Tryz.f145 ro0), (146, fiOf Tryz.f146 ro0), (147, fiOf Tryz.f147 ro0), (148, fiOf Tryz.f148 ro0), (149, fiOf Tryz.f149 ro0), (150, fiOf Tryz.f150 ro0), (151, fiOf Tryz.f151 ro0), (152, fiOf Tryz.f152 ro0), (153, fiOf Tryz.f153 ro0), (154, fiOf Tryz.f154 ro0), (155, fiOf Tryz.f155 ro0), (156, fiOf Tryz.f156 ro0), (157, fiOf Tryz.f157 ro0), (158, fiOf Tryz.f158 ro0), (159, fiOf Tryz.f159 ro0), (160, fiOf Tryz.f160 ro0), (161, fiOf Tryz.f161 ro0), (162, fiOf Tryz.f162 ro0), (163, fiOf Tryz.f163 ro0), (164, fiOf Tryz.f164 ro0), (165, fiOf Tryz.f165 ro0), (166, fiOf Tryz.f166 ro0), (167, fiOf Tryz.f167 ro0), (168, fiOf Tryz.f168 ro0), (170, fiOf Tryz.f170 ro0), (171, fiOf Tryz.f171 ro0), (172, fiOf Tryz.f172 ro0)]
theorem XFl_ok : AllF Tryz.prog XFl := ⟨xf (by kernel_rfl), xf (by kernel_rfl), xf (by kernel_rfl), xf (by kernel_rfl), xf (by kernel_rfl), xf (by kernel_rfl), xf (by kernel_rfl), xf (by kernel_rfl), xf (by kernel_rfl), xf (by kernel_rfl), xf (by kernel_rfl), xf (by kernel_rfl), xf (by kernel_rfl), xf (by kernel_rfl), xf (by kernel_rfl), xf (by kernel_rfl), xf (by kernel_rfl), xf (by kernel_rfl), xf (by kernel_rfl), xf (by kernel_rfl), xf (by kernel_rfl), xf (by kernel_rfl), xf (by kernel_rfl), xf (by kernel_rfl), xf (by kernel_rfl), xf (by kernel_rfl), xf (by kernel_rfl), xf (by kernel_rfl), xf (by kernel_rfl), xf (by kernel_rfl), xf (by kernel_rfl), xf (by kernel_rfl), xf (by kernel_rfl), xf (by kernel_rfl), xf (by kernel_rfl), xf (by kernel_rfl), xf (by kernel_rfl), xf (by kernel_rfl), xf (by kernel_rfl), xf (by kernel_rfl), xf (by kernel_rfl), xf (by kernel_rfl), xf (by kernel_rfl), xf (by kernel_rfl), xf (by kernel_rfl), xf (by kernel_rfl), xf (by kernel_rfl), xf (by kernel_rfl), xf (by kernel_rfl), xf (by kernel_rfl), xf (by kernel_rfl), xf (by kernel_rfl), xf (by kernel_rfl), xf (by kernel_rfl), xf (by kernel_rfl), xf (by kernel_rfl), xf (by kernel_rfl), xf (by kernel_rfl), xf (by kernel_rfl), xf (by kernel_rfl), xf (by kernel_rfl), xf (by kernel_rfl), xf (by kernel_rfl), xf (by kernel_rfl), xf (by kernel_rfl), xf (by kernel_rfl), xf (by kernel_rfl), xf (by kernel_rfl), xf (by kernel_rfl), xf (by kernel_rfl), xf (by kernel_rfl), xf (by kernel_rfl), xf (by kernel_rfl), xf (by kernel_rfl), xf (by kernel_rfl), xf (by kernel_rfl), xf (by kernel_rfl), xf (by kernel_rfl), xf (by kernel_rfl), xf (by kernel_rfl), xf (by kernel_rfl), xf (by kernel_rfl), xf (by kernel_rfl), xf (by kernel_rfl), xf (by kernel_rfl), xf (by kernel_rfl), xf (by kernel_rfl), xf (by kernel_rfl), xf (by kernel_rfl), xf (by kernel_rfl), xf (by kernel_rfl), xf (by kernel_rfl), xf (by kernel_rfl), xf (by kernel_rfl), xf (by kernel_rfl), xf (by kernel_rfl), xf (by kernel_rfl), xf (by kernel_rfl), xf (by kernel_rfl), xf (by kernel_rfl), xf (by kernel_rfl), xf (by kernel_rfl), xf (by kernel_rfl), xf (by kernel_rfl), xf (by kernel_rfl), xf (by kernel_rfl), xf (by kernel_rfl), xf (by kernel_rfl), xf (by kernel_rfl), xf (by kernel_rfl), xf (by kernel_rfl), xf (by kernel_rfl), xf (by kernel_rfl), xf (by kernel_rfl), xf (by kernel_rfl), xf (by kernel_rfl), xf (by kernel_rfl), xf (by kernel_rfl), xf (by kernel_rfl), xf (by kernel_rfl), xf (by kernel_rfl), xf (by kernel_rfl), xf (by kernel_rfl), xf (by kernel_rfl), xf (by kernel_rfl), xf (by kernel_rfl), xf (by kernel_rfl), xf (by kernel_rfl), xf (by kernel_rfl), xf (by kernel_rfl), xf (by kernel_rfl), xf (by kernel_rfl), xf (by kernel_rfl), xf (by kernel_rfl), xf (by kernel_rfl), xf (by kernel_rfl), xf (by kernel_rfl), xf (by kernel_rfl), xf (by kernel_rfl), xf (by kernel_rfl), xf (by kernel_rfl), xf (by kernel_rfl), xf (by kernel_rfl), xf (by kernel_rfl), xf (by kernel_rfl), xf (by kernel_rfl), xf (by kernel_rfl), xf (by kernel_rfl), xf (by kernel_rfl), xf (by kernel_rfl), xf (by kernel_rfl), xf (by kernel_rfl), xf (by kernel_rfl), xf (by kernel_rfl), xf (by kernel_rfl), xf (by kernel_rfl), xf (by kernel_rfl), xf (by kernel_rfl), xf (by kernel_rfl), xf (by kernel_rfl), xf (by kernel_rfl), xf (by kernel_rfl), xf (by kernel_rfl), trivial⟩
def gAscii : Nat := 1
noncomputable def G0 (g : Nat) : AV := if g = gAscii then .agg (Lib.asciiSpaceTab.map (AV.int .u8)) else if g = 0 then .agg [.iface 129 (.agg [.ptr 5 29])] else .junk
noncomputable def X (B : Nat) : Cx := ⟨Tryz.prog, fun t => (lkI XTl t).map (·.ti), [96], B, G0⟩
theorem mixed : Tryz.prog.follows .mixedOrders = true := by kernel_rfl
theorem eq96 : EqOK Tryz.prog 96 = true := by kernel_rfl
theorem es_ok : ∀ t ∈ ([96] : List Nat), EqOK Tryz.prog t = true := by
  intro t h
  simp only [List.mem_cons, List.not_mem_nil, or_false] at h
  rcases h with rfl
  · exact eq96
noncomputable def mkC (con : FuncId → Option Con) (lp : Nat → Option (FuncId × List Nat × Con)) : XC := ⟨lkI XTl, ⟨55, 58⟩, [96], lkF XFl, con, lp, 4000⟩
theorem hX (B : Nat) (con : FuncId → Option Con) (lp : Nat → Option (FuncId × List Nat × Con)) : XOKs (X B) (mkC con lp) := ⟨⟨tok_of XTl_ok, es_ok, mixed⟩, tabOK_of XTl_ok rfl, rfl⟩
theorem hF (B : Nat) (con : FuncId → Option Con) (lp : Nat → Option (FuncId × List Nat × Con)) : ∀ f fi, (mkC con lp).fi f = some fi → FIok (X B) f fi := fun f fi h => ⟨(allF_at XFl_ok h).ex⟩
end Go.Lb.R
end
section
set_option maxRecDepth 100000
namespace Go.Lb.R
open Go.Proofs
open Go.Lb
noncomputable def Ce : XC := mkC (fun _ => none) (fun _ => none)
def cloneCon : Con := ⟨⟨[(0, .sl .str)], [], []⟩, [(.ret, ⟨[(1000, .own .str 0)], [], [(0, 1, 9)]⟩)], fun x => bind2 (app 16 [] x.1.1) fun y => some ((y, ()), ())⟩
def cl0 : CallH := fun _ _ _ _ _ _ => none
theorem cl0_ok {X : Cx} {I : Ids} : CallsOK X I cl0 := fun ρ ct g args s k r h => by cases h
theorem run1 {B : Nat} {n : Nat} {ro : RO} {c : Code} {N : Nm} {s : XS} {t : Nat → AV} {h h0 : Heap} {Q : AExit → St → Prop} {ρ : Type} {k : XE → XS → Option ρ} {r : ρ} (hx : xcode Ce cl0 n ro 0 c [] .nil ρ s k = some r) (hs : SR Ce.I N s t h h0) (hn : NxtE (X B) Ce n Q (wrC c) N s t h0 k r) : WS (X B) n c Q ⟨t, h⟩ :=
  xcode_sound (body := c) (hX B _ _) cl0_ok (fun i q L h => by cases h) c [] rfl .nil ρ s k r N t h h0 Q hx hs hn
def endN (e : XE) (s : XS) : Option XS := match e with | .normal => some s | _ => none
noncomputable def b41 : Code := Tryz.f41.body.getD .skip
noncomputable def r0 : Code := match b41 with | .seq a _ => a | _ => .skip
noncomputable def r1 : Code := match b41 with | .seq _ (.seq (.seq a _) _) => a | _ => .skip
noncomputable def ra : Code := match b41 with | .seq _ (.seq (.seq _ (.cond _ a _)) _) => a | _ => .skip
noncomputable def rz : Code := match b41 with | .seq _ (.seq (.seq _ (.cond _ _ a)) _) => a | _ => .skip
noncomputable def re : Code := match b41 with | .seq _ (.seq _ a) => a | _ => .skip
theorem b41_eq : b41 = .seq r0 (.seq (.seq r1 (.cond (.tmp 4) ra rz)) re) := by kernel_rfl
noncomputable def o1 : Array Oper := match r1 with | .region _ o _ => o | _ => #[]
theorem r1_eq : r1 = .region 1 o1 false := by kernel_rfl
theorem o10 : o1[0]? = some ⟨some 3, .move (.tmp 0), 35, (o1[0]?.getD default).pos, (o1[0]?.getD default).after, none⟩ := by kernel_rfl
theorem o11 : o1[1]? = some ⟨some 4, .binOp .eql 35 (.tmp 3) (.const (.slice none 0 0)) 35, 4, (o1[1]?.getD default).pos, (o1[1]?.getD default).after, none⟩ := by kernel_rfl
theorem o1s : o1.size = 2 := by kernel_rfl
noncomputable def kEnd (e : XE) (s : XS) : Option (DenA cloneCon.al) := match e with | .ret => resV Ce s [.tmp 2] (fun v => packA (idN []) .ret { s with A := [(1000, v)] } cloneCon.al) | _ => none
def s0 (l : List Str) : XS := ⟨[(0, .sl .str l .shared)], [], [], [], 0⟩
def s1 (l : List Str) : XS := ⟨[(2, .nils), (0, .sl .str l .shared)], [], [], [], 0⟩
def s2 (l : List Str) (b : Bool) : XS := ⟨[(4, .bool b), (3, .sl .str l .shared), (2, .nils), (0, .sl .str l .shared)], [], [], [], 0⟩
theorem x0 (l : List Str) : xcode Ce cl0 8 ⟨[], [], []⟩ 0 r0 [] .nil XS (s0 l) endN = some (s1 l) := by kernel_rfl
theorem xa (l : List Str) : xcode Ce cl0 8 ⟨[], [], []⟩ 0 ra [] .nil _ (s2 l true) kEnd = some (([], ()), ()) := by kernel_rfl
theorem xz (l : List Str) : xcode Ce cl0 8 ⟨[], [], []⟩ 0 rz [] .nil XS (s2 l false) endN = some (s2 l false) := by kernel_rfl
theorem xe (l : List Str) : xcode Ce cl0 8 ⟨[], [], []⟩ 0 re [] .nil _ (s2 l false) kEnd = Option.bind (app 16 [] l) fun q => some ((q, ()), ()) := by kernel_rfl
theorem f41_ok : FIok' Tryz.prog 41 (fiOf Tryz.f41 ⟨[], [], []⟩) := ⟨_, by kernel_rfl, by kernel_rfl, by kernel_rfl, rfl, rfl⟩
theorem clone_body (B : Nat) {N : Nm} {l q : List Str} {h h0 : Heap} (hq : app 16 [] l = some q) (hr : HR Ce.I N ⟨[], [], [], [], 0⟩ h h0) :
    ACalls (X B) 41 (Val.encL Ce.I N [.sl .str l .shared]) h fun e h' => ∃ (v : Val) (N' : Nm) (s' : XS) (av : AV), e = .ret av ∧ Ext 0 N N' ∧ HR Ce.I N' s' h' h0 ∧ okV N' s'.c v ∧ Weak av (v.enc Ce.I N') ∧ packA (idN []) .ret { s' with A := [(1000, v)] } cloneCon.al = some ((q, ()), ()) := by
  obtain ⟨fn, f1, f2, f3, f4, f5⟩ := f41_ok.ex
  have hX : XOKs (X B) Ce := hX B (fun _ => none) (fun _ => none)
  refine acalls_ws hX.x f1 f2 f3 (n := 8) f4 (rs := [.tmp 2]) f5 (by simp [Val.encL]) ?_
  have hs : SR Ce.I N (s0 l) (look (argA 0 (Val.encL Ce.I N [.sl .str l .shared]))) h h0 :=
    { heap := hr.heap, okH := hr.okH, okF := hr.okF, okR := hr.okR, slots := fun i hj => look_numA [.sl .str l .shared] 0 i hj, okA := fun i => numA_ok [.sl .str l .shared] 0 i (by simp only [okL, okV]; exact ⟨trivial, trivial⟩) }
  have fin : ∀ (N : Nm) (s : XS) (t : Nat → AV) (h : Heap) (W : List Nat) (next : St → Prop) (N0 : Nm), Ext 0 N0 N → NxtE (X B) Ce 8 (thenA next (retPost (X B) [.tmp 2] fun e h' => ∃ (v : Val) (N' : Nm) (s' : XS) (av : AV), e = .ret av ∧ Ext 0 N0 N' ∧ HR Ce.I N' s' h' h0 ∧ okV N' s'.c v ∧ Weak av (v.enc Ce.I N') ∧ packA (idN []) .ret { s' with A := [(1000, v)] } cloneCon.al = some ((q, ()), ()))) W N s t h0 kEnd ((q, ()), ()) := by
    intro N s t h W next N0 hE e N' s' t' h' he hc hs' hk hx'
    cases e with
    | ret =>
      obtain ⟨v, av, k1, k2, k3, k4⟩ := resV_sound (C := Ce) (rs := [.tmp 2]) (k := fun v => packA (idN []) .ret { s' with A := [(1000, v)] } cloneCon.al) hX hs' hx'
      refine wk_mk ?_
      have k2' : t' 2 = av := Option.some.inj k2
      subst k2'
      exact ⟨v, N', s', _, rfl, hE.trans (Nat.zero_le _) he, hs'.toHR, k4, k3, k1⟩
    | _ => cases hx'
  have fin0 : ∀ (N : Nm) (s : XS) (t : Nat → AV) (h : Heap) (W : List Nat) (N0 : Nm), Ext 0 N0 N → NxtE (X B) Ce 8 (retPost (X B) [.tmp 2] fun e h' => ∃ (v : Val) (N' : Nm) (s' : XS) (av : AV), e = .ret av ∧ Ext 0 N0 N' ∧ HR Ce.I N' s' h' h0 ∧ okV N' s'.c v ∧ Weak av (v.enc Ce.I N') ∧ packA (idN []) .ret { s' with A := [(1000, v)] } cloneCon.al = some ((q, ()), ())) W N s t h0 kEnd ((q, ()), ()) := by
    intro N s t h W N0 hE e N' s' t' h' he hc hs' hk hx'
    cases e with
    | ret =>
      obtain ⟨v, av, k1, k2, k3, k4⟩ := resV_sound (C := Ce) (rs := [.tmp 2]) (k := fun v => packA (idN []) .ret { s' with A := [(1000, v)] } cloneCon.al) hX hs' hx'
      refine wk_mk ?_
      have k2' : t' 2 = av := Option.some.inj k2
      subst k2'
      exact ⟨v, N', s', _, rfl, hE.trans (Nat.zero_le _) he, hs'.toHR, k4, k3, k1⟩
    | _ => cases hx'
  show WS (X B) 8 b41 _ _
  rw [b41_eq]
  refine ws_seq (run1 (x0 l) hs ?_)
  intro e N1 s' t1 h1 he1 _ hs1 _ hx1
  cases e with
  | normal =>
    have hx1 : some s' = some (s1 l) := hx1
    injection hx1 with hx1
    subst hx1
    refine wk_mk (s := ⟨t1, h1⟩) (ws_seq (ws_seq ?_))
    rw [r1_eq]
    refine ws_region ?_
    have ht0 : t1 0 = .sl l.length ((eD D.str).encs l) .shared := by
      have := hs1.slots 0 (fun hh => by have : Val.sl .str l .shared = .junk := hh; cases this)
      rw [this]; rfl
    refine wso_step (ro := []) hX.x o10 rfl ?_
    rw [aopWp_of_aop (v := .sl l.length ((eD D.str).encs l) .shared) (by simp only [aop, St.eval, ht0])]
    show (if 3 < 8 then _ else False)
    rw [if_pos (by decide)]
    refine wso_nilcmp (n := 8) (i := ⟨.slice 9, 1, 24, .sl 0 [] .full⟩) hX.x o11 rfl rfl rfl (by decide) (by kernel_rfl) rfl (by simp only [St.eval]; exact upd_same _ _ _) ?_
    intro b hb
    refine wso_nil (by rw [o1s]; decide) (wk_mk ?_)
    have hs2 : SR Ce.I N1 (s2 l b) (upd (upd t1 3 (.sl l.length ((eD D.str).encs l) .shared)) 4 (.bool b)) h1 h0 :=
      (hs1.put (d := 3) (v := .sl .str l .shared) (by simp only [okV])).put (d := 4) (v := .bool b) (by simp only [okV])
    refine ws_cond (t := b) (by simp only [St.eval]; exact upd_same _ _ _) (fun e => ?_) (fun e => ?_)
    · subst e
      have hl : l = [] := by
        have := (hb rfl).1
        exact List.length_eq_zero_iff.1 this
      subst hl
      have : q = [] := by
        unfold app at hq
        simp at hq
        exact hq
      subst this
      exact run1 (xa []) hs2 (fin N1 _ _ h1 _ _ N he1)
    · subst e
      refine run1 (xz l) hs2 ?_
      intro e N3 s3 t3 h3 he3 _ hs3 _ hx3
      cases e with
      | normal =>
        refine wk_mk ?_
        have hx3 : some s3 = some (s2 l false) := hx3
        injection hx3 with hx3
        subst hx3
        have hxe := xe l
        rw [hq] at hxe
        exact run1 hxe hs3 (fin0 N3 _ _ h3 _ N (he1.trans (Nat.zero_le _) he3))
      | _ => cases hx3
  | _ => cases hx1
theorem clone_ok (B : Nat) (con : FuncId → Option Con) (lp : Nat → Option (FuncId × List Nat × Con)) : ∀ x y, cloneCon.fn x = some y → FnOK1 (X B) (mkC con lp) 41 cloneCon x y := by
  intro x y hx N t h h0 hs
  obtain ⟨q, hq, hy⟩ := bind2_some hx
  have hy : ((q, ()), ()) = y := Option.some.inj hy
  subst hy
  have hr : HR Ce.I N ⟨[], [], [], [], 0⟩ h h0 := ⟨hs.heap, fun e he => (by cases he), fun e he => (by cases he), fun e he => (by cases he)⟩
  exact fn_post (L := cloneCon) (C := Ce) (x := x) (clone_body B hq hr)
end Go.Lb.R
end
