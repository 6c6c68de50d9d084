/-
  Part 6 of 6. The law NamesChecks of the names layer holds of the given program for every input whose bulk is at most 1048576: it returns true.
-/
import Derived.Test.YtdnndjdlfpkjlaaGreatDoorA5
import Derived.SevenTiedAt
import Derived.Deep.DeepWitnessRowRef
import Derived.Test.YtdnndjdlfpkjlaaGreatDoorCards
section
namespace Go.Lb.R
open Go.Lb
mutual
def exprB (p : Str → Bool) (c : Str → Option Int) : GE → Bool
  | .mk k _ s _ ks => exprBs p c ks && (bif eqI k 2 then p s else bif eqI k 9 then (match c s with | some n => eqI n (ks.length : Int) | none => false) else true)
def exprBs (p : Str → Bool) (c : Str → Option Int) : List GE → Bool
  | [] => true
  | e :: r => exprB p c e && exprBs p c r
end
theorem exprBs_all (p : Str → Bool) (c : Str → Option Int) : ∀ l : List GE, exprBs p c l = l.all (exprB p c)
  | [] => rfl
  | e :: r => by simp only [exprBs, List.all_cons, exprBs_all p c r]
theorem exprB_eq (p : Str → Bool) (c : Str → Option Int) (e : GE) : exprB p c e = (e.kids.all (exprB p c) && (bif eqI e.kind 2 then p e.name else bif eqI e.kind 9 then (match c e.name with | some n => eqI n (e.kids.length : Int) | none => false) else true)) := by
  cases e
  simp only [exprB, exprBs_all]
  rfl
theorem exprB_none {p : Str → Bool} {c : Str → Option Int} {e : GE} (h : noneB e = true) : exprB p c e = true := by
  simp only [noneB, Bool.and_eq_true] at h
  obtain ⟨h1, _, _, _, h2⟩ := h
  have hk : e.kind = 0 := of_decide_eq_true h1
  have hl : (e.kids.length : Int) = 0 := of_decide_eq_true h2
  have hl' : e.kids = [] := List.length_eq_zero_iff.1 (by omega)
  rw [exprB_eq, hl', hk]
  rfl
theorem k47_loop (M : Mp Bool) (A : Mp Int) (l : List GE) (hl : l.length ≤ MX) (IH : ∀ x ∈ l, k47 x M A = some ((exprB (lk M) (fun u => mgetL u A) x, ()), M, A, ())) : (k47_0 l (l.length : Int) 0 M A = some (Sum.inl ((), M, A, ())) ∧ l.all (exprB (lk M) (fun u => mgetL u A)) = true) ∨ (k47_0 l (l.length : Int) 0 M A = some (Sum.inr ((false, ()), M, A, ())) ∧ l.all (exprB (lk M) (fun u => mgetL u A)) = false) := by
  have := loop_all0 (l := l) (p := exprB (lk M) (fun u => mgetL u A)) (L := fun i => k47_0 l (l.length : Int) (i : Int) M A) (good := Sum.inl ((), M, A, ())) (bad := fun j => Sum.inr ((false, ()), M, A, ()))
    (fun i hi => by
      rw [k47_0, ltI_true hi]
      simp only [idx_nat hi, Option.bind_eq_bind, Option.bind_some, nf_eq, w64_succ hl hi, IH _ (List.getElem_mem hi)]
      cases exprB (lk M) (fun u => mgetL u A) l[i] <;> rfl)
    (by rw [k47_0, ltI_false (Nat.lt_irrefl _)])
  rw [show ((0 : Nat) : Int) = 0 from rfl] at this
  rcases this with h | ⟨⟨j, h1⟩, h2⟩
  · exact .inl h
  · exact .inr ⟨h1, h2⟩
theorem k47_eq (M : Mp Bool) (A : Mp Int) : ∀ (n : Nat) (e : GE), SizeOf.sizeOf e < n → okE e → k47 e M A = some ((exprB (lk M) (fun u => mgetL u A) e, ()), M, A, ())
  | 0, t, h, _ => by omega
  | n + 1, t, h, ho => by
    obtain ⟨h1, h2⟩ := okE_kids ho
    have hlp := k47_loop M A t.kids h1 fun x hx => k47_eq M A n x (by have := GE.kids_lt hx; omega) (h2 x hx)
    rw [k47, exprB_eq]
    rcases hlp with ⟨h1, h2⟩ | ⟨h1, h2⟩
    · rw [h1, h2]
      simp only [Option.bind_eq_bind, Option.bind_some, Bool.true_and]
      cases eqI t.kind 2 with
      | true => rfl
      | false =>
        cases eqI t.kind 9 with
        | false => rfl
        | true =>
          simp only [cond_true, cond_false, mHas, mLook]
          cases mgetL t.name A with
          | none => rfl
          | some v => rfl
    · rw [h1, h2]
      rfl
def findF (l : List GF) (s : Str) : Option GF := l.find? fun f => eqS f.name s
def cntR (l : List GF) : Str → Option Int := fun s => (findF l s).map fun f => (f.params.length : Int)
theorem k13_eq (l : List GF) (hl : l.length ≤ MX) (s : Str) : (k13 l s = some ((-1, ()), ()) ∧ findF l s = none) ∨ ∃ (j : Nat) (h : j < l.length), k13 l s = some (((j : Int), ()), ()) ∧ findF l s = some l[j] := by
  have : ∀ (d i : Nat), i + d = l.length → (k13_0 l s (i : Int) = some (Sum.inl ((), ())) ∧ findF (l.drop i) s = none) ∨ ∃ (j : Nat) (h : j < l.length), k13_0 l s (i : Int) = some (Sum.inr (((j : Int), ()), ())) ∧ findF (l.drop i) s = some l[j] := by
    intro d
    induction d with
    | zero =>
      intro i h
      refine .inl ⟨?_, ?_⟩
      · rw [k13_0, ltI_false (by omega)]
      · rw [List.drop_of_length_le (by omega)]; rfl
    | succ d ih =>
      intro i h
      have hi : i < l.length := by omega
      rw [drop_at hi, k13_0, ltI_true hi]
      simp only [idx_nat hi, Option.bind_eq_bind, Option.bind_some, nf_eq, w64_succ hl hi, findF, List.find?_cons]
      cases hb : eqS l[i].name s with
      | true => exact .inr ⟨i, hi, rfl, rfl⟩
      | false => exact ih (i + 1) (by omega)
  have h0 := this l.length 0 (by omega)
  rw [show ((0 : Nat) : Int) = 0 from rfl, List.drop_zero] at h0
  rw [k13]
  rcases h0 with ⟨h1, h2⟩ | ⟨j, h, h1, h2⟩
  · exact .inl ⟨by rw [h1]; rfl, h2⟩
  · exact .inr ⟨j, h, by rw [h1]; rfl, h2⟩
theorem k34_loop (sc : List Str) (ah : List GF) (t : GE) (hl : t.kids.length ≤ MX) (IH : ∀ x ∈ t.kids, k34 x sc ah = some ((exprB (fun u => inB u sc) (cntR ah) x, ()), ())) : (k34_0 sc ah t 0 = some (Sum.inl ((), ())) ∧ t.kids.all (exprB (fun u => inB u sc) (cntR ah)) = true) ∨ (k34_0 sc ah t 0 = some (Sum.inr ((false, ()), ())) ∧ t.kids.all (exprB (fun u => inB u sc) (cntR ah)) = false) := by
  have := loop_all0 (l := t.kids) (p := exprB (fun u => inB u sc) (cntR ah)) (L := fun i => k34_0 sc ah t (i : Int)) (good := Sum.inl ((), ())) (bad := fun j => Sum.inr ((false, ()), ()))
    (fun i hi => by
      rw [k34_0, ltI_true hi]
      simp only [idx_nat hi, Option.bind_eq_bind, Option.bind_some, nf_eq, w64_succ hl hi, IH _ (List.getElem_mem hi)]
      cases exprB (fun u => inB u sc) (cntR ah) t.kids[i] <;> rfl)
    (by rw [k34_0, ltI_false (Nat.lt_irrefl _)])
  rw [show ((0 : Nat) : Int) = 0 from rfl] at this
  rcases this with h | ⟨⟨j, h1⟩, h2⟩
  · exact .inl h
  · exact .inr ⟨h1, h2⟩
theorem k34_eq (sc : List Str) (ah : List GF) (hs : sc.length ≤ MX) (ha : ah.length ≤ MX) : ∀ (n : Nat) (e : GE), SizeOf.sizeOf e < n → okE e → k34 e sc ah = some ((exprB (fun u => inB u sc) (cntR ah) e, ()), ())
  | 0, t, h, _ => by omega
  | n + 1, t, h, ho => by
    obtain ⟨h1, h2⟩ := okE_kids ho
    have hlp := k34_loop sc ah t h1 fun x hx => k34_eq sc ah hs ha n x (by have := GE.kids_lt hx; omega) (h2 x hx)
    rw [k34, exprB_eq]
    simp only [nf_eq]
    rcases hlp with ⟨h1, h2⟩ | ⟨h1, h2⟩
    · rw [h1, h2]
      simp only [Option.bind_eq_bind, Option.bind_some, Bool.true_and, k32_eq _ sc hs, cnt_pos]
      cases eqI t.kind 2 with
      | true => rfl
      | false =>
        cases eqI t.kind 9 with
        | false => rfl
        | true =>
          simp only [cond_true, cond_false, cntR]
          rcases k13_eq ah ha t.name with ⟨e1, e2⟩ | ⟨j, hj, e1, e2⟩
          · rw [e1, e2]
            rfl
          · rw [e1, e2]
            simp only [Option.bind_some, leI_nat, idx_nat hj, Option.map_some]
    · rw [h1, h2]
      rfl
mutual
def stmtB (c : Str → Option Int) : (Str → Bool) → GS → Option (Str → Bool)
  | p, .mk k s pl e t f => bif exprB p c e && (exprB p c pl && ((stmtsB c p t).isSome && (stmtsB c p f).isSome)) then (bif eqI k 1 then (bif p s then none else some fun u => eqS u s || p u) else some p) else none
def stmtsB (c : Str → Option Int) : (Str → Bool) → List GS → Option (Str → Bool)
  | p, [] => some p
  | p, s :: r => match stmtB c p s with | some q => stmtsB c q r | none => none
end
theorem stmtB_eq (c : Str → Option Int) (p : Str → Bool) (s : GS) : stmtB c p s = (bif exprB p c s.expr && (exprB p c s.place && ((stmtsB c p s.thn).isSome && (stmtsB c p s.els).isSome)) then (bif eqI s.kind 1 then (bif p s.name then none else some fun u => eqS u s.name || p u) else some p) else none) := by
  cases s
  simp only [stmtB]
  rfl
mutual
def cntS : GS → Nat
  | .mk _ _ _ _ t f => cntSs t + cntSs f + 1
def cntSs : List GS → Nat
  | [] => 0
  | s :: r => cntS s + cntSs r
end
theorem cntS_eq (s : GS) : cntS s = cntSs s.thn + cntSs s.els + 1 := by
  cases s
  simp only [cntS]
  rfl
def St46 (A : Mp Int) (l : List GS) (M : Mp Bool) : Prop :=
  (∃ p M', stmtsB (fun u => mgetL u A) (lk M) l = some p ∧ k46 l M A = some ((true, ()), M', A, ()) ∧ allTrue M' ∧ lk M' = p) ∨ (∃ M', stmtsB (fun u => mgetL u A) (lk M) l = none ∧ k46 l M A = some ((false, ()), M', A, ()))
theorem right_place {s : GS} (h : rightS s = true) (p : Str → Bool) (c : Str → Option Int) : eqI s.kind 2 = false → exprB p c s.place = true := by
  intro h2
  rw [rightS_eq] at h
  simp only [Bool.and_eq_true] at h
  have h1 := h.2.2.2
  apply exprB_none
  simp only [rightS1, h2, cond_false] at h1
  revert h1
  cases eqI s.kind 1 <;> cases eqI s.kind 3 <;> cases eqI s.kind 4 <;> cases noneB s.place <;> simp
theorem right_kids {s : GS} (h : rightS s = true) : s.thn.all rightS = true ∧ s.els.all rightS = true := by
  rw [rightS_eq] at h
  simp only [Bool.and_eq_true, rightL] at h
  exact ⟨h.2.1.1, h.2.2.1.1⟩
theorem k46_loop (A : Mp Int) (l : List GS) (hl : l.length ≤ MX) (ho : okSs l) (hr : l.all rightS = true) (IH : ∀ s ∈ l, ∀ M, allTrue M → St46 A s.thn M ∧ St46 A s.els M) : ∀ (d i : Nat) (M : Mp Bool), i + d = l.length → allTrue M →
    (∃ p M', stmtsB (fun u => mgetL u A) (lk M) (l.drop i) = some p ∧ k46_0 l (l.length : Int) (i : Int) M A = some (Sum.inl ((), M', A, ())) ∧ allTrue M' ∧ lk M' = p) ∨ (∃ M', stmtsB (fun u => mgetL u A) (lk M) (l.drop i) = none ∧ k46_0 l (l.length : Int) (i : Int) M A = some (Sum.inr ((false, ()), M', A, ())))
  | 0, i, M, h, hM => by
    rw [List.drop_of_length_le (by omega), k46_0, ltI_false (by omega)]
    exact .inl ⟨_, M, by simp only [stmtsB], rfl, hM, rfl⟩
  | d + 1, i, M, h, hM => by
    have hi : i < l.length := by omega
    have hm := List.getElem_mem hi
    have hri := List.all_eq_true.1 hr _ hm
    obtain ⟨_, o2, o1, _, _⟩ := okS_at (okSs_mem ho hm)
    obtain ⟨i1, i2⟩ := IH _ hm M hM
    have e1 := k47_eq M A _ _ (Nat.lt_succ_self _) o1
    have e2 := k47_eq M A _ _ (Nat.lt_succ_self _) o2
    have hp := right_place hri (lk M) (fun u => mgetL u A)
    have hk := k46_loop A l hl ho hr IH d (i + 1) M (by omega) hM
    have hk' := k46_loop A l hl ho hr IH d (i + 1) (mputL l[i].name true M) (by omega) (allTrue_put hM)
    rw [drop_at hi, k46_0, ltI_true hi]
    simp only [idx_nat hi, Option.bind_eq_bind, Option.bind_some, nf_eq, w64_succ hl hi, e1, stmtsB, stmtB_eq]
    cases hb1 : exprB (lk M) (fun u => mgetL u A) l[i].expr with
    | false => exact .inr ⟨M, rfl, rfl⟩
    | true =>
      cases h2 : eqI l[i].kind 2
      case' false =>
        rw [hp h2]
        simp only [Bool.not_true, Bool.not_false, Option.bind_some, Bool.true_and, kh_inner_eq hM]
      case' true =>
        simp only [Bool.not_true, Bool.not_false, Option.bind_some, Bool.true_and, e2]
        cases hb2 : exprB (lk M) (fun u => mgetL u A) l[i].place
        case' false => exact .inr ⟨M, rfl, rfl⟩
        simp only [Bool.not_true, Bool.not_false, Option.bind_some, Bool.true_and, kh_inner_eq hM]
      all_goals
        rcases i1 with ⟨p1, M1, s1, q1, _, _⟩ | ⟨M1, s1, q1⟩
        · rw [q1, s1]
          simp only [Bool.not_true, kh_inner_eq hM, Option.bind_some, Bool.true_and, Option.isSome_some]
          rcases i2 with ⟨p2, M2, s2, q2, _, _⟩ | ⟨M2, s2, q2⟩
          · rw [q2, s2]
            simp only [Bool.not_true, Option.bind_some, Option.isSome_some, cond_true]
            cases eqI l[i].kind 1 with
            | false =>
              simp only [cond_false]
              exact hk
            | true =>
              simp only [cond_true]
              have : mLook l[i].name M false = lk M l[i].name := rfl
              rw [this]
              cases hn : lk M l[i].name with
              | true => exact .inr ⟨M, rfl, rfl⟩
              | false =>
                rw [lk_put] at hk'
                exact hk'
          · rw [q2, s2]
            exact .inr ⟨_, rfl, rfl⟩
        · rw [q1, s1]
          exact .inr ⟨_, rfl, rfl⟩
theorem k46_eq (A : Mp Int) : ∀ (n : Nat) (l : List GS), SizeOf.sizeOf l < n → l.length ≤ MX → okSs l → l.all rightS = true → ∀ M, allTrue M → St46 A l M
  | 0, l, h, _, _, _ => by omega
  | n + 1, l, h, hl, ho, hr => fun M hM => by
    have IH : ∀ s ∈ l, ∀ M, allTrue M → St46 A s.thn M ∧ St46 A s.els M := fun s hs M hM => by
      obtain ⟨_, _, _, ⟨h4, h5⟩, h6, h7⟩ := okS_at (okSs_mem ho hs)
      have q0 := List.sizeOf_lt_of_mem hs
      have q1 := GS.thn_lt (t := s)
      have q2 := GS.els_lt (t := s)
      have qr := right_kids (List.all_eq_true.1 hr _ hs)
      exact ⟨k46_eq A n _ (by omega) h4 h5 qr.1 M hM, k46_eq A n _ (by omega) h6 h7 qr.2 M hM⟩
    have := k46_loop A l hl ho hr IH l.length 0 M (by omega) hM
    rw [show ((0 : Nat) : Int) = 0 from rfl, List.drop_zero] at this
    unfold St46
    rw [k46]
    rcases this with ⟨p, M', h1, h2, h3, h4⟩ | ⟨M', h1, h2⟩
    · exact .inl ⟨p, M', h1, by rw [h2]; rfl, h3, h4⟩
    · exact .inr ⟨M', h1, by rw [h2]; rfl⟩
def St33 (ah : List GF) (l : List GS) (sc : List Str) : Prop :=
  (∃ p sc', stmtsB (cntR ah) (fun u => inB u sc) l = some p ∧ k33 l sc ah = some (((sc', true, ()), ()), ()) ∧ sc'.length ≤ sc.length + cntSs l ∧ (fun u => inB u sc') = p) ∨ (∃ sc', stmtsB (cntR ah) (fun u => inB u sc) l = none ∧ k33 l sc ah = some (((sc', false, ()), ()), ()))
theorem k33_loop (ah : List GF) (ha : ah.length ≤ MX) (l : List GS) (hl : l.length ≤ MX) (ho : okSs l) (IH : ∀ s ∈ l, ∀ sc, sc.length + cntS s ≤ LM → St33 ah s.thn sc ∧ St33 ah s.els sc) : ∀ (d i : Nat) (sc : List Str), i + d = l.length → sc.length + cntSs (l.drop i) ≤ LM →
    (∃ p sc', stmtsB (cntR ah) (fun u => inB u sc) (l.drop i) = some p ∧ k33_0 l sc ah (i : Int) = some (Sum.inl ((sc', ()), ())) ∧ sc'.length ≤ sc.length + cntSs (l.drop i) ∧ (fun u => inB u sc') = p) ∨ (stmtsB (cntR ah) (fun u => inB u sc) (l.drop i) = none ∧ k33_0 l sc ah (i : Int) = some (Sum.inr (((), false, ()), ())))
  | 0, i, sc, h, hw => by
    rw [List.drop_of_length_le (by omega), k33_0, ltI_false (by omega)]
    exact .inl ⟨_, sc, by simp only [stmtsB], rfl, by omega, rfl⟩
  | d + 1, i, sc, h, hw => by
    have hi : i < l.length := by omega
    have hm := List.getElem_mem hi
    rw [drop_at hi] at hw ⊢
    simp only [cntSs] at hw
    have h1 : 1 ≤ cntS l[i] := by rw [cntS_eq]; omega
    obtain ⟨_, o1, o2, _, _⟩ := okS_at (okSs_mem ho hm)
    obtain ⟨i1, i2⟩ := IH _ hm sc (by omega)
    have hsc : sc.length ≤ MX := by simp only [LM] at hw; simp only [MX]; omega
    have e1 := k34_eq sc ah hsc ha _ _ (Nat.lt_succ_self _) o1
    have e2 := k34_eq sc ah hsc ha _ _ (Nat.lt_succ_self _) o2
    have hk := k33_loop ah ha l hl ho IH d (i + 1) sc (by omega) (by omega)
    have hk' := k33_loop ah ha l hl ho IH d (i + 1) (sc ++ [l[i].name]) (by omega) (by simp only [List.length_append, List.length_cons, List.length_nil]; omega)
    rw [k33_0, ltI_true hi]
    simp only [idx_nat hi, Option.bind_eq_bind, Option.bind_some, nf_eq, w64_succ hl hi, e1, e2, stmtsB, stmtB_eq, k32_eq _ sc hsc, cnt_pos, cntSs]
    have ap1 : app 16 ([] : List Str) sc = some sc := by rw [app_ok (by decide) (by simp only [List.length_nil]; omega)]; rfl
    have ap2 : app 16 sc [GS.name l[i]] = some (sc ++ [l[i].name]) := app_ok (by decide) (by simp only [List.length_cons, List.length_nil]; omega)
    rw [ap1]
    simp only [Option.bind_some, ap2]
    have fin : ∀ {b1 b2 : Bool}, b1 = (stmtsB (cntR ah) (fun u => inB u sc) l[i].thn).isSome → b2 = (stmtsB (cntR ah) (fun u => inB u sc) l[i].els).isSome → ∀ {x1 x2 : List Str}, k33 l[i].thn sc ah = some (((x1, b1, ()), ()), ()) → k33 l[i].els sc ah = some (((x2, b2, ()), ()), ()) → _ := fun hb1 hb2 x1 x2 q1 q2 => And.intro (And.intro hb1 hb2) (And.intro q1 q2)
    obtain ⟨x1, q1⟩ : ∃ x1, k33 l[i].thn sc ah = some (((x1, (stmtsB (cntR ah) (fun u => inB u sc) l[i].thn).isSome, ()), ()), ()) := by
      rcases i1 with ⟨p1, M1, s1, q1, _, _⟩ | ⟨M1, s1, q1⟩
      · rw [s1]; exact ⟨_, q1⟩
      · rw [s1]; exact ⟨_, q1⟩
    obtain ⟨x2, q2⟩ : ∃ x2, k33 l[i].els sc ah = some (((x2, (stmtsB (cntR ah) (fun u => inB u sc) l[i].els).isSome, ()), ()), ()) := by
      rcases i2 with ⟨p1, M1, s1, q1, _, _⟩ | ⟨M1, s1, q1⟩
      · rw [s1]; exact ⟨_, q1⟩
      · rw [s1]; exact ⟨_, q1⟩
    rw [q1]
    simp only [Option.bind_some]
    rw [q2]
    simp only [Option.bind_some]
    generalize (stmtsB (cntR ah) (fun u => inB u sc) l[i].thn).isSome = b1
    generalize (stmtsB (cntR ah) (fun u => inB u sc) l[i].els).isSome = b2
    cases exprB (fun u => inB u sc) (cntR ah) l[i].expr with
    | false => exact .inr ⟨rfl, rfl⟩
    | true =>
      cases exprB (fun u => inB u sc) (cntR ah) l[i].place with
      | false => exact .inr ⟨rfl, rfl⟩
      | true =>
        cases b1 with
        | false => exact .inr ⟨rfl, rfl⟩
        | true =>
          cases b2 with
          | false => exact .inr ⟨rfl, rfl⟩
          | true =>
            simp only [Bool.not_true, Option.bind_some, Bool.true_and, cond_true]
            cases eqI l[i].kind 1 with
            | false =>
              simp only [cond_false]
              rcases hk with ⟨p, sc', r1, r2, r3, r4⟩ | ⟨r1, r2⟩
              · exact .inl ⟨p, sc', r1, r2, by omega, r4⟩
              · exact .inr ⟨r1, r2⟩
            | true =>
              simp only [cond_true]
              cases inB l[i].name sc with
              | true => exact .inr ⟨rfl, rfl⟩
              | false =>
                simp only [cond_false]
                have ef : (fun u => inB u (sc ++ [l[i].name])) = fun u => eqS u l[i].name || inB u sc := by
                  funext u
                  exact inB_app _ _ _
                rw [ef] at hk'
                rcases hk' with ⟨p, sc', r1, r2, r3, r4⟩ | ⟨r1, r2⟩
                · refine .inl ⟨p, sc', r1, r2, ?_, r4⟩
                  simp only [List.length_append, List.length_cons, List.length_nil] at r3
                  omega
                · exact .inr ⟨r1, r2⟩
theorem k33_eq (ah : List GF) (ha : ah.length ≤ MX) : ∀ (n : Nat) (l : List GS), SizeOf.sizeOf l < n → l.length ≤ MX → okSs l → ∀ sc, sc.length + cntSs l ≤ LM → St33 ah l sc
  | 0, l, h, _, _ => by omega
  | n + 1, l, h, hl, ho => fun sc hsc => by
    have IH : ∀ s ∈ l, ∀ sc, sc.length + cntS s ≤ LM → St33 ah s.thn sc ∧ St33 ah s.els sc := fun s hs sc hsc => by
      obtain ⟨_, _, _, ⟨h4, h5⟩, h6, h7⟩ := okS_at (okSs_mem ho hs)
      have q0 := List.sizeOf_lt_of_mem hs
      have q1 := GS.thn_lt (t := s)
      have q2 := GS.els_lt (t := s)
      rw [cntS_eq] at hsc
      exact ⟨k33_eq ah ha n _ (by omega) h4 h5 sc (by omega), k33_eq ah ha n _ (by omega) h6 h7 sc (by omega)⟩
    have := k33_loop ah ha l hl ho IH l.length 0 sc (by omega) (by rw [List.drop_zero]; exact hsc)
    rw [show ((0 : Nat) : Int) = 0 from rfl, List.drop_zero] at this
    unfold St33
    rw [k33]
    simp only [nf_eq]
    rcases this with ⟨p, M', h1, h2, h3, h4⟩ | ⟨h1, h2⟩
    · exact .inl ⟨p, M', h1, by rw [h2]; rfl, h3, h4⟩
    · exact .inr ⟨[], h1, by rw [h2]; rfl⟩
end Go.Lb.R
end
section
namespace Go.Lb.R
open Go.Lb
def wtPs : List GP → Nat
  | [] => 0
  | p :: r => wtT p.ty + 1 + wtPs r
def wtF (f : GF) : Nat := wtT f.gives + wtPs f.params + f.outs.length + cntSs f.body + f.lives.length
theorem wtPs_len : ∀ l : List GP, l.length ≤ wtPs l
  | [] => Nat.le_refl _
  | p :: r => by
    have := wtPs_len r
    simp only [wtPs, List.length_cons]
    omega
theorem wtPs_tys : ∀ l : List GP, wtTs (l.map GP.ty) ≤ wtPs l
  | [] => Nat.le_refl _
  | p :: r => by
    have := wtPs_tys r
    simp only [wtPs, List.map_cons, wtTs]
    omega
def knownB (f : GF) (s : Str) : Bool := inB s f.lives
def typesF (f : GF) : List GT := f.gives :: f.params.map GP.ty
def namesF (f : GF) : List Str := f.params.map GP.name
def fineB (tw : Bool) (f : GF) : Bool := !tw && (once f.lives && (once (namesF f) && (f.outs ++ livesTs (typesF f)).all (knownB f)))
def codeN (tw : Bool) (c : Str → Option Int) (f : GF) : Int :=
  bif !fineB tw f then 4 else bif !(typesF f).all wholeT then 5 else
  match stmtsB c (fun u => inB u (namesF f)) f.body with | none => 4 | some p => bif exprB p c f.value then 0 else 4
def errC (n : Int) : GErr := bif eqI n 0 then .nil else .code n
theorem k23_0_eq (l : List GP) (hl : l.length ≤ MX) : ∀ (d i : Nat) (ts : List GT) (ns : List Str) (M : Mp Bool), i + d = l.length → ts.length + d ≤ LM → ns.length + d ≤ LM → allTrue M → lk M = (fun u => inB u ns) →
    ∃ M', k23_0 ts ns l (l.length : Int) (i : Int) M = some ((ts ++ (l.drop i).map GP.ty, ns ++ (l.drop i).map GP.name, ()), M', ()) ∧ allTrue M' ∧ lk M' = fun u => inB u (ns ++ (l.drop i).map GP.name)
  | 0, i, ts, ns, M, h, _, _, hM, hk => by
    rw [List.drop_of_length_le (by omega), k23_0, ltI_false (by omega)]
    exact ⟨M, by simp, hM, by simpa using hk⟩
  | d + 1, i, ts, ns, M, h, h1, h2, hM, hk => by
    have hi : i < l.length := by omega
    rw [drop_at hi, k23_0, ltI_true hi]
    simp only [idx_nat hi, Option.bind_eq_bind, Option.bind_some, nf_eq, w64_succ hl hi]
    rw [app_ok (l := ns) (by decide) (by simp only [List.length_cons, List.length_nil]; omega)]
    simp only [Option.bind_some]
    rw [app_ok (l := ts) (by decide) (by simp only [List.length_cons, List.length_nil]; omega)]
    simp only [Option.bind_some]
    have ih := k23_0_eq l hl d (i + 1) (ts ++ [l[i].ty]) (ns ++ [l[i].name]) (mputL l[i].name true M) (by omega) (by simp only [List.length_append, List.length_cons, List.length_nil]; omega) (by simp only [List.length_append, List.length_cons, List.length_nil]; omega) (allTrue_put hM) (by
      rw [lk_put, hk]
      funext u
      rw [inB_app])
    simp only [List.map_cons, List.append_assoc, List.cons_append, List.nil_append] at ih ⊢
    exact ih
theorem k23_1_eq (l : List GT) (hl : l.length ≤ MX) (ho : ∀ t ∈ l, okT t) : ∀ (d i : Nat) (a : List Str) (b : Bool), i + d = l.length → a.length + wtTs (l.drop i) ≤ LM →
    k23_1 a b l (l.length : Int) (i : Int) = some ((a ++ livesTs (l.drop i), b && (l.drop i).all wholeT, ()), ())
  | 0, i, a, b, h, _ => by
    rw [List.drop_of_length_le (by omega), k23_1, ltI_false (by omega)]
    simp [livesTs]
  | d + 1, i, a, b, h, hw => by
    have hi : i < l.length := by omega
    rw [drop_at hi] at hw ⊢
    simp only [wtTs] at hw
    have hlen := livesT_len l[i]
    have hot := ho _ (List.getElem_mem hi)
    rw [k23_1, ltI_true hi]
    simp only [idx_nat hi, Option.bind_eq_bind, Option.bind_some, nf_eq, w64_succ hl hi, k42_eq _ _ (Nat.lt_succ_self _) hot (by omega), k11_eq _ _ (Nat.lt_succ_self _) hot]
    rw [app_ok (by decide) (by omega)]
    simp only [Option.bind_some]
    have ih := fun b => k23_1_eq l hl ho d (i + 1) (a ++ livesT l[i]) b (by omega) (by rw [List.length_append]; omega)
    cases b with
    | true => simp only [ih, livesTs, List.append_assoc, List.all_cons, Bool.true_and]
    | false => simp only [ih, livesTs, List.append_assoc, List.all_cons, Bool.false_and]
theorem k23_2_all (f : GF) (hf : f.lives.length ≤ MX) (l : List Str) (hl : l.length ≤ MX) : (k23_2 l (l.length : Int) 0 f = some (Sum.inl ((), ((), (), ()), f, ())) ∧ l.all (knownB f) = true) ∨ ((∃ j : Nat, k23_2 l (l.length : Int) 0 f = some (Sum.inr (((j : Int), ()), ((), (), ()), f, ()))) ∧ l.all (knownB f) = false) :=
  loop_all0 (l := l) (p := knownB f) (L := fun i => k23_2 l (l.length : Int) (i : Int) f) (good := Sum.inl ((), ((), (), ()), f, ())) (bad := fun j => Sum.inr (((j : Int), ()), ((), (), ()), f, ()))
    (fun i hi => by
      rw [k23_2, ltI_true hi]
      simp only [idx_nat hi, Option.bind_eq_bind, Option.bind_some, nf_eq, w64_succ hl hi, k40_eq _ hf]
      show _ = bif inB l[i] f.lives then _ else _
      unfold inB
      cases f.lives.any fun y => eqS l[i] y <;> rfl)
    (by rw [k23_2, ltI_false (Nat.lt_irrefl _)])
theorem k23_eq (f : GF) (ho : okF f) (hr : rightF f = true) (hw : wtF f ≤ LM) (A : Mp Int) : k23 f A = some ((errC (codeN (mHas f.name A) (fun u => mgetL u A) f), ()), A, ()) := by
  have hp := wtPs_len f.params
  have hp2 := wtPs_tys f.params
  have hg : 1 ≤ wtT f.gives := by rw [wtT_eq]; omega
  simp only [wtF] at hw
  have hLM : LM ≤ MX := by decide
  obtain ⟨M, e1, e2, e3⟩ := k23_0_eq f.params ho.params.1 f.params.length 0 [f.gives] [] [] (by omega) (by simp only [List.length_cons, List.length_nil]; omega) (by simp only [List.length_nil]; omega) (fun p hp => by cases hp) rfl
  rw [show ((0 : Nat) : Int) = 0 from rfl, List.drop_zero] at e1
  simp only [List.drop_zero, List.nil_append, List.cons_append] at e1 e3
  have ec : kh_clone f.outs = some ((f.outs, ()), ()) := by
    show bind2 (app 16 [] f.outs) _ = _
    rw [app_ok (by decide) (by simp only [List.length_nil]; omega)]
    rfl
  have ht : (typesF f).length ≤ MX := by simp only [typesF, List.length_cons, List.length_map]; omega
  have hot : ∀ t ∈ typesF f, okT t := by
    intro t h
    simp only [typesF, List.mem_cons, List.mem_map] at h
    rcases h with rfl | ⟨p, h1, rfl⟩
    · exact ho.gives
    · exact (ho.params.2 p h1).2
  have hwt : f.outs.length + wtTs (typesF f) ≤ LM := by simp only [typesF, wtTs]; omega
  have e4 := k23_1_eq (typesF f) ht hot _ 0 f.outs true (Nat.zero_add _) (by rw [List.drop_zero]; exact hwt)
  rw [show ((0 : Nat) : Int) = 0 from rfl, List.drop_zero, Bool.true_and] at e4
  have hll := livesTs_len (typesF f)
  have e5 := k23_2_all f (by omega) (f.outs ++ livesTs (typesF f)) (by rw [List.length_append]; omega)
  have hrr := hr
  simp only [rightF, Bool.and_eq_true] at hrr
  have hrb : f.body.all rightS = true := by
    have := hrr.2.2.2.2.2.2.1
    simp only [rightL, Bool.and_eq_true] at this
    exact this.1
  have e6 := k46_eq A _ f.body (Nat.lt_succ_self _) ho.body.1 ho.body.2 hrb M e2
  rw [k23, e1, ec]
  simp only [Option.bind_eq_bind, Option.bind_some]
  rw [show (f.gives :: f.params.map GP.ty) = typesF f from rfl, e4]
  simp only [Option.bind_some]
  simp only [k43_eq _ (show f.lives.length ≤ MX by omega), k43_eq (List.map GP.name f.params) (by rw [List.length_map]; omega), Option.bind_some, codeN, fineB]
  rw [show f.params.map GP.name = namesF f from rfl]
  unfold St46 at e6
  rw [e3, show (fun u => inB u (f.params.map GP.name)) = (fun u => inB u (namesF f)) from rfl] at e6
  cases mHas f.name A with
  | true => rfl
  | false =>
    cases once f.lives with
    | false => rfl
    | true =>
      cases once (namesF f) with
      | false => rfl
      | true =>
        simp only [Bool.not_true]
        have tail : ((match not ((typesF f).all wholeT) with | true => (some (((GErr.code 5, ()), A, ()))) | false => ((k46 (GF.body f) M A).bind fun y9 => (match not (y9.1.1) with | true => (some (((GErr.code 4, ()), Prod.fst (y9.2.2), ()))) | false => ((k47 (GF.value f) y9.2.1 (Prod.fst (y9.2.2))).bind fun y10 => (match not (y10.1.1) with | true => (some (((GErr.code 4, ()), Prod.fst (y10.2.2), ()))) | false => (some (((GErr.nil, ()), Prod.fst (y10.2.2), ())))))))) : Option ((GErr × Unit) × ((Mp Int) × Unit)))
            = some ((errC (bif !(typesF f).all wholeT then 5 else match stmtsB (fun u => mgetL u A) (fun u => inB u (namesF f)) f.body with | none => 4 | some p => bif exprB p (fun u => mgetL u A) f.value then 0 else 4), ()), A, ()) := by
          cases (typesF f).all wholeT with
          | false => rfl
          | true =>
            simp only [Bool.not_true, cond_false]
            rcases e6 with ⟨p, M', s1, q1, a1, l1⟩ | ⟨M', s1, q1⟩
            · rw [q1, s1]
              simp only [Option.bind_some, Bool.not_true]
              have e7 := k47_eq M' A _ f.value (Nat.lt_succ_self _) ho.value
              rw [e7, l1]
              simp only [Option.bind_some]
              cases exprB p (fun u => mgetL u A) f.value <;> rfl
            · rw [q1, s1]
              rfl
        rcases e5 with ⟨h1, h2⟩ | ⟨⟨j, h1⟩, h2⟩
        · rw [h1, h2]
          simp only [Option.bind_some, leI_neg]
          exact tail
        · rw [h1, h2]
          simp only [Option.bind_some, leI_nat]
          rfl
theorem k19_0_eq (f : GF) (ho : okF f) (hw : wtF f ≤ LM) : ∀ (d i : Nat) (ns : List Str) (a b : Bool), i + d = f.params.length → ns.length + d ≤ LM →
    k19_0 f ns a b (i : Int) = some ((ns ++ (f.params.drop i).map GP.name, a && (onceGo (fun u => inB u ns) ((f.params.drop i).map GP.name) && ((f.params.drop i).all fun p => (livesT p.ty).all (knownB f))), b && (f.params.drop i).all (fun p => wholeT p.ty), ()), ())
  | 0, i, ns, a, b, h, _ => by
    rw [List.drop_of_length_le (by omega), k19_0.eq_def, ltI_false (by omega)]
    simp [onceGo]
  | d + 1, i, ns, a, b, h, hn => by
    have hi : i < f.params.length := by omega
    have hot := (ho.params.2 _ (List.getElem_mem hi)).2
    have hLM : LM ≤ MX := by decide
    have ih := fun a b => k19_0_eq f ho hw d (i + 1) (ns ++ [f.params[i].name]) a b (by omega) (by simp only [List.length_append, List.length_cons, List.length_nil]; omega)
    rw [drop_at hi, k19_0.eq_def, ltI_true hi]
    simp only [idx_nat hi, Option.bind_eq_bind, Option.bind_some, nf_eq, w64_succ ho.params.1 hi, k32_eq _ ns (show ns.length ≤ MX by omega), cnt_zero, k31_eq f.lives ho.lives.1 _ _ (Nat.lt_succ_self _) hot, k12_eq _ _ (Nat.lt_succ_self _) hot]
    rw [app_ok (by decide) (by simp only [List.length_cons, List.length_nil]; omega)]
    simp only [Option.bind_some, ih, List.map_cons, List.all_cons, onceGo, List.append_assoc, List.cons_append, List.nil_append]
    have ef : (fun u => inB u (ns ++ [f.params[i].name])) = fun u => eqS u f.params[i].name || inB u ns := by
      funext u
      exact inB_app _ _ _
    rw [ef]
    show _ = some ((_, a && ((!inB f.params[i].name ns && _) && (((livesT f.params[i].ty).all fun s => inB s f.lives) && _)), _), _)
    cases a <;> cases b <;> cases inB f.params[i].name ns <;> cases ((livesT f.params[i].ty).all fun s => inB s f.lives) <;> simp
theorem k19_1_eq (f : GF) (hl : f.lives.length ≤ MX) : ∀ (d i : Nat) (a : Bool), i + d = f.lives.length → k19_1 f a (i : Int) = some ((a && (f.lives.drop i).all (fun s => eqI (cntI s f.lives) 1), ()), ())
  | 0, i, a, h => by
    rw [List.drop_of_length_le (by omega), k19_1.eq_def, ltI_false (by omega)]
    simp
  | d + 1, i, a, h => by
    have hi : i < f.lives.length := by omega
    have ih := fun a => k19_1_eq f hl d (i + 1) a (by omega)
    rw [drop_at hi, k19_1.eq_def, ltI_true hi]
    simp only [idx_nat hi, Option.bind_eq_bind, Option.bind_some, nf_eq, w64_succ hl hi, k32_eq _ _ hl, ih, List.all_cons]
    cases a <;> simp
theorem k19_2_eq (f : GF) (hl : f.lives.length ≤ MX) (hl2 : f.outs.length ≤ MX) : ∀ (d i : Nat) (a : Bool), i + d = f.outs.length → k19_2 f a (i : Int) = some ((a && (f.outs.drop i).all (knownB f), ()), ())
  | 0, i, a, h => by
    rw [List.drop_of_length_le (by omega), k19_2.eq_def, ltI_false (by omega)]
    simp
  | d + 1, i, a, h => by
    have hi : i < f.outs.length := by omega
    have ih := fun a => k19_2_eq f hl hl2 d (i + 1) a (by omega)
    rw [drop_at hi, k19_2.eq_def, ltI_true hi]
    simp only [idx_nat hi, Option.bind_eq_bind, Option.bind_some, nf_eq, w64_succ hl2 hi, k32_eq _ _ hl, cnt_pos, ih, List.all_cons]
    rw [show knownB f f.outs[i] = inB f.outs[i] f.lives from rfl]
    cases a <;> simp
theorem all_tys (g : Str → Bool) : ∀ l : List GP, (livesTs (l.map GP.ty)).all g = l.all fun p => (livesT p.ty).all g
  | [] => rfl
  | p :: r => by simp only [List.map_cons, livesTs, List.all_append, List.all_cons, all_tys g r]
theorem k19_eq (f : GF) (ho : okF f) (hw : wtF f ≤ LM) (ah : List GF) (ha : ah.length ≤ MX) : k19 f ah = some ((codeN (findF ah f.name).isSome (cntR ah) f, ()), ()) := by
  have hp := wtPs_len f.params
  have hw' := hw
  simp only [wtF] at hw'
  have hLM : LM ≤ MX := by decide
  have e0 : ∀ a b, k19_0 f [] a b 0 = some ((namesF f, a && (once (namesF f) && (f.params.all fun p => (livesT p.ty).all (knownB f))), b && f.params.all (fun p => wholeT p.ty), ()), ()) := fun a b => by
    have := k19_0_eq f ho hw _ 0 [] a b (Nat.zero_add _) (by simp only [List.length_nil]; omega)
    rw [show ((0 : Nat) : Int) = 0 from rfl, List.drop_zero] at this
    exact this
  have e1 : ∀ a, k19_1 f a 0 = some ((a && once f.lives, ()), ()) := fun a => by
    have := k19_1_eq f ho.lives.1 _ 0 a (Nat.zero_add _)
    rw [show ((0 : Nat) : Int) = 0 from rfl, List.drop_zero, cnt_one] at this
    exact this
  have e2 : ∀ a, k19_2 f a 0 = some ((a && f.outs.all (knownB f), ()), ()) := fun a => by
    have := k19_2_eq f ho.lives.1 ho.outs.1 _ 0 a (Nat.zero_add _)
    rw [show ((0 : Nat) : Int) = 0 from rfl, List.drop_zero] at this
    exact this
  have e3 : ((k13 ah (GF.name f)).bind fun y0 => (match ltI (y0.1.1) 0 with | true => ((k31 (GF.gives f) (GF.lives f)).bind fun y1 => (some (((y1.1.1, ()), ())))) | false => (some (((false, ()), ()))))) = some ((!(findF ah f.name).isSome && (livesT f.gives).all (knownB f), ()), ()) := by
    rw [k31_eq f.lives ho.lives.1 _ _ (Nat.lt_succ_self _) ho.gives]
    rcases k13_eq ah ha f.name with ⟨h1, h2⟩ | ⟨j, hj, h1, h2⟩
    · rw [h1, h2]
      rfl
    · rw [h1, h2]
      simp only [Option.bind_some]
      rw [show ltI (j : Int) 0 = false from decide_eq_false (by omega)]
      rfl
  have hn : (namesF f).length = f.params.length := List.length_map ..
  rw [k19]
  simp only [Option.bind_eq_bind] at e3 ⊢
  refine (congrArg (fun z => Option.bind z _) e3).trans ?_
  simp only [Option.bind_some, k12_eq _ _ (Nat.lt_succ_self _) ho.gives, e0, e1, e2]
  unfold codeN
  have ef : (fineB (findF ah f.name).isSome f) = ((((!(findF ah f.name).isSome && (livesT f.gives).all (knownB f)) && (once (namesF f) && (f.params.all fun p => (livesT p.ty).all (knownB f)))) && once f.lives) && f.outs.all (knownB f)) := by
    simp only [fineB, typesF, livesTs, List.all_append, all_tys]
    cases (findF ah f.name).isSome <;> cases (livesT f.gives).all (knownB f) <;> cases once (namesF f) <;> cases (f.params.all fun p => (livesT p.ty).all (knownB f)) <;> cases once f.lives <;> cases f.outs.all (knownB f) <;> rfl
  have eh : (typesF f).all wholeT = (wholeT f.gives && f.params.all (fun p => wholeT p.ty)) := by
    simp only [typesF, List.all_cons, List.all_map]
    rfl
  rw [← ef, ← eh]
  cases fineB (findF ah f.name).isSome f with
  | false => rfl
  | true =>
    cases (typesF f).all wholeT with
    | false => rfl
    | true =>
      simp only [Bool.not_true, cond_false]
      rcases k33_eq ah ha _ f.body (Nat.lt_succ_self _) ho.body.1 ho.body.2 (namesF f) (by omega) with ⟨p, sc, s1, q1, c1, l1⟩ | ⟨sc, s1, q1⟩
      · rw [q1, s1]
        simp only [Option.bind_some, Bool.not_true]
        have e7 := k34_eq sc ah (by omega) ha _ f.value (Nat.lt_succ_self _) ho.value
        rw [l1] at e7
        rw [e7]
        simp only [Option.bind_some]
        cases exprB p (cntR ah) f.value <;> rfl
      · rw [q1, s1]
        rfl
end Go.Lb.R
end
section
namespace Go.Lb.R
open Go.Lb
theorem codeN_range (tw : Bool) (c : Str → Option Int) (f : GF) : codeN tw c f = 0 ∨ codeN tw c f = 4 ∨ codeN tw c f = 5 := by
  unfold codeN
  cases fineB tw f
  · simp
  · cases (typesF f).all wholeT
    · simp
    · simp only [Bool.not_true, cond_false]
      cases stmtsB c (fun u => inB u (namesF f)) f.body with
      | none => simp
      | some p =>
        simp only
        generalize exprB p c f.value = b
        cases b <;> simp
theorem codeN_tw {tw : Bool} {c : Str → Option Int} {f : GF} (h : codeN tw c f = 0) : tw = false := by
  cases tw with
  | false => rfl
  | true =>
    exfalso
    simp [codeN, fineB] at h
def codeAt (p : List GF) (i : Nat) (f : GF) : Int := codeN (findF (p.take i) f.name).isSome (cntR (p.take i)) f
def chkGo (p : List GF) : Nat → Nat → Option (Int × Nat)
  | 0, _ => none
  | d + 1, i => match p[i]? with | none => none | some f => bif ltI 0 (codeAt p i f) then some (codeAt p i f, i) else chkGo p d (i + 1)
def lastF (p : List GF) : Int × Int :=
  match p.getLast? with
  | none => (4, (p.length : Int))
  | some f => bif !eqS f.name (Array.toList (ByteArray.data { data := #[109, 97, 105, 110] })) then (4, (p.length : Int)) else bif !(f.lives.isEmpty && (f.params.isEmpty && eqI f.gives.kind 1)) then (5, (p.length : Int)) else (0, -1)
def chkP (p : List GF) : Int × Int := bif !rightP p then (2, -1) else match chkGo p p.length 0 with | some (c, j) => (c, (j : Int)) | none => lastF p
def smP (p : List GF) : Prop := ∀ f ∈ p, wtF f ≤ LM
theorem rightP_len {p : List GF} (h : rightP p = true) : p.length ≤ 30 ∧ ∀ f ∈ p, rightF f = true := by
  simp only [rightP, Bool.and_eq_true, List.all_eq_true] at h
  have := of_decide_eq_true h.2.1
  exact ⟨by omega, h.2.2⟩
theorem rightF_len {f : GF} (h : rightF f = true) : f.lives.length ≤ 30 ∧ f.params.length ≤ 30 := by
  simp only [rightF, namesL, paramsL, Bool.and_eq_true] at h
  have h1 := of_decide_eq_true h.2.1.2
  have h2 := of_decide_eq_true h.2.2.1.2
  exact ⟨by omega, by omega⟩
theorem take_succ' {p : List GF} {i : Nat} (h : i < p.length) : p.take (i + 1) = p.take i ++ [p[i]] := by
  rw [List.take_add_one, List.getElem?_eq_getElem h]
  rfl
theorem subL_take {p : List GF} {i : Nat} (h : i ≤ p.length) : subL p 0 (i : Int) = some (p.take i) := by
  unfold subL
  simp [h]
theorem ltI_nz {n : Int} (h : n = 0 ∨ n = 4 ∨ n = 5) : ltI 0 n = !eqI n 0 := by
  rcases h with rfl | rfl | rfl <;> rfl
theorem errC_nil {n : Int} : (errC n).isNil = eqI n 0 := by
  unfold errC
  cases eqI n 0 <;> rfl
theorem k8_0_eq (p : List GF) (ho : okPr p) (hw : smP p) : ∀ (d i : Nat), i + d = p.length → k8_0 p (i : Int) = match chkGo p d i with | none => some (Sum.inl ((), ())) | some (c, j) => some (Sum.inr ((c, (j : Int), ()), ()))
  | 0, i, h => by
    rw [k8_0, ltI_false (by omega)]
    rfl
  | d + 1, i, h => by
    have hi : i < p.length := by omega
    have hm := List.getElem_mem hi
    have e19 := k19_eq p[i] (ho.2 _ hm) (hw _ hm) (p.take i) (by rw [List.length_take]; have := ho.1; omega)
    rw [k8_0, ltI_true hi]
    simp only [idx_nat hi, Option.bind_eq_bind, Option.bind_some, nf_eq, w64_succ ho.1 hi, subL_take (Nat.le_of_lt hi), e19, chkGo, List.getElem?_eq_getElem hi, codeAt, k8_0_eq p ho hw d (i + 1) (by omega)]
    cases ltI 0 (codeN (findF (p.take i) p[i].name).isSome (cntR (p.take i)) p[i]) <;> rfl
theorem cntR_some (l : List GF) (s : Str) : (cntR l s).isSome = (findF l s).isSome := by
  unfold cntR
  cases findF l s <;> rfl
theorem k10_0_eq (p : List GF) (ho : okPr p) (hr : ∀ f ∈ p, rightF f = true) (hw : smP p) : ∀ (d i : Nat) (A : Mp Int), i + d = p.length → (fun u => mgetL u A) = cntR (p.take i) →
    ∃ A', k10_0 p (p.length : Int) (i : Int) A = match chkGo p d i with | none => some (Sum.inl ((), A', ())) | some (c, j) => some (Sum.inr ((GErr.fault (j : Int) (errC c), ()), A', ()))
  | 0, i, A, h, hA => by
    rw [k10_0, ltI_false (by omega)]
    exact ⟨A, rfl⟩
  | d + 1, i, A, h, hA => by
    have hi : i < p.length := by omega
    have hm := List.getElem_mem hi
    have e23 := k23_eq p[i] (ho.2 _ hm) (hr _ hm) (hw _ hm) A
    have htw : mHas p[i].name A = (findF (p.take i) p[i].name).isSome := by
      rw [← cntR_some, ← hA]
      rfl
    rw [hA, htw] at e23
    rw [k10_0, ltI_true hi]
    simp only [idx_nat hi, Option.bind_eq_bind, Option.bind_some, nf_eq, w64_succ ho.1 hi, e23, chkGo, List.getElem?_eq_getElem hi, errC_nil]
    rw [show codeAt p i p[i] = codeN (findF (p.take i) p[i].name).isSome (cntR (p.take i)) p[i] from rfl, ltI_nz (codeN_range _ _ _)]
    cases hc : eqI (codeN (findF (p.take i) p[i].name).isSome (cntR (p.take i)) p[i]) 0 with
    | false => exact ⟨A, rfl⟩
    | true =>
      have h0 := codeN_tw (of_decide_eq_true hc)
      have hA' : (fun u => mgetL u (mputL p[i].name (p[i].params.length : Int) A)) = cntR (p.take (i + 1)) := by
        funext u
        rw [mgetL_put, take_succ' hi]
        have hu : mgetL u A = cntR (p.take i) u := congrFun hA u
        rw [hu]
        simp only [cntR, findF, List.find?_append, List.find?_cons, List.find?_nil]
        rw [eqS_comm p[i].name u]
        cases hb : eqS u p[i].name with
        | true =>
          have hu := eqS_iff.1 hb
          have : List.find? (fun f => eqS f.name u) (p.take i) = none := by
            rw [hu]
            exact Option.isNone_iff_eq_none.1 (by simpa [findF] using h0)
          rw [this]
          rfl
        | false =>
          cases List.find? (fun f => eqS f.name u) (p.take i) <;> rfl
      have ih := k10_0_eq p ho hr hw d (i + 1) _ (by omega) hA'
      simpa using ih
theorem last_idx {p : List GF} {f : GF} (hl : p.length ≤ MX) (h : p.getLast? = some f) : eqI (p.length : Int) 0 = false ∧ idx p (w64 ((p.length : Int) - 1)) = some f := by
  have hp : 0 < p.length := by
    cases p with
    | nil => cases h
    | cons a r => simp
  refine ⟨decide_eq_false (by omega), ?_⟩
  have e : w64 ((p.length : Int) - 1) = ((p.length - 1 : Nat) : Int) := by
    have := w64_nat (n := p.length - 1) (by simp only [MX] at hl; omega)
    rw [show ((p.length : Int) - 1) = ((p.length - 1 : Nat) : Int) by omega]
    exact this
  rw [e, idx_nat (by omega)]
  rw [List.getLast?_eq_getElem?, List.getElem?_eq_getElem (by omega)] at h
  exact h
theorem k8_eq (p : List GF) (ho : okPr p) (hw : smP p) : k8 p = some ((((chkP p).1, (chkP p).2, ()), ()), ()) := by
  have e0 := k8_0_eq p ho hw _ 0 (Nat.zero_add _)
  rw [show ((0 : Nat) : Int) = 0 from rfl] at e0
  rw [k8, k18_eq p ho]
  unfold chkP
  cases rightP p with
  | false => rfl
  | true =>
    simp only [Option.bind_eq_bind, Option.bind_some, Bool.not_true, cond_false]
    rw [e0]
    cases chkGo p p.length 0 with
    | some cj => rfl
    | none =>
      simp only [Option.bind_some, lastF]
      cases hl : p.getLast? with
      | none =>
        have : p = [] := List.getLast?_eq_none_iff.1 hl
        subst this
        rfl
      | some f =>
        obtain ⟨h1, h2⟩ := last_idx ho.1 hl
        rw [h1]
        simp only [h2, Option.bind_some]
        have n1 : ltI 0 (f.lives.length : Int) = !f.lives.isEmpty := by
          cases f.lives with
          | nil => rfl
          | cons a r => exact decide_eq_true (by simp only [List.length_cons]; omega)
        have n2 : ltI 0 (f.params.length : Int) = !f.params.isEmpty := by
          cases f.params with
          | nil => rfl
          | cons a r => exact decide_eq_true (by simp only [List.length_cons]; omega)
        rw [n1, n2]
        cases eqS f.name (Array.toList (ByteArray.data { data := #[109, 97, 105, 110] })) <;> cases f.lives.isEmpty <;> cases f.params.isEmpty <;> cases eqI f.gives.kind 1 <;> rfl
def errP (c : Int × Int) : GErr := bif eqI c.1 0 then .nil else bif ltI c.2 0 then .code c.1 else .fault c.2 (.code c.1)
theorem chkGo_range (p : List GF) : ∀ (d i : Nat) (c : Int) (j : Nat), chkGo p d i = some (c, j) → c = 4 ∨ c = 5
  | 0, i, c, j, h => by cases h
  | d + 1, i, c, j, h => by
    simp only [chkGo] at h
    cases hp : p[i]? with
    | none => rw [hp] at h; cases h
    | some f =>
      rw [hp] at h
      simp only at h
      cases hc : ltI 0 (codeAt p i f) with
      | false => rw [hc] at h; exact chkGo_range p d (i + 1) c j h
      | true =>
        rw [hc] at h
        simp only [cond_true, Option.some.injEq, Prod.mk.injEq] at h
        have := of_decide_eq_true hc
        rcases codeN_range (findF (p.take i) f.name).isSome (cntR (p.take i)) f with h0 | h0 | h0
        · rw [codeAt, h0] at this
          omega
        · exact .inl (h.1 ▸ h0)
        · exact .inr (h.1 ▸ h0)
theorem k10_eq (p : List GF) (ho : okPr p) (hw : smP p) : k10 p = some ((errP (chkP p), ()), ()) := by
  rw [k10, k22_eq p ho]
  unfold chkP
  cases hr : rightP p with
  | false => rfl
  | true =>
    obtain ⟨h30, hrf⟩ := rightP_len hr
    obtain ⟨A', e0⟩ := k10_0_eq p ho hrf hw _ 0 [] (Nat.zero_add _) rfl
    rw [show ((0 : Nat) : Int) = 0 from rfl] at e0
    simp only [Option.bind_eq_bind, Option.bind_some, Bool.not_true, cond_false]
    rw [e0]
    cases hc : chkGo p p.length 0 with
    | some cj =>
      obtain ⟨c, j⟩ := cj
      have hlt : ltI (j : Int) 0 = false := decide_eq_false (by omega)
      rcases chkGo_range p _ _ _ _ hc with rfl | rfl
      · simp only [Option.bind_some, errP, hlt]
        rfl
      · simp only [Option.bind_some, errP, hlt]
        rfl
    | none =>
      simp only [Option.bind_some, lastF]
      have hn : ltI (p.length : Int) 0 = false := decide_eq_false (by omega)
      cases hl : p.getLast? with
      | none =>
        have : p = [] := List.getLast?_eq_none_iff.1 hl
        subst this
        rfl
      | some f =>
        obtain ⟨h1, h2⟩ := last_idx ho.1 hl
        rw [h1]
        simp only [h2, Option.bind_some]
        have hf : f ∈ p := List.mem_of_getLast? hl
        obtain ⟨l1, l2⟩ := rightF_len (hrf f hf)
        have n1 : ltI 0 (w64 ((f.lives.length : Int) + (f.params.length : Int))) = !(f.lives.isEmpty && f.params.isEmpty) := by
          rw [w64_add (n := 60) (by decide) (by omega)]
          cases hlv : f.lives with
          | nil =>
            cases hpr : f.params with
            | nil => rfl
            | cons a r => exact decide_eq_true (by simp only [List.length_cons, List.length_nil]; omega)
          | cons a r => exact decide_eq_true (by simp only [List.length_cons]; omega)
        rw [n1]
        cases eqS f.name (Array.toList (ByteArray.data { data := #[109, 97, 105, 110] })) <;> cases f.lives.isEmpty <;> cases f.params.isEmpty <;> cases eqI f.gives.kind 1 <;> simp only [Bool.not_true, Bool.not_false, Bool.and_true, Bool.and_false, Bool.true_and, Bool.false_and, cond_true, cond_false, errP, hn, Option.bind_some] <;> rfl
theorem chkP_range (p : List GF) : (chkP p = (2, -1)) ∨ (chkP p = (0, -1)) ∨ (∃ j : Nat, chkP p = (4, (j : Int))) ∨ (∃ j : Nat, chkP p = (5, (j : Int))) := by
  unfold chkP
  cases rightP p with
  | false => exact .inl rfl
  | true =>
    simp only [Bool.not_true, cond_false]
    cases hc : chkGo p p.length 0 with
    | some cj =>
      obtain ⟨c, j⟩ := cj
      rcases chkGo_range p _ _ _ _ hc with rfl | rfl
      · exact .inr (.inr (.inl ⟨j, rfl⟩))
      · exact .inr (.inr (.inr ⟨j, rfl⟩))
    | none =>
      simp only [lastF]
      cases hl : p.getLast? with
      | none => exact .inr (.inr (.inl ⟨_, rfl⟩))
      | some f =>
        simp only
        cases eqS f.name (Array.toList (ByteArray.data { data := #[109, 97, 105, 110] }))
        · exact .inr (.inr (.inl ⟨_, rfl⟩))
        · simp only [Bool.not_true, cond_false]
          cases f.lives.isEmpty && (f.params.isEmpty && eqI f.gives.kind 1)
          · exact .inr (.inr (.inr ⟨_, rfl⟩))
          · exact .inr (.inl rfl)
theorem k9_eq (p : List GF) : k9 (errP (chkP p)) (chkP p).1 (chkP p).2 = some ((true, ()), ()) := by
  rcases chkP_range p with h | h | ⟨j, h⟩ | ⟨j, h⟩
  · rw [h]; rfl
  · rw [h]; rfl
  all_goals
    rw [h, k9]
    have hlt : ltI (j : Int) 0 = false := decide_eq_false (by omega)
    simp only [hlt, errP]
    show Option.bind (faultCon.fn _) _ = _
    simp only [show eqI (4 : Int) 0 = false from rfl, show eqI (5 : Int) 0 = false from rfl, cond_false, hlt]
    simp [faultCon, pureCon, faultF, codeI]
    rfl
end Go.Lb.R
end
section
namespace Go.Lb.R
open Go.Lb
theorem loop_ex {α σ R : Type} {l : List α} {L : σ → Nat → Option R} (hs : ∀ s i (h : i < l.length), (∃ r, L s i = some r) ∨ ∃ s', L s i = L s' (i + 1)) (he : ∀ s, ∃ r, L s l.length = some r) (s : σ) : ∃ r, L s 0 = some r := by
  obtain ⟨r, h, _⟩ := loop_some (l := l) (L := L) (Inv := fun _ _ => True) (Q := fun _ => True) (fun s i h _ => (hs s i h).imp (fun ⟨r, h⟩ => ⟨r, h, trivial⟩) (fun ⟨s', h⟩ => ⟨s', trivial, h⟩)) (fun s _ => (he s).imp fun r h => ⟨h, trivial⟩) l.length 0 s (by omega) trivial
  exact ⟨r, h⟩
theorem k17_some : ∀ (n : Nat) (t : GE), SizeOf.sizeOf t < n → okE t → ∃ m, k17 t = some ((m, ()), ())
  | 0, t, h, _ => by omega
  | n + 1, t, h, ho => by
    obtain ⟨h1, h2⟩ := okE_kids ho
    have IH : ∀ x ∈ t.kids, ∃ m, k17 x = some ((m, ()), ()) := fun x hx => k17_some n x (by have := GE.kids_lt hx; omega) (h2 x hx)
    obtain ⟨r, hr⟩ := loop_ex (l := t.kids) (σ := Int) (L := fun a i => k17_0 t a (i : Int)) (fun a i hi => by
      obtain ⟨m, hm⟩ := IH _ (List.getElem_mem hi)
      rw [k17_0, ltI_true hi]
      simp only [idx_nat hi, Option.bind_eq_bind, Option.bind_some, hm, w64_succ h1 hi]
      cases leI a 400 with
      | true => exact .inr ⟨_, rfl⟩
      | false => exact .inl ⟨_, rfl⟩) (fun a => by
      rw [k17_0, ltI_false (Nat.lt_irrefl _)]
      exact ⟨_, rfl⟩) (w64 (1 + w64 (Int.tdiv (↑(List.length (GE.name t)) : Int) 100)))
    rw [show ((0 : Nat) : Int) = 0 from rfl] at hr
    rw [k17, hr]
    exact ⟨_, rfl⟩
theorem k16_some : ∀ (n : Nat) (l : List GS), SizeOf.sizeOf l < n → l.length ≤ MX → okSs l → ∃ m, k16 l = some ((m, ()), ())
  | 0, l, h, _, _ => by omega
  | n + 1, l, h, hl, ho => by
    have IH : ∀ s ∈ l, (∃ m, k16 s.thn = some ((m, ()), ())) ∧ (∃ m, k16 s.els = some ((m, ()), ())) := fun s hs => by
      obtain ⟨_, _, _, ⟨h4, h5⟩, h6, h7⟩ := okS_at (okSs_mem ho hs)
      have q0 := List.sizeOf_lt_of_mem hs
      have q1 := GS.thn_lt (t := s)
      have q2 := GS.els_lt (t := s)
      exact ⟨k16_some n _ (by omega) h4 h5, k16_some n _ (by omega) h6 h7⟩
    obtain ⟨r, hr⟩ := loop_ex (l := l) (σ := Int) (L := fun a i => k16_0 l a (i : Int)) (fun a i hi => by
      have hm := List.getElem_mem hi
      obtain ⟨⟨m1, e1⟩, m2, e2⟩ := IH _ hm
      obtain ⟨_, o1, o2, _, _⟩ := okS_at (okSs_mem ho hm)
      obtain ⟨m3, e3⟩ := k17_some _ _ (Nat.lt_succ_self _) o1
      obtain ⟨m4, e4⟩ := k17_some _ _ (Nat.lt_succ_self _) o2
      rw [k16_0, ltI_true hi]
      simp only [idx_nat hi, Option.bind_eq_bind, Option.bind_some, e1, e2, e3, e4, w64_succ hl hi]
      cases leI a 400 with
      | true => exact .inr ⟨_, rfl⟩
      | false => exact .inl ⟨_, rfl⟩) (fun a => by
      rw [k16_0, ltI_false (Nat.lt_irrefl _)]
      exact ⟨_, rfl⟩) 0
    rw [show ((0 : Nat) : Int) = 0 from rfl] at hr
    rw [k16, hr]
    exact ⟨_, rfl⟩
theorem k7_0_some (f : GF) (ho : okPs f.params) (a : Int) : ∃ m, k7_0 a 0 f = some ((m, ()), f, ()) := by
  obtain ⟨r, hr, m, rfl⟩ := loop_some (l := f.params) (σ := Int) (L := fun a i => k7_0 a (i : Int) f) (Inv := fun _ _ => True) (Q := fun r => ∃ m : Int, r = ((m, ()), f, ())) (fun a i hi _ => by
      have hm := List.getElem_mem hi
      obtain ⟨m1, e1⟩ := k15_some _ _ (Nat.lt_succ_self _) (ho.2 _ hm).2
      rw [k7_0, ltI_true hi]
      simp only [idx_nat hi, Option.bind_eq_bind, Option.bind_some, nf_eq, e1, w64_succ ho.1 hi]
      cases leI a 400 with
      | true => exact .inr ⟨_, trivial, rfl⟩
      | false => exact .inl ⟨_, rfl, _, rfl⟩) (fun a _ => by
      rw [k7_0, ltI_false (Nat.lt_irrefl _)]
      exact ⟨_, rfl, _, rfl⟩) f.params.length 0 a (by omega) trivial
  exact ⟨m, hr⟩
theorem k7_1_some (f : GF) (ho : okNs f.lives) (a : Int) : ∃ m, k7_1 a 0 f = some ((m, ()), f, ()) := by
  obtain ⟨r, hr, m, rfl⟩ := loop_some (l := f.lives) (σ := Int) (L := fun a i => k7_1 a (i : Int) f) (Inv := fun _ _ => True) (Q := fun r => ∃ m : Int, r = ((m, ()), f, ())) (fun a i hi _ => by
      rw [k7_1, ltI_true hi]
      simp only [idx_nat hi, Option.bind_eq_bind, Option.bind_some, nf_eq, w64_succ ho.1 hi]
      cases leI a 400 with
      | true => exact .inr ⟨_, trivial, rfl⟩
      | false => exact .inl ⟨_, rfl, _, rfl⟩) (fun a _ => by
      rw [k7_1, ltI_false (Nat.lt_irrefl _)]
      exact ⟨_, rfl, _, rfl⟩) f.lives.length 0 a (by omega) trivial
  exact ⟨m, hr⟩
theorem k7_2_some (f : GF) (ho : okNs f.outs) (a : Int) : ∃ m, k7_2 a 0 f = some ((m, ()), f, ()) := by
  obtain ⟨r, hr, m, rfl⟩ := loop_some (l := f.outs) (σ := Int) (L := fun a i => k7_2 a (i : Int) f) (Inv := fun _ _ => True) (Q := fun r => ∃ m : Int, r = ((m, ()), f, ())) (fun a i hi _ => by
      rw [k7_2, ltI_true hi]
      simp only [idx_nat hi, Option.bind_eq_bind, Option.bind_some, nf_eq, w64_succ ho.1 hi]
      cases leI a 400 with
      | true => exact .inr ⟨_, trivial, rfl⟩
      | false => exact .inl ⟨_, rfl, _, rfl⟩) (fun a _ => by
      rw [k7_2, ltI_false (Nat.lt_irrefl _)]
      exact ⟨_, rfl, _, rfl⟩) f.outs.length 0 a (by omega) trivial
  exact ⟨m, hr⟩
theorem k7_some (p : List GF) (ho : okPr p) : ∃ m, k7 p = some ((m, ()), ()) := by
  obtain ⟨r, hr⟩ := loop_ex (l := p) (σ := Int) (L := fun a i => k7_3 p a (i : Int)) (fun a i hi => by
      have hm := ho.2 _ (List.getElem_mem hi)
      obtain ⟨m1, e1⟩ := k15_some _ _ (Nat.lt_succ_self _) hm.gives
      obtain ⟨m2, e2⟩ := k16_some _ _ (Nat.lt_succ_self _) hm.body.1 hm.body.2
      obtain ⟨m3, e3⟩ := k17_some _ _ (Nat.lt_succ_self _) hm.value
      rw [k7_3, ltI_true hi]
      simp only [idx_nat hi, Option.bind_eq_bind, Option.bind_some, nf_eq, e1, e2, e3, w64_succ ho.1 hi]
      cases leI a 400 with
      | false => exact .inl ⟨_, rfl⟩
      | true =>
        simp only
        generalize w64 _ = z
        obtain ⟨m4, e4⟩ := k7_0_some p[i] hm.params z
        rw [e4]
        simp only [Option.bind_some]
        obtain ⟨m5, e5⟩ := k7_1_some p[i] hm.lives m4
        rw [e5]
        simp only [Option.bind_some]
        obtain ⟨m6, e6⟩ := k7_2_some p[i] hm.outs m5
        rw [e6]
        exact .inr ⟨_, rfl⟩) (fun a => by
      rw [k7_3, ltI_false (Nat.lt_irrefl _)]
      exact ⟨_, rfl⟩) 0
  rw [show ((0 : Nat) : Int) = 0 from rfl] at hr
  rw [k7, hr]
  exact ⟨_, rfl⟩
theorem k3_eq (p : List GF) (ho : okPr p) (hw : smP p) : k3 p = some ((true, ()), ()) := by
  obtain ⟨m, e7⟩ := k7_some p ho
  rw [k3]
  simp only [kh_awake, Option.bind_eq_bind, Option.bind_some, e7, k8_eq p ho hw, k10_eq p ho hw, Bool.not_true]
  cases ltI 400 m with
  | true => rfl
  | false =>
    simp only
    rw [k9_eq p]
    rfl
end Go.Lb.R
end
section
set_option maxRecDepth 1000000
namespace Go.Proofs.YtdnndjdlfpkjlaaGreatDoor
open Go.ChangeShapes Go.WideShapes Go.RowKit Go.Lb Go.Lb.R
theorem laidOut : laidOutB Tryz.prog = true := by kernel_rfl
theorem wtT_sz : ∀ t : GT, wtT t ≤ szT t := by
  have : ∀ n (t : GT), SizeOf.sizeOf t < n → wtT t ≤ szT t := by
    intro n
    induction n with
    | zero => intro t h; omega
    | succ n ih =>
      intro t h
      obtain ⟨k, s, m, ks⟩ := t
      have hk : ∀ l : List GT, (∀ x ∈ l, SizeOf.sizeOf x < n) → wtTs l ≤ szTs l := by
        intro l
        induction l with
        | nil => intro _; exact Nat.le_refl _
        | cons a r ihr =>
          intro hx
          have h1 := ih a (hx a (by simp))
          have h2 := ihr fun x hx' => hx x (by simp [hx'])
          simp only [wtTs, szTs]
          omega
      have := hk ks fun x hx => by
        have := GT.kids_lt (t := .mk k s m ks) (k := x) hx
        omega
      simp only [wtT, szT]
      omega
  exact fun t => this _ t (Nat.lt_succ_self _)
theorem cntSs_sz : ∀ l : List GS, cntSs l ≤ szSs l := by
  have : ∀ n (l : List GS), SizeOf.sizeOf l < n → cntSs l ≤ szSs l := by
    intro n
    induction n with
    | zero => intro l h; omega
    | succ n ih =>
      intro l h
      cases l with
      | nil => exact Nat.le_refl _
      | cons s r =>
        obtain ⟨k, nm, p, e, t, f⟩ := s
        have h1 := ih t (by simp at h; omega)
        have h2 := ih f (by simp at h; omega)
        have h3 := ih r (by simp at h; omega)
        simp only [cntSs, cntS, szSs, szS]
        omega
  exact fun l => this _ l (Nat.lt_succ_self _)
theorem wtPs_sz : ∀ l : List GP, wtPs l ≤ sumL szP l
  | [] => Nat.le_refl _
  | p :: r => by
    have h1 := wtPs_sz r
    have h2 := wtT_sz p.ty
    simp only [wtPs, sumL, szP]
    omega
theorem wtF_sz (f : GF) : wtF f ≤ szF f := by
  have h1 := wtT_sz f.gives
  have h2 := wtPs_sz f.params
  have h3 := cntSs_sz f.body
  have h4 := sumL_len (w := szN) (fun s => by simp only [szN]; omega) f.outs
  have h5 := sumL_len (w := szN) (fun s => by simp only [szN]; omega) f.lives
  simp only [wtF, szF]
  omega
theorem smP_of {p : List GF} {n : Nat} (h : sumL szF p ≤ n) (hn : n ≤ 1048576) : smP p := fun f hf => by
  have h1 := sumL_mem (w := szF) hf
  have h2 := wtF_sz f
  show wtF f ≤ 274877906944
  omega
end Go.Proofs.YtdnndjdlfpkjlaaGreatDoor
end
section
set_option maxRecDepth 1000000
namespace Go.Proofs.YtdnndjdlfpkjlaaGreatDoor
open Go.ChangeShapes Go.WideShapes Go.RowKit Go.Lb Go.Lb.R
theorem reads3 (os : Os) {H : Type} (enc : TypeId × Value → H) : ∃ places, DataW.whole enc Tryz.prog ((laidWorld os).forCall (fun _ _ => 0) ⟨#[], #[.slice none 0 0], []⟩).memory Tryz.f3.params.toList Rows.namesChecksSpec.vars false #[Value.slice none 0 0].toList 8 = some ([.nil], [], places) :=
  ⟨[], by kernel_rfl⟩
theorem checks_walk {W : World} (hL : laidMetH Tryz.prog laidL W) {p : List GF} (ho : okPr p) (hw : smP p) {cargs : Array Value} (hargs : RelL (fzW W) W [.sl p.length (encFs p) .shared] cargs.toList) : Calls Tryz.prog 3 cargs W fun e W' => e = .returned (.bool true) ∧ Below W.heap.size W W' := by
  refine bool_call (B := W.heap.size) (L := con3 k3) (x := ((p, ()), ())) (y := ((true, ()), ())) (ok_k3 _ _ _ (k3_eq p ho hw)) ?_ rfl (grel_of_laid hL) rfl rfl hargs ?_
  · intro f' y' ho t' h' h0 N' hsr
    cases ho
    exact hsr.slots 1000 (by intro h; cases h)
  · intro i
    show okV N00 0 (lkV [(0, shV (.sl .fn) p)] i)
    simp only [lkV, shV]
    cases Nat.beq i 0 <;> simp only [cond_true, cond_false, okV]
set_option maxRecDepth 100000 in
theorem checks_lifted (os : Os) (started : os.Started) (H : Type) (enc : TypeId × Value → H) (F : Stop.Interp) :
    ReturnsInHanded {} Tryz.checked os 3 .any ((Rows.OpenSpec.upto Rows.namesChecksSpec).preRow enc Tryz.prog Tryz.f3 Rows.namesChecksUptoRow.domain false Rows.namesChecksUptoRow.laid) (((Rows.OpenSpec.upto Rows.namesChecksSpec).at F).post enc Tryz.prog Tryz.f3 false true false false) := by
  obtain ⟨places, hx⟩ := reads3 os enc
  refine returnsInHanded_of_row (C := Tryz.checked) (s := Rows.OpenSpec.upto Rows.namesChecksSpec) own started (by kernel_rfl) Tryz.func3
    (witness_row_atRef (enc := enc) (C := Tryz.checked) false (laidWorld os) #[.slice none 0 0] (World.layVars_os _ _ _) (by kernel_rfl) (by kernel_rfl) (by kernel_rfl)
      (OpenSpec.preRow_of_cond 8 hx (by kernel_rfl) (fun k hk => by cases hk; kernel_rfl) (by kernel_rfl) (laidWorld_met os _))) ?_
  intro W base args ds gs before hval0 hW _ hcond _ hL _ _
  have hbk : bulkAll (ds ++ gs) ≤ 1048576 := by
    have h1 := of_decide_eq_true (show decide (Rows.uptoBulkAll (ds ++ gs) ≤ 1048576) = true from hcond _ rfl)
    rwa [bulkAll_eq] at h1
  have hW' := hW
  have hlt := hW.lt
  obtain ⟨p, q, hA0, hV0, rfl, hfz, hnd⟩ := hW
  have hA : DataW.TrodAll enc Tryz.prog W 0 (fun _ => true) true Tryz.f3.params.toList args.toList ds p := hA0
  have hV : DataW.TrodVars enc Tryz.prog W (fun _ => true) [] gs q := hV0
  rw [Tryz.params3] at hA
  obtain ⟨v0, d0, rfl, rfl, h0⟩ := trodAll_one hA
  obtain ⟨rfl, rfl⟩ : gs = [] ∧ q = [] := by
    cases gs with
    | nil => exact ⟨rfl, hV⟩
    | cons g r => exact absurd hV (by intro h; cases h)
  obtain ⟨sa, sl, sc, rfl⟩ := okWide_slice Tryz.underlying22 (hval0 0 22 v0 rfl rfl)
  obtain ⟨fuel, hf⟩ := h0
  obtain ⟨x, hx, hb, hr⟩ := rd_pr fuel _ _ _ hf
  have hargs : RelL (fzW W) W [.sl x.length (encFs x) .shared] [Value.slice sa sl sc] := by
    rw [RelL_cons, RelL_nil]
    exact ⟨hr, trivial⟩
  have hsm : smP x := smP_of (n := 1048576) (by simp only [List.append_nil, bulkAll] at hbk; omega) (Nat.le_refl _)
  refine (checks_walk hL hx hsm (cargs := #[.slice sa sl sc]) hargs).mono fun e W' ⟨he, hb⟩ => ?_
  subst he
  have e1 : Rows.namesChecksSpec.fn H ([d0] ++ []) = { results := [.lit (.bool true)], args := [d0] } := by simp [Rows.namesChecksSpec]
  refine ⟨_, rfl, _, _, _, [], p, [], hW', ?_, ?_, ?_, keptBut_of_below hb _, fun h => by cases h⟩
  · rw [show ((Rows.OpenSpec.upto Rows.namesChecksSpec).at F).fn = Rows.namesChecksSpec.fn from rfl]
    rw [e1]; exact trodAll_mk1 (shut_bool Tryz.underlying4 true)
  · rw [show ((Rows.OpenSpec.upto Rows.namesChecksSpec).at F).fn = Rows.namesChecksSpec.fn from rfl]
    rw [e1]
    exact trodAll_mk1 (Below.trod laidOut (by kernel_rfl) (of_decide_eq_true (by kernel_rfl)) ⟨fuel, hf⟩ hb fun y hy => hlt y (by simp [hy]))
  · rw [show ((Rows.OpenSpec.upto Rows.namesChecksSpec).at F).fn = Rows.namesChecksSpec.fn from rfl]
    rw [e1]; rfl
theorem checks_holds : Rows.NamesChecksUptoSaid :=
  OpenClaim.holds_of_cond 3 Tryz.f3 rfl rfl rfl rfl rfl rfl rfl ⟨rfl, rfl, rfl, rfl, rfl⟩ rfl rfl rfl rfl rfl (by kernel_rfl) Tryz.func3 (by kernel_rfl)
    (of_decide_eq_true (by kernel_rfl)) (by unfold Func.isWrapper; rw [if_neg (of_decide_eq_false (by kernel_rfl))]; exact ⟨rfl, rfl⟩)
    (fun os started H enc _ F => by rw [OpenClaim.pre_eq_preRow]; exact checks_lifted os started H enc F)
theorem checks_card : Rows.NamesChecksUptoCardSaid :=
  Claim7.holds_tied_plain_at .later [] _ _ _ _ checks_holds (fun _ h => by cases h) (by kernel_rfl) (fun _ h => by cases h) namesChecksUpto_row_tie rfl ⟨rfl, rfl⟩ (by kernel_rfl) rfl
    (fun f fn hf hfn => by
      obtain rfl : f = 3 := Option.some.inj ((show Tryz.prog.funcNamed "lienbook/lienbooklaw04.NamesChecks" = some 3 by kernel_rfl).symm.trans hf) |>.symm
      obtain rfl : fn = Tryz.f3 := (Option.some.inj (Tryz.func3.symm.trans hfn)).symm
      exact ⟨by kernel_rfl, fun j t ht => by
        rw [Tryz.params3] at ht
        have h3 : t = 22 := by
          rcases j with _ | j
          · simpa using ht.symm
          · simp at ht
        subst h3
        exact (show Tryz.prog.wantsStandIn 22 = false by kernel_rfl)⟩)
    (by kernel_rfl)
end Go.Proofs.YtdnndjdlfpkjlaaGreatDoor
end
#print axioms Go.Proofs.YtdnndjdlfpkjlaaGreatDoor.checks_card
