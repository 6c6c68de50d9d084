/-
  Part 5 of 5. The law NamesMore of the names layer holds of the given program for every input whose bulk is at most 1048576: it returns true.
-/
import Derived.Test.YtdnndjdlfpkjlaaGreatDoorA4
import Derived.Lib.MapLaws
import Derived.Lib.TrimUEq
import Derived.SevenTiedAt
import Derived.Deep.DeepWitnessRowRef
import Derived.Test.YtdnndjdlfpkjlaaGreatDoorCards
section
namespace Go.Lb.R
open Go.Lb
theorem w64_nat {n : Nat} (h : n < 9223372036854775808) : w64 (n : Int) = n := by
  show IntKind.wrap .i64 (n : Int) = n
  unfold IntKind.wrap
  simp only [IntKind.bits, IntKind.signed]
  have h1 : (n : Int) % (2 ^ 64 : Int) = n := Int.emod_eq_of_lt (by omega) (by omega)
  simp only [h1]
  have h2 : ¬ ((n : Int) ≥ 2 ^ (64 - 1)) := by
    have : (2 : Int) ^ (64 - 1) = 9223372036854775808 := by decide
    omega
  simp only [h2, decide_false, Bool.and_false, Bool.false_eq_true, if_false]
theorem idx_nat {α : Type} {l : List α} {i : Nat} (h : i < l.length) : idx l (i : Int) = some l[i] := by
  unfold idx
  simp [h]
mutual
def refsTB : GT → Bool
  | .mk k _ _ ks => decide (k = 4) || refsTs ks
def refsTs : List GT → Bool
  | [] => false
  | t :: r => refsTB t || refsTs r
end
theorem refsTB_eq (t : GT) : refsTB t = (decide (t.kind = 4) || refsTs t.kids) := by cases t; simp only [refsTB]; rfl
mutual
def wholeT : GT → Bool
  | .mk k _ _ ks => wholeTs (decide (k = 2) || decide (k = 4)) ks
def wholeTs (b : Bool) : List GT → Bool
  | [] => true
  | t :: r => wholeT t && !(b && refsTB t) && wholeTs b r
end
theorem wholeT_eq (t : GT) : wholeT t = wholeTs (decide (t.kind = 2) || decide (t.kind = 4)) t.kids := by cases t; simp only [wholeT]; rfl
theorem drop_at {α : Type} {l : List α} {i : Nat} (h : i < l.length) : l.drop i = l[i] :: l.drop (i + 1) := List.drop_eq_getElem_cons h
theorem k26_loop (l : List GT) (hl : l.length ≤ MX) (IH : ∀ x ∈ l, k26 x = some ((refsTB x, ()), ())) : ∀ (d i : Nat), i + d = l.length →
    (refsTs (l.drop i) = true → ∃ j : Int, 0 ≤ j ∧ k26_0 l (l.length : Int) (i : Int) = some (Sum.inr ((j, ()), ()))) ∧ (refsTs (l.drop i) = false → k26_0 l (l.length : Int) (i : Int) = some (Sum.inl ((), ())))
  | 0, i, h => by
    have h1 : l.drop i = [] := List.drop_of_length_le (by omega)
    rw [h1]
    refine ⟨fun e => by simp [refsTs] at e, fun _ => ?_⟩
    rw [k26_0]
    have : ltI (i : Int) (l.length : Int) = false := by simp only [ltI, decide_eq_false_iff_not]; omega
    rw [this]
  | d + 1, i, h => by
    have hi : i < l.length := by omega
    obtain ⟨a1, a2⟩ := k26_loop l hl IH d (i + 1) (by omega)
    rw [drop_at hi]
    simp only [refsTs]
    rw [k26_0]
    have e1 : ltI (i : Int) (l.length : Int) = true := by simp only [ltI, decide_eq_true_eq]; omega
    rw [e1, idx_nat hi]
    simp only [Option.bind_eq_bind, Option.bind_some, IH _ (List.getElem_mem hi)]
    have e2 : w64 ((i : Int) + 1) = ((i + 1 : Nat) : Int) := by
      have := w64_nat (n := i + 1) (by simp only [MX] at hl; omega)
      simpa using this
    cases hr : refsTB l[i] with
    | true => exact ⟨fun _ => ⟨i, by omega, rfl⟩, fun e => by simp at e⟩
    | false =>
      simp only [Bool.false_or]
      rw [e2]
      exact ⟨a1, a2⟩
theorem k26_eq : ∀ (n : Nat) (t : GT), SizeOf.sizeOf t < n → okT t → k26 t = some ((refsTB t, ()), ())
  | 0, t, h, _ => by omega
  | n + 1, t, h, ho => by
    obtain ⟨h1, h2⟩ := okT_kids ho
    have IH : ∀ x ∈ t.kids, k26 x = some ((refsTB x, ()), ()) := fun x hx => k26_eq n x (by have := GT.kids_lt hx; omega) (h2 x hx)
    obtain ⟨a1, a2⟩ := k26_loop t.kids h1 IH t.kids.length 0 (by omega)
    rw [k26, refsTB_eq]
    cases hk : decide (t.kind = 4) with
    | true => simp only [eqI, hk, Bool.true_or]
    | false =>
      simp only [eqI, hk, Bool.false_or]
      simp only [List.drop_zero] at a1 a2
      cases hr : refsTs t.kids with
      | true =>
        obtain ⟨j, hj, e⟩ := a1 hr
        rw [show ((0 : Nat) : Int) = 0 from rfl] at e
        rw [e]
        simp only [Option.bind_eq_bind, Option.bind_some, leI]
        simp [hj]
      | false =>
        have e := a2 hr
        rw [show ((0 : Nat) : Int) = 0 from rfl] at e
        rw [e]
        rfl
theorem w64_succ {i n : Nat} (hl : n ≤ MX) (hi : i < n) : w64 ((i : Int) + 1) = ((i + 1 : Nat) : Int) := by
  have := w64_nat (n := i + 1) (by simp only [MX] at hl; omega)
  simpa using this
theorem ltI_true {i n : Nat} (h : i < n) : ltI (i : Int) (n : Int) = true := by simp only [ltI, decide_eq_true_eq]; omega
theorem ltI_false {i n : Nat} (h : ¬ i < n) : ltI (i : Int) (n : Int) = false := by simp only [ltI, decide_eq_false_iff_not]; omega
theorem k11_loop (b : Bool) (l : List GT) (hl : l.length ≤ MX) (ho : ∀ x ∈ l, okT x) (IH : ∀ x ∈ l, k11 x = some ((wholeT x, ()), ())) : ∀ (d i : Nat), i + d = l.length →
    (wholeTs b (l.drop i) = false → ∃ j : Int, 0 ≤ j ∧ k11_0 l (l.length : Int) (i : Int) b = some (Sum.inr ((j, ()), b, ()))) ∧ (wholeTs b (l.drop i) = true → k11_0 l (l.length : Int) (i : Int) b = some (Sum.inl ((), b, ())))
  | 0, i, h => by
    have h1 : l.drop i = [] := List.drop_of_length_le (by omega)
    rw [h1]
    refine ⟨fun e => by simp [wholeTs] at e, fun _ => ?_⟩
    rw [k11_0, ltI_false (by omega)]
  | d + 1, i, h => by
    have hi : i < l.length := by omega
    obtain ⟨a1, a2⟩ := k11_loop b l hl ho IH d (i + 1) (by omega)
    rw [drop_at hi]
    simp only [wholeTs]
    rw [k11_0, ltI_true hi, idx_nat hi]
    simp only [Option.bind_eq_bind, Option.bind_some, IH _ (List.getElem_mem hi), k26_eq _ l[i] (Nat.lt_succ_self _) (ho _ (List.getElem_mem hi)), w64_succ hl hi]
    cases hw : wholeT l[i] with
    | false => exact ⟨fun _ => ⟨i, by omega, rfl⟩, fun e => by simp at e⟩
    | true =>
      cases b with
      | false => simpa using ⟨a1, a2⟩
      | true =>
        cases hr : refsTB l[i] with
        | true => exact ⟨fun _ => ⟨i, by omega, rfl⟩, fun e => by simp at e⟩
        | false => simpa using ⟨a1, a2⟩
theorem k11_eq : ∀ (n : Nat) (t : GT), SizeOf.sizeOf t < n → okT t → k11 t = some ((wholeT t, ()), ())
  | 0, t, h, _ => by omega
  | n + 1, t, h, ho => by
    obtain ⟨h1, h2⟩ := okT_kids ho
    have IH : ∀ x ∈ t.kids, k11 x = some ((wholeT x, ()), ()) := fun x hx => k11_eq n x (by have := GT.kids_lt hx; omega) (h2 x hx)
    have fin : ∀ b : Bool, ((k11_0 (GT.kids t) (↑(List.length (GT.kids t)) : Int) 0 b) >>= fun y0 => (match y0 with | .inl y1 => (some (((not (leI 0 (-1)), ()), ()))) | .inr y2 => (some (((not (leI 0 (y2.1.1)), ()), ()))))) = some ((wholeTs b t.kids, ()), ()) := by
      intro b
      obtain ⟨a1, a2⟩ := k11_loop b t.kids h1 h2 IH t.kids.length 0 (by omega)
      simp only [List.drop_zero] at a1 a2
      cases hr : wholeTs b t.kids with
      | false =>
        obtain ⟨j, hj, e⟩ := a1 hr
        rw [show ((0 : Nat) : Int) = 0 from rfl] at e
        rw [e]
        simp only [Option.bind_eq_bind, Option.bind_some, leI]
        simp [hj]
      | true =>
        have e := a2 hr
        rw [show ((0 : Nat) : Int) = 0 from rfl] at e
        rw [e]
        rfl
    rw [k11, wholeT_eq]
    cases hk : decide (t.kind = 2) with
    | true => simp only [eqI, hk, Bool.true_or]; exact fin true
    | false => simp only [eqI, hk, Bool.false_or]; exact fin _
theorem k15_loop (t : GT) (hl : t.kids.length ≤ MX) (IH : ∀ x ∈ t.kids, ∃ n, k15 x = some ((n, ()), ())) : ∀ (d i : Nat) (a : Int), i + d = t.kids.length → ∃ n, k15_0 t a (i : Int) = some ((n, ()), ())
  | 0, i, a, h => by
    rw [k15_0, ltI_false (by omega)]
    exact ⟨_, rfl⟩
  | d + 1, i, a, h => by
    have hi : i < t.kids.length := by omega
    obtain ⟨n, hn⟩ := IH _ (List.getElem_mem hi)
    rw [k15_0, ltI_true hi]
    simp only [idx_nat hi, Option.bind_eq_bind, Option.bind_some, hn, w64_succ hl hi]
    cases leI a 400 with
    | true => exact k15_loop t hl IH d (i + 1) _ (by omega)
    | false => exact ⟨_, rfl⟩
theorem k15_some : ∀ (n : Nat) (t : GT), SizeOf.sizeOf t < n → okT t → ∃ m, k15 t = some ((m, ()), ())
  | 0, t, h, _ => by omega
  | n + 1, t, h, ho => by
    obtain ⟨h1, h2⟩ := okT_kids ho
    have IH : ∀ x ∈ t.kids, ∃ m, k15 x = some ((m, ()), ()) := fun x hx => k15_some n x (by have := GT.kids_lt hx; omega) (h2 x hx)
    rw [k15]
    obtain ⟨m, hm⟩ := k15_loop t h1 IH t.kids.length 0 (w64 (1 + w64 (Int.tdiv (↑(List.length (GT.life t)) : Int) 100))) (by omega)
    rw [show ((0 : Nat) : Int) = 0 from rfl] at hm
    rw [hm]
    exact ⟨_, rfl⟩
end Go.Lb.R
end
section
namespace Go.Lb.R
open Go.Lb
theorem loop_some {α σ R : Type} {l : List α} {L : σ → Nat → Option R} {Inv : Nat → σ → Prop} {Q : R → Prop}
    (hs : ∀ s i (h : i < l.length), Inv i s → (∃ r, L s i = some r ∧ Q r) ∨ (∃ s', Inv (i + 1) s' ∧ L s i = L s' (i + 1)))
    (he : ∀ s, Inv l.length s → ∃ r, L s l.length = some r ∧ Q r) : ∀ (d i : Nat) (s : σ), i + d = l.length → Inv i s → ∃ r, L s i = some r ∧ Q r
  | 0, i, s, h, hi => by
    obtain rfl : i = l.length := by omega
    exact he s hi
  | d + 1, i, s, h, hi => by
    rcases hs s i (by omega) hi with hr | ⟨s', h1, h2⟩
    · exact hr
    · rw [h2]
      exact loop_some hs he d (i + 1) s' (by omega) h1
theorem loop_all {α R : Type} {l : List α} {p : α → Bool} {L : Nat → Option R} {good : R} {bad : Nat → R}
    (hs : ∀ i (h : i < l.length), L i = bif p l[i] then L (i + 1) else some (bad i)) (he : L l.length = some good) :
    ∀ (d i : Nat), i + d = l.length → (L i = some good ∧ (l.drop i).all p = true) ∨ ((∃ j, L i = some (bad j)) ∧ (l.drop i).all p = false)
  | 0, i, h => by
    obtain rfl : i = l.length := by omega
    exact .inl ⟨he, by simp⟩
  | d + 1, i, h => by
    have hi : i < l.length := by omega
    rw [hs i hi, drop_at hi, List.all_cons]
    cases hp : p l[i] with
    | false => exact .inr ⟨⟨i, rfl⟩, rfl⟩
    | true => simpa using loop_all hs he d (i + 1) (by omega)
theorem loop_all0 {α R : Type} {l : List α} {p : α → Bool} {L : Nat → Option R} {good : R} {bad : Nat → R}
    (hs : ∀ i (h : i < l.length), L i = bif p l[i] then L (i + 1) else some (bad i)) (he : L l.length = some good) :
    (L 0 = some good ∧ l.all p = true) ∨ ((∃ j, L 0 = some (bad j)) ∧ l.all p = false) := by
  simpa using loop_all hs he l.length 0 (by omega)
theorem loop_fold {α σ R : Type} {l : List α} {L : σ → Nat → Option R} {st : σ → α → σ} {fin : σ → R} {Inv : Nat → σ → Prop}
    (hs : ∀ s i (h : i < l.length), Inv i s → Inv (i + 1) (st s l[i]) ∧ L s i = L (st s l[i]) (i + 1))
    (he : ∀ s, Inv l.length s → L s l.length = some (fin s)) : ∀ (d i : Nat) (s : σ), i + d = l.length → Inv i s → L s i = some (fin ((l.drop i).foldl st s))
  | 0, i, s, h, hi => by
    obtain rfl : i = l.length := by omega
    rw [he s hi]
    simp
  | d + 1, i, s, h, hi => by
    have hl : i < l.length := by omega
    obtain ⟨h1, h2⟩ := hs s i hl hi
    rw [h2, drop_at hl, List.foldl_cons]
    exact loop_fold hs he d (i + 1) _ (by omega) h1
theorem eqS_refl (s : Str) : eqS s s = true := by simp [eqS]
def letterB (c : Int) : Bool := decide (97 ≤ c) && decide (c ≤ 122) || (decide (65 ≤ c) && decide (c ≤ 90) || decide (c = 95))
def digitB (c : Int) : Bool := decide (48 ≤ c) && decide (c ≤ 57)
theorem k153_eq (c : Int) : k153 c = some ((digitB c, ()), ()) := by
  rw [k153]
  simp only [digitB, leI]
  cases decide (48 ≤ c) <;> rfl
theorem k151_eq (c : Int) : k151 c = some ((letterB c, ()), ()) := by
  rw [k151]
  simp only [letterB, leI, eqI]
  cases decide (97 ≤ c) <;> cases decide (c ≤ 122) <;> cases decide (65 ≤ c) <;> cases decide (c ≤ 90) <;> cases decide (c = 95) <;> rfl
def bI (b : UInt8) : Int := (b.toNat : Int)
end Go.Lb.R
end
section
namespace Go.Lb.R
open Go.Lb
theorem rune_N (s : Str) (p : Nat) : Utf8.decode ⟨s.toArray⟩ p = Go.Lib.decodeN (s.length - p) (s.getD p 0).toNat (s.getD (p + 1) 0).toNat (s.getD (p + 2) 0).toNat (s.getD (p + 3) 0).toNat := by
  have := Go.Lib.decode_N ⟨s.toArray⟩ p
  simpa using this
theorem rune_ascii {s : Str} {p : Nat} (h : p < s.length) (ha : s[p].toNat < 128) : runeAt s p = bI s[p] ∧ runeW s p = 1 := by
  have e : s.getD p 0 = s[p] := by simp [List.getD, h]
  unfold runeAt runeW
  rw [rune_N, e, Go.Lib.decodeN_ascii _ _ _ _ _ ha]
  exact ⟨rfl, rfl⟩
theorem rune_high {s : Str} {p : Nat} (h : p < s.length) (ha : ¬ s[p].toNat < 128) : 128 ≤ runeAt s p := by
  have e : s.getD p 0 = s[p] := by simp [List.getD, h]
  unfold runeAt
  rw [rune_N, e]
  rcases Go.Lib.decodeN_shape (s.length - p) s[p].toNat (s.getD (p + 1) 0).toNat (s.getD (p + 2) 0).toNat (s.getD (p + 3) 0).toNat with ⟨c, e⟩ | ⟨c1, c2, c3, cv, e⟩ | ⟨c1, c2, c3, c4, cv, cs, e⟩ | ⟨c1, c2, c3, c4, c5, cv, cw, e⟩ | e
  · exact absurd c ha
  all_goals (rw [e]; dsimp only; omega)
theorem rune_W {s : Str} {p : Nat} (h : p < s.length) : 1 ≤ runeW s p ∧ p + runeW s p ≤ s.length := by
  unfold runeW
  rw [rune_N]
  rcases Go.Lib.decodeN_shape (s.length - p) (s.getD p 0).toNat (s.getD (p + 1) 0).toNat (s.getD (p + 2) 0).toNat (s.getD (p + 3) 0).toNat with ⟨c, e⟩ | ⟨c1, c2, c3, cv, e⟩ | ⟨c1, c2, c3, c4, cv, cs, e⟩ | ⟨c1, c2, c3, c4, c5, cv, cw, e⟩ | e
  all_goals (rw [e]; dsimp only; omega)
theorem rloop {R : Type} {s : Str} {T : Int → Bool} {L : Nat → Option R} {good : R} {bad : Nat → R}
    (hs : ∀ p, p < s.length → L p = bif T (runeAt s p) then L (p + runeW s p) else some (bad p)) (he : L s.length = some good) :
    ∀ (d p : Nat), s.length ≤ p + d → p ≤ s.length → (∃ q, p ≤ q ∧ q < s.length ∧ L p = some (bad q) ∧ (T (runeAt s p) = true → p < q)) ∨ L p = some good
  | 0, p, h, hp => by
    obtain rfl : p = s.length := by omega
    exact .inr he
  | d + 1, p, h, hp => by
    by_cases hl : p < s.length
    · obtain ⟨w1, w2⟩ := rune_W hl
      rw [hs p hl]
      cases hT : T (runeAt s p) with
      | false => exact .inl ⟨p, Nat.le_refl _, hl, rfl, fun e => by cases e⟩
      | true =>
        rcases rloop hs he d (p + runeW s p) (by omega) w2 with ⟨q, h1, h2, h3, h4⟩ | h1
        · exact .inl ⟨q, by omega, h2, h3, fun _ => by omega⟩
        · exact .inr h1
    · obtain rfl : p = s.length := by omega
      exact .inr he
def wl (T : Int → Bool) : Str → Nat
  | [] => 0
  | c :: r => bif T (bI c) then wl T r + 1 else 0
theorem wl_le (T : Int → Bool) : ∀ s : Str, wl T s ≤ s.length
  | [] => Nat.le_refl _
  | c :: r => by
    simp only [wl]
    cases T (bI c) with
    | false => simp
    | true => simpa using wl_le T r
theorem aloop {R : Type} {s : Str} {T : Int → Bool} {L : Nat → Option R} {good : R} {bad : Nat → R} (hT : ∀ c, 128 ≤ c → T c = false)
    (hs : ∀ p, p < s.length → L p = bif T (runeAt s p) then L (p + runeW s p) else some (bad p)) (he : L s.length = some good) :
    ∀ (d p : Nat), p + d = s.length → L p = some (if p + wl T (s.drop p) < s.length then bad (p + wl T (s.drop p)) else good)
  | 0, p, h => by
    obtain rfl : p = s.length := by omega
    rw [he]
    simp [wl]
  | d + 1, p, h => by
    have hl : p < s.length := by omega
    rw [hs p hl, drop_at hl]
    by_cases ha : s[p].toNat < 128
    · obtain ⟨e1, e2⟩ := rune_ascii hl ha
      rw [e1, e2]
      by_cases hc : T (bI s[p]) = true
      · have e : p + wl T (s[p] :: s.drop (p + 1)) = p + 1 + wl T (s.drop (p + 1)) := by simp only [wl, hc, cond_true]; omega
        rw [hc, cond_true, e]
        exact aloop hT hs he d (p + 1) (by omega)
      · have hc' : T (bI s[p]) = false := by simpa using hc
        simp [wl, hc', hl]
    · rw [hT _ (rune_high hl ha)]
      simp only [wl]
      have : T (bI s[p]) = false := hT _ (by unfold bI; omega)
      simp [this, hl]
def wordB (c : Int) : Bool := letterB c || digitB c
theorem letter_high (c : Int) (h : 128 ≤ c) : letterB c = false := by
  simp only [letterB, Bool.or_eq_false_iff, Bool.and_eq_false_iff, decide_eq_false_iff_not]
  omega
theorem digit_high (c : Int) (h : 128 ≤ c) : digitB c = false := by
  simp only [digitB, Bool.and_eq_false_iff, decide_eq_false_iff_not]
  omega
theorem word_high (c : Int) (h : 128 ≤ c) : wordB c = false := by rw [wordB, letter_high c h, digit_high c h]; rfl
theorem ltN_true {a b : Nat} (h : a < b) : ltN a b = true := by simp [ltN, h]
theorem ltN_false {a b : Nat} (h : ¬ a < b) : ltN a b = false := by simp [ltN, h]
theorem k152_loop (s : Str) : k152_0 (s, 0) = some (if wl wordB s < s.length then Sum.inr (((wl wordB s : Int), ()), (s, wl wordB s + runeW s (wl wordB s)), ()) else Sum.inl ((), (s, s.length), ())) := by
  have := aloop (s := s) (T := wordB) (L := fun p => k152_0 (s, p)) (good := Sum.inl ((), (s, s.length), ())) (bad := fun p => Sum.inr (((p : Int), ()), (s, p + runeW s p), ())) word_high
    (fun p hp => by
      rw [k152_0]
      simp only [ltN_true hp, k151_eq, k153_eq, Option.bind_eq_bind, Option.bind_some, wordB]
      cases letterB (runeAt s p) <;> cases digitB (runeAt s p) <;> rfl)
    (by rw [k152_0]; simp only [ltN_false (Nat.lt_irrefl _)]) s.length 0 (by omega)
  simpa using this
theorem k129_loop (s : Str) : k129_0 (s, 0) = some (if wl digitB s < s.length then Sum.inr (((wl digitB s : Int), ()), (s, wl digitB s + runeW s (wl digitB s)), ()) else Sum.inl ((), (s, s.length), ())) := by
  have := aloop (s := s) (T := digitB) (L := fun p => k129_0 (s, p)) (good := Sum.inl ((), (s, s.length), ())) (bad := fun p => Sum.inr (((p : Int), ()), (s, p + runeW s p), ())) digit_high
    (fun p hp => by
      rw [k129_0]
      simp only [ltN_true hp, k153_eq, Option.bind_eq_bind, Option.bind_some]
      cases digitB (runeAt s p) <;> rfl)
    (by rw [k129_0]; simp only [ltN_false (Nat.lt_irrefl _)]) s.length 0 (by omega)
  simpa using this
theorem wrap32_byte (b : UInt8) : IntKind.wrap .i32 (bI b) = bI b := by
  have h := b.toNat_lt
  unfold IntKind.wrap bI
  simp only [IntKind.bits, IntKind.signed]
  have h1 : (b.toNat : Int) % (2 ^ 32 : Int) = b.toNat := Int.emod_eq_of_lt (by omega) (by omega)
  simp only [h1]
  have h2 : ¬ ((b.toNat : Int) ≥ 2 ^ (32 - 1)) := by
    have : (2 : Int) ^ (32 - 1) = 2147483648 := by decide
    omega
  simp only [h2, decide_false, Bool.and_false, Bool.false_eq_true, if_false]
def wordN : Str → Nat
  | [] => 0
  | c :: r => bif digitB (bI c) || decide (30 < wl wordB (c :: r)) then 0 else wl wordB (c :: r)
theorem wordN_le (s : Str) : wordN s ≤ s.length := by
  cases s with
  | nil => exact Nat.le_refl _
  | cons c r =>
    simp only [wordN]
    cases digitB (bI c) || decide (30 < wl wordB (c :: r)) with
    | true => simp
    | false => exact wl_le _ _
theorem k152_eq (s : Str) : k152 s = some (((wordN s : Int), ()), ()) := by
  rw [k152, k152_loop]
  cases s with
  | nil => rfl
  | cons c r =>
    have hi : idxB (c :: r) 0 = some (bI c) := by simp [idxB, bI]
    have hle := wl_le wordB (c :: r)
    simp only [wordN]
    generalize hn : wl wordB (c :: r) = n at *
    by_cases h1 : n < (c :: r).length
    · simp only [h1, if_true, Option.bind_eq_bind, Option.bind_some, hi, wrap32_byte, k153_eq]
      by_cases h0 : n = 0
      · subst h0
        cases digitB (bI c) <;> simp [eqI]
      · have : eqI (n : Int) 0 = false := by simp only [eqI, decide_eq_false_iff_not]; omega
        rw [this]
        cases hd : digitB (bI c) with
        | true => rfl
        | false =>
          by_cases h3 : 30 < n
          · have : ltI 30 (n : Int) = true := by simp only [ltI, decide_eq_true_eq]; omega
            simp [this, h3]
          · have : ltI 30 (n : Int) = false := by simp only [ltI, decide_eq_false_iff_not]; omega
            simp [this, h3]
    · have e : n = (c :: r).length := by omega
      simp only [h1, if_false, Option.bind_eq_bind, Option.bind_some, hi, wrap32_byte, k153_eq]
      rw [← e]
      have h0 : n ≠ 0 := by simp at e; omega
      have : eqI (n : Int) 0 = false := by simp only [eqI, decide_eq_false_iff_not]; omega
      rw [this]
      cases hd : digitB (bI c) with
      | true => rfl
      | false =>
        by_cases h3 : 30 < n
        · have : ltI 30 (n : Int) = true := by simp only [ltI, decide_eq_true_eq]; omega
          simp [this, h3]
        · have : ltI 30 (n : Int) = false := by simp only [ltI, decide_eq_false_iff_not]; omega
          simp [this, h3]
end Go.Lb.R
end
section
namespace Go.Lb.R
open Go.Lb
theorem subL_nat {α : Type} {l : List α} {a b : Nat} (h1 : a ≤ b) (h2 : b ≤ l.length) : subL l (a : Int) (b : Int) = some ((l.drop a).take (b - a)) := by
  unfold subL
  have : (0 : Int) ≤ a ∧ (a : Int) ≤ b ∧ (b : Int) ≤ l.length := ⟨by omega, by omega, by omega⟩
  rw [if_pos this]
  simp
theorem subL_end {α : Type} {l : List α} {a : Nat} (h : a ≤ l.length) : subL l (a : Int) (l.length : Int) = some (l.drop a) := by
  rw [subL_nat h (Nat.le_refl _)]
  rw [List.take_of_length_le (by simp)]
theorem w64_add {a b n : Nat} (hn : n ≤ MX) (h : a + b ≤ n) : w64 ((a : Int) + (b : Int)) = ((a + b : Nat) : Int) := by
  have := w64_nat (n := a + b) (by simp only [MX] at hn; omega)
  simpa using this
def preB (a b : Str) : Bool := decide (b.length ≤ a.length) && eqS (a.take b.length) b
theorem k149_eq (a b : Str) : k149 a b = some ((preB a b, ()), ()) := by
  rw [k149, k160]
  unfold preB
  by_cases h : b.length ≤ a.length
  · have e : leI (b.length : Int) (a.length : Int) = true := by simp only [leI, decide_eq_true_eq]; omega
    have := subL_nat (l := a) (a := 0) (b := b.length) (Nat.zero_le _) h
    simp only [Nat.sub_zero, List.drop_zero] at this
    rw [show ((0 : Nat) : Int) = 0 from rfl] at this
    simp [e, this, h]
  · have e : leI (b.length : Int) (a.length : Int) = false := by simp only [leI, decide_eq_false_iff_not]; omega
    simp [e, h]
def blankB (c : Int) : Bool := eqI c 32 || (eqI c 9 || eqI c 10)
def lineB (c : Int) : Bool := !eqI c 10
theorem k128_loop (s : Str) : (∃ q, q < s.length ∧ k128_0 (s, 0) = some (Sum.inr (((q : Int), ()), (s, q + runeW s q), ())) ∧ (blankB (runeAt s 0) = true → 0 < q)) ∨ k128_0 (s, 0) = some (Sum.inl ((), (s, s.length), ())) := by
  have := rloop (s := s) (T := blankB) (L := fun p => k128_0 (s, p)) (good := Sum.inl ((), (s, s.length), ())) (bad := fun p => Sum.inr (((p : Int), ()), (s, p + runeW s p), ()))
    (fun p hp => by
      rw [k128_0]
      simp only [ltN_true hp, blankB]
      cases eqI (runeAt s p) 32 <;> cases eqI (runeAt s p) 9 <;> cases eqI (runeAt s p) 10 <;> rfl)
    (by rw [k128_0]; simp only [ltN_false (Nat.lt_irrefl _)]) s.length 0 (by omega) (by omega)
  rcases this with ⟨q, _, h1, h2, h3⟩ | h
  · exact .inl ⟨q, h1, h2, h3⟩
  · exact .inr h
theorem k128_first (s : Str) (h : 0 < s.length) (hb : blankB (runeAt s 0) = false) : k128_0 (s, 0) = some (Sum.inr (((0 : Int), ()), (s, 0 + runeW s 0), ())) := by
  rw [k128_0]
  simp only [ltN_true h]
  simp only [blankB, Bool.or_eq_false_iff] at hb
  rw [hb.1, hb.2.1, hb.2.2]
  rfl
theorem k128_line (s : Str) : (∃ q, q < s.length ∧ k128_1 (s, 0) = some (Sum.inr (((q : Int), ()), (s, q + runeW s q), ()))) ∨ k128_1 (s, 0) = some (Sum.inl ((), (s, s.length), ())) := by
  have := rloop (s := s) (T := lineB) (L := fun p => k128_1 (s, p)) (good := Sum.inl ((), (s, s.length), ())) (bad := fun p => Sum.inr (((p : Int), ()), (s, p + runeW s p), ()))
    (fun p hp => by
      rw [k128_1]
      simp only [ltN_true hp, lineB]
      cases eqI (runeAt s p) 10 <;> rfl)
    (by rw [k128_1]; simp only [ltN_false (Nat.lt_irrefl _)]) s.length 0 (by omega) (by omega)
  rcases this with ⟨q, _, h1, h2, h3⟩ | h
  · exact .inl ⟨q, h1, h2⟩
  · exact .inr h
theorem k128_some (s : Str) (hl : s.length ≤ MX) : ∃ n : Nat, n ≤ s.length ∧ k128 s = some (((n : Int), ()), ()) := by
  rw [k128]
  rcases k128_loop s with ⟨q, hq, e, _⟩ | e
  · simp only [e, Option.bind_eq_bind, Option.bind_some]
    rw [subL_end (by omega)]
    simp only [Option.bind_some, k149_eq]
    cases preB (s.drop q) _ with
    | false => exact ⟨q, by omega, rfl⟩
    | true =>
      rcases k128_line (s.drop q) with ⟨q2, h2, e2⟩ | e2
      · have : q2 < s.length - q := by simpa using h2
        simp only [e2, Option.bind_some]
        refine ⟨q + q2, by omega, ?_⟩
        rw [w64_add hl (by omega)]
      · simp only [e2, Option.bind_some]
        refine ⟨q + (s.drop q).length, by simp; omega, ?_⟩
        rw [w64_add hl (by simp; omega)]
  · simp only [e, Option.bind_eq_bind, Option.bind_some]
    rw [subL_end (Nat.le_refl _)]
    simp only [Option.bind_some, k149_eq, List.drop_length]
    exact ⟨s.length, Nat.le_refl _, rfl⟩
theorem letter_lt {c : Int} (h : letterB c = true) : 65 ≤ c ∧ c < 128 := by
  simp only [letterB, Bool.or_eq_true, Bool.and_eq_true, decide_eq_true_eq] at h
  omega
theorem k128_letter (c : UInt8) (r : Str) (hc : letterB (bI c) = true) : k128 (c :: r) = some ((0, ()), ()) := by
  obtain ⟨h1, h2⟩ := letter_lt hc
  have hp : 0 < (c :: r).length := by simp
  have ha := (rune_ascii (s := c :: r) (p := 0) hp (by unfold bI at h2; simpa using (by omega : c.toNat < 128))).1
  have hb : blankB (runeAt (c :: r) 0) = false := by
    rw [ha]
    simp only [blankB, eqI, List.getElem_cons_zero, Bool.or_eq_false_iff, decide_eq_false_iff_not]
    omega
  rw [k128, k128_first _ hp hb]
  simp only [Option.bind_eq_bind, Option.bind_some]
  rw [show (0 : Int) = ((0 : Nat) : Int) from rfl, subL_end (Nat.zero_le _)]
  simp only [Option.bind_some, k149_eq, List.drop_zero]
  have : preB (c :: r) (Array.toList (ByteArray.data { data := #[47, 47] })) = false := by
    cases hp : preB (c :: r) (Array.toList (ByteArray.data { data := #[47, 47] })) with
    | false => rfl
    | true =>
      exfalso
      simp only [preB, Bool.and_eq_true, eqS] at hp
      have h := hp.2
      simp at h
      rw [h.1] at h1
      exact absurd h1 (by decide)
  rw [this]
end Go.Lb.R
end
section
namespace Go.Lb.R
open Go.Lb
abbrev marksS : Str := Array.toList (ByteArray.data { data := #[40, 41, 123, 125, 91, 93, 44, 59, 58, 46, 38, 42, 61, 43, 45, 47, 60] })
theorem kh_indexByte_eq (a : Str) (b : Int) : kh_indexByte a b = some ((Go.Lib.indexByte a b.toNat.toUInt8, ()), ()) := rfl
theorem kh_validRune_eq (a : Int) : kh_validRune a = some ((Go.Lib.validRune a, ()), ()) := rfl
theorem runeStr_two : ∀ n : Fin 128, ∃ b1 b2 : UInt8, runeStr ((128 + n.val : Nat) : Int) = [b1, b2] ∧ 128 ≤ b2.toNat := by
  have : ∀ n : Fin 128, (runeStr ((128 + n.val : Nat) : Int)).length = 2 ∧ 128 ≤ ((runeStr ((128 + n.val : Nat) : Int)).getD 1 0).toNat := by decide
  intro n
  obtain ⟨h1, h2⟩ := this n
  generalize runeStr ((128 + n.val : Nat) : Int) = l at h1 h2
  match l, h1 with
  | [a, b], _ => exact ⟨a, b, rfl, by simpa using h2⟩
theorem marks_none : ∀ b2 : UInt8, 128 ≤ b2.toNat → Go.Lib.indexByte [123, 125, 91, 93, 44, 59, 58, 46, 38, 42, 61, 43, 45, 47, 60] b2 = -1 := by
  intro b2 h
  have hne : ∀ k : UInt8, k.toNat < 128 → (k == b2) = false := by
    intro k hk
    simp only [beq_eq_false_iff_ne, ne_eq]
    rintro rfl
    omega
  simp [Go.Lib.indexByte, hne]
theorem k162_marks (b : UInt8) : ∃ n : Int, k162 marksS (bI b) = some ((n, ()), ()) := by
  rw [k162]
  by_cases h : b.toNat < 128
  · have e1 : leI 0 (bI b) = true := decide_eq_true (by unfold bI; omega)
    have e2 : ltI (bI b) 128 = true := decide_eq_true (by unfold bI; omega)
    simp only [e1, e2, Option.bind_eq_bind, Option.bind_some, kh_indexByte_eq]
    exact ⟨_, rfl⟩
  · have hb := b.toNat_lt
    have e1 : leI 0 (bI b) = true := decide_eq_true (by unfold bI; omega)
    have e2 : ltI (bI b) 128 = false := decide_eq_false (by unfold bI; omega)
    have e3 : eqI (bI b) 65533 = false := decide_eq_false (by unfold bI; omega)
    have e4 : Go.Lib.validRune (bI b) = true := decide_eq_true (by unfold bI; omega)
    obtain ⟨b1, b2, hr, h2⟩ := runeStr_two ⟨b.toNat - 128, by omega⟩
    have hbb : ((128 + (b.toNat - 128) : Nat) : Int) = bI b := by unfold bI; omega
    simp only [hbb] at hr
    simp only [e1, e2, e3, e4, Option.bind_eq_bind, Option.bind_some, kh_validRune_eq, Bool.not_true, hr]
    have i1 : w64 ((([b1, b2] : Str).length : Int) - 1) = 1 := by show w64 1 = 1; decide
    rw [i1, k162_2]
    have j0 : ltI 1 (marksS.length : Int) = true := by decide
    have j1 : idxB marksS 1 = some 41 := by decide
    have j2 : idxB [b1, b2] 1 = some (bI b2) := by simp [idxB, bI]
    have j3 : eqI 41 (bI b2) = false := decide_eq_false (by unfold bI; omega)
    have j4 : w64 (1 + 1) = 2 := by decide
    have j5 : subL marksS 2 (marksS.length : Int) = some [123, 125, 91, 93, 44, 59, 58, 46, 38, 42, 61, 43, 45, 47, 60] := by decide
    have j6 : (bI b2).toNat.toUInt8 = b2 := by simp [bI]
    simp only [j0, j1, j2, j3, j4, j5, Option.bind_eq_bind, Option.bind_some, Bool.not_false, kh_indexByte_eq, j6, marks_none b2 h2]
    exact ⟨_, rfl⟩
theorem k129_eq (c : UInt8) (r : Str) (hl : (c :: r).length ≤ MX) : ∃ k n : Nat, n ≤ (c :: r).length ∧ k129 (c :: r) = some ((((k : Int), (n : Int), ()), ()), ()) ∧ (letterB (bI c) = true → k = 1 ∧ n = wordN (c :: r)) ∧ (letterB (bI c) = false → k ≠ 1) := by
  have hi : idxB (c :: r) 0 = some (bI c) := by simp [idxB, bI]
  rw [k129]
  simp only [hi, Option.bind_eq_bind, Option.bind_some, wrap32_byte, k151_eq, k153_eq]
  cases hL : letterB (bI c) with
  | true =>
    simp only [k152_eq, Option.bind_some]
    exact ⟨1, wordN (c :: r), wordN_le _, rfl, fun _ => ⟨rfl, rfl⟩, nofun⟩
  | false =>
    cases hD : digitB (bI c) with
    | true =>
      simp only [k129_loop, Option.bind_some]
      have hle := wl_le digitB (c :: r)
      generalize wl digitB (c :: r) = n at *
      by_cases hn : n < (c :: r).length
      · simp only [hn, if_true]
        cases ltI 18 (n : Int) with
        | true => exact ⟨2, 0, Nat.zero_le _, rfl, nofun, fun _ => by decide⟩
        | false => exact ⟨2, n, hle, rfl, nofun, fun _ => by decide⟩
      · simp only [hn, if_false]
        cases ltI 18 ((c :: r).length : Int) with
        | true => exact ⟨2, 0, Nat.zero_le _, rfl, nofun, fun _ => by decide⟩
        | false => exact ⟨2, (c :: r).length, Nat.le_refl _, rfl, nofun, fun _ => by decide⟩
    | false =>
      simp only
      cases hq : eqI (bI c) 39 with
      | true =>
        simp only
        have hs : subL (c :: r) 1 ((c :: r).length : Int) = some r := by
          have := subL_end (l := c :: r) (a := 1) (by simp)
          simpa using this
        have hw := wordN_le r
        have hl' : r.length + 1 ≤ MX := by simpa using hl
        simp only [hs, Option.bind_some, k152_eq]
        cases h0 : ltI 0 ((wordN r : Nat) : Int) with
        | true =>
          refine ⟨3, wordN r + 1, by simp; omega, ?_, nofun, fun _ => by decide⟩
          have := w64_add (a := wordN r) (b := 1) (n := r.length + 1) hl' (by omega)
          rw [show ((1 : Nat) : Int) = 1 from rfl] at this
          simp only [this]
          rfl
        | false => exact ⟨3, wordN r, by simp; omega, rfl, nofun, fun _ => by decide⟩
      | false =>
        simp only [k149_eq, Option.bind_some]
        cases h1 : preB (c :: r) (Array.toList (ByteArray.data { data := #[45, 62] })) with
        | true =>
          refine ⟨4, 2, ?_, rfl, nofun, fun _ => by decide⟩
          simp only [preB, Bool.and_eq_true, decide_eq_true_eq] at h1
          exact h1.1
        | false =>
          simp only
          cases h2 : preB (c :: r) (Array.toList (ByteArray.data { data := #[61, 61] })) with
          | true =>
            refine ⟨4, 2, ?_, rfl, nofun, fun _ => by decide⟩
            simp only [preB, Bool.and_eq_true, decide_eq_true_eq] at h2
            exact h2.1
          | false =>
            obtain ⟨m, hm⟩ := k162_marks c
            simp only [k154, hm, Option.bind_eq_bind, Option.bind_some]
            cases leI 0 m with
            | true => exact ⟨4, 1, by simp, rfl, nofun, fun _ => by decide⟩
            | false => exact ⟨0, 0, Nat.zero_le _, rfl, nofun, fun _ => by decide⟩
end Go.Lb.R
end
section
namespace Go.Lb.R
open Go.Lb
def isWordB : Str → Bool
  | [] => false
  | c :: r => letterB (bI c) && (decide (wl wordB (c :: r) = (c :: r).length) && decide ((c :: r).length ≤ 30))
theorem wl_take (T : Int → Bool) : ∀ s : Str, wl T (s.take (wl T s)) = wl T s
  | [] => rfl
  | c :: r => by
    by_cases h : T (bI c) = true
    · have e : wl T (c :: r) = wl T r + 1 := by simp [wl, h]
      rw [e, List.take_succ_cons]
      simp only [wl, h, cond_true]
      rw [wl_take T r]
    · have h' : T (bI c) = false := by simpa using h
      simp [wl, h']
theorem letter_digit {c : Int} (h : letterB c = true) : digitB c = false := by
  have := letter_lt h
  simp only [digitB, Bool.and_eq_false_iff, decide_eq_false_iff_not]
  omega
theorem letter_word {c : Int} (h : letterB c = true) : wordB c = true := by rw [wordB, h]; rfl
theorem word_of_token {c : UInt8} {r : Str} (hc : letterB (bI c) = true) (h0 : wordN (c :: r) ≠ 0) : isWordB ((c :: r).take (wordN (c :: r))) = true := by
  have e : wordN (c :: r) = bif decide (30 < wl wordB (c :: r)) then 0 else wl wordB (c :: r) := by simp only [wordN, letter_digit hc, Bool.false_or]
  by_cases h3 : 30 < wl wordB (c :: r)
  · rw [e] at h0
    simp [h3] at h0
  · have e' : wordN (c :: r) = wl wordB (c :: r) := by rw [e]; simp [h3]
    rw [e']
    have e1 : wl wordB (c :: r) = wl wordB r + 1 := by simp [wl, letter_word hc]
    have ht := wl_take wordB (c :: r)
    have hle := wl_le wordB (c :: r)
    have hlen : ((c :: r).take (wl wordB (c :: r))).length = wl wordB (c :: r) := by rw [List.length_take]; omega
    generalize hn : wl wordB (c :: r) = n at *
    rw [e1] at ht hlen ⊢
    rw [List.take_succ_cons] at ht hlen ⊢
    simp only [isWordB, hc, ht, hlen, Bool.true_and, decide_true]
    simp
    omega
theorem wordN_word {c : UInt8} {r : Str} (h : isWordB (c :: r) = true) : letterB (bI c) = true ∧ wordN (c :: r) = (c :: r).length := by
  simp only [isWordB, Bool.and_eq_true, decide_eq_true_eq] at h
  obtain ⟨h1, h2, h3⟩ := h
  refine ⟨h1, ?_⟩
  simp only [wordN, letter_digit h1, Bool.false_or, h2]
  have : ¬ 30 < (c :: r).length := by omega
  rw [decide_eq_false this]
  rfl
def TokOK (l : List KTok) : Prop := ∀ t ∈ l, t.kind = 1 → isWordB t.text = true
theorem k104_loop (s : Str) (hs : s.length ≤ 20000) : ∀ (d at' : Nat) (l : List KTok), s.length ≤ at' + d → at' ≤ s.length → l.length ≤ at' → TokOK l →
    (∃ l', k104_0 s l (at' : Int) = some (Sum.inl ((l', ()), ())) ∧ TokOK l') ∨ ∃ p, k104_0 s l (at' : Int) = some (Sum.inr (((), GErr.fault p (GErr.code 1), ()), ()))
  | d, at', l, h, ha, hl, hk => by
    have hm : s.length ≤ MX := by simp only [MX]; omega
    rw [k104_0]
    by_cases hi : at' < s.length
    · rw [ltI_true hi, subL_end (by omega)]
      simp only [Option.bind_eq_bind, Option.bind_some]
      obtain ⟨n, hn, e⟩ := k128_some (s.drop at') (by simp; omega)
      have hn' : n ≤ s.length - at' := by simpa using hn
      simp only [e, Option.bind_some, nf_eq]
      by_cases h0 : 0 < n
      · have : ltI 0 (n : Int) = true := decide_eq_true (by omega)
        simp only [this]
        rw [w64_add hm (by omega)]
        match d with
        | 0 => omega
        | d + 1 => exact k104_loop s hs d (at' + n) l (by omega) (by omega) (by omega) hk
      · have : ltI 0 (n : Int) = false := decide_eq_false (by omega)
        simp only [this]
        have hdr := drop_at hi
        rw [hdr]
        obtain ⟨k, m, hm1, e1, e2, e3⟩ := k129_eq s[at'] (s.drop (at' + 1)) (by rw [← hdr]; simp; omega)
        have hm2 : m ≤ s.length - at' := by rw [← hdr] at hm1; simpa using hm1
        simp only [e1, Option.bind_some]
        by_cases hm0 : m = 0
        · subst hm0
          exact .inr ⟨_, rfl⟩
        · have : eqI (m : Int) 0 = false := decide_eq_false (by omega)
          simp only [this]
          rw [w64_add hm (by omega), subL_nat (by omega) (by omega)]
          simp only [Option.bind_some, Nat.add_sub_cancel_left]
          rw [hdr]
          have happ : ∀ t : KTok, app 32 l [t] = some (l ++ [t]) := fun t => by unfold app; rw [if_pos (by simp; omega)]
          rw [happ]
          simp only [Option.bind_some]
          match d with
          | 0 => omega
          | d + 1 =>
            refine k104_loop s hs d (at' + m) _ (by omega) (by omega) (by simp; omega) ?_
            intro t ht
            rcases List.mem_append.1 ht with ht | ht
            · exact hk t ht
            · simp only [List.mem_singleton] at ht
              subst ht
              simp only
              intro hk1
              cases hL : letterB (bI s[at']) with
              | false =>
                have := e3 hL
                omega
              | true =>
                obtain ⟨_, rfl⟩ := e2 hL
                exact word_of_token hL hm0
    · rw [ltI_false hi]
      exact .inl ⟨l, rfl, hk⟩
theorem k104_some (s : Str) (hm : s.length ≤ MX) : (∃ l, k104 s = some (((l, GErr.nil, ()), ()), ()) ∧ TokOK l) ∨ ∃ l e, k104 s = some (((l, e, ()), ()), ()) ∧ GErr.isNil e = false := by
  rw [k104]
  by_cases h : s.length ≤ 20000
  · have : ltI 20000 (s.length : Int) = false := decide_eq_false (by omega)
    simp only [this]
    rcases k104_loop s h s.length 0 [] (by omega) (Nat.zero_le _) (by simp) (fun t ht => by simp at ht) with ⟨l, e, hl⟩ | ⟨p, e⟩
    · rw [show ((0 : Nat) : Int) = 0 from rfl] at e
      simp only [e, Option.bind_eq_bind, Option.bind_some]
      exact .inl ⟨l, rfl, hl⟩
    · rw [show ((0 : Nat) : Int) = 0 from rfl] at e
      simp only [e, Option.bind_eq_bind, Option.bind_some]
      exact .inr ⟨_, _, rfl, rfl⟩
  · have : ltI 20000 (s.length : Int) = true := decide_eq_true (by omega)
    simp only [this]
    exact .inr ⟨_, _, rfl, rfl⟩
theorem k104_word (s : Str) (h : isWordB s = true) : k104 s = some ((([{ kind := 1, pos := 0, text := s }], GErr.nil, ()), ()), ()) := by
  cases s with
  | nil => cases h
  | cons c r =>
    obtain ⟨hc, hw⟩ := wordN_word h
    have h30 : (c :: r).length ≤ 30 := by
      simp only [isWordB, Bool.and_eq_true, decide_eq_true_eq] at h
      exact h.2.2
    have hm : (c :: r).length ≤ MX := by simp only [MX]; omega
    have i0 : ltI 20000 ((c :: r).length : Int) = false := decide_eq_false (by omega)
    have i1 : ltI 0 ((c :: r).length : Int) = true := decide_eq_true (by simp only [List.length_cons]; omega)
    have i2 : subL (c :: r) 0 ((c :: r).length : Int) = some (c :: r) := by
      have := subL_end (l := c :: r) (a := 0) (Nat.zero_le _)
      simpa using this
    obtain ⟨k, m, hm1, e1, e2, e3⟩ := k129_eq c r hm
    obtain ⟨rfl, rfl⟩ := e2 hc
    have i3 : eqI ((c :: r).length : Int) 0 = false := decide_eq_false (by simp only [List.length_cons]; omega)
    have i4 : w64 (0 + ((c :: r).length : Int)) = ((c :: r).length : Int) := by
      have := w64_add (a := 0) (b := (c :: r).length) hm (by omega)
      simpa using this
    have i5 : ltI 0 0 = false := rfl
    have i6 : ∀ t : KTok, app 32 [] [t] = some [t] := fun t => rfl
    rw [k104, i0]
    simp only
    rw [k104_0]
    simp only [i1, i2, i3, i4, i5, i6, k128_letter c r hc, e1, hw, Option.bind_eq_bind, Option.bind_some]
    rw [k104_0]
    simp only [nf_eq]
    rw [ltI_false (Nat.lt_irrefl _)]
    rfl
theorem all_not {α : Type} (p : α → Bool) : ∀ l : List α, (l.all fun y => !p y) = !(l.any p)
  | [] => rfl
  | a :: l => by simp only [List.all_cons, List.any_cons, all_not p l]; cases p a <;> rfl
theorem k78_loop (l : List Str) (hl : l.length ≤ MX) (s : Str) : (k78_0 l s (l.length : Int) 0 = some (Sum.inl ((), ())) ∧ (l.any fun y => eqS s y) = false) ∨ ((∃ j : Nat, k78_0 l s (l.length : Int) 0 = some (Sum.inr (((j : Int), ()), ()))) ∧ (l.any fun y => eqS s y) = true) := by
  have := loop_all0 (l := l) (p := fun y => !eqS s y) (L := fun i => k78_0 l s (l.length : Int) (i : Int)) (good := Sum.inl ((), ())) (bad := fun j => Sum.inr (((j : Int), ()), ()))
    (fun i hi => by
      rw [k78_0, ltI_true hi]
      simp only [idx_nat hi, Option.bind_eq_bind, Option.bind_some, nf_eq, w64_succ hl hi]
      cases eqS s l[i] <;> rfl)
    (by rw [k78_0, ltI_false (Nat.lt_irrefl _)])
  have e : (l.all fun y => !eqS s y) = !(l.any fun y => eqS s y) := all_not _ l
  rw [e] at this
  rcases this with ⟨h1, h2⟩ | ⟨⟨j, h1⟩, h2⟩
  · exact .inl ⟨h1, by simpa using h2⟩
  · exact .inr ⟨⟨j, h1⟩, by simpa using h2⟩
theorem k40_eq (l : List Str) (hl : l.length ≤ MX) (s : Str) : k40 l s = some ((l.any fun y => eqS s y, ()), ()) := by
  rw [k40, k78]
  rcases k78_loop l hl s with ⟨h1, h2⟩ | ⟨⟨j, h1⟩, h2⟩
  · simp only [h1, h2, Option.bind_eq_bind, Option.bind_some]
    rfl
  · simp only [h1, h2, Option.bind_eq_bind, Option.bind_some]
    have : leI 0 (j : Int) = true := decide_eq_true (by omega)
    rw [this]
abbrev kwsS : List Str := [Array.toList (ByteArray.data { data := #[102, 110] }), Array.toList (ByteArray.data { data := #[108, 101, 116] }), Array.toList (ByteArray.data { data := #[105, 102] }), Array.toList (ByteArray.data { data := #[101, 108, 115, 101] }), Array.toList (ByteArray.data { data := #[114, 101, 112, 101, 97, 116] }), Array.toList (ByteArray.data { data := #[114, 101, 116] }), Array.toList (ByteArray.data { data := #[98, 111, 120] }), Array.toList (ByteArray.data { data := #[105, 110, 116] }), Array.toList (ByteArray.data { data := #[109, 117, 116] }), Array.toList (ByteArray.data { data := #[119, 104, 101, 114, 101] })]
def nameB (s : Str) : Bool := isWordB s && !(kwsS.any fun y => eqS s y)
theorem k105_eq : k105 = some ((kwsS, ()), ()) := by
  rw [k105]
  rfl
theorem k70_eq (s : Str) (hm : s.length ≤ MX) : k70 s = some ((nameB s, ()), ()) := by
  rw [k70]
  cases hw : isWordB s with
  | true =>
    simp only [k104_word s hw, Option.bind_eq_bind, Option.bind_some]
    have i1 : eqI (([{ kind := 1, pos := 0, text := s }] : List KTok).length : Int) 1 = true := rfl
    have i2 : idx ([{ kind := 1, pos := 0, text := s }] : List KTok) 0 = some { kind := 1, pos := 0, text := s } := rfl
    have i3 : eqTok { kind := 1, pos := 0, text := s } { kind := 1, pos := 0, text := s } = true := by simp [eqTok]
    simp only [GErr.isNil, i1, i2, i3, k105_eq, Option.bind_some]
    rw [k40_eq _ (by decide)]
    simp only [Option.bind_some, nameB, hw, Bool.true_and]
  | false =>
    have hn : nameB s = false := by rw [nameB, hw]; rfl
    rw [hn]
    rcases k104_some s hm with ⟨l, e, hl⟩ | ⟨l, e, h1, h2⟩
    · simp only [e, Option.bind_eq_bind, Option.bind_some, GErr.isNil]
      match l, hl with
      | [], _ => rfl
      | [t], hl =>
        have i1 : eqI (([t] : List KTok).length : Int) 1 = true := rfl
        have i2 : idx [t] 0 = some t := rfl
        have i3 : eqTok t { kind := 1, pos := 0, text := s } = false := by
          cases h : eqTok t { kind := 1, pos := 0, text := s } with
          | false => rfl
          | true =>
            exfalso
            simp only [eqTok, Bool.and_eq_true, beq_iff_eq] at h
            have := hl t (by simp) h.1
            rw [h.2.2, hw] at this
            cases this
        simp only [i1, i2, i3, Option.bind_some]
      | a :: b :: r, _ =>
        have i1 : eqI ((a :: b :: r : List KTok).length : Int) 1 = false := decide_eq_false (by simp only [List.length_cons]; omega)
        simp only [i1]
    · simp only [h1, h2, Option.bind_eq_bind, Option.bind_some]
end Go.Lb.R
end
section
namespace Go.Lb.R
open Go.Lb
theorem eqS_iff {a b : Str} : eqS a b = true ↔ a = b := ⟨fun h => eq_of_beq h, fun h => by subst h; exact eqS_refl _⟩
theorem eqS_comm (a b : Str) : eqS a b = eqS b a := Bool.eq_iff_iff.2 ⟨fun h => eqS_iff.2 (eqS_iff.1 h).symm, fun h => eqS_iff.2 (eqS_iff.1 h).symm⟩
abbrev nilS : Str := Array.toList (ByteArray.data { data := #[] })
def rightT1 (k : Int) (l : Str) (m : Bool) (n : Int) : Bool :=
  bif eqI k 4 then nameB l && eqI n 1 else eqS l nilS && (!m && (eqI k 1 && eqI n 0 || (eqI k 2 && eqI n 1 || eqI k 3 && (leI 2 n && leI n 30))))
mutual
def rightT : GT → Bool
  | .mk k l m ks => rightTs ks && rightT1 k l m (ks.length : Int)
def rightTs : List GT → Bool
  | [] => true
  | t :: r => rightT t && rightTs r
end
theorem rightTs_all : ∀ l : List GT, rightTs l = l.all rightT
  | [] => rfl
  | t :: r => by simp only [rightTs, List.all_cons, rightTs_all r]
theorem rightT_eq (t : GT) : rightT t = (t.kids.all rightT && rightT1 t.kind t.life t.mu (t.kids.length : Int)) := by
  cases t
  simp only [rightT, rightTs_all]
  rfl
theorem okT_life {t : GT} (h : okT t) : t.life.length ≤ MX := by
  cases t
  simp only [okT] at h
  exact h.1
end Go.Lb.R
end
section
namespace Go.Lb.R
open Go.Lb
theorem leI_neg : leI 0 (-1) = false := rfl
theorem leI_nat (j : Nat) : leI 0 (j : Int) = true := decide_eq_true (by omega)
theorem k71_loop (l : List GT) (hl : l.length ≤ MX) (IH : ∀ x ∈ l, k71 x = some ((rightT x, ()), ())) : (k71_0 l (l.length : Int) 0 = some (Sum.inl ((), ((), ()), ())) ∧ l.all rightT = true) ∨ ((∃ j : Nat, k71_0 l (l.length : Int) 0 = some (Sum.inr (((j : Int), ()), ((), ()), ()))) ∧ l.all rightT = false) := by
  have := loop_all0 (l := l) (p := rightT) (L := fun i => k71_0 l (l.length : Int) (i : Int)) (good := Sum.inl ((), ((), ()), ())) (bad := fun j => Sum.inr (((j : Int), ()), ((), ()), ()))
    (fun i hi => by
      rw [k71_0, ltI_true hi]
      simp only [idx_nat hi, Option.bind_eq_bind, Option.bind_some, nf_eq, w64_succ hl hi, IH _ (List.getElem_mem hi)]
      cases rightT l[i] <;> rfl)
    (by rw [k71_0, ltI_false (Nat.lt_irrefl _)])
  exact this
theorem w1 : w64 0 = 0 := by decide
theorem w2 : w64 1 = 1 := by decide
theorem w3 : w64 2 = 2 := by decide
theorem w4 : w64 3 = 3 := by decide
theorem k71_eq : ∀ (n : Nat) (t : GT), SizeOf.sizeOf t < n → okT t → k71 t = some ((rightT t, ()), ())
  | 0, t, h, _ => by omega
  | n + 1, t, h, ho => by
    obtain ⟨h1, h2⟩ := okT_kids ho
    have IH : ∀ x ∈ t.kids, k71 x = some ((rightT x, ()), ()) := fun x hx => k71_eq n x (by have := GT.kids_lt hx; omega) (h2 x hx)
    have hlp := k71_loop t.kids h1 IH
    rw [k71, rightT_eq]
    simp only [Option.bind_eq_bind, k70_eq _ (okT_life ho), Option.bind_some, rightT1]
    have hn : (t.kids.length : Int) = 0 ∨ (t.kids.length : Int) = 1 ∨ (2 ≤ (t.kids.length : Int) ∧ (t.kids.length : Int) ≤ 30) ∨ 30 < (t.kids.length : Int) := by omega
    generalize (t.kids.length : Int) = n at *
    generalize t.kids.all rightT = ba at *
    generalize k71_0 t.kids n 0 = X at *
    generalize nameB t.life = bn
    generalize eqS t.life _ = bl
    generalize t.mu = bm
    generalize t.kind = k at *
    by_cases hk : k = 1 ∨ k = 2 ∨ k = 3 ∨ k = 4
    · rcases hk with rfl | rfl | rfl | rfl <;> rcases hn with rfl | rfl | ⟨ha, hb⟩ | ha
      all_goals first
        | (have a0 : ¬ n = 0 := by omega
           have a1 : ¬ n = 1 := by omega
           have a2 : (2 : Int) ≤ n := by omega
           have a3 : ¬ n ≤ 30 := by omega
           cases bl <;> cases bm <;> cases bn <;> rcases hlp with ⟨rfl, rfl⟩ | ⟨⟨j, rfl⟩, rfl⟩ <;> simp [eqI, leI, w1, w2, w3, w4, a0, a1, a2, a3])
        | (have a0 : ¬ n = 0 := by omega
           have a1 : ¬ n = 1 := by omega
           have a2 : (2 : Int) ≤ n := by omega
           have a3 : n ≤ 30 := by omega
           cases bl <;> cases bm <;> cases bn <;> rcases hlp with ⟨rfl, rfl⟩ | ⟨⟨j, rfl⟩, rfl⟩ <;> simp [eqI, leI, w1, w2, w3, w4, a0, a1, a2, a3])
        | (cases bl <;> cases bm <;> cases bn <;> rcases hlp with ⟨rfl, rfl⟩ | ⟨⟨j, rfl⟩, rfl⟩ <;> simp [eqI, leI, w1, w2, w3, w4])
    · have a1 : ¬ k = 1 := fun e => hk (.inl e)
      have a2 : ¬ k = 2 := fun e => hk (.inr (.inl e))
      have a3 : ¬ k = 3 := fun e => hk (.inr (.inr (.inl e)))
      have a4 : ¬ k = 4 := fun e => hk (.inr (.inr (.inr e)))
      have a5 : (leI 1 k && leI k 4) = false := by
        simp only [leI, Bool.and_eq_false_iff, decide_eq_false_iff_not]
        omega
      have e1 : eqI k 1 = false := decide_eq_false a1
      have e2 : eqI k 2 = false := decide_eq_false a2
      have e3 : eqI k 3 = false := decide_eq_false a3
      have e4 : eqI k 4 = false := decide_eq_false a4
      simp only [e1, e2, e3, e4]
      cases h1 : leI 1 k <;> cases h4 : leI k 4
      · cases bl <;> cases bm <;> cases eqI n 1 <;> simp
      · cases bl <;> cases bm <;> cases eqI n 1 <;> simp
      · cases bl <;> cases bm <;> cases eqI n 1 <;> simp
      · rw [h1, h4] at a5; cases a5
end Go.Lb.R
end
section
namespace Go.Lb.R
open Go.Lb
abbrev sLt : Str := Array.toList (ByteArray.data { data := #[60] })
abbrev sEq : Str := Array.toList (ByteArray.data { data := #[61, 61] })
abbrev sAdd : Str := Array.toList (ByteArray.data { data := #[43] })
abbrev sSub : Str := Array.toList (ByteArray.data { data := #[45] })
abbrev sMul : Str := Array.toList (ByteArray.data { data := #[42] })
abbrev sDiv : Str := Array.toList (ByteArray.data { data := #[47] })
def strE (e : GE) : Int :=
  bif eqI e.kind 8 then (bif eqS e.name sLt || eqS e.name sEq then 1 else bif eqS e.name sAdd || eqS e.name sSub then 2 else bif eqS e.name sMul || eqS e.name sDiv then 3 else 4) else 4
theorem k92_eq (e : GE) : k92 e = some ((strE e, ()), ()) := by
  rw [k92]
  unfold strE
  cases eqI e.kind 8 <;> cases eqS e.name sLt <;> cases eqS e.name sEq <;> cases eqS e.name sAdd <;> cases eqS e.name sSub <;> cases eqS e.name sMul <;> cases eqS e.name sDiv <;> rfl
theorem k140_eq (e : GE) : k140 e = some ((strE e, ()), ()) := by
  rw [k140]
  unfold strE
  cases eqI e.kind 8 <;> cases eqS e.name sLt <;> cases eqS e.name sEq <;> cases eqS e.name sAdd <;> cases eqS e.name sSub <;> cases eqS e.name sMul <;> cases eqS e.name sDiv <;> rfl
theorem strE_range (e : GE) : strE e = 1 ∨ strE e = 2 ∨ strE e = 3 ∨ strE e = 4 := by
  unfold strE
  cases eqI e.kind 8 <;> cases eqS e.name sLt <;> cases eqS e.name sEq <;> cases eqS e.name sAdd <;> cases eqS e.name sSub <;> cases eqS e.name sMul <;> cases eqS e.name sDiv <;> simp
def placeB (e : GE) : Bool := eqI e.kind 2 || (eqI e.kind 3 || eqI e.kind 4)
theorem k113_eq (e : GE) : k113 e = some ((placeB e, ()), ()) := by
  rw [k113]
  have : placeB e = (leI 2 e.kind && leI e.kind 4) := by
    unfold placeB
    rw [Bool.eq_iff_iff]
    simp only [eqI, leI, Bool.or_eq_true, Bool.and_eq_true, decide_eq_true_eq]
    omega
  rw [this]
  cases leI 2 e.kind <;> rfl
def noneB (e : GE) : Bool := eqI e.kind 0 && (eqI e.num 0 && (eqS e.name nilS && (!e.mu && eqI (e.kids.length : Int) 0)))
theorem k112_eq (e : GE) : k112 e = some ((noneB e, ()), ()) := by
  rw [k112]
  unfold noneB
  cases eqI e.kind 0 <;> cases eqI e.num 0 <;> cases eqS e.name nilS <;> cases e.mu <;> rfl
def kid0 (e : GE) : Bool := match e.kids with | [] => false | x :: _ => placeB x
def right1 (e : GE) : Bool :=
  let n : Int := e.kids.length
  bif eqI e.kind 1 then leI 0 e.num && (leI e.num 999999999999999999 && (eqS e.name nilS && (!e.mu && eqI n 0)))
  else bif eqI e.kind 2 then eqI e.num 0 && (nameB e.name && (!e.mu && eqI n 0))
  else bif eqI e.kind 3 then leI 0 e.num && (ltI e.num 30 && (eqS e.name nilS && (!e.mu && (eqI n 1 && kid0 e))))
  else bif eqI e.kind 4 then eqI e.num 0 && (eqS e.name nilS && (!e.mu && (eqI n 1 && kid0 e)))
  else bif eqI e.kind 5 then eqI e.num 0 && (eqS e.name nilS && (eqI n 1 && kid0 e))
  else bif eqI e.kind 6 then eqI e.num 0 && (eqS e.name nilS && (!e.mu && eqI n 1))
  else bif eqI e.kind 7 then eqI e.num 0 && (eqS e.name nilS && (!e.mu && (leI 2 n && leI n 30)))
  else bif eqI e.kind 8 then eqI e.num 0 && (!e.mu && (eqI n 2 && ltI (strE e) 4))
  else bif eqI e.kind 9 then eqI e.num 0 && (!e.mu && (leI n 30 && nameB e.name))
  else false
mutual
def rightE : GE → Bool
  | .mk k n s m ks => rightEs ks && right1 (.mk k n s m ks)
def rightEs : List GE → Bool
  | [] => true
  | t :: r => rightE t && rightEs r
end
theorem rightEs_all : ∀ l : List GE, rightEs l = l.all rightE
  | [] => rfl
  | t :: r => by simp only [rightEs, List.all_cons, rightEs_all r]
theorem rightE_eq (t : GE) : rightE t = (t.kids.all rightE && right1 t) := by
  cases t
  simp only [rightE, rightEs_all]
  rfl
theorem kid0_one {e : GE} (h : eqI (e.kids.length : Int) 1 = true) : ∃ x, idx e.kids 0 = some x ∧ kid0 e = placeB x := by
  have h' : (e.kids.length : Int) = 1 := of_decide_eq_true h
  unfold kid0
  match hk : e.kids with
  | [] => rw [hk] at h'; simp at h'
  | x :: r => exact ⟨x, rfl, rfl⟩
end Go.Lb.R
end
section
namespace Go.Lb.R
open Go.Lb
theorem w0 : w64 0 = 0 := by decide
theorem k77_loop (l : List GE) (hl : l.length ≤ MX) (IH : ∀ x ∈ l, k77 x = some ((rightE x, ()), ())) : (k77_0 l (l.length : Int) 0 = some (Sum.inl ((), ((), ()), ())) ∧ l.all rightE = true) ∨ ((∃ j : Nat, k77_0 l (l.length : Int) 0 = some (Sum.inr (((j : Int), ()), ((), ()), ()))) ∧ l.all rightE = false) := by
  have := loop_all0 (l := l) (p := rightE) (L := fun i => k77_0 l (l.length : Int) (i : Int)) (good := Sum.inl ((), ((), ()), ())) (bad := fun j => Sum.inr (((j : Int), ()), ((), ()), ()))
    (fun i hi => by
      rw [k77_0, ltI_true hi]
      simp only [idx_nat hi, Option.bind_eq_bind, Option.bind_some, nf_eq, w64_succ hl hi, IH _ (List.getElem_mem hi)]
      cases rightE l[i] <;> rfl)
    (by rw [k77_0, ltI_false (Nat.lt_irrefl _)])
  exact this
theorem k137_eq {e : GE} (h : (e.kids.length : Int) = 1) : k137 e = some ((kid0 e, ()), ()) := by
  obtain ⟨x, h1, h2⟩ := kid0_one (e := e) (decide_eq_true h)
  rw [k137, h1, h2]
  simp only [Option.bind_eq_bind, Option.bind_some, k113_eq]
set_option maxHeartbeats 1000000 in
theorem k77_eq : ∀ (n : Nat) (t : GE), SizeOf.sizeOf t < n → okE t → k77 t = some ((rightE t, ()), ())
  | 0, t, h, _ => by omega
  | n + 1, t, h, ho => by
    obtain ⟨h1, h2⟩ := okE_kids ho
    have IH : ∀ x ∈ t.kids, k77 x = some ((rightE x, ()), ()) := fun x hx => k77_eq n x (by have := GE.kids_lt hx; omega) (h2 x hx)
    have hlp := k77_loop t.kids h1 IH
    have h137 := @k137_eq t
    rw [k77, rightE_eq]
    simp only [Option.bind_eq_bind, k70_eq _ (okE_name ho), k140_eq, Option.bind_some, right1]
    generalize k137 t = K at *
    generalize kid0 t = bk at *
    have hn : (t.kids.length : Int) = 0 ∨ (t.kids.length : Int) = 1 ∨ (t.kids.length : Int) = 2 ∨ (3 ≤ (t.kids.length : Int) ∧ (t.kids.length : Int) ≤ 30) ∨ 30 < (t.kids.length : Int) := by omega
    generalize (t.kids.length : Int) = n at *
    generalize t.kids.all rightE = ba at *
    generalize k77_0 t.kids n 0 = X at *
    generalize nameB t.name = bn
    generalize eqS t.name _ = bl
    generalize t.mu = bm
    generalize strE t = st
    generalize t.num = nu
    generalize t.kind = k at *
    have e18 : ltI nu 1000000000000000000 = leI nu 999999999999999999 := by
      simp only [ltI, leI]
      by_cases h : nu ≤ 999999999999999999
      · rw [decide_eq_true h, decide_eq_true (by omega)]
      · rw [decide_eq_false h, decide_eq_false (by omega)]
    rw [e18]
    generalize leI 0 nu = c0
    generalize leI nu 999999999999999999 = c1
    generalize ltI nu 30 = c2
    generalize eqI nu 0 = c3
    generalize ltI st 4 = c4
    by_cases hk : k = 1 ∨ k = 2 ∨ k = 3 ∨ k = 4 ∨ k = 5 ∨ k = 6 ∨ k = 7 ∨ k = 8 ∨ k = 9
    · rcases hlp with ⟨rfl, rfl⟩ | ⟨⟨j, rfl⟩, rfl⟩ <;> rcases hk with rfl | rfl | rfl | rfl | rfl | rfl | rfl | rfl | rfl
      · rcases hn with rfl | rfl | rfl | hn | hn
        · cases c0 <;> cases c1 <;> cases bl <;> cases bm <;> rfl
        · have hK := h137 rfl
          subst hK
          cases c0 <;> cases c1 <;> cases bl <;> cases bm <;> rfl
        · cases c0 <;> cases c1 <;> cases bl <;> cases bm <;> rfl
        · have g0 : ltI n 0 = false := decide_eq_false (by omega)
          have g1 : ltI 0 n = true := decide_eq_true (by omega)
          have g2 : ltI n 1 = false := decide_eq_false (by omega)
          have g3 : ltI 1 n = true := decide_eq_true (by omega)
          have g4 : ltI n 2 = false := decide_eq_false (by omega)
          have g5 : ltI 2 n = true := decide_eq_true (by omega)
          have g6 : eqI n 0 = false := decide_eq_false (by omega)
          have g7 : eqI n 1 = false := decide_eq_false (by omega)
          have g8 : eqI n 2 = false := decide_eq_false (by omega)
          have g9 : leI 2 n = true := decide_eq_true (by omega)
          have g10 : leI n 30 = true := decide_eq_true (by omega)
          have g11 : ltI 30 n = false := decide_eq_false (by omega)
          simp only [g0, g1, g2, g3, g4, g5, g6, g7, g8, g9, g10, g11]
          cases c0 <;> cases c1 <;> cases bl <;> cases bm <;> rfl
        · have g0 : ltI n 0 = false := decide_eq_false (by omega)
          have g1 : ltI 0 n = true := decide_eq_true (by omega)
          have g2 : ltI n 1 = false := decide_eq_false (by omega)
          have g3 : ltI 1 n = true := decide_eq_true (by omega)
          have g4 : ltI n 2 = false := decide_eq_false (by omega)
          have g5 : ltI 2 n = true := decide_eq_true (by omega)
          have g6 : eqI n 0 = false := decide_eq_false (by omega)
          have g7 : eqI n 1 = false := decide_eq_false (by omega)
          have g8 : eqI n 2 = false := decide_eq_false (by omega)
          have g9 : leI 2 n = true := decide_eq_true (by omega)
          have g10 : leI n 30 = false := decide_eq_false (by omega)
          have g11 : ltI 30 n = true := decide_eq_true (by omega)
          simp only [g0, g1, g2, g3, g4, g5, g6, g7, g8, g9, g10, g11]
          cases c0 <;> cases c1 <;> cases bl <;> cases bm <;> rfl
      · rcases hn with rfl | rfl | rfl | hn | hn
        · cases c3 <;> cases bn <;> cases bm <;> rfl
        · have hK := h137 rfl
          subst hK
          cases c3 <;> cases bn <;> cases bm <;> rfl
        · cases c3 <;> cases bn <;> cases bm <;> rfl
        · have g0 : ltI n 0 = false := decide_eq_false (by omega)
          have g1 : ltI 0 n = true := decide_eq_true (by omega)
          have g2 : ltI n 1 = false := decide_eq_false (by omega)
          have g3 : ltI 1 n = true := decide_eq_true (by omega)
          have g4 : ltI n 2 = false := decide_eq_false (by omega)
          have g5 : ltI 2 n = true := decide_eq_true (by omega)
          have g6 : eqI n 0 = false := decide_eq_false (by omega)
          have g7 : eqI n 1 = false := decide_eq_false (by omega)
          have g8 : eqI n 2 = false := decide_eq_false (by omega)
          have g9 : leI 2 n = true := decide_eq_true (by omega)
          have g10 : leI n 30 = true := decide_eq_true (by omega)
          have g11 : ltI 30 n = false := decide_eq_false (by omega)
          simp only [g0, g1, g2, g3, g4, g5, g6, g7, g8, g9, g10, g11]
          cases c3 <;> cases bn <;> cases bm <;> rfl
        · have g0 : ltI n 0 = false := decide_eq_false (by omega)
          have g1 : ltI 0 n = true := decide_eq_true (by omega)
          have g2 : ltI n 1 = false := decide_eq_false (by omega)
          have g3 : ltI 1 n = true := decide_eq_true (by omega)
          have g4 : ltI n 2 = false := decide_eq_false (by omega)
          have g5 : ltI 2 n = true := decide_eq_true (by omega)
          have g6 : eqI n 0 = false := decide_eq_false (by omega)
          have g7 : eqI n 1 = false := decide_eq_false (by omega)
          have g8 : eqI n 2 = false := decide_eq_false (by omega)
          have g9 : leI 2 n = true := decide_eq_true (by omega)
          have g10 : leI n 30 = false := decide_eq_false (by omega)
          have g11 : ltI 30 n = true := decide_eq_true (by omega)
          simp only [g0, g1, g2, g3, g4, g5, g6, g7, g8, g9, g10, g11]
          cases c3 <;> cases bn <;> cases bm <;> rfl
      · rcases hn with rfl | rfl | rfl | hn | hn
        · cases c0 <;> cases c2 <;> cases bl <;> cases bm <;> cases bk <;> rfl
        · have hK := h137 rfl
          subst hK
          cases c0 <;> cases c2 <;> cases bl <;> cases bm <;> cases bk <;> rfl
        · cases c0 <;> cases c2 <;> cases bl <;> cases bm <;> cases bk <;> rfl
        · have g0 : ltI n 0 = false := decide_eq_false (by omega)
          have g1 : ltI 0 n = true := decide_eq_true (by omega)
          have g2 : ltI n 1 = false := decide_eq_false (by omega)
          have g3 : ltI 1 n = true := decide_eq_true (by omega)
          have g4 : ltI n 2 = false := decide_eq_false (by omega)
          have g5 : ltI 2 n = true := decide_eq_true (by omega)
          have g6 : eqI n 0 = false := decide_eq_false (by omega)
          have g7 : eqI n 1 = false := decide_eq_false (by omega)
          have g8 : eqI n 2 = false := decide_eq_false (by omega)
          have g9 : leI 2 n = true := decide_eq_true (by omega)
          have g10 : leI n 30 = true := decide_eq_true (by omega)
          have g11 : ltI 30 n = false := decide_eq_false (by omega)
          simp only [g0, g1, g2, g3, g4, g5, g6, g7, g8, g9, g10, g11]
          cases c0 <;> cases c2 <;> cases bl <;> cases bm <;> cases bk <;> rfl
        · have g0 : ltI n 0 = false := decide_eq_false (by omega)
          have g1 : ltI 0 n = true := decide_eq_true (by omega)
          have g2 : ltI n 1 = false := decide_eq_false (by omega)
          have g3 : ltI 1 n = true := decide_eq_true (by omega)
          have g4 : ltI n 2 = false := decide_eq_false (by omega)
          have g5 : ltI 2 n = true := decide_eq_true (by omega)
          have g6 : eqI n 0 = false := decide_eq_false (by omega)
          have g7 : eqI n 1 = false := decide_eq_false (by omega)
          have g8 : eqI n 2 = false := decide_eq_false (by omega)
          have g9 : leI 2 n = true := decide_eq_true (by omega)
          have g10 : leI n 30 = false := decide_eq_false (by omega)
          have g11 : ltI 30 n = true := decide_eq_true (by omega)
          simp only [g0, g1, g2, g3, g4, g5, g6, g7, g8, g9, g10, g11]
          cases c0 <;> cases c2 <;> cases bl <;> cases bm <;> cases bk <;> rfl
      · rcases hn with rfl | rfl | rfl | hn | hn
        · cases c3 <;> cases bl <;> cases bm <;> cases bk <;> rfl
        · have hK := h137 rfl
          subst hK
          cases c3 <;> cases bl <;> cases bm <;> cases bk <;> rfl
        · cases c3 <;> cases bl <;> cases bm <;> cases bk <;> rfl
        · have g0 : ltI n 0 = false := decide_eq_false (by omega)
          have g1 : ltI 0 n = true := decide_eq_true (by omega)
          have g2 : ltI n 1 = false := decide_eq_false (by omega)
          have g3 : ltI 1 n = true := decide_eq_true (by omega)
          have g4 : ltI n 2 = false := decide_eq_false (by omega)
          have g5 : ltI 2 n = true := decide_eq_true (by omega)
          have g6 : eqI n 0 = false := decide_eq_false (by omega)
          have g7 : eqI n 1 = false := decide_eq_false (by omega)
          have g8 : eqI n 2 = false := decide_eq_false (by omega)
          have g9 : leI 2 n = true := decide_eq_true (by omega)
          have g10 : leI n 30 = true := decide_eq_true (by omega)
          have g11 : ltI 30 n = false := decide_eq_false (by omega)
          simp only [g0, g1, g2, g3, g4, g5, g6, g7, g8, g9, g10, g11]
          cases c3 <;> cases bl <;> cases bm <;> cases bk <;> rfl
        · have g0 : ltI n 0 = false := decide_eq_false (by omega)
          have g1 : ltI 0 n = true := decide_eq_true (by omega)
          have g2 : ltI n 1 = false := decide_eq_false (by omega)
          have g3 : ltI 1 n = true := decide_eq_true (by omega)
          have g4 : ltI n 2 = false := decide_eq_false (by omega)
          have g5 : ltI 2 n = true := decide_eq_true (by omega)
          have g6 : eqI n 0 = false := decide_eq_false (by omega)
          have g7 : eqI n 1 = false := decide_eq_false (by omega)
          have g8 : eqI n 2 = false := decide_eq_false (by omega)
          have g9 : leI 2 n = true := decide_eq_true (by omega)
          have g10 : leI n 30 = false := decide_eq_false (by omega)
          have g11 : ltI 30 n = true := decide_eq_true (by omega)
          simp only [g0, g1, g2, g3, g4, g5, g6, g7, g8, g9, g10, g11]
          cases c3 <;> cases bl <;> cases bm <;> cases bk <;> rfl
      · rcases hn with rfl | rfl | rfl | hn | hn
        · cases c3 <;> cases bl <;> cases bk <;> rfl
        · have hK := h137 rfl
          subst hK
          cases c3 <;> cases bl <;> cases bk <;> rfl
        · cases c3 <;> cases bl <;> cases bk <;> rfl
        · have g0 : ltI n 0 = false := decide_eq_false (by omega)
          have g1 : ltI 0 n = true := decide_eq_true (by omega)
          have g2 : ltI n 1 = false := decide_eq_false (by omega)
          have g3 : ltI 1 n = true := decide_eq_true (by omega)
          have g4 : ltI n 2 = false := decide_eq_false (by omega)
          have g5 : ltI 2 n = true := decide_eq_true (by omega)
          have g6 : eqI n 0 = false := decide_eq_false (by omega)
          have g7 : eqI n 1 = false := decide_eq_false (by omega)
          have g8 : eqI n 2 = false := decide_eq_false (by omega)
          have g9 : leI 2 n = true := decide_eq_true (by omega)
          have g10 : leI n 30 = true := decide_eq_true (by omega)
          have g11 : ltI 30 n = false := decide_eq_false (by omega)
          simp only [g0, g1, g2, g3, g4, g5, g6, g7, g8, g9, g10, g11]
          cases c3 <;> cases bl <;> cases bk <;> rfl
        · have g0 : ltI n 0 = false := decide_eq_false (by omega)
          have g1 : ltI 0 n = true := decide_eq_true (by omega)
          have g2 : ltI n 1 = false := decide_eq_false (by omega)
          have g3 : ltI 1 n = true := decide_eq_true (by omega)
          have g4 : ltI n 2 = false := decide_eq_false (by omega)
          have g5 : ltI 2 n = true := decide_eq_true (by omega)
          have g6 : eqI n 0 = false := decide_eq_false (by omega)
          have g7 : eqI n 1 = false := decide_eq_false (by omega)
          have g8 : eqI n 2 = false := decide_eq_false (by omega)
          have g9 : leI 2 n = true := decide_eq_true (by omega)
          have g10 : leI n 30 = false := decide_eq_false (by omega)
          have g11 : ltI 30 n = true := decide_eq_true (by omega)
          simp only [g0, g1, g2, g3, g4, g5, g6, g7, g8, g9, g10, g11]
          cases c3 <;> cases bl <;> cases bk <;> rfl
      · rcases hn with rfl | rfl | rfl | hn | hn
        · cases c3 <;> cases bl <;> cases bm <;> rfl
        · have hK := h137 rfl
          subst hK
          cases c3 <;> cases bl <;> cases bm <;> rfl
        · cases c3 <;> cases bl <;> cases bm <;> rfl
        · have g0 : ltI n 0 = false := decide_eq_false (by omega)
          have g1 : ltI 0 n = true := decide_eq_true (by omega)
          have g2 : ltI n 1 = false := decide_eq_false (by omega)
          have g3 : ltI 1 n = true := decide_eq_true (by omega)
          have g4 : ltI n 2 = false := decide_eq_false (by omega)
          have g5 : ltI 2 n = true := decide_eq_true (by omega)
          have g6 : eqI n 0 = false := decide_eq_false (by omega)
          have g7 : eqI n 1 = false := decide_eq_false (by omega)
          have g8 : eqI n 2 = false := decide_eq_false (by omega)
          have g9 : leI 2 n = true := decide_eq_true (by omega)
          have g10 : leI n 30 = true := decide_eq_true (by omega)
          have g11 : ltI 30 n = false := decide_eq_false (by omega)
          simp only [g0, g1, g2, g3, g4, g5, g6, g7, g8, g9, g10, g11]
          cases c3 <;> cases bl <;> cases bm <;> rfl
        · have g0 : ltI n 0 = false := decide_eq_false (by omega)
          have g1 : ltI 0 n = true := decide_eq_true (by omega)
          have g2 : ltI n 1 = false := decide_eq_false (by omega)
          have g3 : ltI 1 n = true := decide_eq_true (by omega)
          have g4 : ltI n 2 = false := decide_eq_false (by omega)
          have g5 : ltI 2 n = true := decide_eq_true (by omega)
          have g6 : eqI n 0 = false := decide_eq_false (by omega)
          have g7 : eqI n 1 = false := decide_eq_false (by omega)
          have g8 : eqI n 2 = false := decide_eq_false (by omega)
          have g9 : leI 2 n = true := decide_eq_true (by omega)
          have g10 : leI n 30 = false := decide_eq_false (by omega)
          have g11 : ltI 30 n = true := decide_eq_true (by omega)
          simp only [g0, g1, g2, g3, g4, g5, g6, g7, g8, g9, g10, g11]
          cases c3 <;> cases bl <;> cases bm <;> rfl
      · rcases hn with rfl | rfl | rfl | hn | hn
        · cases c3 <;> cases bl <;> cases bm <;> rfl
        · have hK := h137 rfl
          subst hK
          cases c3 <;> cases bl <;> cases bm <;> rfl
        · cases c3 <;> cases bl <;> cases bm <;> rfl
        · have g0 : ltI n 0 = false := decide_eq_false (by omega)
          have g1 : ltI 0 n = true := decide_eq_true (by omega)
          have g2 : ltI n 1 = false := decide_eq_false (by omega)
          have g3 : ltI 1 n = true := decide_eq_true (by omega)
          have g4 : ltI n 2 = false := decide_eq_false (by omega)
          have g5 : ltI 2 n = true := decide_eq_true (by omega)
          have g6 : eqI n 0 = false := decide_eq_false (by omega)
          have g7 : eqI n 1 = false := decide_eq_false (by omega)
          have g8 : eqI n 2 = false := decide_eq_false (by omega)
          have g9 : leI 2 n = true := decide_eq_true (by omega)
          have g10 : leI n 30 = true := decide_eq_true (by omega)
          have g11 : ltI 30 n = false := decide_eq_false (by omega)
          simp only [g0, g1, g2, g3, g4, g5, g6, g7, g8, g9, g10, g11]
          cases c3 <;> cases bl <;> cases bm <;> rfl
        · have g0 : ltI n 0 = false := decide_eq_false (by omega)
          have g1 : ltI 0 n = true := decide_eq_true (by omega)
          have g2 : ltI n 1 = false := decide_eq_false (by omega)
          have g3 : ltI 1 n = true := decide_eq_true (by omega)
          have g4 : ltI n 2 = false := decide_eq_false (by omega)
          have g5 : ltI 2 n = true := decide_eq_true (by omega)
          have g6 : eqI n 0 = false := decide_eq_false (by omega)
          have g7 : eqI n 1 = false := decide_eq_false (by omega)
          have g8 : eqI n 2 = false := decide_eq_false (by omega)
          have g9 : leI 2 n = true := decide_eq_true (by omega)
          have g10 : leI n 30 = false := decide_eq_false (by omega)
          have g11 : ltI 30 n = true := decide_eq_true (by omega)
          simp only [g0, g1, g2, g3, g4, g5, g6, g7, g8, g9, g10, g11]
          cases c3 <;> cases bl <;> cases bm <;> rfl
      · rcases hn with rfl | rfl | rfl | hn | hn
        · cases c3 <;> cases bm <;> cases c4 <;> rfl
        · have hK := h137 rfl
          subst hK
          cases c3 <;> cases bm <;> cases c4 <;> rfl
        · cases c3 <;> cases bm <;> cases c4 <;> rfl
        · have g0 : ltI n 0 = false := decide_eq_false (by omega)
          have g1 : ltI 0 n = true := decide_eq_true (by omega)
          have g2 : ltI n 1 = false := decide_eq_false (by omega)
          have g3 : ltI 1 n = true := decide_eq_true (by omega)
          have g4 : ltI n 2 = false := decide_eq_false (by omega)
          have g5 : ltI 2 n = true := decide_eq_true (by omega)
          have g6 : eqI n 0 = false := decide_eq_false (by omega)
          have g7 : eqI n 1 = false := decide_eq_false (by omega)
          have g8 : eqI n 2 = false := decide_eq_false (by omega)
          have g9 : leI 2 n = true := decide_eq_true (by omega)
          have g10 : leI n 30 = true := decide_eq_true (by omega)
          have g11 : ltI 30 n = false := decide_eq_false (by omega)
          simp only [g0, g1, g2, g3, g4, g5, g6, g7, g8, g9, g10, g11]
          cases c3 <;> cases bm <;> cases c4 <;> rfl
        · have g0 : ltI n 0 = false := decide_eq_false (by omega)
          have g1 : ltI 0 n = true := decide_eq_true (by omega)
          have g2 : ltI n 1 = false := decide_eq_false (by omega)
          have g3 : ltI 1 n = true := decide_eq_true (by omega)
          have g4 : ltI n 2 = false := decide_eq_false (by omega)
          have g5 : ltI 2 n = true := decide_eq_true (by omega)
          have g6 : eqI n 0 = false := decide_eq_false (by omega)
          have g7 : eqI n 1 = false := decide_eq_false (by omega)
          have g8 : eqI n 2 = false := decide_eq_false (by omega)
          have g9 : leI 2 n = true := decide_eq_true (by omega)
          have g10 : leI n 30 = false := decide_eq_false (by omega)
          have g11 : ltI 30 n = true := decide_eq_true (by omega)
          simp only [g0, g1, g2, g3, g4, g5, g6, g7, g8, g9, g10, g11]
          cases c3 <;> cases bm <;> cases c4 <;> rfl
      · rcases hn with rfl | rfl | rfl | hn | hn
        · cases c3 <;> cases bm <;> cases bn <;> rfl
        · have hK := h137 rfl
          subst hK
          cases c3 <;> cases bm <;> cases bn <;> rfl
        · cases c3 <;> cases bm <;> cases bn <;> rfl
        · have g0 : ltI n 0 = false := decide_eq_false (by omega)
          have g1 : ltI 0 n = true := decide_eq_true (by omega)
          have g2 : ltI n 1 = false := decide_eq_false (by omega)
          have g3 : ltI 1 n = true := decide_eq_true (by omega)
          have g4 : ltI n 2 = false := decide_eq_false (by omega)
          have g5 : ltI 2 n = true := decide_eq_true (by omega)
          have g6 : eqI n 0 = false := decide_eq_false (by omega)
          have g7 : eqI n 1 = false := decide_eq_false (by omega)
          have g8 : eqI n 2 = false := decide_eq_false (by omega)
          have g9 : leI 2 n = true := decide_eq_true (by omega)
          have g10 : leI n 30 = true := decide_eq_true (by omega)
          have g11 : ltI 30 n = false := decide_eq_false (by omega)
          simp only [g0, g1, g2, g3, g4, g5, g6, g7, g8, g9, g10, g11]
          cases c3 <;> cases bm <;> cases bn <;> rfl
        · have g0 : ltI n 0 = false := decide_eq_false (by omega)
          have g1 : ltI 0 n = true := decide_eq_true (by omega)
          have g2 : ltI n 1 = false := decide_eq_false (by omega)
          have g3 : ltI 1 n = true := decide_eq_true (by omega)
          have g4 : ltI n 2 = false := decide_eq_false (by omega)
          have g5 : ltI 2 n = true := decide_eq_true (by omega)
          have g6 : eqI n 0 = false := decide_eq_false (by omega)
          have g7 : eqI n 1 = false := decide_eq_false (by omega)
          have g8 : eqI n 2 = false := decide_eq_false (by omega)
          have g9 : leI 2 n = true := decide_eq_true (by omega)
          have g10 : leI n 30 = false := decide_eq_false (by omega)
          have g11 : ltI 30 n = true := decide_eq_true (by omega)
          simp only [g0, g1, g2, g3, g4, g5, g6, g7, g8, g9, g10, g11]
          cases c3 <;> cases bm <;> cases bn <;> rfl
      · rcases hn with rfl | rfl | rfl | hn | hn
        · cases c0 <;> cases c1 <;> cases bl <;> cases bm <;> rfl
        · have hK := h137 rfl
          subst hK
          cases c0 <;> cases c1 <;> cases bl <;> cases bm <;> rfl
        · cases c0 <;> cases c1 <;> cases bl <;> cases bm <;> rfl
        · have g0 : ltI n 0 = false := decide_eq_false (by omega)
          have g1 : ltI 0 n = true := decide_eq_true (by omega)
          have g2 : ltI n 1 = false := decide_eq_false (by omega)
          have g3 : ltI 1 n = true := decide_eq_true (by omega)
          have g4 : ltI n 2 = false := decide_eq_false (by omega)
          have g5 : ltI 2 n = true := decide_eq_true (by omega)
          have g6 : eqI n 0 = false := decide_eq_false (by omega)
          have g7 : eqI n 1 = false := decide_eq_false (by omega)
          have g8 : eqI n 2 = false := decide_eq_false (by omega)
          have g9 : leI 2 n = true := decide_eq_true (by omega)
          have g10 : leI n 30 = true := decide_eq_true (by omega)
          have g11 : ltI 30 n = false := decide_eq_false (by omega)
          simp only [g0, g1, g2, g3, g4, g5, g6, g7, g8, g9, g10, g11]
          cases c0 <;> cases c1 <;> cases bl <;> cases bm <;> rfl
        · have g0 : ltI n 0 = false := decide_eq_false (by omega)
          have g1 : ltI 0 n = true := decide_eq_true (by omega)
          have g2 : ltI n 1 = false := decide_eq_false (by omega)
          have g3 : ltI 1 n = true := decide_eq_true (by omega)
          have g4 : ltI n 2 = false := decide_eq_false (by omega)
          have g5 : ltI 2 n = true := decide_eq_true (by omega)
          have g6 : eqI n 0 = false := decide_eq_false (by omega)
          have g7 : eqI n 1 = false := decide_eq_false (by omega)
          have g8 : eqI n 2 = false := decide_eq_false (by omega)
          have g9 : leI 2 n = true := decide_eq_true (by omega)
          have g10 : leI n 30 = false := decide_eq_false (by omega)
          have g11 : ltI 30 n = true := decide_eq_true (by omega)
          simp only [g0, g1, g2, g3, g4, g5, g6, g7, g8, g9, g10, g11]
          cases c0 <;> cases c1 <;> cases bl <;> cases bm <;> rfl
      · rcases hn with rfl | rfl | rfl | hn | hn
        · cases c3 <;> cases bn <;> cases bm <;> rfl
        · have hK := h137 rfl
          subst hK
          cases c3 <;> cases bn <;> cases bm <;> rfl
        · cases c3 <;> cases bn <;> cases bm <;> rfl
        · have g0 : ltI n 0 = false := decide_eq_false (by omega)
          have g1 : ltI 0 n = true := decide_eq_true (by omega)
          have g2 : ltI n 1 = false := decide_eq_false (by omega)
          have g3 : ltI 1 n = true := decide_eq_true (by omega)
          have g4 : ltI n 2 = false := decide_eq_false (by omega)
          have g5 : ltI 2 n = true := decide_eq_true (by omega)
          have g6 : eqI n 0 = false := decide_eq_false (by omega)
          have g7 : eqI n 1 = false := decide_eq_false (by omega)
          have g8 : eqI n 2 = false := decide_eq_false (by omega)
          have g9 : leI 2 n = true := decide_eq_true (by omega)
          have g10 : leI n 30 = true := decide_eq_true (by omega)
          have g11 : ltI 30 n = false := decide_eq_false (by omega)
          simp only [g0, g1, g2, g3, g4, g5, g6, g7, g8, g9, g10, g11]
          cases c3 <;> cases bn <;> cases bm <;> rfl
        · have g0 : ltI n 0 = false := decide_eq_false (by omega)
          have g1 : ltI 0 n = true := decide_eq_true (by omega)
          have g2 : ltI n 1 = false := decide_eq_false (by omega)
          have g3 : ltI 1 n = true := decide_eq_true (by omega)
          have g4 : ltI n 2 = false := decide_eq_false (by omega)
          have g5 : ltI 2 n = true := decide_eq_true (by omega)
          have g6 : eqI n 0 = false := decide_eq_false (by omega)
          have g7 : eqI n 1 = false := decide_eq_false (by omega)
          have g8 : eqI n 2 = false := decide_eq_false (by omega)
          have g9 : leI 2 n = true := decide_eq_true (by omega)
          have g10 : leI n 30 = false := decide_eq_false (by omega)
          have g11 : ltI 30 n = true := decide_eq_true (by omega)
          simp only [g0, g1, g2, g3, g4, g5, g6, g7, g8, g9, g10, g11]
          cases c3 <;> cases bn <;> cases bm <;> rfl
      · rcases hn with rfl | rfl | rfl | hn | hn
        · cases c0 <;> cases c2 <;> cases bl <;> cases bm <;> cases bk <;> rfl
        · have hK := h137 rfl
          subst hK
          cases c0 <;> cases c2 <;> cases bl <;> cases bm <;> cases bk <;> rfl
        · cases c0 <;> cases c2 <;> cases bl <;> cases bm <;> cases bk <;> rfl
        · have g0 : ltI n 0 = false := decide_eq_false (by omega)
          have g1 : ltI 0 n = true := decide_eq_true (by omega)
          have g2 : ltI n 1 = false := decide_eq_false (by omega)
          have g3 : ltI 1 n = true := decide_eq_true (by omega)
          have g4 : ltI n 2 = false := decide_eq_false (by omega)
          have g5 : ltI 2 n = true := decide_eq_true (by omega)
          have g6 : eqI n 0 = false := decide_eq_false (by omega)
          have g7 : eqI n 1 = false := decide_eq_false (by omega)
          have g8 : eqI n 2 = false := decide_eq_false (by omega)
          have g9 : leI 2 n = true := decide_eq_true (by omega)
          have g10 : leI n 30 = true := decide_eq_true (by omega)
          have g11 : ltI 30 n = false := decide_eq_false (by omega)
          simp only [g0, g1, g2, g3, g4, g5, g6, g7, g8, g9, g10, g11]
          cases c0 <;> cases c2 <;> cases bl <;> cases bm <;> cases bk <;> rfl
        · have g0 : ltI n 0 = false := decide_eq_false (by omega)
          have g1 : ltI 0 n = true := decide_eq_true (by omega)
          have g2 : ltI n 1 = false := decide_eq_false (by omega)
          have g3 : ltI 1 n = true := decide_eq_true (by omega)
          have g4 : ltI n 2 = false := decide_eq_false (by omega)
          have g5 : ltI 2 n = true := decide_eq_true (by omega)
          have g6 : eqI n 0 = false := decide_eq_false (by omega)
          have g7 : eqI n 1 = false := decide_eq_false (by omega)
          have g8 : eqI n 2 = false := decide_eq_false (by omega)
          have g9 : leI 2 n = true := decide_eq_true (by omega)
          have g10 : leI n 30 = false := decide_eq_false (by omega)
          have g11 : ltI 30 n = true := decide_eq_true (by omega)
          simp only [g0, g1, g2, g3, g4, g5, g6, g7, g8, g9, g10, g11]
          cases c0 <;> cases c2 <;> cases bl <;> cases bm <;> cases bk <;> rfl
      · rcases hn with rfl | rfl | rfl | hn | hn
        · cases c3 <;> cases bl <;> cases bm <;> cases bk <;> rfl
        · have hK := h137 rfl
          subst hK
          cases c3 <;> cases bl <;> cases bm <;> cases bk <;> rfl
        · cases c3 <;> cases bl <;> cases bm <;> cases bk <;> rfl
        · have g0 : ltI n 0 = false := decide_eq_false (by omega)
          have g1 : ltI 0 n = true := decide_eq_true (by omega)
          have g2 : ltI n 1 = false := decide_eq_false (by omega)
          have g3 : ltI 1 n = true := decide_eq_true (by omega)
          have g4 : ltI n 2 = false := decide_eq_false (by omega)
          have g5 : ltI 2 n = true := decide_eq_true (by omega)
          have g6 : eqI n 0 = false := decide_eq_false (by omega)
          have g7 : eqI n 1 = false := decide_eq_false (by omega)
          have g8 : eqI n 2 = false := decide_eq_false (by omega)
          have g9 : leI 2 n = true := decide_eq_true (by omega)
          have g10 : leI n 30 = true := decide_eq_true (by omega)
          have g11 : ltI 30 n = false := decide_eq_false (by omega)
          simp only [g0, g1, g2, g3, g4, g5, g6, g7, g8, g9, g10, g11]
          cases c3 <;> cases bl <;> cases bm <;> cases bk <;> rfl
        · have g0 : ltI n 0 = false := decide_eq_false (by omega)
          have g1 : ltI 0 n = true := decide_eq_true (by omega)
          have g2 : ltI n 1 = false := decide_eq_false (by omega)
          have g3 : ltI 1 n = true := decide_eq_true (by omega)
          have g4 : ltI n 2 = false := decide_eq_false (by omega)
          have g5 : ltI 2 n = true := decide_eq_true (by omega)
          have g6 : eqI n 0 = false := decide_eq_false (by omega)
          have g7 : eqI n 1 = false := decide_eq_false (by omega)
          have g8 : eqI n 2 = false := decide_eq_false (by omega)
          have g9 : leI 2 n = true := decide_eq_true (by omega)
          have g10 : leI n 30 = false := decide_eq_false (by omega)
          have g11 : ltI 30 n = true := decide_eq_true (by omega)
          simp only [g0, g1, g2, g3, g4, g5, g6, g7, g8, g9, g10, g11]
          cases c3 <;> cases bl <;> cases bm <;> cases bk <;> rfl
      · rcases hn with rfl | rfl | rfl | hn | hn
        · cases c3 <;> cases bl <;> cases bk <;> rfl
        · have hK := h137 rfl
          subst hK
          cases c3 <;> cases bl <;> cases bk <;> rfl
        · cases c3 <;> cases bl <;> cases bk <;> rfl
        · have g0 : ltI n 0 = false := decide_eq_false (by omega)
          have g1 : ltI 0 n = true := decide_eq_true (by omega)
          have g2 : ltI n 1 = false := decide_eq_false (by omega)
          have g3 : ltI 1 n = true := decide_eq_true (by omega)
          have g4 : ltI n 2 = false := decide_eq_false (by omega)
          have g5 : ltI 2 n = true := decide_eq_true (by omega)
          have g6 : eqI n 0 = false := decide_eq_false (by omega)
          have g7 : eqI n 1 = false := decide_eq_false (by omega)
          have g8 : eqI n 2 = false := decide_eq_false (by omega)
          have g9 : leI 2 n = true := decide_eq_true (by omega)
          have g10 : leI n 30 = true := decide_eq_true (by omega)
          have g11 : ltI 30 n = false := decide_eq_false (by omega)
          simp only [g0, g1, g2, g3, g4, g5, g6, g7, g8, g9, g10, g11]
          cases c3 <;> cases bl <;> cases bk <;> rfl
        · have g0 : ltI n 0 = false := decide_eq_false (by omega)
          have g1 : ltI 0 n = true := decide_eq_true (by omega)
          have g2 : ltI n 1 = false := decide_eq_false (by omega)
          have g3 : ltI 1 n = true := decide_eq_true (by omega)
          have g4 : ltI n 2 = false := decide_eq_false (by omega)
          have g5 : ltI 2 n = true := decide_eq_true (by omega)
          have g6 : eqI n 0 = false := decide_eq_false (by omega)
          have g7 : eqI n 1 = false := decide_eq_false (by omega)
          have g8 : eqI n 2 = false := decide_eq_false (by omega)
          have g9 : leI 2 n = true := decide_eq_true (by omega)
          have g10 : leI n 30 = false := decide_eq_false (by omega)
          have g11 : ltI 30 n = true := decide_eq_true (by omega)
          simp only [g0, g1, g2, g3, g4, g5, g6, g7, g8, g9, g10, g11]
          cases c3 <;> cases bl <;> cases bk <;> rfl
      · rcases hn with rfl | rfl | rfl | hn | hn
        · cases c3 <;> cases bl <;> cases bm <;> rfl
        · have hK := h137 rfl
          subst hK
          cases c3 <;> cases bl <;> cases bm <;> rfl
        · cases c3 <;> cases bl <;> cases bm <;> rfl
        · have g0 : ltI n 0 = false := decide_eq_false (by omega)
          have g1 : ltI 0 n = true := decide_eq_true (by omega)
          have g2 : ltI n 1 = false := decide_eq_false (by omega)
          have g3 : ltI 1 n = true := decide_eq_true (by omega)
          have g4 : ltI n 2 = false := decide_eq_false (by omega)
          have g5 : ltI 2 n = true := decide_eq_true (by omega)
          have g6 : eqI n 0 = false := decide_eq_false (by omega)
          have g7 : eqI n 1 = false := decide_eq_false (by omega)
          have g8 : eqI n 2 = false := decide_eq_false (by omega)
          have g9 : leI 2 n = true := decide_eq_true (by omega)
          have g10 : leI n 30 = true := decide_eq_true (by omega)
          have g11 : ltI 30 n = false := decide_eq_false (by omega)
          simp only [g0, g1, g2, g3, g4, g5, g6, g7, g8, g9, g10, g11]
          cases c3 <;> cases bl <;> cases bm <;> rfl
        · have g0 : ltI n 0 = false := decide_eq_false (by omega)
          have g1 : ltI 0 n = true := decide_eq_true (by omega)
          have g2 : ltI n 1 = false := decide_eq_false (by omega)
          have g3 : ltI 1 n = true := decide_eq_true (by omega)
          have g4 : ltI n 2 = false := decide_eq_false (by omega)
          have g5 : ltI 2 n = true := decide_eq_true (by omega)
          have g6 : eqI n 0 = false := decide_eq_false (by omega)
          have g7 : eqI n 1 = false := decide_eq_false (by omega)
          have g8 : eqI n 2 = false := decide_eq_false (by omega)
          have g9 : leI 2 n = true := decide_eq_true (by omega)
          have g10 : leI n 30 = false := decide_eq_false (by omega)
          have g11 : ltI 30 n = true := decide_eq_true (by omega)
          simp only [g0, g1, g2, g3, g4, g5, g6, g7, g8, g9, g10, g11]
          cases c3 <;> cases bl <;> cases bm <;> rfl
      · rcases hn with rfl | rfl | rfl | hn | hn
        · cases c3 <;> cases bl <;> cases bm <;> rfl
        · have hK := h137 rfl
          subst hK
          cases c3 <;> cases bl <;> cases bm <;> rfl
        · cases c3 <;> cases bl <;> cases bm <;> rfl
        · have g0 : ltI n 0 = false := decide_eq_false (by omega)
          have g1 : ltI 0 n = true := decide_eq_true (by omega)
          have g2 : ltI n 1 = false := decide_eq_false (by omega)
          have g3 : ltI 1 n = true := decide_eq_true (by omega)
          have g4 : ltI n 2 = false := decide_eq_false (by omega)
          have g5 : ltI 2 n = true := decide_eq_true (by omega)
          have g6 : eqI n 0 = false := decide_eq_false (by omega)
          have g7 : eqI n 1 = false := decide_eq_false (by omega)
          have g8 : eqI n 2 = false := decide_eq_false (by omega)
          have g9 : leI 2 n = true := decide_eq_true (by omega)
          have g10 : leI n 30 = true := decide_eq_true (by omega)
          have g11 : ltI 30 n = false := decide_eq_false (by omega)
          simp only [g0, g1, g2, g3, g4, g5, g6, g7, g8, g9, g10, g11]
          cases c3 <;> cases bl <;> cases bm <;> rfl
        · have g0 : ltI n 0 = false := decide_eq_false (by omega)
          have g1 : ltI 0 n = true := decide_eq_true (by omega)
          have g2 : ltI n 1 = false := decide_eq_false (by omega)
          have g3 : ltI 1 n = true := decide_eq_true (by omega)
          have g4 : ltI n 2 = false := decide_eq_false (by omega)
          have g5 : ltI 2 n = true := decide_eq_true (by omega)
          have g6 : eqI n 0 = false := decide_eq_false (by omega)
          have g7 : eqI n 1 = false := decide_eq_false (by omega)
          have g8 : eqI n 2 = false := decide_eq_false (by omega)
          have g9 : leI 2 n = true := decide_eq_true (by omega)
          have g10 : leI n 30 = false := decide_eq_false (by omega)
          have g11 : ltI 30 n = true := decide_eq_true (by omega)
          simp only [g0, g1, g2, g3, g4, g5, g6, g7, g8, g9, g10, g11]
          cases c3 <;> cases bl <;> cases bm <;> rfl
      · rcases hn with rfl | rfl | rfl | hn | hn
        · cases c3 <;> cases bm <;> cases c4 <;> rfl
        · have hK := h137 rfl
          subst hK
          cases c3 <;> cases bm <;> cases c4 <;> rfl
        · cases c3 <;> cases bm <;> cases c4 <;> rfl
        · have g0 : ltI n 0 = false := decide_eq_false (by omega)
          have g1 : ltI 0 n = true := decide_eq_true (by omega)
          have g2 : ltI n 1 = false := decide_eq_false (by omega)
          have g3 : ltI 1 n = true := decide_eq_true (by omega)
          have g4 : ltI n 2 = false := decide_eq_false (by omega)
          have g5 : ltI 2 n = true := decide_eq_true (by omega)
          have g6 : eqI n 0 = false := decide_eq_false (by omega)
          have g7 : eqI n 1 = false := decide_eq_false (by omega)
          have g8 : eqI n 2 = false := decide_eq_false (by omega)
          have g9 : leI 2 n = true := decide_eq_true (by omega)
          have g10 : leI n 30 = true := decide_eq_true (by omega)
          have g11 : ltI 30 n = false := decide_eq_false (by omega)
          simp only [g0, g1, g2, g3, g4, g5, g6, g7, g8, g9, g10, g11]
          cases c3 <;> cases bm <;> cases c4 <;> rfl
        · have g0 : ltI n 0 = false := decide_eq_false (by omega)
          have g1 : ltI 0 n = true := decide_eq_true (by omega)
          have g2 : ltI n 1 = false := decide_eq_false (by omega)
          have g3 : ltI 1 n = true := decide_eq_true (by omega)
          have g4 : ltI n 2 = false := decide_eq_false (by omega)
          have g5 : ltI 2 n = true := decide_eq_true (by omega)
          have g6 : eqI n 0 = false := decide_eq_false (by omega)
          have g7 : eqI n 1 = false := decide_eq_false (by omega)
          have g8 : eqI n 2 = false := decide_eq_false (by omega)
          have g9 : leI 2 n = true := decide_eq_true (by omega)
          have g10 : leI n 30 = false := decide_eq_false (by omega)
          have g11 : ltI 30 n = true := decide_eq_true (by omega)
          simp only [g0, g1, g2, g3, g4, g5, g6, g7, g8, g9, g10, g11]
          cases c3 <;> cases bm <;> cases c4 <;> rfl
      · rcases hn with rfl | rfl | rfl | hn | hn
        · cases c3 <;> cases bm <;> cases bn <;> rfl
        · have hK := h137 rfl
          subst hK
          cases c3 <;> cases bm <;> cases bn <;> rfl
        · cases c3 <;> cases bm <;> cases bn <;> rfl
        · have g0 : ltI n 0 = false := decide_eq_false (by omega)
          have g1 : ltI 0 n = true := decide_eq_true (by omega)
          have g2 : ltI n 1 = false := decide_eq_false (by omega)
          have g3 : ltI 1 n = true := decide_eq_true (by omega)
          have g4 : ltI n 2 = false := decide_eq_false (by omega)
          have g5 : ltI 2 n = true := decide_eq_true (by omega)
          have g6 : eqI n 0 = false := decide_eq_false (by omega)
          have g7 : eqI n 1 = false := decide_eq_false (by omega)
          have g8 : eqI n 2 = false := decide_eq_false (by omega)
          have g9 : leI 2 n = true := decide_eq_true (by omega)
          have g10 : leI n 30 = true := decide_eq_true (by omega)
          have g11 : ltI 30 n = false := decide_eq_false (by omega)
          simp only [g0, g1, g2, g3, g4, g5, g6, g7, g8, g9, g10, g11]
          cases c3 <;> cases bm <;> cases bn <;> rfl
        · have g0 : ltI n 0 = false := decide_eq_false (by omega)
          have g1 : ltI 0 n = true := decide_eq_true (by omega)
          have g2 : ltI n 1 = false := decide_eq_false (by omega)
          have g3 : ltI 1 n = true := decide_eq_true (by omega)
          have g4 : ltI n 2 = false := decide_eq_false (by omega)
          have g5 : ltI 2 n = true := decide_eq_true (by omega)
          have g6 : eqI n 0 = false := decide_eq_false (by omega)
          have g7 : eqI n 1 = false := decide_eq_false (by omega)
          have g8 : eqI n 2 = false := decide_eq_false (by omega)
          have g9 : leI 2 n = true := decide_eq_true (by omega)
          have g10 : leI n 30 = false := decide_eq_false (by omega)
          have g11 : ltI 30 n = true := decide_eq_true (by omega)
          simp only [g0, g1, g2, g3, g4, g5, g6, g7, g8, g9, g10, g11]
          cases c3 <;> cases bm <;> cases bn <;> rfl
    · have e0 : (ltI k 1 || ltI 9 k) = true := by
        simp only [ltI, Bool.or_eq_true, decide_eq_true_eq]
        omega
      have e1 : eqI k 1 = false := decide_eq_false (by omega)
      have e2 : eqI k 2 = false := decide_eq_false (by omega)
      have e3 : eqI k 3 = false := decide_eq_false (by omega)
      have e4 : eqI k 4 = false := decide_eq_false (by omega)
      have e5 : eqI k 5 = false := decide_eq_false (by omega)
      have e6 : eqI k 6 = false := decide_eq_false (by omega)
      have e7 : eqI k 7 = false := decide_eq_false (by omega)
      have e8 : eqI k 8 = false := decide_eq_false (by omega)
      have e9 : eqI k 9 = false := decide_eq_false (by omega)
      simp only [e1, e2, e3, e4, e5, e6, e7, e8, e9]
      cases h1 : ltI k 1 with
      | true => simp only [Option.bind_some, cond_false, Bool.and_false]
      | false =>
        rw [h1, Bool.false_or] at e0
        simp only [e0, Option.bind_some, cond_false, Bool.and_false]
end Go.Lb.R
end
section
namespace Go.Lb.R
open Go.Lb
theorem thn_mem_lt {s x : GS} (h : x ∈ s.thn) : SizeOf.sizeOf x < SizeOf.sizeOf s := Nat.lt_trans (List.sizeOf_lt_of_mem h) GS.thn_lt
theorem els_mem_lt {s x : GS} (h : x ∈ s.els) : SizeOf.sizeOf x < SizeOf.sizeOf s := Nat.lt_trans (List.sizeOf_lt_of_mem h) GS.els_lt
def rightS1 (s : GS) : Bool :=
  let a : Int := s.thn.length
  let b : Int := s.els.length
  bif eqI s.kind 1 then nameB s.name && (noneB s.place && (eqI a 0 && eqI b 0))
  else bif eqI s.kind 2 then eqS s.name nilS && (placeB s.place && (rightE s.place && (eqI a 0 && eqI b 0)))
  else bif eqI s.kind 3 then eqS s.name nilS && noneB s.place
  else bif eqI s.kind 4 then eqS s.name nilS && (noneB s.place && eqI b 0)
  else false
mutual
def rightS : GS → Bool
  | .mk k s p e t f => rightE e && ((rightSs t && leI (t.length : Int) 30) && ((rightSs f && leI (f.length : Int) 30) && rightS1 (.mk k s p e t f)))
def rightSs : List GS → Bool
  | [] => true
  | t :: r => rightS t && rightSs r
end
theorem rightSs_all : ∀ l : List GS, rightSs l = l.all rightS
  | [] => rfl
  | t :: r => by simp only [rightSs, List.all_cons, rightSs_all r]
def rightL (l : List GS) : Bool := l.all rightS && leI (l.length : Int) 30
theorem rightS_eq (s : GS) : rightS s = (rightE s.expr && (rightL s.thn && (rightL s.els && rightS1 s))) := by
  cases s
  simp only [rightS, rightSs_all]
  rfl
end Go.Lb.R
end
section
namespace Go.Lb.R
open Go.Lb
theorem nameB_nil {s : Str} (h : eqS s nilS = true) : nameB s = false := by
  have h' : s = [] := by simpa [eqS, nilS] using h
  subst h'
  rfl
theorem placeB_none {e : GE} (h : placeB e = true) : noneB e = false := by
  cases hn : eqI e.kind 0 with
  | false => simp [noneB, hn]
  | true =>
    have h0 : e.kind = 0 := of_decide_eq_true hn
    rw [placeB, h0] at h
    cases h
theorem k75_loop (l : List GS) (hl : l.length ≤ MX) (IH : ∀ x ∈ l, k75 x = some ((rightS x, ()), ())) : (k75_0 l (l.length : Int) 0 = some (Sum.inl ((), ((), ()), ())) ∧ l.all rightS = true) ∨ ((∃ j : Nat, k75_0 l (l.length : Int) 0 = some (Sum.inr (((j : Int), ()), ((), ()), ()))) ∧ l.all rightS = false) := by
  have := loop_all0 (l := l) (p := rightS) (L := fun i => k75_0 l (l.length : Int) (i : Int)) (good := Sum.inl ((), ((), ()), ())) (bad := fun j => Sum.inr (((j : Int), ()), ((), ()), ()))
    (fun i hi => by
      rw [k75_0, ltI_true hi]
      simp only [idx_nat hi, Option.bind_eq_bind, Option.bind_some, nf_eq, w64_succ hl hi, IH _ (List.getElem_mem hi)]
      cases rightS l[i] <;> rfl)
    (by rw [k75_0, ltI_false (Nat.lt_irrefl _)])
  exact this
theorem k75_eq : ∀ (n : Nat) (s : GS), SizeOf.sizeOf s < n → okS s → k75 s = some ((rightS s, ()), ())
  | 0, s, h, _ => by omega
  | n + 1, s, h, ho => by
    obtain ⟨h1, h2, h3, ⟨h4, h5⟩, h6, h7⟩ := okS_at ho
    have e1 := k75_loop s.thn h4 fun x hx => k75_eq n x (by have := thn_mem_lt hx; omega) (okSs_mem h5 hx)
    have e2 := k75_loop s.els h6 fun x hx => k75_eq n x (by have := els_mem_lt hx; omega) (okSs_mem h7 hx)
    have f1 : eqS s.name nilS = false ∨ nameB s.name = false := by
      cases h : eqS s.name nilS with
      | false => exact .inl rfl
      | true => exact .inr (nameB_nil h)
    have f2 : placeB s.place = false ∨ noneB s.place = false := by
      cases h : placeB s.place with
      | false => exact .inl rfl
      | true => exact .inr (placeB_none h)
    have z1 : ∀ l : List GS, eqI (l.length : Int) 0 = !ltI 0 (l.length : Int) := fun l => by
      cases l with
      | nil => rfl
      | cons a r =>
        rw [show eqI ((a :: r).length : Int) 0 = false from decide_eq_false (by simp only [List.length_cons]; omega), show ltI 0 ((a :: r).length : Int) = true from decide_eq_true (by simp only [List.length_cons]; omega)]
        rfl
    rw [k75, rightS_eq]
    simp only [k77_eq _ s.expr (Nat.lt_succ_self _) h3, k77_eq _ s.place (Nat.lt_succ_self _) h2, k70_eq _ h1, k112_eq, k113_eq, Option.bind_eq_bind, Option.bind_some, rightS1, z1]
    simp only [rightL]
    generalize s.thn.all rightS = b1 at *
    generalize s.els.all rightS = b2 at *
    generalize k75_0 s.thn _ 0 = X1 at *
    generalize k75_0 s.els _ 0 = X2 at *
    generalize leI (s.thn.length : Int) 30 = q1
    generalize leI (s.els.length : Int) 30 = q2
    generalize ltI 0 (s.thn.length : Int) = l1
    generalize ltI 0 (s.els.length : Int) = l2
    generalize rightE s.expr = be
    generalize rightE s.place = br
    generalize nameB s.name = bn at *
    generalize eqS s.name _ = bl at *
    generalize noneB s.place = bo at *
    generalize placeB s.place = bp at *
    generalize s.kind = k at *
    clear h1 h2 h3 h4 h5 h6 h7 z1 ho h
    by_cases hk : k = 1 ∨ k = 2 ∨ k = 3 ∨ k = 4
    · have t1 : eqB true true = true := rfl
      have t2 : eqB true false = false := rfl
      have t3 : eqB false true = false := rfl
      have t4 : eqB false false = true := rfl
      rcases hk with rfl | rfl | rfl | rfl
      · simp only [show ltI 1 1 = false from rfl, show ltI 2 1 = false from rfl, show ltI 3 1 = false from rfl, show ltI 4 1 = false from rfl, show ltI 4 2 = false from rfl, show ltI 4 3 = false from rfl, show ltI 4 4 = false from rfl, show eqI 1 1 = true from rfl, show eqI 1 2 = false from rfl, show eqI 1 3 = false from rfl, show eqI 1 4 = false from rfl, show eqI 2 1 = false from rfl, show eqI 2 2 = true from rfl, show eqI 2 3 = false from rfl, show eqI 2 4 = false from rfl, show eqI 3 1 = false from rfl, show eqI 3 2 = false from rfl, show eqI 3 3 = true from rfl, show eqI 3 4 = false from rfl, show eqI 4 1 = false from rfl, show eqI 4 2 = false from rfl, show eqI 4 3 = false from rfl, show eqI 4 4 = true from rfl, Option.bind_some]
        cases be with
        | false =>
          simp only [t1, t2, t3, t4, Option.bind_some, Bool.not_true, Bool.not_false, Bool.true_and, Bool.false_and, Bool.and_true, Bool.and_false, cond_true, cond_false, leI_neg, leI_nat]
        | true =>
          simp only [t1, t2, t3, t4, Option.bind_some, Bool.not_true, Bool.not_false, Bool.true_and, Bool.false_and, Bool.and_true, Bool.and_false, cond_true, cond_false, leI_neg, leI_nat]
          cases bl with
          | true =>
            rcases f1 with f1 | rfl; cases f1
            simp only [t1, t2, t3, t4, Option.bind_some, Bool.not_true, Bool.not_false, Bool.true_and, Bool.false_and, Bool.and_true, Bool.and_false, cond_true, cond_false, leI_neg, leI_nat]
          | false =>
            simp only [t1, t2, t3, t4, Option.bind_some, Bool.not_true, Bool.not_false, Bool.true_and, Bool.false_and, Bool.and_true, Bool.and_false, cond_true, cond_false, leI_neg, leI_nat]
            cases bn with
            | false =>
              simp only [t1, t2, t3, t4, Option.bind_some, Bool.not_true, Bool.not_false, Bool.true_and, Bool.false_and, Bool.and_true, Bool.and_false, cond_true, cond_false, leI_neg, leI_nat]
            | true =>
              simp only [t1, t2, t3, t4, Option.bind_some, Bool.not_true, Bool.not_false, Bool.true_and, Bool.false_and, Bool.and_true, Bool.and_false, cond_true, cond_false, leI_neg, leI_nat]
              cases bo with
              | false =>
                simp only [t1, t2, t3, t4, Option.bind_some, Bool.not_true, Bool.not_false, Bool.true_and, Bool.false_and, Bool.and_true, Bool.and_false, cond_true, cond_false, leI_neg, leI_nat]
              | true =>
                simp only [t1, t2, t3, t4, Option.bind_some, Bool.not_true, Bool.not_false, Bool.true_and, Bool.false_and, Bool.and_true, Bool.and_false, cond_true, cond_false, leI_neg, leI_nat]
                cases l1 with
                | true =>
                  simp only [t1, t2, t3, t4, Option.bind_some, Bool.not_true, Bool.not_false, Bool.true_and, Bool.false_and, Bool.and_true, Bool.and_false, cond_true, cond_false, leI_neg, leI_nat]
                | false =>
                  simp only [t1, t2, t3, t4, Option.bind_some, Bool.not_true, Bool.not_false, Bool.true_and, Bool.false_and, Bool.and_true, Bool.and_false, cond_true, cond_false, leI_neg, leI_nat]
                  cases l2 with
                  | true =>
                    simp only [t1, t2, t3, t4, Option.bind_some, Bool.not_true, Bool.not_false, Bool.true_and, Bool.false_and, Bool.and_true, Bool.and_false, cond_true, cond_false, leI_neg, leI_nat]
                  | false =>
                    simp only [t1, t2, t3, t4, Option.bind_some, Bool.not_true, Bool.not_false, Bool.true_and, Bool.false_and, Bool.and_true, Bool.and_false, cond_true, cond_false, leI_neg, leI_nat]
                    cases q1 <;> rcases e1 with ⟨rfl, rfl⟩ | ⟨⟨j, rfl⟩, rfl⟩ <;> simp only [t1, t2, t3, t4, Option.bind_some, Bool.not_true, Bool.not_false, Bool.true_and, Bool.false_and, Bool.and_true, Bool.and_false, cond_true, cond_false, leI_neg, leI_nat] <;> cases q2 <;> rcases e2 with ⟨rfl, rfl⟩ | ⟨⟨j', rfl⟩, rfl⟩ <;> simp only [t1, t2, t3, t4, Option.bind_some, Bool.not_true, Bool.not_false, Bool.true_and, Bool.false_and, Bool.and_true, Bool.and_false, cond_true, cond_false, leI_neg, leI_nat]
      · simp only [show ltI 1 1 = false from rfl, show ltI 2 1 = false from rfl, show ltI 3 1 = false from rfl, show ltI 4 1 = false from rfl, show ltI 4 2 = false from rfl, show ltI 4 3 = false from rfl, show ltI 4 4 = false from rfl, show eqI 1 1 = true from rfl, show eqI 1 2 = false from rfl, show eqI 1 3 = false from rfl, show eqI 1 4 = false from rfl, show eqI 2 1 = false from rfl, show eqI 2 2 = true from rfl, show eqI 2 3 = false from rfl, show eqI 2 4 = false from rfl, show eqI 3 1 = false from rfl, show eqI 3 2 = false from rfl, show eqI 3 3 = true from rfl, show eqI 3 4 = false from rfl, show eqI 4 1 = false from rfl, show eqI 4 2 = false from rfl, show eqI 4 3 = false from rfl, show eqI 4 4 = true from rfl, Option.bind_some]
        cases be with
        | false =>
          simp only [t1, t2, t3, t4, Option.bind_some, Bool.not_true, Bool.not_false, Bool.true_and, Bool.false_and, Bool.and_true, Bool.and_false, cond_true, cond_false, leI_neg, leI_nat]
        | true =>
          simp only [t1, t2, t3, t4, Option.bind_some, Bool.not_true, Bool.not_false, Bool.true_and, Bool.false_and, Bool.and_true, Bool.and_false, cond_true, cond_false, leI_neg, leI_nat]
          cases bl with
          | false =>
            simp only [t1, t2, t3, t4, Option.bind_some, Bool.not_true, Bool.not_false, Bool.true_and, Bool.false_and, Bool.and_true, Bool.and_false, cond_true, cond_false, leI_neg, leI_nat]
          | true =>
            simp only [t1, t2, t3, t4, Option.bind_some, Bool.not_true, Bool.not_false, Bool.true_and, Bool.false_and, Bool.and_true, Bool.and_false, cond_true, cond_false, leI_neg, leI_nat]
            cases bo with
            | true =>
              rcases f2 with rfl | f2
              · simp only [t1, t2, t3, t4, Option.bind_some, Bool.not_true, Bool.not_false, Bool.true_and, Bool.false_and, Bool.and_true, Bool.and_false, cond_true, cond_false, leI_neg, leI_nat]
              · cases f2
            | false =>
              simp only [t1, t2, t3, t4, Option.bind_some, Bool.not_true, Bool.not_false, Bool.true_and, Bool.false_and, Bool.and_true, Bool.and_false, cond_true, cond_false, leI_neg, leI_nat]
              cases bp with
              | false =>
                simp only [t1, t2, t3, t4, Option.bind_some, Bool.not_true, Bool.not_false, Bool.true_and, Bool.false_and, Bool.and_true, Bool.and_false, cond_true, cond_false, leI_neg, leI_nat]
              | true =>
                simp only [t1, t2, t3, t4, Option.bind_some, Bool.not_true, Bool.not_false, Bool.true_and, Bool.false_and, Bool.and_true, Bool.and_false, cond_true, cond_false, leI_neg, leI_nat]
                cases br with
                | false =>
                  simp only [t1, t2, t3, t4, Option.bind_some, Bool.not_true, Bool.not_false, Bool.true_and, Bool.false_and, Bool.and_true, Bool.and_false, cond_true, cond_false, leI_neg, leI_nat]
                | true =>
                  simp only [t1, t2, t3, t4, Option.bind_some, Bool.not_true, Bool.not_false, Bool.true_and, Bool.false_and, Bool.and_true, Bool.and_false, cond_true, cond_false, leI_neg, leI_nat]
                  cases l1 with
                  | true =>
                    simp only [t1, t2, t3, t4, Option.bind_some, Bool.not_true, Bool.not_false, Bool.true_and, Bool.false_and, Bool.and_true, Bool.and_false, cond_true, cond_false, leI_neg, leI_nat]
                  | false =>
                    simp only [t1, t2, t3, t4, Option.bind_some, Bool.not_true, Bool.not_false, Bool.true_and, Bool.false_and, Bool.and_true, Bool.and_false, cond_true, cond_false, leI_neg, leI_nat]
                    cases l2 with
                    | true =>
                      simp only [t1, t2, t3, t4, Option.bind_some, Bool.not_true, Bool.not_false, Bool.true_and, Bool.false_and, Bool.and_true, Bool.and_false, cond_true, cond_false, leI_neg, leI_nat]
                    | false =>
                      simp only [t1, t2, t3, t4, Option.bind_some, Bool.not_true, Bool.not_false, Bool.true_and, Bool.false_and, Bool.and_true, Bool.and_false, cond_true, cond_false, leI_neg, leI_nat]
                      cases q1 <;> rcases e1 with ⟨rfl, rfl⟩ | ⟨⟨j, rfl⟩, rfl⟩ <;> simp only [t1, t2, t3, t4, Option.bind_some, Bool.not_true, Bool.not_false, Bool.true_and, Bool.false_and, Bool.and_true, Bool.and_false, cond_true, cond_false, leI_neg, leI_nat] <;> cases q2 <;> rcases e2 with ⟨rfl, rfl⟩ | ⟨⟨j', rfl⟩, rfl⟩ <;> simp only [t1, t2, t3, t4, Option.bind_some, Bool.not_true, Bool.not_false, Bool.true_and, Bool.false_and, Bool.and_true, Bool.and_false, cond_true, cond_false, leI_neg, leI_nat]
      · simp only [show ltI 1 1 = false from rfl, show ltI 2 1 = false from rfl, show ltI 3 1 = false from rfl, show ltI 4 1 = false from rfl, show ltI 4 2 = false from rfl, show ltI 4 3 = false from rfl, show ltI 4 4 = false from rfl, show eqI 1 1 = true from rfl, show eqI 1 2 = false from rfl, show eqI 1 3 = false from rfl, show eqI 1 4 = false from rfl, show eqI 2 1 = false from rfl, show eqI 2 2 = true from rfl, show eqI 2 3 = false from rfl, show eqI 2 4 = false from rfl, show eqI 3 1 = false from rfl, show eqI 3 2 = false from rfl, show eqI 3 3 = true from rfl, show eqI 3 4 = false from rfl, show eqI 4 1 = false from rfl, show eqI 4 2 = false from rfl, show eqI 4 3 = false from rfl, show eqI 4 4 = true from rfl, Option.bind_some]
        cases be with
        | false =>
          simp only [t1, t2, t3, t4, Option.bind_some, Bool.not_true, Bool.not_false, Bool.true_and, Bool.false_and, Bool.and_true, Bool.and_false, cond_true, cond_false, leI_neg, leI_nat]
        | true =>
          simp only [t1, t2, t3, t4, Option.bind_some, Bool.not_true, Bool.not_false, Bool.true_and, Bool.false_and, Bool.and_true, Bool.and_false, cond_true, cond_false, leI_neg, leI_nat]
          cases bl with
          | false =>
            simp only [t1, t2, t3, t4, Option.bind_some, Bool.not_true, Bool.not_false, Bool.true_and, Bool.false_and, Bool.and_true, Bool.and_false, cond_true, cond_false, leI_neg, leI_nat]
          | true =>
            simp only [t1, t2, t3, t4, Option.bind_some, Bool.not_true, Bool.not_false, Bool.true_and, Bool.false_and, Bool.and_true, Bool.and_false, cond_true, cond_false, leI_neg, leI_nat]
            cases bo with
            | false =>
              simp only [t1, t2, t3, t4, Option.bind_some, Bool.not_true, Bool.not_false, Bool.true_and, Bool.false_and, Bool.and_true, Bool.and_false, cond_true, cond_false, leI_neg, leI_nat]
            | true =>
              simp only [t1, t2, t3, t4, Option.bind_some, Bool.not_true, Bool.not_false, Bool.true_and, Bool.false_and, Bool.and_true, Bool.and_false, cond_true, cond_false, leI_neg, leI_nat]
              cases q1 <;> rcases e1 with ⟨rfl, rfl⟩ | ⟨⟨j, rfl⟩, rfl⟩ <;> simp only [t1, t2, t3, t4, Option.bind_some, Bool.not_true, Bool.not_false, Bool.true_and, Bool.false_and, Bool.and_true, Bool.and_false, cond_true, cond_false, leI_neg, leI_nat] <;> cases q2 <;> rcases e2 with ⟨rfl, rfl⟩ | ⟨⟨j', rfl⟩, rfl⟩ <;> simp only [t1, t2, t3, t4, Option.bind_some, Bool.not_true, Bool.not_false, Bool.true_and, Bool.false_and, Bool.and_true, Bool.and_false, cond_true, cond_false, leI_neg, leI_nat]
      · simp only [show ltI 1 1 = false from rfl, show ltI 2 1 = false from rfl, show ltI 3 1 = false from rfl, show ltI 4 1 = false from rfl, show ltI 4 2 = false from rfl, show ltI 4 3 = false from rfl, show ltI 4 4 = false from rfl, show eqI 1 1 = true from rfl, show eqI 1 2 = false from rfl, show eqI 1 3 = false from rfl, show eqI 1 4 = false from rfl, show eqI 2 1 = false from rfl, show eqI 2 2 = true from rfl, show eqI 2 3 = false from rfl, show eqI 2 4 = false from rfl, show eqI 3 1 = false from rfl, show eqI 3 2 = false from rfl, show eqI 3 3 = true from rfl, show eqI 3 4 = false from rfl, show eqI 4 1 = false from rfl, show eqI 4 2 = false from rfl, show eqI 4 3 = false from rfl, show eqI 4 4 = true from rfl, Option.bind_some]
        cases be with
        | false =>
          simp only [t1, t2, t3, t4, Option.bind_some, Bool.not_true, Bool.not_false, Bool.true_and, Bool.false_and, Bool.and_true, Bool.and_false, cond_true, cond_false, leI_neg, leI_nat]
        | true =>
          simp only [t1, t2, t3, t4, Option.bind_some, Bool.not_true, Bool.not_false, Bool.true_and, Bool.false_and, Bool.and_true, Bool.and_false, cond_true, cond_false, leI_neg, leI_nat]
          cases bl with
          | false =>
            simp only [t1, t2, t3, t4, Option.bind_some, Bool.not_true, Bool.not_false, Bool.true_and, Bool.false_and, Bool.and_true, Bool.and_false, cond_true, cond_false, leI_neg, leI_nat]
          | true =>
            simp only [t1, t2, t3, t4, Option.bind_some, Bool.not_true, Bool.not_false, Bool.true_and, Bool.false_and, Bool.and_true, Bool.and_false, cond_true, cond_false, leI_neg, leI_nat]
            cases bo with
            | false =>
              simp only [t1, t2, t3, t4, Option.bind_some, Bool.not_true, Bool.not_false, Bool.true_and, Bool.false_and, Bool.and_true, Bool.and_false, cond_true, cond_false, leI_neg, leI_nat]
            | true =>
              simp only [t1, t2, t3, t4, Option.bind_some, Bool.not_true, Bool.not_false, Bool.true_and, Bool.false_and, Bool.and_true, Bool.and_false, cond_true, cond_false, leI_neg, leI_nat]
              cases l2 with
              | true =>
                simp only [t1, t2, t3, t4, Option.bind_some, Bool.not_true, Bool.not_false, Bool.true_and, Bool.false_and, Bool.and_true, Bool.and_false, cond_true, cond_false, leI_neg, leI_nat]
              | false =>
                simp only [t1, t2, t3, t4, Option.bind_some, Bool.not_true, Bool.not_false, Bool.true_and, Bool.false_and, Bool.and_true, Bool.and_false, cond_true, cond_false, leI_neg, leI_nat]
                cases q1 <;> rcases e1 with ⟨rfl, rfl⟩ | ⟨⟨j, rfl⟩, rfl⟩ <;> simp only [t1, t2, t3, t4, Option.bind_some, Bool.not_true, Bool.not_false, Bool.true_and, Bool.false_and, Bool.and_true, Bool.and_false, cond_true, cond_false, leI_neg, leI_nat] <;> cases q2 <;> rcases e2 with ⟨rfl, rfl⟩ | ⟨⟨j', rfl⟩, rfl⟩ <;> simp only [t1, t2, t3, t4, Option.bind_some, Bool.not_true, Bool.not_false, Bool.true_and, Bool.false_and, Bool.and_true, Bool.and_false, cond_true, cond_false, leI_neg, leI_nat]
    · have a5 : (ltI k 1 || ltI 4 k) = true := by
        simp only [ltI, Bool.or_eq_true, decide_eq_true_eq]
        omega
      have e1' : eqI k 1 = false := decide_eq_false (by omega)
      have e2' : eqI k 2 = false := decide_eq_false (by omega)
      have e3 : eqI k 3 = false := decide_eq_false (by omega)
      have e4 : eqI k 4 = false := decide_eq_false (by omega)
      simp only [e1', e2', e3, e4, cond_false, Bool.and_false]
      cases h1 : ltI k 1 with
      | true => rfl
      | false =>
        rw [h1, Bool.false_or] at a5
        rw [a5]
        rfl
theorem k57_eq (a b : Int) : k57 a b = some ((imax a b, ()), ()) := by
  rw [k57, ltI, imax]
  by_cases h : b < a
  · rw [decide_eq_true h, if_neg (by omega)]
  · rw [decide_eq_false h]
    by_cases h' : b > a
    · rw [if_pos h']
    · rw [if_neg h', show a = b by omega]
theorem imax_max (a b : Int) : imax a b = max a b := by
  unfold imax
  split <;> omega
mutual
def loopS : GS → Int
  | .mk k _ _ _ t f => let m := imax (loopSs 0 t) (loopSs 0 f); bif eqI k 4 then w64 (m + 1) else m
def loopSs : Int → List GS → Int
  | a, [] => a
  | a, s :: r => loopSs (imax a (loopS s)) r
end
theorem loopS_eq (s : GS) : loopS s = (bif eqI s.kind 4 then w64 (imax (loopSs 0 s.thn) (loopSs 0 s.els) + 1) else imax (loopSs 0 s.thn) (loopSs 0 s.els)) := by
  cases s
  simp only [loopS]
  rfl
theorem loopSs_fold : ∀ (l : List GS) (a : Int), loopSs a l = l.foldl (fun a s => imax a (loopS s)) a
  | [], a => by simp only [loopSs, List.foldl_nil]
  | s :: r, a => by simp only [loopSs, List.foldl_cons, loopSs_fold r]
theorem k55_of (l : List GS) (hl : l.length ≤ MX) (IH : ∀ s ∈ l, k55 s.thn = some ((loopSs 0 s.thn, ()), ()) ∧ k55 s.els = some ((loopSs 0 s.els, ()), ())) : k55 l = some ((loopSs 0 l, ()), ()) := by
  have := loop_fold (l := l) (σ := Int) (L := fun a i => k55_0 l a (i : Int)) (st := fun a s => imax a (loopS s)) (fin := fun a => ((a, ()), ())) (Inv := fun _ _ => True)
    (fun a i hi _ => ⟨trivial, by
      obtain ⟨i1, i2⟩ := IH _ (List.getElem_mem hi)
      rw [k55_0, ltI_true hi]
      simp only [idx_nat hi, Option.bind_eq_bind, Option.bind_some, i1, i2, k57_eq, w64_succ hl hi, loopS_eq]
      cases eqI l[i].kind 4 <;> rfl⟩)
    (fun a _ => by rw [k55_0, ltI_false (Nat.lt_irrefl _)]) l.length 0 0 (by omega) trivial
  rw [show ((0 : Nat) : Int) = 0 from rfl, List.drop_zero, ← loopSs_fold] at this
  rw [k55, this]
  rfl
theorem k76_of (l : List GS) (hl : l.length ≤ MX) (IH : ∀ s ∈ l, k76 s.thn = some ((loopSs 0 s.thn, ()), ()) ∧ k76 s.els = some ((loopSs 0 s.els, ()), ())) : k76 l = some ((loopSs 0 l, ()), ()) := by
  have := loop_fold (l := l) (σ := Int) (L := fun a i => k76_0 a l (l.length : Int) (i : Int)) (st := fun a s => imax a (loopS s)) (fin := fun a => ((a, ()), ())) (Inv := fun _ _ => True)
    (fun a i hi _ => ⟨trivial, by
      obtain ⟨i1, i2⟩ := IH _ (List.getElem_mem hi)
      rw [k76_0, ltI_true hi]
      simp only [idx_nat hi, Option.bind_eq_bind, Option.bind_some, i1, i2, w64_succ hl hi, loopS_eq]
      cases eqI l[i].kind 4 <;> rfl⟩)
    (fun a _ => by rw [k76_0, ltI_false (Nat.lt_irrefl _)]) l.length 0 0 (by omega) trivial
  rw [show ((0 : Nat) : Int) = 0 from rfl, List.drop_zero, ← loopSs_fold] at this
  rw [k76, this]
  rfl
theorem loops_eq : ∀ (n : Nat) (l : List GS), SizeOf.sizeOf l < n → l.length ≤ MX → okSs l → k55 l = some ((loopSs 0 l, ()), ()) ∧ k76 l = some ((loopSs 0 l, ()), ())
  | 0, l, h, _, _ => by omega
  | n + 1, l, h, hl, ho => by
    have key : ∀ s ∈ l, (k55 s.thn = some ((loopSs 0 s.thn, ()), ()) ∧ k76 s.thn = some ((loopSs 0 s.thn, ()), ())) ∧ (k55 s.els = some ((loopSs 0 s.els, ()), ()) ∧ k76 s.els = some ((loopSs 0 s.els, ()), ())) := fun s hs => by
      obtain ⟨_, _, _, ⟨h4, h5⟩, h6, h7⟩ := okS_at (okSs_mem ho hs)
      have q0 := List.sizeOf_lt_of_mem hs
      have q1 := GS.thn_lt (t := s)
      have q2 := GS.els_lt (t := s)
      exact ⟨loops_eq n _ (by omega) h4 h5, loops_eq n _ (by omega) h6 h7⟩
    exact ⟨k55_of l hl fun s hs => ⟨(key s hs).1.1, (key s hs).2.1⟩, k76_of l hl fun s hs => ⟨(key s hs).1.2, (key s hs).2.2⟩⟩
end Go.Lb.R
end
section
namespace Go.Lb.R
open Go.Lb
mutual
def depT : GT → Int
  | .mk k _ _ ks => bif ltI k 2 then 0 else bif ltI 4 k then 0 else w64 (depTs 0 ks + 1)
def depTs : Int → List GT → Int
  | a, [] => a
  | a, s :: r => depTs (imax a (depT s)) r
end
theorem depT_eq (s : GT) : depT s = (bif ltI s.kind 2 then 0 else bif ltI 4 s.kind then 0 else w64 (depTs 0 s.kids + 1)) := by
  cases s
  simp only [depT]
  rfl
theorem depTs_fold : ∀ (l : List GT) (a : Int), depTs a l = l.foldl (fun a s => imax a (depT s)) a
  | [], a => by simp only [depTs, List.foldl_nil]
  | s :: r, a => by simp only [depTs, List.foldl_cons, depTs_fold r]
theorem k58_loop (t : GT) (hl : t.kids.length ≤ MX) (IH : ∀ s ∈ t.kids, k58 s = some ((depT s, ()), ())) : k58_0 t 0 0 = some ((depTs 0 t.kids, ()), ()) := by
  have := loop_fold (l := t.kids) (σ := Int) (L := fun a i => k58_0 t a (i : Int)) (st := fun a s => imax a (depT s)) (fin := fun a => ((a, ()), ())) (Inv := fun _ _ => True)
    (fun a i hi _ => ⟨trivial, by
      rw [k58_0, ltI_true hi]
      simp only [idx_nat hi, Option.bind_eq_bind, Option.bind_some, IH _ (List.getElem_mem hi), k57_eq, w64_succ hl hi]⟩)
    (fun a _ => by rw [k58_0, ltI_false (Nat.lt_irrefl _)]) t.kids.length 0 0 (by omega) trivial
  rw [show ((0 : Nat) : Int) = 0 from rfl, List.drop_zero, ← depTs_fold] at this
  exact this
theorem k99_loop (l : List GT) (hl : l.length ≤ MX) (IH : ∀ s ∈ l, k99 s = some ((depT s, ()), ())) : k99_0 0 l (l.length : Int) 0 = some ((depTs 0 l, ()), ()) := by
  have := loop_fold (l := l) (σ := Int) (L := fun a i => k99_0 a l (l.length : Int) (i : Int)) (st := fun a s => imax a (depT s)) (fin := fun a => ((a, ()), ())) (Inv := fun _ _ => True)
    (fun a i hi _ => ⟨trivial, by
      rw [k99_0, ltI_true hi]
      simp only [idx_nat hi, Option.bind_eq_bind, Option.bind_some, IH _ (List.getElem_mem hi), w64_succ hl hi]⟩)
    (fun a _ => by rw [k99_0, ltI_false (Nat.lt_irrefl _)]) l.length 0 0 (by omega) trivial
  rw [show ((0 : Nat) : Int) = 0 from rfl, List.drop_zero, ← depTs_fold] at this
  exact this
theorem depT_ks : ∀ (n : Nat) (t : GT), SizeOf.sizeOf t < n → okT t → k58 t = some ((depT t, ()), ()) ∧ k99 t = some ((depT t, ()), ())
  | 0, t, h, _ => by omega
  | n + 1, t, h, ho => by
    obtain ⟨h1, h2⟩ := okT_kids ho
    have IH := fun x (hx : x ∈ t.kids) => depT_ks n x (by have := GT.kids_lt hx; omega) (h2 x hx)
    have e1 := k58_loop t h1 fun x hx => (IH x hx).1
    have e2 := k99_loop t.kids h1 fun x hx => (IH x hx).2
    rw [k58, k99, e1, e2, depT_eq]
    simp only [Option.bind_eq_bind, Option.bind_some, Int.add_comm 1]
    constructor <;> cases ltI t.kind 2 <;> cases ltI 4 t.kind <;> rfl
def parB (st : Int) (i : Nat) (sk : Int) : Bool := bif eqI st 1 then eqI sk 1 else bif ltI sk st then true else bif eqI (i : Int) 1 then eqI sk st else false
mutual
def depE : GE → Int
  | .mk k n s m ks => bif ltI k 3 then 0 else bif ltI 9 k then 0 else w64 (depEs (strE (.mk k n s m ks)) (eqI k 8) 0 0 ks + 1)
def depEs (st : Int) (b : Bool) : Nat → Int → List GE → Int
  | _, a, [] => a
  | i, a, x :: r => depEs st b (i + 1) (imax a (bif b && (ltI (i : Int) 2 && parB st i (strE x)) then w64 (depE x + 1) else depE x)) r
end
theorem depE_eq (s : GE) : depE s = (bif ltI s.kind 3 then 0 else bif ltI 9 s.kind then 0 else w64 (depEs (strE s) (eqI s.kind 8) 0 0 s.kids + 1)) := by
  cases s
  simp only [depE]
  rfl
theorem k93_eq {e : GE} {i : Nat} (h : i < e.kids.length) : k93 e (i : Int) = some ((parB (strE e) i (strE e.kids[i]), ()), ()) := by
  rw [k93]
  simp only [idx_nat h, Option.bind_eq_bind, Option.bind_some, k92_eq, parB]
  cases eqI (strE e) 1 <;> cases ltI (strE e.kids[i]) (strE e) <;> cases eqI (i : Int) 1 <;> rfl
theorem k127_eq {e : GE} {i : Nat} (h : i < e.kids.length) (hi : ltI (i : Int) 2 = true) : k127 e (i : Int) = some ((parB (strE e) i (strE e.kids[i]), ()), ()) := by
  have hi' : (i : Int) < 2 := of_decide_eq_true hi
  rw [k127]
  simp only [idx_nat h, Option.bind_eq_bind, Option.bind_some, k140_eq, parB]
  have hs1 := strE_range e
  have hs2 := strE_range e.kids[i]
  generalize strE e.kids[i] = s2 at *
  generalize strE e = s1 at *
  obtain rfl | rfl : i = 0 ∨ i = 1 := by omega
  all_goals
    rcases hs1 with rfl | rfl | rfl | rfl <;> rcases hs2 with rfl | rfl | rfl | rfl <;> rfl
theorem k60_loop (t : GE) (hl : t.kids.length ≤ MX) (IH : ∀ s ∈ t.kids, k60 s = some ((depE s, ()), ())) : ∀ (d i : Nat) (a : Int), i + d = t.kids.length → k60_0 t a (i : Int) = some ((depEs (strE t) (eqI t.kind 8) i a (t.kids.drop i), ()), ())
  | 0, i, a, h => by
    rw [List.drop_of_length_le (by omega), k60_0, ltI_false (by omega)]
    simp only [depEs]
  | d + 1, i, a, h => by
    have hi : i < t.kids.length := by omega
    rw [drop_at hi, k60_0, ltI_true hi]
    simp only [idx_nat hi, Option.bind_eq_bind, Option.bind_some, IH _ (List.getElem_mem hi), k93_eq hi, k57_eq, w64_succ hl hi, depEs]
    rw [← k60_loop t hl IH d (i + 1) _ (by omega)]
    cases eqI t.kind 8 <;> cases ltI (i : Int) 2 <;> cases parB (strE t) i (strE t.kids[i]) <;> rfl
theorem k102_loop (t : GE) (hl : t.kids.length ≤ MX) (IH : ∀ s ∈ t.kids, k102 s = some ((depE s, ()), ())) : ∀ (d i : Nat) (a : Int), i + d = t.kids.length → k102_0 t a t.kids (t.kids.length : Int) (i : Int) = some ((depEs (strE t) (eqI t.kind 8) i a (t.kids.drop i), ()), ())
  | 0, i, a, h => by
    rw [List.drop_of_length_le (by omega), k102_0, ltI_false (by omega)]
    simp only [depEs]
  | d + 1, i, a, h => by
    have hi : i < t.kids.length := by omega
    rw [drop_at hi, k102_0, ltI_true hi]
    simp only [idx_nat hi, Option.bind_eq_bind, Option.bind_some, IH _ (List.getElem_mem hi), w64_succ hl hi, depEs]
    rw [← k102_loop t hl IH d (i + 1) _ (by omega)]
    have e := @k127_eq t i hi
    cases eqI t.kind 8
    · cases ltI (i : Int) 2 <;> cases parB (strE t) i (strE t.kids[i]) <;> rfl
    · cases h2 : ltI (i : Int) 2
      · cases parB (strE t) i (strE t.kids[i]) <;> rfl
      · rw [e h2]
        cases parB (strE t) i (strE t.kids[i]) <;> rfl
theorem depE_ks : ∀ (n : Nat) (t : GE), SizeOf.sizeOf t < n → okE t → k60 t = some ((depE t, ()), ()) ∧ k102 t = some ((depE t, ()), ())
  | 0, t, h, _ => by omega
  | n + 1, t, h, ho => by
    obtain ⟨h1, h2⟩ := okE_kids ho
    have IH := fun x (hx : x ∈ t.kids) => depE_ks n x (by have := GE.kids_lt hx; omega) (h2 x hx)
    have e1 := k60_loop t h1 (fun x hx => (IH x hx).1) _ 0 0 (Nat.zero_add _)
    have e2 := k102_loop t h1 (fun x hx => (IH x hx).2) _ 0 0 (Nat.zero_add _)
    rw [show ((0 : Nat) : Int) = 0 from rfl, List.drop_zero] at e1 e2
    rw [k60, k102, e1, e2, depE_eq]
    simp only [Option.bind_eq_bind, Option.bind_some]
    constructor <;> cases ltI t.kind 3 <;> cases ltI 9 t.kind <;> rfl
mutual
def depS : GS → Int
  | .mk _ _ p e t f => w64 (1 + imax (imax (depE p) (depE e)) (imax (depSs 0 t) (depSs 0 f)))
def depSs : Int → List GS → Int
  | a, [] => a
  | a, s :: r => depSs (imax a (depS s)) r
end
theorem depS_eq (s : GS) : depS s = w64 (1 + imax (imax (depE s.place) (depE s.expr)) (imax (depSs 0 s.thn) (depSs 0 s.els))) := by
  cases s
  simp only [depS]
  rfl
theorem depSs_fold : ∀ (l : List GS) (a : Int), depSs a l = l.foldl (fun a s => imax a (depS s)) a
  | [], a => by simp only [depSs, List.foldl_nil]
  | s :: r, a => by simp only [depSs, List.foldl_cons, depSs_fold r]
theorem imax_assoc (a b c : Int) : imax (imax a b) c = imax a (imax b c) := by
  simp only [imax_max]
  omega
theorem k101_loop (l : List GS) (hl : l.length ≤ MX) (IH : ∀ s ∈ l, k101 s = some ((depS s, ()), ())) : k101_0 0 l (l.length : Int) 0 = some ((depSs 0 l, ()), ()) := by
  have := loop_fold (l := l) (σ := Int) (L := fun a i => k101_0 a l (l.length : Int) (i : Int)) (st := fun a s => imax a (depS s)) (fin := fun a => ((a, ()), ())) (Inv := fun _ _ => True)
    (fun a i hi _ => ⟨trivial, by
      rw [k101_0, ltI_true hi]
      simp only [idx_nat hi, Option.bind_eq_bind, Option.bind_some, IH _ (List.getElem_mem hi), w64_succ hl hi]⟩)
    (fun a _ => by rw [k101_0, ltI_false (Nat.lt_irrefl _)]) l.length 0 0 (by omega) trivial
  rw [show ((0 : Nat) : Int) = 0 from rfl, List.drop_zero, ← depSs_fold] at this
  exact this
theorem k101_eq : ∀ (n : Nat) (s : GS), SizeOf.sizeOf s < n → okS s → k101 s = some ((depS s, ()), ())
  | 0, s, h, _ => by omega
  | n + 1, s, h, ho => by
    obtain ⟨h1, h2, h3, ⟨h4, h5⟩, h6, h7⟩ := okS_at ho
    have e1 := k101_loop s.thn h4 fun x hx => k101_eq n x (by have := thn_mem_lt hx; omega) (okSs_mem h5 hx)
    have e2 := k101_loop s.els h6 fun x hx => k101_eq n x (by have := els_mem_lt hx; omega) (okSs_mem h7 hx)
    rw [k101, e1, e2, depS_eq]
    simp only [(depE_ks _ _ (Nat.lt_succ_self _) h2).2, (depE_ks _ _ (Nat.lt_succ_self _) h3).2, Option.bind_eq_bind, Option.bind_some, imax_assoc]
end Go.Lb.R
end
section
namespace Go.Lb.R
open Go.Lb
def depPs (a : Int) (l : List GP) : Int := l.foldl (fun a p => imax a (depT p.ty)) a
def depF (f : GF) : Int := imax (imax (imax (depPs 0 f.params) (depT f.gives)) (depSs 0 f.body)) (depE f.value)
def depP (l : List GF) : Int := l.foldl (fun a f => imax a (depF f)) 0
theorem k66_eq (f : GF) (ho : okF f) : k66 f = some ((depF f, ()), ()) := by
  have e1 : k66_0 0 f.params (f.params.length : Int) 0 = some ((depPs 0 f.params, ()), ()) := by
    have := loop_fold (l := f.params) (σ := Int) (L := fun a i => k66_0 a f.params (f.params.length : Int) (i : Int)) (st := fun a p => imax a (depT p.ty)) (fin := fun a => ((a, ()), ())) (Inv := fun _ _ => True)
      (fun a i hi _ => ⟨trivial, by
        rw [k66_0, ltI_true hi]
        simp only [idx_nat hi, Option.bind_eq_bind, Option.bind_some, nf_eq, (depT_ks _ _ (Nat.lt_succ_self _) (ho.params.2 _ (List.getElem_mem hi)).2).2, w64_succ ho.params.1 hi]⟩)
      (fun a _ => by rw [k66_0, ltI_false (Nat.lt_irrefl _)]) f.params.length 0 0 (by omega) trivial
    rw [show ((0 : Nat) : Int) = 0 from rfl, List.drop_zero] at this
    exact this
  have e2 : k66_1 0 f.body (f.body.length : Int) 0 = some ((depSs 0 f.body, ()), ()) := by
    have := loop_fold (l := f.body) (σ := Int) (L := fun a i => k66_1 a f.body (f.body.length : Int) (i : Int)) (st := fun a s => imax a (depS s)) (fin := fun a => ((a, ()), ())) (Inv := fun _ _ => True)
      (fun a i hi _ => ⟨trivial, by
        rw [k66_1, ltI_true hi]
        simp only [idx_nat hi, Option.bind_eq_bind, Option.bind_some, nf_eq, k101_eq _ _ (Nat.lt_succ_self _) (okSs_mem ho.body.2 (List.getElem_mem hi)), w64_succ ho.body.1 hi]⟩)
      (fun a _ => by rw [k66_1, ltI_false (Nat.lt_irrefl _)]) f.body.length 0 0 (by omega) trivial
    rw [show ((0 : Nat) : Int) = 0 from rfl, List.drop_zero, ← depSs_fold] at this
    exact this
  rw [k66, e1, e2]
  simp only [(depT_ks _ _ (Nat.lt_succ_self _) ho.gives).2, (depE_ks _ _ (Nat.lt_succ_self _) ho.value).2, Option.bind_eq_bind, Option.bind_some, depF]
theorem k36_eq (l : List GF) (ho : okPr l) : k36 l = some ((depP l, ()), ()) := by
  have := loop_fold (l := l) (σ := Int) (L := fun a i => k36_0 a l (l.length : Int) (i : Int)) (st := fun a p => imax a (depF p)) (fin := fun a => ((a, ()), ())) (Inv := fun _ _ => True)
    (fun a i hi _ => ⟨trivial, by
      rw [k36_0, ltI_true hi]
      simp only [idx_nat hi, Option.bind_eq_bind, Option.bind_some, nf_eq, k66_eq _ (ho.2 _ (List.getElem_mem hi)), w64_succ ho.1 hi]⟩)
    (fun a _ => by rw [k36_0, ltI_false (Nat.lt_irrefl _)]) l.length 0 0 (by omega) trivial
  rw [show ((0 : Nat) : Int) = 0 from rfl, List.drop_zero] at this
  rw [k36, this]
  rfl
def namesL (l : List Str) : Bool := l.all nameB && leI (l.length : Int) 30
def parB1 (p : GP) : Bool := nameB p.name && rightT p.ty
def paramsL (l : List GP) : Bool := l.all parB1 && leI (l.length : Int) 30
def evenB (l : List Str) : Bool := eqI (Int.tmod (l.length : Int) 2) 0
def rightF (f : GF) : Bool := nameB f.name && (namesL f.lives && (paramsL f.params && (rightT f.gives && (namesL f.outs && (evenB f.outs && (rightL f.body && (leI (loopSs 0 f.body) 3 && rightE f.value)))))))
def rightP (p : List GF) : Bool := leI (depP p) 40 && (leI (p.length : Int) 30 && p.all rightF)
theorem k38_0_all (l : List Str) (ho : okNs l) : (k38_0 l (l.length : Int) 0 = some (Sum.inl ((), ((), ()), ())) ∧ l.all nameB = true) ∨ ((∃ j : Nat, k38_0 l (l.length : Int) 0 = some (Sum.inr (((j : Int), ()), ((), ()), ()))) ∧ l.all nameB = false) :=
  loop_all0 (l := l) (p := nameB) (L := fun i => k38_0 l (l.length : Int) (i : Int)) (good := Sum.inl ((), ((), ()), ())) (bad := fun j => Sum.inr (((j : Int), ()), ((), ()), ()))
    (fun i hi => by
      rw [k38_0, ltI_true hi]
      simp only [idx_nat hi, Option.bind_eq_bind, Option.bind_some, nf_eq, w64_succ ho.1 hi, k70_eq _ (ho.2 _ (List.getElem_mem hi))]
      cases nameB l[i] <;> rfl)
    (by rw [k38_0, ltI_false (Nat.lt_irrefl _)])
theorem k38_1_all (l : List GP) (ho : okPs l) : (k38_1 l (l.length : Int) 0 = some (Sum.inl ((), ((), ()), ())) ∧ l.all parB1 = true) ∨ ((∃ j : Nat, k38_1 l (l.length : Int) 0 = some (Sum.inr (((j : Int), ()), ((), ()), ()))) ∧ l.all parB1 = false) :=
  loop_all0 (l := l) (p := parB1) (L := fun i => k38_1 l (l.length : Int) (i : Int)) (good := Sum.inl ((), ((), ()), ())) (bad := fun j => Sum.inr (((j : Int), ()), ((), ()), ()))
    (fun i hi => by
      have o := ho.2 _ (List.getElem_mem hi)
      rw [k38_1, ltI_true hi]
      simp only [idx_nat hi, Option.bind_eq_bind, Option.bind_some, nf_eq, w64_succ ho.1 hi, k70_eq _ o.1, k71_eq _ _ (Nat.lt_succ_self _) o.2, parB1]
      cases nameB l[i].name <;> cases rightT l[i].ty <;> rfl)
    (by rw [k38_1, ltI_false (Nat.lt_irrefl _)])
theorem k38_2_all (l : List GS) (hl : l.length ≤ MX) (ho : okSs l) : (k38_2 l (l.length : Int) 0 = some (Sum.inl ((), ((), ()), ())) ∧ l.all rightS = true) ∨ ((∃ j : Nat, k38_2 l (l.length : Int) 0 = some (Sum.inr (((j : Int), ()), ((), ()), ()))) ∧ l.all rightS = false) :=
  loop_all0 (l := l) (p := rightS) (L := fun i => k38_2 l (l.length : Int) (i : Int)) (good := Sum.inl ((), ((), ()), ())) (bad := fun j => Sum.inr (((j : Int), ()), ((), ()), ()))
    (fun i hi => by
      rw [k38_2, ltI_true hi]
      simp only [idx_nat hi, Option.bind_eq_bind, Option.bind_some, nf_eq, w64_succ hl hi, k75_eq _ _ (Nat.lt_succ_self _) (okSs_mem ho (List.getElem_mem hi))]
      cases rightS l[i] <;> rfl)
    (by rw [k38_2, ltI_false (Nat.lt_irrefl _)])
theorem k38_eq (f : GF) (ho : okF f) : k38 f = some ((rightF f, ()), ()) := by
  have e1 := k38_0_all f.lives ho.lives
  have e2 := k38_0_all f.outs ho.outs
  have e3 := k38_1_all f.params ho.params
  have e4 := k38_2_all f.body ho.body.1 ho.body.2
  rw [k38]
  simp only [k70_eq _ ho.name, k71_eq _ _ (Nat.lt_succ_self _) ho.gives, (loops_eq _ _ (Nat.lt_succ_self _) ho.body.1 ho.body.2).2, k77_eq _ _ (Nat.lt_succ_self _) ho.value, Option.bind_eq_bind, Option.bind_some, rightF, namesL, paramsL, evenB, rightL]
  generalize f.lives.all nameB = b1 at *
  generalize f.outs.all nameB = b2 at *
  generalize f.params.all parB1 = b3 at *
  generalize f.body.all rightS = b4 at *
  generalize k38_0 f.lives _ 0 = X1 at *
  generalize k38_0 f.outs _ 0 = X2 at *
  generalize k38_1 f.params _ 0 = X3 at *
  generalize k38_2 f.body _ 0 = X4 at *
  generalize leI (f.lives.length : Int) 30 = c1
  generalize leI (f.outs.length : Int) 30 = c2
  generalize leI (f.params.length : Int) 30 = c3
  generalize leI (f.body.length : Int) 30 = c4
  generalize nameB f.name = a1
  generalize rightT f.gives = a2
  generalize leI (loopSs 0 f.body) 3 = a3
  generalize rightE f.value = a4
  generalize eqI (Int.tmod (f.outs.length : Int) 2) 0 = a5
  clear ho
  cases a1 with
  | false => simp only [Option.bind_some, Bool.not_true, Bool.not_false, Bool.true_and, Bool.false_and, Bool.and_true, Bool.and_false, leI_neg, leI_nat]
  | true =>
    simp only [Option.bind_some, Bool.not_true, Bool.not_false, Bool.true_and, Bool.false_and, Bool.and_true, Bool.and_false, leI_neg, leI_nat]
    cases c1 with
    | false => simp only [Option.bind_some, Bool.not_true, Bool.not_false, Bool.true_and, Bool.false_and, Bool.and_true, Bool.and_false, leI_neg, leI_nat]
    | true =>
      simp only [Option.bind_some, Bool.not_true, Bool.not_false, Bool.true_and, Bool.false_and, Bool.and_true, Bool.and_false, leI_neg, leI_nat]
      rcases e1 with ⟨rfl, rfl⟩ | ⟨⟨j, rfl⟩, rfl⟩
      rotate_left
      · simp only [Option.bind_some, Bool.not_true, Bool.not_false, Bool.true_and, Bool.false_and, Bool.and_true, Bool.and_false, leI_neg, leI_nat]
      simp only [Option.bind_some, Bool.not_true, Bool.not_false, Bool.true_and, Bool.false_and, Bool.and_true, Bool.and_false, leI_neg, leI_nat]
      cases c3 with
      | false => simp only [Option.bind_some, Bool.not_true, Bool.not_false, Bool.true_and, Bool.false_and, Bool.and_true, Bool.and_false, leI_neg, leI_nat]
      | true =>
        simp only [Option.bind_some, Bool.not_true, Bool.not_false, Bool.true_and, Bool.false_and, Bool.and_true, Bool.and_false, leI_neg, leI_nat]
        rcases e3 with ⟨rfl, rfl⟩ | ⟨⟨j, rfl⟩, rfl⟩
        rotate_left
        · simp only [Option.bind_some, Bool.not_true, Bool.not_false, Bool.true_and, Bool.false_and, Bool.and_true, Bool.and_false, leI_neg, leI_nat]
        simp only [Option.bind_some, Bool.not_true, Bool.not_false, Bool.true_and, Bool.false_and, Bool.and_true, Bool.and_false, leI_neg, leI_nat]
        cases a2 with
        | false => simp only [Option.bind_some, Bool.not_true, Bool.not_false, Bool.true_and, Bool.false_and, Bool.and_true, Bool.and_false, leI_neg, leI_nat]
        | true =>
          simp only [Option.bind_some, Bool.not_true, Bool.not_false, Bool.true_and, Bool.false_and, Bool.and_true, Bool.and_false, leI_neg, leI_nat]
          cases c2 with
          | false => simp only [Option.bind_some, Bool.not_true, Bool.not_false, Bool.true_and, Bool.false_and, Bool.and_true, Bool.and_false, leI_neg, leI_nat]
          | true =>
            simp only [Option.bind_some, Bool.not_true, Bool.not_false, Bool.true_and, Bool.false_and, Bool.and_true, Bool.and_false, leI_neg, leI_nat]
            rcases e2 with ⟨rfl, rfl⟩ | ⟨⟨j, rfl⟩, rfl⟩
            rotate_left
            · simp only [Option.bind_some, Bool.not_true, Bool.not_false, Bool.true_and, Bool.false_and, Bool.and_true, Bool.and_false, leI_neg, leI_nat]
            simp only [Option.bind_some, Bool.not_true, Bool.not_false, Bool.true_and, Bool.false_and, Bool.and_true, Bool.and_false, leI_neg, leI_nat]
            cases a5 with
            | false => simp only [Option.bind_some, Bool.not_true, Bool.not_false, Bool.true_and, Bool.false_and, Bool.and_true, Bool.and_false, leI_neg, leI_nat]
            | true =>
              simp only [Option.bind_some, Bool.not_true, Bool.not_false, Bool.true_and, Bool.false_and, Bool.and_true, Bool.and_false, leI_neg, leI_nat]
              cases c4 with
              | false => simp only [Option.bind_some, Bool.not_true, Bool.not_false, Bool.true_and, Bool.false_and, Bool.and_true, Bool.and_false, leI_neg, leI_nat]
              | true =>
                simp only [Option.bind_some, Bool.not_true, Bool.not_false, Bool.true_and, Bool.false_and, Bool.and_true, Bool.and_false, leI_neg, leI_nat]
                rcases e4 with ⟨rfl, rfl⟩ | ⟨⟨j, rfl⟩, rfl⟩
                rotate_left
                · simp only [Option.bind_some, Bool.not_true, Bool.not_false, Bool.true_and, Bool.false_and, Bool.and_true, Bool.and_false, leI_neg, leI_nat]
                simp only [Option.bind_some, Bool.not_true, Bool.not_false, Bool.true_and, Bool.false_and, Bool.and_true, Bool.and_false, leI_neg, leI_nat]
                cases a3 with
                | false => simp only [Option.bind_some, Bool.not_true, Bool.not_false, Bool.true_and, Bool.false_and, Bool.and_true, Bool.and_false, leI_neg, leI_nat]
                | true =>
                  simp only [Option.bind_some, Bool.not_true, Bool.not_false, Bool.true_and, Bool.false_and, Bool.and_true, Bool.and_false, leI_neg, leI_nat]
theorem k22_eq (p : List GF) (ho : okPr p) : k22 p = some ((rightP p, ()), ()) := by
  have := loop_all0 (l := p) (p := rightF) (L := fun i => k22_0 p (p.length : Int) (i : Int)) (good := Sum.inl ((), ((), ()), ())) (bad := fun j => Sum.inr (((j : Int), ()), ((), ()), ()))
    (fun i hi => by
      rw [k22_0, ltI_true hi]
      simp only [idx_nat hi, Option.bind_eq_bind, Option.bind_some, nf_eq, w64_succ ho.1 hi, k38_eq _ (ho.2 _ (List.getElem_mem hi))]
      cases rightF p[i] <;> rfl)
    (by rw [k22_0, ltI_false (Nat.lt_irrefl _)])
  rw [show ((0 : Nat) : Int) = 0 from rfl] at this
  rw [k22, k36_eq p ho, rightP]
  simp only [Option.bind_eq_bind, Option.bind_some]
  rcases this with ⟨h1, h2⟩ | ⟨⟨j, h1⟩, h2⟩
  · rw [h1, h2]
    cases leI (p.length : Int) 30 <;> cases leI (depP p) 40 <;> rfl
  · rw [h1, h2]
    simp only [Option.bind_some, leI_nat]
    cases leI (p.length : Int) 30 <;> cases leI (depP p) 40 <;> rfl
end Go.Lb.R
end
section
namespace Go.Lb.R
open Go.Lb
abbrev LM : Nat := 274877906944
theorem app_ok {α : Type} {b : Nat} {l m : List α} (hb : b ≤ 512) (h : l.length + m.length ≤ LM) : app b l m = some (l ++ m) := by
  unfold app
  have : (l.length + m.length) * b ≤ LM * 512 := Nat.mul_le_mul h hb
  rw [if_pos (by simp only [LM] at this; omega)]
def inB (u : Str) (l : List Str) : Bool := l.any fun y => eqS u y
theorem inB_app (u s : Str) (l : List Str) : inB u (l ++ [s]) = (eqS u s || inB u l) := by
  simp only [inB, List.any_append, List.any_cons, List.any_nil, Bool.or_false]
  rw [Bool.or_comm]
theorem mgetL_put {β : Type} (u k : Str) (v : β) : ∀ l : Mp β, mgetL u (mputL k v l) = bif eqS u k then some v else mgetL u l
  | [] => by simp only [mputL, mgetL, eqS]
  | p :: l => by
    simp only [mputL]
    cases h : (k == p.1) with
    | true =>
      have e : k = p.1 := by simpa using h
      simp only [cond_true, mgetL]
      show (bif u == k then some v else mgetL u l) = bif u == k then some v else bif u == p.1 then some p.2 else mgetL u l
      cases h2 : (u == k) with
      | true => rfl
      | false => rw [← e, h2]; rfl
    | false =>
      simp only [cond_false, mgetL, mgetL_put u k v l]
      cases h2 : (u == p.1) with
      | true =>
        have e : u = p.1 := by simpa using h2
        have : eqS u k = false := by
          cases h3 : eqS u k with
          | false => rfl
          | true =>
            have := eqS_iff.1 h3
            rw [← this, e] at h
            simp at h
        rw [this]
        rfl
      | false => rfl
def lk (M : Mp Bool) : Str → Bool := fun u => mLook u M false
theorem lk_put (M : Mp Bool) (k : Str) : lk (mputL k true M) = fun u => eqS u k || lk M u := by
  funext u
  simp only [lk, mLook, mgetL_put]
  cases eqS u k <;> rfl
def allTrue (M : Mp Bool) : Prop := ∀ p ∈ M, p.2 = true
theorem allTrue_put {k : Str} : ∀ {M : Mp Bool}, allTrue M → allTrue (mputL k true M)
  | [], _ => fun p hp => by
    simp only [mputL, List.mem_singleton] at hp
    subst hp
    rfl
  | q :: M, h => by
    intro p hp
    simp only [mputL] at hp
    cases hb : (k == q.1) with
    | true =>
      rw [hb] at hp
      rcases List.mem_cons.1 hp with rfl | hp
      · rfl
      · exact h p (by simp [hp])
    | false =>
      rw [hb] at hp
      rcases List.mem_cons.1 hp with rfl | hp
      · exact h _ (by simp)
      · exact allTrue_put (fun p hp => h p (by simp [hp])) p hp
theorem innerL_id : ∀ {M : Mp Bool}, allTrue M → innerL M = M
  | [], _ => rfl
  | q :: M, h => by
    have h1 : q.2 = true := h q (by simp)
    have h2 := innerL_id (M := M) fun p hp => h p (by simp [hp])
    simp only [innerL, List.map_cons] at h2 ⊢
    rw [h2, ← h1]
theorem kh_inner_eq {M : Mp Bool} (h : allTrue M) : kh_inner M = some (((), ()), (M, (M, ()))) := by
  show some (((), ()), (M, (innerL M, ()))) = _
  rw [innerL_id h]
def onceGo : (Str → Bool) → List Str → Bool
  | _, [] => true
  | p, s :: r => !p s && onceGo (fun u => eqS u s || p u) r
def once (l : List Str) : Bool := onceGo (fun _ => false) l
theorem k43_eq (l : List Str) (hl : l.length ≤ MX) : k43 l = some ((once l, ()), ()) := by
  have : ∀ (d i : Nat) (M : Mp Bool), i + d = l.length → (∃ M', k43_0 l (l.length : Int) (i : Int) M = some (Sum.inl ((), M', ())) ∧ onceGo (lk M) (l.drop i) = true) ∨ (∃ M', k43_0 l (l.length : Int) (i : Int) M = some (Sum.inr ((false, ()), M', ())) ∧ onceGo (lk M) (l.drop i) = false) := by
    intro d
    induction d with
    | zero =>
      intro i M h
      refine .inl ⟨M, ?_, ?_⟩
      · rw [k43_0, ltI_false (by omega)]
      · rw [List.drop_of_length_le (by omega)]; rfl
    | succ d ih =>
      intro i M h
      have hi : i < l.length := by omega
      have := ih (i + 1) (mputL l[i] true M) (by omega)
      rw [lk_put] at this
      rw [drop_at hi, k43_0, ltI_true hi]
      simp only [idx_nat hi, Option.bind_eq_bind, Option.bind_some, nf_eq, w64_succ hl hi, onceGo]
      cases hL : lk M l[i] with
      | true =>
        have : mLook l[i] M false = true := hL
        rw [this]
        exact .inr ⟨M, rfl, rfl⟩
      | false =>
        have h0 : mLook l[i] M false = false := hL
        rw [h0]
        simpa using this
  have h0 := this l.length 0 [] (by omega)
  rw [show ((0 : Nat) : Int) = 0 from rfl, List.drop_zero, show lk [] = fun _ => false from rfl] at h0
  rw [k43]
  rcases h0 with ⟨M', h1, h2⟩ | ⟨M', h1, h2⟩
  · rw [h1, once, h2]; rfl
  · rw [h1, once, h2]; rfl
def cntI (s : Str) (l : List Str) : Int := ((l.countP fun y => eqS y s : Nat) : Int)
theorem cnt_any (s : Str) (l : List Str) : (l.countP fun y => eqS y s) = 0 ↔ inB s l = false := by
  rw [List.countP_eq_zero]
  simp only [inB, List.any_eq_false, eqS_comm s]
theorem cnt_pos (s : Str) (l : List Str) : ltI 0 (cntI s l) = inB s l := by
  cases h : inB s l with
  | false =>
    have := (cnt_any s l).2 h
    exact decide_eq_false (by simp only [cntI]; omega)
  | true =>
    have : ¬ (l.countP fun y => eqS y s) = 0 := fun e => by rw [(cnt_any s l).1 e] at h; cases h
    exact decide_eq_true (by simp only [cntI]; omega)
theorem cnt_zero (s : Str) (l : List Str) : eqI (cntI s l) 0 = !inB s l := by
  cases h : inB s l with
  | false =>
    have := (cnt_any s l).2 h
    exact decide_eq_true (by simp only [cntI]; omega)
  | true =>
    have : ¬ (l.countP fun y => eqS y s) = 0 := fun e => by rw [(cnt_any s l).1 e] at h; cases h
    exact decide_eq_false (by simp only [cntI]; omega)
mutual
def livesT : GT → List Str
  | .mk k s _ ks => (bif eqI k 4 then [s] else []) ++ livesTs ks
def livesTs : List GT → List Str
  | [] => []
  | t :: r => livesT t ++ livesTs r
end
mutual
def wtT : GT → Nat
  | .mk _ _ _ ks => wtTs ks + 1
def wtTs : List GT → Nat
  | [] => 0
  | t :: r => wtT t + wtTs r
end
theorem livesT_eq (t : GT) : livesT t = (bif eqI t.kind 4 then [t.life] else []) ++ livesTs t.kids := by
  cases t
  simp only [livesT]
  rfl
theorem wtT_eq (t : GT) : wtT t = wtTs t.kids + 1 := by
  cases t
  simp only [wtT]
  rfl
theorem wtTs_mem : ∀ {l : List GT} {t : GT}, t ∈ l → wtT t ≤ wtTs l
  | a :: l, t, h => by
    simp only [wtTs]
    rcases List.mem_cons.1 h with rfl | h
    · omega
    · have := wtTs_mem h
      omega
mutual
theorem livesT_len : ∀ t : GT, (livesT t).length ≤ wtT t
  | .mk k s m ks => by
    have := livesTs_len ks
    simp only [livesT, wtT]
    cases eqI k 4 <;> simp <;> omega
theorem livesTs_len : ∀ l : List GT, (livesTs l).length ≤ wtTs l
  | [] => by simp [livesTs, wtTs]
  | t :: r => by
    have h1 := livesT_len t
    have h2 := livesTs_len r
    simp only [livesTs, wtTs, List.length_append]
    omega
end
theorem k42_loop (l : List GT) (hl : l.length ≤ MX) (IH : ∀ t ∈ l, k42 t = some ((livesT t, ()), ())) : ∀ (d i : Nat) (a : List Str), i + d = l.length → a.length + wtTs (l.drop i) ≤ LM → k42_0 a l (l.length : Int) (i : Int) = some ((a ++ livesTs (l.drop i), ()), ())
  | 0, i, a, h, _ => by
    rw [List.drop_of_length_le (by omega), k42_0, ltI_false (by omega)]
    simp [livesTs]
  | d + 1, i, a, h, hw => by
    have hi : i < l.length := by omega
    rw [drop_at hi] at hw ⊢
    simp only [wtTs] at hw
    have hlen := livesT_len l[i]
    rw [k42_0, ltI_true hi]
    simp only [idx_nat hi, Option.bind_eq_bind, Option.bind_some, nf_eq, w64_succ hl hi, IH _ (List.getElem_mem hi)]
    rw [app_ok (by decide) (by omega)]
    simp only [Option.bind_some]
    rw [k42_loop l hl IH d (i + 1) _ (by omega) (by rw [List.length_append]; omega)]
    simp [livesTs]
theorem k42_eq : ∀ (n : Nat) (t : GT), SizeOf.sizeOf t < n → okT t → wtT t ≤ LM → k42 t = some ((livesT t, ()), ())
  | 0, t, h, _, _ => by omega
  | n + 1, t, h, ho, hw => by
    obtain ⟨h1, h2⟩ := okT_kids ho
    rw [wtT_eq] at hw
    have IH : ∀ x ∈ t.kids, k42 x = some ((livesT x, ()), ()) := fun x hx => k42_eq n x (by have := GT.kids_lt hx; omega) (h2 x hx) (by have := wtTs_mem hx; omega)
    have e0 := k42_loop t.kids h1 IH t.kids.length 0 [] (by omega) (by simp; omega)
    have e1 := k42_loop t.kids h1 IH t.kids.length 0 [t.life] (by omega) (by simp; omega)
    rw [show ((0 : Nat) : Int) = 0 from rfl, List.drop_zero] at e0 e1
    rw [k42, livesT_eq]
    cases eqI t.kind 4 with
    | true =>
      simp only [app_ok (b := 16) (l := ([] : List Str)) (m := [GT.life t]) (by decide) (by simp only [List.length_nil, List.length_cons]; decide), Option.bind_eq_bind, Option.bind_some]
      rw [List.nil_append, e1]
      rfl
    | false =>
      simp only
      rw [e0]
      rfl
end Go.Lb.R
end
section
namespace Go.Lb.R
open Go.Lb
mutual
def exprB (p : Str → Bool) (c : Str → Option Int) : GE → Bool
  | .mk k _ s _ ks => exprBs p c ks && (bif eqI k 2 then p s else bif eqI k 9 then (match c s with | some n => eqI n (ks.length : Int) | none => false) else true)
def exprBs (p : Str → Bool) (c : Str → Option Int) : List GE → Bool
  | [] => true
  | e :: r => exprB p c e && exprBs p c r
end
theorem exprBs_all (p : Str → Bool) (c : Str → Option Int) : ∀ l : List GE, exprBs p c l = l.all (exprB p c)
  | [] => rfl
  | e :: r => by simp only [exprBs, List.all_cons, exprBs_all p c r]
theorem exprB_eq (p : Str → Bool) (c : Str → Option Int) (e : GE) : exprB p c e = (e.kids.all (exprB p c) && (bif eqI e.kind 2 then p e.name else bif eqI e.kind 9 then (match c e.name with | some n => eqI n (e.kids.length : Int) | none => false) else true)) := by
  cases e
  simp only [exprB, exprBs_all]
  rfl
theorem exprB_none {p : Str → Bool} {c : Str → Option Int} {e : GE} (h : noneB e = true) : exprB p c e = true := by
  simp only [noneB, Bool.and_eq_true] at h
  obtain ⟨h1, _, _, _, h2⟩ := h
  have hk : e.kind = 0 := of_decide_eq_true h1
  have hl : (e.kids.length : Int) = 0 := of_decide_eq_true h2
  have hl' : e.kids = [] := List.length_eq_zero_iff.1 (by omega)
  rw [exprB_eq, hl', hk]
  rfl
theorem k47_loop (M : Mp Bool) (A : Mp Int) (l : List GE) (hl : l.length ≤ MX) (IH : ∀ x ∈ l, k47 x M A = some ((exprB (lk M) (fun u => mgetL u A) x, ()), M, A, ())) : (k47_0 l (l.length : Int) 0 M A = some (Sum.inl ((), M, A, ())) ∧ l.all (exprB (lk M) (fun u => mgetL u A)) = true) ∨ (k47_0 l (l.length : Int) 0 M A = some (Sum.inr ((false, ()), M, A, ())) ∧ l.all (exprB (lk M) (fun u => mgetL u A)) = false) := by
  have := loop_all0 (l := l) (p := exprB (lk M) (fun u => mgetL u A)) (L := fun i => k47_0 l (l.length : Int) (i : Int) M A) (good := Sum.inl ((), M, A, ())) (bad := fun j => Sum.inr ((false, ()), M, A, ()))
    (fun i hi => by
      rw [k47_0, ltI_true hi]
      simp only [idx_nat hi, Option.bind_eq_bind, Option.bind_some, nf_eq, w64_succ hl hi, IH _ (List.getElem_mem hi)]
      cases exprB (lk M) (fun u => mgetL u A) l[i] <;> rfl)
    (by rw [k47_0, ltI_false (Nat.lt_irrefl _)])
  rw [show ((0 : Nat) : Int) = 0 from rfl] at this
  rcases this with h | ⟨⟨j, h1⟩, h2⟩
  · exact .inl h
  · exact .inr ⟨h1, h2⟩
theorem k47_eq (M : Mp Bool) (A : Mp Int) : ∀ (n : Nat) (e : GE), SizeOf.sizeOf e < n → okE e → k47 e M A = some ((exprB (lk M) (fun u => mgetL u A) e, ()), M, A, ())
  | 0, t, h, _ => by omega
  | n + 1, t, h, ho => by
    obtain ⟨h1, h2⟩ := okE_kids ho
    have hlp := k47_loop M A t.kids h1 fun x hx => k47_eq M A n x (by have := GE.kids_lt hx; omega) (h2 x hx)
    rw [k47, exprB_eq]
    rcases hlp with ⟨h1, h2⟩ | ⟨h1, h2⟩
    · rw [h1, h2]
      simp only [Option.bind_eq_bind, Option.bind_some, Bool.true_and]
      cases eqI t.kind 2 with
      | true => rfl
      | false =>
        cases eqI t.kind 9 with
        | false => rfl
        | true =>
          simp only [cond_true, cond_false, mHas, mLook]
          cases mgetL t.name A with
          | none => rfl
          | some v => rfl
    · rw [h1, h2]
      rfl
def findF (l : List GF) (s : Str) : Option GF := l.find? fun f => eqS f.name s
def cntR (l : List GF) : Str → Option Int := fun s => (findF l s).map fun f => (f.params.length : Int)
theorem k13_eq (l : List GF) (hl : l.length ≤ MX) (s : Str) : (k13 l s = some ((-1, ()), ()) ∧ findF l s = none) ∨ ∃ (j : Nat) (h : j < l.length), k13 l s = some (((j : Int), ()), ()) ∧ findF l s = some l[j] := by
  have : ∀ (d i : Nat), i + d = l.length → (k13_0 l s (i : Int) = some (Sum.inl ((), ())) ∧ findF (l.drop i) s = none) ∨ ∃ (j : Nat) (h : j < l.length), k13_0 l s (i : Int) = some (Sum.inr (((j : Int), ()), ())) ∧ findF (l.drop i) s = some l[j] := by
    intro d
    induction d with
    | zero =>
      intro i h
      refine .inl ⟨?_, ?_⟩
      · rw [k13_0, ltI_false (by omega)]
      · rw [List.drop_of_length_le (by omega)]; rfl
    | succ d ih =>
      intro i h
      have hi : i < l.length := by omega
      rw [drop_at hi, k13_0, ltI_true hi]
      simp only [idx_nat hi, Option.bind_eq_bind, Option.bind_some, nf_eq, w64_succ hl hi, findF, List.find?_cons]
      cases hb : eqS l[i].name s with
      | true => exact .inr ⟨i, hi, rfl, rfl⟩
      | false => exact ih (i + 1) (by omega)
  have h0 := this l.length 0 (by omega)
  rw [show ((0 : Nat) : Int) = 0 from rfl, List.drop_zero] at h0
  rw [k13]
  rcases h0 with ⟨h1, h2⟩ | ⟨j, h, h1, h2⟩
  · exact .inl ⟨by rw [h1]; rfl, h2⟩
  · exact .inr ⟨j, h, by rw [h1]; rfl, h2⟩
mutual
def stmtB (c : Str → Option Int) : (Str → Bool) → GS → Option (Str → Bool)
  | p, .mk k s pl e t f => bif exprB p c e && (exprB p c pl && ((stmtsB c p t).isSome && (stmtsB c p f).isSome)) then (bif eqI k 1 then (bif p s then none else some fun u => eqS u s || p u) else some p) else none
def stmtsB (c : Str → Option Int) : (Str → Bool) → List GS → Option (Str → Bool)
  | p, [] => some p
  | p, s :: r => match stmtB c p s with | some q => stmtsB c q r | none => none
end
theorem stmtB_eq (c : Str → Option Int) (p : Str → Bool) (s : GS) : stmtB c p s = (bif exprB p c s.expr && (exprB p c s.place && ((stmtsB c p s.thn).isSome && (stmtsB c p s.els).isSome)) then (bif eqI s.kind 1 then (bif p s.name then none else some fun u => eqS u s.name || p u) else some p) else none) := by
  cases s
  simp only [stmtB]
  rfl
mutual
def cntS : GS → Nat
  | .mk _ _ _ _ t f => cntSs t + cntSs f + 1
def cntSs : List GS → Nat
  | [] => 0
  | s :: r => cntS s + cntSs r
end
def St46 (A : Mp Int) (l : List GS) (M : Mp Bool) : Prop :=
  (∃ p M', stmtsB (fun u => mgetL u A) (lk M) l = some p ∧ k46 l M A = some ((true, ()), M', A, ()) ∧ allTrue M' ∧ lk M' = p) ∨ (∃ M', stmtsB (fun u => mgetL u A) (lk M) l = none ∧ k46 l M A = some ((false, ()), M', A, ()))
theorem right_place {s : GS} (h : rightS s = true) (p : Str → Bool) (c : Str → Option Int) : eqI s.kind 2 = false → exprB p c s.place = true := by
  intro h2
  rw [rightS_eq] at h
  simp only [Bool.and_eq_true] at h
  have h1 := h.2.2.2
  apply exprB_none
  simp only [rightS1, h2, cond_false] at h1
  revert h1
  cases eqI s.kind 1 <;> cases eqI s.kind 3 <;> cases eqI s.kind 4 <;> cases noneB s.place <;> simp
theorem right_kids {s : GS} (h : rightS s = true) : s.thn.all rightS = true ∧ s.els.all rightS = true := by
  rw [rightS_eq] at h
  simp only [Bool.and_eq_true, rightL] at h
  exact ⟨h.2.1.1, h.2.2.1.1⟩
theorem k46_loop (A : Mp Int) (l : List GS) (hl : l.length ≤ MX) (ho : okSs l) (hr : l.all rightS = true) (IH : ∀ s ∈ l, ∀ M, allTrue M → St46 A s.thn M ∧ St46 A s.els M) : ∀ (d i : Nat) (M : Mp Bool), i + d = l.length → allTrue M →
    (∃ p M', stmtsB (fun u => mgetL u A) (lk M) (l.drop i) = some p ∧ k46_0 l (l.length : Int) (i : Int) M A = some (Sum.inl ((), M', A, ())) ∧ allTrue M' ∧ lk M' = p) ∨ (∃ M', stmtsB (fun u => mgetL u A) (lk M) (l.drop i) = none ∧ k46_0 l (l.length : Int) (i : Int) M A = some (Sum.inr ((false, ()), M', A, ())))
  | 0, i, M, h, hM => by
    rw [List.drop_of_length_le (by omega), k46_0, ltI_false (by omega)]
    exact .inl ⟨_, M, by simp only [stmtsB], rfl, hM, rfl⟩
  | d + 1, i, M, h, hM => by
    have hi : i < l.length := by omega
    have hm := List.getElem_mem hi
    have hri := List.all_eq_true.1 hr _ hm
    obtain ⟨_, o2, o1, _, _⟩ := okS_at (okSs_mem ho hm)
    obtain ⟨i1, i2⟩ := IH _ hm M hM
    have e1 := k47_eq M A _ _ (Nat.lt_succ_self _) o1
    have e2 := k47_eq M A _ _ (Nat.lt_succ_self _) o2
    have hp := right_place hri (lk M) (fun u => mgetL u A)
    have hk := k46_loop A l hl ho hr IH d (i + 1) M (by omega) hM
    have hk' := k46_loop A l hl ho hr IH d (i + 1) (mputL l[i].name true M) (by omega) (allTrue_put hM)
    rw [drop_at hi, k46_0, ltI_true hi]
    simp only [idx_nat hi, Option.bind_eq_bind, Option.bind_some, nf_eq, w64_succ hl hi, e1, stmtsB, stmtB_eq]
    cases hb1 : exprB (lk M) (fun u => mgetL u A) l[i].expr with
    | false => exact .inr ⟨M, rfl, rfl⟩
    | true =>
      cases h2 : eqI l[i].kind 2
      case' false =>
        rw [hp h2]
        simp only [Bool.not_true, Bool.not_false, Option.bind_some, Bool.true_and, kh_inner_eq hM]
      case' true =>
        simp only [Bool.not_true, Bool.not_false, Option.bind_some, Bool.true_and, e2]
        cases hb2 : exprB (lk M) (fun u => mgetL u A) l[i].place
        case' false => exact .inr ⟨M, rfl, rfl⟩
        simp only [Bool.not_true, Bool.not_false, Option.bind_some, Bool.true_and, kh_inner_eq hM]
      all_goals
        rcases i1 with ⟨p1, M1, s1, q1, _, _⟩ | ⟨M1, s1, q1⟩
        · rw [q1, s1]
          simp only [Bool.not_true, kh_inner_eq hM, Option.bind_some, Bool.true_and, Option.isSome_some]
          rcases i2 with ⟨p2, M2, s2, q2, _, _⟩ | ⟨M2, s2, q2⟩
          · rw [q2, s2]
            simp only [Bool.not_true, Option.bind_some, Option.isSome_some, cond_true]
            cases eqI l[i].kind 1 with
            | false =>
              simp only [cond_false]
              exact hk
            | true =>
              simp only [cond_true]
              have : mLook l[i].name M false = lk M l[i].name := rfl
              rw [this]
              cases hn : lk M l[i].name with
              | true => exact .inr ⟨M, rfl, rfl⟩
              | false =>
                rw [lk_put] at hk'
                exact hk'
          · rw [q2, s2]
            exact .inr ⟨_, rfl, rfl⟩
        · rw [q1, s1]
          exact .inr ⟨_, rfl, rfl⟩
theorem k46_eq (A : Mp Int) : ∀ (n : Nat) (l : List GS), SizeOf.sizeOf l < n → l.length ≤ MX → okSs l → l.all rightS = true → ∀ M, allTrue M → St46 A l M
  | 0, l, h, _, _, _ => by omega
  | n + 1, l, h, hl, ho, hr => fun M hM => by
    have IH : ∀ s ∈ l, ∀ M, allTrue M → St46 A s.thn M ∧ St46 A s.els M := fun s hs M hM => by
      obtain ⟨_, _, _, ⟨h4, h5⟩, h6, h7⟩ := okS_at (okSs_mem ho hs)
      have q0 := List.sizeOf_lt_of_mem hs
      have q1 := GS.thn_lt (t := s)
      have q2 := GS.els_lt (t := s)
      have qr := right_kids (List.all_eq_true.1 hr _ hs)
      exact ⟨k46_eq A n _ (by omega) h4 h5 qr.1 M hM, k46_eq A n _ (by omega) h6 h7 qr.2 M hM⟩
    have := k46_loop A l hl ho hr IH l.length 0 M (by omega) hM
    rw [show ((0 : Nat) : Int) = 0 from rfl, List.drop_zero] at this
    unfold St46
    rw [k46]
    rcases this with ⟨p, M', h1, h2, h3, h4⟩ | ⟨M', h1, h2⟩
    · exact .inl ⟨p, M', h1, by rw [h2]; rfl, h3, h4⟩
    · exact .inr ⟨M', h1, by rw [h2]; rfl⟩
end Go.Lb.R
end
section
namespace Go.Lb.R
open Go.Lb
def wtPs : List GP → Nat
  | [] => 0
  | p :: r => wtT p.ty + 1 + wtPs r
def wtF (f : GF) : Nat := wtT f.gives + wtPs f.params + f.outs.length + cntSs f.body + f.lives.length
theorem wtPs_len : ∀ l : List GP, l.length ≤ wtPs l
  | [] => Nat.le_refl _
  | p :: r => by
    have := wtPs_len r
    simp only [wtPs, List.length_cons]
    omega
theorem wtPs_tys : ∀ l : List GP, wtTs (l.map GP.ty) ≤ wtPs l
  | [] => Nat.le_refl _
  | p :: r => by
    have := wtPs_tys r
    simp only [wtPs, List.map_cons, wtTs]
    omega
def knownB (f : GF) (s : Str) : Bool := inB s f.lives
def typesF (f : GF) : List GT := f.gives :: f.params.map GP.ty
def namesF (f : GF) : List Str := f.params.map GP.name
def fineB (tw : Bool) (f : GF) : Bool := !tw && (once f.lives && (once (namesF f) && (f.outs ++ livesTs (typesF f)).all (knownB f)))
def codeN (tw : Bool) (c : Str → Option Int) (f : GF) : Int :=
  bif !fineB tw f then 4 else bif !(typesF f).all wholeT then 5 else
  match stmtsB c (fun u => inB u (namesF f)) f.body with | none => 4 | some p => bif exprB p c f.value then 0 else 4
def errC (n : Int) : GErr := bif eqI n 0 then .nil else .code n
theorem k23_0_eq (l : List GP) (hl : l.length ≤ MX) : ∀ (d i : Nat) (ts : List GT) (ns : List Str) (M : Mp Bool), i + d = l.length → ts.length + d ≤ LM → ns.length + d ≤ LM → allTrue M → lk M = (fun u => inB u ns) →
    ∃ M', k23_0 ts ns l (l.length : Int) (i : Int) M = some ((ts ++ (l.drop i).map GP.ty, ns ++ (l.drop i).map GP.name, ()), M', ()) ∧ allTrue M' ∧ lk M' = fun u => inB u (ns ++ (l.drop i).map GP.name)
  | 0, i, ts, ns, M, h, _, _, hM, hk => by
    rw [List.drop_of_length_le (by omega), k23_0, ltI_false (by omega)]
    exact ⟨M, by simp, hM, by simpa using hk⟩
  | d + 1, i, ts, ns, M, h, h1, h2, hM, hk => by
    have hi : i < l.length := by omega
    rw [drop_at hi, k23_0, ltI_true hi]
    simp only [idx_nat hi, Option.bind_eq_bind, Option.bind_some, nf_eq, w64_succ hl hi]
    rw [app_ok (l := ns) (by decide) (by simp only [List.length_cons, List.length_nil]; omega)]
    simp only [Option.bind_some]
    rw [app_ok (l := ts) (by decide) (by simp only [List.length_cons, List.length_nil]; omega)]
    simp only [Option.bind_some]
    have ih := k23_0_eq l hl d (i + 1) (ts ++ [l[i].ty]) (ns ++ [l[i].name]) (mputL l[i].name true M) (by omega) (by simp only [List.length_append, List.length_cons, List.length_nil]; omega) (by simp only [List.length_append, List.length_cons, List.length_nil]; omega) (allTrue_put hM) (by
      rw [lk_put, hk]
      funext u
      rw [inB_app])
    simp only [List.map_cons, List.append_assoc, List.cons_append, List.nil_append] at ih ⊢
    exact ih
theorem k23_1_eq (l : List GT) (hl : l.length ≤ MX) (ho : ∀ t ∈ l, okT t) : ∀ (d i : Nat) (a : List Str) (b : Bool), i + d = l.length → a.length + wtTs (l.drop i) ≤ LM →
    k23_1 a b l (l.length : Int) (i : Int) = some ((a ++ livesTs (l.drop i), b && (l.drop i).all wholeT, ()), ())
  | 0, i, a, b, h, _ => by
    rw [List.drop_of_length_le (by omega), k23_1, ltI_false (by omega)]
    simp [livesTs]
  | d + 1, i, a, b, h, hw => by
    have hi : i < l.length := by omega
    rw [drop_at hi] at hw ⊢
    simp only [wtTs] at hw
    have hlen := livesT_len l[i]
    have hot := ho _ (List.getElem_mem hi)
    rw [k23_1, ltI_true hi]
    simp only [idx_nat hi, Option.bind_eq_bind, Option.bind_some, nf_eq, w64_succ hl hi, k42_eq _ _ (Nat.lt_succ_self _) hot (by omega), k11_eq _ _ (Nat.lt_succ_self _) hot]
    rw [app_ok (by decide) (by omega)]
    simp only [Option.bind_some]
    have ih := fun b => k23_1_eq l hl ho d (i + 1) (a ++ livesT l[i]) b (by omega) (by rw [List.length_append]; omega)
    cases b with
    | true => simp only [ih, livesTs, List.append_assoc, List.all_cons, Bool.true_and]
    | false => simp only [ih, livesTs, List.append_assoc, List.all_cons, Bool.false_and]
theorem k23_2_all (f : GF) (hf : f.lives.length ≤ MX) (l : List Str) (hl : l.length ≤ MX) : (k23_2 l (l.length : Int) 0 f = some (Sum.inl ((), ((), (), ()), f, ())) ∧ l.all (knownB f) = true) ∨ ((∃ j : Nat, k23_2 l (l.length : Int) 0 f = some (Sum.inr (((j : Int), ()), ((), (), ()), f, ()))) ∧ l.all (knownB f) = false) :=
  loop_all0 (l := l) (p := knownB f) (L := fun i => k23_2 l (l.length : Int) (i : Int) f) (good := Sum.inl ((), ((), (), ()), f, ())) (bad := fun j => Sum.inr (((j : Int), ()), ((), (), ()), f, ()))
    (fun i hi => by
      rw [k23_2, ltI_true hi]
      simp only [idx_nat hi, Option.bind_eq_bind, Option.bind_some, nf_eq, w64_succ hl hi, k40_eq _ hf]
      show _ = bif inB l[i] f.lives then _ else _
      unfold inB
      cases f.lives.any fun y => eqS l[i] y <;> rfl)
    (by rw [k23_2, ltI_false (Nat.lt_irrefl _)])
theorem k23_eq (f : GF) (ho : okF f) (hr : rightF f = true) (hw : wtF f ≤ LM) (A : Mp Int) : k23 f A = some ((errC (codeN (mHas f.name A) (fun u => mgetL u A) f), ()), A, ()) := by
  have hp := wtPs_len f.params
  have hp2 := wtPs_tys f.params
  have hg : 1 ≤ wtT f.gives := by rw [wtT_eq]; omega
  simp only [wtF] at hw
  have hLM : LM ≤ MX := by decide
  obtain ⟨M, e1, e2, e3⟩ := k23_0_eq f.params ho.params.1 f.params.length 0 [f.gives] [] [] (by omega) (by simp only [List.length_cons, List.length_nil]; omega) (by simp only [List.length_nil]; omega) (fun p hp => by cases hp) rfl
  rw [show ((0 : Nat) : Int) = 0 from rfl, List.drop_zero] at e1
  simp only [List.drop_zero, List.nil_append, List.cons_append] at e1 e3
  have ec : kh_clone f.outs = some ((f.outs, ()), ()) := by
    show bind2 (app 16 [] f.outs) _ = _
    rw [app_ok (by decide) (by simp only [List.length_nil]; omega)]
    rfl
  have ht : (typesF f).length ≤ MX := by simp only [typesF, List.length_cons, List.length_map]; omega
  have hot : ∀ t ∈ typesF f, okT t := by
    intro t h
    simp only [typesF, List.mem_cons, List.mem_map] at h
    rcases h with rfl | ⟨p, h1, rfl⟩
    · exact ho.gives
    · exact (ho.params.2 p h1).2
  have hwt : f.outs.length + wtTs (typesF f) ≤ LM := by simp only [typesF, wtTs]; omega
  have e4 := k23_1_eq (typesF f) ht hot _ 0 f.outs true (Nat.zero_add _) (by rw [List.drop_zero]; exact hwt)
  rw [show ((0 : Nat) : Int) = 0 from rfl, List.drop_zero, Bool.true_and] at e4
  have hll := livesTs_len (typesF f)
  have e5 := k23_2_all f (by omega) (f.outs ++ livesTs (typesF f)) (by rw [List.length_append]; omega)
  have hrr := hr
  simp only [rightF, Bool.and_eq_true] at hrr
  have hrb : f.body.all rightS = true := by
    have := hrr.2.2.2.2.2.2.1
    simp only [rightL, Bool.and_eq_true] at this
    exact this.1
  have e6 := k46_eq A _ f.body (Nat.lt_succ_self _) ho.body.1 ho.body.2 hrb M e2
  rw [k23, e1, ec]
  simp only [Option.bind_eq_bind, Option.bind_some]
  rw [show (f.gives :: f.params.map GP.ty) = typesF f from rfl, e4]
  simp only [Option.bind_some]
  simp only [k43_eq _ (show f.lives.length ≤ MX by omega), k43_eq (List.map GP.name f.params) (by rw [List.length_map]; omega), Option.bind_some, codeN, fineB]
  rw [show f.params.map GP.name = namesF f from rfl]
  unfold St46 at e6
  rw [e3, show (fun u => inB u (f.params.map GP.name)) = (fun u => inB u (namesF f)) from rfl] at e6
  cases mHas f.name A with
  | true => rfl
  | false =>
    cases once f.lives with
    | false => rfl
    | true =>
      cases once (namesF f) with
      | false => rfl
      | true =>
        simp only [Bool.not_true]
        have tail : ((match not ((typesF f).all wholeT) with | true => (some (((GErr.code 5, ()), A, ()))) | false => ((k46 (GF.body f) M A).bind fun y9 => (match not (y9.1.1) with | true => (some (((GErr.code 4, ()), Prod.fst (y9.2.2), ()))) | false => ((k47 (GF.value f) y9.2.1 (Prod.fst (y9.2.2))).bind fun y10 => (match not (y10.1.1) with | true => (some (((GErr.code 4, ()), Prod.fst (y10.2.2), ()))) | false => (some (((GErr.nil, ()), Prod.fst (y10.2.2), ())))))))) : Option ((GErr × Unit) × ((Mp Int) × Unit)))
            = some ((errC (bif !(typesF f).all wholeT then 5 else match stmtsB (fun u => mgetL u A) (fun u => inB u (namesF f)) f.body with | none => 4 | some p => bif exprB p (fun u => mgetL u A) f.value then 0 else 4), ()), A, ()) := by
          cases (typesF f).all wholeT with
          | false => rfl
          | true =>
            simp only [Bool.not_true, cond_false]
            rcases e6 with ⟨p, M', s1, q1, a1, l1⟩ | ⟨M', s1, q1⟩
            · rw [q1, s1]
              simp only [Option.bind_some, Bool.not_true]
              have e7 := k47_eq M' A _ f.value (Nat.lt_succ_self _) ho.value
              rw [e7, l1]
              simp only [Option.bind_some]
              cases exprB p (fun u => mgetL u A) f.value <;> rfl
            · rw [q1, s1]
              rfl
        rcases e5 with ⟨h1, h2⟩ | ⟨⟨j, h1⟩, h2⟩
        · rw [h1, h2]
          simp only [Option.bind_some, leI_neg]
          exact tail
        · rw [h1, h2]
          simp only [Option.bind_some, leI_nat]
          rfl
end Go.Lb.R
end
section
namespace Go.Lb.R
open Go.Lb
theorem codeN_range (tw : Bool) (c : Str → Option Int) (f : GF) : codeN tw c f = 0 ∨ codeN tw c f = 4 ∨ codeN tw c f = 5 := by
  unfold codeN
  cases fineB tw f
  · simp
  · cases (typesF f).all wholeT
    · simp
    · simp only [Bool.not_true, cond_false]
      cases stmtsB c (fun u => inB u (namesF f)) f.body with
      | none => simp
      | some p =>
        simp only
        generalize exprB p c f.value = b
        cases b <;> simp
theorem codeN_tw {tw : Bool} {c : Str → Option Int} {f : GF} (h : codeN tw c f = 0) : tw = false := by
  cases tw with
  | false => rfl
  | true =>
    exfalso
    simp [codeN, fineB] at h
def codeAt (p : List GF) (i : Nat) (f : GF) : Int := codeN (findF (p.take i) f.name).isSome (cntR (p.take i)) f
def chkGo (p : List GF) : Nat → Nat → Option (Int × Nat)
  | 0, _ => none
  | d + 1, i => match p[i]? with | none => none | some f => bif ltI 0 (codeAt p i f) then some (codeAt p i f, i) else chkGo p d (i + 1)
def lastF (p : List GF) : Int × Int :=
  match p.getLast? with
  | none => (4, (p.length : Int))
  | some f => bif !eqS f.name (Array.toList (ByteArray.data { data := #[109, 97, 105, 110] })) then (4, (p.length : Int)) else bif !(f.lives.isEmpty && (f.params.isEmpty && eqI f.gives.kind 1)) then (5, (p.length : Int)) else (0, -1)
def chkP (p : List GF) : Int × Int := bif !rightP p then (2, -1) else match chkGo p p.length 0 with | some (c, j) => (c, (j : Int)) | none => lastF p
def smP (p : List GF) : Prop := ∀ f ∈ p, wtF f ≤ LM
theorem rightP_len {p : List GF} (h : rightP p = true) : p.length ≤ 30 ∧ ∀ f ∈ p, rightF f = true := by
  simp only [rightP, Bool.and_eq_true, List.all_eq_true] at h
  have := of_decide_eq_true h.2.1
  exact ⟨by omega, h.2.2⟩
theorem rightF_len {f : GF} (h : rightF f = true) : f.lives.length ≤ 30 ∧ f.params.length ≤ 30 := by
  simp only [rightF, namesL, paramsL, Bool.and_eq_true] at h
  have h1 := of_decide_eq_true h.2.1.2
  have h2 := of_decide_eq_true h.2.2.1.2
  exact ⟨by omega, by omega⟩
theorem take_succ' {p : List GF} {i : Nat} (h : i < p.length) : p.take (i + 1) = p.take i ++ [p[i]] := by
  rw [List.take_add_one, List.getElem?_eq_getElem h]
  rfl
theorem ltI_nz {n : Int} (h : n = 0 ∨ n = 4 ∨ n = 5) : ltI 0 n = !eqI n 0 := by
  rcases h with rfl | rfl | rfl <;> rfl
theorem errC_nil {n : Int} : (errC n).isNil = eqI n 0 := by
  unfold errC
  cases eqI n 0 <;> rfl
theorem cntR_some (l : List GF) (s : Str) : (cntR l s).isSome = (findF l s).isSome := by
  unfold cntR
  cases findF l s <;> rfl
theorem k10_0_eq (p : List GF) (ho : okPr p) (hr : ∀ f ∈ p, rightF f = true) (hw : smP p) : ∀ (d i : Nat) (A : Mp Int), i + d = p.length → (fun u => mgetL u A) = cntR (p.take i) →
    ∃ A', k10_0 p (p.length : Int) (i : Int) A = match chkGo p d i with | none => some (Sum.inl ((), A', ())) | some (c, j) => some (Sum.inr ((GErr.fault (j : Int) (errC c), ()), A', ()))
  | 0, i, A, h, hA => by
    rw [k10_0, ltI_false (by omega)]
    exact ⟨A, rfl⟩
  | d + 1, i, A, h, hA => by
    have hi : i < p.length := by omega
    have hm := List.getElem_mem hi
    have e23 := k23_eq p[i] (ho.2 _ hm) (hr _ hm) (hw _ hm) A
    have htw : mHas p[i].name A = (findF (p.take i) p[i].name).isSome := by
      rw [← cntR_some, ← hA]
      rfl
    rw [hA, htw] at e23
    rw [k10_0, ltI_true hi]
    simp only [idx_nat hi, Option.bind_eq_bind, Option.bind_some, nf_eq, w64_succ ho.1 hi, e23, chkGo, List.getElem?_eq_getElem hi, errC_nil]
    rw [show codeAt p i p[i] = codeN (findF (p.take i) p[i].name).isSome (cntR (p.take i)) p[i] from rfl, ltI_nz (codeN_range _ _ _)]
    cases hc : eqI (codeN (findF (p.take i) p[i].name).isSome (cntR (p.take i)) p[i]) 0 with
    | false => exact ⟨A, rfl⟩
    | true =>
      have h0 := codeN_tw (of_decide_eq_true hc)
      have hA' : (fun u => mgetL u (mputL p[i].name (p[i].params.length : Int) A)) = cntR (p.take (i + 1)) := by
        funext u
        rw [mgetL_put, take_succ' hi]
        have hu : mgetL u A = cntR (p.take i) u := congrFun hA u
        rw [hu]
        simp only [cntR, findF, List.find?_append, List.find?_cons, List.find?_nil]
        rw [eqS_comm p[i].name u]
        cases hb : eqS u p[i].name with
        | true =>
          have hu := eqS_iff.1 hb
          have : List.find? (fun f => eqS f.name u) (p.take i) = none := by
            rw [hu]
            exact Option.isNone_iff_eq_none.1 (by simpa [findF] using h0)
          rw [this]
          rfl
        | false =>
          cases List.find? (fun f => eqS f.name u) (p.take i) <;> rfl
      have ih := k10_0_eq p ho hr hw d (i + 1) _ (by omega) hA'
      simpa using ih
theorem last_idx {p : List GF} {f : GF} (hl : p.length ≤ MX) (h : p.getLast? = some f) : eqI (p.length : Int) 0 = false ∧ idx p (w64 ((p.length : Int) - 1)) = some f := by
  have hp : 0 < p.length := by
    cases p with
    | nil => cases h
    | cons a r => simp
  refine ⟨decide_eq_false (by omega), ?_⟩
  have e : w64 ((p.length : Int) - 1) = ((p.length - 1 : Nat) : Int) := by
    have := w64_nat (n := p.length - 1) (by simp only [MX] at hl; omega)
    rw [show ((p.length : Int) - 1) = ((p.length - 1 : Nat) : Int) by omega]
    exact this
  rw [e, idx_nat (by omega)]
  rw [List.getLast?_eq_getElem?, List.getElem?_eq_getElem (by omega)] at h
  exact h
def errP (c : Int × Int) : GErr := bif eqI c.1 0 then .nil else bif ltI c.2 0 then .code c.1 else .fault c.2 (.code c.1)
theorem chkGo_range (p : List GF) : ∀ (d i : Nat) (c : Int) (j : Nat), chkGo p d i = some (c, j) → c = 4 ∨ c = 5
  | 0, i, c, j, h => by cases h
  | d + 1, i, c, j, h => by
    simp only [chkGo] at h
    cases hp : p[i]? with
    | none => rw [hp] at h; cases h
    | some f =>
      rw [hp] at h
      simp only at h
      cases hc : ltI 0 (codeAt p i f) with
      | false => rw [hc] at h; exact chkGo_range p d (i + 1) c j h
      | true =>
        rw [hc] at h
        simp only [cond_true, Option.some.injEq, Prod.mk.injEq] at h
        have := of_decide_eq_true hc
        rcases codeN_range (findF (p.take i) f.name).isSome (cntR (p.take i)) f with h0 | h0 | h0
        · rw [codeAt, h0] at this
          omega
        · exact .inl (h.1 ▸ h0)
        · exact .inr (h.1 ▸ h0)
theorem k10_eq (p : List GF) (ho : okPr p) (hw : smP p) : k10 p = some ((errP (chkP p), ()), ()) := by
  rw [k10, k22_eq p ho]
  unfold chkP
  cases hr : rightP p with
  | false => rfl
  | true =>
    obtain ⟨h30, hrf⟩ := rightP_len hr
    obtain ⟨A', e0⟩ := k10_0_eq p ho hrf hw _ 0 [] (Nat.zero_add _) rfl
    rw [show ((0 : Nat) : Int) = 0 from rfl] at e0
    simp only [Option.bind_eq_bind, Option.bind_some, Bool.not_true, cond_false]
    rw [e0]
    cases hc : chkGo p p.length 0 with
    | some cj =>
      obtain ⟨c, j⟩ := cj
      have hlt : ltI (j : Int) 0 = false := decide_eq_false (by omega)
      rcases chkGo_range p _ _ _ _ hc with rfl | rfl
      · simp only [Option.bind_some, errP, hlt]
        rfl
      · simp only [Option.bind_some, errP, hlt]
        rfl
    | none =>
      simp only [Option.bind_some, lastF]
      have hn : ltI (p.length : Int) 0 = false := decide_eq_false (by omega)
      cases hl : p.getLast? with
      | none =>
        have : p = [] := List.getLast?_eq_none_iff.1 hl
        subst this
        rfl
      | some f =>
        obtain ⟨h1, h2⟩ := last_idx ho.1 hl
        rw [h1]
        simp only [h2, Option.bind_some]
        have hf : f ∈ p := List.mem_of_getLast? hl
        obtain ⟨l1, l2⟩ := rightF_len (hrf f hf)
        have n1 : ltI 0 (w64 ((f.lives.length : Int) + (f.params.length : Int))) = !(f.lives.isEmpty && f.params.isEmpty) := by
          rw [w64_add (n := 60) (by decide) (by omega)]
          cases hlv : f.lives with
          | nil =>
            cases hpr : f.params with
            | nil => rfl
            | cons a r => exact decide_eq_true (by simp only [List.length_cons, List.length_nil]; omega)
          | cons a r => exact decide_eq_true (by simp only [List.length_cons]; omega)
        rw [n1]
        cases eqS f.name (Array.toList (ByteArray.data { data := #[109, 97, 105, 110] })) <;> cases f.lives.isEmpty <;> cases f.params.isEmpty <;> cases eqI f.gives.kind 1 <;> simp only [Bool.not_true, Bool.not_false, Bool.and_true, Bool.and_false, Bool.true_and, Bool.false_and, cond_true, cond_false, errP, hn, Option.bind_some] <;> rfl
theorem chkP_range (p : List GF) : (chkP p = (2, -1)) ∨ (chkP p = (0, -1)) ∨ (∃ j : Nat, chkP p = (4, (j : Int))) ∨ (∃ j : Nat, chkP p = (5, (j : Int))) := by
  unfold chkP
  cases rightP p with
  | false => exact .inl rfl
  | true =>
    simp only [Bool.not_true, cond_false]
    cases hc : chkGo p p.length 0 with
    | some cj =>
      obtain ⟨c, j⟩ := cj
      rcases chkGo_range p _ _ _ _ hc with rfl | rfl
      · exact .inr (.inr (.inl ⟨j, rfl⟩))
      · exact .inr (.inr (.inr ⟨j, rfl⟩))
    | none =>
      simp only [lastF]
      cases hl : p.getLast? with
      | none => exact .inr (.inr (.inl ⟨_, rfl⟩))
      | some f =>
        simp only
        cases eqS f.name (Array.toList (ByteArray.data { data := #[109, 97, 105, 110] }))
        · exact .inr (.inr (.inl ⟨_, rfl⟩))
        · simp only [Bool.not_true, cond_false]
          cases f.lives.isEmpty && (f.params.isEmpty && eqI f.gives.kind 1)
          · exact .inr (.inr (.inr ⟨_, rfl⟩))
          · exact .inr (.inl rfl)
end Go.Lb.R
end
section
namespace Go.Lb.R
open Go.Lb
theorem loop_ex {α σ R : Type} {l : List α} {L : σ → Nat → Option R} (hs : ∀ s i (h : i < l.length), (∃ r, L s i = some r) ∨ ∃ s', L s i = L s' (i + 1)) (he : ∀ s, ∃ r, L s l.length = some r) (s : σ) : ∃ r, L s 0 = some r := by
  obtain ⟨r, h, _⟩ := loop_some (l := l) (L := L) (Inv := fun _ _ => True) (Q := fun _ => True) (fun s i h _ => (hs s i h).imp (fun ⟨r, h⟩ => ⟨r, h, trivial⟩) (fun ⟨s', h⟩ => ⟨s', trivial, h⟩)) (fun s _ => (he s).imp fun r h => ⟨h, trivial⟩) l.length 0 s (by omega) trivial
  exact ⟨r, h⟩
theorem k17_some : ∀ (n : Nat) (t : GE), SizeOf.sizeOf t < n → okE t → ∃ m, k17 t = some ((m, ()), ())
  | 0, t, h, _ => by omega
  | n + 1, t, h, ho => by
    obtain ⟨h1, h2⟩ := okE_kids ho
    have IH : ∀ x ∈ t.kids, ∃ m, k17 x = some ((m, ()), ()) := fun x hx => k17_some n x (by have := GE.kids_lt hx; omega) (h2 x hx)
    obtain ⟨r, hr⟩ := loop_ex (l := t.kids) (σ := Int) (L := fun a i => k17_0 t a (i : Int)) (fun a i hi => by
      obtain ⟨m, hm⟩ := IH _ (List.getElem_mem hi)
      rw [k17_0, ltI_true hi]
      simp only [idx_nat hi, Option.bind_eq_bind, Option.bind_some, hm, w64_succ h1 hi]
      cases leI a 400 with
      | true => exact .inr ⟨_, rfl⟩
      | false => exact .inl ⟨_, rfl⟩) (fun a => by
      rw [k17_0, ltI_false (Nat.lt_irrefl _)]
      exact ⟨_, rfl⟩) (w64 (1 + w64 (Int.tdiv (↑(List.length (GE.name t)) : Int) 100)))
    rw [show ((0 : Nat) : Int) = 0 from rfl] at hr
    rw [k17, hr]
    exact ⟨_, rfl⟩
theorem k16_some : ∀ (n : Nat) (l : List GS), SizeOf.sizeOf l < n → l.length ≤ MX → okSs l → ∃ m, k16 l = some ((m, ()), ())
  | 0, l, h, _, _ => by omega
  | n + 1, l, h, hl, ho => by
    have IH : ∀ s ∈ l, (∃ m, k16 s.thn = some ((m, ()), ())) ∧ (∃ m, k16 s.els = some ((m, ()), ())) := fun s hs => by
      obtain ⟨_, _, _, ⟨h4, h5⟩, h6, h7⟩ := okS_at (okSs_mem ho hs)
      have q0 := List.sizeOf_lt_of_mem hs
      have q1 := GS.thn_lt (t := s)
      have q2 := GS.els_lt (t := s)
      exact ⟨k16_some n _ (by omega) h4 h5, k16_some n _ (by omega) h6 h7⟩
    obtain ⟨r, hr⟩ := loop_ex (l := l) (σ := Int) (L := fun a i => k16_0 l a (i : Int)) (fun a i hi => by
      have hm := List.getElem_mem hi
      obtain ⟨⟨m1, e1⟩, m2, e2⟩ := IH _ hm
      obtain ⟨_, o1, o2, _, _⟩ := okS_at (okSs_mem ho hm)
      obtain ⟨m3, e3⟩ := k17_some _ _ (Nat.lt_succ_self _) o1
      obtain ⟨m4, e4⟩ := k17_some _ _ (Nat.lt_succ_self _) o2
      rw [k16_0, ltI_true hi]
      simp only [idx_nat hi, Option.bind_eq_bind, Option.bind_some, e1, e2, e3, e4, w64_succ hl hi]
      cases leI a 400 with
      | true => exact .inr ⟨_, rfl⟩
      | false => exact .inl ⟨_, rfl⟩) (fun a => by
      rw [k16_0, ltI_false (Nat.lt_irrefl _)]
      exact ⟨_, rfl⟩) 0
    rw [show ((0 : Nat) : Int) = 0 from rfl] at hr
    rw [k16, hr]
    exact ⟨_, rfl⟩
theorem k7_0_some (f : GF) (ho : okPs f.params) (a : Int) : ∃ m, k7_0 a 0 f = some ((m, ()), f, ()) := by
  obtain ⟨r, hr, m, rfl⟩ := loop_some (l := f.params) (σ := Int) (L := fun a i => k7_0 a (i : Int) f) (Inv := fun _ _ => True) (Q := fun r => ∃ m : Int, r = ((m, ()), f, ())) (fun a i hi _ => by
      have hm := List.getElem_mem hi
      obtain ⟨m1, e1⟩ := k15_some _ _ (Nat.lt_succ_self _) (ho.2 _ hm).2
      rw [k7_0, ltI_true hi]
      simp only [idx_nat hi, Option.bind_eq_bind, Option.bind_some, nf_eq, e1, w64_succ ho.1 hi]
      cases leI a 400 with
      | true => exact .inr ⟨_, trivial, rfl⟩
      | false => exact .inl ⟨_, rfl, _, rfl⟩) (fun a _ => by
      rw [k7_0, ltI_false (Nat.lt_irrefl _)]
      exact ⟨_, rfl, _, rfl⟩) f.params.length 0 a (by omega) trivial
  exact ⟨m, hr⟩
theorem k7_1_some (f : GF) (ho : okNs f.lives) (a : Int) : ∃ m, k7_1 a 0 f = some ((m, ()), f, ()) := by
  obtain ⟨r, hr, m, rfl⟩ := loop_some (l := f.lives) (σ := Int) (L := fun a i => k7_1 a (i : Int) f) (Inv := fun _ _ => True) (Q := fun r => ∃ m : Int, r = ((m, ()), f, ())) (fun a i hi _ => by
      rw [k7_1, ltI_true hi]
      simp only [idx_nat hi, Option.bind_eq_bind, Option.bind_some, nf_eq, w64_succ ho.1 hi]
      cases leI a 400 with
      | true => exact .inr ⟨_, trivial, rfl⟩
      | false => exact .inl ⟨_, rfl, _, rfl⟩) (fun a _ => by
      rw [k7_1, ltI_false (Nat.lt_irrefl _)]
      exact ⟨_, rfl, _, rfl⟩) f.lives.length 0 a (by omega) trivial
  exact ⟨m, hr⟩
theorem k7_2_some (f : GF) (ho : okNs f.outs) (a : Int) : ∃ m, k7_2 a 0 f = some ((m, ()), f, ()) := by
  obtain ⟨r, hr, m, rfl⟩ := loop_some (l := f.outs) (σ := Int) (L := fun a i => k7_2 a (i : Int) f) (Inv := fun _ _ => True) (Q := fun r => ∃ m : Int, r = ((m, ()), f, ())) (fun a i hi _ => by
      rw [k7_2, ltI_true hi]
      simp only [idx_nat hi, Option.bind_eq_bind, Option.bind_some, nf_eq, w64_succ ho.1 hi]
      cases leI a 400 with
      | true => exact .inr ⟨_, trivial, rfl⟩
      | false => exact .inl ⟨_, rfl, _, rfl⟩) (fun a _ => by
      rw [k7_2, ltI_false (Nat.lt_irrefl _)]
      exact ⟨_, rfl, _, rfl⟩) f.outs.length 0 a (by omega) trivial
  exact ⟨m, hr⟩
theorem k7_some (p : List GF) (ho : okPr p) : ∃ m, k7 p = some ((m, ()), ()) := by
  obtain ⟨r, hr⟩ := loop_ex (l := p) (σ := Int) (L := fun a i => k7_3 p a (i : Int)) (fun a i hi => by
      have hm := ho.2 _ (List.getElem_mem hi)
      obtain ⟨m1, e1⟩ := k15_some _ _ (Nat.lt_succ_self _) hm.gives
      obtain ⟨m2, e2⟩ := k16_some _ _ (Nat.lt_succ_self _) hm.body.1 hm.body.2
      obtain ⟨m3, e3⟩ := k17_some _ _ (Nat.lt_succ_self _) hm.value
      rw [k7_3, ltI_true hi]
      simp only [idx_nat hi, Option.bind_eq_bind, Option.bind_some, nf_eq, e1, e2, e3, w64_succ ho.1 hi]
      cases leI a 400 with
      | false => exact .inl ⟨_, rfl⟩
      | true =>
        simp only
        generalize w64 _ = z
        obtain ⟨m4, e4⟩ := k7_0_some p[i] hm.params z
        rw [e4]
        simp only [Option.bind_some]
        obtain ⟨m5, e5⟩ := k7_1_some p[i] hm.lives m4
        rw [e5]
        simp only [Option.bind_some]
        obtain ⟨m6, e6⟩ := k7_2_some p[i] hm.outs m5
        rw [e6]
        exact .inr ⟨_, rfl⟩) (fun a => by
      rw [k7_3, ltI_false (Nat.lt_irrefl _)]
      exact ⟨_, rfl⟩) 0
  rw [show ((0 : Nat) : Int) = 0 from rfl] at hr
  rw [k7, hr]
  exact ⟨_, rfl⟩
end Go.Lb.R
end
section
set_option maxRecDepth 1000000
namespace Go.Proofs.YtdnndjdlfpkjlaaGreatDoor
open Go.ChangeShapes Go.WideShapes Go.RowKit Go.Lb Go.Lb.R
theorem laidOut : laidOutB Tryz.prog = true := by kernel_rfl
theorem wtT_sz : ∀ t : GT, wtT t ≤ szT t := by
  have : ∀ n (t : GT), SizeOf.sizeOf t < n → wtT t ≤ szT t := by
    intro n
    induction n with
    | zero => intro t h; omega
    | succ n ih =>
      intro t h
      obtain ⟨k, s, m, ks⟩ := t
      have hk : ∀ l : List GT, (∀ x ∈ l, SizeOf.sizeOf x < n) → wtTs l ≤ szTs l := by
        intro l
        induction l with
        | nil => intro _; exact Nat.le_refl _
        | cons a r ihr =>
          intro hx
          have h1 := ih a (hx a (by simp))
          have h2 := ihr fun x hx' => hx x (by simp [hx'])
          simp only [wtTs, szTs]
          omega
      have := hk ks fun x hx => by
        have := GT.kids_lt (t := .mk k s m ks) (k := x) hx
        omega
      simp only [wtT, szT]
      omega
  exact fun t => this _ t (Nat.lt_succ_self _)
theorem cntSs_sz : ∀ l : List GS, cntSs l ≤ szSs l := by
  have : ∀ n (l : List GS), SizeOf.sizeOf l < n → cntSs l ≤ szSs l := by
    intro n
    induction n with
    | zero => intro l h; omega
    | succ n ih =>
      intro l h
      cases l with
      | nil => exact Nat.le_refl _
      | cons s r =>
        obtain ⟨k, nm, p, e, t, f⟩ := s
        have h1 := ih t (by simp at h; omega)
        have h2 := ih f (by simp at h; omega)
        have h3 := ih r (by simp at h; omega)
        simp only [cntSs, cntS, szSs, szS]
        omega
  exact fun l => this _ l (Nat.lt_succ_self _)
theorem wtPs_sz : ∀ l : List GP, wtPs l ≤ sumL szP l
  | [] => Nat.le_refl _
  | p :: r => by
    have h1 := wtPs_sz r
    have h2 := wtT_sz p.ty
    simp only [wtPs, sumL, szP]
    omega
theorem wtF_sz (f : GF) : wtF f ≤ szF f := by
  have h1 := wtT_sz f.gives
  have h2 := wtPs_sz f.params
  have h3 := cntSs_sz f.body
  have h4 := sumL_len (w := szN) (fun s => by simp only [szN]; omega) f.outs
  have h5 := sumL_len (w := szN) (fun s => by simp only [szN]; omega) f.lives
  simp only [wtF, szF]
  omega
theorem smP_of {p : List GF} {n : Nat} (h : sumL szF p ≤ n) (hn : n ≤ 1048576) : smP p := fun f hf => by
  have h1 := sumL_mem (w := szF) hf
  have h2 := wtF_sz f
  show wtF f ≤ 274877906944
  omega
end Go.Proofs.YtdnndjdlfpkjlaaGreatDoor
end
section
namespace Go.Lb.R
open Go.Lb
def leC (c c' : Str → Option Int) : Prop := ∀ u v, c u = some v → c' u = some v
mutual
theorem exprB_mono {p : Str → Bool} {c c' : Str → Option Int} (h : leC c c') : ∀ e : GE, exprB p c e = true → exprB p c' e = true
  | .mk k n s m ks, he => by
    simp only [exprB, Bool.and_eq_true] at he ⊢
    refine ⟨exprBs_mono h ks he.1, ?_⟩
    have h2 := he.2
    revert h2
    cases eqI k 2 with
    | true => exact id
    | false =>
      cases eqI k 9 with
      | false => exact id
      | true =>
        simp only [cond_true, cond_false]
        cases hc : c s with
        | none => intro h2; cases h2
        | some v => rw [h s v hc]; exact id
theorem exprBs_mono {p : Str → Bool} {c c' : Str → Option Int} (h : leC c c') : ∀ l : List GE, exprBs p c l = true → exprBs p c' l = true
  | [], _ => rfl
  | e :: r, he => by
    simp only [exprBs, Bool.and_eq_true] at he ⊢
    exact ⟨exprB_mono h e he.1, exprBs_mono h r he.2⟩
end
mutual
theorem stmtB_mono {c c' : Str → Option Int} (h : leC c c') : ∀ (s : GS) (p q : Str → Bool), stmtB c p s = some q → stmtB c' p s = some q
  | .mk k s pl e t f, p, q, hs => by
    simp only [stmtB] at hs ⊢
    cases h1 : exprB p c e with
    | false => rw [h1] at hs; cases hs
    | true =>
      cases h2 : exprB p c pl with
      | false => rw [h1, h2] at hs; cases hs
      | true =>
        cases h3 : stmtsB c p t with
        | none => rw [h1, h2, h3] at hs; cases hs
        | some q1 =>
          cases h4 : stmtsB c p f with
          | none => rw [h1, h2, h3, h4] at hs; cases hs
          | some q2 =>
            rw [h1, h2, h3, h4] at hs
            rw [exprB_mono h e h1, exprB_mono h pl h2, stmtsB_mono h t p q1 h3, stmtsB_mono h f p q2 h4]
            exact hs
theorem stmtsB_mono {c c' : Str → Option Int} (h : leC c c') : ∀ (l : List GS) (p q : Str → Bool), stmtsB c p l = some q → stmtsB c' p l = some q
  | [], p, q, hs => by simp only [stmtsB] at hs ⊢; exact hs
  | s :: r, p, q, hs => by
    simp only [stmtsB] at hs ⊢
    cases h1 : stmtB c p s with
    | none => rw [h1] at hs; cases hs
    | some q1 =>
      rw [h1] at hs
      rw [stmtB_mono h s p q1 h1]
      exact stmtsB_mono h r q1 q hs
end
theorem codeN_mono {tw : Bool} {c c' : Str → Option Int} (h : leC c c') {f : GF} (h0 : codeN tw c f = 0) : codeN tw c' f = 0 := by
  unfold codeN at h0 ⊢
  cases h1 : fineB tw f with
  | false => rw [h1] at h0; simp at h0
  | true =>
    cases h2 : (typesF f).all wholeT with
    | false => rw [h1, h2] at h0; simp at h0
    | true =>
      rw [h1, h2] at h0
      simp only [Bool.not_true, cond_false] at h0 ⊢
      cases h3 : stmtsB c (fun u => inB u (namesF f)) f.body with
      | none => rw [h3] at h0; simp at h0
      | some p =>
        rw [h3] at h0
        rw [stmtsB_mono h _ _ _ h3]
        simp only at h0 ⊢
        cases h4 : exprB p c f.value with
        | false => rw [h4] at h0; simp at h0
        | true => rw [exprB_mono h _ h4]; rfl
theorem leC_cons {g : GF} {l : List GF} (h : findF l g.name = none) : leC (cntR l) (cntR (g :: l)) := fun u v hu => by
  simp only [cntR, findF, List.find?_cons] at hu h ⊢
  cases hb : eqS g.name u with
  | true =>
    have := eqS_iff.1 hb
    rw [← this, h] at hu
    cases hu
  | false => exact hu
theorem find_take {p : List GF} {s : Str} (h : findF p s = none) (i : Nat) : findF (p.take i) s = none := by
  simp only [findF, List.find?_eq_none] at h ⊢
  exact fun x hx => h x (List.mem_of_mem_take hx)
theorem codeAt_cons {g : GF} {p : List GF} {i : Nat} (hi : i < p.length) (h : findF p g.name = none) (h0 : codeAt p i p[i] = 0) : codeAt (g :: p) (i + 1) p[i] = 0 := by
  unfold codeAt at h0 ⊢
  rw [List.take_succ_cons]
  have e : findF (g :: p.take i) p[i].name = findF (p.take i) p[i].name := by
    simp only [findF, List.find?_cons]
    have : eqS g.name p[i].name = false := by
      simp only [findF, List.find?_eq_none] at h
      have := h p[i] (List.getElem_mem hi)
      rw [eqS_comm]
      simpa using this
    rw [this]
  rw [e]
  exact codeN_mono (leC_cons (find_take h i)) h0
theorem chkGo_cons {g : GF} {p : List GF} (h : findF p g.name = none) : ∀ (d i : Nat), i + d = p.length → chkGo p d i = none → chkGo (g :: p) d (i + 1) = none
  | 0, _, _, _ => rfl
  | d + 1, i, hd, h0 => by
    have hi : i < p.length := by omega
    simp only [chkGo, List.getElem?_eq_getElem hi, List.getElem?_cons_succ] at h0 ⊢
    have hc : ltI 0 (codeAt p i p[i]) = false := by
      cases hc : ltI 0 (codeAt p i p[i]) with
      | false => rfl
      | true => rw [hc] at h0; cases h0
    have hz : codeAt p i p[i] = 0 := by
      have := of_decide_eq_false hc
      rcases codeN_range (findF (p.take i) p[i].name).isSome (cntR (p.take i)) p[i] with h1 | h1 | h1
      · exact h1
      · rw [codeAt, h1] at this; omega
      · rw [codeAt, h1] at this; omega
    rw [hc] at h0
    rw [codeAt_cons hi h hz]
    exact chkGo_cons h d (i + 1) (by omega) h0
def qF (s : Str) (n : Int) : GF := { name := s, lives := [], params := [], gives := GT.mk 1 [] false [], outs := [], body := [], value := GE.mk 1 n [] false [] }
theorem chkP_ok {p : List GF} (h : chkP p = (0, -1)) : rightP p = true ∧ chkGo p p.length 0 = none ∧ lastF p = (0, -1) := by
  unfold chkP at h
  cases hr : rightP p with
  | false => rw [hr] at h; cases h
  | true =>
    rw [hr] at h
    simp only [Bool.not_true, cond_false] at h
    cases hc : chkGo p p.length 0 with
    | some cj =>
      obtain ⟨c, j⟩ := cj
      rw [hc] at h
      simp only [Prod.mk.injEq] at h
      omega
    | none =>
      rw [hc] at h
      exact ⟨rfl, rfl, h⟩
theorem more_ok {p : List GF} {s : Str} {n : Int} (h : chkP p = (0, -1)) (hl : p.length ≤ 29) (hs : nameB s = true) (hf : findF p s = none) (hn : 0 ≤ n ∧ n ≤ 65535) : chkP (qF s n :: p) = (0, -1) := by
  obtain ⟨h1, h2, h3⟩ := chkP_ok h
  have hv : rightE (qF s n).value = true := by
    rw [rightE_eq]
    have e1 : leI 0 n = true := decide_eq_true (by omega)
    have e2 : leI n 999999999999999999 = true := decide_eq_true (by omega)
    simp only [right1, qF, GE.kids, GE.kind, GE.num, e1, e2]
    rfl
  have hr : rightP (qF s n :: p) = true := by
    simp only [rightP, Bool.and_eq_true, List.all_cons] at h1 ⊢
    refine ⟨?_, ?_, ?_, h1.2.2⟩
    · have : depP (qF s n :: p) = depP p := by
        simp only [depP, List.foldl_cons]
        rfl
      rw [this]
      exact h1.1
    · exact decide_eq_true (by simp only [List.length_cons]; omega)
    · unfold rightF
      rw [hv, show (qF s n).name = s from rfl, hs]
      rfl
  have hg : chkGo (qF s n :: p) (qF s n :: p).length 0 = none := by
    have hz : codeAt (qF s n :: p) 0 (qF s n) = 0 := by
      unfold codeAt codeN
      simp only [List.take_zero]
      have e1 : fineB (findF [] (qF s n).name).isSome (qF s n) = true := rfl
      have e2 : (typesF (qF s n)).all wholeT = true := rfl
      rw [e1, e2]
      rfl
    simp only [List.length_cons, chkGo, List.getElem?_cons_zero, hz]
    exact chkGo_cons (g := qF s n) hf p.length 0 (by omega) h2
  have hlast : lastF (qF s n :: p) = (0, -1) := by
    unfold lastF at h3 ⊢
    cases hp : p.getLast? with
    | none =>
      rw [hp] at h3
      simp only [Prod.mk.injEq] at h3
      omega
    | some f =>
      have : (qF s n :: p).getLast? = some f := by
        rw [List.getLast?_cons, hp]
        rfl
      rw [this]
      rw [hp] at h3
      simp only at h3 ⊢
      revert h3
      cases eqS f.name (Array.toList (ByteArray.data { data := #[109, 97, 105, 110] })) <;> cases (f.lives.isEmpty && (f.params.isEmpty && eqI f.gives.kind 1)) <;> simp
  unfold chkP
  rw [hr, hg, hlast]
  rfl
def qs (k : Nat) : Str := List.replicate k 113
theorem qs_name : ∀ k, 1 ≤ k → k ≤ 30 → nameB (qs k) = true := by
  intro k h1 h2
  have : ∀ k, k < 30 → nameB (qs (k + 1)) = true := by decide +kernel
  have := this (k - 1) (by omega)
  rwa [show k - 1 + 1 = k by omega] at this
theorem nameB_len {s : Str} (h : nameB s = true) : s.length ≤ 30 := by
  simp only [nameB, Bool.and_eq_true] at h
  match s, h.1 with
  | c :: r, h1 =>
    simp only [isWordB, Bool.and_eq_true, decide_eq_true_eq] at h1
    exact h1.2.2
theorem qs_succ (k : Nat) : qs k ++ (Array.toList (ByteArray.data { data := #[113] })) = qs (k + 1) := by
  show qs k ++ [113] = qs (k + 1)
  unfold qs
  rw [List.replicate_succ']
theorem k5_0_eq (p : List GF) (hl : p.length ≤ MX) (hr : ∀ f ∈ p, f.name.length ≤ 30) : ∀ (d k : Nat), 31 - k < d → 1 ≤ k → ∃ m, 1 ≤ m ∧ k5_0 p (qs k) = some ((qs m, ()), ()) ∧ findF p (qs m) = none
  | 0, k, h, _ => by omega
  | d + 1, k, h, h1 => by
    rw [k5_0]
    rcases k13_eq p hl (qs k) with ⟨e1, e2⟩ | ⟨j, hj, e1, e2⟩
    · rw [e1]
      exact ⟨k, h1, rfl, e2⟩
    · have hk : k ≤ 30 := by
        have hfj := List.find?_some (p := fun f : GF => eqS f.name (qs k)) e2
        have hnm := eqS_iff.1 hfj
        have := hr _ (List.getElem_mem hj)
        rw [hnm] at this
        simpa [qs] using this
      have ec : catS (qs k) (Array.toList (ByteArray.data { data := #[113] })) = some (qs (k + 1)) := by
        unfold catS
        rw [qs_succ, if_pos]
        show (qs k).length + 1 ≤ _
        simp only [qs, List.length_replicate]
        omega
      rw [e1]
      simp only [Option.bind_eq_bind, Option.bind_some, leI_nat, ec, nf_eq]
      exact k5_0_eq p hl hr d (k + 1) (by omega) (by omega)
theorem errP_nil {p : List GF} : (errP (chkP p)).isNil = true → chkP p = (0, -1) := by
  rcases chkP_range p with h | h | ⟨j, h⟩ | ⟨j, h⟩
  · rw [h]; intro e; cases e
  · rw [h]; intro _; rfl
  all_goals
    rw [h]
    simp only [errP, show eqI (4 : Int) 0 = false from rfl, show eqI (5 : Int) 0 = false from rfl, cond_false, show ltI (j : Int) 0 = false from decide_eq_false (by omega)]
    intro e
    cases e
theorem k5_eq (p : List GF) (n : Int) (ho : okPr p) (hw : smP p) (hn : 0 ≤ n ∧ n ≤ 65535) : k5 p n = some ((true, ()), ()) := by
  obtain ⟨m, e7⟩ := k7_some p ho
  have hw64 : w64 n = n := by
    have := w64_nat (n := n.toNat) (by omega)
    rw [show ((n.toNat : Nat) : Int) = n by omega] at this
    exact this
  rw [k5]
  simp only [kh_awake, Option.bind_eq_bind, Option.bind_some, e7, k10_eq p ho hw, Bool.not_true, hw64]
  cases ltI 400 m with
  | true => rfl
  | false =>
    simp only
    cases h29 : ltI 29 (p.length : Int) with
    | true => rfl
    | false =>
      simp only [Option.bind_some]
      cases hE : (errP (chkP p)).isNil with
      | false => rfl
      | true =>
        simp only [Bool.not_true]
        have hc := errP_nil hE
        obtain ⟨hr, _, _⟩ := chkP_ok hc
        obtain ⟨_, hrf⟩ := rightP_len hr
        have hnm : ∀ f ∈ p, f.name.length ≤ 30 := fun f hf => by
          have := hrf f hf
          simp only [rightF, Bool.and_eq_true] at this
          exact nameB_len this.1
        obtain ⟨k, k1, k2, k3⟩ := k5_0_eq p ho.1 hnm 40 1 (by omega) (by omega)
        have e0 : ([113] : Str) = qs 1 := rfl
        rw [e0, k2]
        simp only [Option.bind_some]
        cases h30 : ltI 30 ((qs k).length : Int) with
        | true => rfl
        | false =>
          have hk30 : k ≤ 30 := by
            have := of_decide_eq_false h30
            simp only [qs, List.length_replicate] at this
            omega
          have hl29 : p.length ≤ 29 := by
            have := of_decide_eq_false h29
            omega
          have hmore := more_ok (n := n) hc hl29 (qs_name k k1 hk30) k3 hn
          have hLM : 1000 ≤ LM := by decide
          have hMX : 1000 ≤ MX := by decide
          simp only
          rw [app_ok (by decide) (by simp only [List.length_cons, List.length_nil]; omega)]
          simp only [Option.bind_some, List.cons_append, List.nil_append]
          have oq : okF (qF (qs k) n) := {
            name := by show (qs k).length ≤ MX; simp only [qs, List.length_replicate]; omega
            lives := ⟨Nat.zero_le _, fun s hs => by cases hs⟩
            params := ⟨Nat.zero_le _, fun s hs => by cases hs⟩
            gives := by simp only [qF, okT, okTs]; exact ⟨Nat.zero_le _, Nat.zero_le _, trivial⟩
            outs := ⟨Nat.zero_le _, fun s hs => by cases hs⟩
            body := ⟨Nat.zero_le _, trivial⟩
            value := by simp only [qF, okE, okEs]; exact ⟨Nat.zero_le _, Nat.zero_le _, trivial⟩ }
          have o2 : okPr (qF (qs k) n :: p) := ⟨by simp only [List.length_cons]; omega, fun f hf => by
            rcases List.mem_cons.1 hf with rfl | hf
            · exact oq
            · exact ho.2 f hf⟩
          have w2 : smP (qF (qs k) n :: p) := fun f hf => by
            rcases List.mem_cons.1 hf with rfl | hf
            · show (1 : Nat) ≤ LM; omega
            · exact hw f hf
          have e10 := k10_eq _ o2 w2
          rw [hmore] at e10
          rw [show ({ name := qs k, lives := [], params := [], gives := GT.mk 1 [] false [], outs := [], body := [], value := GE.mk 1 n [] false [] } : GF) = qF (qs k) n from rfl, e10]
          rfl
end Go.Lb.R
end
section
set_option maxRecDepth 1000000
namespace Go.Proofs.YtdnndjdlfpkjlaaGreatDoor
open Go.ChangeShapes Go.WideShapes Go.RowKit Go.Lb Go.Lb.R
theorem reads5 (os : Os) {H : Type} (enc : TypeId × Value → H) : ∃ places, DataW.whole enc Tryz.prog ((laidWorld os).forCall (fun _ _ => 0) ⟨#[], #[.slice none 0 0, .int .u16 0], []⟩).memory Tryz.f5.params.toList Rows.namesMoreSpec.vars false #[Value.slice none 0 0, Value.int .u16 0].toList 8 = some ([.nil, .lit (.int .u16 0)], [], places) :=
  ⟨[], by kernel_rfl⟩
theorem more_walk {W : World} (hL : laidMetH Tryz.prog laidL W) {p : List GF} {n : Int} (ho : okPr p) (hw : smP p) (hn : 0 ≤ n ∧ n ≤ 65535) {cargs : Array Value} (hargs : RelL (fzW W) W [.sl p.length (encFs p) .shared, .int .u16 n] cargs.toList) : Calls Tryz.prog 5 cargs W fun e W' => e = .returned (.bool true) ∧ Below W.heap.size W W' := by
  refine bool_call (B := W.heap.size) (L := con5 k5) (x := ((p, n, ()), ())) (y := ((true, ()), ())) (ok_k5 _ _ _ (k5_eq p n ho hw hn)) ?_ rfl (grel_of_laid hL) rfl rfl hargs ?_
  · intro f' y' ho t' h' h0 N' hsr
    cases ho
    exact hsr.slots 1000 (by intro h; cases h)
  · intro i
    show okV N00 0 (lkV [(0, shV (.sl .fn) p), (1, shV (.int .u16) n)] i)
    simp only [lkV, shV]
    cases Nat.beq i 0 <;> cases Nat.beq i 1 <;> simp only [cond_true, cond_false, okV]
set_option maxRecDepth 100000 in
theorem more_lifted (os : Os) (started : os.Started) (H : Type) (enc : TypeId × Value → H) (F : Stop.Interp) :
    ReturnsInHanded {} Tryz.checked os 5 .any ((Rows.OpenSpec.upto Rows.namesMoreSpec).preRow enc Tryz.prog Tryz.f5 Rows.namesMoreUptoRow.domain false Rows.namesMoreUptoRow.laid) (((Rows.OpenSpec.upto Rows.namesMoreSpec).at F).post enc Tryz.prog Tryz.f5 false true false false) := by
  obtain ⟨places, hx⟩ := reads5 os enc
  refine returnsInHanded_of_row (C := Tryz.checked) (s := Rows.OpenSpec.upto Rows.namesMoreSpec) own started (by kernel_rfl) Tryz.func5
    (witness_row_atRef (enc := enc) (C := Tryz.checked) false (laidWorld os) #[.slice none 0 0, .int .u16 0] (World.layVars_os _ _ _) (by kernel_rfl) (by kernel_rfl) (by kernel_rfl)
      (OpenSpec.preRow_of_cond 8 hx (by kernel_rfl) (fun k hk => by cases hk; kernel_rfl) (by kernel_rfl) (laidWorld_met os _))) ?_
  intro W base args ds gs before hval0 hW _ hcond _ hL _ _
  have hbk : bulkAll (ds ++ gs) ≤ 1048576 := by
    have h1 := of_decide_eq_true (show decide (Rows.uptoBulkAll (ds ++ gs) ≤ 1048576) = true from hcond _ rfl)
    rwa [bulkAll_eq] at h1
  have hW' := hW
  have hlt := hW.lt
  obtain ⟨p, q, hA0, hV0, rfl, hfz, hnd⟩ := hW
  have hA : DataW.TrodAll enc Tryz.prog W 0 (fun _ => true) true Tryz.f5.params.toList args.toList ds p := hA0
  have hV : DataW.TrodVars enc Tryz.prog W (fun _ => true) [] gs q := hV0
  rw [Tryz.params5] at hA
  obtain ⟨v0, v1, d0, d1, p0, p1, rfl, rfl, rfl, h0, h1⟩ := trodAll_two hA
  obtain ⟨rfl, rfl⟩ : gs = [] ∧ q = [] := by
    cases gs with
    | nil => exact ⟨rfl, hV⟩
    | cons g r => exact absurd hV (by intro h; cases h)
  obtain ⟨sa, sl, sc, rfl⟩ := okWide_slice Tryz.underlying22 (hval0 0 22 v0 rfl rfl)
  obtain ⟨n0, rfl⟩ := okWide_int Tryz.underlying44 (hval0 1 44 v1 rfl rfl)
  obtain ⟨fuel, hf⟩ := h0
  obtain ⟨fuel1, hf1⟩ := h1
  obtain ⟨x, hx, hb, hr⟩ := rd_pr fuel _ _ _ hf
  obtain ⟨n, en, hwf, _⟩ := rd_int Tryz.underlying44 hf1
  injection en with en _
  injection en with _ en
  subst en
  have hn : 0 ≤ n0 ∧ n0 ≤ 65535 := by
    simp only [Lit.wf, Bool.and_eq_true, decide_eq_true_eq] at hwf
    exact ⟨hwf.1, hwf.2⟩
  have hargs : RelL (fzW W) W [.sl x.length (encFs x) .shared, .int .u16 n0] [Value.slice sa sl sc, Value.int .u16 n0] := by
    rw [RelL_cons, RelL_cons, RelL_nil]
    exact ⟨hr, rel_int, trivial⟩
  have hsm : smP x := smP_of (n := 1048576) (by simp only [List.append_nil, bulkAll] at hbk; omega) (Nat.le_refl _)
  refine (more_walk hL hx hsm hn (cargs := #[.slice sa sl sc, .int .u16 n0]) hargs).mono fun e W' ⟨he, hb⟩ => ?_
  subst he
  have e1 : Rows.namesMoreSpec.fn H ([d0, d1] ++ []) = { results := [.lit (.bool true)], args := [d0, d1] } := by simp [Rows.namesMoreSpec]
  refine ⟨_, rfl, _, _, _, [], p0 ++ p1, [], hW', ?_, ?_, ?_, keptBut_of_below hb _, fun h => by cases h⟩
  · rw [show ((Rows.OpenSpec.upto Rows.namesMoreSpec).at F).fn = Rows.namesMoreSpec.fn from rfl]
    rw [e1]; exact trodAll_mk1 (shut_bool Tryz.underlying4 true)
  · rw [show ((Rows.OpenSpec.upto Rows.namesMoreSpec).at F).fn = Rows.namesMoreSpec.fn from rfl]
    rw [e1]
    exact trodAll_mk2 (Below.trod laidOut (by kernel_rfl) (of_decide_eq_true (by kernel_rfl)) ⟨fuel, hf⟩ hb fun y hy => hlt y (by simp [hy])) (Below.trod laidOut (by kernel_rfl) (of_decide_eq_true (by kernel_rfl)) ⟨fuel1, hf1⟩ hb fun y hy => hlt y (by simp [hy]))
  · rw [show ((Rows.OpenSpec.upto Rows.namesMoreSpec).at F).fn = Rows.namesMoreSpec.fn from rfl]
    rw [e1]; rfl
theorem more_holds : Rows.NamesMoreUptoSaid :=
  OpenClaim.holds_of_cond 5 Tryz.f5 rfl rfl rfl rfl rfl rfl rfl ⟨rfl, rfl, rfl, rfl, rfl⟩ rfl rfl rfl rfl rfl (by kernel_rfl) Tryz.func5 (by kernel_rfl)
    (of_decide_eq_true (by kernel_rfl)) (by unfold Func.isWrapper; rw [if_neg (of_decide_eq_false (by kernel_rfl))]; exact ⟨rfl, rfl⟩)
    (fun os started H enc _ F => by rw [OpenClaim.pre_eq_preRow]; exact more_lifted os started H enc F)
theorem more_card : Rows.NamesMoreUptoCardSaid :=
  Claim7.holds_tied_plain_at .later [] _ _ _ _ more_holds (fun _ h => by cases h) (by kernel_rfl) (fun _ h => by cases h) namesMoreUpto_row_tie rfl ⟨rfl, rfl⟩ (by kernel_rfl) rfl
    (fun f fn hf hfn => by
      obtain rfl : f = 5 := Option.some.inj ((show Tryz.prog.funcNamed "lienbook/lienbooklaw04.NamesMore" = some 5 by kernel_rfl).symm.trans hf) |>.symm
      obtain rfl : fn = Tryz.f5 := (Option.some.inj (Tryz.func5.symm.trans hfn)).symm
      exact ⟨by kernel_rfl, fun j t ht => by
        rw [Tryz.params5] at ht
        have h3 : t = 22 ∨ t = 44 := by
          rcases j with _ | _ | j
          · exact .inl (by simpa using ht.symm)
          · exact .inr (by simpa using ht.symm)
          · simp at ht
        rcases h3 with rfl | rfl
        · exact (show Tryz.prog.wantsStandIn 22 = false by kernel_rfl)
        · exact (show Tryz.prog.wantsStandIn 44 = false by kernel_rfl)⟩)
    (by kernel_rfl)
end Go.Proofs.YtdnndjdlfpkjlaaGreatDoor
end
#print axioms Go.Proofs.YtdnndjdlfpkjlaaGreatDoor.more_card
