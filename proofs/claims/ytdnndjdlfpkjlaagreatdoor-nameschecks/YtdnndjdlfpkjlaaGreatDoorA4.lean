/-
  Part 4 of 6. The law NamesChecks of the names layer holds of the given program for every input whose bulk is at most 1048576: it returns true.
-/
import Derived.Test.YtdnndjdlfpkjlaaGreatDoorA3
import Derived.Calls
import Derived.Lib.Bytealg
import Derived.Lib.LaidTab
import Derived.Shelf.Small.Utf8
import Derived.Shelf.Small.Strs
import Derived.Shelf.Strings.Search1
import Derived.Shelf.Strings.Fields
import Derived.Shelf.Unicode.Latin
import Derived.Shelf.Strings.Runes
import Derived.Shelf.Unicode.Is16White
import Derived.Shelf.Unicode.IsSpaceAny
import Derived.Shelf.Unicode.Is16WhiteD
import Derived.Shelf.Unicode.IsSpaceAnyD
import Derived.Shelf.Strings.FieldsAny
import Derived.Shelf.Strings.FieldsFuncAny
import Derived.Shelf.Unicode.Is16Any
import Derived.Test.YtdnndjdlfpkjlaaGreatDoorProg
import Derived.WalkKit
import Derived.LaidEql
import Derived.Stop.Asserts
import Derived.RowKitTokens
section
set_option maxRecDepth 100000
namespace Go.Lb.R
open Go.Proofs
open Go.Lb
instance (B : Nat) : XOK (X B) := ⟨(hX B (fun _ => none) (fun _ => none)).x⟩
def innerL (l : List (Str × Bool)) : List (Str × Bool) := l.map fun p => (p.1, true)
def innerCon : Con := ⟨⟨[(0, .map 0)], [(0, .map .str .bool)], []⟩, [(.ret, ⟨[(1000, .map 1)], [(0, .map .str .bool), (1, .map .str .bool)], []⟩)], fun x => some (((), ()), (x.2.1, (innerL x.2.1, ())))⟩
noncomputable def b80 : Code := Tryz.f80.body.getD .skip
noncomputable def i0 : Array Oper := match b80 with | .seq (.region _ o _) _ => o | _ => #[]
noncomputable def i1 : Array Oper := match b80 with | .seq _ (.seq (.region _ o _) _) => o | _ => #[]
noncomputable def i2 : Array Oper := match b80 with | .seq _ (.seq _ (.seq (.seq (.region _ o _) _) _)) => o | _ => #[]
noncomputable def i3 : Array Oper := match b80 with | .seq _ (.seq _ (.seq (.seq _ (.block _ (.loop (.seq (.region _ o _) _)))) _)) => o | _ => #[]
noncomputable def i4 : Array Oper := match b80 with | .seq _ (.seq _ (.seq (.seq _ (.block _ (.loop (.seq _ (.seq _ (.block _ (.seq (.region _ o _) _))))))) _)) => o | _ => #[]
noncomputable def i5 : Array Oper := match b80 with | .seq _ (.seq _ (.seq (.seq _ (.block _ (.loop (.seq _ (.seq _ (.block _ (.seq _ (.region _ o _))))))))  _)) => o | _ => #[]
noncomputable def i6 : Array Oper := match b80 with | .seq _ (.seq _ (.seq _ (.seq (.region _ o _) _))) => o | _ => #[]
noncomputable def iLp : Code := .seq (.region 3 i3 false) (.seq (.cond (.tmp 9) .skip (.exit 0)) (.block 1 (.seq (.region 4 i4 false) (.region 5 i5 false))))
theorem b80_eq : b80 = .seq (.region 0 i0 false) (.seq (.region 1 i1 false) (.seq (.seq (.region 2 i2 false) (.block 0 (.loop iLp))) (.seq (.region 6 i6 false) .ret))) := by kernel_rfl
theorem f80_ok : FIok' Tryz.prog 80 (fiOf Tryz.f80 ⟨[], [], []⟩) := ⟨_, by kernel_rfl, by kernel_rfl, by kernel_rfl, rfl, rfl⟩
def visL (l' : List (Str × Bool)) (js : List Nat) : List (Str × Bool) := js.map fun j => ((l'.getD j ([], true)).1, true)
theorem visL_get {l' : List (Str × Bool)} (hnd : (l'.map (·.1)).Nodup) {j : Nat} {p : Str × Bool} (hj : l'[j]? = some p) : ∀ (js : List Nat), j ∉ js → (∀ i ∈ js, i < l'.length) → mgetL p.1 (visL l' js) = none
  | [], _, _ => rfl
  | i :: js, h, hl => by
    have hi := hl i (by simp)
    have hne : (p.1 == (l'.getD i ([], true)).1) = false := by
      rw [beq_eq_false_iff_ne]
      intro e
      have hjl := (List.getElem?_eq_some_iff.1 hj).1
      have h1 : (l'.map (·.1))[j]? = some p.1 := by simp [hj]
      have h2 : (l'.map (·.1))[i]? = some p.1 := by
        rw [e]
        simp [List.getD_eq_getElem?_getD, List.getElem?_eq_getElem hi]
      have := (List.getElem?_inj (l := l'.map (·.1)) (by simpa using hjl) hnd).1 (h1.trans h2.symm)
      exact h (by simp [this])
    simp only [visL, List.map_cons, mgetL, hne, cond_false]
    exact visL_get hnd hj js (fun hm => h (by simp [hm])) (fun i hi => hl i (by simp [hi]))
theorem mputL_app {β : Type} (k : Str) (v : β) : ∀ l : Mp β, mgetL k l = none → mputL k v l = l ++ [(k, v)]
  | [], _ => rfl
  | p :: l, h => by
    cases hb : (k == p.1) with
    | true => simp [mgetL, hb] at h
    | false =>
      simp only [mgetL, hb, cond_false] at h
      simp only [mputL, hb, cond_false, List.cons_append, mputL_app k v l h]
theorem visL_all {l l' : List (Str × Bool)} (hp : l'.Perm l) {js : List Nat} (hnd : js.Nodup) (hlt : ∀ i ∈ js, i < l'.length) (hall : ∀ j, j < l'.length → j ∈ js) : (visL l' js).Perm (innerL l) := by
  have h1 : js.Perm (List.range l'.length) := (List.perm_ext_iff_of_nodup hnd List.nodup_range).2 fun a => ⟨fun h => List.mem_range.2 (hlt a h), fun h => hall a (List.mem_range.1 h)⟩
  have h2 : visL l' (List.range l'.length) = innerL l' := by
    unfold visL innerL
    apply List.ext_getElem
    · simp
    · intro i h1 h2
      simp only [List.length_map, List.length_range] at h1
      simp [List.getD_eq_getElem?_getD, List.getElem?_eq_getElem h1]
  have h3 : (visL l' js).Perm (visL l' (List.range l'.length)) := h1.map _
  rw [h2] at h3
  exact h3.trans (hp.map _)
theorem HP.tailB {h0 h : Heap} {p : Nat × ABlk} {L : List (Nat × ABlk)} {R : List Rw} (hp : HP h0 h (p :: L) R) : HP h0 h L R :=
  ⟨hp.sub, fun q hq => hp.blk q (by simp [hq]), hp.row, (List.nodup_cons.1 hp.nd).2⟩
def mkB (l : List (Str × Bool)) : List (AV × AV) := encM AV.bool l
theorem inner_body (B : Nat) {N : Nm} {l : List (Str × Bool)} {h h0 : Heap} (hr : HR Ce.I N ⟨[], [(0, .map .str .bool l)], [], [], 1⟩ h h0) :
    ACalls (X B) 80 [.map (some (N.o 0))] h fun e h' => ∃ (v : Val) (N' : Nm) (s' : XS) (av : AV), e = .ret av ∧ Ext 1 N N' ∧ HR Ce.I N' s' h' h0 ∧ okV N' s'.c v ∧ Weak av (v.enc Ce.I N') ∧ packA (idN [0]) .ret { s' with A := [(1000, v)] } innerCon.al = some (((), ()), (l, (innerL l, ()))) := by
  obtain ⟨fn, f1, f2, f3, f4, f5⟩ := f80_ok.ex
  have hXX := (hX B (fun _ => none) (fun _ => none)).x
  refine acalls_ws hXX f1 f2 f3 (n := 15) f4 (rs := [.tmp 2]) f5 (by simp) ?_
  obtain ⟨L, hlen, hL, hP⟩ := hr.heap
  obtain ⟨k, hk, l', hperm, hkk, hnd⟩ := hL 0 0 (.map .str .bool l) rfl
  have hLe : L = [(N.o 0, .map (mkB l'))] := by
    match L, hlen, hk with
    | [p], _, hk => simp at hk; rw [hk, hkk]; rfl
  have hnd' : (l'.map (·.1)).Nodup := ((hperm.map (·.1)).nodup_iff).2 hnd
  have hR0 : HP h0 h [(N.o 0, .map (mkB l'))] [] := by rw [← hLe]; exact hP
  show WS (X B) 15 b80 _ ⟨look [(0, AV.map (some (N.o 0)))], h⟩
  rw [b80_eq]
  generalize hQ : (retPost (X B) [.tmp 2] fun e h' => ∃ (v : Val) (N' : Nm) (s' : XS) (av : AV), e = .ret av ∧ Ext 1 N N' ∧ HR Ce.I N' s' h' h0 ∧ okV N' s'.c v ∧ Weak av (v.enc Ce.I N') ∧ packA (idN [0]) .ret { s' with A := [(1000, v)] } innerCon.al = some (((), ()), (l, (innerL l, ())))) = Q
  refine sr (rkE [] 1 [0] [(0, AV.map (some (N.o 0)))] (nt ?_ (by decide)))
  refine sr (mkm (some 5) hR0 fun b1 h1 hP1 => ?_)
  refine rkE [] 1 [0, 3] [(0, AV.map (some (N.o 0))), (3, AV.map (some b1))] (nt ?_ (by decide))
  refine ws_seq (sr (rkE [] 1 [0, 3, 6] [(0, AV.map (some (N.o 0))), (3, AV.map (some b1)), (6, AV.map (some (N.o 0)))] ?_))
  refine rgm (m := N.o 0) (kvs := mkB l') (some 7) hP1 (hP1.get 1 rfl) fun bi h2 hP2 => nt ?_ (by decide)
  refine ws_block (ws_loop ?_)
  have hkl : (mkB l').length = l'.length := by simp [mkB, encM]
  have rounds : ∀ (d : Nat) (js : List Nat) (h3 : Heap), ((List.range l'.length).filter fun i => !js.contains i).length < d → js.Nodup → (∀ i ∈ js, i < l'.length) → HP h0 h3 [(bi, .miter (N.o 0) l'.length js), (b1, .map (mkB (visL l' js))), (N.o 0, .map (mkB l'))] [] →
      WL (X B) 15 iLp (inBlockA 0 (thenA (WS (X B) 15 (.seq (.region 6 i6 false) .ret) Q) Q)) ⟨look [(3, AV.map (some b1)), (7, .ptr bi 0)], h3⟩ := by
    intro d
    induction d with
    | zero => intro js h3 hd; omega
    | succ d ih =>
      intro js h3 hd hjn hjl hP3
      refine wl_unfold ?_
      refine sr (nxm (m := N.o 0) (kvs := mkB l') (some 8) 0 hP3 rfl (hP3.get 2 rfl) hkl (fun j kv hjk hjs h4 hP4 => ?_) (fun hall => ?_))
      ·
        have hP4 : HP h0 h4 [(bi, .miter (N.o 0) l'.length (js ++ [j])), (b1, .map (mkB (visL l' js))), (N.o 0, .map (mkB l'))] [] := hP4
        obtain ⟨p, hp1, hp2⟩ : ∃ p, l'[j]? = some p ∧ kv = (ss p.1, AV.bool p.2) := by
          simp only [mkB, encM, List.getElem?_map, Option.map_eq_some_iff] at hjk
          obtain ⟨p, h1, h2⟩ := hjk
          exact ⟨p, h1, h2.symm⟩
        subst hp2
        have hjlt := (List.getElem?_eq_some_iff.1 hp1).1
        refine rkE [] 1 [3, 7, 9] [(3, AV.map (some b1)), (7, .ptr bi 0), (9, .bool true)] (nt ?_ (by decide))
        refine ws_seq (ws_cond (t := true) (by rfl) (fun _ => ws_skip (t_norm ?_)) (fun e => by cases e))
        refine ws_block (sr (ent (m := N.o 0) (N := l'.length) (kvs := mkB l') (j := j) (js := js ++ [j]) (kv := (ss p.1, AV.bool p.2)) (some 10) (hP4.get 0 rfl) (hP4.get 2 rfl) hkl (by simp) hjk ?_))
        refine rkE [] 2 [3, 7, 4] [(3, AV.map (some b1)), (7, .ptr bi 0), (4, ss p.1)] (nt ?_ (by decide))
        refine ws_region (rkE [] 2 [3, 7, 12, 13] [(3, AV.map (some b1)), (7, .ptr bi 0), (12, AV.map (some b1)), (13, ss p.1)] ?_)
        refine mup (b := b1) (kvs := mkB (visL l' js)) (ss p.1) (.bool true) none 1 hP4 rfl (putKV_encM AV.bool p.1 true (visL l' js)) (fun h5 hP5 => ?_)
        have hvis : mputL p.1 true (visL l' js) = visL l' (js ++ [j]) := by
          rw [mputL_app _ _ _ (visL_get hnd' hp1 js hjs hjl)]
          simp [visL, List.getD_eq_getElem?_getD, hp1]
        rw [hvis] at hP5
        have hP5 : HP h0 h5 [(bi, .miter (N.o 0) l'.length (js ++ [j])), (b1, .map (mkB (visL l' (js ++ [j])))), (N.o 0, .map (mkB l'))] [] := hP5
        refine nl ?_ (by decide)
        refine b_norm (t_norm (WL.wk (ke [3, 7]) (ih (js ++ [j]) h5 ?_ ?_ ?_ hP5)))
        · have : ((List.range l'.length).filter fun i => !(js ++ [j]).contains i).length < ((List.range l'.length).filter fun i => !js.contains i).length := by
            have e : ((List.range l'.length).filter fun i => !(js ++ [j]).contains i) = ((List.range l'.length).filter fun i => !js.contains i).filter fun i => !(i == j) := by
              rw [List.filter_filter]
              refine List.filter_congr fun i _ => ?_
              rw [Bool.eq_iff_iff]
              simp [and_comm]
            rw [e]
            refine List.length_filter_lt_length_iff_exists.2 ⟨j, ?_, by simp⟩
            simp [hjlt, hjs]
          omega
        · exact List.nodup_append.2 ⟨hjn, by simp, fun a ha b hb => by simp at hb; subst hb; exact fun e => hjs (e ▸ ha)⟩
        · intro i hi
          rcases List.mem_append.1 hi with hi | hi
          · exact hjl i hi
          · simp at hi; subst hi; exact hjlt
      ·
        refine rkE [] 1 [3, 9] [(3, AV.map (some b1)), (9, .bool false)] (nt ?_ (by decide))
        refine ws_seq (ws_cond (t := false) (by rfl) (fun e => by cases e) (fun _ => ws_exit (t_exit (t_exit (b_at (t_norm ?_))))))
        refine sr (rkE [] 2 [2] [(2, AV.map (some b1))] (nt (ws_ret ?_) (by decide)))
        subst hQ
        refine wk_mk ?_
        show ∃ (v : Val) (N' : Nm) (s' : XS) (av : AV), AEnd.ret (AV.map (some b1)) = .ret av ∧ Ext 1 N N' ∧ HR Ce.I N' s' h3 h0 ∧ okV N' s'.c v ∧ Weak av (v.enc Ce.I N') ∧ packA (idN [0]) .ret { s' with A := [(1000, v)] } innerCon.al = some (((), ()), (l, (innerL l, ())))
        have hperm2 := visL_all hperm hjn hjl hall
        refine ⟨.map 1, N.blk 1 b1, ⟨[], [(1, .map .str .bool (innerL l)), (0, .map .str .bool l)], [], [], 2⟩, _, rfl, ext_blk b1 1, ?_, by simp only [okV]; omega, by simp only [Val.enc, Nm.blk, if_true]; exact Weak.refl _, rfl⟩
        refine ⟨⟨[(b1, .map (mkB (visL l' js))), (N.o 0, .map (mkB l'))], rfl, fun i nm b hi => ?_, HP.tailB hP3⟩, fun e he => ?_, fun e he => (by cases he), fun e he => (by cases he)⟩
        · match i with
          | 0 =>
            simp only [List.getElem?_cons_zero, Option.some.injEq, Prod.mk.injEq] at hi
            obtain ⟨rfl, rfl⟩ := hi
            refine ⟨_, by simp [Nm.blk]; rfl, visL l' js, hperm2, rfl, ?_⟩
            simpa [innerL, Function.comp_def] using hnd
          | 1 =>
            simp only [List.getElem?_cons_succ, List.getElem?_cons_zero, Option.some.injEq, Prod.mk.injEq] at hi
            obtain ⟨rfl, rfl⟩ := hi
            exact ⟨_, by simp [Nm.blk]; rfl, l', hperm, rfl, hnd⟩
          | i + 2 => simp at hi
        · simp only [List.mem_cons, List.not_mem_nil, or_false] at he
          rcases he with rfl | rfl
          · exact ⟨(by decide : 1 < 2), by simp only [okB]⟩
          · exact ⟨(by decide : 0 < 2), by simp only [okB]⟩
  refine WL.wk (ke [3, 7]) (rounds _ [] h2 (Nat.lt_succ_self _) List.nodup_nil (fun _ h => by cases h) (by simpa [mkB, encM, visL] using hP2))
theorem inner_ok (B : Nat) (con : FuncId → Option Con) (lp : Nat → Option (FuncId × List Nat × Con)) : ∀ x y, innerCon.fn x = some y → FnOK1 (X B) (mkC con lp) 80 innerCon x y := by
  intro x y hx N t h h0 hs
  have hx : some (((), ()), (x.2.1, (innerL x.2.1, ()))) = some y := hx
  injection hx with hx
  subst hx
  have hr : HR Ce.I N ⟨[], [(0, .map .str .bool x.2.1)], [], [], 1⟩ h h0 := ⟨hs.heap, hs.okH, hs.okF, hs.okR⟩
  exact fn_post (L := innerCon) (C := Ce) (x := x) (inner_body B hr)
end Go.Lb.R
end
section
namespace Go.Lb
open Go.RowKit
theorem pure_calls {X : Cx} {f : FuncId} {args : List AV} {v : AV} (he : Enters X.P f) (h : ∀ fz w (cargs : Array Value), GRel X.B fz w X.G → RelL fz w args cargs.toList → ∃ c, Calls X.P f cargs w (fun e w' => e = .returned c ∧ w' = w) ∧ Rel fz w v c) : Pure X f args v := fun h0 R hR => ⟨he, fun fz w cargs h1 h2 h3 => by
  obtain ⟨c, hc, hv⟩ := h fz w cargs h2 h3
  refine hc.mono ?_
  rintro e w' ⟨rfl, rfl⟩
  exact ⟨.ret v, h0, fz, hR, hv, h1, Evo.refl _ _ _⟩⟩
theorem pure_calls_texts {X : Cx} {f : FuncId} {args : List AV} {l : List Str} {E : TypeId} (hl : l.length ≤ maxLen ∧ ∀ s ∈ l, s.length ≤ 9223372036854775807) (he : Enters X.P f) (h : ∀ fz w (cargs : Array Value), GRel X.B fz w X.G → RelL fz w args cargs.toList →
    Calls X.P f cargs w (fun e w' => e = .returned (.slice (some ⟨w.heap.size, 0, none⟩) l.length l.length) ∧ w' = w.alloc (.cells (l.map fun s => Value.string ⟨s.toArray⟩).toArray E))) : Pure X f args (sN l) := fun h0 R hR => ⟨he, fun fz w cargs h1 h2 h3 => by
  refine (h fz w cargs h2 h3).mono ?_
  rintro e w' ⟨rfl, rfl⟩
  have hr : RelL fz w (encN l) (l.map fun s => Value.string ⟨s.toArray⟩).toArray.toList := by
    have : ∀ m : List Str, (∀ s ∈ m, s.length ≤ 9223372036854775807) → RelL fz w (encN m) (m.map fun s => Value.string ⟨s.toArray⟩) := by
      intro m
      induction m with
      | nil => intro _; simp [encN, RelL]
      | cons s m ih =>
        intro hm
        simp only [encN, List.map_cons, RelL]
        exact ⟨_, _, rfl, by simp only [Rel]; exact ⟨trivial, hm s (by simp)⟩, ih fun s hs => hm s (by simp [hs])⟩
    simpa using this l hl.2
  have hn : (encN l).length ≤ l.length := by simp [encN]
  refine ⟨.ret (sN l), h0, fzAdd fz w.heap.size l.length, hR, ?_, srel_alloc_ro h1 _ _ (by simp), evo_alloc_ro h1 _ _ _⟩
  show Rel _ _ (sN l) _
  simp only [Rel]
  exact ⟨_, _, rfl, Nat.le_refl _, hl.1, trivial, .inr ⟨_, _, rfl, relAt_new h1 hr hn⟩⟩⟩
theorem tab_of_grel {B : Nat} {P : Program} {fz : Fz} {w : World} {G : Nat → AV} {name : String} {k : IntKind} {zs : List Int} {g : Nat} (hG : GRel B fz w G) (hg : P.globalNamed name = some g) (hv : G g = .agg (zs.map (AV.int k))) : Lib.TabIs P w name k zs := by
  have h := hG g
  rw [hv] at h
  obtain ⟨_, cs, E, fr, h1, h2⟩ := h
  unfold Lib.TabIs World.var?
  rw [hg]
  simp only [Option.bind_some, h1, Option.some.injEq]
  have : ∀ (zs : List Int) (l : List Value), RelL fz w (zs.map (AV.int k)) l → l = zs.map fun z => Value.int k z := by
    intro zs
    induction zs with
    | nil => intro l h; simpa [RelL] using h
    | cons z zs ih =>
      intro l h
      simp only [List.map_cons, RelL] at h
      obtain ⟨c, l', rfl, hc, h⟩ := h
      simp only [Rel] at hc
      rw [hc, ih l' h]
      rfl
  have := this zs cs.toList h2
  rw [← this]
end Go.Lb
end
section
namespace Go.Proofs
open Go.Shelf
def Tryz.lays119_ren : Go.Shelf.Ren := ⟨fun | 119 => 167 | n => n, fun | 21 => 21 | 4 => 4 | n => n, fun | n => n⟩
theorem Tryz.lays119 : Go.Proofs.Lays.n119 Tryz.prog Tryz.lays119_ren := {
  mixed := by kernel_rfl
  f119 := Tryz.func167.trans (congrArg some (by kernel_rfl))
  t4 := Tryz.underlying4
  a4 := Tryz.isAgg4
  z4 := Tryz.sizeOf4
  v4 := Tryz.zeroValue4
  t21 := Tryz.underlying21
  a21 := Tryz.isAgg21
  z21 := Tryz.sizeOf21
  v21 := Tryz.zeroValue21 }
theorem Tryz.utf8_ValidRune (r : Int) (w : World) :
    Calls Tryz.prog 167 #[.int .i32 r] w fun e w' => e = .returned (.bool (Lib.validRune r)) ∧ w' = w := Any.utf8_ValidRune Tryz.lays119 r w
def Tryz.lays137_ren : Go.Shelf.Ren := ⟨fun | 137 => 166 | 217 => 172 | 266 => 173 | n => n, fun | 9 => 9 | 5 => 5 | 3 => 3 | n => n, fun | n => n⟩
theorem Tryz.lays137 : Go.Proofs.Lays.n137 Tryz.prog Tryz.lays137_ren := {
  mixed := by kernel_rfl
  f137 := Tryz.func166.trans (congrArg some (by kernel_rfl))
  f217 := Tryz.func172.trans (congrArg some (by kernel_rfl))
  f266 := Tryz.func173.trans (congrArg some (by kernel_rfl))
  t3 := Tryz.underlying3
  a3 := Tryz.isAgg3
  z3 := Tryz.sizeOf3
  v3 := Tryz.zeroValue3
  t5 := Tryz.underlying5
  a5 := Tryz.isAgg5
  z5 := Tryz.sizeOf5
  v5 := Tryz.zeroValue5
  t9 := Tryz.underlying9
  a9 := Tryz.isAgg9
  z9 := Tryz.sizeOf9
  v9 := Tryz.zeroValue9 }
open Go.RowKit in
theorem Tryz.strings_IndexByte (s : ByteArray) (c : Int) (w : World) :
    Calls Tryz.prog 166 #[.string s, .int .u8 c] w fun e w' => e = .returned (.int .i64 (Lib.indexByte s.data.toList c.toNat.toUInt8)) ∧ w' = w := Any.strings_IndexByte Tryz.lays137 s c w
def Tryz.lays157_ren : Go.Shelf.Ren := ⟨fun | 157 => 130 | 229 => 155 | 199 => 156 | 261 => 163 | 311 => 170 | 312 => 171 | n => n, fun | 9 => 9 | 31 => 35 | 3 => 3 | 5 => 5 | 4 => 4 | 119 => 171 | 0 => 0 | 40 => 168 | 152 => 176 | 21 => 21 | 154 => 178 | 51 => 179 | 141 => 181 | 196 => 191 | 193 => 188 | 198 => 193 | 49 => 44 | 194 => 189 | 201 => 196 | 226 => 198 | 46 => 186 | 227 => 199 | n => n, fun | 0 => 1 | 6 => 2 | n => n⟩
theorem Tryz.lays157 : Go.Proofs.Lays.n157 Tryz.prog Tryz.lays157_ren := {
  mixed := by kernel_rfl
  f157 := Tryz.func130.trans (congrArg some (by kernel_rfl))
  f199 := Tryz.func156.trans (congrArg some (by kernel_rfl))
  f229 := Tryz.func155.trans (congrArg some (by kernel_rfl))
  f261 := Tryz.func163.trans (congrArg some (by kernel_rfl))
  f311 := Tryz.func170.trans (congrArg some (by kernel_rfl))
  f312 := Tryz.func171.trans (congrArg some (by kernel_rfl))
  t0 := Tryz.underlying0
  a0 := Tryz.isAgg0
  z0 := Tryz.sizeOf0
  v0 := Tryz.zeroValue0
  t3 := Tryz.underlying3
  a3 := Tryz.isAgg3
  z3 := Tryz.sizeOf3
  v3 := Tryz.zeroValue3
  t4 := Tryz.underlying4
  a4 := Tryz.isAgg4
  z4 := Tryz.sizeOf4
  v4 := Tryz.zeroValue4
  t5 := Tryz.underlying5
  a5 := Tryz.isAgg5
  z5 := Tryz.sizeOf5
  v5 := Tryz.zeroValue5
  t9 := Tryz.underlying9
  a9 := Tryz.isAgg9
  z9 := Tryz.sizeOf9
  v9 := Tryz.zeroValue9
  t21 := Tryz.underlying21
  a21 := Tryz.isAgg21
  z21 := Tryz.sizeOf21
  v21 := Tryz.zeroValue21
  t31 := Tryz.underlying35
  a31 := Tryz.isAgg35
  z31 := Tryz.sizeOf35
  v31 := Tryz.zeroValue35
  t40 := Tryz.underlying168
  a40 := Tryz.isAgg168
  z40 := Tryz.sizeOf168
  v40 := Tryz.zeroValue168
  t46 := Tryz.underlying186
  a46 := Tryz.isAgg186
  z46 := Tryz.sizeOf186
  v46 := Tryz.zeroValue186
  t49 := Tryz.underlying44
  a49 := Tryz.isAgg44
  z49 := Tryz.sizeOf44
  v49 := Tryz.zeroValue44
  t51 := Tryz.underlying179
  a51 := Tryz.isAgg179
  z51 := Tryz.sizeOf179
  v51 := Tryz.zeroValue179
  t119 := Tryz.underlying171
  a119 := Tryz.isAgg171
  z119 := Tryz.sizeOf171
  t141 := Tryz.underlying181
  a141 := Tryz.isAgg181
  z141 := Tryz.sizeOf181
  v141 := Tryz.zeroValue181
  t152 := Tryz.underlying176
  a152 := Tryz.isAgg176
  z152 := Tryz.sizeOf176
  v152 := Tryz.zeroValue176
  t154 := Tryz.underlying178
  a154 := Tryz.isAgg178
  z154 := Tryz.sizeOf178
  v154 := Tryz.zeroValue178
  t193 := Tryz.underlying188
  a193 := Tryz.isAgg188
  z193 := Tryz.sizeOf188
  v193 := Tryz.zeroValue188
  t194 := Tryz.underlying189
  a194 := Tryz.isAgg189
  z194 := Tryz.sizeOf189
  v194 := Tryz.zeroValue189
  t196 := Tryz.underlying191
  a196 := Tryz.isAgg191
  z196 := Tryz.sizeOf191
  v196 := Tryz.zeroValue191
  t198 := Tryz.underlying193
  a198 := Tryz.isAgg193
  z198 := Tryz.sizeOf193
  v198 := Tryz.zeroValue193
  t201 := Tryz.underlying196
  a201 := Tryz.isAgg196
  z201 := Tryz.sizeOf196
  v201 := Tryz.zeroValue196
  t226 := Tryz.underlying198
  a226 := Tryz.isAgg198
  z226 := Tryz.sizeOf198
  v226 := Tryz.zeroValue198
  t227 := Tryz.underlying199
  a227 := Tryz.isAgg199
  z227 := Tryz.sizeOf199
  v227 := Tryz.zeroValue199
  g0 := by kernel_rfl
  g6 := by kernel_rfl }
open Go.RowKit Go.Lib in
theorem Tryz.strings_Fields (s : ByteArray) (w : World) (hs : s.size < 4294967281) (hascii : ∀ (j : Nat) b, s.data.toList[j]? = some b → b.toNat < 128) (htab : Lib.TabIs Tryz.prog w "strings.asciiSpace" .u8 Lib.asciiSpaceTab) :
    Calls Tryz.prog 130 #[.string s] w fun e w' =>
      e = .returned (.slice (some ⟨w.heap.size, 0, none⟩) (Lib.fields s.data.toList).length (Lib.fields s.data.toList).length) ∧ w' = w.alloc (.cells ((Lib.fields s.data.toList).map fun l => Value.string ⟨l.toArray⟩).toArray 9) := Any.strings_Fields Tryz.lays157 (by kernel_rfl) (by kernel_rfl) s w hs hascii htab
end Go.Proofs
end
section
set_option maxRecDepth 100000
namespace Go.Lb.R
open Go.Proofs Go.RowKit
theorem sh_str1 {fz : Fz} {w : World} {s : Str} {cargs : Array Value} (h : RelL fz w [ss s] cargs.toList) : cargs = #[.string ⟨s.toArray⟩] := by
  simp only [RelL, Rel] at h
  obtain ⟨c1, l1, h1, ⟨rfl, _⟩, rfl⟩ := h
  exact Array.toList_inj.1 (by simpa using h1)
theorem sh_str_int {fz : Fz} {w : World} {s : Str} {k : IntKind} {n : Int} {cargs : Array Value} (h : RelL fz w [ss s, .int k n] cargs.toList) : cargs = #[.string ⟨s.toArray⟩, .int k n] := by
  simp only [RelL, Rel] at h
  obtain ⟨c1, l1, h1, ⟨rfl, _⟩, c2, l2, rfl, rfl, rfl⟩ := h
  exact Array.toList_inj.1 (by simpa using h1)
theorem sh_int {fz : Fz} {w : World} {k : IntKind} {n : Int} {cargs : Array Value} (h : RelL fz w [.int k n] cargs.toList) : cargs = #[.int k n] := by
  simp only [RelL, Rel] at h
  obtain ⟨c1, l1, h1, rfl, rfl⟩ := h
  exact Array.toList_inj.1 (by simpa using h1)
theorem k_strings_IndexByte_ok (B : Nat) : ∀ (a0 : Str) (a1 : Int) (out : Int), k_strings_IndexByte a0 a1 = some out → Pure (X B) 166 [(ss a0), (ub a1)] (ii out) := by
  intro a0 a1 out hr
  obtain rfl := os hr
  refine pure_calls ⟨_, _, Tryz.func166, rfl, rfl⟩ fun fz w cargs hg hc => ?_
  rw [sh_str_int hc]
  exact ⟨_, Tryz.strings_IndexByte ⟨a0.toArray⟩ a1 w, by simp [Rel]⟩
theorem k_unicode_utf8_ValidRune_ok (B : Nat) : ∀ (a0 : Int) (out : Bool), k_unicode_utf8_ValidRune a0 = some out → Pure (X B) 167 [(ir a0)] (bb out) := by
  intro a0 out hr
  obtain rfl := os hr
  refine pure_calls ⟨_, _, Tryz.func167, rfl, rfl⟩ fun fz w cargs hg hc => ?_
  rw [sh_int hc]
  exact ⟨_, Tryz.utf8_ValidRune a0 w, by simp [Rel]⟩
theorem k_strings_Fields_ok (B : Nat) : ∀ (a0 : Str) (out : List Str), k_strings_Fields a0 = some out → Pure (X B) 130 [(ss a0)] (sN out) := by
  intro a0 out hr
  unfold k_strings_Fields at hr
  split at hr
  · rename_i hall
    split at hr
    · rename_i hb
      simp only [Bool.and_eq_true, decide_eq_true_eq, List.all_eq_true] at hall hb
      obtain rfl := os hr
      refine pure_calls_texts (E := 9) ⟨Nat.le_trans hb.2.1 (by decide), fun s hs => Nat.le_trans (hb.2.2 s hs) (by decide)⟩ ⟨_, _, Tryz.func130, rfl, rfl⟩ fun fz w cargs hg hc => ?_
      rw [sh_str1 hc]
      have ht : Lib.TabIs Tryz.prog w "strings.asciiSpace" .u8 Lib.asciiSpaceTab := tab_of_grel hg (g := gAscii) (by kernel_rfl) (by simp [X, G0])
      have := Tryz.strings_Fields ⟨a0.toArray⟩ w (by simpa [ByteArray.size] using hb.1) (by
        intro j b hj
        exact hall b (by simpa using List.mem_of_getElem? hj)) ht
      show Calls Tryz.prog _ _ _ _
      simpa using this
    · cases hr
  · cases hr
end Go.Lb.R
end
section
set_option maxRecDepth 100000
namespace Go.Lb.R
open Go.Proofs
open Go.Lb
def fieldsCon : Con := pureCon [(0, .str)] (.sl .str) fun x => k_strings_Fields x.1
def indexByteCon : Con := pureCon [(0, .str), (1, .int .u8)] (.int .i64) fun x => k_strings_IndexByte x.1 x.2.1
def validRuneCon : Con := pureCon [(0, .int .i32)] .bool fun x => k_unicode_utf8_ValidRune x.1
theorem fields_ok (B : Nat) (con : FuncId → Option Con) (lp : Nat → Option (FuncId × List Nat × Con)) : ∀ x y, fieldsCon.fn x = some y → FnOK1 (X B) (mkC con lp) 130 fieldsCon x y :=
  pure_fnok rfl rfl rfl rfl fun x y h => k_strings_Fields_ok B x.1 y h
theorem indexByte_ok (B : Nat) (con : FuncId → Option Con) (lp : Nat → Option (FuncId × List Nat × Con)) : ∀ x y, indexByteCon.fn x = some y → FnOK1 (X B) (mkC con lp) 166 indexByteCon x y :=
  pure_fnok rfl rfl rfl rfl fun x y h => k_strings_IndexByte_ok B x.1 x.2.1 y h
theorem validRune_ok (B : Nat) (con : FuncId → Option Con) (lp : Nat → Option (FuncId × List Nat × Con)) : ∀ x y, validRuneCon.fn x = some y → FnOK1 (X B) (mkC con lp) 167 validRuneCon x y :=
  pure_fnok rfl rfl rfl rfl fun x y h => k_unicode_utf8_ValidRune_ok B x.1 y h
end Go.Lb.R
end
section
namespace Go.Proofs.Tryz.AsP
open Go.RowKit Go.Extern.Stop Go.Stop Go.Extern Go.Proofs
abbrev hd (t : Nat) : Value := .pointer (some ⟨5, t, none⟩)
theorem valueOfC (t : Addr) (w : World) : (ReflectliteValue.unpack (.iface 73 (.pointer (some t)))).run Tryz.prog w = .ok (.agg #[hd 73, .pointer (some ⟨w.heap.size, 0, none⟩), .int .u64 150]) (w.alloc (.cells #[.pointer (some t)] 73)) := by kernel_rfl
theorem valueOfF (t : Addr) (w : World) : (ReflectliteValue.unpack (.iface 74 (.pointer (some t)))).run Tryz.prog w = .ok (.agg #[hd 74, .pointer (some ⟨w.heap.size, 0, none⟩), .int .u64 150]) (w.alloc (.cells #[.pointer (some t)] 74)) := by kernel_rfl
theorem typeC (a : Addr) (w : World) : (ReflectliteValue.methodAny (ReflectliteValue.valueError "reflectlite.Value.Type" 0) (fun t _ _ _ => ReflectliteType.toType t) #[.agg #[hd 73, .pointer (some a), .int .u64 150]]).run Tryz.prog w = .ok (.iface 129 (.agg #[hd 73])) w := by kernel_rfl
theorem typeF (a : Addr) (w : World) : (ReflectliteValue.methodAny (ReflectliteValue.valueError "reflectlite.Value.Type" 0) (fun t _ _ _ => ReflectliteType.toType t) #[.agg #[hd 74, .pointer (some a), .int .u64 150]]).run Tryz.prog w = .ok (.iface 129 (.agg #[hd 74])) w := by kernel_rfl
theorem methodKind (h : Value) (w : World) : (Go.method 327 129 (.agg #[h]) "Kind").run Tryz.prog w = .ok (188, h) w := by kernel_rfl
theorem methodElem (h : Value) (w : World) : (Go.method 327 129 (.agg #[h]) "Elem").run Tryz.prog w = .ok (200, .agg #[h]) w := by kernel_rfl
theorem methodImplements (h : Value) (w : World) : (Go.method 327 129 (.agg #[h]) "Implements").run Tryz.prog w = .ok (201, .agg #[h]) w := by kernel_rfl
theorem methodAssignableTo (h : Value) (w : World) : (Go.method 327 129 (.agg #[h]) "AssignableTo").run Tryz.prog w = .ok (198, .agg #[h]) w := by kernel_rfl
theorem kindPC (w : World) : ((ReflectliteType.abiMethod fun t => (fun a : Nat => Value.int IntKind.u8 (a : Int)) <$> Rtype.kind t) #[hd 73]).run Tryz.prog w = .ok (.int .u8 22) w := by kernel_rfl
theorem kindPF (w : World) : ((ReflectliteType.abiMethod fun t => (fun a : Nat => Value.int IntKind.u8 (a : Int)) <$> Rtype.kind t) #[hd 74]).run Tryz.prog w = .ok (.int .u8 22) w := by kernel_rfl
theorem kindCO (w : World) : ((ReflectliteType.abiMethod fun t => (fun a : Nat => Value.int IntKind.u8 (a : Int)) <$> Rtype.kind t) #[hd 55]).run Tryz.prog w = .ok (.int .u8 2) w := by kernel_rfl
theorem kindFA (w : World) : ((ReflectliteType.abiMethod fun t => (fun a : Nat => Value.int IntKind.u8 (a : Int)) <$> Rtype.kind t) #[hd 58]).run Tryz.prog w = .ok (.int .u8 22) w := by kernel_rfl
theorem rlm (z : Sem Value) (f : TypeId → Addr → Nat → Nat → Sem Value) (v : Value) :
    ReflectliteValue.method z f #[v] = (do match ← ReflectliteValue.parts v with | none => z | some (t, a, fl) => f t a fl (fl % 32)) := rfl
theorem partsPC (a : Addr) (w : World) : (ReflectliteValue.parts (.agg #[hd 73, .pointer (some a), .int .u64 150])).run Tryz.prog w = .ok (some (73, a, 150)) w := by kernel_rfl
theorem partsPF (a : Addr) (w : World) : (ReflectliteValue.parts (.agg #[hd 74, .pointer (some a), .int .u64 150])).run Tryz.prog w = .ok (some (74, a, 150)) w := by kernel_rfl
theorem isNilC (a p : Addr) (W : World) (ha : W.cell? a = some (.pointer (some p))) :
    (ReflectliteValue.method (ReflectliteValue.valueError "reflectlite.Value.IsNil" 0) ReflectliteValue.isNil #[.agg #[hd 73, .pointer (some a), .int .u64 150]]).run Tryz.prog W = .ok (.bool false) W := by
  rw [rlm]
  simp only [Sem.run_bind, partsPC, Result.andThen]
  simp [ReflectliteValue.isNil, loadVar, isAgg, underlying, Tryz.underlying73, ha, Result.andThen]
theorem isNilF (a p : Addr) (W : World) (ha : W.cell? a = some (.pointer (some p))) :
    (ReflectliteValue.method (ReflectliteValue.valueError "reflectlite.Value.IsNil" 0) ReflectliteValue.isNil #[.agg #[hd 74, .pointer (some a), .int .u64 150]]).run Tryz.prog W = .ok (.bool false) W := by
  rw [rlm]
  simp only [Sem.run_bind, partsPF, Result.andThen]
  simp [ReflectliteValue.isNil, loadVar, isAgg, underlying, Tryz.underlying74, ha, Result.andThen]
theorem elemC (w : World) : (ReflectliteType.method ReflectliteType.elem #[.agg #[hd 73]]).run Tryz.prog w = .ok (.iface 129 (.agg #[hd 55])) w := by kernel_rfl
theorem elemF (w : World) : (ReflectliteType.method ReflectliteType.elem #[.agg #[hd 74]]).run Tryz.prog w = .ok (.iface 129 (.agg #[hd 58])) w := by kernel_rfl
theorem implC (w : World) : (ReflectliteType.relation "Implements" ReflectliteType.implements_ #[.agg #[hd 55], .iface 129 (.agg #[hd 29])]).run Tryz.prog w = .ok (.bool true) w := by kernel_rfl
theorem implF (w : World) : (ReflectliteType.relation "Implements" ReflectliteType.implements_ #[.agg #[hd 58], .iface 129 (.agg #[hd 29])]).run Tryz.prog w = .ok (.bool true) w := by kernel_rfl
theorem typeOfC (v : Value) (w : World) : (ReflectliteType.typeOf #[.iface 55 v]).run Tryz.prog w = .ok (.iface 129 (.agg #[hd 55])) w := by kernel_rfl
theorem typeOfF (v : Value) (w : World) : (ReflectliteType.typeOf #[.iface 58 v]).run Tryz.prog w = .ok (.iface 129 (.agg #[hd 58])) w := by kernel_rfl
theorem asgCC (w : World) : (ReflectliteType.relation "AssignableTo" ReflectliteType.assignableTo #[.agg #[hd 55], .iface 129 (.agg #[hd 55])]).run Tryz.prog w = .ok (.bool true) w := by kernel_rfl
theorem asgFF (w : World) : (ReflectliteType.relation "AssignableTo" ReflectliteType.assignableTo #[.agg #[hd 58], .iface 129 (.agg #[hd 58])]).run Tryz.prog w = .ok (.bool true) w := by kernel_rfl
theorem asgCF (w : World) : (ReflectliteType.relation "AssignableTo" ReflectliteType.assignableTo #[.agg #[hd 55], .iface 129 (.agg #[hd 58])]).run Tryz.prog w = .ok (.bool false) w := by kernel_rfl
theorem asgFC (w : World) : (ReflectliteType.relation "AssignableTo" ReflectliteType.assignableTo #[.agg #[hd 58], .iface 129 (.agg #[hd 55])]).run Tryz.prog w = .ok (.bool false) w := by kernel_rfl
theorem valueOfCO (n : Int) (w : World) : (ReflectliteValue.unpack (.iface 55 (.int .i64 n))).run Tryz.prog w = .ok (.agg #[hd 55, .pointer (some ⟨w.heap.size, 0, none⟩), .int .u64 130]) (w.alloc (.cells #[.int .i64 n] 55)) := by kernel_rfl
theorem valueOfFA (e : Addr) (w : World) : (ReflectliteValue.unpack (.iface 58 (.pointer (some e)))).run Tryz.prog w = .ok (.agg #[hd 58, .pointer (some ⟨w.heap.size, 0, none⟩), .int .u64 150]) (w.alloc (.cells #[.pointer (some e)] 58)) := by kernel_rfl
theorem elemOfPC (w : World) : (Rtype.elem? 73).run Tryz.prog w = .ok (some 55) w := by kernel_rfl
theorem elemOfPF (w : World) : (Rtype.elem? 74).run Tryz.prog w = .ok (some 58) w := by kernel_rfl
theorem mkCO (p : Addr) (w : World) : (ReflectliteValue.mk 55 p ReflectliteValue.flagAddr).run Tryz.prog w = .ok (.agg #[hd 55, .pointer (some p), .int .u64 386]) w := by kernel_rfl
theorem mkFA (p : Addr) (w : World) : (ReflectliteValue.mk 58 p ReflectliteValue.flagAddr).run Tryz.prog w = .ok (.agg #[hd 58, .pointer (some p), .int .u64 406]) w := by kernel_rfl
theorem elemVC (a p : Addr) (W : World) (ha : W.cell? a = some (.pointer (some p))) :
    (ReflectliteValue.method (ReflectliteValue.valueError "reflectlite.Value.Elem" 0) ReflectliteValue.elem #[.agg #[hd 73, .pointer (some a), .int .u64 150]]).run Tryz.prog W = .ok (.agg #[hd 55, .pointer (some p), .int .u64 386]) W := by
  rw [rlm]
  simp only [Sem.run_bind, partsPC, Result.andThen]
  simp [ReflectliteValue.elem, loadVar, isAgg, underlying, Tryz.underlying73, ha, Result.andThen, elemOfPC, mkCO]
theorem elemVF (a p : Addr) (W : World) (ha : W.cell? a = some (.pointer (some p))) :
    (ReflectliteValue.method (ReflectliteValue.valueError "reflectlite.Value.Elem" 0) ReflectliteValue.elem #[.agg #[hd 74, .pointer (some a), .int .u64 150]]).run Tryz.prog W = .ok (.agg #[hd 58, .pointer (some p), .int .u64 406]) W := by
  rw [rlm]
  simp only [Sem.run_bind, partsPF, Result.andThen]
  simp [ReflectliteValue.elem, loadVar, isAgg, underlying, Tryz.underlying74, ha, Result.andThen, elemOfPF, mkFA]
theorem rls (v x : Value) : ReflectliteValue.set #[v, x] = (do
    let (some (dst, a, fl), some (src, b, _)) := (← ReflectliteValue.parts v, ← ReflectliteValue.parts x)
      | unsupported (.noEntry "extern/(internal/reflectlite.Value).Set.zeroValue")
    if fl / ReflectliteValue.flagAddr % 2 == 0 then unsupported (.noEntry "extern/(internal/reflectlite.Value).Set.unaddressable")
    let val ← loadVar src b
    if ← Rtype.directlyAssignable dst src then storeVar dst a val
    else if ← Rtype.implements dst src then
      if (← Rtype.kind src) == 20 then
        match val with
        | .nilIface => unsupported (.noEntry "extern/reflectlite: a nil value of one interface type handed on as a value of another")
        | _ => storeVar dst a val
      else storeVar dst a (.iface src val)
    else panicString ("reflectlite.Set: value of type " ++ (← Rtype.spelt src) ++ " is not assignable to type " ++ (← Rtype.spelt dst))
    pure (.tuple #[])) := rfl
theorem partsCOa (a : Addr) (w : World) : (ReflectliteValue.parts (.agg #[hd 55, .pointer (some a), .int .u64 386])).run Tryz.prog w = .ok (some (55, a, 386)) w := by kernel_rfl
theorem partsCO (a : Addr) (w : World) : (ReflectliteValue.parts (.agg #[hd 55, .pointer (some a), .int .u64 130])).run Tryz.prog w = .ok (some (55, a, 130)) w := by kernel_rfl
theorem partsFAa (a : Addr) (w : World) : (ReflectliteValue.parts (.agg #[hd 58, .pointer (some a), .int .u64 406])).run Tryz.prog w = .ok (some (58, a, 406)) w := by kernel_rfl
theorem partsFA (a : Addr) (w : World) : (ReflectliteValue.parts (.agg #[hd 58, .pointer (some a), .int .u64 150])).run Tryz.prog w = .ok (some (58, a, 150)) w := by kernel_rfl
theorem directCO (w : World) : (Rtype.directlyAssignable 55 55).run Tryz.prog w = .ok true w := by kernel_rfl
theorem directFA (w : World) : (Rtype.directlyAssignable 58 58).run Tryz.prog w = .ok true w := by kernel_rfl
theorem setCO (ta b : Addr) (n : Int) (old : Value) (W : World) (hb : W.cell? b = some (.int .i64 n)) (ht : W.cell? ta = some old) (hf : W.frozen? ta = false) :
    (ReflectliteValue.set #[.agg #[hd 55, .pointer (some ta), .int .u64 386], .agg #[hd 55, .pointer (some b), .int .u64 130]]).run Tryz.prog W = .ok (.tuple #[]) (W.setCell ta (.int .i64 n)) := by
  rw [rls]
  simp only [Sem.run_bind, partsCOa, partsCO, Result.andThen]
  simp [ReflectliteValue.flagAddr, loadVar, isAgg, underlying, Tryz.underlying55, hb, Result.andThen, directCO, storeVar, Value.cells, storeCells, Addr.add]
  rw [run_store Tryz.prog W ta _ _ (by rfl)]
  simp [ht, hf]
theorem setFA (ta b e : Addr) (old : Value) (W : World) (hb : W.cell? b = some (.pointer (some e))) (ht : W.cell? ta = some old) (hf : W.frozen? ta = false) :
    (ReflectliteValue.set #[.agg #[hd 58, .pointer (some ta), .int .u64 406], .agg #[hd 58, .pointer (some b), .int .u64 150]]).run Tryz.prog W = .ok (.tuple #[]) (W.setCell ta (.pointer (some e))) := by
  rw [rls]
  simp only [Sem.run_bind, partsFAa, partsFA, Result.andThen]
  simp [ReflectliteValue.flagAddr, loadVar, isAgg, underlying, Tryz.underlying58, hb, Result.andThen, directFA, storeVar, Value.cells, storeCells, Addr.add]
  rw [run_store Tryz.prog W ta _ _ (by rfl)]
  simp [ht, hf]
theorem noAsC (v : Value) (xT : TypeId) (w : World) : (Instr.typeAssert (.iface 55 v) xT 134 true).run Tryz.prog w = .ok (.tuple #[.nilIface, .bool false]) w := run_typeAssert_lacksB Tryz.underlying134 (by kernel_rfl) (by kernel_rfl) v xT w
theorem noAsF (v : Value) (xT : TypeId) (w : World) : (Instr.typeAssert (.iface 58 v) xT 134 true).run Tryz.prog w = .ok (.tuple #[.nilIface, .bool false]) w := run_typeAssert_lacksB Tryz.underlying134 (by kernel_rfl) (by kernel_rfl) v xT w
theorem noUnC (v : Value) (xT : TypeId) (w : World) : (Instr.typeAssert (.iface 55 v) xT 137 true).run Tryz.prog w = .ok (.tuple #[.nilIface, .bool false]) w := run_typeAssert_lacksB Tryz.underlying137 (by kernel_rfl) (by kernel_rfl) v xT w
theorem noUlC (v : Value) (xT : TypeId) (w : World) : (Instr.typeAssert (.iface 55 v) xT 139 true).run Tryz.prog w = .ok (.tuple #[.nilIface, .bool false]) w := run_typeAssert_lacksB Tryz.underlying139 (by kernel_rfl) (by kernel_rfl) v xT w
theorem unF (v : Value) (xT : TypeId) (w : World) : (Instr.typeAssert (.iface 58 v) xT 137 true).run Tryz.prog w = .ok (.tuple #[.iface 58 v, .bool true]) w := run_typeAssert_hasB Tryz.underlying137 (by kernel_rfl) v xT w
theorem methodUnwrap (h : Addr) (w : World) : (Go.method 327 58 (.pointer (some h)) "Unwrap").run Tryz.prog w = .ok (193, .pointer (some h)) w := by kernel_rfl
end Go.Proofs.Tryz.AsP
end
section
namespace Go.Proofs.Tryz.AsP
open Go.RowKit Go.Extern.Stop Go.Stop Go.Extern Go.Proofs
inductive Al (w : World) : World → Prop
  | refl : Al w w
  | step {w1 : World} (o : Obj) (h : Al w w1) : Al w (w1.alloc o)
abbrev vC (w : World) : Obj := .cells #[hd 73, .pointer (some ⟨w.heap.size, 0, none⟩), .int .u64 150] 103
abbrev vF (w : World) : Obj := .cells #[hd 74, .pointer (some ⟨w.heap.size, 0, none⟩), .int .u64 150] 103
set_option maxHeartbeats 4000000 in
theorem as_CC (n : Int) (t : Addr) (old : Value) (w : World) (hg : w.cell? ⟨0, 0, none⟩ = some (.iface 129 (.agg #[hd 29]))) (ht0 : w.cell? t = some old) (hf0 : w.frozen? t = false) :
    Calls Tryz.prog 35 #[.iface 55 (.int .i64 n), .iface 73 (.pointer (some t))] w fun ev w' => ev = .returned (.bool true) ∧ ∃ w1, Al w w1 ∧ w' = w1.setCell t (.int .i64 n) := by
  have h6 := @run_callFunc_extern Tryz.prog 61 _ (fun args => ReflectliteValue.unpack (args.getD 0 (.tuple #[]))) Tryz.func61 (by kernel_rfl) (by kernel_rfl) (by kernel_rfl) (by kernel_rfl)
  have h7 := @run_callFunc_extern Tryz.prog 62 _ (ReflectliteValue.methodAny (ReflectliteValue.valueError "reflectlite.Value.Type" 0) (fun t _ _ _ => ReflectliteType.toType t)) Tryz.func62 (by kernel_rfl) (by kernel_rfl) (by kernel_rfl) (by kernel_rfl)
  have h8 := @run_callFunc_extern Tryz.prog 63 _ (ReflectliteValue.method (ReflectliteValue.valueError "reflectlite.Value.IsNil" 0) ReflectliteValue.isNil) Tryz.func63 (by kernel_rfl) (by kernel_rfl) (by kernel_rfl) (by kernel_rfl)
  have h27 := @run_callFunc_extern Tryz.prog 188 _ (ReflectliteType.abiMethod fun t => do pure (.int .u8 (← Rtype.kind t))) Tryz.func188 (by kernel_rfl) (by kernel_rfl) (by kernel_rfl) (by kernel_rfl)
  have h37 := @run_callFunc_extern Tryz.prog 200 _ (ReflectliteType.method ReflectliteType.elem) Tryz.func200 (by kernel_rfl) (by kernel_rfl) (by kernel_rfl) (by kernel_rfl)
  have h38 := @run_callFunc_extern Tryz.prog 201 _ (ReflectliteType.relation "Implements" ReflectliteType.implements_) Tryz.func201 (by kernel_rfl) (by kernel_rfl) (by kernel_rfl) (by kernel_rfl)
  have h10 := @run_callFunc_extern Tryz.prog 94 _ ReflectliteType.typeOf Tryz.func94 (by kernel_rfl) (by kernel_rfl) (by kernel_rfl) (by kernel_rfl)
  have h35 := @run_callFunc_extern Tryz.prog 198 _ (ReflectliteType.relation "AssignableTo" ReflectliteType.assignableTo) Tryz.func198 (by kernel_rfl) (by kernel_rfl) (by kernel_rfl) (by kernel_rfl)
  have h11 := @run_callFunc_extern Tryz.prog 95 _ (ReflectliteValue.method (ReflectliteValue.valueError "reflectlite.Value.Elem" 0) ReflectliteValue.elem) Tryz.func95 (by kernel_rfl) (by kernel_rfl) (by kernel_rfl) (by kernel_rfl)
  have h12 := @run_callFunc_extern Tryz.prog 96 _ ReflectliteValue.set Tryz.func96 (by kernel_rfl) (by kernel_rfl) (by kernel_rfl) (by kernel_rfl)
  have tO := typeOfC
  have mA := methodAssignableTo
  have a25 := asgCC
  have v25 := valueOfCO
  have f6 := valueOfC
  have f7 := typeC
  have mK := methodKind
  have mE := methodElem
  have mI := methodImplements
  have k27 := kindPC
  have k25 := kindCO
  have e27 := elemC
  have i25 := implC
  have n8 := isNilC ⟨w.heap.size, 0, none⟩ t ((w.alloc (.cells #[.pointer (some t)] 73)).alloc (vC w)) (by simp)
  have hlt : 0 < w.heap.size := by
    rcases Nat.lt_or_ge 0 w.heap.size with h | h
    · exact h
    · simp [World.cell?, Array.getElem?_eq_none h] at hg
  have hg2 : ((w.alloc (.cells #[.pointer (some t)] 73)).alloc (vC w)).cell? ⟨0, 0, none⟩ = some (.iface 129 (.agg #[hd 29])) := by
    rw [World.cell?_alloc_lt _ _ ⟨0, 0, none⟩ (by simp <;> omega), World.cell?_alloc_lt _ _ ⟨0, 0, none⟩ hlt]; exact hg
  have htl : t.block < w.heap.size := by
    rcases Nat.lt_or_ge t.block w.heap.size with h | h
    · exact h
    · simp [World.cell?, Array.getElem?_eq_none h] at ht0
  have el := elemVC ⟨w.heap.size, 0, none⟩ t (((w.alloc (.cells #[.pointer (some t)] 73)).alloc (vC w)).alloc (vC w)) (by rw [World.cell?_alloc_lt _ _ ⟨w.heap.size, 0, none⟩ (by simp; omega)]; simp)
  have st := setCO t ⟨w.heap.size + 1 + 1 + 1, 0, none⟩ n old ((((w.alloc (.cells #[.pointer (some t)] 73)).alloc (vC w)).alloc (vC w)).alloc (.cells #[.int .i64 n] 55))
    (by rw [World.cell?_alloc_at _ _ _ _ (by simp)]; rfl)
    (by rw [World.cell?_alloc_lt _ _ t (by simp; omega), World.cell?_alloc_lt _ _ t (by simp; omega), World.cell?_alloc_lt _ _ t (by simp; omega), World.cell?_alloc_lt _ _ t htl]; exact ht0)
    (by rw [World.frozen?_alloc_old _ _ t (by simp; omega), World.frozen?_alloc_old _ _ t (by simp; omega), World.frozen?_alloc_old _ _ t (by simp; omega), World.frozen?_alloc_old _ _ t (Nat.ne_of_lt htl)]; exact hf0)
  go_enter Tryz.func35, Tryz.ntmps35
  go_wp2
  refine wp_loop_rounds 1 ?_
  rw [rounds_succ]
  go_wp2
  go_ret
  exact ⟨rfl, _, .step _ (.step _ (.step _ (.step _ .refl))), rfl⟩
end Go.Proofs.Tryz.AsP
end
section
namespace Go.Proofs.Tryz.AsP
open Go.RowKit Go.Extern.Stop Go.Stop Go.Extern Go.Proofs
set_option maxHeartbeats 4000000 in
theorem as_FF (e : Addr) (t : Addr) (old : Value) (w : World) (hg : w.cell? ⟨0, 0, none⟩ = some (.iface 129 (.agg #[hd 29]))) (ht0 : w.cell? t = some old) (hf0 : w.frozen? t = false) :
    Calls Tryz.prog 35 #[.iface 58 (.pointer (some e)), .iface 74 (.pointer (some t))] w fun ev w' => ev = .returned (.bool true) ∧ ∃ w1, Al w w1 ∧ w' = w1.setCell t (.pointer (some e)) := by
  have h6 := @run_callFunc_extern Tryz.prog 61 _ (fun args => ReflectliteValue.unpack (args.getD 0 (.tuple #[]))) Tryz.func61 (by kernel_rfl) (by kernel_rfl) (by kernel_rfl) (by kernel_rfl)
  have h7 := @run_callFunc_extern Tryz.prog 62 _ (ReflectliteValue.methodAny (ReflectliteValue.valueError "reflectlite.Value.Type" 0) (fun t _ _ _ => ReflectliteType.toType t)) Tryz.func62 (by kernel_rfl) (by kernel_rfl) (by kernel_rfl) (by kernel_rfl)
  have h8 := @run_callFunc_extern Tryz.prog 63 _ (ReflectliteValue.method (ReflectliteValue.valueError "reflectlite.Value.IsNil" 0) ReflectliteValue.isNil) Tryz.func63 (by kernel_rfl) (by kernel_rfl) (by kernel_rfl) (by kernel_rfl)
  have h27 := @run_callFunc_extern Tryz.prog 188 _ (ReflectliteType.abiMethod fun t => do pure (.int .u8 (← Rtype.kind t))) Tryz.func188 (by kernel_rfl) (by kernel_rfl) (by kernel_rfl) (by kernel_rfl)
  have h37 := @run_callFunc_extern Tryz.prog 200 _ (ReflectliteType.method ReflectliteType.elem) Tryz.func200 (by kernel_rfl) (by kernel_rfl) (by kernel_rfl) (by kernel_rfl)
  have h38 := @run_callFunc_extern Tryz.prog 201 _ (ReflectliteType.relation "Implements" ReflectliteType.implements_) Tryz.func201 (by kernel_rfl) (by kernel_rfl) (by kernel_rfl) (by kernel_rfl)
  have h10 := @run_callFunc_extern Tryz.prog 94 _ ReflectliteType.typeOf Tryz.func94 (by kernel_rfl) (by kernel_rfl) (by kernel_rfl) (by kernel_rfl)
  have h35 := @run_callFunc_extern Tryz.prog 198 _ (ReflectliteType.relation "AssignableTo" ReflectliteType.assignableTo) Tryz.func198 (by kernel_rfl) (by kernel_rfl) (by kernel_rfl) (by kernel_rfl)
  have h11 := @run_callFunc_extern Tryz.prog 95 _ (ReflectliteValue.method (ReflectliteValue.valueError "reflectlite.Value.Elem" 0) ReflectliteValue.elem) Tryz.func95 (by kernel_rfl) (by kernel_rfl) (by kernel_rfl) (by kernel_rfl)
  have h12 := @run_callFunc_extern Tryz.prog 96 _ ReflectliteValue.set Tryz.func96 (by kernel_rfl) (by kernel_rfl) (by kernel_rfl) (by kernel_rfl)
  have tO := typeOfF
  have mA := methodAssignableTo
  have a25 := asgFF
  have v25 := valueOfFA
  have f6 := valueOfF
  have f7 := typeF
  have mK := methodKind
  have mE := methodElem
  have mI := methodImplements
  have k27 := kindPF
  have k25 := kindFA
  have e27 := elemF
  have i25 := implF
  have n8 := isNilF ⟨w.heap.size, 0, none⟩ t ((w.alloc (.cells #[.pointer (some t)] 74)).alloc (vF w)) (by simp)
  have hlt : 0 < w.heap.size := by
    rcases Nat.lt_or_ge 0 w.heap.size with h | h
    · exact h
    · simp [World.cell?, Array.getElem?_eq_none h] at hg
  have hg2 : ((w.alloc (.cells #[.pointer (some t)] 74)).alloc (vF w)).cell? ⟨0, 0, none⟩ = some (.iface 129 (.agg #[hd 29])) := by
    rw [World.cell?_alloc_lt _ _ ⟨0, 0, none⟩ (by simp <;> omega), World.cell?_alloc_lt _ _ ⟨0, 0, none⟩ hlt]; exact hg
  have htl : t.block < w.heap.size := by
    rcases Nat.lt_or_ge t.block w.heap.size with h | h
    · exact h
    · simp [World.cell?, Array.getElem?_eq_none h] at ht0
  have el := elemVF ⟨w.heap.size, 0, none⟩ t (((w.alloc (.cells #[.pointer (some t)] 74)).alloc (vF w)).alloc (vF w)) (by rw [World.cell?_alloc_lt _ _ ⟨w.heap.size, 0, none⟩ (by simp; omega)]; simp)
  have st := setFA t ⟨w.heap.size + 1 + 1 + 1, 0, none⟩ e old ((((w.alloc (.cells #[.pointer (some t)] 74)).alloc (vF w)).alloc (vF w)).alloc (.cells #[.pointer (some e)] 58))
    (by rw [World.cell?_alloc_at _ _ _ _ (by simp)]; rfl)
    (by rw [World.cell?_alloc_lt _ _ t (by simp; omega), World.cell?_alloc_lt _ _ t (by simp; omega), World.cell?_alloc_lt _ _ t (by simp; omega), World.cell?_alloc_lt _ _ t htl]; exact ht0)
    (by rw [World.frozen?_alloc_old _ _ t (by simp; omega), World.frozen?_alloc_old _ _ t (by simp; omega), World.frozen?_alloc_old _ _ t (by simp; omega), World.frozen?_alloc_old _ _ t (Nat.ne_of_lt htl)]; exact hf0)
  go_enter Tryz.func35, Tryz.ntmps35
  go_wp2
  refine wp_loop_rounds 1 ?_
  rw [rounds_succ]
  go_wp2
  go_ret
  exact ⟨rfl, _, .step _ (.step _ (.step _ (.step _ .refl))), rfl⟩
set_option maxHeartbeats 4000000 in
theorem as_CF (n : Int) (t : Addr) (old : Value) (w : World) (hg : w.cell? ⟨0, 0, none⟩ = some (.iface 129 (.agg #[hd 29]))) (ht0 : w.cell? t = some old) (hf0 : w.frozen? t = false) :
    Calls Tryz.prog 35 #[.iface 55 (.int .i64 n), .iface 74 (.pointer (some t))] w fun ev w' => ev = .returned (.bool false) ∧ Al w w' := by
  have h6 := @run_callFunc_extern Tryz.prog 61 _ (fun args => ReflectliteValue.unpack (args.getD 0 (.tuple #[]))) Tryz.func61 (by kernel_rfl) (by kernel_rfl) (by kernel_rfl) (by kernel_rfl)
  have h7 := @run_callFunc_extern Tryz.prog 62 _ (ReflectliteValue.methodAny (ReflectliteValue.valueError "reflectlite.Value.Type" 0) (fun t _ _ _ => ReflectliteType.toType t)) Tryz.func62 (by kernel_rfl) (by kernel_rfl) (by kernel_rfl) (by kernel_rfl)
  have h8 := @run_callFunc_extern Tryz.prog 63 _ (ReflectliteValue.method (ReflectliteValue.valueError "reflectlite.Value.IsNil" 0) ReflectliteValue.isNil) Tryz.func63 (by kernel_rfl) (by kernel_rfl) (by kernel_rfl) (by kernel_rfl)
  have h27 := @run_callFunc_extern Tryz.prog 188 _ (ReflectliteType.abiMethod fun t => do pure (.int .u8 (← Rtype.kind t))) Tryz.func188 (by kernel_rfl) (by kernel_rfl) (by kernel_rfl) (by kernel_rfl)
  have h37 := @run_callFunc_extern Tryz.prog 200 _ (ReflectliteType.method ReflectliteType.elem) Tryz.func200 (by kernel_rfl) (by kernel_rfl) (by kernel_rfl) (by kernel_rfl)
  have h38 := @run_callFunc_extern Tryz.prog 201 _ (ReflectliteType.relation "Implements" ReflectliteType.implements_) Tryz.func201 (by kernel_rfl) (by kernel_rfl) (by kernel_rfl) (by kernel_rfl)
  have h10 := @run_callFunc_extern Tryz.prog 94 _ ReflectliteType.typeOf Tryz.func94 (by kernel_rfl) (by kernel_rfl) (by kernel_rfl) (by kernel_rfl)
  have h35 := @run_callFunc_extern Tryz.prog 198 _ (ReflectliteType.relation "AssignableTo" ReflectliteType.assignableTo) Tryz.func198 (by kernel_rfl) (by kernel_rfl) (by kernel_rfl) (by kernel_rfl)
  have h11 := @run_callFunc_extern Tryz.prog 95 _ (ReflectliteValue.method (ReflectliteValue.valueError "reflectlite.Value.Elem" 0) ReflectliteValue.elem) Tryz.func95 (by kernel_rfl) (by kernel_rfl) (by kernel_rfl) (by kernel_rfl)
  have h12 := @run_callFunc_extern Tryz.prog 96 _ ReflectliteValue.set Tryz.func96 (by kernel_rfl) (by kernel_rfl) (by kernel_rfl) (by kernel_rfl)
  have tO := typeOfC
  have mA := methodAssignableTo
  have nA := noAsC
  have nU := noUnC
  have nL := noUlC
  have a25 := asgCF
  have v25 := valueOfFA
  have f6 := valueOfF
  have f7 := typeF
  have mK := methodKind
  have mE := methodElem
  have mI := methodImplements
  have k27 := kindPF
  have k25 := kindFA
  have e27 := elemF
  have i25 := implF
  have n8 := isNilF ⟨w.heap.size, 0, none⟩ t ((w.alloc (.cells #[.pointer (some t)] 74)).alloc (vF w)) (by simp)
  have hlt : 0 < w.heap.size := by
    rcases Nat.lt_or_ge 0 w.heap.size with h | h
    · exact h
    · simp [World.cell?, Array.getElem?_eq_none h] at hg
  have hg2 : ((w.alloc (.cells #[.pointer (some t)] 74)).alloc (vF w)).cell? ⟨0, 0, none⟩ = some (.iface 129 (.agg #[hd 29])) := by
    rw [World.cell?_alloc_lt _ _ ⟨0, 0, none⟩ (by simp <;> omega), World.cell?_alloc_lt _ _ ⟨0, 0, none⟩ hlt]; exact hg
  have htl : t.block < w.heap.size := by
    rcases Nat.lt_or_ge t.block w.heap.size with h | h
    · exact h
    · simp [World.cell?, Array.getElem?_eq_none h] at ht0
  have el := elemVF ⟨w.heap.size, 0, none⟩ t (((w.alloc (.cells #[.pointer (some t)] 74)).alloc (vF w)).alloc (vF w)) (by rw [World.cell?_alloc_lt _ _ ⟨w.heap.size, 0, none⟩ (by simp; omega)]; simp)
  go_enter Tryz.func35, Tryz.ntmps35
  go_wp2
  refine wp_loop_rounds 1 ?_
  rw [rounds_succ]
  go_wp2
  go_ret
  exact ⟨rfl, .step _ (.step _ (.step _ .refl))⟩
end Go.Proofs.Tryz.AsP
end
section
namespace Go.Proofs.Tryz.AsP
open Go.RowKit Go.Extern.Stop Go.Stop Go.Extern Go.Proofs
set_option maxHeartbeats 4000000 in
theorem as_FC (b o : Nat) (n : Int) (t : Addr) (old : Value) (w : World) (hg : w.cell? ⟨0, 0, none⟩ = some (.iface 129 (.agg #[hd 29]))) (ht0 : w.cell? t = some old) (hf0 : w.frozen? t = false) (hp : w.cell? ⟨b, o + 1, none⟩ = some (.iface 55 (.int .i64 n))) :
    Calls Tryz.prog 35 #[.iface 58 (.pointer (some ⟨b, o, none⟩)), .iface 73 (.pointer (some t))] w fun ev w' => ev = .returned (.bool true) ∧ ∃ w1, Al w w1 ∧ w' = w1.setCell t (.int .i64 n) := by
  have h6 := @run_callFunc_extern Tryz.prog 61 _ (fun args => ReflectliteValue.unpack (args.getD 0 (.tuple #[]))) Tryz.func61 (by kernel_rfl) (by kernel_rfl) (by kernel_rfl) (by kernel_rfl)
  have h7 := @run_callFunc_extern Tryz.prog 62 _ (ReflectliteValue.methodAny (ReflectliteValue.valueError "reflectlite.Value.Type" 0) (fun t _ _ _ => ReflectliteType.toType t)) Tryz.func62 (by kernel_rfl) (by kernel_rfl) (by kernel_rfl) (by kernel_rfl)
  have h8 := @run_callFunc_extern Tryz.prog 63 _ (ReflectliteValue.method (ReflectliteValue.valueError "reflectlite.Value.IsNil" 0) ReflectliteValue.isNil) Tryz.func63 (by kernel_rfl) (by kernel_rfl) (by kernel_rfl) (by kernel_rfl)
  have h27 := @run_callFunc_extern Tryz.prog 188 _ (ReflectliteType.abiMethod fun t => do pure (.int .u8 (← Rtype.kind t))) Tryz.func188 (by kernel_rfl) (by kernel_rfl) (by kernel_rfl) (by kernel_rfl)
  have h37 := @run_callFunc_extern Tryz.prog 200 _ (ReflectliteType.method ReflectliteType.elem) Tryz.func200 (by kernel_rfl) (by kernel_rfl) (by kernel_rfl) (by kernel_rfl)
  have h38 := @run_callFunc_extern Tryz.prog 201 _ (ReflectliteType.relation "Implements" ReflectliteType.implements_) Tryz.func201 (by kernel_rfl) (by kernel_rfl) (by kernel_rfl) (by kernel_rfl)
  have h10 := @run_callFunc_extern Tryz.prog 94 _ ReflectliteType.typeOf Tryz.func94 (by kernel_rfl) (by kernel_rfl) (by kernel_rfl) (by kernel_rfl)
  have h35 := @run_callFunc_extern Tryz.prog 198 _ (ReflectliteType.relation "AssignableTo" ReflectliteType.assignableTo) Tryz.func198 (by kernel_rfl) (by kernel_rfl) (by kernel_rfl) (by kernel_rfl)
  have h11 := @run_callFunc_extern Tryz.prog 95 _ (ReflectliteValue.method (ReflectliteValue.valueError "reflectlite.Value.Elem" 0) ReflectliteValue.elem) Tryz.func95 (by kernel_rfl) (by kernel_rfl) (by kernel_rfl) (by kernel_rfl)
  have h12 := @run_callFunc_extern Tryz.prog 96 _ ReflectliteValue.set Tryz.func96 (by kernel_rfl) (by kernel_rfl) (by kernel_rfl) (by kernel_rfl)
  have tO := typeOfC
  have tO2 := typeOfF
  have a26 := asgFC
  have nA := noAsF
  have nU := unF
  have mU := methodUnwrap
  have mA := methodAssignableTo
  have a25 := asgCC
  have v25 := valueOfCO
  have f6 := valueOfC
  have f7 := typeC
  have mK := methodKind
  have mE := methodElem
  have mI := methodImplements
  have k27 := kindPC
  have k25 := kindCO
  have e27 := elemC
  have i25 := implC
  have n8 := isNilC ⟨w.heap.size, 0, none⟩ t ((w.alloc (.cells #[.pointer (some t)] 73)).alloc (vC w)) (by simp)
  have hlt : 0 < w.heap.size := by
    rcases Nat.lt_or_ge 0 w.heap.size with h | h
    · exact h
    · simp [World.cell?, Array.getElem?_eq_none h] at hg
  have hg2 : ((w.alloc (.cells #[.pointer (some t)] 73)).alloc (vC w)).cell? ⟨0, 0, none⟩ = some (.iface 129 (.agg #[hd 29])) := by
    rw [World.cell?_alloc_lt _ _ ⟨0, 0, none⟩ (by simp <;> omega), World.cell?_alloc_lt _ _ ⟨0, 0, none⟩ hlt]; exact hg
  have htl : t.block < w.heap.size := by
    rcases Nat.lt_or_ge t.block w.heap.size with h | h
    · exact h
    · simp [World.cell?, Array.getElem?_eq_none h] at ht0
  have hbl : b < w.heap.size := by
    rcases Nat.lt_or_ge b w.heap.size with h | h
    · exact h
    · simp [World.cell?, Array.getElem?_eq_none h] at hp
  have hp2 : (((w.alloc (.cells #[.pointer (some t)] 73)).alloc (vC w)).alloc (vC w)).cell? ⟨b, o + 1, none⟩ = some (.iface 55 (.int .i64 n)) := by
    rw [World.cell?_alloc_lt _ _ ⟨b, o + 1, none⟩ (by simp <;> omega), World.cell?_alloc_lt _ _ ⟨b, o + 1, none⟩ (by simp <;> omega), World.cell?_alloc_lt _ _ ⟨b, o + 1, none⟩ hbl]; exact hp
  have el := elemVC ⟨w.heap.size, 0, none⟩ t (((w.alloc (.cells #[.pointer (some t)] 73)).alloc (vC w)).alloc (vC w)) (by rw [World.cell?_alloc_lt _ _ ⟨w.heap.size, 0, none⟩ (by simp; omega)]; simp)
  have st := setCO t ⟨w.heap.size + 1 + 1 + 1, 0, none⟩ n old ((((w.alloc (.cells #[.pointer (some t)] 73)).alloc (vC w)).alloc (vC w)).alloc (.cells #[.int .i64 n] 55))
    (by rw [World.cell?_alloc_at _ _ _ _ (by simp)]; rfl)
    (by rw [World.cell?_alloc_lt _ _ t (by simp; omega), World.cell?_alloc_lt _ _ t (by simp; omega), World.cell?_alloc_lt _ _ t (by simp; omega), World.cell?_alloc_lt _ _ t htl]; exact ht0)
    (by rw [World.frozen?_alloc_old _ _ t (by simp; omega), World.frozen?_alloc_old _ _ t (by simp; omega), World.frozen?_alloc_old _ _ t (by simp; omega), World.frozen?_alloc_old _ _ t (Nat.ne_of_lt htl)]; exact hf0)
  go_enter Tryz.func35, Tryz.ntmps35
  go_wp2
  refine wp_loop_rounds 2 ?_
  rw [rounds_succ]
  go_wp2
  rw [rounds_succ]
  go_wp2
  go_ret
  exact ⟨rfl, _, .step _ (.step _ (.step _ (.step _ .refl))), rfl⟩
end Go.Proofs.Tryz.AsP
end
section
namespace Go.Lb
inductive Alc (w : World) : World → Prop
  | refl : Alc w w
  | step {w1 : World} (o : Obj) (h : Alc w w1) : Alc w (w1.alloc o)
theorem Alc.srel {B : Nat} {fz : Fz} {h : Heap} {w w1 : World} (ha : Alc w w1) (s : SRel B fz h w) : SRel B fz h w1 ∧ Evo B fz w fz w1 := by
  induction ha with
  | refl => exact ⟨s, Evo.refl _ _ _⟩
  | step o _ ih => exact ⟨srel_alloc ih.1 o, ih.2.trans (evo_alloc ih.1 o fz fun _ _ h => h)⟩
theorem acalls_hit {X : Cx} {f : FuncId} {args : List AV} {h : Heap} {b : Nat} {E : TypeId} {old new : AV} (he : Enters X.P f) (hb : h b = some (.cells [old] E))
    (hc : ∀ fz w (cargs : Array Value), SRel X.B fz h w → GRel X.B fz w X.G → RelL fz w args cargs.toList → ∀ c0, w.cell? ⟨b, 0, none⟩ = some c0 → w.frozen? ⟨b, 0, none⟩ = false →
      ∃ cn, Rel fz w new cn ∧ Calls X.P f cargs w fun e w' => e = .returned (.bool true) ∧ ∃ w1, Alc w w1 ∧ w' = w1.setCell ⟨b, 0, none⟩ cn) :
    ACalls X f args h fun e h' => e = .ret (.bool true) ∧ h' = hset h b (.cells [new] E) := by
  refine ⟨he, fun fz w cargs h1 h2 h3 => ?_⟩
  obtain ⟨hB, cs, hcs, hrl, hnf⟩ := h1.blk b _ hb
  have hsz : cs.size = 1 := by have := RelL.length hrl; simp at this; omega
  obtain ⟨c0, hc0⟩ : ∃ c0, cs = #[c0] := by
    refine ⟨cs[0], ?_⟩
    apply Array.ext
    · simp [hsz]
    · intro i h1 h2
      simp at h2
      subst h2
      rfl
  subst hc0
  obtain ⟨cn, hn, hcall⟩ := hc fz w cargs h1 h2 h3 c0 (by simp [World.cell?, hcs]) (by simp [World.frozen?, hcs])
  refine hcall.mono ?_
  rintro e w' ⟨rfl, w1, ha, rfl⟩
  obtain ⟨s1, e1⟩ := ha.srel h1
  obtain ⟨_, cs1, hcs1, hrl1, hnf1⟩ := s1.blk b _ hb
  have hsz1 : cs1.size = 1 := by have := RelL.length hrl1; simp at this; omega
  obtain ⟨c1, hc1⟩ : ∃ c0, cs1 = #[c0] := by
    refine ⟨cs1[0], ?_⟩
    apply Array.ext
    · simp [hsz1]
    · intro i h1 h2
      simp at h2
      subst h2
      rfl
  subst hc1
  have hlt : b < w1.heap.size := (Array.getElem?_eq_some_iff.1 hcs1).1
  have hw : w1.setCell ⟨b, 0, none⟩ cn = setRow w1 b (.cells #[cn] E (0, 0)) := by
    refine world_ext_heap (fun k => ?_) rfl rfl rfl rfl
    by_cases hk : k = b
    · subst hk
      rw [setCell_heap_at _ _ _ _ hcs1, setRow_heap_at _ _ _ hlt]
      rfl
    · rw [setCell_heap_ne _ _ _ _ hk, setRow_heap_ne _ _ _ hk]
  obtain ⟨e2, s2⟩ := srel_setRow (fz' := fz) (k' := .cells [new] E) s1 hb (.cells #[cn] E (0, 0)) (fun _ _ h => h) (fun _ _ h _ => h) (fun o ho => absurd ho (hnf1 o)) (fun o ho => absurd ho (hnf1 o)) (fun ev => by
    refine ⟨#[cn], setRow_heap_at _ _ _ hlt, ?_, hnf1⟩
    simp only [RelL]
    exact ⟨cn, [], rfl, Rel.mono (e1.trans ev) _ _ hn, rfl⟩)
  rw [hw]
  exact ⟨.ret (.bool true), _, fz, ⟨rfl, rfl⟩, by simp [EndRel, Rel], s2, e1.trans e2⟩
theorem acalls_miss {X : Cx} {f : FuncId} {args : List AV} {h : Heap} (he : Enters X.P f)
    (hc : ∀ fz w (cargs : Array Value), SRel X.B fz h w → GRel X.B fz w X.G → RelL fz w args cargs.toList → Calls X.P f cargs w fun e w' => e = .returned (.bool false) ∧ Alc w w') :
    ACalls X f args h fun e h' => e = .ret (.bool false) ∧ h' = h := by
  refine ⟨he, fun fz w cargs h1 h2 h3 => (hc fz w cargs h1 h2 h3).mono ?_⟩
  rintro e w' ⟨rfl, ha⟩
  obtain ⟨s1, e1⟩ := ha.srel h1
  exact ⟨.ret (.bool false), _, fz, ⟨rfl, rfl⟩, by simp [EndRel, Rel], s1, e1⟩
theorem cell_of_grel {B : Nat} {fz : Fz} {w : World} {G : Nat → AV} {g rt ng er : Nat} (hG : GRel B fz w G) (hv : G g = .agg [.iface rt (.agg [.ptr ng er])]) : w.cell? ⟨g, 0, none⟩ = some (.iface rt (.agg #[.pointer (some ⟨ng, er, none⟩)])) := by
  have h := hG g
  rw [hv] at h
  obtain ⟨_, cs, E, fr, h1, h2⟩ := h
  simp only [RelL] at h2
  obtain ⟨c, l, e1, h3, rfl⟩ := h2
  simp only [Rel] at h3
  obtain ⟨x, rfl, vs, rfl, h4⟩ := h3
  simp only [RelL] at h4
  obtain ⟨c2, l2, e2, h5, rfl⟩ := h4
  simp only [Rel] at h5
  subst h5
  have : vs = #[.pointer (some ⟨ng, er, none⟩)] := by
    apply Array.toList_inj.1
    simpa using e2
  subst this
  have : cs = #[.iface rt (.agg #[.pointer (some ⟨ng, er, none⟩)])] := by
    apply Array.toList_inj.1
    simpa using e1
  subst this
  simp [World.cell?, h1]
end Go.Lb
end
section
set_option maxRecDepth 100000
namespace Go.Lb.R
open Go.Proofs
open Go.Lb
open Go.Proofs.Tryz.AsP (as_CC as_FF as_CF as_FC)
theorem al_alc {w w' : World} (h : Go.Proofs.Tryz.AsP.Al w w') : Alc w w' := by
  induction h with
  | refl => exact .refl
  | step o _ ih => exact .step o ih
theorem asEnters : Enters Tryz.prog 35 := ⟨Tryz.f35, _, Tryz.func35, rfl, by kernel_rfl⟩
theorem et_cell {B : Nat} {fz : Fz} {w : World} (hG : GRel B fz w G0) : w.cell? ⟨0, 0, none⟩ = some (.iface 129 (.agg #[.pointer (some ⟨5, 29, none⟩)])) := cell_of_grel hG (by rfl)
theorem rel2 {fz : Fz} {w : World} {t1 t2 b : Nat} {v : AV} {cargs : Array Value} (h : RelL fz w [.iface t1 v, .iface t2 (.ptr b 0)] cargs.toList) : ∃ c, cargs = #[.iface t1 c, .iface t2 (.pointer (some ⟨b, 0, none⟩))] ∧ Rel fz w v c := by
  simp only [RelL, Rel] at h
  obtain ⟨c, l, e1, ⟨x, rfl, hx⟩, c2, l2, rfl, ⟨y, rfl, rfl⟩, rfl⟩ := h
  exact ⟨x, Array.toList_inj.1 (by simpa using e1), hx⟩
theorem asA_CC (B : Nat) (n : Int) {h : Heap} {b : Nat} {old : AV} {E : TypeId} (hb : h b = some (.cells [old] E)) : ACalls (X B) 35 [.iface 55 (.int .i64 n), .iface 73 (.ptr b 0)] h fun e h' => e = .ret (.bool true) ∧ h' = hset h b (.cells [.int .i64 n] E) :=
  acalls_hit asEnters hb fun fz w cargs h1 h2 h3 c0 hc0 hf0 => by
    obtain ⟨c, rfl, hc⟩ := rel2 h3
    simp only [Rel] at hc
    subst hc
    refine ⟨.int .i64 n, by simp only [Rel], (as_CC n ⟨b, 0, none⟩ c0 w (et_cell h2) hc0 hf0).mono ?_⟩
    rintro e w' ⟨rfl, w1, ha, rfl⟩
    exact ⟨rfl, w1, al_alc ha, rfl⟩
theorem asA_FC (B : Nat) (p n : Int) {h : Heap} {b : Nat} {old : AV} {E : TypeId} (hb : h b = some (.cells [old] E)) : ACalls (X B) 35 [aErr 55 58 (.fault p (.code n)), .iface 73 (.ptr b 0)] h fun e h' => e = .ret (.bool true) ∧ h' = hset h b (.cells [.int .i64 n] E) :=
  acalls_hit asEnters hb fun fz w cargs h1 h2 h3 c0 hc0 hf0 => by
    obtain ⟨c, rfl, hc⟩ := rel2 h3
    simp only [Rel] at hc
    obtain ⟨pb, po, rfl, hc⟩ := hc
    simp only [RelAt, aErr, Rel] at hc
    obtain ⟨_, ⟨c2, hc2, _, x, rfl, rfl⟩, _⟩ := hc
    refine ⟨.int .i64 n, by simp only [Rel], (as_FC pb po n ⟨b, 0, none⟩ c0 w (et_cell h2) hc0 hf0 hc2).mono ?_⟩
    rintro e w' ⟨rfl, w1, ha, rfl⟩
    exact ⟨rfl, w1, al_alc ha, rfl⟩
theorem asA_FF (B : Nat) (cs : List AV) {h : Heap} {b : Nat} {old : AV} {E : TypeId} (hb : h b = some (.cells [old] E)) : ACalls (X B) 35 [.iface 58 (.ro cs), .iface 74 (.ptr b 0)] h fun e h' => e = .ret (.bool true) ∧ h' = hset h b (.cells [.ro cs] E) :=
  acalls_hit asEnters hb fun fz w cargs h1 h2 h3 c0 hc0 hf0 => by
    obtain ⟨c, rfl, hc⟩ := rel2 h3
    have hc' := hc
    simp only [Rel] at hc
    obtain ⟨pb, po, rfl, hc⟩ := hc
    refine ⟨_, hc', (as_FF ⟨pb, po, none⟩ ⟨b, 0, none⟩ c0 w (et_cell h2) hc0 hf0).mono ?_⟩
    rintro e w' ⟨rfl, w1, ha, rfl⟩
    exact ⟨rfl, w1, al_alc ha, rfl⟩
theorem asA_CF (B : Nat) (n : Int) {h : Heap} {b : Nat} {old : AV} {E : TypeId} (hb : h b = some (.cells [old] E)) : ACalls (X B) 35 [.iface 55 (.int .i64 n), .iface 74 (.ptr b 0)] h fun e h' => e = .ret (.bool false) ∧ h' = h :=
  acalls_miss asEnters fun fz w cargs h1 h2 h3 => by
    obtain ⟨c, rfl, hc⟩ := rel2 h3
    simp only [Rel] at hc
    subst hc
    obtain ⟨_, cs, hcs, hrl, hnf⟩ := h1.blk b _ hb
    have hsz : cs.size = 1 := by have := RelL.length hrl; simp at this; omega
    refine (as_CF n ⟨b, 0, none⟩ cs[0] w (et_cell h2) (by simp [World.cell?, hcs, hsz]) (by simp [World.frozen?, hcs])).mono ?_
    rintro e w' ⟨rfl, ha⟩
    exact ⟨rfl, al_alc ha⟩
def codeI (n : Int) : Int := bif decide (n > 0) then n else -1
def codeF : GErr → Option Int
  | .nil => some 0
  | .code n => some (codeI n)
  | .fault _ (.code n) => some (codeI n)
  | _ => none
noncomputable def bC : Code := Tryz.f20.body.getD .skip
noncomputable def c0 : Array Oper := match bC with | .seq (.region _ o _) _ => o | _ => #[]
noncomputable def c1 : Array Oper := match bC with | .seq _ (.seq (.seq (.region _ o _) _) _) => o | _ => #[]
noncomputable def c2 : Array Oper := match bC with | .seq _ (.seq (.seq _ (.cond _ (.seq (.region _ o _) _) _)) _) => o | _ => #[]
noncomputable def c3 : Array Oper := match bC with | .seq _ (.seq _ (.seq (.region _ o _) _)) => o | _ => #[]
noncomputable def c4 : Array Oper := match bC with | .seq _ (.seq _ (.seq _ (.seq (.seq (.region _ o _) _) _))) => o | _ => #[]
noncomputable def c5 : Array Oper := match bC with | .seq _ (.seq _ (.seq _ (.seq (.seq _ (.cond _ (.seq (.region _ o _) _) _)) _))) => o | _ => #[]
noncomputable def c6 : Array Oper := match bC with | .seq _ (.seq _ (.seq _ (.seq _ (.seq (.region _ o _) _)))) => o | _ => #[]
theorem bC_eq : bC = .seq (.region 0 c0 false) (.seq (.seq (.region 1 c1 false) (.cond (.tmp 5) (.seq (.region 2 c2 false) .ret) .skip)) (.seq (.region 3 c3 false) (.seq (.seq (.region 4 c4 false) (.cond (.tmp 12) (.seq (.region 5 c5 false) .ret) .skip)) (.seq (.region 6 c6 false) .ret)))) := by kernel_rfl
theorem fC_ok : FIok' Tryz.prog 20 (fiOf Tryz.f20 ⟨[], [], []⟩) := ⟨_, by kernel_rfl, by kernel_rfl, by kernel_rfl, rfl, rfl⟩
theorem code_nil (B : Nat) : Pure (X B) 20 [.nilif] (.int .i64 0) := by
  obtain ⟨fn, f1, f2, f3, f4, f5⟩ := fC_ok.ex
  refine wf 14 f1 f2 f3 f4 f5 (by simp) fun h hP => ?_
  show WS (X B) 14 bC _ ⟨look [(0, AV.nilif)], h⟩
  rw [bC_eq]
  refine sr (rkE [] 1 [0] [(0, AV.nilif)] (nt ?_ (by decide)))
  refine ws_seq (sr (rkE [] 2 [0, 5] [(0, AV.nilif), (5, .bool true)] (nt ?_ (by decide))))
  refine ws_cond (t := true) rfl (fun _ => sr (rkE [] 1 [2] [(2, .int .i64 0)] (nt (ws_ret (t_ret (Go.Lb.re (.int .i64 0) (Weak.refl _) (Sub.refl _)))) (by decide)))) (fun e => by cases e)
theorem code_as (B : Nat) (t : TypeId) (v : AV) (n : Int) (hAs : ∀ (h : Heap) (b : Nat) (old : AV) (E : TypeId), h b = some (.cells [old] E) → ACalls (X B) 35 [.iface t v, .iface 73 (.ptr b 0)] h fun e h' => e = .ret (.bool true) ∧ h' = hset h b (.cells [.int .i64 n] E)) : Pure (X B) 20 [.iface t v] (.int .i64 (codeI n)) := by
  obtain ⟨fn, f1, f2, f3, f4, f5⟩ := fC_ok.ex
  refine wf 14 f1 f2 f3 f4 f5 (by simp) fun h hP => ?_
  show WS (X B) 14 bC _ ⟨look [(0, AV.iface t v)], h⟩
  rw [bC_eq]
  refine sr (rkE [] 1 [0] [(0, AV.iface t v)] (nt ?_ (by decide)))
  refine ws_seq (sr (rkE [] 2 [0, 5] [(0, AV.iface t v), (5, .bool false)] (nt ?_ (by decide))))
  refine ws_cond (t := false) rfl (fun e => by cases e) (fun _ => ws_skip (t_norm ?_))
  refine sr (rn [.int .i64 0] 55 (some 3) hP fun b h1 hP1 => nt ?_ (by decide))
  refine ws_seq (sr (rkE [] 2 [3, 6, 7] [(3, .ptr b 0), (6, AV.iface t v), (7, .iface 73 (.ptr b 0))] ?_))
  refine wso_acall XOK.ok (g := 35) (args := [.iface t v, .iface 73 (.ptr b 0)]) (d := some 8) (by kernel_rfl) (hAs h1 b (.int .i64 0) 55 (hP1.get 0 rfl)) (fun v' h' ⟨e1, e2⟩ => ?_) (fun v' h' ⟨e1, _⟩ => by cases e1)
  cases e1
  subst e2
  have hP2 := hP1.set 0 rfl (.cells [.int .i64 n] 55)
  refine rkE [] 1 [3, 9] [(3, .ptr b 0), (9, .bool true)] ?_
  refine rld (b := b) (vs := [.int .i64 n]) (E := 55) 0 ⟨.int .i64, 1, 8, .int .i64 0⟩ (some 10) (.int .i64 n) (hP2.get 0 rfl) ?_
  refine rkE [] 2 [3, 12] [(3, .ptr b 0), (12, .bool (decide (n > 0)))] (nt ?_ (by decide))
  refine ws_cond (t := decide (n > 0)) rfl (fun hn => ?_) (fun hn => ws_skip (t_norm ?_))
  · refine sr (rld (b := b) (vs := [.int .i64 n]) (E := 55) 0 ⟨.int .i64, 1, 8, .int .i64 0⟩ (some 13) (.int .i64 n) (hP2.get 0 rfl) ?_)
    refine rkE [] 1 [2] [(2, .int .i64 n)] (nt (ws_ret (t_ret ?_)) (by decide))
    have : codeI n = n := by unfold codeI; rw [hn]; rfl
    rw [this]
    exact Go.Lb.re (.int .i64 n) (Weak.refl _) hP2.sub
  · refine sr (rkE [] 1 [2] [(2, .int .i64 (-1))] (nt (ws_ret ?_) (by decide)))
    have : codeI n = -1 := by unfold codeI; rw [hn]; rfl
    rw [this]
    exact Go.Lb.re (.int .i64 (-1)) (Weak.refl _) hP2.sub
theorem code_pure (B : Nat) (e : GErr) (r : Int) (hr : codeF e = some r) : Pure (X B) 20 [aErr 55 58 e] (.int .i64 r) := by
  match e, hr with
  | .nil, hr => cases hr; exact code_nil B
  | .code n, hr => cases hr; exact code_as B 55 _ n fun h b old E hb => asA_CC B n hb
  | .fault p (.code n), hr => cases hr; exact code_as B 58 _ n fun h b old E hb => asA_FC B p n hb
def codeCon : Con := pureCon [(0, .err)] (.int .i64) fun x => codeF x.1
theorem code_ok (B : Nat) (con : FuncId → Option Con) (lp : Nat → Option (FuncId × List Nat × Con)) : ∀ x y, codeCon.fn x = some y → FnOK1 (X B) (mkC con lp) 20 codeCon x y :=
  pure_fnok rfl rfl rfl rfl fun x y h => code_pure B x.1 y h
def faultF (e : GErr) (code at_ : Int) : Option Bool :=
  bif decide (code = 0) then some e.isNil else
  match e with
  | .nil => some false
  | .code _ => some false
  | .fault p (.code n) => some (decide (codeI n = code) && decide (p = at_))
  | _ => none
noncomputable def bF : Code := Tryz.f21.body.getD .skip
noncomputable def d0 : Array Oper := match bF with | .seq (.region _ o _) _ => o | _ => #[]
noncomputable def d1 : Array Oper := match bF with | .seq _ (.seq (.region _ o _) _) => o | _ => #[]
noncomputable def d2 : Array Oper := match bF with | .seq _ (.seq _ (.seq (.seq (.region _ o _) _) _)) => o | _ => #[]
noncomputable def d3 : Array Oper := match bF with | .seq _ (.seq _ (.seq (.seq _ (.cond _ (.seq (.region _ o _) _) _)) _)) => o | _ => #[]
noncomputable def d4 : Array Oper := match bF with | .seq _ (.seq _ (.seq _ (.seq (.region _ o _) _))) => o | _ => #[]
theorem bF_eq : bF = .seq (.region 0 d0 false) (.seq (.region 1 d1 false) (.seq (.seq (.region 2 d2 false) (.cond (.tmp 9) (.seq (.region 3 d3 false) .ret) .skip)) (.seq (.region 4 d4 false) .ret))) := by kernel_rfl
theorem fF_ok : FIok' Tryz.prog 21 (fiOf Tryz.f21 ⟨[], [], []⟩) := ⟨_, by kernel_rfl, by kernel_rfl, by kernel_rfl, rfl, rfl⟩
theorem isNil_eq (B : Nat) {n : Nat} {ops : Array Oper} {k : Nat} {A : List (Nat × AV)} {h : Heap} {Q : AExit → St → Prop} (d : Option Tmp) (e : GErr) (hw : WSO (X B) n ops Q (k + 1) ⟨look (putA d (.bool e.isNil) A), h⟩) (hc : opAt (X B) n ops k A h = some (abinT (X B).T (X B).es .eql 29 (.tmp 10) (.const .nilIface) (aErr 55 58 e) .nilif, d) := by kernel_rfl) : WSO (X B) n ops Q k ⟨look A, h⟩ := by
  exact wso_aop XOK.ok hc (er_eql (xo := .tmp 10) (yo := .const .nilIface) ⟨.iface, 1, 16, .nilif⟩ (by kernel_rfl) rfl rfl e) hw
theorem fault_pure (B : Nat) (e : GErr) (code at_ : Int) (r : Bool) (hr : faultF e code at_ = some r) : Pure (X B) 21 [aErr 55 58 e, .int .i64 code, .int .i64 at_] (.bool r) := by
  obtain ⟨fn, f1, f2, f3, f4, f5⟩ := fF_ok.ex
  refine wf 33 f1 f2 f3 f4 f5 (by simp) fun h hP => ?_
  show WS (X B) 33 bF _ ⟨look [(0, aErr 55 58 e), (1, .int .i64 code), (2, .int .i64 at_)], h⟩
  rw [bF_eq]
  refine sr (rkE [] 1 [0, 1, 2] [(0, aErr 55 58 e), (1, .int .i64 code), (2, .int .i64 at_)] (nt ?_ (by decide)))
  refine sr (rn [.nilp] 58 (some 7) hP fun b h1 hP1 => nt ?_ (by decide))
  refine ws_seq (sr (rkE [] 2 [0, 1, 2, 7, 9] [(0, aErr 55 58 e), (1, .int .i64 code), (2, .int .i64 at_), (7, .ptr b 0), (9, .bool (decide (code = 0)))] (nt ?_ (by decide))))
  unfold faultF at hr
  refine ws_cond (t := decide (code = 0)) rfl (fun hn => ?_) (fun hn => ws_skip (t_norm ?_))
  · rw [hn] at hr
    simp only [cond_true, Option.some.injEq] at hr
    subst hr
    refine sr (rkE [] 1 [10] [(10, aErr 55 58 e)] (isNil_eq B (some 11) e (rkE [] 1 [6] [(6, .bool e.isNil)] (nt (ws_ret (t_ret ?_)) (by decide)))))
    exact Go.Lb.re (.bool e.isNil) (Weak.refl _) hP1.sub
  · rw [hn] at hr
    simp only [cond_false] at hr
    have miss : ∀ c : Int, codeF e = some c → decide (c = code) = false → r = false → WS (X B) 33 (.seq (.region 4 d4 false) .ret) (retPost (X B) [.tmp 6] (EndsIn (.bool r) h)) ⟨look [(0, aErr 55 58 e), (1, .int .i64 code), (2, .int .i64 at_), (7, .ptr b 0), (9, .bool (decide (code = 0)))], h1⟩ := by
      intro c hc1 hc2 hc3
      subst hc3
      refine sr (rkE [] 1 [0, 1, 2, 7, 12] [(0, aErr 55 58 e), (1, .int .i64 code), (2, .int .i64 at_), (7, .ptr b 0), (12, aErr 55 58 e)] ?_)
      refine rc (some 13) (code_pure B e c hc1) ?_
      refine rkE [] 2 [0, 2, 7, 15] [(0, aErr 55 58 e), (2, .int .i64 at_), (7, .ptr b 0), (15, .bool (decide (c = code)))] ?_
      rw [hc2]
      refine rkE [] 18 [6] [(6, .bool false)] (nt (ws_ret ?_) (by decide))
      exact Go.Lb.re (.bool false) (Weak.refl _) hP1.sub
    match e, hr with
    | .nil, hr =>
      cases hr
      refine miss 0 rfl ?_ rfl
      simp only [decide_eq_false_iff_not] at hn ⊢
      omega
    | .code n, hr =>
      cases hr
      cases hc : decide (codeI n = code) with
      | false => exact miss (codeI n) rfl hc rfl
      | true =>
        refine sr (rkE [] 1 [0, 1, 2, 7, 12] [(0, .iface 55 (.int .i64 n)), (1, .int .i64 code), (2, .int .i64 at_), (7, .ptr b 0), (12, .iface 55 (.int .i64 n))] ?_)
        refine rc (some 13) (code_pure B (.code n) (codeI n) rfl) ?_
        refine rkE [] 2 [0, 2, 7, 15] [(0, .iface 55 (.int .i64 n)), (2, .int .i64 at_), (7, .ptr b 0), (15, .bool (decide (codeI n = code)))] ?_
        rw [hc]
        refine rkE [] 3 [2, 7, 16, 17, 18] [(2, .int .i64 at_), (7, .ptr b 0), (16, .bool true), (17, .iface 55 (.int .i64 n)), (18, .iface 74 (.ptr b 0))] ?_
        refine wso_acall XOK.ok (g := 35) (args := [.iface 55 (.int .i64 n), .iface 74 (.ptr b 0)]) (d := some 19) (by kernel_rfl) (asA_CF B n (hP1.get 0 rfl)) (fun v' h' ⟨e1, e2⟩ => ?_) (fun v' h' ⟨e1, _⟩ => by cases e1)
        cases e1
        subst e2
        refine rkE [] 14 [6] [(6, .bool false)] (nt (ws_ret ?_) (by decide))
        exact Go.Lb.re (.bool false) (Weak.refl _) hP1.sub
    | .fault p (.code n), hr =>
      cases hr
      cases hc : decide (codeI n = code) with
      | false => have hm := miss (codeI n) rfl hc (by rw [hc]; rfl); rw [hc] at hm; exact hm
      | true =>
        refine sr (rkE [] 1 [0, 1, 2, 7, 12] [(0, aErr 55 58 (.fault p (.code n))), (1, .int .i64 code), (2, .int .i64 at_), (7, .ptr b 0), (12, aErr 55 58 (.fault p (.code n)))] ?_)
        refine rc (some 13) (code_pure B (.fault p (.code n)) (codeI n) rfl) ?_
        refine rkE [] 2 [0, 2, 7, 15] [(0, aErr 55 58 (.fault p (.code n))), (2, .int .i64 at_), (7, .ptr b 0), (15, .bool (decide (codeI n = code)))] ?_
        rw [hc]
        refine rkE [] 3 [2, 7, 16, 17, 18] [(2, .int .i64 at_), (7, .ptr b 0), (16, .bool true), (17, aErr 55 58 (.fault p (.code n))), (18, .iface 74 (.ptr b 0))] ?_
        refine wso_acall XOK.ok (g := 35) (args := [aErr 55 58 (.fault p (.code n)), .iface 74 (.ptr b 0)]) (d := some 19) (by kernel_rfl) (asA_FF B [.int .i64 p, aErr 55 58 (.code n)] (hP1.get 0 rfl)) (fun v' h' ⟨e1, e2⟩ => ?_) (fun v' h' ⟨e1, _⟩ => by cases e1)
        cases e1
        subst e2
        have hP2 := hP1.set 0 rfl (.cells [.ro [.int .i64 p, aErr 55 58 (.code n)]] 58)
        refine rkE [] 2 [2, 7, 21] [(2, .int .i64 at_), (7, .ptr b 0), (21, .bool true)] ?_
        refine rld (b := b) (vs := [.ro [.int .i64 p, aErr 55 58 (.code n)]]) (E := 58) 0 ⟨.ptr (60), 1, 8, .nilp⟩ (some 22) (.ro [.int .i64 p, aErr 55 58 (.code n)]) (hP2.get 0 rfl) ?_
        refine rkE [] 3 [2, 7, 25] [(2, .int .i64 at_), (7, .ptr b 0), (25, .bool true)] ?_
        refine rld (b := b) (vs := [.ro [.int .i64 p, aErr 55 58 (.code n)]]) (E := 58) 0 ⟨.ptr (60), 1, 8, .nilp⟩ (some 26) (.ro [.int .i64 p, aErr 55 58 (.code n)]) (hP2.get 0 rfl) ?_
        refine rkE [] 7 [6] [(6, .bool (decide (p = at_)))] (nt (ws_ret ?_) (by decide))
        exact Go.Lb.re (.bool (decide (p = at_))) (Weak.eq (by simp)) hP2.sub
def faultCon : Con := pureCon [(0, .err), (1, .int .i64), (2, .int .i64)] .bool fun x => faultF x.1 x.2.1 x.2.2.1
theorem fault_ok (B : Nat) (con : FuncId → Option Con) (lp : Nat → Option (FuncId × List Nat × Con)) : ∀ x y, faultCon.fn x = some y → FnOK1 (X B) (mkC con lp) 21 faultCon x y :=
  pure_fnok rfl rfl rfl rfl fun x y h => fault_pure B x.1 x.2.1 x.2.2.1 y h
end Go.Lb.R
end
section
namespace Go.Lb.R
open Go.Lb
def kh_fields (a : Str) : Option (((List Str) × Unit) × Unit) := fieldsCon.fn ((a, ()), ())
def kh_indexByte (a : Str) (b : Int) : Option ((Int × Unit) × Unit) := indexByteCon.fn ((a, (b, ())), ())
def kh_validRune (a : Int) : Option ((Bool × Unit) × Unit) := validRuneCon.fn ((a, ()), ())
def kh_clone (a : List Str) : Option (((List Str) × Unit) × Unit) := cloneCon.fn ((a, ()), ())
def kh_code (a : GErr) : Option ((Int × Unit) × Unit) := codeCon.fn ((a, ()), ())
def kh_fault (a : GErr) (b c : Int) : Option ((Bool × Unit) × Unit) := faultCon.fn ((a, (b, (c, ()))), ())
def kh_inner (l : List (Str × Bool)) : Option ((Unit × Unit) × (List (Str × Bool) × (List (Str × Bool) × Unit))) := innerCon.fn (((), ()), (l, ()))
def kh_awake : Option ((Bool × Unit) × Unit) := some ((true, ()), ())
end Go.Lb.R
end
section
set_option maxRecDepth 100000
namespace Go.Lb.R
open Go.Lb
mutual
def k15 (a0 : GT) : Option ((Int × Unit) × Unit) := ((k15_0 a0 (w64 (1 + w64 (Int.tdiv (↑(List.length (GT.life a0)) : Int) 100))) 0) >>= fun y0 => (some (((y0.1.1, ()), ()))))
  partial_fixpoint
def k15_0 (a0 : GT) (a1 : Int) (a2 : Int) : Option ((Int × Unit) × Unit) := (match ltI a2 (↑(List.length (GT.kids a0)) : Int) with | true => (match leI a1 400 with | true => ((idx (GT.kids a0) a2) >>= fun y0 => ((k15 y0) >>= fun y1 => (k15_0 a0 (w64 (a1 + y1.1.1)) (w64 (a2 + 1))))) | false => (some (((a1, ()), ())))) | false => (some (((a1, ()), ()))))
  partial_fixpoint
end
mutual
def k17 (a0 : GE) : Option ((Int × Unit) × Unit) := ((k17_0 a0 (w64 (1 + w64 (Int.tdiv (↑(List.length (GE.name a0)) : Int) 100))) 0) >>= fun y0 => (some (((y0.1.1, ()), ()))))
  partial_fixpoint
def k17_0 (a0 : GE) (a1 : Int) (a2 : Int) : Option ((Int × Unit) × Unit) := (match ltI a2 (↑(List.length (GE.kids a0)) : Int) with | true => (match leI a1 400 with | true => ((idx (GE.kids a0) a2) >>= fun y0 => ((k17 y0) >>= fun y1 => (k17_0 a0 (w64 (a1 + y1.1.1)) (w64 (a2 + 1))))) | false => (some (((a1, ()), ())))) | false => (some (((a1, ()), ()))))
  partial_fixpoint
end
mutual
def k16 (a0 : List GS) : Option ((Int × Unit) × Unit) := ((k16_0 a0 0 0) >>= fun y0 => (some (((y0.1.1, ()), ()))))
  partial_fixpoint
def k16_0 (a0 : List GS) (a1 : Int) (a2 : Int) : Option ((Int × Unit) × Unit) := ((match ltI a2 (↑(List.length a0) : Int) with | true => (some (((leI a1 400, ()), ()))) | false => (some (((false, ()), ())))) >>= fun y0 => (match y0.1.1 with | true => ((idx a0 a2) >>= fun y1 => ((idx a0 a2) >>= fun y2 => (((k17 (GS.place y2)) >>= fun y3 => (some (y3.1.1))) >>= fun y4 => ((idx a0 a2) >>= fun y5 => (((k17 (GS.expr y5)) >>= fun y6 => (some (y6.1.1))) >>= fun y7 => ((idx a0 a2) >>= fun y8 => (((k16 (GS.thn y8)) >>= fun y9 => (some (y9.1.1))) >>= fun y10 => ((idx a0 a2) >>= fun y11 => (((k16 (GS.els y11)) >>= fun y12 => (some (y12.1.1))) >>= fun y13 => (k16_0 a0 (w64 (w64 (w64 (w64 (w64 (w64 (a1 + 1) + w64 (Int.tdiv (↑(List.length (GS.name y1)) : Int) 100)) + y4) + y7) + y10) + y13)) (w64 (a2 + 1)))))))))))) | false => (some (((a1, ()), ())))))
  partial_fixpoint
end
def k7_0 (a0 : Int) (a1 : Int) (a2 : GF) : Option ((Int × Unit) × (GF × Unit)) := ((match ltI a1 (↑(List.length (GF.params a2)) : Int) with | true => (some (((leI a0 400, ()), ()))) | false => (some (((false, ()), ())))) >>= fun y0 => (match y0.1.1 with | true => ((idx (GF.params a2) a1) >>= fun y1 => ((idx (GF.params a2) a1) >>= fun y2 => (((k15 (GP.ty y2)) >>= fun y3 => (some (y3.1.1))) >>= fun y4 => (k7_0 (w64 (w64 (a0 + w64 (Int.tdiv (↑(List.length (GP.name y1)) : Int) 100)) + y4)) (w64 (a1 + 1)) (nf a2))))) | false => (some (((a0, ()), a2, ())))))
  partial_fixpoint
def k7_1 (a0 : Int) (a1 : Int) (a2 : GF) : Option ((Int × Unit) × (GF × Unit)) := (match ltI a1 (↑(List.length (GF.lives a2)) : Int) with | true => (match leI a0 400 with | true => ((idx (GF.lives a2) a1) >>= fun y0 => (k7_1 (w64 (a0 + w64 (Int.tdiv (↑(List.length y0) : Int) 100))) (w64 (a1 + 1)) (nf a2))) | false => (some (((a0, ()), a2, ())))) | false => (some (((a0, ()), a2, ()))))
  partial_fixpoint
def k7_2 (a0 : Int) (a1 : Int) (a2 : GF) : Option ((Int × Unit) × (GF × Unit)) := (match ltI a1 (↑(List.length (GF.outs a2)) : Int) with | true => (match leI a0 400 with | true => ((idx (GF.outs a2) a1) >>= fun y0 => (k7_2 (w64 (a0 + w64 (Int.tdiv (↑(List.length y0) : Int) 100))) (w64 (a1 + 1)) (nf a2))) | false => (some (((a0, ()), a2, ())))) | false => (some (((a0, ()), a2, ()))))
  partial_fixpoint
def k7_3 (a0 : List GF) (a1 : Int) (a2 : Int) : Option ((Int × Unit) × Unit) := ((match ltI a2 (↑(List.length a0) : Int) with | true => (some (((leI a1 400, ()), ()))) | false => (some (((false, ()), ())))) >>= fun y0 => (match y0.1.1 with | true => ((idx a0 a2) >>= fun y1 => (((k15 (GF.gives y1)) >>= fun y2 => (some (y2.1.1))) >>= fun y3 => (((k16 (GF.body y1)) >>= fun y4 => (some (y4.1.1))) >>= fun y5 => (((k17 (GF.value y1)) >>= fun y6 => (some (y6.1.1))) >>= fun y7 => ((k7_0 (w64 (w64 (w64 (w64 (w64 (w64 (w64 (a1 + 1) + w64 (Int.tdiv (↑(List.length (GF.name y1)) : Int) 100)) + (↑(List.length (GF.lives y1)) : Int)) + (↑(List.length (GF.outs y1)) : Int)) + y3) + y5) + y7)) 0 y1) >>= fun y8 => ((k7_1 (y8.1.1) 0 y8.2.1) >>= fun y9 => ((k7_2 (y9.1.1) 0 y9.2.1) >>= fun y10 => (k7_3 (nf a0) (y10.1.1) (w64 (a2 + 1)))))))))) | false => (some (((a1, ()), ())))))
  partial_fixpoint
def k7 (a0 : List GF) : Option ((Int × Unit) × Unit) := ((k7_3 a0 0 0) >>= fun y0 => (some (((y0.1.1, ()), ()))))
def k51_0 (a0 : Str) (a1 : List Str) (a2 : Int) : Option ((Unit × Unit) ⊕ ((Bool × Unit) × Unit)) := (match ltI a2 (↑(List.length a1) : Int) with | true => ((idx a1 a2) >>= fun y0 => (match eqS y0 a0 with | true => (some (Sum.inr ((false, ()), ()))) | false => (k51_0 (nf a0) (nf a1) (w64 (a2 + 1))))) | false => (some (Sum.inl ((), ()))))
  partial_fixpoint
def k117 (a0 : Int) : Option ((Bool × Unit) × Unit) := (match leI 97 a0 with | true => (match leI a0 122 with | true => (some (((true, ()), ()))) | false => (match leI 65 a0 with | true => (match leI a0 90 with | true => (some (((true, ()), ()))) | false => (some (((eqI a0 95, ()), ())))) | false => (some (((eqI a0 95, ()), ()))))) | false => (match leI 65 a0 with | true => (match leI a0 90 with | true => (some (((true, ()), ()))) | false => (some (((eqI a0 95, ()), ())))) | false => (some (((eqI a0 95, ()), ())))))
def k119 (a0 : Int) : Option ((Bool × Unit) × Unit) := (match leI 48 a0 with | true => (some (((leI a0 57, ()), ()))) | false => (some (((false, ()), ()))))
def k118_0 (a0 : Str) (a1 : Int) (a2 : Int) : Option ((Int × Unit) × Unit) := (match ltI a2 (↑(List.length a0) : Int) with | true => ((idxB a0 a2) >>= fun y0 => ((k117 y0) >>= fun y1 => (match y1.1.1 with | true => (k118_0 (nf a0) (nf a1) (w64 (a2 + 1))) | false => (match ltI a1 a2 with | true => ((idxB a0 a2) >>= fun y2 => ((k119 y2) >>= fun y3 => (match y3.1.1 with | true => (k118_0 (nf a0) (nf a1) (w64 (a2 + 1))) | false => (some (((a2, ()), ())))))) | false => (some (((a2, ()), ()))))))) | false => (some (((a2, ()), ()))))
  partial_fixpoint
def k118 (a0 : Str) (a1 : Int) : Option ((Int × Unit) × Unit) := ((k118_0 a0 a1 a1) >>= fun y0 => (match ltI 30 (w64 (y0.1.1 - a1)) with | true => (some (((a1, ()), ()))) | false => (some (((y0.1.1, ()), ())))))
def k89 (a0 : Str) : Option ((Bool × Unit) × Unit) := (match ltI 0 (↑(List.length a0) : Int) with | true => ((k118 a0 0) >>= fun y0 => (some (((eqI (y0.1.1) (↑(List.length a0) : Int), ()), ())))) | false => (some (((false, ()), ()))))
def k51 (a0 : Str) : Option ((Bool × Unit) × Unit) := ((k51_0 a0 [Array.toList (ByteArray.data { data := #[102, 110] }), Array.toList (ByteArray.data { data := #[108, 101, 116] }), Array.toList (ByteArray.data { data := #[105, 102] }), Array.toList (ByteArray.data { data := #[101, 108, 115, 101] }), Array.toList (ByteArray.data { data := #[114, 101, 112, 101, 97, 116] }), Array.toList (ByteArray.data { data := #[114, 101, 116] }), Array.toList (ByteArray.data { data := #[98, 111, 120] }), Array.toList (ByteArray.data { data := #[105, 110, 116] }), Array.toList (ByteArray.data { data := #[109, 117, 116] }), Array.toList (ByteArray.data { data := #[119, 104, 101, 114, 101] })] 0) >>= fun y0 => (match y0 with | .inl y1 => ((k89 a0) >>= fun y2 => (some (((y2.1.1, ()), ())))) | .inr y3 => (some (((y3.1.1, ()), ())))))
mutual
def k52 (a0 : GT) : Option ((Bool × Unit) × Unit) := ((k52_0 a0 0) >>= fun y0 => (match y0 with | .inl y1 => (match eqI (GT.kind a0) 4 with | true => (((k51 (GT.life a0)) >>= fun y2 => (match y2.1.1 with | true => (some (((eqI (↑(List.length (GT.kids a0)) : Int) 1, ()), ()))) | false => (some (((false, ()), ()))))) >>= fun y3 => (some (((y3.1.1, ()), ())))) | false => (match eqS (GT.life a0) (Array.toList (ByteArray.data { data := #[] })) with | true => (match not (GT.mu a0) with | true => (match eqI (GT.kind a0) 1 with | true => (match eqI (↑(List.length (GT.kids a0)) : Int) 0 with | true => (some (((true, ()), ()))) | false => (match eqI (GT.kind a0) 2 with | true => (match eqI (↑(List.length (GT.kids a0)) : Int) 1 with | true => (some (((true, ()), ()))) | false => (match eqI (GT.kind a0) 3 with | true => (match leI 2 (↑(List.length (GT.kids a0)) : Int) with | true => (some (((leI (↑(List.length (GT.kids a0)) : Int) 30, ()), ()))) | false => (some (((false, ()), ())))) | false => (some (((false, ()), ()))))) | false => (match eqI (GT.kind a0) 3 with | true => (match leI 2 (↑(List.length (GT.kids a0)) : Int) with | true => (some (((leI (↑(List.length (GT.kids a0)) : Int) 30, ()), ()))) | false => (some (((false, ()), ())))) | false => (some (((false, ()), ())))))) | false => (match eqI (GT.kind a0) 2 with | true => (match eqI (↑(List.length (GT.kids a0)) : Int) 1 with | true => (some (((true, ()), ()))) | false => (match eqI (GT.kind a0) 3 with | true => (match leI 2 (↑(List.length (GT.kids a0)) : Int) with | true => (some (((leI (↑(List.length (GT.kids a0)) : Int) 30, ()), ()))) | false => (some (((false, ()), ())))) | false => (some (((false, ()), ()))))) | false => (match eqI (GT.kind a0) 3 with | true => (match leI 2 (↑(List.length (GT.kids a0)) : Int) with | true => (some (((leI (↑(List.length (GT.kids a0)) : Int) 30, ()), ()))) | false => (some (((false, ()), ())))) | false => (some (((false, ()), ())))))) | false => (some (((false, ()), ())))) | false => (some (((false, ()), ()))))) | .inr y4 => (some (((y4.1.1, ()), ())))))
  partial_fixpoint
def k52_0 (a0 : GT) (a1 : Int) : Option ((Unit × Unit) ⊕ ((Bool × Unit) × Unit)) := (match ltI a1 (↑(List.length (GT.kids a0)) : Int) with | true => ((idx (GT.kids a0) a1) >>= fun y0 => ((k52 y0) >>= fun y1 => (match not (y1.1.1) with | true => (some (Sum.inr ((false, ()), ()))) | false => (k52_0 a0 (w64 (a1 + 1)))))) | false => (some (Sum.inl ((), ()))))
  partial_fixpoint
end
def k29_0 (a0 : GF) (a1 : Int) : Option ((Unit × Unit) ⊕ ((Bool × Unit) × Unit)) := (match ltI a1 (↑(List.length (GF.params a0)) : Int) with | true => ((idx (GF.params a0) a1) >>= fun y0 => ((k51 (GP.name y0)) >>= fun y1 => (match not (y1.1.1) with | true => (some (Sum.inr ((false, ()), ()))) | false => ((idx (GF.params a0) a1) >>= fun y2 => ((k52 (GP.ty y2)) >>= fun y3 => (match not (y3.1.1) with | true => (some (Sum.inr ((false, ()), ()))) | false => (k29_0 (nf a0) (w64 (a1 + 1))))))))) | false => (some (Sum.inl ((), ()))))
  partial_fixpoint
def k53_0 (a0 : List Str) (a1 : Int) : Option ((Unit × Unit) ⊕ ((Bool × Unit) × Unit)) := (match ltI a1 (↑(List.length a0) : Int) with | true => ((idx a0 a1) >>= fun y0 => ((k51 y0) >>= fun y1 => (match not (y1.1.1) with | true => (some (Sum.inr ((false, ()), ()))) | false => (k53_0 (nf a0) (w64 (a1 + 1)))))) | false => (some (Sum.inl ((), ()))))
  partial_fixpoint
def k53 (a0 : List Str) : Option ((Bool × Unit) × Unit) := ((k53_0 a0 0) >>= fun y0 => (match y0 with | .inl y1 => (some (((leI (↑(List.length a0) : Int) 30, ()), ()))) | .inr y2 => (some (((y2.1.1, ()), ())))))
def k125 (a0 : GE) : Option ((Bool × Unit) × Unit) := (match eqI (GE.kind a0) 0 with | true => (match eqI (GE.num a0) 0 with | true => (match eqS (GE.name a0) (Array.toList (ByteArray.data { data := #[] })) with | true => (match not (GE.mu a0) with | true => (some (((eqI (↑(List.length (GE.kids a0)) : Int) 0, ()), ()))) | false => (some (((false, ()), ())))) | false => (some (((false, ()), ())))) | false => (some (((false, ()), ())))) | false => (some (((false, ()), ()))))
def k91 (a0 : GE) : Option ((Bool × Unit) × Unit) := (match eqI (GE.kind a0) 2 with | true => (some (((true, ()), ()))) | false => (match eqI (GE.kind a0) 3 with | true => (some (((true, ()), ()))) | false => (some (((eqI (GE.kind a0) 4, ()), ())))))
def k92 (a0 : GE) : Option ((Int × Unit) × Unit) := (match eqI (GE.kind a0) 8 with | true => (match eqS (GE.name a0) (Array.toList (ByteArray.data { data := #[60] })) with | true => (match eqS (GE.name a0) (Array.toList (ByteArray.data { data := #[60] })) with | true => (some (((1, ()), ()))) | false => (match eqS (GE.name a0) (Array.toList (ByteArray.data { data := #[43] })) with | true => (match eqS (GE.name a0) (Array.toList (ByteArray.data { data := #[43] })) with | true => (some (((2, ()), ()))) | false => (match eqS (GE.name a0) (Array.toList (ByteArray.data { data := #[42] })) with | true => (match eqS (GE.name a0) (Array.toList (ByteArray.data { data := #[42] })) with | true => (some (((3, ()), ()))) | false => (some (((4, ()), ())))) | false => (match eqS (GE.name a0) (Array.toList (ByteArray.data { data := #[47] })) with | true => (some (((3, ()), ()))) | false => (some (((4, ()), ())))))) | false => (match eqS (GE.name a0) (Array.toList (ByteArray.data { data := #[45] })) with | true => (some (((2, ()), ()))) | false => (match eqS (GE.name a0) (Array.toList (ByteArray.data { data := #[42] })) with | true => (match eqS (GE.name a0) (Array.toList (ByteArray.data { data := #[42] })) with | true => (some (((3, ()), ()))) | false => (some (((4, ()), ())))) | false => (match eqS (GE.name a0) (Array.toList (ByteArray.data { data := #[47] })) with | true => (some (((3, ()), ()))) | false => (some (((4, ()), ())))))))) | false => (match eqS (GE.name a0) (Array.toList (ByteArray.data { data := #[61, 61] })) with | true => (some (((1, ()), ()))) | false => (match eqS (GE.name a0) (Array.toList (ByteArray.data { data := #[43] })) with | true => (match eqS (GE.name a0) (Array.toList (ByteArray.data { data := #[43] })) with | true => (some (((2, ()), ()))) | false => (match eqS (GE.name a0) (Array.toList (ByteArray.data { data := #[42] })) with | true => (match eqS (GE.name a0) (Array.toList (ByteArray.data { data := #[42] })) with | true => (some (((3, ()), ()))) | false => (some (((4, ()), ())))) | false => (match eqS (GE.name a0) (Array.toList (ByteArray.data { data := #[47] })) with | true => (some (((3, ()), ()))) | false => (some (((4, ()), ())))))) | false => (match eqS (GE.name a0) (Array.toList (ByteArray.data { data := #[45] })) with | true => (some (((2, ()), ()))) | false => (match eqS (GE.name a0) (Array.toList (ByteArray.data { data := #[42] })) with | true => (match eqS (GE.name a0) (Array.toList (ByteArray.data { data := #[42] })) with | true => (some (((3, ()), ()))) | false => (some (((4, ()), ())))) | false => (match eqS (GE.name a0) (Array.toList (ByteArray.data { data := #[47] })) with | true => (some (((3, ()), ()))) | false => (some (((4, ()), ()))))))))) | false => (some (((4, ()), ()))))
mutual
def k56 (a0 : GE) : Option ((Bool × Unit) × Unit) := ((k56_0 a0 0) >>= fun y0 => (match y0 with | .inl y1 => (match eqI (GE.kind a0) 1 with | true => (match leI 0 (GE.num a0) with | true => (match leI (GE.num a0) 999999999999999999 with | true => (match eqS (GE.name a0) (Array.toList (ByteArray.data { data := #[] })) with | true => (match not (GE.mu a0) with | true => (some (((eqI (↑(List.length (GE.kids a0)) : Int) 0, ()), ()))) | false => (some (((false, ()), ())))) | false => (some (((false, ()), ())))) | false => (some (((false, ()), ())))) | false => (some (((false, ()), ())))) | false => (match eqI (GE.kind a0) 2 with | true => (match eqI (GE.num a0) 0 with | true => ((k51 (GE.name a0)) >>= fun y2 => (match y2.1.1 with | true => (match not (GE.mu a0) with | true => (some (((eqI (↑(List.length (GE.kids a0)) : Int) 0, ()), ()))) | false => (some (((false, ()), ())))) | false => (some (((false, ()), ()))))) | false => (some (((false, ()), ())))) | false => (match eqI (GE.kind a0) 3 with | true => (match leI 0 (GE.num a0) with | true => (match ltI (GE.num a0) 30 with | true => (match eqS (GE.name a0) (Array.toList (ByteArray.data { data := #[] })) with | true => (match not (GE.mu a0) with | true => (match eqI (↑(List.length (GE.kids a0)) : Int) 1 with | true => ((idx (GE.kids a0) 0) >>= fun y3 => ((k91 y3) >>= fun y4 => (some (((y4.1.1, ()), ()))))) | false => (some (((false, ()), ())))) | false => (some (((false, ()), ())))) | false => (some (((false, ()), ())))) | false => (some (((false, ()), ())))) | false => (some (((false, ()), ())))) | false => (match eqI (GE.kind a0) 4 with | true => (match eqI (GE.num a0) 0 with | true => (match eqS (GE.name a0) (Array.toList (ByteArray.data { data := #[] })) with | true => (match not (GE.mu a0) with | true => (match eqI (↑(List.length (GE.kids a0)) : Int) 1 with | true => ((idx (GE.kids a0) 0) >>= fun y5 => ((k91 y5) >>= fun y6 => (some (((y6.1.1, ()), ()))))) | false => (some (((false, ()), ())))) | false => (some (((false, ()), ())))) | false => (some (((false, ()), ())))) | false => (some (((false, ()), ())))) | false => (match eqI (GE.kind a0) 5 with | true => (match eqI (GE.num a0) 0 with | true => (match eqS (GE.name a0) (Array.toList (ByteArray.data { data := #[] })) with | true => (match eqI (↑(List.length (GE.kids a0)) : Int) 1 with | true => ((idx (GE.kids a0) 0) >>= fun y7 => ((k91 y7) >>= fun y8 => (some (((y8.1.1, ()), ()))))) | false => (some (((false, ()), ())))) | false => (some (((false, ()), ())))) | false => (some (((false, ()), ())))) | false => (match eqI (GE.kind a0) 6 with | true => (match eqI (GE.num a0) 0 with | true => (match eqS (GE.name a0) (Array.toList (ByteArray.data { data := #[] })) with | true => (match not (GE.mu a0) with | true => (some (((eqI (↑(List.length (GE.kids a0)) : Int) 1, ()), ()))) | false => (some (((false, ()), ())))) | false => (some (((false, ()), ())))) | false => (some (((false, ()), ())))) | false => (match eqI (GE.kind a0) 7 with | true => (match eqI (GE.num a0) 0 with | true => (match eqS (GE.name a0) (Array.toList (ByteArray.data { data := #[] })) with | true => (match not (GE.mu a0) with | true => (match leI 2 (↑(List.length (GE.kids a0)) : Int) with | true => (some (((leI (↑(List.length (GE.kids a0)) : Int) 30, ()), ()))) | false => (some (((false, ()), ())))) | false => (some (((false, ()), ())))) | false => (some (((false, ()), ())))) | false => (some (((false, ()), ())))) | false => (match eqI (GE.kind a0) 8 with | true => (match eqI (GE.num a0) 0 with | true => (match not (GE.mu a0) with | true => (match eqI (↑(List.length (GE.kids a0)) : Int) 2 with | true => ((k92 a0) >>= fun y9 => (some (((ltI (y9.1.1) 4, ()), ())))) | false => (some (((false, ()), ())))) | false => (some (((false, ()), ())))) | false => (some (((false, ()), ())))) | false => (match eqI (GE.kind a0) 9 with | true => (match eqI (GE.num a0) 0 with | true => (match not (GE.mu a0) with | true => (match leI (↑(List.length (GE.kids a0)) : Int) 30 with | true => ((k51 (GE.name a0)) >>= fun y10 => (some (((y10.1.1, ()), ())))) | false => (some (((false, ()), ())))) | false => (some (((false, ()), ())))) | false => (some (((false, ()), ())))) | false => (some (((false, ()), ())))))))))))) | .inr y11 => (some (((y11.1.1, ()), ())))))
  partial_fixpoint
def k56_0 (a0 : GE) (a1 : Int) : Option ((Unit × Unit) ⊕ ((Bool × Unit) × Unit)) := (match ltI a1 (↑(List.length (GE.kids a0)) : Int) with | true => ((idx (GE.kids a0) a1) >>= fun y0 => ((k56 y0) >>= fun y1 => (match not (y1.1.1) with | true => (some (Sum.inr ((false, ()), ()))) | false => (k56_0 a0 (w64 (a1 + 1)))))) | false => (some (Sum.inl ((), ()))))
  partial_fixpoint
end
mutual
def k54 (a0 : List GS) : Option ((Bool × Unit) × Unit) := ((k54_0 a0 0) >>= fun y0 => (match y0 with | .inl y1 => (some (((leI (↑(List.length a0) : Int) 30, ()), ()))) | .inr y2 => (some (((y2.1.1, ()), ())))))
  partial_fixpoint
def k54_0 (a0 : List GS) (a1 : Int) : Option ((Unit × Unit) ⊕ ((Bool × Unit) × Unit)) := (match ltI a1 (↑(List.length a0) : Int) with | true => ((idx a0 a1) >>= fun y0 => ((k90 y0) >>= fun y1 => (match not (y1.1.1) with | true => (some (Sum.inr ((false, ()), ()))) | false => (k54_0 a0 (w64 (a1 + 1)))))) | false => (some (Sum.inl ((), ()))))
  partial_fixpoint
def k90 (a0 : GS) : Option ((Bool × Unit) × Unit) := (((k56 (GS.expr a0)) >>= fun y0 => (match not (y0.1.1) with | true => (some (((true, ()), ()))) | false => ((k54 (GS.thn a0)) >>= fun y1 => (match not (y1.1.1) with | true => (some (((true, ()), ()))) | false => ((k54 (GS.els a0)) >>= fun y2 => (some (((not (y2.1.1), ()), ())))))))) >>= fun y3 => (match y3.1.1 with | true => (some (((false, ()), ()))) | false => ((k125 (GS.place a0)) >>= fun y4 => (match eqI (GS.kind a0) 1 with | true => ((k51 (GS.name a0)) >>= fun y5 => (match y5.1.1 with | true => (match y4.1.1 with | true => (some (((eqI (w64 ((↑(List.length (GS.thn a0)) : Int) + (↑(List.length (GS.els a0)) : Int))) 0, ()), ()))) | false => (some (((false, ()), ())))) | false => (some (((false, ()), ()))))) | false => (match eqI (GS.kind a0) 2 with | true => (match eqS (GS.name a0) (Array.toList (ByteArray.data { data := #[] })) with | true => ((k91 (GS.place a0)) >>= fun y6 => (match y6.1.1 with | true => ((k56 (GS.place a0)) >>= fun y7 => (match y7.1.1 with | true => (some (((eqI (w64 ((↑(List.length (GS.thn a0)) : Int) + (↑(List.length (GS.els a0)) : Int))) 0, ()), ()))) | false => (some (((false, ()), ()))))) | false => (some (((false, ()), ()))))) | false => (some (((false, ()), ())))) | false => (match eqI (GS.kind a0) 3 with | true => (match eqS (GS.name a0) (Array.toList (ByteArray.data { data := #[] })) with | true => (some (((y4.1.1, ()), ()))) | false => (some (((false, ()), ())))) | false => (match eqI (GS.kind a0) 4 with | true => (match eqS (GS.name a0) (Array.toList (ByteArray.data { data := #[] })) with | true => (match y4.1.1 with | true => (some (((eqI (↑(List.length (GS.els a0)) : Int) 0, ()), ()))) | false => (some (((false, ()), ())))) | false => (some (((false, ()), ())))) | false => (some (((false, ()), ()))))))))))
  partial_fixpoint
end
def k57 (a0 : Int) (a1 : Int) : Option ((Int × Unit) × Unit) := (match ltI a1 a0 with | true => (some (((a0, ()), ()))) | false => (some (((a1, ()), ()))))
mutual
def k55 (a0 : List GS) : Option ((Int × Unit) × Unit) := ((k55_0 a0 0 0) >>= fun y0 => (some (((y0.1.1, ()), ()))))
  partial_fixpoint
def k55_0 (a0 : List GS) (a1 : Int) (a2 : Int) : Option ((Int × Unit) × Unit) := (match ltI a2 (↑(List.length a0) : Int) with | true => ((idx a0 a2) >>= fun y0 => (((k55 (GS.thn y0)) >>= fun y1 => (some (y1.1.1))) >>= fun y2 => ((idx a0 a2) >>= fun y3 => ((k55 (GS.els y3)) >>= fun y4 => ((k57 y2 (y4.1.1)) >>= fun y5 => ((idx a0 a2) >>= fun y6 => (match eqI (GS.kind y6) 4 with | true => ((k57 a1 (w64 (y5.1.1 + 1))) >>= fun y7 => (k55_0 a0 (y7.1.1) (w64 (a2 + 1)))) | false => ((k57 a1 (y5.1.1)) >>= fun y8 => (k55_0 a0 (y8.1.1) (w64 (a2 + 1))))))))))) | false => (some (((a1, ()), ()))))
  partial_fixpoint
end
def k29 (a0 : GF) : Option ((Bool × Unit) × Unit) := ((k29_0 a0 0) >>= fun y0 => (match y0 with | .inl y1 => ((k51 (GF.name a0)) >>= fun y2 => (match y2.1.1 with | true => ((k53 (GF.lives a0)) >>= fun y3 => (match y3.1.1 with | true => (match leI (↑(List.length (GF.params a0)) : Int) 30 with | true => ((k52 (GF.gives a0)) >>= fun y4 => (match y4.1.1 with | true => ((k53 (GF.outs a0)) >>= fun y5 => (match y5.1.1 with | true => (match eqI (Int.tmod (↑(List.length (GF.outs a0)) : Int) 2) 0 with | true => ((k54 (GF.body a0)) >>= fun y6 => (match y6.1.1 with | true => ((k55 (GF.body a0)) >>= fun y7 => (match leI (y7.1.1) 3 with | true => ((k56 (GF.value a0)) >>= fun y8 => (some (((y8.1.1, ()), ())))) | false => (some (((false, ()), ()))))) | false => (some (((false, ()), ()))))) | false => (some (((false, ()), ())))) | false => (some (((false, ()), ()))))) | false => (some (((false, ()), ()))))) | false => (some (((false, ()), ())))) | false => (some (((false, ()), ()))))) | false => (some (((false, ()), ()))))) | .inr y9 => (some (((y9.1.1, ()), ())))))
def k18_0 (a0 : List GF) (a1 : Int) : Option ((Unit × Unit) ⊕ ((Bool × Unit) × Unit)) := (match ltI a1 (↑(List.length a0) : Int) with | true => ((idx a0 a1) >>= fun y0 => ((k29 y0) >>= fun y1 => (match not (y1.1.1) with | true => (some (Sum.inr ((false, ()), ()))) | false => (k18_0 (nf a0) (w64 (a1 + 1)))))) | false => (some (Sum.inl ((), ()))))
  partial_fixpoint
mutual
def k58 (a0 : GT) : Option ((Int × Unit) × Unit) := (match ltI (GT.kind a0) 2 with | true => (some (((0, ()), ()))) | false => (match ltI 4 (GT.kind a0) with | true => (some (((0, ()), ()))) | false => ((k58_0 a0 0 0) >>= fun y0 => (some (((w64 (y0.1.1 + 1), ()), ()))))))
  partial_fixpoint
def k58_0 (a0 : GT) (a1 : Int) (a2 : Int) : Option ((Int × Unit) × Unit) := (match ltI a2 (↑(List.length (GT.kids a0)) : Int) with | true => ((idx (GT.kids a0) a2) >>= fun y0 => ((k58 y0) >>= fun y1 => ((k57 a1 (y1.1.1)) >>= fun y2 => (k58_0 a0 (y2.1.1) (w64 (a2 + 1)))))) | false => (some (((a1, ()), ()))))
  partial_fixpoint
end
def k30_0 (a0 : List GF) (a1 : Int) (a2 : Int) (a3 : Int) : Option ((Int × Unit) × Unit) := ((idx a0 a2) >>= fun y0 => (match ltI a3 (↑(List.length (GF.params y0)) : Int) with | true => ((idx a0 a2) >>= fun y1 => ((idx (GF.params y1) a3) >>= fun y2 => ((k58 (GP.ty y2)) >>= fun y3 => ((k57 a1 (y3.1.1)) >>= fun y4 => (k30_0 (nf a0) (y4.1.1) (nf a2) (w64 (a3 + 1))))))) | false => (some (((a1, ()), ())))))
  partial_fixpoint
def k93 (a0 : GE) (a1 : Int) : Option ((Bool × Unit) × Unit) := ((idx (GE.kids a0) a1) >>= fun y0 => ((k92 y0) >>= fun y1 => ((k92 a0) >>= fun y2 => (match eqI (y2.1.1) 1 with | true => (some (((eqI (y1.1.1) 1, ()), ()))) | false => ((k92 a0) >>= fun y3 => (match ltI (y1.1.1) (y3.1.1) with | true => (some (((true, ()), ()))) | false => (match eqI a1 1 with | true => ((k92 a0) >>= fun y4 => (some (((eqI (y1.1.1) (y4.1.1), ()), ())))) | false => (some (((false, ()), ()))))))))))
mutual
def k60 (a0 : GE) : Option ((Int × Unit) × Unit) := (match ltI (GE.kind a0) 3 with | true => (some (((0, ()), ()))) | false => (match ltI 9 (GE.kind a0) with | true => (some (((0, ()), ()))) | false => ((k60_0 a0 0 0) >>= fun y0 => (some (((w64 (y0.1.1 + 1), ()), ()))))))
  partial_fixpoint
def k60_0 (a0 : GE) (a1 : Int) (a2 : Int) : Option ((Int × Unit) × Unit) := (match ltI a2 (↑(List.length (GE.kids a0)) : Int) with | true => ((idx (GE.kids a0) a2) >>= fun y0 => ((k60 y0) >>= fun y1 => ((match eqI (GE.kind a0) 8 with | true => (match ltI a2 2 with | true => ((k93 a0 a2) >>= fun y2 => (some (((y2.1.1, ()), ())))) | false => (some (((false, ()), ())))) | false => (some (((false, ()), ())))) >>= fun y3 => (match y3.1.1 with | true => ((k57 a1 (w64 (y1.1.1 + 1))) >>= fun y4 => (k60_0 a0 (y4.1.1) (w64 (a2 + 1)))) | false => ((k57 a1 (y1.1.1)) >>= fun y5 => (k60_0 a0 (y5.1.1) (w64 (a2 + 1)))))))) | false => (some (((a1, ()), ()))))
  partial_fixpoint
end
mutual
def k59 (a0 : List GS) : Option ((Int × Unit) × Unit) := ((k59_0 a0 0 0) >>= fun y0 => (some (((y0.1.1, ()), ()))))
  partial_fixpoint
def k59_0 (a0 : List GS) (a1 : Int) (a2 : Int) : Option ((Int × Unit) × Unit) := (match ltI a2 (↑(List.length a0) : Int) with | true => ((idx a0 a2) >>= fun y0 => (((k60 (GS.place y0)) >>= fun y1 => (some (y1.1.1))) >>= fun y2 => ((idx a0 a2) >>= fun y3 => ((k60 (GS.expr y3)) >>= fun y4 => ((k57 y2 (y4.1.1)) >>= fun y5 => ((idx a0 a2) >>= fun y6 => (((k59 (GS.thn y6)) >>= fun y7 => (some (y7.1.1))) >>= fun y8 => ((idx a0 a2) >>= fun y9 => (((k59 (GS.els y9)) >>= fun y10 => (some (y10.1.1))) >>= fun y11 => (((k57 y8 y11) >>= fun y12 => (some (y12.1.1))) >>= fun y13 => (((k57 (y5.1.1) y13) >>= fun y14 => (some (y14.1.1))) >>= fun y15 => ((k57 a1 (w64 (1 + y15))) >>= fun y16 => (k59_0 a0 (y16.1.1) (w64 (a2 + 1))))))))))))))) | false => (some (((a1, ()), ()))))
  partial_fixpoint
end
def k30_1 (a0 : List GF) (a1 : Int) (a2 : Int) : Option ((Int × Unit) × Unit) := (match ltI a2 (↑(List.length a0) : Int) with | true => ((idx a0 a2) >>= fun y0 => (((k58 (GF.gives y0)) >>= fun y1 => (some (y1.1.1))) >>= fun y2 => ((idx a0 a2) >>= fun y3 => (((k59 (GF.body y3)) >>= fun y4 => (some (y4.1.1))) >>= fun y5 => ((idx a0 a2) >>= fun y6 => (((k60 (GF.value y6)) >>= fun y7 => (some (y7.1.1))) >>= fun y8 => (((k57 y5 y8) >>= fun y9 => (some (y9.1.1))) >>= fun y10 => (((k57 y2 y10) >>= fun y11 => (some (y11.1.1))) >>= fun y12 => ((k57 a1 y12) >>= fun y13 => ((k30_0 a0 (y13.1.1) a2 0) >>= fun y14 => (k30_1 (nf a0) (y14.1.1) (w64 (a2 + 1))))))))))))) | false => (some (((a1, ()), ()))))
  partial_fixpoint
def k30 (a0 : List GF) : Option ((Int × Unit) × Unit) := ((k30_1 a0 0 0) >>= fun y0 => (some (((y0.1.1, ()), ()))))
def k18 (a0 : List GF) : Option ((Bool × Unit) × Unit) := ((k18_0 a0 0) >>= fun y0 => (match y0 with | .inl y1 => (match leI (↑(List.length a0) : Int) 30 with | true => ((k30 a0) >>= fun y2 => (some (((leI (y2.1.1) 40, ()), ())))) | false => (some (((false, ()), ())))) | .inr y3 => (some (((y3.1.1, ()), ())))))
mutual
def k27 (a0 : GT) : Option ((Bool × Unit) × Unit) := ((k27_0 a0 (eqI (GT.kind a0) 4) 0) >>= fun y0 => (some (((y0.1.1, ()), ()))))
  partial_fixpoint
def k27_0 (a0 : GT) (a1 : Bool) (a2 : Int) : Option ((Bool × Unit) × Unit) := (match ltI a2 (↑(List.length (GT.kids a0)) : Int) with | true => (match a1 with | true => (k27_0 a0 true (w64 (a2 + 1))) | false => ((idx (GT.kids a0) a2) >>= fun y0 => ((k27 y0) >>= fun y1 => (k27_0 a0 (y1.1.1) (w64 (a2 + 1)))))) | false => (some (((a1, ()), ()))))
  partial_fixpoint
end
mutual
def k12 (a0 : GT) : Option ((Bool × Unit) × Unit) := ((k12_0 a0 0) >>= fun y0 => (match y0 with | .inl y1 => (some (((true, ()), ()))) | .inr y2 => (some (((y2.1.1, ()), ())))))
  partial_fixpoint
def k12_0 (a0 : GT) (a1 : Int) : Option ((Unit × Unit) ⊕ ((Bool × Unit) × Unit)) := (match ltI a1 (↑(List.length (GT.kids a0)) : Int) with | true => ((idx (GT.kids a0) a1) >>= fun y0 => ((k12 y0) >>= fun y1 => (match not (y1.1.1) with | true => (some (Sum.inr ((false, ()), ()))) | false => (match eqI (GT.kind a0) 2 with | true => ((idx (GT.kids a0) a1) >>= fun y2 => ((k27 y2) >>= fun y3 => (match y3.1.1 with | true => (some (Sum.inr ((false, ()), ()))) | false => (k12_0 a0 (w64 (a1 + 1)))))) | false => (match eqI (GT.kind a0) 4 with | true => ((idx (GT.kids a0) a1) >>= fun y4 => ((k27 y4) >>= fun y5 => (match y5.1.1 with | true => (some (Sum.inr ((false, ()), ()))) | false => (k12_0 a0 (w64 (a1 + 1)))))) | false => (k12_0 a0 (w64 (a1 + 1)))))))) | false => (some (Sum.inl ((), ()))))
  partial_fixpoint
end
def k13_0 (a0 : List GF) (a1 : Str) (a2 : Int) : Option ((Unit × Unit) ⊕ ((Int × Unit) × Unit)) := (match ltI a2 (↑(List.length a0) : Int) with | true => ((idx a0 a2) >>= fun y0 => (match eqS (GF.name y0) a1 with | true => (some (Sum.inr ((a2, ()), ()))) | false => (k13_0 (nf a0) (nf a1) (w64 (a2 + 1))))) | false => (some (Sum.inl ((), ()))))
  partial_fixpoint
def k13 (a0 : List GF) (a1 : Str) : Option ((Int × Unit) × Unit) := ((k13_0 a0 a1 0) >>= fun y0 => (match y0 with | .inl y1 => (some (((-1, ()), ()))) | .inr y2 => (some (((y2.1.1, ()), ())))))
def k32_0 (a0 : Str) (a1 : List Str) (a2 : Int) (a3 : Int) : Option ((Int × Unit) × Unit) := (match ltI a3 (↑(List.length a1) : Int) with | true => ((idx a1 a3) >>= fun y0 => (match eqS y0 a0 with | true => (k32_0 (nf a0) (nf a1) (w64 (a2 + 1)) (w64 (a3 + 1))) | false => (k32_0 (nf a0) (nf a1) a2 (w64 (a3 + 1))))) | false => (some (((a2, ()), ()))))
  partial_fixpoint
def k32 (a0 : Str) (a1 : List Str) : Option ((Int × Unit) × Unit) := ((k32_0 a0 a1 0 0) >>= fun y0 => (some (((y0.1.1, ()), ()))))
mutual
def k31 (a0 : GT) (a1 : List Str) : Option ((Bool × Unit) × Unit) := (match eqI (GT.kind a0) 4 with | true => ((k32 (GT.life a0) a1) >>= fun y0 => (match eqI (y0.1.1) 0 with | true => (some (((false, ()), ()))) | false => ((k31_0 (nf a1) (nf a0) 0) >>= fun y1 => (match y1 with | .inl y2 => (some (((true, ()), ()))) | .inr y3 => (some (((y3.1.1, ()), ()))))))) | false => ((k31_0 (nf a1) (nf a0) 0) >>= fun y4 => (match y4 with | .inl y5 => (some (((true, ()), ()))) | .inr y6 => (some (((y6.1.1, ()), ()))))))
  partial_fixpoint
def k31_0 (a0 : List Str) (a1 : GT) (a2 : Int) : Option ((Unit × Unit) ⊕ ((Bool × Unit) × Unit)) := (match ltI a2 (↑(List.length (GT.kids a1)) : Int) with | true => ((idx (GT.kids a1) a2) >>= fun y0 => ((k31 y0 (nf a0)) >>= fun y1 => (match not (y1.1.1) with | true => (some (Sum.inr ((false, ()), ()))) | false => (k31_0 (nf a0) (nf a1) (w64 (a2 + 1)))))) | false => (some (Sum.inl ((), ()))))
  partial_fixpoint
end
def k19_0 (a0 : GF) (a1 : List Str) (a2 : Bool) (a3 : Bool) (a4 : Int) : Option (((List Str) × (Bool × (Bool × Unit))) × Unit) := (match ltI a4 (↑(List.length (GF.params a0)) : Int) with | true => ((match a2 with | true => ((idx (GF.params a0) a4) >>= fun y0 => (((k32 (GP.name y0) a1) >>= fun y1 => (some (y1.1.1))) >>= fun y2 => (match eqI y2 0 with | true => ((idx (GF.params a0) a4) >>= fun y3 => ((k31 (GP.ty y3) (GF.lives a0)) >>= fun y4 => (some (((y4.1.1, ()), ()))))) | false => (some (((false, ()), ())))))) | false => (some (((false, ()), ())))) >>= fun y5 => (match a3 with | true => ((idx (GF.params a0) a4) >>= fun y6 => ((k12 (GP.ty y6)) >>= fun y7 => ((idx (GF.params a0) a4) >>= fun y8 => ((app 16 a1 [GP.name y8]) >>= fun y9 => (k19_0 (nf a0) y9 (y5.1.1) (y7.1.1) (w64 (a4 + 1))))))) | false => ((idx (GF.params a0) a4) >>= fun y10 => ((app 16 a1 [GP.name y10]) >>= fun y11 => (k19_0 (nf a0) y11 (y5.1.1) false (w64 (a4 + 1))))))) | false => (some (((a1, a2, a3, ()), ()))))
  partial_fixpoint
def k19_1 (a0 : GF) (a1 : Bool) (a2 : Int) : Option ((Bool × Unit) × Unit) := (match ltI a2 (↑(List.length (GF.lives a0)) : Int) with | true => (match a1 with | true => ((idx (GF.lives a0) a2) >>= fun y0 => ((k32 y0 (GF.lives a0)) >>= fun y1 => (k19_1 (nf a0) (eqI (y1.1.1) 1) (w64 (a2 + 1))))) | false => (k19_1 (nf a0) false (w64 (a2 + 1)))) | false => (some (((a1, ()), ()))))
  partial_fixpoint
def k19_2 (a0 : GF) (a1 : Bool) (a2 : Int) : Option ((Bool × Unit) × Unit) := (match ltI a2 (↑(List.length (GF.outs a0)) : Int) with | true => (match a1 with | true => ((idx (GF.outs a0) a2) >>= fun y0 => ((k32 y0 (GF.lives a0)) >>= fun y1 => (k19_2 (nf a0) (ltI 0 (y1.1.1)) (w64 (a2 + 1))))) | false => (k19_2 (nf a0) false (w64 (a2 + 1)))) | false => (some (((a1, ()), ()))))
  partial_fixpoint
mutual
def k34 (a0 : GE) (a1 : List Str) (a2 : List GF) : Option ((Bool × Unit) × Unit) := ((k34_0 (nf a1) (nf a2) (nf a0) 0) >>= fun y0 => (match y0 with | .inl y1 => (match eqI (GE.kind a0) 2 with | true => ((k32 (GE.name a0) a1) >>= fun y2 => (some (((ltI 0 (y2.1.1), ()), ())))) | false => (match eqI (GE.kind a0) 9 with | true => ((k13 a2 (GE.name a0)) >>= fun y3 => (match leI 0 (y3.1.1) with | true => ((idx a2 (y3.1.1)) >>= fun y4 => (some (((eqI (↑(List.length (GF.params y4)) : Int) (↑(List.length (GE.kids a0)) : Int), ()), ())))) | false => (some (((false, ()), ()))))) | false => (some (((true, ()), ()))))) | .inr y5 => (some (((y5.1.1, ()), ())))))
  partial_fixpoint
def k34_0 (a0 : List Str) (a1 : List GF) (a2 : GE) (a3 : Int) : Option ((Unit × Unit) ⊕ ((Bool × Unit) × Unit)) := (match ltI a3 (↑(List.length (GE.kids a2)) : Int) with | true => ((idx (GE.kids a2) a3) >>= fun y0 => ((k34 y0 (nf a0) (nf a1)) >>= fun y1 => (match not (y1.1.1) with | true => (some (Sum.inr ((false, ()), ()))) | false => (k34_0 (nf a0) (nf a1) (nf a2) (w64 (a3 + 1)))))) | false => (some (Sum.inl ((), ()))))
  partial_fixpoint
end
mutual
def k33 (a0 : List GS) (a1 : List Str) (a2 : List GF) : Option ((((List Str) × (Bool × Unit)) × Unit) × Unit) := ((k33_0 (nf a0) (nf a1) (nf a2) 0) >>= fun y0 => (match y0 with | .inl y1 => (some ((((y1.1.1, true, ()), ()), ()))) | .inr y2 => (some (((([], y2.1.2.1, ()), ()), ())))))
  partial_fixpoint
def k33_0 (a0 : List GS) (a1 : List Str) (a2 : List GF) (a3 : Int) : Option ((((List Str) × Unit) × Unit) ⊕ ((Unit × (Bool × Unit)) × Unit)) := (match ltI a3 (↑(List.length a0) : Int) with | true => ((idx a0 a3) >>= fun y0 => ((k33 (GS.thn y0) (nf a1) (nf a2)) >>= fun y1 => ((k33 (GS.els y0) (nf a1) (nf a2)) >>= fun y2 => (((k34 (GS.expr y0) a1 a2) >>= fun y3 => (match not (y3.1.1) with | true => (some (((true, ()), ()))) | false => ((k34 (GS.place y0) a1 a2) >>= fun y4 => (match not (y4.1.1) with | true => (some (((true, ()), ()))) | false => (match not (Prod.fst (Prod.snd (y1.1.1))) with | true => (some (((true, ()), ()))) | false => (some (((not (Prod.fst (Prod.snd (y2.1.1))), ()), ())))))))) >>= fun y5 => (match y5.1.1 with | true => (some (Sum.inr (((), false, ()), ()))) | false => (match eqI (GS.kind y0) 1 with | true => ((k32 (GS.name y0) a1) >>= fun y6 => (match ltI 0 (y6.1.1) with | true => (some (Sum.inr (((), false, ()), ()))) | false => ((app 16 [] a1) >>= fun y7 => ((app 16 y7 [GS.name y0]) >>= fun y8 => (k33_0 (nf a0) y8 (nf a2) (w64 (a3 + 1))))))) | false => (k33_0 (nf a0) (nf a1) (nf a2) (w64 (a3 + 1))))))))) | false => (some (Sum.inl ((a1, ()), ()))))
  partial_fixpoint
end
def k19 (a0 : GF) (a1 : List GF) : Option ((Int × Unit) × Unit) := (((k13 a1 (GF.name a0)) >>= fun y0 => (match ltI (y0.1.1) 0 with | true => ((k31 (GF.gives a0) (GF.lives a0)) >>= fun y1 => (some (((y1.1.1, ()), ())))) | false => (some (((false, ()), ()))))) >>= fun y2 => ((k12 (GF.gives a0)) >>= fun y3 => ((k19_0 a0 [] (y2.1.1) (y3.1.1) 0) >>= fun y4 => ((k19_1 a0 y4.1.2.1 0) >>= fun y5 => ((k19_2 a0 (y5.1.1) 0) >>= fun y6 => (match not (y6.1.1) with | true => (some (((4, ()), ()))) | false => (match not (Prod.fst (y4.1.2.2)) with | true => (some (((5, ()), ()))) | false => ((k33 (GF.body a0) (y4.1.1) a1) >>= fun y7 => (match not (Prod.fst (Prod.snd (y7.1.1))) with | true => (some (((4, ()), ()))) | false => ((k34 (GF.value a0) (Prod.fst (y7.1.1)) a1) >>= fun y8 => (match not (y8.1.1) with | true => (some (((4, ()), ()))) | false => (some (((0, ()), ()))))))))))))))
def k8_0 (a0 : List GF) (a1 : Int) : Option ((Unit × Unit) ⊕ ((Int × (Int × Unit)) × Unit)) := (match ltI a1 (↑(List.length a0) : Int) with | true => ((idx a0 a1) >>= fun y0 => ((subL a0 0 a1) >>= fun y1 => ((k19 y0 y1) >>= fun y2 => (match ltI 0 (y2.1.1) with | true => (some (Sum.inr ((y2.1.1, a1, ()), ()))) | false => (k8_0 (nf a0) (w64 (a1 + 1))))))) | false => (some (Sum.inl ((), ()))))
  partial_fixpoint
def k8 (a0 : List GF) : Option (((Int × (Int × Unit)) × Unit) × Unit) := ((k18 a0) >>= fun y0 => (match not (y0.1.1) with | true => (some ((((2, -1, ()), ()), ()))) | false => ((k8_0 a0 0) >>= fun y1 => (match y1 with | .inl y2 => ((match eqI (↑(List.length a0) : Int) 0 with | true => (some (((true, ()), ()))) | false => ((idx a0 (w64 ((↑(List.length a0) : Int) - 1))) >>= fun y3 => (some (((not (eqS (GF.name y3) (Array.toList (ByteArray.data { data := #[109, 97, 105, 110] }))), ()), ()))))) >>= fun y4 => (match y4.1.1 with | true => (some ((((4, (↑(List.length a0) : Int), ()), ()), ()))) | false => ((idx a0 (w64 ((↑(List.length a0) : Int) - 1))) >>= fun y5 => (match ltI 0 (↑(List.length (GF.lives y5)) : Int) with | true => (some ((((5, (↑(List.length a0) : Int), ()), ()), ()))) | false => ((idx a0 (w64 ((↑(List.length a0) : Int) - 1))) >>= fun y6 => (match ltI 0 (↑(List.length (GF.params y6)) : Int) with | true => (some ((((5, (↑(List.length a0) : Int), ()), ()), ()))) | false => ((idx a0 (w64 ((↑(List.length a0) : Int) - 1))) >>= fun y7 => (match not (eqI (GT.kind (GF.gives y7)) 1) with | true => (some ((((5, (↑(List.length a0) : Int), ()), ()), ()))) | false => (some ((((0, -1, ()), ()), ()))))))))))) | .inr y8 => (some ((((y8.1.1, y8.1.2.1, ()), ()), ())))))))
end Go.Lb.R
end
section
set_option maxRecDepth 100000
namespace Go.Lb.R
open Go.Lb
def k23_0 (a0 : List GT) (a1 : List Str) (a2 : List GP) (a3 : Int) (a4 : Int) (a5 : Mp Bool) : Option (((List GT) × ((List Str) × Unit)) × ((Mp Bool) × Unit)) := (match ltI a4 a3 with | true => ((idx a2 a4) >>= fun y0 => ((app 16 a1 [GP.name y0]) >>= fun y1 => ((app 56 a0 [GP.ty y0]) >>= fun y2 => (k23_0 y2 y1 (nf a2) (nf a3) (w64 (a4 + 1)) (mputL (GP.name y0) true a5))))) | false => (some (((a0, a1, ()), a5, ()))))
  partial_fixpoint
mutual
def k26 (a0 : GT) : Option ((Bool × Unit) × Unit) := (match eqI (GT.kind a0) 4 with | true => (some (((true, ()), ()))) | false => ((k26_0 (GT.kids a0) (↑(List.length (GT.kids a0)) : Int) 0) >>= fun y0 => (match y0 with | .inl y1 => (some (((leI 0 (-1), ()), ()))) | .inr y2 => (some (((leI 0 (y2.1.1), ()), ()))))))
  partial_fixpoint
def k26_0 (a0 : List GT) (a1 : Int) (a2 : Int) : Option ((Unit × Unit) ⊕ ((Int × Unit) × Unit)) := (match ltI a2 a1 with | true => ((idx a0 a2) >>= fun y0 => ((k26 y0) >>= fun y1 => (match y1.1.1 with | true => (some (Sum.inr ((a2, ()), ()))) | false => (k26_0 a0 a1 (w64 (a2 + 1)))))) | false => (some (Sum.inl ((), ()))))
  partial_fixpoint
end
mutual
def k11 (a0 : GT) : Option ((Bool × Unit) × Unit) := (match eqI (GT.kind a0) 2 with | true => ((k11_0 (GT.kids a0) (↑(List.length (GT.kids a0)) : Int) 0 true) >>= fun y0 => (match y0 with | .inl y1 => (some (((not (leI 0 (-1)), ()), ()))) | .inr y2 => (some (((not (leI 0 (y2.1.1)), ()), ()))))) | false => ((k11_0 (GT.kids a0) (↑(List.length (GT.kids a0)) : Int) 0 (eqI (GT.kind a0) 4)) >>= fun y3 => (match y3 with | .inl y4 => (some (((not (leI 0 (-1)), ()), ()))) | .inr y5 => (some (((not (leI 0 (y5.1.1)), ()), ()))))))
  partial_fixpoint
def k11_0 (a0 : List GT) (a1 : Int) (a2 : Int) (a3 : Bool) : Option ((Unit × (Bool × Unit)) ⊕ ((Int × Unit) × (Bool × Unit))) := (match ltI a2 a1 with | true => ((idx a0 a2) >>= fun y0 => ((k11 y0) >>= fun y1 => (match not (y1.1.1) with | true => (some (Sum.inr ((a2, ()), a3, ()))) | false => (match a3 with | true => ((k26 y0) >>= fun y2 => (match y2.1.1 with | true => (some (Sum.inr ((a2, ()), a3, ()))) | false => (k11_0 a0 a1 (w64 (a2 + 1)) a3))) | false => (k11_0 a0 a1 (w64 (a2 + 1)) a3))))) | false => (some (Sum.inl ((), a3, ()))))
  partial_fixpoint
end
mutual
def k42 (a0 : GT) : Option (((List Str) × Unit) × Unit) := (match eqI (GT.kind a0) 4 with | true => ((app 16 [] [GT.life a0]) >>= fun y0 => ((k42_0 y0 (GT.kids a0) (↑(List.length (GT.kids a0)) : Int) 0) >>= fun y1 => (some (((y1.1.1, ()), ()))))) | false => ((k42_0 [] (GT.kids a0) (↑(List.length (GT.kids a0)) : Int) 0) >>= fun y2 => (some (((y2.1.1, ()), ())))))
  partial_fixpoint
def k42_0 (a0 : List Str) (a1 : List GT) (a2 : Int) (a3 : Int) : Option (((List Str) × Unit) × Unit) := (match ltI a3 a2 with | true => ((idx a1 a3) >>= fun y0 => ((k42 y0) >>= fun y1 => ((app 16 a0 (y1.1.1)) >>= fun y2 => (k42_0 y2 a1 a2 (w64 (a3 + 1)))))) | false => (some (((a0, ()), ()))))
  partial_fixpoint
end
def k23_1 (a0 : List Str) (a1 : Bool) (a2 : List GT) (a3 : Int) (a4 : Int) : Option (((List Str) × (Bool × Unit)) × Unit) := (match ltI a4 a3 with | true => ((idx a2 a4) >>= fun y0 => ((k42 y0) >>= fun y1 => ((app 16 a0 (y1.1.1)) >>= fun y2 => (match a1 with | true => ((k11 y0) >>= fun y3 => (k23_1 y2 (y3.1.1) (nf a2) (nf a3) (w64 (a4 + 1)))) | false => (k23_1 y2 false (nf a2) (nf a3) (w64 (a4 + 1))))))) | false => (some (((a0, a1, ()), ()))))
  partial_fixpoint
def k78_0 (a0 : List Str) (a1 : Str) (a2 : Int) (a3 : Int) : Option ((Unit × Unit) ⊕ ((Int × Unit) × Unit)) := (match ltI a3 a2 with | true => ((idx a0 a3) >>= fun y0 => (match eqS a1 y0 with | true => (some (Sum.inr ((a3, ()), ()))) | false => (k78_0 (nf a0) (nf a1) (nf a2) (w64 (a3 + 1))))) | false => (some (Sum.inl ((), ()))))
  partial_fixpoint
def k78 (a0 : List Str) (a1 : Str) : Option ((Int × Unit) × Unit) := ((k78_0 a0 a1 (↑(List.length a0) : Int) 0) >>= fun y0 => (match y0 with | .inl y1 => (some (((-1, ()), ()))) | .inr y2 => (some (((y2.1.1, ()), ())))))
def k40 (a0 : List Str) (a1 : Str) : Option ((Bool × Unit) × Unit) := ((k78 a0 a1) >>= fun y0 => (some (((leI 0 (y0.1.1), ()), ()))))
def k23_2 (a0 : List Str) (a1 : Int) (a2 : Int) (a3 : GF) : Option ((Unit × ((Unit × (Unit × Unit)) × (GF × Unit))) ⊕ ((Int × Unit) × ((Unit × (Unit × Unit)) × (GF × Unit)))) := (match ltI a2 a1 with | true => ((idx a0 a2) >>= fun y0 => ((k40 (GF.lives a3) y0) >>= fun y1 => (match not (y1.1.1) with | true => (some (Sum.inr ((a2, ()), ((), (), ()), a3, ()))) | false => (k23_2 (nf a0) (nf a1) (w64 (a2 + 1)) (nf a3))))) | false => (some (Sum.inl ((), ((), (), ()), a3, ()))))
  partial_fixpoint
def k43_0 (a0 : List Str) (a1 : Int) (a2 : Int) (a3 : Mp Bool) : Option ((Unit × ((Mp Bool) × Unit)) ⊕ ((Bool × Unit) × ((Mp Bool) × Unit))) := (match ltI a2 a1 with | true => ((idx a0 a2) >>= fun y0 => (match mLook y0 a3 false with | true => (some (Sum.inr ((false, ()), a3, ()))) | false => (k43_0 (nf a0) (nf a1) (w64 (a2 + 1)) (mputL y0 true a3)))) | false => (some (Sum.inl ((), a3, ()))))
  partial_fixpoint
def k43 (a0 : List Str) : Option ((Bool × Unit) × Unit) := ((k43_0 a0 (↑(List.length a0) : Int) 0 []) >>= fun y0 => (match y0 with | .inl y1 => (some (((true, ()), ()))) | .inr y2 => (some (((y2.1.1, ()), ())))))
mutual
def k47 (a0 : GE) (a1 : Mp Bool) (a2 : Mp Int) : Option ((Bool × Unit) × ((Mp Bool) × ((Mp Int) × Unit))) := ((k47_0 (GE.kids a0) (↑(List.length (GE.kids a0)) : Int) 0 a1 a2) >>= fun y0 => (match y0 with | .inl y1 => (match eqI (GE.kind a0) 2 with | true => (some (((mLook (GE.name a0) y1.2.1 false, ()), y1.2.1, Prod.fst (y1.2.2), ()))) | false => (match eqI (GE.kind a0) 9 with | true => (match mHas (GE.name a0) (Prod.fst (y1.2.2)) with | true => (some (((eqI (mLook (GE.name a0) (Prod.fst (y1.2.2)) 0) (↑(List.length (GE.kids a0)) : Int), ()), y1.2.1, Prod.fst (y1.2.2), ()))) | false => (some (((false, ()), y1.2.1, Prod.fst (y1.2.2), ())))) | false => (some (((true, ()), y1.2.1, Prod.fst (y1.2.2), ()))))) | .inr y2 => (some (((y2.1.1, ()), y2.2.1, Prod.fst (y2.2.2), ())))))
  partial_fixpoint
def k47_0 (a0 : List GE) (a1 : Int) (a2 : Int) (a3 : Mp Bool) (a4 : Mp Int) : Option ((Unit × ((Mp Bool) × ((Mp Int) × Unit))) ⊕ ((Bool × Unit) × ((Mp Bool) × ((Mp Int) × Unit)))) := (match ltI a2 a1 with | true => ((idx a0 a2) >>= fun y0 => ((k47 y0 a3 a4) >>= fun y1 => (match not (y1.1.1) with | true => (some (Sum.inr ((false, ()), y1.2.1, Prod.fst (y1.2.2), ()))) | false => (k47_0 a0 a1 (w64 (a2 + 1)) y1.2.1 (Prod.fst (y1.2.2)))))) | false => (some (Sum.inl ((), a3, a4, ()))))
  partial_fixpoint
end
mutual
def k46 (a0 : List GS) (a1 : Mp Bool) (a2 : Mp Int) : Option ((Bool × Unit) × ((Mp Bool) × ((Mp Int) × Unit))) := ((k46_0 a0 (↑(List.length a0) : Int) 0 a1 a2) >>= fun y0 => (match y0 with | .inl y1 => (some (((true, ()), y1.2.1, Prod.fst (y1.2.2), ()))) | .inr y2 => (some (((y2.1.1, ()), y2.2.1, Prod.fst (y2.2.2), ())))))
  partial_fixpoint
def k46_0 (a0 : List GS) (a1 : Int) (a2 : Int) (a3 : Mp Bool) (a4 : Mp Int) : Option ((Unit × ((Mp Bool) × ((Mp Int) × Unit))) ⊕ ((Bool × Unit) × ((Mp Bool) × ((Mp Int) × Unit)))) := (match ltI a2 a1 with | true => ((idx a0 a2) >>= fun y0 => (((k47 (GS.expr y0) a3 a4) >>= fun y1 => (match not (y1.1.1) with | true => (some (((true, ()), y1.2.1, Prod.fst (y1.2.2), ()))) | false => (match eqI (GS.kind y0) 2 with | true => ((k47 (GS.place y0) y1.2.1 (Prod.fst (y1.2.2))) >>= fun y2 => (some (((not (y2.1.1), ()), y2.2.1, Prod.fst (y2.2.2), ())))) | false => (some (((false, ()), y1.2.1, Prod.fst (y1.2.2), ())))))) >>= fun y3 => (match y3.1.1 with | true => (some (Sum.inr ((false, ()), y3.2.1, Prod.fst (y3.2.2), ()))) | false => (((kh_inner y3.2.1) >>= fun y4 => ((k46 (GS.thn y0) (Prod.fst (y4.2.2)) (Prod.fst (y3.2.2))) >>= fun y5 => (match not (y5.1.1) with | true => (some (((true, ()), y4.2.1, Prod.fst (y5.2.2), ()))) | false => ((kh_inner y4.2.1) >>= fun y6 => ((k46 (GS.els y0) (Prod.fst (y6.2.2)) (Prod.fst (y5.2.2))) >>= fun y7 => (match not (y7.1.1) with | true => (some (((true, ()), y6.2.1, Prod.fst (y7.2.2), ()))) | false => (match eqI (GS.kind y0) 1 with | true => (some (((mLook (GS.name y0) y6.2.1 false, ()), y6.2.1, Prod.fst (y7.2.2), ()))) | false => (some (((false, ()), y6.2.1, Prod.fst (y7.2.2), ())))))))))) >>= fun y8 => (match y8.1.1 with | true => (some (Sum.inr ((false, ()), y8.2.1, Prod.fst (y8.2.2), ()))) | false => (match eqI (GS.kind y0) 1 with | true => (k46_0 a0 a1 (w64 (a2 + 1)) (mputL (GS.name y0) true y8.2.1) (Prod.fst (y8.2.2))) | false => (k46_0 a0 a1 (w64 (a2 + 1)) y8.2.1 (Prod.fst (y8.2.2))))))))) | false => (some (Sum.inl ((), a3, a4, ()))))
  partial_fixpoint
end
def k23 (a0 : GF) (a1 : Mp Int) : Option ((GErr × Unit) × ((Mp Int) × Unit)) := ((k23_0 [GF.gives a0] [] (GF.params a0) (↑(List.length (GF.params a0)) : Int) 0 []) >>= fun y0 => ((kh_clone (GF.outs a0)) >>= fun y1 => ((k23_1 (y1.1.1) true (y0.1.1) (↑(List.length (y0.1.1)) : Int) 0) >>= fun y2 => ((match mHas (GF.name a0) a1 with | true => (some (((true, ()), a0, ((), (), ()), ()))) | false => ((k43 (GF.lives a0)) >>= fun y3 => (match not (y3.1.1) with | true => (some (((true, ()), a0, ((), (), ()), ()))) | false => ((k43 y0.1.2.1) >>= fun y4 => (match not (y4.1.1) with | true => (some (((true, ()), a0, ((), (), ()), ()))) | false => ((k23_2 (y2.1.1) (↑(List.length (y2.1.1)) : Int) 0 a0) >>= fun y5 => (match y5 with | .inl y6 => (some (((leI 0 (-1), ()), Prod.fst (y6.2.2), ((), (), ()), ()))) | .inr y7 => (some (((leI 0 (y7.1.1), ()), Prod.fst (y7.2.2), ((), (), ()), ())))))))))) >>= fun y8 => (match y8.1.1 with | true => (some (((GErr.code 4, ()), a1, ()))) | false => (match not y2.1.2.1 with | true => (some (((GErr.code 5, ()), a1, ()))) | false => ((k46 (GF.body y8.2.1) y0.2.1 a1) >>= fun y9 => (match not (y9.1.1) with | true => (some (((GErr.code 4, ()), Prod.fst (y9.2.2), ()))) | false => ((k47 (GF.value y8.2.1) y9.2.1 (Prod.fst (y9.2.2))) >>= fun y10 => (match not (y10.1.1) with | true => (some (((GErr.code 4, ()), Prod.fst (y10.2.2), ()))) | false => (some (((GErr.nil, ()), Prod.fst (y10.2.2), ())))))))))))))
def k10_0 (a0 : List GF) (a1 : Int) (a2 : Int) (a3 : Mp Int) : Option ((Unit × ((Mp Int) × Unit)) ⊕ ((GErr × Unit) × ((Mp Int) × Unit))) := (match ltI a2 a1 with | true => ((idx a0 a2) >>= fun y0 => ((k23 y0 a3) >>= fun y1 => (match not (GErr.isNil (y1.1.1)) with | true => (some (Sum.inr ((GErr.fault a2 (y1.1.1), ()), y1.2.1, ()))) | false => (k10_0 (nf a0) (nf a1) (w64 (a2 + 1)) (mputL (GF.name y0) (↑(List.length (GF.params y0)) : Int) y1.2.1))))) | false => (some (Sum.inl ((), a3, ()))))
  partial_fixpoint
def k128_0 (a0 : Str × Nat) : Option ((Unit × ((Str × Nat) × Unit)) ⊕ ((Int × Unit) × ((Str × Nat) × Unit))) := (match ltN a0.2 (List.length a0.1) with | true => (match eqI (runeAt a0.1 a0.2) 32 with | true => (k128_0 (a0.1, a0.2 + runeW a0.1 a0.2)) | false => (match eqI (runeAt a0.1 a0.2) 9 with | true => (k128_0 (a0.1, a0.2 + runeW a0.1 a0.2)) | false => (match not (eqI (runeAt a0.1 a0.2) 10) with | true => (some (Sum.inr (((↑a0.2 : Int), ()), (a0.1, a0.2 + runeW a0.1 a0.2), ()))) | false => (k128_0 (a0.1, a0.2 + runeW a0.1 a0.2))))) | false => (some (Sum.inl ((), (a0.1, a0.2), ()))))
  partial_fixpoint
def k128_1 (a0 : Str × Nat) : Option ((Unit × ((Str × Nat) × Unit)) ⊕ ((Int × Unit) × ((Str × Nat) × Unit))) := (match ltN a0.2 (List.length a0.1) with | true => (match not (not (eqI (runeAt a0.1 a0.2) 10)) with | true => (some (Sum.inr (((↑a0.2 : Int), ()), (a0.1, a0.2 + runeW a0.1 a0.2), ()))) | false => (k128_1 (a0.1, a0.2 + runeW a0.1 a0.2))) | false => (some (Sum.inl ((), (a0.1, a0.2), ()))))
  partial_fixpoint
def k160 (a0 : Str) (a1 : Str) : Option ((Bool × Unit) × Unit) := (match leI (↑(List.length a1) : Int) (↑(List.length a0) : Int) with | true => ((subL a0 0 (↑(List.length a1) : Int)) >>= fun y0 => (some (((eqS y0 a1, ()), ())))) | false => (some (((false, ()), ()))))
def k149 (a0 : Str) (a1 : Str) : Option ((Bool × Unit) × Unit) := ((k160 a0 a1) >>= fun y0 => (some (((y0.1.1, ()), ()))))
def k128 (a0 : Str) : Option ((Int × Unit) × Unit) := ((k128_0 (a0, 0)) >>= fun y0 => (match y0 with | .inl y1 => ((subL a0 (↑(List.length a0) : Int) (↑(List.length a0) : Int)) >>= fun y2 => ((k149 y2 (Array.toList (ByteArray.data { data := #[47, 47] }))) >>= fun y3 => (match y3.1.1 with | true => ((subL a0 (↑(List.length a0) : Int) (↑(List.length a0) : Int)) >>= fun y4 => ((k128_1 (y4, 0)) >>= fun y5 => (match y5 with | .inl y6 => (some (((w64 ((↑(List.length a0) : Int) + (↑(List.length y4) : Int)), ()), ()))) | .inr y7 => (some (((w64 ((↑(List.length a0) : Int) + y7.1.1), ()), ())))))) | false => (some ((((↑(List.length a0) : Int), ()), ())))))) | .inr y8 => ((subL a0 (y8.1.1) (↑(List.length a0) : Int)) >>= fun y9 => ((k149 y9 (Array.toList (ByteArray.data { data := #[47, 47] }))) >>= fun y10 => (match y10.1.1 with | true => ((subL a0 (y8.1.1) (↑(List.length a0) : Int)) >>= fun y11 => ((k128_1 (y11, 0)) >>= fun y12 => (match y12 with | .inl y13 => (some (((w64 (y8.1.1 + (↑(List.length y11) : Int)), ()), ()))) | .inr y14 => (some (((w64 (y8.1.1 + y14.1.1), ()), ())))))) | false => (some (((y8.1.1, ()), ()))))))))
def k153 (a0 : Int) : Option ((Bool × Unit) × Unit) := (match leI 48 a0 with | true => (some (((leI a0 57, ()), ()))) | false => (some (((false, ()), ()))))
def k129_0 (a0 : Str × Nat) : Option ((Unit × ((Str × Nat) × Unit)) ⊕ ((Int × Unit) × ((Str × Nat) × Unit))) := (match ltN a0.2 (List.length a0.1) with | true => ((k153 (runeAt a0.1 a0.2)) >>= fun y0 => (match not (y0.1.1) with | true => (some (Sum.inr (((↑a0.2 : Int), ()), (a0.1, a0.2 + runeW a0.1 a0.2), ()))) | false => (k129_0 (a0.1, a0.2 + runeW a0.1 a0.2)))) | false => (some (Sum.inl ((), (a0.1, a0.2), ()))))
  partial_fixpoint
def k151 (a0 : Int) : Option ((Bool × Unit) × Unit) := (match eqI a0 95 with | true => (some (((true, ()), ()))) | false => (match leI 97 a0 with | true => (match leI a0 122 with | true => (some (((true, ()), ()))) | false => (match leI 65 a0 with | true => (some (((leI a0 90, ()), ()))) | false => (some (((false, ()), ()))))) | false => (match leI 65 a0 with | true => (some (((leI a0 90, ()), ()))) | false => (some (((false, ()), ()))))))
def k152_0 (a0 : Str × Nat) : Option ((Unit × ((Str × Nat) × Unit)) ⊕ ((Int × Unit) × ((Str × Nat) × Unit))) := (match ltN a0.2 (List.length a0.1) with | true => ((k151 (runeAt a0.1 a0.2)) >>= fun y0 => (match y0.1.1 with | true => (k152_0 (a0.1, a0.2 + runeW a0.1 a0.2)) | false => ((k153 (runeAt a0.1 a0.2)) >>= fun y1 => (match not (y1.1.1) with | true => (some (Sum.inr (((↑a0.2 : Int), ()), (a0.1, a0.2 + runeW a0.1 a0.2), ()))) | false => (k152_0 (a0.1, a0.2 + runeW a0.1 a0.2)))))) | false => (some (Sum.inl ((), (a0.1, a0.2), ()))))
  partial_fixpoint
def k152 (a0 : Str) : Option ((Int × Unit) × Unit) := ((k152_0 (a0, 0)) >>= fun y0 => (match y0 with | .inl y1 => (match eqI (↑(List.length a0) : Int) 0 with | true => (some (((0, ()), ()))) | false => ((idxB a0 0) >>= fun y2 => ((k153 (IntKind.wrap IntKind.i32 y2)) >>= fun y3 => (match y3.1.1 with | true => (some (((0, ()), ()))) | false => (match ltI 30 (↑(List.length a0) : Int) with | true => (some (((0, ()), ()))) | false => (some ((((↑(List.length a0) : Int), ()), ())))))))) | .inr y4 => (match eqI (y4.1.1) 0 with | true => (some (((0, ()), ()))) | false => ((idxB a0 0) >>= fun y5 => ((k153 (IntKind.wrap IntKind.i32 y5)) >>= fun y6 => (match y6.1.1 with | true => (some (((0, ()), ()))) | false => (match ltI 30 (y4.1.1) with | true => (some (((0, ()), ()))) | false => (some (((y4.1.1, ()), ()))))))))))
def k162_0 (a0 : Str × Nat) : Option ((Unit × ((Str × Nat) × Unit)) ⊕ ((Int × Unit) × ((Str × Nat) × Unit))) := (match ltN a0.2 (List.length a0.1) with | true => (match eqI (runeAt a0.1 a0.2) 65533 with | true => (some (Sum.inr (((↑a0.2 : Int), ()), (a0.1, a0.2 + runeW a0.1 a0.2), ()))) | false => (k162_0 (a0.1, a0.2 + runeW a0.1 a0.2))) | false => (some (Sum.inl ((), (a0.1, a0.2), ()))))
  partial_fixpoint
def k162_1 (a0 : Str) (a1 : Str) (a2 : Int) (a3 : Int) (a4 : Int) : Option (Unit × Unit) := (match ltI a4 (↑(List.length a1) : Int) with | true => ((idxB a0 (w64 (a3 - a4))) >>= fun y0 => ((idxB a1 (w64 (a2 - a4))) >>= fun y1 => (match not (eqI y0 y1) with | true => none | false => (k162_1 (nf a0) (nf a1) (nf a2) (nf a3) (w64 (a4 + 1)))))) | false => (some (((), ()))))
  partial_fixpoint
def k162_2 (a0 : Str) (a1 : Str) (a2 : Int) (a3 : Int) : Option ((Unit × Unit) ⊕ ((Int × Unit) × Unit)) := (match ltI a3 (↑(List.length a0) : Int) with | true => (((idxB a0 a3) >>= fun y0 => ((idxB a1 a2) >>= fun y1 => (match not (eqI y0 y1) with | true => ((subL a0 (w64 (a3 + 1)) (↑(List.length a0) : Int)) >>= fun y2 => ((idxB a1 a2) >>= fun y3 => ((kh_indexByte y2 y3) >>= fun y4 => (match ltI (y4.1.1) 0 with | true => (some (Sum.inr ((-1, ()), ()))) | false => (some (Sum.inl ((w64 (a3 + w64 (y4.1.1 + 1)), ()), ()))))))) | false => (some (Sum.inl ((a3, ()), ())))))) >>= fun y5 => (match y5 with | .inl y6 => ((k162_1 a0 a1 a2 (y6.1.1) 1) >>= fun y7 => (some (Sum.inr ((w64 (y6.1.1 - a2), ()), ())))) | .inr y8 => (some (Sum.inr ((y8.1.1, ()), ()))))) | false => (some (Sum.inl ((), ()))))
def k162 (a0 : Str) (a1 : Int) : Option ((Int × Unit) × Unit) := ((match leI 0 a1 with | true => (some (((ltI a1 128, ()), ()))) | false => (some (((false, ()), ())))) >>= fun y0 => (match y0.1.1 with | true => ((kh_indexByte a0 (IntKind.wrap IntKind.u8 a1)) >>= fun y1 => (some (((y1.1.1, ()), ())))) | false => (match eqI a1 65533 with | true => ((k162_0 (a0, 0)) >>= fun y2 => (match y2 with | .inl y3 => (some (((-1, ()), ()))) | .inr y4 => (some (((y4.1.1, ()), ()))))) | false => ((kh_validRune a1) >>= fun y5 => (match not (y5.1.1) with | true => (some (((-1, ()), ()))) | false => ((k162_2 a0 (runeStr a1) (w64 ((↑(List.length (runeStr a1)) : Int) - 1)) (w64 ((↑(List.length (runeStr a1)) : Int) - 1))) >>= fun y6 => (match y6 with | .inl y7 => (some (((-1, ()), ()))) | .inr y8 => (some (((y8.1.1, ()), ()))))))))))
def k154 (a0 : Str) (a1 : Int) : Option ((Bool × Unit) × Unit) := ((k162 a0 a1) >>= fun y0 => (some (((leI 0 (y0.1.1), ()), ()))))
def k129 (a0 : Str) : Option (((Int × (Int × Unit)) × Unit) × Unit) := ((idxB a0 0) >>= fun y0 => ((k151 (IntKind.wrap IntKind.i32 y0)) >>= fun y1 => (match y1.1.1 with | true => ((k152 a0) >>= fun y2 => (some ((((1, y2.1.1, ()), ()), ())))) | false => ((k153 (IntKind.wrap IntKind.i32 y0)) >>= fun y3 => (match y3.1.1 with | true => ((k129_0 (a0, 0)) >>= fun y4 => (match y4 with | .inl y5 => (match ltI 18 (↑(List.length a0) : Int) with | true => (some ((((2, 0, ()), ()), ()))) | false => (some ((((2, (↑(List.length a0) : Int), ()), ()), ())))) | .inr y6 => (match ltI 18 (y6.1.1) with | true => (some ((((2, 0, ()), ()), ()))) | false => (some ((((2, y6.1.1, ()), ()), ())))))) | false => (match eqI (IntKind.wrap IntKind.i32 y0) 39 with | true => ((subL a0 1 (↑(List.length a0) : Int)) >>= fun y7 => ((k152 y7) >>= fun y8 => (match ltI 0 (y8.1.1) with | true => (some ((((3, w64 (y8.1.1 + 1), ()), ()), ()))) | false => (some ((((3, y8.1.1, ()), ()), ())))))) | false => ((k149 a0 (Array.toList (ByteArray.data { data := #[45, 62] }))) >>= fun y9 => (match y9.1.1 with | true => (some ((((4, 2, ()), ()), ()))) | false => ((k149 a0 (Array.toList (ByteArray.data { data := #[61, 61] }))) >>= fun y10 => (match y10.1.1 with | true => (some ((((4, 2, ()), ()), ()))) | false => ((k154 (Array.toList (ByteArray.data { data := #[40, 41, 123, 125, 91, 93, 44, 59, 58, 46, 38, 42, 61, 43, 45, 47, 60] })) (IntKind.wrap IntKind.i32 y0)) >>= fun y11 => (match y11.1.1 with | true => (some ((((4, 1, ()), ()), ()))) | false => (some ((((0, 0, ()), ()), ())))))))))))))))
def k104_0 (a0 : Str) (a1 : List KTok) (a2 : Int) : Option ((((List KTok) × Unit) × Unit) ⊕ ((Unit × (GErr × Unit)) × Unit)) := (match ltI a2 (↑(List.length a0) : Int) with | true => ((subL a0 a2 (↑(List.length a0) : Int)) >>= fun y0 => ((k128 y0) >>= fun y1 => (match ltI 0 (y1.1.1) with | true => (k104_0 (nf a0) a1 (w64 (a2 + y1.1.1))) | false => ((subL a0 a2 (↑(List.length a0) : Int)) >>= fun y2 => ((k129 y2) >>= fun y3 => (match eqI (Prod.fst (Prod.snd (y3.1.1))) 0 with | true => (some (Sum.inr (((), GErr.fault a2 (GErr.code 1), ()), ()))) | false => ((subL a0 a2 (w64 (a2 + Prod.fst (Prod.snd (y3.1.1))))) >>= fun y4 => ((app 32 a1 [{ kind := Prod.fst (y3.1.1), pos := a2, text := y4 }]) >>= fun y5 => (k104_0 (nf a0) y5 (w64 (a2 + Prod.fst (Prod.snd (y3.1.1))))))))))))) | false => (some (Sum.inl ((a1, ()), ()))))
  partial_fixpoint
def k104 (a0 : Str) : Option ((((List KTok) × (GErr × Unit)) × Unit) × Unit) := (match ltI 20000 (↑(List.length a0) : Int) with | true => (some (((([], GErr.code 3, ()), ()), ()))) | false => ((k104_0 a0 [] 0) >>= fun y0 => (match y0 with | .inl y1 => (some ((((y1.1.1, GErr.nil, ()), ()), ()))) | .inr y2 => (some (((([], y2.1.2.1, ()), ()), ()))))))
def k105 : Option (((List Str) × Unit) × Unit) := ((kh_fields (Array.toList (ByteArray.data { data := #[102, 110, 32, 108, 101, 116, 32, 105, 102, 32, 101, 108, 115, 101, 32, 114, 101, 112, 101, 97, 116, 32, 114, 101, 116, 32, 98, 111, 120, 32, 105, 110, 116, 32, 109, 117, 116, 32, 119, 104, 101, 114, 101] }))) >>= fun y0 => (some (((y0.1.1, ()), ()))))
def k70 (a0 : Str) : Option ((Bool × Unit) × Unit) := ((k104 a0) >>= fun y0 => (match GErr.isNil (Prod.fst (Prod.snd (y0.1.1))) with | true => (match eqI (↑(List.length (Prod.fst (y0.1.1))) : Int) 1 with | true => ((idx (Prod.fst (y0.1.1)) 0) >>= fun y1 => (match eqTok y1 { kind := 1, pos := 0, text := a0 } with | true => ((k105) >>= fun y2 => ((k40 (y2.1.1) a0) >>= fun y3 => (some (((not (y3.1.1), ()), ()))))) | false => (some (((false, ()), ()))))) | false => (some (((false, ()), ())))) | false => (some (((false, ()), ())))))
def k38_0 (a0 : List Str) (a1 : Int) (a2 : Int) : Option ((Unit × ((Unit × Unit) × Unit)) ⊕ ((Int × Unit) × ((Unit × Unit) × Unit))) := (match ltI a2 a1 with | true => ((idx a0 a2) >>= fun y0 => ((k70 y0) >>= fun y1 => (match not (y1.1.1) with | true => (some (Sum.inr ((a2, ()), ((), ()), ()))) | false => (k38_0 (nf a0) (nf a1) (w64 (a2 + 1)))))) | false => (some (Sum.inl ((), ((), ()), ()))))
  partial_fixpoint
mutual
def k71 (a0 : GT) : Option ((Bool × Unit) × Unit) := ((match not (eqI (GT.kind a0) 4) with | true => (match not (eqS (GT.life a0) (Array.toList (ByteArray.data { data := #[] }))) with | true => (some (((true, ()), ()))) | false => (some (((GT.mu a0, ()), ())))) | false => (some (((false, ()), ())))) >>= fun y0 => (match y0.1.1 with | true => (some (((false, ()), ()))) | false => (match eqI (↑(List.length (GT.kids a0)) : Int) 1 with | true => ((k70 (GT.life a0)) >>= fun y1 => (match leI 1 (GT.kind a0) with | true => (match leI (GT.kind a0) 4 with | true => (match decide (w64 (GT.kind (Prod.fst (Prod.fst ((a0, ()), ()))) - 1) = (↑0 : Int)) with | true => (match eqI (↑(List.length (GT.kids a0)) : Int) 0 with | true => (match leI (↑(List.length (GT.kids a0)) : Int) 30 with | true => ((k71_0 (GT.kids a0) (↑(List.length (GT.kids a0)) : Int) 0) >>= fun y2 => (match y2 with | .inl y3 => (some (((not (leI 0 (-1)), ()), ()))) | .inr y4 => (some (((not (leI 0 (y4.1.1)), ()), ()))))) | false => (some (((false, ()), ())))) | false => (some (((false, ()), ())))) | false => (match decide (w64 (GT.kind (Prod.fst (Prod.fst ((a0, ()), ()))) - 1) = (↑(0 + 1) : Int)) with | true => (match eqI (↑(List.length (GT.kids a0)) : Int) 1 with | true => (match leI (↑(List.length (GT.kids a0)) : Int) 30 with | true => ((k71_0 (GT.kids a0) (↑(List.length (GT.kids a0)) : Int) 0) >>= fun y5 => (match y5 with | .inl y6 => (some (((not (leI 0 (-1)), ()), ()))) | .inr y7 => (some (((not (leI 0 (y7.1.1)), ()), ()))))) | false => (some (((false, ()), ())))) | false => (some (((false, ()), ())))) | false => (match decide (w64 (GT.kind (Prod.fst (Prod.fst ((a0, ()), ()))) - 1) = (↑(0 + 1 + 1) : Int)) with | true => (match leI 2 (↑(List.length (GT.kids a0)) : Int) with | true => (match leI (↑(List.length (GT.kids a0)) : Int) 30 with | true => ((k71_0 (GT.kids a0) (↑(List.length (GT.kids a0)) : Int) 0) >>= fun y8 => (match y8 with | .inl y9 => (some (((not (leI 0 (-1)), ()), ()))) | .inr y10 => (some (((not (leI 0 (y10.1.1)), ()), ()))))) | false => (some (((false, ()), ())))) | false => (some (((false, ()), ())))) | false => (match decide (w64 (GT.kind (Prod.fst (Prod.fst ((a0, ()), ()))) - 1) = (↑(0 + 1 + 1 + 1) : Int)) with | true => (match y1.1.1 with | true => (match leI (↑(List.length (GT.kids a0)) : Int) 30 with | true => ((k71_0 (GT.kids a0) (↑(List.length (GT.kids a0)) : Int) 0) >>= fun y11 => (match y11 with | .inl y12 => (some (((not (leI 0 (-1)), ()), ()))) | .inr y13 => (some (((not (leI 0 (y13.1.1)), ()), ()))))) | false => (some (((false, ()), ())))) | false => (some (((false, ()), ())))) | false => none)))) | false => (some (((false, ()), ())))) | false => (some (((false, ()), ()))))) | false => (match leI 1 (GT.kind a0) with | true => (match leI (GT.kind a0) 4 with | true => (match decide (w64 (GT.kind (Prod.fst (Prod.fst ((a0, ()), ()))) - 1) = (↑0 : Int)) with | true => (match eqI (↑(List.length (GT.kids a0)) : Int) 0 with | true => (match leI (↑(List.length (GT.kids a0)) : Int) 30 with | true => ((k71_0 (GT.kids a0) (↑(List.length (GT.kids a0)) : Int) 0) >>= fun y14 => (match y14 with | .inl y15 => (some (((not (leI 0 (-1)), ()), ()))) | .inr y16 => (some (((not (leI 0 (y16.1.1)), ()), ()))))) | false => (some (((false, ()), ())))) | false => (some (((false, ()), ())))) | false => (match decide (w64 (GT.kind (Prod.fst (Prod.fst ((a0, ()), ()))) - 1) = (↑(0 + 1) : Int)) with | true => (match eqI (↑(List.length (GT.kids a0)) : Int) 1 with | true => (match leI (↑(List.length (GT.kids a0)) : Int) 30 with | true => ((k71_0 (GT.kids a0) (↑(List.length (GT.kids a0)) : Int) 0) >>= fun y17 => (match y17 with | .inl y18 => (some (((not (leI 0 (-1)), ()), ()))) | .inr y19 => (some (((not (leI 0 (y19.1.1)), ()), ()))))) | false => (some (((false, ()), ())))) | false => (some (((false, ()), ())))) | false => (match decide (w64 (GT.kind (Prod.fst (Prod.fst ((a0, ()), ()))) - 1) = (↑(0 + 1 + 1) : Int)) with | true => (match leI 2 (↑(List.length (GT.kids a0)) : Int) with | true => (match leI (↑(List.length (GT.kids a0)) : Int) 30 with | true => ((k71_0 (GT.kids a0) (↑(List.length (GT.kids a0)) : Int) 0) >>= fun y20 => (match y20 with | .inl y21 => (some (((not (leI 0 (-1)), ()), ()))) | .inr y22 => (some (((not (leI 0 (y22.1.1)), ()), ()))))) | false => (some (((false, ()), ())))) | false => (some (((false, ()), ())))) | false => (match decide (w64 (GT.kind (Prod.fst (Prod.fst ((a0, ()), ()))) - 1) = (↑(0 + 1 + 1 + 1) : Int)) with | true => (some (((false, ()), ()))) | false => none)))) | false => (some (((false, ()), ())))) | false => (some (((false, ()), ())))))))
  partial_fixpoint
def k71_0 (a0 : List GT) (a1 : Int) (a2 : Int) : Option ((Unit × ((Unit × Unit) × Unit)) ⊕ ((Int × Unit) × ((Unit × Unit) × Unit))) := (match ltI a2 a1 with | true => ((idx a0 a2) >>= fun y0 => ((k71 y0) >>= fun y1 => (match not (y1.1.1) with | true => (some (Sum.inr ((a2, ()), ((), ()), ()))) | false => (k71_0 a0 a1 (w64 (a2 + 1)))))) | false => (some (Sum.inl ((), ((), ()), ()))))
  partial_fixpoint
end
def k38_1 (a0 : List GP) (a1 : Int) (a2 : Int) : Option ((Unit × ((Unit × Unit) × Unit)) ⊕ ((Int × Unit) × ((Unit × Unit) × Unit))) := (match ltI a2 a1 with | true => ((idx a0 a2) >>= fun y0 => ((k70 (GP.name y0)) >>= fun y1 => (match y1.1.1 with | true => ((k71 (GP.ty y0)) >>= fun y2 => (match not (y2.1.1) with | true => (some (Sum.inr ((a2, ()), ((), ()), ()))) | false => (k38_1 (nf a0) (nf a1) (w64 (a2 + 1))))) | false => (some (Sum.inr ((a2, ()), ((), ()), ())))))) | false => (some (Sum.inl ((), ((), ()), ()))))
  partial_fixpoint
def k112 (a0 : GE) : Option ((Bool × Unit) × Unit) := (match eqI (GE.kind a0) 0 with | true => (match eqI (GE.num a0) 0 with | true => (match eqS (GE.name a0) (Array.toList (ByteArray.data { data := #[] })) with | true => (match not (GE.mu a0) with | true => (some (((eqI (↑(List.length (GE.kids a0)) : Int) 0, ()), ()))) | false => (some (((false, ()), ())))) | false => (some (((false, ()), ())))) | false => (some (((false, ()), ())))) | false => (some (((false, ()), ()))))
def k113 (a0 : GE) : Option ((Bool × Unit) × Unit) := (match leI 2 (GE.kind a0) with | true => (some (((leI (GE.kind a0) 4, ()), ()))) | false => (some (((false, ()), ()))))
def k137 (a0 : GE) : Option ((Bool × Unit) × Unit) := ((idx (GE.kids a0) 0) >>= fun y0 => ((k113 y0) >>= fun y1 => (some (((y1.1.1, ()), ())))))
def k138 (a0 : GE) : Option ((Bool × Unit) × Unit) := (some (((true, ()), ())))
def k140 (a0 : GE) : Option ((Int × Unit) × Unit) := (match not (eqI (GE.kind a0) 8) with | true => (some (((4, ()), ()))) | false => (match eqS (GE.name a0) (Array.toList (ByteArray.data { data := #[60] })) with | true => (match eqS (GE.name a0) (Array.toList (ByteArray.data { data := #[60] })) with | true => (some (((1, ()), ()))) | false => (match eqS (GE.name a0) (Array.toList (ByteArray.data { data := #[43] })) with | true => (match eqS (GE.name a0) (Array.toList (ByteArray.data { data := #[43] })) with | true => (some (((2, ()), ()))) | false => (match eqS (GE.name a0) (Array.toList (ByteArray.data { data := #[42] })) with | true => (match eqS (GE.name a0) (Array.toList (ByteArray.data { data := #[42] })) with | true => (some (((3, ()), ()))) | false => (some (((4, ()), ())))) | false => (match eqS (GE.name a0) (Array.toList (ByteArray.data { data := #[47] })) with | true => (some (((3, ()), ()))) | false => (some (((4, ()), ())))))) | false => (match eqS (GE.name a0) (Array.toList (ByteArray.data { data := #[45] })) with | true => (some (((2, ()), ()))) | false => (match eqS (GE.name a0) (Array.toList (ByteArray.data { data := #[42] })) with | true => (match eqS (GE.name a0) (Array.toList (ByteArray.data { data := #[42] })) with | true => (some (((3, ()), ()))) | false => (some (((4, ()), ())))) | false => (match eqS (GE.name a0) (Array.toList (ByteArray.data { data := #[47] })) with | true => (some (((3, ()), ()))) | false => (some (((4, ()), ())))))))) | false => (match eqS (GE.name a0) (Array.toList (ByteArray.data { data := #[61, 61] })) with | true => (some (((1, ()), ()))) | false => (match eqS (GE.name a0) (Array.toList (ByteArray.data { data := #[43] })) with | true => (match eqS (GE.name a0) (Array.toList (ByteArray.data { data := #[43] })) with | true => (some (((2, ()), ()))) | false => (match eqS (GE.name a0) (Array.toList (ByteArray.data { data := #[42] })) with | true => (match eqS (GE.name a0) (Array.toList (ByteArray.data { data := #[42] })) with | true => (some (((3, ()), ()))) | false => (some (((4, ()), ())))) | false => (match eqS (GE.name a0) (Array.toList (ByteArray.data { data := #[47] })) with | true => (some (((3, ()), ()))) | false => (some (((4, ()), ())))))) | false => (match eqS (GE.name a0) (Array.toList (ByteArray.data { data := #[45] })) with | true => (some (((2, ()), ()))) | false => (match eqS (GE.name a0) (Array.toList (ByteArray.data { data := #[42] })) with | true => (match eqS (GE.name a0) (Array.toList (ByteArray.data { data := #[42] })) with | true => (some (((3, ()), ()))) | false => (some (((4, ()), ())))) | false => (match eqS (GE.name a0) (Array.toList (ByteArray.data { data := #[47] })) with | true => (some (((3, ()), ()))) | false => (some (((4, ()), ()))))))))))
mutual
def k77 (a0 : GE) : Option ((Bool × Unit) × Unit) := ((match ltI (GE.kind a0) 1 with | true => (some (((true, ()), ()))) | false => (some (((ltI 9 (GE.kind a0), ()), ())))) >>= fun y0 => (match y0.1.1 with | true => (some (((false, ()), ()))) | false => (match decide (w64 (GE.kind (Prod.fst (Prod.fst ((a0, ()), ()))) - 1) = (↑0 : Int)) with | true => ((some ((((↑(List.length (GE.kids a0)) : Int), ()), ()))) >>= fun y1 => ((match ltI (y1.1.1) 0 with | true => (some (((true, ()), ()))) | false => (match ltI 0 (y1.1.1) with | true => (some (((true, ()), ()))) | false => (match not (eqS (GE.name a0) (Array.toList (ByteArray.data { data := #[] }))) with | true => (some (((true, ()), ()))) | false => (some (((GE.mu a0, ()), ())))))) >>= fun y2 => (match y2.1.1 with | true => (some (((false, ()), ()))) | false => (match leI 0 (GE.num a0) with | true => (match ltI (GE.num a0) 1000000000000000000 with | true => (match leI (↑(List.length (GE.kids a0)) : Int) 30 with | true => ((k77_0 (GE.kids a0) (↑(List.length (GE.kids a0)) : Int) 0) >>= fun y3 => (match y3 with | .inl y4 => (some (((not (leI 0 (-1)), ()), ()))) | .inr y5 => (some (((not (leI 0 (y5.1.1)), ()), ()))))) | false => (some (((false, ()), ())))) | false => (some (((false, ()), ())))) | false => (some (((false, ()), ()))))))) | false => (match decide (w64 (GE.kind (Prod.fst (Prod.fst ((a0, ()), ()))) - 1) = (↑(0 + 1) : Int)) with | true => ((some ((((↑(List.length (GE.kids a0)) : Int), ()), ()))) >>= fun y6 => ((match ltI (y6.1.1) 0 with | true => (some (((true, ()), ()))) | false => (match ltI 0 (y6.1.1) with | true => (some (((true, ()), ()))) | false => (match not (eqI (GE.num a0) 0) with | true => (some (((true, ()), ()))) | false => (some (((GE.mu a0, ()), ())))))) >>= fun y7 => (match y7.1.1 with | true => (some (((false, ()), ()))) | false => ((k70 (GE.name a0)) >>= fun y8 => (match y8.1.1 with | true => (match leI (↑(List.length (GE.kids a0)) : Int) 30 with | true => ((k77_0 (GE.kids a0) (↑(List.length (GE.kids a0)) : Int) 0) >>= fun y9 => (match y9 with | .inl y10 => (some (((not (leI 0 (-1)), ()), ()))) | .inr y11 => (some (((not (leI 0 (y11.1.1)), ()), ()))))) | false => (some (((false, ()), ())))) | false => (some (((false, ()), ())))))))) | false => (match decide (w64 (GE.kind (Prod.fst (Prod.fst ((a0, ()), ()))) - 1) = (↑(0 + 1 + 1) : Int)) with | true => ((some ((((↑(List.length (GE.kids a0)) : Int), ()), ()))) >>= fun y12 => ((match ltI (y12.1.1) 1 with | true => (some (((true, ()), ()))) | false => (match ltI 1 (y12.1.1) with | true => (some (((true, ()), ()))) | false => (match not (eqS (GE.name a0) (Array.toList (ByteArray.data { data := #[] }))) with | true => (some (((true, ()), ()))) | false => (some (((GE.mu a0, ()), ())))))) >>= fun y13 => (match y13.1.1 with | true => (some (((false, ()), ()))) | false => ((k137 a0) >>= fun y14 => (match y14.1.1 with | true => (match leI 0 (GE.num a0) with | true => (match ltI (GE.num a0) 30 with | true => (match leI (↑(List.length (GE.kids a0)) : Int) 30 with | true => ((k77_0 (GE.kids a0) (↑(List.length (GE.kids a0)) : Int) 0) >>= fun y15 => (match y15 with | .inl y16 => (some (((not (leI 0 (-1)), ()), ()))) | .inr y17 => (some (((not (leI 0 (y17.1.1)), ()), ()))))) | false => (some (((false, ()), ())))) | false => (some (((false, ()), ())))) | false => (some (((false, ()), ())))) | false => (some (((false, ()), ())))))))) | false => (match decide (w64 (GE.kind (Prod.fst (Prod.fst ((a0, ()), ()))) - 1) = (↑(0 + 1 + 1 + 1) : Int)) with | true => ((some ((((↑(List.length (GE.kids a0)) : Int), ()), ()))) >>= fun y18 => ((match ltI (y18.1.1) 1 with | true => (some (((true, ()), ()))) | false => (match ltI 1 (y18.1.1) with | true => (some (((true, ()), ()))) | false => (match not (eqI (GE.num a0) 0) with | true => (some (((true, ()), ()))) | false => (match not (eqS (GE.name a0) (Array.toList (ByteArray.data { data := #[] }))) with | true => (some (((true, ()), ()))) | false => (some (((GE.mu a0, ()), ()))))))) >>= fun y19 => (match y19.1.1 with | true => (some (((false, ()), ()))) | false => ((k137 a0) >>= fun y20 => (match y20.1.1 with | true => (match leI (↑(List.length (GE.kids a0)) : Int) 30 with | true => ((k77_0 (GE.kids a0) (↑(List.length (GE.kids a0)) : Int) 0) >>= fun y21 => (match y21 with | .inl y22 => (some (((not (leI 0 (-1)), ()), ()))) | .inr y23 => (some (((not (leI 0 (y23.1.1)), ()), ()))))) | false => (some (((false, ()), ())))) | false => (some (((false, ()), ())))))))) | false => (match decide (w64 (GE.kind (Prod.fst (Prod.fst ((a0, ()), ()))) - 1) = (↑(0 + 1 + 1 + 1 + 1) : Int)) with | true => ((some ((((↑(List.length (GE.kids a0)) : Int), ()), ()))) >>= fun y24 => ((match ltI (y24.1.1) 1 with | true => (some (((true, ()), ()))) | false => (match ltI 1 (y24.1.1) with | true => (some (((true, ()), ()))) | false => (match not (eqI (GE.num a0) 0) with | true => (some (((true, ()), ()))) | false => (match not (eqS (GE.name a0) (Array.toList (ByteArray.data { data := #[] }))) with | true => (some (((true, ()), ()))) | false => (some (((false, ()), ()))))))) >>= fun y25 => (match y25.1.1 with | true => (some (((false, ()), ()))) | false => ((k137 a0) >>= fun y26 => (match y26.1.1 with | true => (match leI (↑(List.length (GE.kids a0)) : Int) 30 with | true => ((k77_0 (GE.kids a0) (↑(List.length (GE.kids a0)) : Int) 0) >>= fun y27 => (match y27 with | .inl y28 => (some (((not (leI 0 (-1)), ()), ()))) | .inr y29 => (some (((not (leI 0 (y29.1.1)), ()), ()))))) | false => (some (((false, ()), ())))) | false => (some (((false, ()), ())))))))) | false => (match decide (w64 (GE.kind (Prod.fst (Prod.fst ((a0, ()), ()))) - 1) = (↑(0 + 1 + 1 + 1 + 1 + 1) : Int)) with | true => ((some ((((↑(List.length (GE.kids a0)) : Int), ()), ()))) >>= fun y30 => ((match ltI (y30.1.1) 1 with | true => (some (((true, ()), ()))) | false => (match ltI 1 (y30.1.1) with | true => (some (((true, ()), ()))) | false => (match not (eqI (GE.num a0) 0) with | true => (some (((true, ()), ()))) | false => (match not (eqS (GE.name a0) (Array.toList (ByteArray.data { data := #[] }))) with | true => (some (((true, ()), ()))) | false => (some (((GE.mu a0, ()), ()))))))) >>= fun y31 => (match y31.1.1 with | true => (some (((false, ()), ()))) | false => ((k138 a0) >>= fun y32 => (match y32.1.1 with | true => (match leI (↑(List.length (GE.kids a0)) : Int) 30 with | true => ((k77_0 (GE.kids a0) (↑(List.length (GE.kids a0)) : Int) 0) >>= fun y33 => (match y33 with | .inl y34 => (some (((not (leI 0 (-1)), ()), ()))) | .inr y35 => (some (((not (leI 0 (y35.1.1)), ()), ()))))) | false => (some (((false, ()), ())))) | false => (some (((false, ()), ())))))))) | false => (match decide (w64 (GE.kind (Prod.fst (Prod.fst ((a0, ()), ()))) - 1) = (↑(0 + 1 + 1 + 1 + 1 + 1 + 1) : Int)) with | true => ((some ((((↑(List.length (GE.kids a0)) : Int), ()), ()))) >>= fun y36 => ((match ltI (y36.1.1) 2 with | true => (some (((true, ()), ()))) | false => (match ltI 30 (y36.1.1) with | true => (some (((true, ()), ()))) | false => (match not (eqI (GE.num a0) 0) with | true => (some (((true, ()), ()))) | false => (match not (eqS (GE.name a0) (Array.toList (ByteArray.data { data := #[] }))) with | true => (some (((true, ()), ()))) | false => (some (((GE.mu a0, ()), ()))))))) >>= fun y37 => (match y37.1.1 with | true => (some (((false, ()), ()))) | false => ((k138 a0) >>= fun y38 => (match y38.1.1 with | true => (match leI (↑(List.length (GE.kids a0)) : Int) 30 with | true => ((k77_0 (GE.kids a0) (↑(List.length (GE.kids a0)) : Int) 0) >>= fun y39 => (match y39 with | .inl y40 => (some (((not (leI 0 (-1)), ()), ()))) | .inr y41 => (some (((not (leI 0 (y41.1.1)), ()), ()))))) | false => (some (((false, ()), ())))) | false => (some (((false, ()), ())))))))) | false => (match decide (w64 (GE.kind (Prod.fst (Prod.fst ((a0, ()), ()))) - 1) = (↑(0 + 1 + 1 + 1 + 1 + 1 + 1 + 1) : Int)) with | true => ((some ((((↑(List.length (GE.kids a0)) : Int), ()), ()))) >>= fun y42 => ((match ltI (y42.1.1) 2 with | true => (some (((true, ()), ()))) | false => (match ltI 2 (y42.1.1) with | true => (some (((true, ()), ()))) | false => (match not (eqI (GE.num a0) 0) with | true => (some (((true, ()), ()))) | false => (some (((GE.mu a0, ()), ())))))) >>= fun y43 => (match y43.1.1 with | true => (some (((false, ()), ()))) | false => ((k140 a0) >>= fun y44 => (match ltI (y44.1.1) 4 with | true => (match leI (↑(List.length (GE.kids a0)) : Int) 30 with | true => ((k77_0 (GE.kids a0) (↑(List.length (GE.kids a0)) : Int) 0) >>= fun y45 => (match y45 with | .inl y46 => (some (((not (leI 0 (-1)), ()), ()))) | .inr y47 => (some (((not (leI 0 (y47.1.1)), ()), ()))))) | false => (some (((false, ()), ())))) | false => (some (((false, ()), ())))))))) | false => (match decide (w64 (GE.kind (Prod.fst (Prod.fst ((a0, ()), ()))) - 1) = (↑(0 + 1 + 1 + 1 + 1 + 1 + 1 + 1 + 1) : Int)) with | true => ((some ((((↑(List.length (GE.kids a0)) : Int), ()), ()))) >>= fun y48 => ((match ltI (y48.1.1) 0 with | true => (some (((true, ()), ()))) | false => (match ltI 30 (y48.1.1) with | true => (some (((true, ()), ()))) | false => (match not (eqI (GE.num a0) 0) with | true => (some (((true, ()), ()))) | false => (some (((GE.mu a0, ()), ())))))) >>= fun y49 => (match y49.1.1 with | true => (some (((false, ()), ()))) | false => ((k70 (GE.name a0)) >>= fun y50 => (match y50.1.1 with | true => (match leI (↑(List.length (GE.kids a0)) : Int) 30 with | true => ((k77_0 (GE.kids a0) (↑(List.length (GE.kids a0)) : Int) 0) >>= fun y51 => (match y51 with | .inl y52 => (some (((not (leI 0 (-1)), ()), ()))) | .inr y53 => (some (((not (leI 0 (y53.1.1)), ()), ()))))) | false => (some (((false, ()), ())))) | false => (some (((false, ()), ())))))))) | false => none)))))))))))
  partial_fixpoint
def k77_0 (a0 : List GE) (a1 : Int) (a2 : Int) : Option ((Unit × ((Unit × Unit) × Unit)) ⊕ ((Int × Unit) × ((Unit × Unit) × Unit))) := (match ltI a2 a1 with | true => ((idx a0 a2) >>= fun y0 => ((k77 y0) >>= fun y1 => (match not (y1.1.1) with | true => (some (Sum.inr ((a2, ()), ((), ()), ()))) | false => (k77_0 a0 a1 (w64 (a2 + 1)))))) | false => (some (Sum.inl ((), ((), ()), ()))))
  partial_fixpoint
end
mutual
def k75 (a0 : GS) : Option ((Bool × Unit) × Unit) := ((match ltI (GS.kind a0) 1 with | true => (some (((true, ()), ()))) | false => (match ltI 4 (GS.kind a0) with | true => (some (((true, ()), ()))) | false => ((k77 (GS.expr a0)) >>= fun y0 => (some (((not (y0.1.1), ()), ())))))) >>= fun y1 => (match y1.1.1 with | true => (some (((false, ()), ()))) | false => ((match not (eqB (eqI (GS.kind a0) 1) (not (eqS (GS.name a0) (Array.toList (ByteArray.data { data := #[] }))))) with | true => (some (((true, ()), ()))) | false => (match eqI (GS.kind a0) 1 with | true => ((k70 (GS.name a0)) >>= fun y2 => (some (((not (y2.1.1), ()), ())))) | false => (some (((false, ()), ()))))) >>= fun y3 => (match y3.1.1 with | true => (some (((false, ()), ()))) | false => (((k112 (GS.place a0)) >>= fun y4 => (match not (eqB (eqI (GS.kind a0) 2) (not (y4.1.1))) with | true => (some (((true, ()), ()))) | false => (match eqI (GS.kind a0) 2 with | true => ((k113 (GS.place a0)) >>= fun y5 => (match y5.1.1 with | true => ((k77 (GS.place a0)) >>= fun y6 => (some (((not (y6.1.1), ()), ())))) | false => (some (((not false, ()), ()))))) | false => (some (((false, ()), ())))))) >>= fun y7 => (match y7.1.1 with | true => (some (((false, ()), ()))) | false => ((match eqI (GS.kind a0) 1 with | true => (match ltI 0 (↑(List.length (GS.thn a0)) : Int) with | true => (some (((true, ()), ()))) | false => (match not (eqI (GS.kind a0) 3) with | true => (some (((ltI 0 (↑(List.length (GS.els a0)) : Int), ()), ()))) | false => (some (((false, ()), ()))))) | false => (match eqI (GS.kind a0) 2 with | true => (match ltI 0 (↑(List.length (GS.thn a0)) : Int) with | true => (some (((true, ()), ()))) | false => (match not (eqI (GS.kind a0) 3) with | true => (some (((ltI 0 (↑(List.length (GS.els a0)) : Int), ()), ()))) | false => (some (((false, ()), ()))))) | false => (match not (eqI (GS.kind a0) 3) with | true => (some (((ltI 0 (↑(List.length (GS.els a0)) : Int), ()), ()))) | false => (some (((false, ()), ())))))) >>= fun y8 => (match y8.1.1 with | true => (some (((false, ()), ()))) | false => ((match leI (↑(List.length (GS.thn a0)) : Int) 30 with | true => ((k75_0 (GS.thn a0) (↑(List.length (GS.thn a0)) : Int) 0) >>= fun y9 => (match y9 with | .inl y10 => (some (((not (leI 0 (-1)), ()), ()))) | .inr y11 => (some (((not (leI 0 (y11.1.1)), ()), ()))))) | false => (some (((false, ()), ())))) >>= fun y12 => (match y12.1.1 with | true => (match leI (↑(List.length (GS.els a0)) : Int) 30 with | true => ((k75_0 (GS.els a0) (↑(List.length (GS.els a0)) : Int) 0) >>= fun y13 => (match y13 with | .inl y14 => (some (((not (leI 0 (-1)), ()), ()))) | .inr y15 => (some (((not (leI 0 (y15.1.1)), ()), ()))))) | false => (some (((false, ()), ())))) | false => (some (((false, ()), ())))))))))))))
  partial_fixpoint
def k75_0 (a0 : List GS) (a1 : Int) (a2 : Int) : Option ((Unit × ((Unit × Unit) × Unit)) ⊕ ((Int × Unit) × ((Unit × Unit) × Unit))) := (match ltI a2 a1 with | true => ((idx a0 a2) >>= fun y0 => ((k75 y0) >>= fun y1 => (match not (y1.1.1) with | true => (some (Sum.inr ((a2, ()), ((), ()), ()))) | false => (k75_0 a0 a1 (w64 (a2 + 1)))))) | false => (some (Sum.inl ((), ((), ()), ()))))
  partial_fixpoint
end
def k38_2 (a0 : List GS) (a1 : Int) (a2 : Int) : Option ((Unit × ((Unit × Unit) × Unit)) ⊕ ((Int × Unit) × ((Unit × Unit) × Unit))) := (match ltI a2 a1 with | true => ((idx a0 a2) >>= fun y0 => ((k75 y0) >>= fun y1 => (match not (y1.1.1) with | true => (some (Sum.inr ((a2, ()), ((), ()), ()))) | false => (k38_2 (nf a0) (nf a1) (w64 (a2 + 1)))))) | false => (some (Sum.inl ((), ((), ()), ()))))
  partial_fixpoint
mutual
def k76 (a0 : List GS) : Option ((Int × Unit) × Unit) := ((k76_0 0 a0 (↑(List.length a0) : Int) 0) >>= fun y0 => (some (((y0.1.1, ()), ()))))
  partial_fixpoint
def k76_0 (a0 : Int) (a1 : List GS) (a2 : Int) (a3 : Int) : Option ((Int × Unit) × Unit) := (match ltI a3 a2 with | true => ((idx a1 a3) >>= fun y0 => (((k76 (GS.thn y0)) >>= fun y1 => (some (y1.1.1))) >>= fun y2 => ((k76 (GS.els y0)) >>= fun y3 => (match eqI (GS.kind y0) 4 with | true => (k76_0 (imax a0 (w64 (imax y2 (y3.1.1) + 1))) a1 a2 (w64 (a3 + 1))) | false => (k76_0 (imax a0 (imax y2 (y3.1.1))) a1 a2 (w64 (a3 + 1))))))) | false => (some (((a0, ()), ()))))
  partial_fixpoint
end
def k38 (a0 : GF) : Option ((Bool × Unit) × Unit) := ((k70 (GF.name a0)) >>= fun y0 => (match y0.1.1 with | true => ((match leI (↑(List.length (GF.lives a0)) : Int) 30 with | true => ((k38_0 (GF.lives a0) (↑(List.length (GF.lives a0)) : Int) 0) >>= fun y1 => (match y1 with | .inl y2 => (some (((not (leI 0 (-1)), ()), ()))) | .inr y3 => (some (((not (leI 0 (y3.1.1)), ()), ()))))) | false => (some (((false, ()), ())))) >>= fun y4 => (match y4.1.1 with | true => ((match leI (↑(List.length (GF.params a0)) : Int) 30 with | true => ((k38_1 (GF.params a0) (↑(List.length (GF.params a0)) : Int) 0) >>= fun y5 => (match y5 with | .inl y6 => (some (((not (leI 0 (-1)), ()), ()))) | .inr y7 => (some (((not (leI 0 (y7.1.1)), ()), ()))))) | false => (some (((false, ()), ())))) >>= fun y8 => (match y8.1.1 with | true => ((k71 (GF.gives a0)) >>= fun y9 => (match y9.1.1 with | true => ((match leI (↑(List.length (GF.outs a0)) : Int) 30 with | true => ((k38_0 (GF.outs a0) (↑(List.length (GF.outs a0)) : Int) 0) >>= fun y10 => (match y10 with | .inl y11 => (some (((not (leI 0 (-1)), ()), ()))) | .inr y12 => (some (((not (leI 0 (y12.1.1)), ()), ()))))) | false => (some (((false, ()), ())))) >>= fun y13 => (match y13.1.1 with | true => (match eqI (Int.tmod (↑(List.length (GF.outs a0)) : Int) 2) 0 with | true => ((match leI (↑(List.length (GF.body a0)) : Int) 30 with | true => ((k38_2 (GF.body a0) (↑(List.length (GF.body a0)) : Int) 0) >>= fun y14 => (match y14 with | .inl y15 => (some (((not (leI 0 (-1)), ()), ()))) | .inr y16 => (some (((not (leI 0 (y16.1.1)), ()), ()))))) | false => (some (((false, ()), ())))) >>= fun y17 => (match y17.1.1 with | true => ((k76 (GF.body a0)) >>= fun y18 => (match leI (y18.1.1) 3 with | true => ((k77 (GF.value a0)) >>= fun y19 => (some (((y19.1.1, ()), ())))) | false => (some (((false, ()), ()))))) | false => (some (((false, ()), ()))))) | false => (some (((false, ()), ())))) | false => (some (((false, ()), ()))))) | false => (some (((false, ()), ()))))) | false => (some (((false, ()), ()))))) | false => (some (((false, ()), ()))))) | false => (some (((false, ()), ())))))
def k22_0 (a0 : List GF) (a1 : Int) (a2 : Int) : Option ((Unit × ((Unit × Unit) × Unit)) ⊕ ((Int × Unit) × ((Unit × Unit) × Unit))) := (match ltI a2 a1 with | true => ((idx a0 a2) >>= fun y0 => ((k38 y0) >>= fun y1 => (match not (y1.1.1) with | true => (some (Sum.inr ((a2, ()), ((), ()), ()))) | false => (k22_0 (nf a0) (nf a1) (w64 (a2 + 1)))))) | false => (some (Sum.inl ((), ((), ()), ()))))
  partial_fixpoint
def k127 (a0 : GE) (a1 : Int) : Option ((Bool × Unit) × Unit) := (((k140 a0) >>= fun y0 => (some (y0.1.1))) >>= fun y1 => ((idx (GE.kids a0) a1) >>= fun y2 => ((k140 y2) >>= fun y3 => (match eqI y1 1 with | true => (match eqI (y3.1.1) 1 with | true => (some (((true, ()), ()))) | false => (match ltI (y3.1.1) (w64 (y1 + a1)) with | true => (some (((ltI 1 y1, ()), ()))) | false => (some (((false, ()), ()))))) | false => (match ltI (y3.1.1) (w64 (y1 + a1)) with | true => (some (((ltI 1 y1, ()), ()))) | false => (some (((false, ()), ()))))))))
mutual
def k102 (a0 : GE) : Option ((Int × Unit) × Unit) := (match ltI (GE.kind a0) 3 with | true => (some (((0, ()), ()))) | false => (match ltI 9 (GE.kind a0) with | true => (some (((0, ()), ()))) | false => ((k102_0 a0 0 (GE.kids a0) (↑(List.length (GE.kids a0)) : Int) 0) >>= fun y0 => (some (((w64 (y0.1.1 + 1), ()), ()))))))
  partial_fixpoint
def k102_0 (a0 : GE) (a1 : Int) (a2 : List GE) (a3 : Int) (a4 : Int) : Option ((Int × Unit) × Unit) := (match ltI a4 a3 with | true => ((idx a2 a4) >>= fun y0 => ((k102 y0) >>= fun y1 => ((match eqI (GE.kind a0) 8 with | true => (match ltI a4 2 with | true => ((k127 a0 a4) >>= fun y2 => (match y2.1.1 with | true => (some (((w64 (y1.1.1 + 1), ()), ()))) | false => (some (((y1.1.1, ()), ()))))) | false => (some (((y1.1.1, ()), ())))) | false => (some (((y1.1.1, ()), ())))) >>= fun y3 => (k102_0 a0 (imax a1 (y3.1.1)) a2 a3 (w64 (a4 + 1)))))) | false => (some (((a1, ()), ()))))
  partial_fixpoint
end
mutual
def k99 (a0 : GT) : Option ((Int × Unit) × Unit) := (match ltI (GT.kind a0) 2 with | true => (some (((0, ()), ()))) | false => (match ltI 4 (GT.kind a0) with | true => (some (((0, ()), ()))) | false => ((k99_0 0 (GT.kids a0) (↑(List.length (GT.kids a0)) : Int) 0) >>= fun y0 => (some (((w64 (1 + y0.1.1), ()), ()))))))
  partial_fixpoint
def k99_0 (a0 : Int) (a1 : List GT) (a2 : Int) (a3 : Int) : Option ((Int × Unit) × Unit) := (match ltI a3 a2 with | true => ((idx a1 a3) >>= fun y0 => ((k99 y0) >>= fun y1 => (k99_0 (imax a0 (y1.1.1)) a1 a2 (w64 (a3 + 1))))) | false => (some (((a0, ()), ()))))
  partial_fixpoint
end
def k66_0 (a0 : Int) (a1 : List GP) (a2 : Int) (a3 : Int) : Option ((Int × Unit) × Unit) := (match ltI a3 a2 with | true => ((idx a1 a3) >>= fun y0 => ((k99 (GP.ty y0)) >>= fun y1 => (k66_0 (imax a0 (y1.1.1)) (nf a1) (nf a2) (w64 (a3 + 1))))) | false => (some (((a0, ()), ()))))
  partial_fixpoint
mutual
def k101 (a0 : GS) : Option ((Int × Unit) × Unit) := (((k102 (GS.place a0)) >>= fun y0 => (some (y0.1.1))) >>= fun y1 => ((k102 (GS.expr a0)) >>= fun y2 => (((k101_0 0 (GS.thn a0) (↑(List.length (GS.thn a0)) : Int) 0) >>= fun y3 => (some (y3.1.1))) >>= fun y4 => (((k101_0 0 (GS.els a0) (↑(List.length (GS.els a0)) : Int) 0) >>= fun y5 => (some (y5.1.1))) >>= fun y6 => (some (((w64 (1 + imax (imax (imax y1 (y2.1.1)) y4) y6), ()), ())))))))
  partial_fixpoint
def k101_0 (a0 : Int) (a1 : List GS) (a2 : Int) (a3 : Int) : Option ((Int × Unit) × Unit) := (match ltI a3 a2 with | true => ((idx a1 a3) >>= fun y0 => ((k101 y0) >>= fun y1 => (k101_0 (imax a0 (y1.1.1)) a1 a2 (w64 (a3 + 1))))) | false => (some (((a0, ()), ()))))
  partial_fixpoint
end
def k66_1 (a0 : Int) (a1 : List GS) (a2 : Int) (a3 : Int) : Option ((Int × Unit) × Unit) := (match ltI a3 a2 with | true => ((idx a1 a3) >>= fun y0 => ((k101 y0) >>= fun y1 => (k66_1 (imax a0 (y1.1.1)) (nf a1) (nf a2) (w64 (a3 + 1))))) | false => (some (((a0, ()), ()))))
  partial_fixpoint
def k66 (a0 : GF) : Option ((Int × Unit) × Unit) := ((k66_0 0 (GF.params a0) (↑(List.length (GF.params a0)) : Int) 0) >>= fun y0 => (((k99 (GF.gives a0)) >>= fun y1 => (some (y1.1.1))) >>= fun y2 => (((k66_1 0 (GF.body a0) (↑(List.length (GF.body a0)) : Int) 0) >>= fun y3 => (some (y3.1.1))) >>= fun y4 => (((k102 (GF.value a0)) >>= fun y5 => (some (y5.1.1))) >>= fun y6 => (some (((imax (imax (imax (y0.1.1) y2) y4) y6, ()), ())))))))
def k36_0 (a0 : Int) (a1 : List GF) (a2 : Int) (a3 : Int) : Option ((Int × Unit) × Unit) := (match ltI a3 a2 with | true => ((idx a1 a3) >>= fun y0 => ((k66 y0) >>= fun y1 => (k36_0 (imax a0 (y1.1.1)) (nf a1) (nf a2) (w64 (a3 + 1))))) | false => (some (((a0, ()), ()))))
  partial_fixpoint
def k36 (a0 : List GF) : Option ((Int × Unit) × Unit) := ((k36_0 0 a0 (↑(List.length a0) : Int) 0) >>= fun y0 => (some (((y0.1.1, ()), ()))))
def k22 (a0 : List GF) : Option ((Bool × Unit) × Unit) := ((k36 a0) >>= fun y0 => (match leI (y0.1.1) 40 with | true => (match leI (↑(List.length a0) : Int) 30 with | true => ((k22_0 a0 (↑(List.length a0) : Int) 0) >>= fun y1 => (match y1 with | .inl y2 => (some (((not (leI 0 (-1)), ()), ()))) | .inr y3 => (some (((not (leI 0 (y3.1.1)), ()), ()))))) | false => (some (((false, ()), ())))) | false => (some (((false, ()), ())))))
def k10 (a0 : List GF) : Option ((GErr × Unit) × Unit) := ((k22 a0) >>= fun y0 => (match not (y0.1.1) with | true => (some (((GErr.code 2, ()), ()))) | false => ((k10_0 a0 (↑(List.length a0) : Int) 0 []) >>= fun y1 => (match y1 with | .inl y2 => ((match eqI (↑(List.length a0) : Int) 0 with | true => (some (((true, ()), ()))) | false => ((idx a0 (w64 ((↑(List.length a0) : Int) - 1))) >>= fun y3 => (some (((not (eqS (GF.name y3) (Array.toList (ByteArray.data { data := #[109, 97, 105, 110] }))), ()), ()))))) >>= fun y4 => (match y4.1.1 with | true => (some (((GErr.fault (↑(List.length a0) : Int) (GErr.code 4), ()), ()))) | false => ((idx a0 (w64 ((↑(List.length a0) : Int) - 1))) >>= fun y5 => (match ltI 0 (w64 ((↑(List.length (GF.lives y5)) : Int) + (↑(List.length (GF.params y5)) : Int))) with | true => (some (((GErr.fault (↑(List.length a0) : Int) (GErr.code 5), ()), ()))) | false => (match not (eqI (GT.kind (GF.gives y5)) 1) with | true => (some (((GErr.fault (↑(List.length a0) : Int) (GErr.code 5), ()), ()))) | false => (some (((GErr.nil, ()), ())))))))) | .inr y6 => (some (((y6.1.1, ()), ())))))))
end Go.Lb.R
end
section
set_option maxRecDepth 100000
namespace Go.Lb.R
open Go.Lb
def k9 (a0 : GErr) (a1 : Int) (a2 : Int) : Option ((Bool × Unit) × Unit) := (match ltI a2 0 with | true => ((kh_code a0) >>= fun y0 => (some (((eqI (y0.1.1) a1, ()), ())))) | false => ((kh_fault a0 a1 a2) >>= fun y1 => (some (((y1.1.1, ()), ())))))
def k3 (a0 : List GF) : Option ((Bool × Unit) × Unit) := ((kh_awake) >>= fun y0 => (match not (y0.1.1) with | true => (some (((false, ()), ()))) | false => ((k7 a0) >>= fun y1 => (match ltI 400 (y1.1.1) with | true => (some (((true, ()), ()))) | false => ((k8 a0) >>= fun y2 => ((k10 a0) >>= fun y3 => ((k9 (y3.1.1) (Prod.fst (y2.1.1)) (Prod.fst (Prod.snd (y2.1.1)))) >>= fun y4 => (some (((y4.1.1, ()), ()))))))))))
def k4 (a0 : GT) : Option ((Bool × Unit) × Unit) := ((kh_awake) >>= fun y0 => (match not (y0.1.1) with | true => (some (((false, ()), ()))) | false => ((k7 [{ name := [], lives := [], params := [], gives := a0, outs := [], body := [], value := GE.mk 0 0 [] false [] }]) >>= fun y1 => (match ltI 400 (y1.1.1) with | true => (some (((true, ()), ()))) | false => (((k11 a0) >>= fun y2 => (some (y2.1.1))) >>= fun y3 => ((k12 a0) >>= fun y4 => (some (((eqB y3 (y4.1.1), ()), ())))))))))
end Go.Lb.R
end
section
set_option maxRecDepth 100000
set_option maxHeartbeats 0
namespace Go.Lb.R
open Go.Proofs
open Go.Lb
def conL : List (Nat × Con) := [(130, fieldsCon), (166, indexByteCon), (167, validRuneCon), (41, cloneCon), (80, innerCon), (20, codeCon), (21, faultCon)]
noncomputable def C0 : XC := mkC (lkCon conL) (fun _ => none)
theorem conL_ok (B : Nat) : AllC (X B) C0 conL := ⟨fields_ok B _ _, indexByte_ok B _ _, validRune_ok B _ _, clone_ok B _ _, inner_ok B _ _, code_ok B _ _, fault_ok B _ _, trivial⟩
def awakeCon : Con := pureCon [] .bool fun _ => some true
noncomputable def fi6 : FI := (lkF XFl 6).getD ⟨0, [], .skip, ro0⟩
theorem fi6_eq : C0.fi 6 = some fi6 := by kernel_rfl
theorem awake_run : xfunc C0 (xcall C0 100) 6 fi6 .nil awakeCon ((), ()) = some ((true, ()), ()) := by kernel_rfl
theorem awake_ok (B : Nat) (con : FuncId → Option Con) (lp : Nat → Option (FuncId × List Nat × Con)) : FnOKs (X B) (mkC con lp) 6 awakeCon := fun x y hx => by
  have hx : some ((true, ()), ()) = some y := hx
  injection hx with hx
  subst hx
  exact fn_noloop (C := C0) (hX B _ _) (hF B _ _) (conL_ok B) rfl rfl 100 fi6_eq awake_run
end Go.Lb.R
end
section
namespace Go.Lb.R
open Go.Lb
noncomputable abbrev fX (n : Nat) : FI := (lkF XFl n).getD ⟨0, [], .skip, ro0⟩
noncomputable abbrev bX (n : Nat) (p : List Nat) : Code := match cAt (fX n).body p with | .loop b => b | _ => .skip
structure IsF (n : Nat) : Prop where
  e : lkF XFl n = some (fX n)
structure IsL (f : Nat) (p : List Nat) : Prop where
  hf : IsF f
  hb : cAt (fX f).body p = .loop (bX f p)
theorem cN {X : Cx} {C : XC} : AllC X C [] := trivial
theorem cC {X : Cx} {C : XC} {j : Nat} {v : Con} {r : List (Nat × Con)} (h : FnOKs X C j v) (t : AllC X C r) : AllC X C ((j, v) :: r) := ⟨h, t⟩
theorem lN {X : Cx} {C : XC} : AllLp X C [] := trivial
theorem lC (i : Nat) {B : Nat} {f : Nat} {p : List Nat} (w : IsL f p) {L : Con} {r : List (Nat × FuncId × List Nat × Con)} (h : LpOKs (X B) Ce (fX f).n (bX f p) L) (t : AllLp (X B) Ce r) : AllLp (X B) Ce ((i, f, p, L) :: r) := ⟨⟨_, _, w.hf.e, w.hb, h⟩, t⟩
theorem allC_any {B : Nat} {con : FuncId → Option Con} {lp : Nat → Option (FuncId × List Nat × Con)} : ∀ {l : List (Nat × Con)}, AllC (X B) Ce l → AllC (X B) (mkC con lp) l
  | [], _ => trivial
  | (_, _) :: _, h => ⟨h.1, allC_any h.2⟩
theorem allLp_any {B : Nat} {con : FuncId → Option Con} {lp : Nat → Option (FuncId × List Nat × Con)} : ∀ {l : List (Nat × FuncId × List Nat × Con)}, AllLp (X B) Ce l → AllLp (X B) (mkC con lp) l
  | [], _ => trivial
  | (_, _, _, _) :: _, h => ⟨h.1, allLp_any h.2⟩
theorem gf {B : Nat} {cl : List (Nat × Con)} {ll : List (Nat × FuncId × List Nat × Con)} (hcl : AllC (X B) Ce cl) (hll : AllLp (X B) Ce ll) {f : Nat} (w : IsF f) (ct : Cert) {L : Con} {x : DenF L.f} {y : DenA L.al} (hx : xfunc (mkC (lkCon cl) (lkLp ll)) (xcall (mkC (lkCon cl) (lkLp ll)) 60) f (fX f) ct L x = some y) : FnOK1 (X B) Ce f L x y :=
  gfun (C := mkC (lkCon cl) (lkLp ll)) (hX B _ _) (hF B _ _) (allC_any hcl) (allLp_any hll) rfl rfl 60 w.e hx
theorem gl {B : Nat} {cl : List (Nat × Con)} {ll : List (Nat × FuncId × List Nat × Con)} (hcl : AllC (X B) Ce cl) (hll : AllLp (X B) Ce ll) {f : Nat} {p : List Nat} (w : IsL f p) (ct : Cert) (L : Con) (hL : LpOKs (X B) Ce (fX f).n (bX f p) L) {x : DenF L.f} {y : DenA L.al} (hx : xloop (mkC (lkCon cl) (lkLp ll)) (xcall (mkC (lkCon cl) (lkLp ll)) 60) (fX f).n (fX f).ro f p (bX f p) ct L x = some y) : LoopOK1 (X B) Ce (fX f).n (bX f p) L x y :=
  gloop (C := mkC (lkCon cl) (lkLp ll)) (hX B _ _) (hF B _ _) (allC_any hcl) (allLp_any hll) rfl rfl 60 w.hf.e w.hb hL hx
end Go.Lb.R
end
section
set_option maxRecDepth 1000000
set_option maxHeartbeats 0
namespace Go.Lb.R
open Go.Lb
open Go.Proofs
theorem wF7 : IsF 7 := ⟨by kernel_rfl⟩
theorem wF8 : IsF 8 := ⟨by kernel_rfl⟩
theorem wF12 : IsF 12 := ⟨by kernel_rfl⟩
theorem wF13 : IsF 13 := ⟨by kernel_rfl⟩
theorem wF15 : IsF 15 := ⟨by kernel_rfl⟩
theorem wF16 : IsF 16 := ⟨by kernel_rfl⟩
theorem wF17 : IsF 17 := ⟨by kernel_rfl⟩
theorem wF18 : IsF 18 := ⟨by kernel_rfl⟩
theorem wF19 : IsF 19 := ⟨by kernel_rfl⟩
theorem wF27 : IsF 27 := ⟨by kernel_rfl⟩
theorem wF29 : IsF 29 := ⟨by kernel_rfl⟩
theorem wF30 : IsF 30 := ⟨by kernel_rfl⟩
theorem wF31 : IsF 31 := ⟨by kernel_rfl⟩
theorem wF32 : IsF 32 := ⟨by kernel_rfl⟩
theorem wF33 : IsF 33 := ⟨by kernel_rfl⟩
theorem wF34 : IsF 34 := ⟨by kernel_rfl⟩
theorem wF51 : IsF 51 := ⟨by kernel_rfl⟩
theorem wF52 : IsF 52 := ⟨by kernel_rfl⟩
theorem wF53 : IsF 53 := ⟨by kernel_rfl⟩
theorem wF54 : IsF 54 := ⟨by kernel_rfl⟩
theorem wF55 : IsF 55 := ⟨by kernel_rfl⟩
theorem wF56 : IsF 56 := ⟨by kernel_rfl⟩
theorem wF57 : IsF 57 := ⟨by kernel_rfl⟩
theorem wF58 : IsF 58 := ⟨by kernel_rfl⟩
theorem wF59 : IsF 59 := ⟨by kernel_rfl⟩
theorem wF60 : IsF 60 := ⟨by kernel_rfl⟩
theorem wF89 : IsF 89 := ⟨by kernel_rfl⟩
theorem wF90 : IsF 90 := ⟨by kernel_rfl⟩
theorem wF91 : IsF 91 := ⟨by kernel_rfl⟩
theorem wF92 : IsF 92 := ⟨by kernel_rfl⟩
theorem wF93 : IsF 93 := ⟨by kernel_rfl⟩
theorem wF117 : IsF 117 := ⟨by kernel_rfl⟩
theorem wF118 : IsF 118 := ⟨by kernel_rfl⟩
theorem wF119 : IsF 119 := ⟨by kernel_rfl⟩
theorem wF125 : IsF 125 := ⟨by kernel_rfl⟩
def con7 (k : (List GF) → Option ((Int × Unit) × Unit)) : Con := ⟨⟨[(0, .sl .fn)], [], []⟩, [(.ret, ⟨[(1000, .int .i64)], [], []⟩)], fun x => k x.1.1⟩
abbrev P7 (B : Nat) := FnOKs (X B) Ce 7
abbrev Q7 (B : Nat) := FnOK1 (X B) Ce 7 (con7 (fun _ => none))
def lp700 (k : Int → Int → GF → Option ((Int × Unit) × (GF × Unit))) : Con := ⟨⟨[(3, .int .i64), (5, .ptr 0 0), (6, .int .i64)], [(0, .cells 42 (.n .fn))], []⟩, [(.exit 2, ⟨[(3, .int .i64)], [(0, .cells 42 (.n .fn))], []⟩)], fun x => k x.1.1 x.1.2.2.1 x.2.1⟩
theorem vL700 : IsL 7 [0, 1, 0, 1, 1, 0, 0, 1, 0, 0, 1, 0, 1, 1] := ⟨wF7, by kernel_rfl⟩
abbrev P700 (B : Nat) := LpOKs (X B) Ce (fX 7).n (bX 7 [0, 1, 0, 1, 1, 0, 0, 1, 0, 0, 1, 0, 1, 1])
abbrev Q700 (B : Nat) := LoopOK1 (X B) Ce (fX 7).n (bX 7 [0, 1, 0, 1, 1, 0, 0, 1, 0, 0, 1, 0, 1, 1]) (lp700 (fun _ _ _ => none))
def lp701 (k : Int → Int → GF → Option ((Int × Unit) × (GF × Unit))) : Con := ⟨⟨[(3, .int .i64), (5, .ptr 0 0), (7, .int .i64)], [(0, .cells 42 (.n .fn))], []⟩, [(.exit 4, ⟨[(3, .int .i64)], [(0, .cells 42 (.n .fn))], []⟩)], fun x => k x.1.1 x.1.2.2.1 x.2.1⟩
theorem vL701 : IsL 7 [0, 1, 0, 1, 1, 1, 0, 0, 1, 0, 0, 1, 0, 1, 1] := ⟨wF7, by kernel_rfl⟩
abbrev P701 (B : Nat) := LpOKs (X B) Ce (fX 7).n (bX 7 [0, 1, 0, 1, 1, 1, 0, 0, 1, 0, 0, 1, 0, 1, 1])
abbrev Q701 (B : Nat) := LoopOK1 (X B) Ce (fX 7).n (bX 7 [0, 1, 0, 1, 1, 1, 0, 0, 1, 0, 0, 1, 0, 1, 1]) (lp701 (fun _ _ _ => none))
def lp702 (k : Int → Int → GF → Option ((Int × Unit) × (GF × Unit))) : Con := ⟨⟨[(3, .int .i64), (5, .ptr 0 0), (8, .int .i64)], [(0, .cells 42 (.n .fn))], []⟩, [(.exit 6, ⟨[(3, .int .i64)], [(0, .cells 42 (.n .fn))], []⟩)], fun x => k x.1.1 x.1.2.2.1 x.2.1⟩
theorem vL702 : IsL 7 [0, 1, 1, 1, 1, 1, 0, 0, 1, 0, 0, 1, 0, 1, 1] := ⟨wF7, by kernel_rfl⟩
abbrev P702 (B : Nat) := LpOKs (X B) Ce (fX 7).n (bX 7 [0, 1, 1, 1, 1, 1, 0, 0, 1, 0, 0, 1, 0, 1, 1])
abbrev Q702 (B : Nat) := LoopOK1 (X B) Ce (fX 7).n (bX 7 [0, 1, 1, 1, 1, 1, 0, 0, 1, 0, 0, 1, 0, 1, 1]) (lp702 (fun _ _ _ => none))
def lp703 (k : (List GF) → Int → Int → Option ((Int × Unit) × Unit)) : Con := ⟨⟨[(0, .sl .fn), (3, .int .i64), (4, .int .i64)], [], []⟩, [(.exit 0, ⟨[(3, .int .i64)], [], []⟩)], fun x => k x.1.1 x.1.2.1 x.1.2.2.1⟩
theorem vL703 : IsL 7 [0, 1, 0, 1, 1] := ⟨wF7, by kernel_rfl⟩
abbrev P703 (B : Nat) := LpOKs (X B) Ce (fX 7).n (bX 7 [0, 1, 0, 1, 1])
abbrev Q703 (B : Nat) := LoopOK1 (X B) Ce (fX 7).n (bX 7 [0, 1, 0, 1, 1]) (lp703 (fun _ _ _ => none))
def con8 (k : (List GF) → Option (((Int × (Int × Unit)) × Unit) × Unit)) : Con := ⟨⟨[(0, .sl .fn)], [], []⟩, [(.ret, ⟨[(1000, .tuple [.int .i64, .int .i64])], [], []⟩)], fun x => k x.1.1⟩
abbrev P8 (B : Nat) := FnOKs (X B) Ce 8
abbrev Q8 (B : Nat) := FnOK1 (X B) Ce 8 (con8 (fun _ => none))
def lp800 (k : (List GF) → Int → Option ((Unit × Unit) ⊕ ((Int × (Int × Unit)) × Unit))) : Con := ⟨⟨[(0, .sl .fn), (4, .int .i64)], [], []⟩, [(.exit 0, ⟨[], [], []⟩), (.ret, ⟨[(2, .int .i64), (3, .int .i64)], [], []⟩)], fun x => k x.1.1 x.1.2.1⟩
theorem vL800 : IsL 8 [0, 1, 0, 1, 1] := ⟨wF8, by kernel_rfl⟩
abbrev P800 (B : Nat) := LpOKs (X B) Ce (fX 8).n (bX 8 [0, 1, 0, 1, 1])
abbrev Q800 (B : Nat) := LoopOK1 (X B) Ce (fX 8).n (bX 8 [0, 1, 0, 1, 1]) (lp800 (fun _ _ => none))
def con12 (k : GT → Option ((Bool × Unit) × Unit)) : Con := ⟨⟨[(0, .n .ty)], [], []⟩, [(.ret, ⟨[(1000, .bool)], [], []⟩)], fun x => k x.1.1⟩
abbrev P12 (B : Nat) := FnOKs (X B) Ce 12
abbrev Q12 (B : Nat) := FnOK1 (X B) Ce 12 (con12 (fun _ => none))
def lp1200 (k : GT → Int → Option ((Unit × Unit) ⊕ ((Bool × Unit) × Unit))) : Con := ⟨⟨[(1, .ro (.n .ty)), (3, .int .i64)], [], []⟩, [(.exit 0, ⟨[], [], []⟩), (.ret, ⟨[(2, .bool)], [], []⟩)], fun x => k x.1.1 x.1.2.1⟩
theorem vL1200 : IsL 12 [0, 1, 0, 1] := ⟨wF12, by kernel_rfl⟩
abbrev P1200 (B : Nat) := LpOKs (X B) Ce (fX 12).n (bX 12 [0, 1, 0, 1])
abbrev Q1200 (B : Nat) := LoopOK1 (X B) Ce (fX 12).n (bX 12 [0, 1, 0, 1]) (lp1200 (fun _ _ => none))
def con13 (k : (List GF) → Str → Option ((Int × Unit) × Unit)) : Con := ⟨⟨[(0, .sl .fn), (1, .str)], [], []⟩, [(.ret, ⟨[(1000, .int .i64)], [], []⟩)], fun x => k x.1.1 x.1.2.1⟩
abbrev P13 (B : Nat) := FnOKs (X B) Ce 13
abbrev Q13 (B : Nat) := FnOK1 (X B) Ce 13 (con13 (fun _ _ => none))
def lp1300 (k : (List GF) → Str → Int → Option ((Unit × Unit) ⊕ ((Int × Unit) × Unit))) : Con := ⟨⟨[(0, .sl .fn), (1, .str), (5, .int .i64)], [], []⟩, [(.exit 0, ⟨[], [], []⟩), (.ret, ⟨[(4, .int .i64)], [], []⟩)], fun x => k x.1.1 x.1.2.1 x.1.2.2.1⟩
theorem vL1300 : IsL 13 [0, 1, 0, 1] := ⟨wF13, by kernel_rfl⟩
abbrev P1300 (B : Nat) := LpOKs (X B) Ce (fX 13).n (bX 13 [0, 1, 0, 1])
abbrev Q1300 (B : Nat) := LoopOK1 (X B) Ce (fX 13).n (bX 13 [0, 1, 0, 1]) (lp1300 (fun _ _ _ => none))
def con15 (k : GT → Option ((Int × Unit) × Unit)) : Con := ⟨⟨[(0, .n .ty)], [], []⟩, [(.ret, ⟨[(1000, .int .i64)], [], []⟩)], fun x => k x.1.1⟩
abbrev P15 (B : Nat) := FnOKs (X B) Ce 15
abbrev Q15 (B : Nat) := FnOK1 (X B) Ce 15 (con15 (fun _ => none))
def lp1500 (k : GT → Int → Int → Option ((Int × Unit) × Unit)) : Con := ⟨⟨[(1, .ro (.n .ty)), (3, .int .i64), (4, .int .i64)], [], []⟩, [(.exit 0, ⟨[(3, .int .i64)], [], []⟩)], fun x => k x.1.1 x.1.2.1 x.1.2.2.1⟩
theorem vL1500 : IsL 15 [0, 1, 0, 1, 1] := ⟨wF15, by kernel_rfl⟩
abbrev P1500 (B : Nat) := LpOKs (X B) Ce (fX 15).n (bX 15 [0, 1, 0, 1, 1])
abbrev Q1500 (B : Nat) := LoopOK1 (X B) Ce (fX 15).n (bX 15 [0, 1, 0, 1, 1]) (lp1500 (fun _ _ _ => none))
def con16 (k : (List GS) → Option ((Int × Unit) × Unit)) : Con := ⟨⟨[(0, .sl .st)], [], []⟩, [(.ret, ⟨[(1000, .int .i64)], [], []⟩)], fun x => k x.1.1⟩
abbrev P16 (B : Nat) := FnOKs (X B) Ce 16
abbrev Q16 (B : Nat) := FnOK1 (X B) Ce 16 (con16 (fun _ => none))
def lp1600 (k : (List GS) → Int → Int → Option ((Int × Unit) × Unit)) : Con := ⟨⟨[(0, .sl .st), (3, .int .i64), (4, .int .i64)], [], []⟩, [(.exit 0, ⟨[(3, .int .i64)], [], []⟩)], fun x => k x.1.1 x.1.2.1 x.1.2.2.1⟩
theorem vL1600 : IsL 16 [0, 1, 0, 1, 1] := ⟨wF16, by kernel_rfl⟩
abbrev P1600 (B : Nat) := LpOKs (X B) Ce (fX 16).n (bX 16 [0, 1, 0, 1, 1])
abbrev Q1600 (B : Nat) := LoopOK1 (X B) Ce (fX 16).n (bX 16 [0, 1, 0, 1, 1]) (lp1600 (fun _ _ _ => none))
def con17 (k : GE → Option ((Int × Unit) × Unit)) : Con := ⟨⟨[(0, .n .ex)], [], []⟩, [(.ret, ⟨[(1000, .int .i64)], [], []⟩)], fun x => k x.1.1⟩
abbrev P17 (B : Nat) := FnOKs (X B) Ce 17
abbrev Q17 (B : Nat) := FnOK1 (X B) Ce 17 (con17 (fun _ => none))
def lp1700 (k : GE → Int → Int → Option ((Int × Unit) × Unit)) : Con := ⟨⟨[(1, .ro (.n .ex)), (3, .int .i64), (4, .int .i64)], [], []⟩, [(.exit 0, ⟨[(3, .int .i64)], [], []⟩)], fun x => k x.1.1 x.1.2.1 x.1.2.2.1⟩
theorem vL1700 : IsL 17 [0, 1, 0, 1, 1] := ⟨wF17, by kernel_rfl⟩
abbrev P1700 (B : Nat) := LpOKs (X B) Ce (fX 17).n (bX 17 [0, 1, 0, 1, 1])
abbrev Q1700 (B : Nat) := LoopOK1 (X B) Ce (fX 17).n (bX 17 [0, 1, 0, 1, 1]) (lp1700 (fun _ _ _ => none))
def con18 (k : (List GF) → Option ((Bool × Unit) × Unit)) : Con := ⟨⟨[(0, .sl .fn)], [], []⟩, [(.ret, ⟨[(1000, .bool)], [], []⟩)], fun x => k x.1.1⟩
abbrev P18 (B : Nat) := FnOKs (X B) Ce 18
abbrev Q18 (B : Nat) := FnOK1 (X B) Ce 18 (con18 (fun _ => none))
def lp1800 (k : (List GF) → Int → Option ((Unit × Unit) ⊕ ((Bool × Unit) × Unit))) : Con := ⟨⟨[(0, .sl .fn), (3, .int .i64)], [], []⟩, [(.exit 0, ⟨[], [], []⟩), (.ret, ⟨[(2, .bool)], [], []⟩)], fun x => k x.1.1 x.1.2.1⟩
theorem vL1800 : IsL 18 [0, 1, 0, 1] := ⟨wF18, by kernel_rfl⟩
abbrev P1800 (B : Nat) := LpOKs (X B) Ce (fX 18).n (bX 18 [0, 1, 0, 1])
abbrev Q1800 (B : Nat) := LoopOK1 (X B) Ce (fX 18).n (bX 18 [0, 1, 0, 1]) (lp1800 (fun _ _ => none))
def con19 (k : GF → (List GF) → Option ((Int × Unit) × Unit)) : Con := ⟨⟨[(0, .n .fn), (1, .sl .fn)], [], []⟩, [(.ret, ⟨[(1000, .int .i64)], [], []⟩)], fun x => k x.1.1 x.1.2.1⟩
abbrev P19 (B : Nat) := FnOKs (X B) Ce 19
abbrev Q19 (B : Nat) := FnOK1 (X B) Ce 19 (con19 (fun _ _ => none))
def lp1900 (k : GF → (List Str) → Bool → Bool → Int → Option (((List Str) × (Bool × (Bool × Unit))) × Unit)) : Con := ⟨⟨[(2, .ro (.n .fn)), (5, .own .str 0), (6, .bool), (7, .bool), (8, .int .i64)], [], [(0, 1, 9)]⟩, [(.exit 0, ⟨[(5, .own .str 0), (6, .bool), (7, .bool)], [], [(0, 1, 9)]⟩)], fun x => k x.1.1 x.1.2.1 x.1.2.2.1 x.1.2.2.2.1 x.1.2.2.2.2.1⟩
theorem vL1900 : IsL 19 [0, 1, 0, 1, 1, 1, 1] := ⟨wF19, by kernel_rfl⟩
abbrev P1900 (B : Nat) := LpOKs (X B) Ce (fX 19).n (bX 19 [0, 1, 0, 1, 1, 1, 1])
abbrev Q1900 (B : Nat) := LoopOK1 (X B) Ce (fX 19).n (bX 19 [0, 1, 0, 1, 1, 1, 1]) (lp1900 (fun _ _ _ _ _ => none))
def lp1901 (k : GF → Bool → Int → Option ((Bool × Unit) × Unit)) : Con := ⟨⟨[(2, .ro (.n .fn)), (6, .bool), (9, .int .i64)], [], []⟩, [(.exit 2, ⟨[(6, .bool)], [], []⟩)], fun x => k x.1.1 x.1.2.1 x.1.2.2.1⟩
theorem vL1901 : IsL 19 [0, 1, 0, 1, 1, 1, 1, 1] := ⟨wF19, by kernel_rfl⟩
abbrev P1901 (B : Nat) := LpOKs (X B) Ce (fX 19).n (bX 19 [0, 1, 0, 1, 1, 1, 1, 1])
abbrev Q1901 (B : Nat) := LoopOK1 (X B) Ce (fX 19).n (bX 19 [0, 1, 0, 1, 1, 1, 1, 1]) (lp1901 (fun _ _ _ => none))
def lp1902 (k : GF → Bool → Int → Option ((Bool × Unit) × Unit)) : Con := ⟨⟨[(2, .ro (.n .fn)), (6, .bool), (10, .int .i64)], [], []⟩, [(.exit 4, ⟨[(6, .bool)], [], []⟩)], fun x => k x.1.1 x.1.2.1 x.1.2.2.1⟩
theorem vL1902 : IsL 19 [0, 1, 0, 1, 1, 1, 1, 1, 1] := ⟨wF19, by kernel_rfl⟩
abbrev P1902 (B : Nat) := LpOKs (X B) Ce (fX 19).n (bX 19 [0, 1, 0, 1, 1, 1, 1, 1, 1])
abbrev Q1902 (B : Nat) := LoopOK1 (X B) Ce (fX 19).n (bX 19 [0, 1, 0, 1, 1, 1, 1, 1, 1]) (lp1902 (fun _ _ _ => none))
def con27 (k : GT → Option ((Bool × Unit) × Unit)) : Con := ⟨⟨[(0, .n .ty)], [], []⟩, [(.ret, ⟨[(1000, .bool)], [], []⟩)], fun x => k x.1.1⟩
abbrev P27 (B : Nat) := FnOKs (X B) Ce 27
abbrev Q27 (B : Nat) := FnOK1 (X B) Ce 27 (con27 (fun _ => none))
def lp2700 (k : GT → Bool → Int → Option ((Bool × Unit) × Unit)) : Con := ⟨⟨[(1, .ro (.n .ty)), (3, .bool), (4, .int .i64)], [], []⟩, [(.exit 0, ⟨[(3, .bool)], [], []⟩)], fun x => k x.1.1 x.1.2.1 x.1.2.2.1⟩
theorem vL2700 : IsL 27 [0, 1, 0, 1, 1] := ⟨wF27, by kernel_rfl⟩
abbrev P2700 (B : Nat) := LpOKs (X B) Ce (fX 27).n (bX 27 [0, 1, 0, 1, 1])
abbrev Q2700 (B : Nat) := LoopOK1 (X B) Ce (fX 27).n (bX 27 [0, 1, 0, 1, 1]) (lp2700 (fun _ _ _ => none))
def con29 (k : GF → Option ((Bool × Unit) × Unit)) : Con := ⟨⟨[(0, .n .fn)], [], []⟩, [(.ret, ⟨[(1000, .bool)], [], []⟩)], fun x => k x.1.1⟩
abbrev P29 (B : Nat) := FnOKs (X B) Ce 29
abbrev Q29 (B : Nat) := FnOK1 (X B) Ce 29 (con29 (fun _ => none))
def lp2900 (k : GF → Int → Option ((Unit × Unit) ⊕ ((Bool × Unit) × Unit))) : Con := ⟨⟨[(1, .ro (.n .fn)), (3, .int .i64)], [], []⟩, [(.exit 0, ⟨[], [], []⟩), (.ret, ⟨[(2, .bool)], [], []⟩)], fun x => k x.1.1 x.1.2.1⟩
theorem vL2900 : IsL 29 [0, 1, 0, 1] := ⟨wF29, by kernel_rfl⟩
abbrev P2900 (B : Nat) := LpOKs (X B) Ce (fX 29).n (bX 29 [0, 1, 0, 1])
abbrev Q2900 (B : Nat) := LoopOK1 (X B) Ce (fX 29).n (bX 29 [0, 1, 0, 1]) (lp2900 (fun _ _ => none))
def con30 (k : (List GF) → Option ((Int × Unit) × Unit)) : Con := ⟨⟨[(0, .sl .fn)], [], []⟩, [(.ret, ⟨[(1000, .int .i64)], [], []⟩)], fun x => k x.1.1⟩
abbrev P30 (B : Nat) := FnOKs (X B) Ce 30
abbrev Q30 (B : Nat) := FnOK1 (X B) Ce 30 (con30 (fun _ => none))
def lp3000 (k : (List GF) → Int → Int → Int → Option ((Int × Unit) × Unit)) : Con := ⟨⟨[(0, .sl .fn), (3, .int .i64), (4, .int .i64), (5, .int .i64)], [], []⟩, [(.exit 2, ⟨[(3, .int .i64)], [], []⟩)], fun x => k x.1.1 x.1.2.1 x.1.2.2.1 x.1.2.2.2.1⟩
theorem vL3000 : IsL 30 [0, 1, 1, 0, 0, 1, 0, 0, 1, 0, 1, 1] := ⟨wF30, by kernel_rfl⟩
abbrev P3000 (B : Nat) := LpOKs (X B) Ce (fX 30).n (bX 30 [0, 1, 1, 0, 0, 1, 0, 0, 1, 0, 1, 1])
abbrev Q3000 (B : Nat) := LoopOK1 (X B) Ce (fX 30).n (bX 30 [0, 1, 1, 0, 0, 1, 0, 0, 1, 0, 1, 1]) (lp3000 (fun _ _ _ _ => none))
def lp3001 (k : (List GF) → Int → Int → Option ((Int × Unit) × Unit)) : Con := ⟨⟨[(0, .sl .fn), (3, .int .i64), (4, .int .i64)], [], []⟩, [(.exit 0, ⟨[(3, .int .i64)], [], []⟩)], fun x => k x.1.1 x.1.2.1 x.1.2.2.1⟩
theorem vL3001 : IsL 30 [0, 1, 0, 1, 1] := ⟨wF30, by kernel_rfl⟩
abbrev P3001 (B : Nat) := LpOKs (X B) Ce (fX 30).n (bX 30 [0, 1, 0, 1, 1])
abbrev Q3001 (B : Nat) := LoopOK1 (X B) Ce (fX 30).n (bX 30 [0, 1, 0, 1, 1]) (lp3001 (fun _ _ _ => none))
def con31 (k : GT → (List Str) → Option ((Bool × Unit) × Unit)) : Con := ⟨⟨[(0, .n .ty), (1, .sl .str)], [], []⟩, [(.ret, ⟨[(1000, .bool)], [], []⟩)], fun x => k x.1.1 x.1.2.1⟩
abbrev P31 (B : Nat) := FnOKs (X B) Ce 31
abbrev Q31 (B : Nat) := FnOK1 (X B) Ce 31 (con31 (fun _ _ => none))
def lp3100 (k : (List Str) → GT → Int → Option ((Unit × Unit) ⊕ ((Bool × Unit) × Unit))) : Con := ⟨⟨[(1, .sl .str), (2, .ro (.n .ty)), (5, .int .i64)], [], []⟩, [(.exit 0, ⟨[], [], []⟩), (.ret, ⟨[(4, .bool)], [], []⟩)], fun x => k x.1.1 x.1.2.1 x.1.2.2.1⟩
theorem vL3100 : IsL 31 [0, 1, 0, 1, 1] := ⟨wF31, by kernel_rfl⟩
abbrev P3100 (B : Nat) := LpOKs (X B) Ce (fX 31).n (bX 31 [0, 1, 0, 1, 1])
abbrev Q3100 (B : Nat) := LoopOK1 (X B) Ce (fX 31).n (bX 31 [0, 1, 0, 1, 1]) (lp3100 (fun _ _ _ => none))
def con32 (k : Str → (List Str) → Option ((Int × Unit) × Unit)) : Con := ⟨⟨[(0, .str), (1, .sl .str)], [], []⟩, [(.ret, ⟨[(1000, .int .i64)], [], []⟩)], fun x => k x.1.1 x.1.2.1⟩
abbrev P32 (B : Nat) := FnOKs (X B) Ce 32
abbrev Q32 (B : Nat) := FnOK1 (X B) Ce 32 (con32 (fun _ _ => none))
def lp3200 (k : Str → (List Str) → Int → Int → Option ((Int × Unit) × Unit)) : Con := ⟨⟨[(0, .str), (1, .sl .str), (5, .int .i64), (6, .int .i64)], [], []⟩, [(.exit 0, ⟨[(5, .int .i64)], [], []⟩)], fun x => k x.1.1 x.1.2.1 x.1.2.2.1 x.1.2.2.2.1⟩
theorem vL3200 : IsL 32 [0, 1, 0, 1, 1] := ⟨wF32, by kernel_rfl⟩
abbrev P3200 (B : Nat) := LpOKs (X B) Ce (fX 32).n (bX 32 [0, 1, 0, 1, 1])
abbrev Q3200 (B : Nat) := LoopOK1 (X B) Ce (fX 32).n (bX 32 [0, 1, 0, 1, 1]) (lp3200 (fun _ _ _ _ => none))
def con33 (k : (List GS) → (List Str) → (List GF) → Option ((((List Str) × (Bool × Unit)) × Unit) × Unit)) : Con := ⟨⟨[(0, .sl .st), (1, .sl .str), (2, .sl .fn)], [], []⟩, [(.ret, ⟨[(1000, .tuple [.sl .str, .bool])], [], []⟩)], fun x => k x.1.1 x.1.2.1 x.1.2.2.1⟩
abbrev P33 (B : Nat) := FnOKs (X B) Ce 33
abbrev Q33 (B : Nat) := FnOK1 (X B) Ce 33 (con33 (fun _ _ _ => none))
def lp3300 (k : (List GS) → (List Str) → (List GF) → Int → Option ((((List Str) × Unit) × Unit) ⊕ ((Unit × (Bool × Unit)) × Unit))) : Con := ⟨⟨[(0, .sl .st), (1, .sl .str), (2, .sl .fn), (8, .int .i64)], [], []⟩, [(.exit 0, ⟨[(1, .sl .str)], [], []⟩), (.ret, ⟨[(6, .lit 5), (7, .bool)], [], []⟩)], fun x => k x.1.1 x.1.2.1 x.1.2.2.1 x.1.2.2.2.1⟩
theorem vL3300 : IsL 33 [0, 1, 0, 1] := ⟨wF33, by kernel_rfl⟩
abbrev P3300 (B : Nat) := LpOKs (X B) Ce (fX 33).n (bX 33 [0, 1, 0, 1])
abbrev Q3300 (B : Nat) := LoopOK1 (X B) Ce (fX 33).n (bX 33 [0, 1, 0, 1]) (lp3300 (fun _ _ _ _ => none))
def con34 (k : GE → (List Str) → (List GF) → Option ((Bool × Unit) × Unit)) : Con := ⟨⟨[(0, .n .ex), (1, .sl .str), (2, .sl .fn)], [], []⟩, [(.ret, ⟨[(1000, .bool)], [], []⟩)], fun x => k x.1.1 x.1.2.1 x.1.2.2.1⟩
abbrev P34 (B : Nat) := FnOKs (X B) Ce 34
abbrev Q34 (B : Nat) := FnOK1 (X B) Ce 34 (con34 (fun _ _ _ => none))
def lp3400 (k : (List Str) → (List GF) → GE → Int → Option ((Unit × Unit) ⊕ ((Bool × Unit) × Unit))) : Con := ⟨⟨[(1, .sl .str), (2, .sl .fn), (3, .ro (.n .ex)), (7, .int .i64)], [], []⟩, [(.exit 0, ⟨[], [], []⟩), (.ret, ⟨[(6, .bool)], [], []⟩)], fun x => k x.1.1 x.1.2.1 x.1.2.2.1 x.1.2.2.2.1⟩
theorem vL3400 : IsL 34 [0, 1, 0, 1] := ⟨wF34, by kernel_rfl⟩
abbrev P3400 (B : Nat) := LpOKs (X B) Ce (fX 34).n (bX 34 [0, 1, 0, 1])
abbrev Q3400 (B : Nat) := LoopOK1 (X B) Ce (fX 34).n (bX 34 [0, 1, 0, 1]) (lp3400 (fun _ _ _ _ => none))
def con51 (k : Str → Option ((Bool × Unit) × Unit)) : Con := ⟨⟨[(0, .str)], [], []⟩, [(.ret, ⟨[(1000, .bool)], [], []⟩)], fun x => k x.1.1⟩
abbrev P51 (B : Nat) := FnOKs (X B) Ce 51
abbrev Q51 (B : Nat) := FnOK1 (X B) Ce 51 (con51 (fun _ => none))
def lp5100 (k : Str → (List Str) → Int → Option ((Unit × Unit) ⊕ ((Bool × Unit) × Unit))) : Con := ⟨⟨[(0, .str), (3, .own .str 0), (4, .int .i64)], [], [(0, 1, 9)]⟩, [(.exit 0, ⟨[], [], []⟩), (.ret, ⟨[(2, .bool)], [], []⟩)], fun x => k x.1.1 x.1.2.1 x.1.2.2.1⟩
theorem vL5100 : IsL 51 [0, 1, 0, 1, 1] := ⟨wF51, by kernel_rfl⟩
abbrev P5100 (B : Nat) := LpOKs (X B) Ce (fX 51).n (bX 51 [0, 1, 0, 1, 1])
abbrev Q5100 (B : Nat) := LoopOK1 (X B) Ce (fX 51).n (bX 51 [0, 1, 0, 1, 1]) (lp5100 (fun _ _ _ => none))
def con52 (k : GT → Option ((Bool × Unit) × Unit)) : Con := ⟨⟨[(0, .n .ty)], [], []⟩, [(.ret, ⟨[(1000, .bool)], [], []⟩)], fun x => k x.1.1⟩
abbrev P52 (B : Nat) := FnOKs (X B) Ce 52
abbrev Q52 (B : Nat) := FnOK1 (X B) Ce 52 (con52 (fun _ => none))
def lp5200 (k : GT → Int → Option ((Unit × Unit) ⊕ ((Bool × Unit) × Unit))) : Con := ⟨⟨[(1, .ro (.n .ty)), (3, .int .i64)], [], []⟩, [(.exit 0, ⟨[], [], []⟩), (.ret, ⟨[(2, .bool)], [], []⟩)], fun x => k x.1.1 x.1.2.1⟩
theorem vL5200 : IsL 52 [0, 1, 0, 1] := ⟨wF52, by kernel_rfl⟩
abbrev P5200 (B : Nat) := LpOKs (X B) Ce (fX 52).n (bX 52 [0, 1, 0, 1])
abbrev Q5200 (B : Nat) := LoopOK1 (X B) Ce (fX 52).n (bX 52 [0, 1, 0, 1]) (lp5200 (fun _ _ => none))
def con53 (k : (List Str) → Option ((Bool × Unit) × Unit)) : Con := ⟨⟨[(0, .sl .str)], [], []⟩, [(.ret, ⟨[(1000, .bool)], [], []⟩)], fun x => k x.1.1⟩
abbrev P53 (B : Nat) := FnOKs (X B) Ce 53
abbrev Q53 (B : Nat) := FnOK1 (X B) Ce 53 (con53 (fun _ => none))
def lp5300 (k : (List Str) → Int → Option ((Unit × Unit) ⊕ ((Bool × Unit) × Unit))) : Con := ⟨⟨[(0, .sl .str), (3, .int .i64)], [], []⟩, [(.exit 0, ⟨[], [], []⟩), (.ret, ⟨[(2, .bool)], [], []⟩)], fun x => k x.1.1 x.1.2.1⟩
theorem vL5300 : IsL 53 [0, 1, 0, 1] := ⟨wF53, by kernel_rfl⟩
abbrev P5300 (B : Nat) := LpOKs (X B) Ce (fX 53).n (bX 53 [0, 1, 0, 1])
abbrev Q5300 (B : Nat) := LoopOK1 (X B) Ce (fX 53).n (bX 53 [0, 1, 0, 1]) (lp5300 (fun _ _ => none))
def con54 (k : (List GS) → Option ((Bool × Unit) × Unit)) : Con := ⟨⟨[(0, .sl .st)], [], []⟩, [(.ret, ⟨[(1000, .bool)], [], []⟩)], fun x => k x.1.1⟩
abbrev P54 (B : Nat) := FnOKs (X B) Ce 54
abbrev Q54 (B : Nat) := FnOK1 (X B) Ce 54 (con54 (fun _ => none))
def lp5400 (k : (List GS) → Int → Option ((Unit × Unit) ⊕ ((Bool × Unit) × Unit))) : Con := ⟨⟨[(0, .sl .st), (3, .int .i64)], [], []⟩, [(.exit 0, ⟨[], [], []⟩), (.ret, ⟨[(2, .bool)], [], []⟩)], fun x => k x.1.1 x.1.2.1⟩
theorem vL5400 : IsL 54 [0, 1, 0, 1] := ⟨wF54, by kernel_rfl⟩
abbrev P5400 (B : Nat) := LpOKs (X B) Ce (fX 54).n (bX 54 [0, 1, 0, 1])
abbrev Q5400 (B : Nat) := LoopOK1 (X B) Ce (fX 54).n (bX 54 [0, 1, 0, 1]) (lp5400 (fun _ _ => none))
def con55 (k : (List GS) → Option ((Int × Unit) × Unit)) : Con := ⟨⟨[(0, .sl .st)], [], []⟩, [(.ret, ⟨[(1000, .int .i64)], [], []⟩)], fun x => k x.1.1⟩
abbrev P55 (B : Nat) := FnOKs (X B) Ce 55
abbrev Q55 (B : Nat) := FnOK1 (X B) Ce 55 (con55 (fun _ => none))
def lp5500 (k : (List GS) → Int → Int → Option ((Int × Unit) × Unit)) : Con := ⟨⟨[(0, .sl .st), (3, .int .i64), (4, .int .i64)], [], []⟩, [(.exit 0, ⟨[(3, .int .i64)], [], []⟩)], fun x => k x.1.1 x.1.2.1 x.1.2.2.1⟩
theorem vL5500 : IsL 55 [0, 1, 0, 1, 1] := ⟨wF55, by kernel_rfl⟩
abbrev P5500 (B : Nat) := LpOKs (X B) Ce (fX 55).n (bX 55 [0, 1, 0, 1, 1])
abbrev Q5500 (B : Nat) := LoopOK1 (X B) Ce (fX 55).n (bX 55 [0, 1, 0, 1, 1]) (lp5500 (fun _ _ _ => none))
def con56 (k : GE → Option ((Bool × Unit) × Unit)) : Con := ⟨⟨[(0, .n .ex)], [], []⟩, [(.ret, ⟨[(1000, .bool)], [], []⟩)], fun x => k x.1.1⟩
abbrev P56 (B : Nat) := FnOKs (X B) Ce 56
abbrev Q56 (B : Nat) := FnOK1 (X B) Ce 56 (con56 (fun _ => none))
def lp5600 (k : GE → Int → Option ((Unit × Unit) ⊕ ((Bool × Unit) × Unit))) : Con := ⟨⟨[(1, .ro (.n .ex)), (3, .int .i64)], [], []⟩, [(.exit 0, ⟨[], [], []⟩), (.ret, ⟨[(2, .bool)], [], []⟩)], fun x => k x.1.1 x.1.2.1⟩
theorem vL5600 : IsL 56 [0, 1, 0, 1] := ⟨wF56, by kernel_rfl⟩
abbrev P5600 (B : Nat) := LpOKs (X B) Ce (fX 56).n (bX 56 [0, 1, 0, 1])
abbrev Q5600 (B : Nat) := LoopOK1 (X B) Ce (fX 56).n (bX 56 [0, 1, 0, 1]) (lp5600 (fun _ _ => none))
def con57 (k : Int → Int → Option ((Int × Unit) × Unit)) : Con := ⟨⟨[(0, .int .i64), (1, .int .i64)], [], []⟩, [(.ret, ⟨[(1000, .int .i64)], [], []⟩)], fun x => k x.1.1 x.1.2.1⟩
abbrev P57 (B : Nat) := FnOKs (X B) Ce 57
abbrev Q57 (B : Nat) := FnOK1 (X B) Ce 57 (con57 (fun _ _ => none))
def con58 (k : GT → Option ((Int × Unit) × Unit)) : Con := ⟨⟨[(0, .n .ty)], [], []⟩, [(.ret, ⟨[(1000, .int .i64)], [], []⟩)], fun x => k x.1.1⟩
abbrev P58 (B : Nat) := FnOKs (X B) Ce 58
abbrev Q58 (B : Nat) := FnOK1 (X B) Ce 58 (con58 (fun _ => none))
def lp5800 (k : GT → Int → Int → Option ((Int × Unit) × Unit)) : Con := ⟨⟨[(1, .ro (.n .ty)), (3, .int .i64), (4, .int .i64)], [], []⟩, [(.exit 0, ⟨[(3, .int .i64)], [], []⟩)], fun x => k x.1.1 x.1.2.1 x.1.2.2.1⟩
theorem vL5800 : IsL 58 [0, 1, 0, 1, 1, 1] := ⟨wF58, by kernel_rfl⟩
abbrev P5800 (B : Nat) := LpOKs (X B) Ce (fX 58).n (bX 58 [0, 1, 0, 1, 1, 1])
abbrev Q5800 (B : Nat) := LoopOK1 (X B) Ce (fX 58).n (bX 58 [0, 1, 0, 1, 1, 1]) (lp5800 (fun _ _ _ => none))
def con59 (k : (List GS) → Option ((Int × Unit) × Unit)) : Con := ⟨⟨[(0, .sl .st)], [], []⟩, [(.ret, ⟨[(1000, .int .i64)], [], []⟩)], fun x => k x.1.1⟩
abbrev P59 (B : Nat) := FnOKs (X B) Ce 59
abbrev Q59 (B : Nat) := FnOK1 (X B) Ce 59 (con59 (fun _ => none))
def lp5900 (k : (List GS) → Int → Int → Option ((Int × Unit) × Unit)) : Con := ⟨⟨[(0, .sl .st), (3, .int .i64), (4, .int .i64)], [], []⟩, [(.exit 0, ⟨[(3, .int .i64)], [], []⟩)], fun x => k x.1.1 x.1.2.1 x.1.2.2.1⟩
theorem vL5900 : IsL 59 [0, 1, 0, 1, 1] := ⟨wF59, by kernel_rfl⟩
abbrev P5900 (B : Nat) := LpOKs (X B) Ce (fX 59).n (bX 59 [0, 1, 0, 1, 1])
abbrev Q5900 (B : Nat) := LoopOK1 (X B) Ce (fX 59).n (bX 59 [0, 1, 0, 1, 1]) (lp5900 (fun _ _ _ => none))
def con60 (k : GE → Option ((Int × Unit) × Unit)) : Con := ⟨⟨[(0, .n .ex)], [], []⟩, [(.ret, ⟨[(1000, .int .i64)], [], []⟩)], fun x => k x.1.1⟩
abbrev P60 (B : Nat) := FnOKs (X B) Ce 60
abbrev Q60 (B : Nat) := FnOK1 (X B) Ce 60 (con60 (fun _ => none))
def lp6000 (k : GE → Int → Int → Option ((Int × Unit) × Unit)) : Con := ⟨⟨[(1, .ro (.n .ex)), (3, .int .i64), (4, .int .i64)], [], []⟩, [(.exit 0, ⟨[(3, .int .i64)], [], []⟩)], fun x => k x.1.1 x.1.2.1 x.1.2.2.1⟩
theorem vL6000 : IsL 60 [0, 1, 0, 1, 1, 1] := ⟨wF60, by kernel_rfl⟩
abbrev P6000 (B : Nat) := LpOKs (X B) Ce (fX 60).n (bX 60 [0, 1, 0, 1, 1, 1])
abbrev Q6000 (B : Nat) := LoopOK1 (X B) Ce (fX 60).n (bX 60 [0, 1, 0, 1, 1, 1]) (lp6000 (fun _ _ _ => none))
def con89 (k : Str → Option ((Bool × Unit) × Unit)) : Con := ⟨⟨[(0, .str)], [], []⟩, [(.ret, ⟨[(1000, .bool)], [], []⟩)], fun x => k x.1.1⟩
abbrev P89 (B : Nat) := FnOKs (X B) Ce 89
abbrev Q89 (B : Nat) := FnOK1 (X B) Ce 89 (con89 (fun _ => none))
def con90 (k : GS → Option ((Bool × Unit) × Unit)) : Con := ⟨⟨[(0, .n .st)], [], []⟩, [(.ret, ⟨[(1000, .bool)], [], []⟩)], fun x => k x.1.1⟩
abbrev P90 (B : Nat) := FnOKs (X B) Ce 90
abbrev Q90 (B : Nat) := FnOK1 (X B) Ce 90 (con90 (fun _ => none))
def con91 (k : GE → Option ((Bool × Unit) × Unit)) : Con := ⟨⟨[(0, .n .ex)], [], []⟩, [(.ret, ⟨[(1000, .bool)], [], []⟩)], fun x => k x.1.1⟩
abbrev P91 (B : Nat) := FnOKs (X B) Ce 91
abbrev Q91 (B : Nat) := FnOK1 (X B) Ce 91 (con91 (fun _ => none))
def con92 (k : GE → Option ((Int × Unit) × Unit)) : Con := ⟨⟨[(0, .n .ex)], [], []⟩, [(.ret, ⟨[(1000, .int .i64)], [], []⟩)], fun x => k x.1.1⟩
abbrev P92 (B : Nat) := FnOKs (X B) Ce 92
abbrev Q92 (B : Nat) := FnOK1 (X B) Ce 92 (con92 (fun _ => none))
def con93 (k : GE → Int → Option ((Bool × Unit) × Unit)) : Con := ⟨⟨[(0, .n .ex), (1, .int .i64)], [], []⟩, [(.ret, ⟨[(1000, .bool)], [], []⟩)], fun x => k x.1.1 x.1.2.1⟩
abbrev P93 (B : Nat) := FnOKs (X B) Ce 93
abbrev Q93 (B : Nat) := FnOK1 (X B) Ce 93 (con93 (fun _ _ => none))
def con117 (k : Int → Option ((Bool × Unit) × Unit)) : Con := ⟨⟨[(0, .int .u8)], [], []⟩, [(.ret, ⟨[(1000, .bool)], [], []⟩)], fun x => k x.1.1⟩
abbrev P117 (B : Nat) := FnOKs (X B) Ce 117
abbrev Q117 (B : Nat) := FnOK1 (X B) Ce 117 (con117 (fun _ => none))
def con118 (k : Str → Int → Option ((Int × Unit) × Unit)) : Con := ⟨⟨[(0, .str), (1, .int .i64)], [], []⟩, [(.ret, ⟨[(1000, .int .i64)], [], []⟩)], fun x => k x.1.1 x.1.2.1⟩
abbrev P118 (B : Nat) := FnOKs (X B) Ce 118
abbrev Q118 (B : Nat) := FnOK1 (X B) Ce 118 (con118 (fun _ _ => none))
def lp11800 (k : Str → Int → Int → Option ((Int × Unit) × Unit)) : Con := ⟨⟨[(0, .str), (1, .int .i64), (5, .int .i64)], [], []⟩, [(.exit 0, ⟨[(5, .int .i64)], [], []⟩)], fun x => k x.1.1 x.1.2.1 x.1.2.2.1⟩
theorem vL11800 : IsL 118 [0, 0, 1, 1] := ⟨wF118, by kernel_rfl⟩
abbrev P11800 (B : Nat) := LpOKs (X B) Ce (fX 118).n (bX 118 [0, 0, 1, 1])
abbrev Q11800 (B : Nat) := LoopOK1 (X B) Ce (fX 118).n (bX 118 [0, 0, 1, 1]) (lp11800 (fun _ _ _ => none))
def con119 (k : Int → Option ((Bool × Unit) × Unit)) : Con := ⟨⟨[(0, .int .u8)], [], []⟩, [(.ret, ⟨[(1000, .bool)], [], []⟩)], fun x => k x.1.1⟩
abbrev P119 (B : Nat) := FnOKs (X B) Ce 119
abbrev Q119 (B : Nat) := FnOK1 (X B) Ce 119 (con119 (fun _ => none))
def con125 (k : GE → Option ((Bool × Unit) × Unit)) : Con := ⟨⟨[(0, .n .ex)], [], []⟩, [(.ret, ⟨[(1000, .bool)], [], []⟩)], fun x => k x.1.1⟩
abbrev P125 (B : Nat) := FnOKs (X B) Ce 125
abbrev Q125 (B : Nat) := FnOK1 (X B) Ce 125 (con125 (fun _ => none))
theorem h_k15 (B : Nat) : (∀ a0 r, k15 a0 = some r → Q15 B ((a0, ()), ()) r) ∧ (∀ a0 a1 a2 r, k15_0 a0 a1 a2 = some r → Q1500 B ((a0, (a1, (a2, ()))), ()) r) := by
  refine k15.mutual_partial_correctness _ _ ?_ ?_
  · intro gk15_0 mk15_0 a0 r h
    have Hk15_0 : P1500 B (lp1500 gk15_0) := fun _ _ hx => mk15_0 _ _ _ _ hx
    exact gf cN (lC 1500 vL1500 Hk15_0 lN) wF15 (.seq .nil (.seq .nil (.seq (.seq .nil (.sub (.loop 1500))) .nil))) (krw h (by kernel_rfl))
  · intro gk15 gk15_0 mk15 mk15_0 a0 a1 a2 r h
    have Hk15 : P15 B (con15 gk15) := fun _ _ hx => mk15 _ _ hx
    have Hk15_0 : P1500 B (lp1500 gk15_0) := fun _ _ hx => mk15_0 _ _ _ _ hx
    have HL := Hk15_0
    exact gl (cC Hk15 cN) (lC 1500 vL1500 Hk15_0 lN) vL1500 .nil (lp1500 gk15_0) HL (krw h (by kernel_rfl))
theorem ok_k15 (B : Nat) : P15 B (con15 k15) := fun _ _ hx => (h_k15 B).1 _ _ hx
theorem h_k17 (B : Nat) : (∀ a0 r, k17 a0 = some r → Q17 B ((a0, ()), ()) r) ∧ (∀ a0 a1 a2 r, k17_0 a0 a1 a2 = some r → Q1700 B ((a0, (a1, (a2, ()))), ()) r) := by
  refine k17.mutual_partial_correctness _ _ ?_ ?_
  · intro gk17_0 mk17_0 a0 r h
    have Hk17_0 : P1700 B (lp1700 gk17_0) := fun _ _ hx => mk17_0 _ _ _ _ hx
    exact gf cN (lC 1700 vL1700 Hk17_0 lN) wF17 (.seq .nil (.seq .nil (.seq (.seq .nil (.sub (.loop 1700))) .nil))) (krw h (by kernel_rfl))
  · intro gk17 gk17_0 mk17 mk17_0 a0 a1 a2 r h
    have Hk17 : P17 B (con17 gk17) := fun _ _ hx => mk17 _ _ hx
    have Hk17_0 : P1700 B (lp1700 gk17_0) := fun _ _ hx => mk17_0 _ _ _ _ hx
    have HL := Hk17_0
    exact gl (cC Hk17 cN) (lC 1700 vL1700 Hk17_0 lN) vL1700 .nil (lp1700 gk17_0) HL (krw h (by kernel_rfl))
theorem ok_k17 (B : Nat) : P17 B (con17 k17) := fun _ _ hx => (h_k17 B).1 _ _ hx
theorem h_k16 (B : Nat) : (∀ a0 r, k16 a0 = some r → Q16 B ((a0, ()), ()) r) ∧ (∀ a0 a1 a2 r, k16_0 a0 a1 a2 = some r → Q1600 B ((a0, (a1, (a2, ()))), ()) r) := by
  refine k16.mutual_partial_correctness _ _ ?_ ?_
  · intro gk16_0 mk16_0 a0 r h
    have Hk16_0 : P1600 B (lp1600 gk16_0) := fun _ _ hx => mk16_0 _ _ _ _ hx
    exact gf cN (lC 1600 vL1600 Hk16_0 lN) wF16 (.seq .nil (.seq .nil (.seq (.seq .nil (.sub (.loop 1600))) .nil))) (krw h (by kernel_rfl))
  · intro gk16 gk16_0 mk16 mk16_0 a0 a1 a2 r h
    have Hk16 : P16 B (con16 gk16) := fun _ _ hx => mk16 _ _ hx
    have Hk16_0 : P1600 B (lp1600 gk16_0) := fun _ _ hx => mk16_0 _ _ _ _ hx
    have HL := Hk16_0
    exact gl (cC Hk16 (cC (ok_k17 B) cN)) (lC 1600 vL1600 Hk16_0 lN) vL1600 (.seq (.seq (.join [] [] [(.normal, ⟨[(12, .bool)], [], []⟩)] .nil) .nil) .nil) (lp1600 gk16_0) HL (krw h (by kernel_rfl))
theorem ok_k16 (B : Nat) : P16 B (con16 k16) := fun _ _ hx => (h_k16 B).1 _ _ hx
theorem h_k7_0 (B : Nat) : (∀ a0 a1 a2 r, k7_0 a0 a1 a2 = some r → Q700 B ((a0, ((), (a1, ()))), (a2, ())) r) := by
  refine k7_0.partial_correctness _ ?_
  · intro gk7_0 mk7_0 a0 a1 a2 r h
    have Hk7_0 : P700 B (lp700 gk7_0) := fun _ _ hx => mk7_0 _ _ _ _ hx
    have HL := Hk7_0
    exact gl (cC (ok_k15 B) cN) (lC 700 vL700 Hk7_0 lN) vL700 (.seq (.seq (.join [] [] [(.normal, ⟨[(58, .bool)], [], []⟩)] .nil) .nil) .nil) (lp700 gk7_0) HL (krw h (by kernel_rfl))
theorem ok_k7_0 (B : Nat) : P700 B (lp700 k7_0) := fun _ _ hx => (h_k7_0 B) _ _ _ _ hx
theorem h_k7_1 (B : Nat) : (∀ a0 a1 a2 r, k7_1 a0 a1 a2 = some r → Q701 B ((a0, ((), (a1, ()))), (a2, ())) r) := by
  refine k7_1.partial_correctness _ ?_
  · intro gk7_1 mk7_1 a0 a1 a2 r h
    have Hk7_1 : P701 B (lp701 gk7_1) := fun _ _ hx => mk7_1 _ _ _ _ hx
    have HL := Hk7_1
    exact gl cN (lC 701 vL701 Hk7_1 lN) vL701 .nil (lp701 gk7_1) HL (krw h (by kernel_rfl))
theorem ok_k7_1 (B : Nat) : P701 B (lp701 k7_1) := fun _ _ hx => (h_k7_1 B) _ _ _ _ hx
theorem h_k7_2 (B : Nat) : (∀ a0 a1 a2 r, k7_2 a0 a1 a2 = some r → Q702 B ((a0, ((), (a1, ()))), (a2, ())) r) := by
  refine k7_2.partial_correctness _ ?_
  · intro gk7_2 mk7_2 a0 a1 a2 r h
    have Hk7_2 : P702 B (lp702 gk7_2) := fun _ _ hx => mk7_2 _ _ _ _ hx
    have HL := Hk7_2
    exact gl cN (lC 702 vL702 Hk7_2 lN) vL702 .nil (lp702 gk7_2) HL (krw h (by kernel_rfl))
theorem ok_k7_2 (B : Nat) : P702 B (lp702 k7_2) := fun _ _ hx => (h_k7_2 B) _ _ _ _ hx
theorem h_k7_3 (B : Nat) : (∀ a0 a1 a2 r, k7_3 a0 a1 a2 = some r → Q703 B ((a0, (a1, (a2, ()))), ()) r) := by
  refine k7_3.partial_correctness _ ?_
  · intro gk7_3 mk7_3 a0 a1 a2 r h
    have Hk7_3 : P703 B (lp703 gk7_3) := fun _ _ hx => mk7_3 _ _ _ _ hx
    have HL := Hk7_3
    exact gl (cC (ok_k15 B) (cC (ok_k16 B) (cC (ok_k17 B) cN))) (lC 700 vL700 (ok_k7_0 B) (lC 701 vL701 (ok_k7_1 B) (lC 702 vL702 (ok_k7_2 B) (lC 703 vL703 Hk7_3 lN)))) vL703 (.seq (.seq (.join [] [] [(.normal, ⟨[(16, .bool)], [], []⟩)] .nil) .nil) (.seq (.sub (.seq .nil (.seq .nil (.seq (.seq .nil (.sub (.loop 700))) (.seq (.seq .nil (.sub (.loop 701))) (.seq .nil (.sub (.loop 702)))))))) .nil)) (lp703 gk7_3) HL (krw h (by kernel_rfl))
theorem ok_k7_3 (B : Nat) : P703 B (lp703 k7_3) := fun _ _ hx => (h_k7_3 B) _ _ _ _ hx
theorem ok_k7 (B : Nat) : P7 B (con7 k7) := by
  have h : ∀ a0 r, k7 a0 = some r → Q7 B ((a0, ()), ()) r := fun a0 r h => gf cN (lC 703 vL703 (ok_k7_3 B) lN) wF7 (.seq .nil (.seq .nil (.seq (.seq .nil (.sub (.loop 703))) .nil))) (krw h (by kernel_rfl))
  exact fun _ _ hx => h _ _ hx
theorem h_k51_0 (B : Nat) : (∀ a0 a1 a2 r, k51_0 a0 a1 a2 = some r → Q5100 B ((a0, (a1, (a2, ()))), ()) r) := by
  refine k51_0.partial_correctness _ ?_
  · intro gk51_0 mk51_0 a0 a1 a2 r h
    have Hk51_0 : P5100 B (lp5100 gk51_0) := fun _ _ hx => mk51_0 _ _ _ _ hx
    have HL := Hk51_0
    exact gl cN (lC 5100 vL5100 Hk51_0 lN) vL5100 .nil (lp5100 gk51_0) HL (krw h (by kernel_rfl))
theorem ok_k51_0 (B : Nat) : P5100 B (lp5100 k51_0) := fun _ _ hx => (h_k51_0 B) _ _ _ _ hx
theorem ok_k117 (B : Nat) : P117 B (con117 k117) := by
  have h : ∀ a0 r, k117 a0 = some r → Q117 B ((a0, ()), ()) r := fun a0 r h => gf cN lN wF117 .nil (krw h (by kernel_rfl))
  exact fun _ _ hx => h _ _ hx
theorem ok_k119 (B : Nat) : P119 B (con119 k119) := by
  have h : ∀ a0 r, k119 a0 = some r → Q119 B ((a0, ()), ()) r := fun a0 r h => gf cN lN wF119 .nil (krw h (by kernel_rfl))
  exact fun _ _ hx => h _ _ hx
theorem h_k118_0 (B : Nat) : (∀ a0 a1 a2 r, k118_0 a0 a1 a2 = some r → Q11800 B ((a0, (a1, (a2, ()))), ()) r) := by
  refine k118_0.partial_correctness _ ?_
  · intro gk118_0 mk118_0 a0 a1 a2 r h
    have Hk118_0 : P11800 B (lp11800 gk118_0) := fun _ _ hx => mk118_0 _ _ _ _ hx
    have HL := Hk118_0
    exact gl (cC (ok_k117 B) (cC (ok_k119 B) cN)) (lC 11800 vL11800 Hk118_0 lN) vL11800 .nil (lp11800 gk118_0) HL (krw h (by kernel_rfl))
theorem ok_k118_0 (B : Nat) : P11800 B (lp11800 k118_0) := fun _ _ hx => (h_k118_0 B) _ _ _ _ hx
theorem ok_k118 (B : Nat) : P118 B (con118 k118) := by
  have h : ∀ a0 a1 r, k118 a0 a1 = some r → Q118 B ((a0, (a1, ())), ()) r := fun a0 a1 r h => gf cN (lC 11800 vL11800 (ok_k118_0 B) lN) wF118 (.seq .nil (.seq .nil (.seq (.sub (.loop 11800)) .nil))) (krw h (by kernel_rfl))
  exact fun _ _ hx => h _ _ _ hx
theorem ok_k89 (B : Nat) : P89 B (con89 k89) := by
  have h : ∀ a0 r, k89 a0 = some r → Q89 B ((a0, ()), ()) r := fun a0 r h => gf (cC (ok_k118 B) cN) lN wF89 .nil (krw h (by kernel_rfl))
  exact fun _ _ hx => h _ _ hx
theorem ok_k51 (B : Nat) : P51 B (con51 k51) := by
  have h : ∀ a0 r, k51 a0 = some r → Q51 B ((a0, ()), ()) r := fun a0 r h => gf (cC (ok_k89 B) cN) (lC 5100 vL5100 (ok_k51_0 B) lN) wF51 (.seq .nil (.seq .nil (.seq (.seq .nil (.sub (.loop 5100))) .nil))) (krw h (by kernel_rfl))
  exact fun _ _ hx => h _ _ hx
theorem h_k52 (B : Nat) : (∀ a0 r, k52 a0 = some r → Q52 B ((a0, ()), ()) r) ∧ (∀ a0 a1 r, k52_0 a0 a1 = some r → Q5200 B ((a0, (a1, ())), ()) r) := by
  refine k52.mutual_partial_correctness _ _ ?_ ?_
  · intro gk52_0 mk52_0 a0 r h
    have Hk52_0 : P5200 B (lp5200 gk52_0) := fun _ _ hx => mk52_0 _ _ _ hx
    exact gf (cC (ok_k51 B) cN) (lC 5200 vL5200 Hk52_0 lN) wF52 (.seq .nil (.seq (.seq .nil (.sub (.loop 5200))) (.seq .nil (.seq (.seq .nil (.seq (.seq (.join [] [] [(.normal, ⟨[(2, .bool)], [], []⟩)] .nil) .nil) .nil)) .nil)))) (krw h (by kernel_rfl))
  · intro gk52 gk52_0 mk52 mk52_0 a0 a1 r h
    have Hk52 : P52 B (con52 gk52) := fun _ _ hx => mk52 _ _ hx
    have Hk52_0 : P5200 B (lp5200 gk52_0) := fun _ _ hx => mk52_0 _ _ _ hx
    have HL := Hk52_0
    exact gl (cC Hk52 cN) (lC 5200 vL5200 Hk52_0 lN) vL5200 .nil (lp5200 gk52_0) HL (krw h (by kernel_rfl))
theorem ok_k52 (B : Nat) : P52 B (con52 k52) := fun _ _ hx => (h_k52 B).1 _ _ hx
theorem h_k29_0 (B : Nat) : (∀ a0 a1 r, k29_0 a0 a1 = some r → Q2900 B ((a0, (a1, ())), ()) r) := by
  refine k29_0.partial_correctness _ ?_
  · intro gk29_0 mk29_0 a0 a1 r h
    have Hk29_0 : P2900 B (lp2900 gk29_0) := fun _ _ hx => mk29_0 _ _ _ hx
    have HL := Hk29_0
    exact gl (cC (ok_k51 B) (cC (ok_k52 B) cN)) (lC 2900 vL2900 Hk29_0 lN) vL2900 .nil (lp2900 gk29_0) HL (krw h (by kernel_rfl))
theorem ok_k29_0 (B : Nat) : P2900 B (lp2900 k29_0) := fun _ _ hx => (h_k29_0 B) _ _ _ hx
theorem h_k53_0 (B : Nat) : (∀ a0 a1 r, k53_0 a0 a1 = some r → Q5300 B ((a0, (a1, ())), ()) r) := by
  refine k53_0.partial_correctness _ ?_
  · intro gk53_0 mk53_0 a0 a1 r h
    have Hk53_0 : P5300 B (lp5300 gk53_0) := fun _ _ hx => mk53_0 _ _ _ hx
    have HL := Hk53_0
    exact gl (cC (ok_k51 B) cN) (lC 5300 vL5300 Hk53_0 lN) vL5300 .nil (lp5300 gk53_0) HL (krw h (by kernel_rfl))
theorem ok_k53_0 (B : Nat) : P5300 B (lp5300 k53_0) := fun _ _ hx => (h_k53_0 B) _ _ _ hx
theorem ok_k53 (B : Nat) : P53 B (con53 k53) := by
  have h : ∀ a0 r, k53 a0 = some r → Q53 B ((a0, ()), ()) r := fun a0 r h => gf cN (lC 5300 vL5300 (ok_k53_0 B) lN) wF53 (.seq .nil (.seq (.seq .nil (.sub (.loop 5300))) .nil)) (krw h (by kernel_rfl))
  exact fun _ _ hx => h _ _ hx
theorem ok_k125 (B : Nat) : P125 B (con125 k125) := by
  have h : ∀ a0 r, k125 a0 = some r → Q125 B ((a0, ()), ()) r := fun a0 r h => gf cN lN wF125 .nil (krw h (by kernel_rfl))
  exact fun _ _ hx => h _ _ hx
theorem ok_k91 (B : Nat) : P91 B (con91 k91) := by
  have h : ∀ a0 r, k91 a0 = some r → Q91 B ((a0, ()), ()) r := fun a0 r h => gf cN lN wF91 .nil (krw h (by kernel_rfl))
  exact fun _ _ hx => h _ _ hx
theorem ok_k92 (B : Nat) : P92 B (con92 k92) := by
  have h : ∀ a0 r, k92 a0 = some r → Q92 B ((a0, ()), ()) r := fun a0 r h => gf cN lN wF92 .nil (krw h (by kernel_rfl))
  exact fun _ _ hx => h _ _ hx
theorem h_k56 (B : Nat) : (∀ a0 r, k56 a0 = some r → Q56 B ((a0, ()), ()) r) ∧ (∀ a0 a1 r, k56_0 a0 a1 = some r → Q5600 B ((a0, (a1, ())), ()) r) := by
  refine k56.mutual_partial_correctness _ _ ?_ ?_
  · intro gk56_0 mk56_0 a0 r h
    have Hk56_0 : P5600 B (lp5600 gk56_0) := fun _ _ hx => mk56_0 _ _ _ hx
    exact gf (cC (ok_k51 B) (cC (ok_k91 B) (cC (ok_k92 B) cN))) (lC 5600 vL5600 Hk56_0 lN) wF56 (.seq .nil (.seq (.seq .nil (.sub (.loop 5600))) .nil)) (krw h (by kernel_rfl))
  · intro gk56 gk56_0 mk56 mk56_0 a0 a1 r h
    have Hk56 : P56 B (con56 gk56) := fun _ _ hx => mk56 _ _ hx
    have Hk56_0 : P5600 B (lp5600 gk56_0) := fun _ _ hx => mk56_0 _ _ _ hx
    have HL := Hk56_0
    exact gl (cC Hk56 cN) (lC 5600 vL5600 Hk56_0 lN) vL5600 .nil (lp5600 gk56_0) HL (krw h (by kernel_rfl))
theorem ok_k56 (B : Nat) : P56 B (con56 k56) := fun _ _ hx => (h_k56 B).1 _ _ hx
theorem h_k54 (B : Nat) : (∀ a0 r, k54 a0 = some r → Q54 B ((a0, ()), ()) r) ∧ (∀ a0 a1 r, k54_0 a0 a1 = some r → Q5400 B ((a0, (a1, ())), ()) r) ∧ (∀ a0 r, k90 a0 = some r → Q90 B ((a0, ()), ()) r) := by
  refine k54.mutual_partial_correctness _ _ _ ?_ ?_ ?_
  · intro gk54_0 mk54_0 a0 r h
    have Hk54_0 : P5400 B (lp5400 gk54_0) := fun _ _ hx => mk54_0 _ _ _ hx
    exact gf cN (lC 5400 vL5400 Hk54_0 lN) wF54 (.seq .nil (.seq (.seq .nil (.sub (.loop 5400))) .nil)) (krw h (by kernel_rfl))
  · intro gk54_0 gk90 mk54_0 mk90 a0 a1 r h
    have Hk54_0 : P5400 B (lp5400 gk54_0) := fun _ _ hx => mk54_0 _ _ _ hx
    have Hk90 : P90 B (con90 gk90) := fun _ _ hx => mk90 _ _ hx
    have HL := Hk54_0
    exact gl (cC Hk90 cN) (lC 5400 vL5400 Hk54_0 lN) vL5400 .nil (lp5400 gk54_0) HL (krw h (by kernel_rfl))
  · intro gk54 mk54 a0 r h
    have Hk54 : P54 B (con54 gk54) := fun _ _ hx => mk54 _ _ hx
    exact gf (cC (ok_k51 B) (cC Hk54 (cC (ok_k56 B) (cC (ok_k91 B) (cC (ok_k125 B) cN))))) lN wF90 (.seq .nil (.seq (.seq (.join [] [] [(.normal, ⟨[(20, .bool)], [], []⟩)] .nil) .nil) .nil)) (krw h (by kernel_rfl))
theorem ok_k54 (B : Nat) : P54 B (con54 k54) := fun _ _ hx => (h_k54 B).1 _ _ hx
theorem ok_k57 (B : Nat) : P57 B (con57 k57) := by
  have h : ∀ a0 a1 r, k57 a0 a1 = some r → Q57 B ((a0, (a1, ())), ()) r := fun a0 a1 r h => gf cN lN wF57 .nil (krw h (by kernel_rfl))
  exact fun _ _ hx => h _ _ _ hx
theorem h_k55 (B : Nat) : (∀ a0 r, k55 a0 = some r → Q55 B ((a0, ()), ()) r) ∧ (∀ a0 a1 a2 r, k55_0 a0 a1 a2 = some r → Q5500 B ((a0, (a1, (a2, ()))), ()) r) := by
  refine k55.mutual_partial_correctness _ _ ?_ ?_
  · intro gk55_0 mk55_0 a0 r h
    have Hk55_0 : P5500 B (lp5500 gk55_0) := fun _ _ hx => mk55_0 _ _ _ _ hx
    exact gf cN (lC 5500 vL5500 Hk55_0 lN) wF55 (.seq .nil (.seq .nil (.seq (.seq .nil (.sub (.loop 5500))) .nil))) (krw h (by kernel_rfl))
  · intro gk55 gk55_0 mk55 mk55_0 a0 a1 a2 r h
    have Hk55 : P55 B (con55 gk55) := fun _ _ hx => mk55 _ _ hx
    have Hk55_0 : P5500 B (lp5500 gk55_0) := fun _ _ hx => mk55_0 _ _ _ _ hx
    have HL := Hk55_0
    exact gl (cC Hk55 (cC (ok_k57 B) cN)) (lC 5500 vL5500 Hk55_0 lN) vL5500 .nil (lp5500 gk55_0) HL (krw h (by kernel_rfl))
theorem ok_k55 (B : Nat) : P55 B (con55 k55) := fun _ _ hx => (h_k55 B).1 _ _ hx
theorem ok_k29 (B : Nat) : P29 B (con29 k29) := by
  have h : ∀ a0 r, k29 a0 = some r → Q29 B ((a0, ()), ()) r := fun a0 r h => gf (cC (ok_k51 B) (cC (ok_k52 B) (cC (ok_k53 B) (cC (ok_k54 B) (cC (ok_k55 B) (cC (ok_k56 B) cN)))))) (lC 2900 vL2900 (ok_k29_0 B) lN) wF29 (.seq .nil (.seq (.seq .nil (.sub (.loop 2900))) .nil)) (krw h (by kernel_rfl))
  exact fun _ _ hx => h _ _ hx
theorem h_k18_0 (B : Nat) : (∀ a0 a1 r, k18_0 a0 a1 = some r → Q1800 B ((a0, (a1, ())), ()) r) := by
  refine k18_0.partial_correctness _ ?_
  · intro gk18_0 mk18_0 a0 a1 r h
    have Hk18_0 : P1800 B (lp1800 gk18_0) := fun _ _ hx => mk18_0 _ _ _ hx
    have HL := Hk18_0
    exact gl (cC (ok_k29 B) cN) (lC 1800 vL1800 Hk18_0 lN) vL1800 .nil (lp1800 gk18_0) HL (krw h (by kernel_rfl))
theorem ok_k18_0 (B : Nat) : P1800 B (lp1800 k18_0) := fun _ _ hx => (h_k18_0 B) _ _ _ hx
theorem h_k58 (B : Nat) : (∀ a0 r, k58 a0 = some r → Q58 B ((a0, ()), ()) r) ∧ (∀ a0 a1 a2 r, k58_0 a0 a1 a2 = some r → Q5800 B ((a0, (a1, (a2, ()))), ()) r) := by
  refine k58.mutual_partial_correctness _ _ ?_ ?_
  · intro gk58_0 mk58_0 a0 r h
    have Hk58_0 : P5800 B (lp5800 gk58_0) := fun _ _ hx => mk58_0 _ _ _ _ hx
    exact gf cN (lC 5800 vL5800 Hk58_0 lN) wF58 (.seq .nil (.seq .nil (.seq .nil (.seq (.seq .nil (.sub (.loop 5800))) .nil)))) (krw h (by kernel_rfl))
  · intro gk58 gk58_0 mk58 mk58_0 a0 a1 a2 r h
    have Hk58 : P58 B (con58 gk58) := fun _ _ hx => mk58 _ _ hx
    have Hk58_0 : P5800 B (lp5800 gk58_0) := fun _ _ hx => mk58_0 _ _ _ _ hx
    have HL := Hk58_0
    exact gl (cC (ok_k57 B) (cC Hk58 cN)) (lC 5800 vL5800 Hk58_0 lN) vL5800 .nil (lp5800 gk58_0) HL (krw h (by kernel_rfl))
theorem ok_k58 (B : Nat) : P58 B (con58 k58) := fun _ _ hx => (h_k58 B).1 _ _ hx
theorem h_k30_0 (B : Nat) : (∀ a0 a1 a2 a3 r, k30_0 a0 a1 a2 a3 = some r → Q3000 B ((a0, (a1, (a2, (a3, ())))), ()) r) := by
  refine k30_0.partial_correctness _ ?_
  · intro gk30_0 mk30_0 a0 a1 a2 a3 r h
    have Hk30_0 : P3000 B (lp3000 gk30_0) := fun _ _ hx => mk30_0 _ _ _ _ _ hx
    have HL := Hk30_0
    exact gl (cC (ok_k57 B) (cC (ok_k58 B) cN)) (lC 3000 vL3000 Hk30_0 lN) vL3000 .nil (lp3000 gk30_0) HL (krw h (by kernel_rfl))
theorem ok_k30_0 (B : Nat) : P3000 B (lp3000 k30_0) := fun _ _ hx => (h_k30_0 B) _ _ _ _ _ hx
theorem ok_k93 (B : Nat) : P93 B (con93 k93) := by
  have h : ∀ a0 a1 r, k93 a0 a1 = some r → Q93 B ((a0, (a1, ())), ()) r := fun a0 a1 r h => gf (cC (ok_k92 B) cN) lN wF93 .nil (krw h (by kernel_rfl))
  exact fun _ _ hx => h _ _ _ hx
theorem h_k60 (B : Nat) : (∀ a0 r, k60 a0 = some r → Q60 B ((a0, ()), ()) r) ∧ (∀ a0 a1 a2 r, k60_0 a0 a1 a2 = some r → Q6000 B ((a0, (a1, (a2, ()))), ()) r) := by
  refine k60.mutual_partial_correctness _ _ ?_ ?_
  · intro gk60_0 mk60_0 a0 r h
    have Hk60_0 : P6000 B (lp6000 gk60_0) := fun _ _ hx => mk60_0 _ _ _ _ hx
    exact gf cN (lC 6000 vL6000 Hk60_0 lN) wF60 (.seq .nil (.seq .nil (.seq .nil (.seq (.seq .nil (.sub (.loop 6000))) .nil)))) (krw h (by kernel_rfl))
  · intro gk60 gk60_0 mk60 mk60_0 a0 a1 a2 r h
    have Hk60 : P60 B (con60 gk60) := fun _ _ hx => mk60 _ _ hx
    have Hk60_0 : P6000 B (lp6000 gk60_0) := fun _ _ hx => mk60_0 _ _ _ _ hx
    have HL := Hk60_0
    exact gl (cC (ok_k57 B) (cC Hk60 (cC (ok_k93 B) cN))) (lC 6000 vL6000 Hk60_0 lN) vL6000 (.seq .nil (.seq (.sub (.seq .nil (.seq (.seq (.join [] [] [(.normal, ⟨[(38, .bool)], [], []⟩)] .nil) .nil) .nil))) .nil)) (lp6000 gk60_0) HL (krw h (by kernel_rfl))
theorem ok_k60 (B : Nat) : P60 B (con60 k60) := fun _ _ hx => (h_k60 B).1 _ _ hx
theorem h_k59 (B : Nat) : (∀ a0 r, k59 a0 = some r → Q59 B ((a0, ()), ()) r) ∧ (∀ a0 a1 a2 r, k59_0 a0 a1 a2 = some r → Q5900 B ((a0, (a1, (a2, ()))), ()) r) := by
  refine k59.mutual_partial_correctness _ _ ?_ ?_
  · intro gk59_0 mk59_0 a0 r h
    have Hk59_0 : P5900 B (lp5900 gk59_0) := fun _ _ hx => mk59_0 _ _ _ _ hx
    exact gf cN (lC 5900 vL5900 Hk59_0 lN) wF59 (.seq .nil (.seq .nil (.seq (.seq .nil (.sub (.loop 5900))) .nil))) (krw h (by kernel_rfl))
  · intro gk59 gk59_0 mk59 mk59_0 a0 a1 a2 r h
    have Hk59 : P59 B (con59 gk59) := fun _ _ hx => mk59 _ _ hx
    have Hk59_0 : P5900 B (lp5900 gk59_0) := fun _ _ hx => mk59_0 _ _ _ _ hx
    have HL := Hk59_0
    exact gl (cC (ok_k57 B) (cC Hk59 (cC (ok_k60 B) cN))) (lC 5900 vL5900 Hk59_0 lN) vL5900 .nil (lp5900 gk59_0) HL (krw h (by kernel_rfl))
theorem ok_k59 (B : Nat) : P59 B (con59 k59) := fun _ _ hx => (h_k59 B).1 _ _ hx
theorem h_k30_1 (B : Nat) : (∀ a0 a1 a2 r, k30_1 a0 a1 a2 = some r → Q3001 B ((a0, (a1, (a2, ()))), ()) r) := by
  refine k30_1.partial_correctness _ ?_
  · intro gk30_1 mk30_1 a0 a1 a2 r h
    have Hk30_1 : P3001 B (lp3001 gk30_1) := fun _ _ hx => mk30_1 _ _ _ _ hx
    have HL := Hk30_1
    exact gl (cC (ok_k57 B) (cC (ok_k58 B) (cC (ok_k59 B) (cC (ok_k60 B) cN)))) (lC 3000 vL3000 (ok_k30_0 B) (lC 3001 vL3001 Hk30_1 lN)) vL3001 (.seq .nil (.seq (.sub (.seq .nil (.seq .nil (.sub (.loop 3000))))) .nil)) (lp3001 gk30_1) HL (krw h (by kernel_rfl))
theorem ok_k30_1 (B : Nat) : P3001 B (lp3001 k30_1) := fun _ _ hx => (h_k30_1 B) _ _ _ _ hx
theorem ok_k30 (B : Nat) : P30 B (con30 k30) := by
  have h : ∀ a0 r, k30 a0 = some r → Q30 B ((a0, ()), ()) r := fun a0 r h => gf cN (lC 3001 vL3001 (ok_k30_1 B) lN) wF30 (.seq .nil (.seq .nil (.seq (.seq .nil (.sub (.loop 3001))) .nil))) (krw h (by kernel_rfl))
  exact fun _ _ hx => h _ _ hx
theorem ok_k18 (B : Nat) : P18 B (con18 k18) := by
  have h : ∀ a0 r, k18 a0 = some r → Q18 B ((a0, ()), ()) r := fun a0 r h => gf (cC (ok_k30 B) cN) (lC 1800 vL1800 (ok_k18_0 B) lN) wF18 (.seq .nil (.seq (.seq .nil (.sub (.loop 1800))) .nil)) (krw h (by kernel_rfl))
  exact fun _ _ hx => h _ _ hx
theorem h_k27 (B : Nat) : (∀ a0 r, k27 a0 = some r → Q27 B ((a0, ()), ()) r) ∧ (∀ a0 a1 a2 r, k27_0 a0 a1 a2 = some r → Q2700 B ((a0, (a1, (a2, ()))), ()) r) := by
  refine k27.mutual_partial_correctness _ _ ?_ ?_
  · intro gk27_0 mk27_0 a0 r h
    have Hk27_0 : P2700 B (lp2700 gk27_0) := fun _ _ hx => mk27_0 _ _ _ _ hx
    exact gf cN (lC 2700 vL2700 Hk27_0 lN) wF27 (.seq .nil (.seq .nil (.seq (.seq .nil (.sub (.loop 2700))) .nil))) (krw h (by kernel_rfl))
  · intro gk27 gk27_0 mk27 mk27_0 a0 a1 a2 r h
    have Hk27 : P27 B (con27 gk27) := fun _ _ hx => mk27 _ _ hx
    have Hk27_0 : P2700 B (lp2700 gk27_0) := fun _ _ hx => mk27_0 _ _ _ _ hx
    have HL := Hk27_0
    exact gl (cC Hk27 cN) (lC 2700 vL2700 Hk27_0 lN) vL2700 .nil (lp2700 gk27_0) HL (krw h (by kernel_rfl))
theorem ok_k27 (B : Nat) : P27 B (con27 k27) := fun _ _ hx => (h_k27 B).1 _ _ hx
theorem h_k12 (B : Nat) : (∀ a0 r, k12 a0 = some r → Q12 B ((a0, ()), ()) r) ∧ (∀ a0 a1 r, k12_0 a0 a1 = some r → Q1200 B ((a0, (a1, ())), ()) r) := by
  refine k12.mutual_partial_correctness _ _ ?_ ?_
  · intro gk12_0 mk12_0 a0 r h
    have Hk12_0 : P1200 B (lp1200 gk12_0) := fun _ _ hx => mk12_0 _ _ _ hx
    exact gf cN (lC 1200 vL1200 Hk12_0 lN) wF12 (.seq .nil (.seq (.seq .nil (.sub (.loop 1200))) .nil)) (krw h (by kernel_rfl))
  · intro gk12 gk12_0 mk12 mk12_0 a0 a1 r h
    have Hk12 : P12 B (con12 gk12) := fun _ _ hx => mk12 _ _ hx
    have Hk12_0 : P1200 B (lp1200 gk12_0) := fun _ _ hx => mk12_0 _ _ _ hx
    have HL := Hk12_0
    exact gl (cC Hk12 (cC (ok_k27 B) cN)) (lC 1200 vL1200 Hk12_0 lN) vL1200 .nil (lp1200 gk12_0) HL (krw h (by kernel_rfl))
theorem ok_k12 (B : Nat) : P12 B (con12 k12) := fun _ _ hx => (h_k12 B).1 _ _ hx
theorem h_k13_0 (B : Nat) : (∀ a0 a1 a2 r, k13_0 a0 a1 a2 = some r → Q1300 B ((a0, (a1, (a2, ()))), ()) r) := by
  refine k13_0.partial_correctness _ ?_
  · intro gk13_0 mk13_0 a0 a1 a2 r h
    have Hk13_0 : P1300 B (lp1300 gk13_0) := fun _ _ hx => mk13_0 _ _ _ _ hx
    have HL := Hk13_0
    exact gl cN (lC 1300 vL1300 Hk13_0 lN) vL1300 .nil (lp1300 gk13_0) HL (krw h (by kernel_rfl))
theorem ok_k13_0 (B : Nat) : P1300 B (lp1300 k13_0) := fun _ _ hx => (h_k13_0 B) _ _ _ _ hx
theorem ok_k13 (B : Nat) : P13 B (con13 k13) := by
  have h : ∀ a0 a1 r, k13 a0 a1 = some r → Q13 B ((a0, (a1, ())), ()) r := fun a0 a1 r h => gf cN (lC 1300 vL1300 (ok_k13_0 B) lN) wF13 (.seq .nil (.seq (.seq .nil (.sub (.loop 1300))) .nil)) (krw h (by kernel_rfl))
  exact fun _ _ hx => h _ _ _ hx
theorem h_k32_0 (B : Nat) : (∀ a0 a1 a2 a3 r, k32_0 a0 a1 a2 a3 = some r → Q3200 B ((a0, (a1, (a2, (a3, ())))), ()) r) := by
  refine k32_0.partial_correctness _ ?_
  · intro gk32_0 mk32_0 a0 a1 a2 a3 r h
    have Hk32_0 : P3200 B (lp3200 gk32_0) := fun _ _ hx => mk32_0 _ _ _ _ _ hx
    have HL := Hk32_0
    exact gl cN (lC 3200 vL3200 Hk32_0 lN) vL3200 .nil (lp3200 gk32_0) HL (krw h (by kernel_rfl))
theorem ok_k32_0 (B : Nat) : P3200 B (lp3200 k32_0) := fun _ _ hx => (h_k32_0 B) _ _ _ _ _ hx
theorem ok_k32 (B : Nat) : P32 B (con32 k32) := by
  have h : ∀ a0 a1 r, k32 a0 a1 = some r → Q32 B ((a0, (a1, ())), ()) r := fun a0 a1 r h => gf cN (lC 3200 vL3200 (ok_k32_0 B) lN) wF32 (.seq .nil (.seq .nil (.seq (.seq .nil (.sub (.loop 3200))) .nil))) (krw h (by kernel_rfl))
  exact fun _ _ hx => h _ _ _ hx
theorem h_k31 (B : Nat) : (∀ a0 a1 r, k31 a0 a1 = some r → Q31 B ((a0, (a1, ())), ()) r) ∧ (∀ a0 a1 a2 r, k31_0 a0 a1 a2 = some r → Q3100 B ((a0, (a1, (a2, ()))), ()) r) := by
  refine k31.mutual_partial_correctness _ _ ?_ ?_
  · intro gk31_0 mk31_0 a0 a1 r h
    have Hk31_0 : P3100 B (lp3100 gk31_0) := fun _ _ hx => mk31_0 _ _ _ _ hx
    exact gf (cC (ok_k32 B) cN) (lC 3100 vL3100 Hk31_0 lN) wF31 (.seq .nil (.seq .nil (.seq (.seq .nil (.sub (.loop 3100))) .nil))) (krw h (by kernel_rfl))
  · intro gk31 gk31_0 mk31 mk31_0 a0 a1 a2 r h
    have Hk31 : P31 B (con31 gk31) := fun _ _ hx => mk31 _ _ _ hx
    have Hk31_0 : P3100 B (lp3100 gk31_0) := fun _ _ hx => mk31_0 _ _ _ _ hx
    have HL := Hk31_0
    exact gl (cC Hk31 cN) (lC 3100 vL3100 Hk31_0 lN) vL3100 .nil (lp3100 gk31_0) HL (krw h (by kernel_rfl))
theorem ok_k31 (B : Nat) : P31 B (con31 k31) := fun _ _ hx => (h_k31 B).1 _ _ _ hx
theorem h_k19_0 (B : Nat) : (∀ a0 a1 a2 a3 a4 r, k19_0 a0 a1 a2 a3 a4 = some r → Q1900 B ((a0, (a1, (a2, (a3, (a4, ()))))), ()) r) := by
  refine k19_0.partial_correctness _ ?_
  · intro gk19_0 mk19_0 a0 a1 a2 a3 a4 r h
    have Hk19_0 : P1900 B (lp1900 gk19_0) := fun _ _ hx => mk19_0 _ _ _ _ _ _ hx
    have HL := Hk19_0
    exact gl (cC (ok_k12 B) (cC (ok_k31 B) (cC (ok_k32 B) cN))) (lC 1900 vL1900 Hk19_0 lN) vL1900 (.seq .nil (.seq (.sub (.seq (.join [] [] [(.normal, ⟨[(6, .bool)], [], []⟩)] .nil) .nil)) .nil)) (lp1900 gk19_0) HL (krw h (by kernel_rfl))
theorem ok_k19_0 (B : Nat) : P1900 B (lp1900 k19_0) := fun _ _ hx => (h_k19_0 B) _ _ _ _ _ _ hx
theorem h_k19_1 (B : Nat) : (∀ a0 a1 a2 r, k19_1 a0 a1 a2 = some r → Q1901 B ((a0, (a1, (a2, ()))), ()) r) := by
  refine k19_1.partial_correctness _ ?_
  · intro gk19_1 mk19_1 a0 a1 a2 r h
    have Hk19_1 : P1901 B (lp1901 gk19_1) := fun _ _ hx => mk19_1 _ _ _ _ hx
    have HL := Hk19_1
    exact gl (cC (ok_k32 B) cN) (lC 1901 vL1901 Hk19_1 lN) vL1901 .nil (lp1901 gk19_1) HL (krw h (by kernel_rfl))
theorem ok_k19_1 (B : Nat) : P1901 B (lp1901 k19_1) := fun _ _ hx => (h_k19_1 B) _ _ _ _ hx
theorem h_k19_2 (B : Nat) : (∀ a0 a1 a2 r, k19_2 a0 a1 a2 = some r → Q1902 B ((a0, (a1, (a2, ()))), ()) r) := by
  refine k19_2.partial_correctness _ ?_
  · intro gk19_2 mk19_2 a0 a1 a2 r h
    have Hk19_2 : P1902 B (lp1902 gk19_2) := fun _ _ hx => mk19_2 _ _ _ _ hx
    have HL := Hk19_2
    exact gl (cC (ok_k32 B) cN) (lC 1902 vL1902 Hk19_2 lN) vL1902 .nil (lp1902 gk19_2) HL (krw h (by kernel_rfl))
theorem ok_k19_2 (B : Nat) : P1902 B (lp1902 k19_2) := fun _ _ hx => (h_k19_2 B) _ _ _ _ hx
theorem h_k34 (B : Nat) : (∀ a0 a1 a2 r, k34 a0 a1 a2 = some r → Q34 B ((a0, (a1, (a2, ()))), ()) r) ∧ (∀ a0 a1 a2 a3 r, k34_0 a0 a1 a2 a3 = some r → Q3400 B ((a0, (a1, (a2, (a3, ())))), ()) r) := by
  refine k34.mutual_partial_correctness _ _ ?_ ?_
  · intro gk34_0 mk34_0 a0 a1 a2 r h
    have Hk34_0 : P3400 B (lp3400 gk34_0) := fun _ _ hx => mk34_0 _ _ _ _ _ hx
    exact gf (cC (ok_k13 B) (cC (ok_k32 B) cN)) (lC 3400 vL3400 Hk34_0 lN) wF34 (.seq .nil (.seq (.seq .nil (.sub (.loop 3400))) .nil)) (krw h (by kernel_rfl))
  · intro gk34 gk34_0 mk34 mk34_0 a0 a1 a2 a3 r h
    have Hk34 : P34 B (con34 gk34) := fun _ _ hx => mk34 _ _ _ _ hx
    have Hk34_0 : P3400 B (lp3400 gk34_0) := fun _ _ hx => mk34_0 _ _ _ _ _ hx
    have HL := Hk34_0
    exact gl (cC Hk34 cN) (lC 3400 vL3400 Hk34_0 lN) vL3400 .nil (lp3400 gk34_0) HL (krw h (by kernel_rfl))
theorem ok_k34 (B : Nat) : P34 B (con34 k34) := fun _ _ hx => (h_k34 B).1 _ _ _ _ hx
theorem h_k33 (B : Nat) : (∀ a0 a1 a2 r, k33 a0 a1 a2 = some r → Q33 B ((a0, (a1, (a2, ()))), ()) r) ∧ (∀ a0 a1 a2 a3 r, k33_0 a0 a1 a2 a3 = some r → Q3300 B ((a0, (a1, (a2, (a3, ())))), ()) r) := by
  refine k33.mutual_partial_correctness _ _ ?_ ?_
  · intro gk33_0 mk33_0 a0 a1 a2 r h
    have Hk33_0 : P3300 B (lp3300 gk33_0) := fun _ _ hx => mk33_0 _ _ _ _ _ hx
    exact gf cN (lC 3300 vL3300 Hk33_0 lN) wF33 (.seq .nil (.seq (.seq .nil (.sub (.loop 3300))) .nil)) (krw h (by kernel_rfl))
  · intro gk33 gk33_0 mk33 mk33_0 a0 a1 a2 a3 r h
    have Hk33 : P33 B (con33 gk33) := fun _ _ hx => mk33 _ _ _ _ hx
    have Hk33_0 : P3300 B (lp3300 gk33_0) := fun _ _ hx => mk33_0 _ _ _ _ _ hx
    have HL := Hk33_0
    exact gl (cC (ok_k32 B) (cC Hk33 (cC (ok_k34 B) cN))) (lC 3300 vL3300 Hk33_0 lN) vL3300 (.seq .nil (.seq (.sub (.seq .nil (.seq .nil (.seq .nil (.seq (.seq (.join [] [] [(.normal, ⟨[(61, .bool)], [], []⟩)] .nil) .nil) .nil))))) .nil)) (lp3300 gk33_0) HL (krw h (by kernel_rfl))
theorem ok_k33 (B : Nat) : P33 B (con33 k33) := fun _ _ hx => (h_k33 B).1 _ _ _ _ hx
theorem ok_k19 (B : Nat) : P19 B (con19 k19) := by
  have h : ∀ a0 a1 r, k19 a0 a1 = some r → Q19 B ((a0, (a1, ())), ()) r := fun a0 a1 r h => gf (cC (ok_k12 B) (cC (ok_k13 B) (cC (ok_k31 B) (cC (ok_k33 B) (cC (ok_k34 B) cN))))) (lC 1900 vL1900 (ok_k19_0 B) (lC 1901 vL1901 (ok_k19_1 B) (lC 1902 vL1902 (ok_k19_2 B) lN))) wF19 (.seq .nil (.seq .nil (.seq (.join [] [] [(.normal, ⟨[(6, .bool)], [], []⟩)] .nil) (.seq .nil (.seq (.seq .nil (.sub (.loop 1900))) (.seq (.seq .nil (.sub (.loop 1901))) (.seq (.seq .nil (.sub (.loop 1902))) .nil))))))) (krw h (by kernel_rfl))
  exact fun _ _ hx => h _ _ _ hx
theorem h_k8_0 (B : Nat) : (∀ a0 a1 r, k8_0 a0 a1 = some r → Q800 B ((a0, (a1, ())), ()) r) := by
  refine k8_0.partial_correctness _ ?_
  · intro gk8_0 mk8_0 a0 a1 r h
    have Hk8_0 : P800 B (lp800 gk8_0) := fun _ _ hx => mk8_0 _ _ _ hx
    have HL := Hk8_0
    exact gl (cC (ok_k19 B) cN) (lC 800 vL800 Hk8_0 lN) vL800 .nil (lp800 gk8_0) HL (krw h (by kernel_rfl))
theorem ok_k8_0 (B : Nat) : P800 B (lp800 k8_0) := fun _ _ hx => (h_k8_0 B) _ _ _ hx
theorem ok_k8 (B : Nat) : P8 B (con8 k8) := by
  have h : ∀ a0 r, k8 a0 = some r → Q8 B ((a0, ()), ()) r := fun a0 r h => gf (cC (ok_k18 B) cN) (lC 800 vL800 (ok_k8_0 B) lN) wF8 (.seq .nil (.seq .nil (.seq (.seq .nil (.sub (.loop 800))) (.seq .nil (.seq (.seq (.join [] [] [(.normal, ⟨[(40, .bool)], [], []⟩)] .nil) .nil) .nil))))) (krw h (by kernel_rfl))
  exact fun _ _ hx => h _ _ hx
end Go.Lb.R
end
