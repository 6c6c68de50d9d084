/-
  Part 4 of 5. The law NamesMore of the names layer holds of the given program for every input whose bulk is at most 1048576: it returns true.
-/
import Derived.Test.YtdnndjdlfpkjlaaGreatDoorA3
import Derived.Calls
import Derived.Lib.Bytealg
import Derived.Lib.LaidTab
import Derived.Shelf.Small.Utf8
import Derived.Shelf.Small.Strs
import Derived.Shelf.Strings.Search1
import Derived.Shelf.Strings.Fields
import Derived.Shelf.Unicode.Latin
import Derived.Shelf.Strings.Runes
import Derived.Shelf.Unicode.Is16White
import Derived.Shelf.Unicode.IsSpaceAny
import Derived.Shelf.Unicode.Is16WhiteD
import Derived.Shelf.Unicode.IsSpaceAnyD
import Derived.Shelf.Strings.FieldsAny
import Derived.Shelf.Strings.FieldsFuncAny
import Derived.Shelf.Unicode.Is16Any
import Derived.Test.YtdnndjdlfpkjlaaGreatDoorProg
import Derived.WalkKit
import Derived.LaidEql
import Derived.Stop.Asserts
import Derived.RowKitTokens
import Derived.Test.YtdnndjdlfpkjlaaGreatDoorRows
import Derived.Test.YtdnndjdlfpkjlaaGreatDoorTie
import Derived.ChangeSame
import Derived.ChangeVars
import Derived.JoinedOf
import Derived.RowKit
import Derived.LaidLaws
import Derived.LaidHandle
import Derived.LaidSub
import Derived.Lay
import Derived.Carry
import Derived.Stop.Joined
section
set_option maxRecDepth 100000
namespace Go.Lb.R
open Go.Proofs
open Go.Lb
instance (B : Nat) : XOK (X B) := ⟨(hX B (fun _ => none) (fun _ => none)).x⟩
def innerL (l : List (Str × Bool)) : List (Str × Bool) := l.map fun p => (p.1, true)
def innerCon : Con := ⟨⟨[(0, .map 0)], [(0, .map .str .bool)], []⟩, [(.ret, ⟨[(1000, .map 1)], [(0, .map .str .bool), (1, .map .str .bool)], []⟩)], fun x => some (((), ()), (x.2.1, (innerL x.2.1, ())))⟩
noncomputable def b80 : Code := Tryz.f80.body.getD .skip
noncomputable def i0 : Array Oper := match b80 with | .seq (.region _ o _) _ => o | _ => #[]
noncomputable def i1 : Array Oper := match b80 with | .seq _ (.seq (.region _ o _) _) => o | _ => #[]
noncomputable def i2 : Array Oper := match b80 with | .seq _ (.seq _ (.seq (.seq (.region _ o _) _) _)) => o | _ => #[]
noncomputable def i3 : Array Oper := match b80 with | .seq _ (.seq _ (.seq (.seq _ (.block _ (.loop (.seq (.region _ o _) _)))) _)) => o | _ => #[]
noncomputable def i4 : Array Oper := match b80 with | .seq _ (.seq _ (.seq (.seq _ (.block _ (.loop (.seq _ (.seq _ (.block _ (.seq (.region _ o _) _))))))) _)) => o | _ => #[]
noncomputable def i5 : Array Oper := match b80 with | .seq _ (.seq _ (.seq (.seq _ (.block _ (.loop (.seq _ (.seq _ (.block _ (.seq _ (.region _ o _))))))))  _)) => o | _ => #[]
noncomputable def i6 : Array Oper := match b80 with | .seq _ (.seq _ (.seq _ (.seq (.region _ o _) _))) => o | _ => #[]
noncomputable def iLp : Code := .seq (.region 3 i3 false) (.seq (.cond (.tmp 9) .skip (.exit 0)) (.block 1 (.seq (.region 4 i4 false) (.region 5 i5 false))))
theorem b80_eq : b80 = .seq (.region 0 i0 false) (.seq (.region 1 i1 false) (.seq (.seq (.region 2 i2 false) (.block 0 (.loop iLp))) (.seq (.region 6 i6 false) .ret))) := by kernel_rfl
theorem f80_ok : FIok' Tryz.prog 80 (fiOf Tryz.f80 ⟨[], [], []⟩) := ⟨_, by kernel_rfl, by kernel_rfl, by kernel_rfl, rfl, rfl⟩
def visL (l' : List (Str × Bool)) (js : List Nat) : List (Str × Bool) := js.map fun j => ((l'.getD j ([], true)).1, true)
theorem visL_get {l' : List (Str × Bool)} (hnd : (l'.map (·.1)).Nodup) {j : Nat} {p : Str × Bool} (hj : l'[j]? = some p) : ∀ (js : List Nat), j ∉ js → (∀ i ∈ js, i < l'.length) → mgetL p.1 (visL l' js) = none
  | [], _, _ => rfl
  | i :: js, h, hl => by
    have hi := hl i (by simp)
    have hne : (p.1 == (l'.getD i ([], true)).1) = false := by
      rw [beq_eq_false_iff_ne]
      intro e
      have hjl := (List.getElem?_eq_some_iff.1 hj).1
      have h1 : (l'.map (·.1))[j]? = some p.1 := by simp [hj]
      have h2 : (l'.map (·.1))[i]? = some p.1 := by
        rw [e]
        simp [List.getD_eq_getElem?_getD, List.getElem?_eq_getElem hi]
      have := (List.getElem?_inj (l := l'.map (·.1)) (by simpa using hjl) hnd).1 (h1.trans h2.symm)
      exact h (by simp [this])
    simp only [visL, List.map_cons, mgetL, hne, cond_false]
    exact visL_get hnd hj js (fun hm => h (by simp [hm])) (fun i hi => hl i (by simp [hi]))
theorem mputL_app {β : Type} (k : Str) (v : β) : ∀ l : Mp β, mgetL k l = none → mputL k v l = l ++ [(k, v)]
  | [], _ => rfl
  | p :: l, h => by
    cases hb : (k == p.1) with
    | true => simp [mgetL, hb] at h
    | false =>
      simp only [mgetL, hb, cond_false] at h
      simp only [mputL, hb, cond_false, List.cons_append, mputL_app k v l h]
theorem visL_all {l l' : List (Str × Bool)} (hp : l'.Perm l) {js : List Nat} (hnd : js.Nodup) (hlt : ∀ i ∈ js, i < l'.length) (hall : ∀ j, j < l'.length → j ∈ js) : (visL l' js).Perm (innerL l) := by
  have h1 : js.Perm (List.range l'.length) := (List.perm_ext_iff_of_nodup hnd List.nodup_range).2 fun a => ⟨fun h => List.mem_range.2 (hlt a h), fun h => hall a (List.mem_range.1 h)⟩
  have h2 : visL l' (List.range l'.length) = innerL l' := by
    unfold visL innerL
    apply List.ext_getElem
    · simp
    · intro i h1 h2
      simp only [List.length_map, List.length_range] at h1
      simp [List.getD_eq_getElem?_getD, List.getElem?_eq_getElem h1]
  have h3 : (visL l' js).Perm (visL l' (List.range l'.length)) := h1.map _
  rw [h2] at h3
  exact h3.trans (hp.map _)
theorem HP.tailB {h0 h : Heap} {p : Nat × ABlk} {L : List (Nat × ABlk)} {R : List Rw} (hp : HP h0 h (p :: L) R) : HP h0 h L R :=
  ⟨hp.sub, fun q hq => hp.blk q (by simp [hq]), hp.row, (List.nodup_cons.1 hp.nd).2⟩
def mkB (l : List (Str × Bool)) : List (AV × AV) := encM AV.bool l
theorem inner_body (B : Nat) {N : Nm} {l : List (Str × Bool)} {h h0 : Heap} (hr : HR Ce.I N ⟨[], [(0, .map .str .bool l)], [], [], 1⟩ h h0) :
    ACalls (X B) 80 [.map (some (N.o 0))] h fun e h' => ∃ (v : Val) (N' : Nm) (s' : XS) (av : AV), e = .ret av ∧ Ext 1 N N' ∧ HR Ce.I N' s' h' h0 ∧ okV N' s'.c v ∧ Weak av (v.enc Ce.I N') ∧ packA (idN [0]) .ret { s' with A := [(1000, v)] } innerCon.al = some (((), ()), (l, (innerL l, ()))) := by
  obtain ⟨fn, f1, f2, f3, f4, f5⟩ := f80_ok.ex
  have hXX := (hX B (fun _ => none) (fun _ => none)).x
  refine acalls_ws hXX f1 f2 f3 (n := 15) f4 (rs := [.tmp 2]) f5 (by simp) ?_
  obtain ⟨L, hlen, hL, hP⟩ := hr.heap
  obtain ⟨k, hk, l', hperm, hkk, hnd⟩ := hL 0 0 (.map .str .bool l) rfl
  have hLe : L = [(N.o 0, .map (mkB l'))] := by
    match L, hlen, hk with
    | [p], _, hk => simp at hk; rw [hk, hkk]; rfl
  have hnd' : (l'.map (·.1)).Nodup := ((hperm.map (·.1)).nodup_iff).2 hnd
  have hR0 : HP h0 h [(N.o 0, .map (mkB l'))] [] := by rw [← hLe]; exact hP
  show WS (X B) 15 b80 _ ⟨look [(0, AV.map (some (N.o 0)))], h⟩
  rw [b80_eq]
  generalize hQ : (retPost (X B) [.tmp 2] fun e h' => ∃ (v : Val) (N' : Nm) (s' : XS) (av : AV), e = .ret av ∧ Ext 1 N N' ∧ HR Ce.I N' s' h' h0 ∧ okV N' s'.c v ∧ Weak av (v.enc Ce.I N') ∧ packA (idN [0]) .ret { s' with A := [(1000, v)] } innerCon.al = some (((), ()), (l, (innerL l, ())))) = Q
  refine sr (rkE [] 1 [0] [(0, AV.map (some (N.o 0)))] (nt ?_ (by decide)))
  refine sr (mkm (some 5) hR0 fun b1 h1 hP1 => ?_)
  refine rkE [] 1 [0, 3] [(0, AV.map (some (N.o 0))), (3, AV.map (some b1))] (nt ?_ (by decide))
  refine ws_seq (sr (rkE [] 1 [0, 3, 6] [(0, AV.map (some (N.o 0))), (3, AV.map (some b1)), (6, AV.map (some (N.o 0)))] ?_))
  refine rgm (m := N.o 0) (kvs := mkB l') (some 7) hP1 (hP1.get 1 rfl) fun bi h2 hP2 => nt ?_ (by decide)
  refine ws_block (ws_loop ?_)
  have hkl : (mkB l').length = l'.length := by simp [mkB, encM]
  have rounds : ∀ (d : Nat) (js : List Nat) (h3 : Heap), ((List.range l'.length).filter fun i => !js.contains i).length < d → js.Nodup → (∀ i ∈ js, i < l'.length) → HP h0 h3 [(bi, .miter (N.o 0) l'.length js), (b1, .map (mkB (visL l' js))), (N.o 0, .map (mkB l'))] [] →
      WL (X B) 15 iLp (inBlockA 0 (thenA (WS (X B) 15 (.seq (.region 6 i6 false) .ret) Q) Q)) ⟨look [(3, AV.map (some b1)), (7, .ptr bi 0)], h3⟩ := by
    intro d
    induction d with
    | zero => intro js h3 hd; omega
    | succ d ih =>
      intro js h3 hd hjn hjl hP3
      refine wl_unfold ?_
      refine sr (nxm (m := N.o 0) (kvs := mkB l') (some 8) 0 hP3 rfl (hP3.get 2 rfl) hkl (fun j kv hjk hjs h4 hP4 => ?_) (fun hall => ?_))
      ·
        have hP4 : HP h0 h4 [(bi, .miter (N.o 0) l'.length (js ++ [j])), (b1, .map (mkB (visL l' js))), (N.o 0, .map (mkB l'))] [] := hP4
        obtain ⟨p, hp1, hp2⟩ : ∃ p, l'[j]? = some p ∧ kv = (ss p.1, AV.bool p.2) := by
          simp only [mkB, encM, List.getElem?_map, Option.map_eq_some_iff] at hjk
          obtain ⟨p, h1, h2⟩ := hjk
          exact ⟨p, h1, h2.symm⟩
        subst hp2
        have hjlt := (List.getElem?_eq_some_iff.1 hp1).1
        refine rkE [] 1 [3, 7, 9] [(3, AV.map (some b1)), (7, .ptr bi 0), (9, .bool true)] (nt ?_ (by decide))
        refine ws_seq (ws_cond (t := true) (by rfl) (fun _ => ws_skip (t_norm ?_)) (fun e => by cases e))
        refine ws_block (sr (ent (m := N.o 0) (N := l'.length) (kvs := mkB l') (j := j) (js := js ++ [j]) (kv := (ss p.1, AV.bool p.2)) (some 10) (hP4.get 0 rfl) (hP4.get 2 rfl) hkl (by simp) hjk ?_))
        refine rkE [] 2 [3, 7, 4] [(3, AV.map (some b1)), (7, .ptr bi 0), (4, ss p.1)] (nt ?_ (by decide))
        refine ws_region (rkE [] 2 [3, 7, 12, 13] [(3, AV.map (some b1)), (7, .ptr bi 0), (12, AV.map (some b1)), (13, ss p.1)] ?_)
        refine mup (b := b1) (kvs := mkB (visL l' js)) (ss p.1) (.bool true) none 1 hP4 rfl (putKV_encM AV.bool p.1 true (visL l' js)) (fun h5 hP5 => ?_)
        have hvis : mputL p.1 true (visL l' js) = visL l' (js ++ [j]) := by
          rw [mputL_app _ _ _ (visL_get hnd' hp1 js hjs hjl)]
          simp [visL, List.getD_eq_getElem?_getD, hp1]
        rw [hvis] at hP5
        have hP5 : HP h0 h5 [(bi, .miter (N.o 0) l'.length (js ++ [j])), (b1, .map (mkB (visL l' (js ++ [j])))), (N.o 0, .map (mkB l'))] [] := hP5
        refine nl ?_ (by decide)
        refine b_norm (t_norm (WL.wk (ke [3, 7]) (ih (js ++ [j]) h5 ?_ ?_ ?_ hP5)))
        · have : ((List.range l'.length).filter fun i => !(js ++ [j]).contains i).length < ((List.range l'.length).filter fun i => !js.contains i).length := by
            have e : ((List.range l'.length).filter fun i => !(js ++ [j]).contains i) = ((List.range l'.length).filter fun i => !js.contains i).filter fun i => !(i == j) := by
              rw [List.filter_filter]
              refine List.filter_congr fun i _ => ?_
              rw [Bool.eq_iff_iff]
              simp [and_comm]
            rw [e]
            refine List.length_filter_lt_length_iff_exists.2 ⟨j, ?_, by simp⟩
            simp [hjlt, hjs]
          omega
        · exact List.nodup_append.2 ⟨hjn, by simp, fun a ha b hb => by simp at hb; subst hb; exact fun e => hjs (e ▸ ha)⟩
        · intro i hi
          rcases List.mem_append.1 hi with hi | hi
          · exact hjl i hi
          · simp at hi; subst hi; exact hjlt
      ·
        refine rkE [] 1 [3, 9] [(3, AV.map (some b1)), (9, .bool false)] (nt ?_ (by decide))
        refine ws_seq (ws_cond (t := false) (by rfl) (fun e => by cases e) (fun _ => ws_exit (t_exit (t_exit (b_at (t_norm ?_))))))
        refine sr (rkE [] 2 [2] [(2, AV.map (some b1))] (nt (ws_ret ?_) (by decide)))
        subst hQ
        refine wk_mk ?_
        show ∃ (v : Val) (N' : Nm) (s' : XS) (av : AV), AEnd.ret (AV.map (some b1)) = .ret av ∧ Ext 1 N N' ∧ HR Ce.I N' s' h3 h0 ∧ okV N' s'.c v ∧ Weak av (v.enc Ce.I N') ∧ packA (idN [0]) .ret { s' with A := [(1000, v)] } innerCon.al = some (((), ()), (l, (innerL l, ())))
        have hperm2 := visL_all hperm hjn hjl hall
        refine ⟨.map 1, N.blk 1 b1, ⟨[], [(1, .map .str .bool (innerL l)), (0, .map .str .bool l)], [], [], 2⟩, _, rfl, ext_blk b1 1, ?_, by simp only [okV]; omega, by simp only [Val.enc, Nm.blk, if_true]; exact Weak.refl _, rfl⟩
        refine ⟨⟨[(b1, .map (mkB (visL l' js))), (N.o 0, .map (mkB l'))], rfl, fun i nm b hi => ?_, HP.tailB hP3⟩, fun e he => ?_, fun e he => (by cases he), fun e he => (by cases he)⟩
        · match i with
          | 0 =>
            simp only [List.getElem?_cons_zero, Option.some.injEq, Prod.mk.injEq] at hi
            obtain ⟨rfl, rfl⟩ := hi
            refine ⟨_, by simp [Nm.blk]; rfl, visL l' js, hperm2, rfl, ?_⟩
            simpa [innerL, Function.comp_def] using hnd
          | 1 =>
            simp only [List.getElem?_cons_succ, List.getElem?_cons_zero, Option.some.injEq, Prod.mk.injEq] at hi
            obtain ⟨rfl, rfl⟩ := hi
            exact ⟨_, by simp [Nm.blk]; rfl, l', hperm, rfl, hnd⟩
          | i + 2 => simp at hi
        · simp only [List.mem_cons, List.not_mem_nil, or_false] at he
          rcases he with rfl | rfl
          · exact ⟨(by decide : 1 < 2), by simp only [okB]⟩
          · exact ⟨(by decide : 0 < 2), by simp only [okB]⟩
  refine WL.wk (ke [3, 7]) (rounds _ [] h2 (Nat.lt_succ_self _) List.nodup_nil (fun _ h => by cases h) (by simpa [mkB, encM, visL] using hP2))
theorem inner_ok (B : Nat) (con : FuncId → Option Con) (lp : Nat → Option (FuncId × List Nat × Con)) : ∀ x y, innerCon.fn x = some y → FnOK1 (X B) (mkC con lp) 80 innerCon x y := by
  intro x y hx N t h h0 hs
  have hx : some (((), ()), (x.2.1, (innerL x.2.1, ()))) = some y := hx
  injection hx with hx
  subst hx
  have hr : HR Ce.I N ⟨[], [(0, .map .str .bool x.2.1)], [], [], 1⟩ h h0 := ⟨hs.heap, hs.okH, hs.okF, hs.okR⟩
  exact fn_post (L := innerCon) (C := Ce) (x := x) (inner_body B hr)
end Go.Lb.R
end
section
namespace Go.Lb
open Go.RowKit
theorem pure_calls {X : Cx} {f : FuncId} {args : List AV} {v : AV} (he : Enters X.P f) (h : ∀ fz w (cargs : Array Value), GRel X.B fz w X.G → RelL fz w args cargs.toList → ∃ c, Calls X.P f cargs w (fun e w' => e = .returned c ∧ w' = w) ∧ Rel fz w v c) : Pure X f args v := fun h0 R hR => ⟨he, fun fz w cargs h1 h2 h3 => by
  obtain ⟨c, hc, hv⟩ := h fz w cargs h2 h3
  refine hc.mono ?_
  rintro e w' ⟨rfl, rfl⟩
  exact ⟨.ret v, h0, fz, hR, hv, h1, Evo.refl _ _ _⟩⟩
theorem pure_calls_texts {X : Cx} {f : FuncId} {args : List AV} {l : List Str} {E : TypeId} (hl : l.length ≤ maxLen ∧ ∀ s ∈ l, s.length ≤ 9223372036854775807) (he : Enters X.P f) (h : ∀ fz w (cargs : Array Value), GRel X.B fz w X.G → RelL fz w args cargs.toList →
    Calls X.P f cargs w (fun e w' => e = .returned (.slice (some ⟨w.heap.size, 0, none⟩) l.length l.length) ∧ w' = w.alloc (.cells (l.map fun s => Value.string ⟨s.toArray⟩).toArray E))) : Pure X f args (sN l) := fun h0 R hR => ⟨he, fun fz w cargs h1 h2 h3 => by
  refine (h fz w cargs h2 h3).mono ?_
  rintro e w' ⟨rfl, rfl⟩
  have hr : RelL fz w (encN l) (l.map fun s => Value.string ⟨s.toArray⟩).toArray.toList := by
    have : ∀ m : List Str, (∀ s ∈ m, s.length ≤ 9223372036854775807) → RelL fz w (encN m) (m.map fun s => Value.string ⟨s.toArray⟩) := by
      intro m
      induction m with
      | nil => intro _; simp [encN, RelL]
      | cons s m ih =>
        intro hm
        simp only [encN, List.map_cons, RelL]
        exact ⟨_, _, rfl, by simp only [Rel]; exact ⟨trivial, hm s (by simp)⟩, ih fun s hs => hm s (by simp [hs])⟩
    simpa using this l hl.2
  have hn : (encN l).length ≤ l.length := by simp [encN]
  refine ⟨.ret (sN l), h0, fzAdd fz w.heap.size l.length, hR, ?_, srel_alloc_ro h1 _ _ (by simp), evo_alloc_ro h1 _ _ _⟩
  show Rel _ _ (sN l) _
  simp only [Rel]
  exact ⟨_, _, rfl, Nat.le_refl _, hl.1, trivial, .inr ⟨_, _, rfl, relAt_new h1 hr hn⟩⟩⟩
theorem tab_of_grel {B : Nat} {P : Program} {fz : Fz} {w : World} {G : Nat → AV} {name : String} {k : IntKind} {zs : List Int} {g : Nat} (hG : GRel B fz w G) (hg : P.globalNamed name = some g) (hv : G g = .agg (zs.map (AV.int k))) : Lib.TabIs P w name k zs := by
  have h := hG g
  rw [hv] at h
  obtain ⟨_, cs, E, fr, h1, h2⟩ := h
  unfold Lib.TabIs World.var?
  rw [hg]
  simp only [Option.bind_some, h1, Option.some.injEq]
  have : ∀ (zs : List Int) (l : List Value), RelL fz w (zs.map (AV.int k)) l → l = zs.map fun z => Value.int k z := by
    intro zs
    induction zs with
    | nil => intro l h; simpa [RelL] using h
    | cons z zs ih =>
      intro l h
      simp only [List.map_cons, RelL] at h
      obtain ⟨c, l', rfl, hc, h⟩ := h
      simp only [Rel] at hc
      rw [hc, ih l' h]
      rfl
  have := this zs cs.toList h2
  rw [← this]
end Go.Lb
end
section
namespace Go.Proofs
open Go.Shelf
def Tryz.lays119_ren : Go.Shelf.Ren := ⟨fun | 119 => 167 | n => n, fun | 21 => 21 | 4 => 4 | n => n, fun | n => n⟩
theorem Tryz.lays119 : Go.Proofs.Lays.n119 Tryz.prog Tryz.lays119_ren := {
  mixed := by kernel_rfl
  f119 := Tryz.func167.trans (congrArg some (by kernel_rfl))
  t4 := Tryz.underlying4
  a4 := Tryz.isAgg4
  z4 := Tryz.sizeOf4
  v4 := Tryz.zeroValue4
  t21 := Tryz.underlying21
  a21 := Tryz.isAgg21
  z21 := Tryz.sizeOf21
  v21 := Tryz.zeroValue21 }
theorem Tryz.utf8_ValidRune (r : Int) (w : World) :
    Calls Tryz.prog 167 #[.int .i32 r] w fun e w' => e = .returned (.bool (Lib.validRune r)) ∧ w' = w := Any.utf8_ValidRune Tryz.lays119 r w
def Tryz.lays137_ren : Go.Shelf.Ren := ⟨fun | 137 => 166 | 217 => 172 | 266 => 173 | n => n, fun | 9 => 9 | 5 => 5 | 3 => 3 | n => n, fun | n => n⟩
theorem Tryz.lays137 : Go.Proofs.Lays.n137 Tryz.prog Tryz.lays137_ren := {
  mixed := by kernel_rfl
  f137 := Tryz.func166.trans (congrArg some (by kernel_rfl))
  f217 := Tryz.func172.trans (congrArg some (by kernel_rfl))
  f266 := Tryz.func173.trans (congrArg some (by kernel_rfl))
  t3 := Tryz.underlying3
  a3 := Tryz.isAgg3
  z3 := Tryz.sizeOf3
  v3 := Tryz.zeroValue3
  t5 := Tryz.underlying5
  a5 := Tryz.isAgg5
  z5 := Tryz.sizeOf5
  v5 := Tryz.zeroValue5
  t9 := Tryz.underlying9
  a9 := Tryz.isAgg9
  z9 := Tryz.sizeOf9
  v9 := Tryz.zeroValue9 }
open Go.RowKit in
theorem Tryz.strings_IndexByte (s : ByteArray) (c : Int) (w : World) :
    Calls Tryz.prog 166 #[.string s, .int .u8 c] w fun e w' => e = .returned (.int .i64 (Lib.indexByte s.data.toList c.toNat.toUInt8)) ∧ w' = w := Any.strings_IndexByte Tryz.lays137 s c w
def Tryz.lays157_ren : Go.Shelf.Ren := ⟨fun | 157 => 130 | 229 => 155 | 199 => 156 | 261 => 163 | 311 => 170 | 312 => 171 | n => n, fun | 9 => 9 | 31 => 35 | 3 => 3 | 5 => 5 | 4 => 4 | 119 => 171 | 0 => 0 | 40 => 168 | 152 => 176 | 21 => 21 | 154 => 178 | 51 => 179 | 141 => 181 | 196 => 191 | 193 => 188 | 198 => 193 | 49 => 44 | 194 => 189 | 201 => 196 | 226 => 198 | 46 => 186 | 227 => 199 | n => n, fun | 0 => 1 | 6 => 2 | n => n⟩
theorem Tryz.lays157 : Go.Proofs.Lays.n157 Tryz.prog Tryz.lays157_ren := {
  mixed := by kernel_rfl
  f157 := Tryz.func130.trans (congrArg some (by kernel_rfl))
  f199 := Tryz.func156.trans (congrArg some (by kernel_rfl))
  f229 := Tryz.func155.trans (congrArg some (by kernel_rfl))
  f261 := Tryz.func163.trans (congrArg some (by kernel_rfl))
  f311 := Tryz.func170.trans (congrArg some (by kernel_rfl))
  f312 := Tryz.func171.trans (congrArg some (by kernel_rfl))
  t0 := Tryz.underlying0
  a0 := Tryz.isAgg0
  z0 := Tryz.sizeOf0
  v0 := Tryz.zeroValue0
  t3 := Tryz.underlying3
  a3 := Tryz.isAgg3
  z3 := Tryz.sizeOf3
  v3 := Tryz.zeroValue3
  t4 := Tryz.underlying4
  a4 := Tryz.isAgg4
  z4 := Tryz.sizeOf4
  v4 := Tryz.zeroValue4
  t5 := Tryz.underlying5
  a5 := Tryz.isAgg5
  z5 := Tryz.sizeOf5
  v5 := Tryz.zeroValue5
  t9 := Tryz.underlying9
  a9 := Tryz.isAgg9
  z9 := Tryz.sizeOf9
  v9 := Tryz.zeroValue9
  t21 := Tryz.underlying21
  a21 := Tryz.isAgg21
  z21 := Tryz.sizeOf21
  v21 := Tryz.zeroValue21
  t31 := Tryz.underlying35
  a31 := Tryz.isAgg35
  z31 := Tryz.sizeOf35
  v31 := Tryz.zeroValue35
  t40 := Tryz.underlying168
  a40 := Tryz.isAgg168
  z40 := Tryz.sizeOf168
  v40 := Tryz.zeroValue168
  t46 := Tryz.underlying186
  a46 := Tryz.isAgg186
  z46 := Tryz.sizeOf186
  v46 := Tryz.zeroValue186
  t49 := Tryz.underlying44
  a49 := Tryz.isAgg44
  z49 := Tryz.sizeOf44
  v49 := Tryz.zeroValue44
  t51 := Tryz.underlying179
  a51 := Tryz.isAgg179
  z51 := Tryz.sizeOf179
  v51 := Tryz.zeroValue179
  t119 := Tryz.underlying171
  a119 := Tryz.isAgg171
  z119 := Tryz.sizeOf171
  t141 := Tryz.underlying181
  a141 := Tryz.isAgg181
  z141 := Tryz.sizeOf181
  v141 := Tryz.zeroValue181
  t152 := Tryz.underlying176
  a152 := Tryz.isAgg176
  z152 := Tryz.sizeOf176
  v152 := Tryz.zeroValue176
  t154 := Tryz.underlying178
  a154 := Tryz.isAgg178
  z154 := Tryz.sizeOf178
  v154 := Tryz.zeroValue178
  t193 := Tryz.underlying188
  a193 := Tryz.isAgg188
  z193 := Tryz.sizeOf188
  v193 := Tryz.zeroValue188
  t194 := Tryz.underlying189
  a194 := Tryz.isAgg189
  z194 := Tryz.sizeOf189
  v194 := Tryz.zeroValue189
  t196 := Tryz.underlying191
  a196 := Tryz.isAgg191
  z196 := Tryz.sizeOf191
  v196 := Tryz.zeroValue191
  t198 := Tryz.underlying193
  a198 := Tryz.isAgg193
  z198 := Tryz.sizeOf193
  v198 := Tryz.zeroValue193
  t201 := Tryz.underlying196
  a201 := Tryz.isAgg196
  z201 := Tryz.sizeOf196
  v201 := Tryz.zeroValue196
  t226 := Tryz.underlying198
  a226 := Tryz.isAgg198
  z226 := Tryz.sizeOf198
  v226 := Tryz.zeroValue198
  t227 := Tryz.underlying199
  a227 := Tryz.isAgg199
  z227 := Tryz.sizeOf199
  v227 := Tryz.zeroValue199
  g0 := by kernel_rfl
  g6 := by kernel_rfl }
open Go.RowKit Go.Lib in
theorem Tryz.strings_Fields (s : ByteArray) (w : World) (hs : s.size < 4294967281) (hascii : ∀ (j : Nat) b, s.data.toList[j]? = some b → b.toNat < 128) (htab : Lib.TabIs Tryz.prog w "strings.asciiSpace" .u8 Lib.asciiSpaceTab) :
    Calls Tryz.prog 130 #[.string s] w fun e w' =>
      e = .returned (.slice (some ⟨w.heap.size, 0, none⟩) (Lib.fields s.data.toList).length (Lib.fields s.data.toList).length) ∧ w' = w.alloc (.cells ((Lib.fields s.data.toList).map fun l => Value.string ⟨l.toArray⟩).toArray 9) := Any.strings_Fields Tryz.lays157 (by kernel_rfl) (by kernel_rfl) s w hs hascii htab
end Go.Proofs
end
section
set_option maxRecDepth 100000
namespace Go.Lb.R
open Go.Proofs Go.RowKit
theorem sh_str1 {fz : Fz} {w : World} {s : Str} {cargs : Array Value} (h : RelL fz w [ss s] cargs.toList) : cargs = #[.string ⟨s.toArray⟩] := by
  simp only [RelL, Rel] at h
  obtain ⟨c1, l1, h1, ⟨rfl, _⟩, rfl⟩ := h
  exact Array.toList_inj.1 (by simpa using h1)
theorem sh_str_int {fz : Fz} {w : World} {s : Str} {k : IntKind} {n : Int} {cargs : Array Value} (h : RelL fz w [ss s, .int k n] cargs.toList) : cargs = #[.string ⟨s.toArray⟩, .int k n] := by
  simp only [RelL, Rel] at h
  obtain ⟨c1, l1, h1, ⟨rfl, _⟩, c2, l2, rfl, rfl, rfl⟩ := h
  exact Array.toList_inj.1 (by simpa using h1)
theorem sh_int {fz : Fz} {w : World} {k : IntKind} {n : Int} {cargs : Array Value} (h : RelL fz w [.int k n] cargs.toList) : cargs = #[.int k n] := by
  simp only [RelL, Rel] at h
  obtain ⟨c1, l1, h1, rfl, rfl⟩ := h
  exact Array.toList_inj.1 (by simpa using h1)
theorem k_strings_IndexByte_ok (B : Nat) : ∀ (a0 : Str) (a1 : Int) (out : Int), k_strings_IndexByte a0 a1 = some out → Pure (X B) 166 [(ss a0), (ub a1)] (ii out) := by
  intro a0 a1 out hr
  obtain rfl := os hr
  refine pure_calls ⟨_, _, Tryz.func166, rfl, rfl⟩ fun fz w cargs hg hc => ?_
  rw [sh_str_int hc]
  exact ⟨_, Tryz.strings_IndexByte ⟨a0.toArray⟩ a1 w, by simp [Rel]⟩
theorem k_unicode_utf8_ValidRune_ok (B : Nat) : ∀ (a0 : Int) (out : Bool), k_unicode_utf8_ValidRune a0 = some out → Pure (X B) 167 [(ir a0)] (bb out) := by
  intro a0 out hr
  obtain rfl := os hr
  refine pure_calls ⟨_, _, Tryz.func167, rfl, rfl⟩ fun fz w cargs hg hc => ?_
  rw [sh_int hc]
  exact ⟨_, Tryz.utf8_ValidRune a0 w, by simp [Rel]⟩
theorem k_strings_Fields_ok (B : Nat) : ∀ (a0 : Str) (out : List Str), k_strings_Fields a0 = some out → Pure (X B) 130 [(ss a0)] (sN out) := by
  intro a0 out hr
  unfold k_strings_Fields at hr
  split at hr
  · rename_i hall
    split at hr
    · rename_i hb
      simp only [Bool.and_eq_true, decide_eq_true_eq, List.all_eq_true] at hall hb
      obtain rfl := os hr
      refine pure_calls_texts (E := 9) ⟨Nat.le_trans hb.2.1 (by decide), fun s hs => Nat.le_trans (hb.2.2 s hs) (by decide)⟩ ⟨_, _, Tryz.func130, rfl, rfl⟩ fun fz w cargs hg hc => ?_
      rw [sh_str1 hc]
      have ht : Lib.TabIs Tryz.prog w "strings.asciiSpace" .u8 Lib.asciiSpaceTab := tab_of_grel hg (g := gAscii) (by kernel_rfl) (by simp [X, G0])
      have := Tryz.strings_Fields ⟨a0.toArray⟩ w (by simpa [ByteArray.size] using hb.1) (by
        intro j b hj
        exact hall b (by simpa using List.mem_of_getElem? hj)) ht
      show Calls Tryz.prog _ _ _ _
      simpa using this
    · cases hr
  · cases hr
end Go.Lb.R
end
section
set_option maxRecDepth 100000
namespace Go.Lb.R
open Go.Proofs
open Go.Lb
def fieldsCon : Con := pureCon [(0, .str)] (.sl .str) fun x => k_strings_Fields x.1
def indexByteCon : Con := pureCon [(0, .str), (1, .int .u8)] (.int .i64) fun x => k_strings_IndexByte x.1 x.2.1
def validRuneCon : Con := pureCon [(0, .int .i32)] .bool fun x => k_unicode_utf8_ValidRune x.1
theorem fields_ok (B : Nat) (con : FuncId → Option Con) (lp : Nat → Option (FuncId × List Nat × Con)) : ∀ x y, fieldsCon.fn x = some y → FnOK1 (X B) (mkC con lp) 130 fieldsCon x y :=
  pure_fnok rfl rfl rfl rfl fun x y h => k_strings_Fields_ok B x.1 y h
theorem indexByte_ok (B : Nat) (con : FuncId → Option Con) (lp : Nat → Option (FuncId × List Nat × Con)) : ∀ x y, indexByteCon.fn x = some y → FnOK1 (X B) (mkC con lp) 166 indexByteCon x y :=
  pure_fnok rfl rfl rfl rfl fun x y h => k_strings_IndexByte_ok B x.1 x.2.1 y h
theorem validRune_ok (B : Nat) (con : FuncId → Option Con) (lp : Nat → Option (FuncId × List Nat × Con)) : ∀ x y, validRuneCon.fn x = some y → FnOK1 (X B) (mkC con lp) 167 validRuneCon x y :=
  pure_fnok rfl rfl rfl rfl fun x y h => k_unicode_utf8_ValidRune_ok B x.1 y h
end Go.Lb.R
end
section
namespace Go.Proofs.Tryz.AsP
open Go.RowKit Go.Extern.Stop Go.Stop Go.Extern Go.Proofs
abbrev hd (t : Nat) : Value := .pointer (some ⟨5, t, none⟩)
theorem valueOfC (t : Addr) (w : World) : (ReflectliteValue.unpack (.iface 73 (.pointer (some t)))).run Tryz.prog w = .ok (.agg #[hd 73, .pointer (some ⟨w.heap.size, 0, none⟩), .int .u64 150]) (w.alloc (.cells #[.pointer (some t)] 73)) := by kernel_rfl
theorem valueOfF (t : Addr) (w : World) : (ReflectliteValue.unpack (.iface 74 (.pointer (some t)))).run Tryz.prog w = .ok (.agg #[hd 74, .pointer (some ⟨w.heap.size, 0, none⟩), .int .u64 150]) (w.alloc (.cells #[.pointer (some t)] 74)) := by kernel_rfl
theorem typeC (a : Addr) (w : World) : (ReflectliteValue.methodAny (ReflectliteValue.valueError "reflectlite.Value.Type" 0) (fun t _ _ _ => ReflectliteType.toType t) #[.agg #[hd 73, .pointer (some a), .int .u64 150]]).run Tryz.prog w = .ok (.iface 129 (.agg #[hd 73])) w := by kernel_rfl
theorem typeF (a : Addr) (w : World) : (ReflectliteValue.methodAny (ReflectliteValue.valueError "reflectlite.Value.Type" 0) (fun t _ _ _ => ReflectliteType.toType t) #[.agg #[hd 74, .pointer (some a), .int .u64 150]]).run Tryz.prog w = .ok (.iface 129 (.agg #[hd 74])) w := by kernel_rfl
theorem methodKind (h : Value) (w : World) : (Go.method 327 129 (.agg #[h]) "Kind").run Tryz.prog w = .ok (188, h) w := by kernel_rfl
theorem methodElem (h : Value) (w : World) : (Go.method 327 129 (.agg #[h]) "Elem").run Tryz.prog w = .ok (200, .agg #[h]) w := by kernel_rfl
theorem methodImplements (h : Value) (w : World) : (Go.method 327 129 (.agg #[h]) "Implements").run Tryz.prog w = .ok (201, .agg #[h]) w := by kernel_rfl
theorem methodAssignableTo (h : Value) (w : World) : (Go.method 327 129 (.agg #[h]) "AssignableTo").run Tryz.prog w = .ok (198, .agg #[h]) w := by kernel_rfl
theorem kindPC (w : World) : ((ReflectliteType.abiMethod fun t => (fun a : Nat => Value.int IntKind.u8 (a : Int)) <$> Rtype.kind t) #[hd 73]).run Tryz.prog w = .ok (.int .u8 22) w := by kernel_rfl
theorem kindPF (w : World) : ((ReflectliteType.abiMethod fun t => (fun a : Nat => Value.int IntKind.u8 (a : Int)) <$> Rtype.kind t) #[hd 74]).run Tryz.prog w = .ok (.int .u8 22) w := by kernel_rfl
theorem kindCO (w : World) : ((ReflectliteType.abiMethod fun t => (fun a : Nat => Value.int IntKind.u8 (a : Int)) <$> Rtype.kind t) #[hd 55]).run Tryz.prog w = .ok (.int .u8 2) w := by kernel_rfl
theorem kindFA (w : World) : ((ReflectliteType.abiMethod fun t => (fun a : Nat => Value.int IntKind.u8 (a : Int)) <$> Rtype.kind t) #[hd 58]).run Tryz.prog w = .ok (.int .u8 22) w := by kernel_rfl
theorem rlm (z : Sem Value) (f : TypeId → Addr → Nat → Nat → Sem Value) (v : Value) :
    ReflectliteValue.method z f #[v] = (do match ← ReflectliteValue.parts v with | none => z | some (t, a, fl) => f t a fl (fl % 32)) := rfl
theorem partsPC (a : Addr) (w : World) : (ReflectliteValue.parts (.agg #[hd 73, .pointer (some a), .int .u64 150])).run Tryz.prog w = .ok (some (73, a, 150)) w := by kernel_rfl
theorem partsPF (a : Addr) (w : World) : (ReflectliteValue.parts (.agg #[hd 74, .pointer (some a), .int .u64 150])).run Tryz.prog w = .ok (some (74, a, 150)) w := by kernel_rfl
theorem isNilC (a p : Addr) (W : World) (ha : W.cell? a = some (.pointer (some p))) :
    (ReflectliteValue.method (ReflectliteValue.valueError "reflectlite.Value.IsNil" 0) ReflectliteValue.isNil #[.agg #[hd 73, .pointer (some a), .int .u64 150]]).run Tryz.prog W = .ok (.bool false) W := by
  rw [rlm]
  simp only [Sem.run_bind, partsPC, Result.andThen]
  simp [ReflectliteValue.isNil, loadVar, isAgg, underlying, Tryz.underlying73, ha, Result.andThen]
theorem isNilF (a p : Addr) (W : World) (ha : W.cell? a = some (.pointer (some p))) :
    (ReflectliteValue.method (ReflectliteValue.valueError "reflectlite.Value.IsNil" 0) ReflectliteValue.isNil #[.agg #[hd 74, .pointer (some a), .int .u64 150]]).run Tryz.prog W = .ok (.bool false) W := by
  rw [rlm]
  simp only [Sem.run_bind, partsPF, Result.andThen]
  simp [ReflectliteValue.isNil, loadVar, isAgg, underlying, Tryz.underlying74, ha, Result.andThen]
theorem elemC (w : World) : (ReflectliteType.method ReflectliteType.elem #[.agg #[hd 73]]).run Tryz.prog w = .ok (.iface 129 (.agg #[hd 55])) w := by kernel_rfl
theorem elemF (w : World) : (ReflectliteType.method ReflectliteType.elem #[.agg #[hd 74]]).run Tryz.prog w = .ok (.iface 129 (.agg #[hd 58])) w := by kernel_rfl
theorem implC (w : World) : (ReflectliteType.relation "Implements" ReflectliteType.implements_ #[.agg #[hd 55], .iface 129 (.agg #[hd 29])]).run Tryz.prog w = .ok (.bool true) w := by kernel_rfl
theorem implF (w : World) : (ReflectliteType.relation "Implements" ReflectliteType.implements_ #[.agg #[hd 58], .iface 129 (.agg #[hd 29])]).run Tryz.prog w = .ok (.bool true) w := by kernel_rfl
theorem typeOfC (v : Value) (w : World) : (ReflectliteType.typeOf #[.iface 55 v]).run Tryz.prog w = .ok (.iface 129 (.agg #[hd 55])) w := by kernel_rfl
theorem typeOfF (v : Value) (w : World) : (ReflectliteType.typeOf #[.iface 58 v]).run Tryz.prog w = .ok (.iface 129 (.agg #[hd 58])) w := by kernel_rfl
theorem asgCC (w : World) : (ReflectliteType.relation "AssignableTo" ReflectliteType.assignableTo #[.agg #[hd 55], .iface 129 (.agg #[hd 55])]).run Tryz.prog w = .ok (.bool true) w := by kernel_rfl
theorem asgFF (w : World) : (ReflectliteType.relation "AssignableTo" ReflectliteType.assignableTo #[.agg #[hd 58], .iface 129 (.agg #[hd 58])]).run Tryz.prog w = .ok (.bool true) w := by kernel_rfl
theorem asgCF (w : World) : (ReflectliteType.relation "AssignableTo" ReflectliteType.assignableTo #[.agg #[hd 55], .iface 129 (.agg #[hd 58])]).run Tryz.prog w = .ok (.bool false) w := by kernel_rfl
theorem asgFC (w : World) : (ReflectliteType.relation "AssignableTo" ReflectliteType.assignableTo #[.agg #[hd 58], .iface 129 (.agg #[hd 55])]).run Tryz.prog w = .ok (.bool false) w := by kernel_rfl
theorem valueOfCO (n : Int) (w : World) : (ReflectliteValue.unpack (.iface 55 (.int .i64 n))).run Tryz.prog w = .ok (.agg #[hd 55, .pointer (some ⟨w.heap.size, 0, none⟩), .int .u64 130]) (w.alloc (.cells #[.int .i64 n] 55)) := by kernel_rfl
theorem valueOfFA (e : Addr) (w : World) : (ReflectliteValue.unpack (.iface 58 (.pointer (some e)))).run Tryz.prog w = .ok (.agg #[hd 58, .pointer (some ⟨w.heap.size, 0, none⟩), .int .u64 150]) (w.alloc (.cells #[.pointer (some e)] 58)) := by kernel_rfl
theorem elemOfPC (w : World) : (Rtype.elem? 73).run Tryz.prog w = .ok (some 55) w := by kernel_rfl
theorem elemOfPF (w : World) : (Rtype.elem? 74).run Tryz.prog w = .ok (some 58) w := by kernel_rfl
theorem mkCO (p : Addr) (w : World) : (ReflectliteValue.mk 55 p ReflectliteValue.flagAddr).run Tryz.prog w = .ok (.agg #[hd 55, .pointer (some p), .int .u64 386]) w := by kernel_rfl
theorem mkFA (p : Addr) (w : World) : (ReflectliteValue.mk 58 p ReflectliteValue.flagAddr).run Tryz.prog w = .ok (.agg #[hd 58, .pointer (some p), .int .u64 406]) w := by kernel_rfl
theorem elemVC (a p : Addr) (W : World) (ha : W.cell? a = some (.pointer (some p))) :
    (ReflectliteValue.method (ReflectliteValue.valueError "reflectlite.Value.Elem" 0) ReflectliteValue.elem #[.agg #[hd 73, .pointer (some a), .int .u64 150]]).run Tryz.prog W = .ok (.agg #[hd 55, .pointer (some p), .int .u64 386]) W := by
  rw [rlm]
  simp only [Sem.run_bind, partsPC, Result.andThen]
  simp [ReflectliteValue.elem, loadVar, isAgg, underlying, Tryz.underlying73, ha, Result.andThen, elemOfPC, mkCO]
theorem elemVF (a p : Addr) (W : World) (ha : W.cell? a = some (.pointer (some p))) :
    (ReflectliteValue.method (ReflectliteValue.valueError "reflectlite.Value.Elem" 0) ReflectliteValue.elem #[.agg #[hd 74, .pointer (some a), .int .u64 150]]).run Tryz.prog W = .ok (.agg #[hd 58, .pointer (some p), .int .u64 406]) W := by
  rw [rlm]
  simp only [Sem.run_bind, partsPF, Result.andThen]
  simp [ReflectliteValue.elem, loadVar, isAgg, underlying, Tryz.underlying74, ha, Result.andThen, elemOfPF, mkFA]
theorem rls (v x : Value) : ReflectliteValue.set #[v, x] = (do
    let (some (dst, a, fl), some (src, b, _)) := (← ReflectliteValue.parts v, ← ReflectliteValue.parts x)
      | unsupported (.noEntry "extern/(internal/reflectlite.Value).Set.zeroValue")
    if fl / ReflectliteValue.flagAddr % 2 == 0 then unsupported (.noEntry "extern/(internal/reflectlite.Value).Set.unaddressable")
    let val ← loadVar src b
    if ← Rtype.directlyAssignable dst src then storeVar dst a val
    else if ← Rtype.implements dst src then
      if (← Rtype.kind src) == 20 then
        match val with
        | .nilIface => unsupported (.noEntry "extern/reflectlite: a nil value of one interface type handed on as a value of another")
        | _ => storeVar dst a val
      else storeVar dst a (.iface src val)
    else panicString ("reflectlite.Set: value of type " ++ (← Rtype.spelt src) ++ " is not assignable to type " ++ (← Rtype.spelt dst))
    pure (.tuple #[])) := rfl
theorem partsCOa (a : Addr) (w : World) : (ReflectliteValue.parts (.agg #[hd 55, .pointer (some a), .int .u64 386])).run Tryz.prog w = .ok (some (55, a, 386)) w := by kernel_rfl
theorem partsCO (a : Addr) (w : World) : (ReflectliteValue.parts (.agg #[hd 55, .pointer (some a), .int .u64 130])).run Tryz.prog w = .ok (some (55, a, 130)) w := by kernel_rfl
theorem partsFAa (a : Addr) (w : World) : (ReflectliteValue.parts (.agg #[hd 58, .pointer (some a), .int .u64 406])).run Tryz.prog w = .ok (some (58, a, 406)) w := by kernel_rfl
theorem partsFA (a : Addr) (w : World) : (ReflectliteValue.parts (.agg #[hd 58, .pointer (some a), .int .u64 150])).run Tryz.prog w = .ok (some (58, a, 150)) w := by kernel_rfl
theorem directCO (w : World) : (Rtype.directlyAssignable 55 55).run Tryz.prog w = .ok true w := by kernel_rfl
theorem directFA (w : World) : (Rtype.directlyAssignable 58 58).run Tryz.prog w = .ok true w := by kernel_rfl
theorem setCO (ta b : Addr) (n : Int) (old : Value) (W : World) (hb : W.cell? b = some (.int .i64 n)) (ht : W.cell? ta = some old) (hf : W.frozen? ta = false) :
    (ReflectliteValue.set #[.agg #[hd 55, .pointer (some ta), .int .u64 386], .agg #[hd 55, .pointer (some b), .int .u64 130]]).run Tryz.prog W = .ok (.tuple #[]) (W.setCell ta (.int .i64 n)) := by
  rw [rls]
  simp only [Sem.run_bind, partsCOa, partsCO, Result.andThen]
  simp [ReflectliteValue.flagAddr, loadVar, isAgg, underlying, Tryz.underlying55, hb, Result.andThen, directCO, storeVar, Value.cells, storeCells, Addr.add]
  rw [run_store Tryz.prog W ta _ _ (by rfl)]
  simp [ht, hf]
theorem setFA (ta b e : Addr) (old : Value) (W : World) (hb : W.cell? b = some (.pointer (some e))) (ht : W.cell? ta = some old) (hf : W.frozen? ta = false) :
    (ReflectliteValue.set #[.agg #[hd 58, .pointer (some ta), .int .u64 406], .agg #[hd 58, .pointer (some b), .int .u64 150]]).run Tryz.prog W = .ok (.tuple #[]) (W.setCell ta (.pointer (some e))) := by
  rw [rls]
  simp only [Sem.run_bind, partsFAa, partsFA, Result.andThen]
  simp [ReflectliteValue.flagAddr, loadVar, isAgg, underlying, Tryz.underlying58, hb, Result.andThen, directFA, storeVar, Value.cells, storeCells, Addr.add]
  rw [run_store Tryz.prog W ta _ _ (by rfl)]
  simp [ht, hf]
theorem noAsC (v : Value) (xT : TypeId) (w : World) : (Instr.typeAssert (.iface 55 v) xT 134 true).run Tryz.prog w = .ok (.tuple #[.nilIface, .bool false]) w := run_typeAssert_lacksB Tryz.underlying134 (by kernel_rfl) (by kernel_rfl) v xT w
theorem noAsF (v : Value) (xT : TypeId) (w : World) : (Instr.typeAssert (.iface 58 v) xT 134 true).run Tryz.prog w = .ok (.tuple #[.nilIface, .bool false]) w := run_typeAssert_lacksB Tryz.underlying134 (by kernel_rfl) (by kernel_rfl) v xT w
theorem noUnC (v : Value) (xT : TypeId) (w : World) : (Instr.typeAssert (.iface 55 v) xT 137 true).run Tryz.prog w = .ok (.tuple #[.nilIface, .bool false]) w := run_typeAssert_lacksB Tryz.underlying137 (by kernel_rfl) (by kernel_rfl) v xT w
theorem noUlC (v : Value) (xT : TypeId) (w : World) : (Instr.typeAssert (.iface 55 v) xT 139 true).run Tryz.prog w = .ok (.tuple #[.nilIface, .bool false]) w := run_typeAssert_lacksB Tryz.underlying139 (by kernel_rfl) (by kernel_rfl) v xT w
theorem unF (v : Value) (xT : TypeId) (w : World) : (Instr.typeAssert (.iface 58 v) xT 137 true).run Tryz.prog w = .ok (.tuple #[.iface 58 v, .bool true]) w := run_typeAssert_hasB Tryz.underlying137 (by kernel_rfl) v xT w
theorem methodUnwrap (h : Addr) (w : World) : (Go.method 327 58 (.pointer (some h)) "Unwrap").run Tryz.prog w = .ok (193, .pointer (some h)) w := by kernel_rfl
end Go.Proofs.Tryz.AsP
end
section
namespace Go.Proofs.Tryz.AsP
open Go.RowKit Go.Extern.Stop Go.Stop Go.Extern Go.Proofs
inductive Al (w : World) : World → Prop
  | refl : Al w w
  | step {w1 : World} (o : Obj) (h : Al w w1) : Al w (w1.alloc o)
abbrev vC (w : World) : Obj := .cells #[hd 73, .pointer (some ⟨w.heap.size, 0, none⟩), .int .u64 150] 103
abbrev vF (w : World) : Obj := .cells #[hd 74, .pointer (some ⟨w.heap.size, 0, none⟩), .int .u64 150] 103
set_option maxHeartbeats 4000000 in
theorem as_CC (n : Int) (t : Addr) (old : Value) (w : World) (hg : w.cell? ⟨0, 0, none⟩ = some (.iface 129 (.agg #[hd 29]))) (ht0 : w.cell? t = some old) (hf0 : w.frozen? t = false) :
    Calls Tryz.prog 35 #[.iface 55 (.int .i64 n), .iface 73 (.pointer (some t))] w fun ev w' => ev = .returned (.bool true) ∧ ∃ w1, Al w w1 ∧ w' = w1.setCell t (.int .i64 n) := by
  have h6 := @run_callFunc_extern Tryz.prog 61 _ (fun args => ReflectliteValue.unpack (args.getD 0 (.tuple #[]))) Tryz.func61 (by kernel_rfl) (by kernel_rfl) (by kernel_rfl) (by kernel_rfl)
  have h7 := @run_callFunc_extern Tryz.prog 62 _ (ReflectliteValue.methodAny (ReflectliteValue.valueError "reflectlite.Value.Type" 0) (fun t _ _ _ => ReflectliteType.toType t)) Tryz.func62 (by kernel_rfl) (by kernel_rfl) (by kernel_rfl) (by kernel_rfl)
  have h8 := @run_callFunc_extern Tryz.prog 63 _ (ReflectliteValue.method (ReflectliteValue.valueError "reflectlite.Value.IsNil" 0) ReflectliteValue.isNil) Tryz.func63 (by kernel_rfl) (by kernel_rfl) (by kernel_rfl) (by kernel_rfl)
  have h27 := @run_callFunc_extern Tryz.prog 188 _ (ReflectliteType.abiMethod fun t => do pure (.int .u8 (← Rtype.kind t))) Tryz.func188 (by kernel_rfl) (by kernel_rfl) (by kernel_rfl) (by kernel_rfl)
  have h37 := @run_callFunc_extern Tryz.prog 200 _ (ReflectliteType.method ReflectliteType.elem) Tryz.func200 (by kernel_rfl) (by kernel_rfl) (by kernel_rfl) (by kernel_rfl)
  have h38 := @run_callFunc_extern Tryz.prog 201 _ (ReflectliteType.relation "Implements" ReflectliteType.implements_) Tryz.func201 (by kernel_rfl) (by kernel_rfl) (by kernel_rfl) (by kernel_rfl)
  have h10 := @run_callFunc_extern Tryz.prog 94 _ ReflectliteType.typeOf Tryz.func94 (by kernel_rfl) (by kernel_rfl) (by kernel_rfl) (by kernel_rfl)
  have h35 := @run_callFunc_extern Tryz.prog 198 _ (ReflectliteType.relation "AssignableTo" ReflectliteType.assignableTo) Tryz.func198 (by kernel_rfl) (by kernel_rfl) (by kernel_rfl) (by kernel_rfl)
  have h11 := @run_callFunc_extern Tryz.prog 95 _ (ReflectliteValue.method (ReflectliteValue.valueError "reflectlite.Value.Elem" 0) ReflectliteValue.elem) Tryz.func95 (by kernel_rfl) (by kernel_rfl) (by kernel_rfl) (by kernel_rfl)
  have h12 := @run_callFunc_extern Tryz.prog 96 _ ReflectliteValue.set Tryz.func96 (by kernel_rfl) (by kernel_rfl) (by kernel_rfl) (by kernel_rfl)
  have tO := typeOfC
  have mA := methodAssignableTo
  have a25 := asgCC
  have v25 := valueOfCO
  have f6 := valueOfC
  have f7 := typeC
  have mK := methodKind
  have mE := methodElem
  have mI := methodImplements
  have k27 := kindPC
  have k25 := kindCO
  have e27 := elemC
  have i25 := implC
  have n8 := isNilC ⟨w.heap.size, 0, none⟩ t ((w.alloc (.cells #[.pointer (some t)] 73)).alloc (vC w)) (by simp)
  have hlt : 0 < w.heap.size := by
    rcases Nat.lt_or_ge 0 w.heap.size with h | h
    · exact h
    · simp [World.cell?, Array.getElem?_eq_none h] at hg
  have hg2 : ((w.alloc (.cells #[.pointer (some t)] 73)).alloc (vC w)).cell? ⟨0, 0, none⟩ = some (.iface 129 (.agg #[hd 29])) := by
    rw [World.cell?_alloc_lt _ _ ⟨0, 0, none⟩ (by simp <;> omega), World.cell?_alloc_lt _ _ ⟨0, 0, none⟩ hlt]; exact hg
  have htl : t.block < w.heap.size := by
    rcases Nat.lt_or_ge t.block w.heap.size with h | h
    · exact h
    · simp [World.cell?, Array.getElem?_eq_none h] at ht0
  have el := elemVC ⟨w.heap.size, 0, none⟩ t (((w.alloc (.cells #[.pointer (some t)] 73)).alloc (vC w)).alloc (vC w)) (by rw [World.cell?_alloc_lt _ _ ⟨w.heap.size, 0, none⟩ (by simp; omega)]; simp)
  have st := setCO t ⟨w.heap.size + 1 + 1 + 1, 0, none⟩ n old ((((w.alloc (.cells #[.pointer (some t)] 73)).alloc (vC w)).alloc (vC w)).alloc (.cells #[.int .i64 n] 55))
    (by rw [World.cell?_alloc_at _ _ _ _ (by simp)]; rfl)
    (by rw [World.cell?_alloc_lt _ _ t (by simp; omega), World.cell?_alloc_lt _ _ t (by simp; omega), World.cell?_alloc_lt _ _ t (by simp; omega), World.cell?_alloc_lt _ _ t htl]; exact ht0)
    (by rw [World.frozen?_alloc_old _ _ t (by simp; omega), World.frozen?_alloc_old _ _ t (by simp; omega), World.frozen?_alloc_old _ _ t (by simp; omega), World.frozen?_alloc_old _ _ t (Nat.ne_of_lt htl)]; exact hf0)
  go_enter Tryz.func35, Tryz.ntmps35
  go_wp2
  refine wp_loop_rounds 1 ?_
  rw [rounds_succ]
  go_wp2
  go_ret
  exact ⟨rfl, _, .step _ (.step _ (.step _ (.step _ .refl))), rfl⟩
end Go.Proofs.Tryz.AsP
end
section
namespace Go.Proofs.Tryz.AsP
open Go.RowKit Go.Extern.Stop Go.Stop Go.Extern Go.Proofs
set_option maxHeartbeats 4000000 in
theorem as_FF (e : Addr) (t : Addr) (old : Value) (w : World) (hg : w.cell? ⟨0, 0, none⟩ = some (.iface 129 (.agg #[hd 29]))) (ht0 : w.cell? t = some old) (hf0 : w.frozen? t = false) :
    Calls Tryz.prog 35 #[.iface 58 (.pointer (some e)), .iface 74 (.pointer (some t))] w fun ev w' => ev = .returned (.bool true) ∧ ∃ w1, Al w w1 ∧ w' = w1.setCell t (.pointer (some e)) := by
  have h6 := @run_callFunc_extern Tryz.prog 61 _ (fun args => ReflectliteValue.unpack (args.getD 0 (.tuple #[]))) Tryz.func61 (by kernel_rfl) (by kernel_rfl) (by kernel_rfl) (by kernel_rfl)
  have h7 := @run_callFunc_extern Tryz.prog 62 _ (ReflectliteValue.methodAny (ReflectliteValue.valueError "reflectlite.Value.Type" 0) (fun t _ _ _ => ReflectliteType.toType t)) Tryz.func62 (by kernel_rfl) (by kernel_rfl) (by kernel_rfl) (by kernel_rfl)
  have h8 := @run_callFunc_extern Tryz.prog 63 _ (ReflectliteValue.method (ReflectliteValue.valueError "reflectlite.Value.IsNil" 0) ReflectliteValue.isNil) Tryz.func63 (by kernel_rfl) (by kernel_rfl) (by kernel_rfl) (by kernel_rfl)
  have h27 := @run_callFunc_extern Tryz.prog 188 _ (ReflectliteType.abiMethod fun t => do pure (.int .u8 (← Rtype.kind t))) Tryz.func188 (by kernel_rfl) (by kernel_rfl) (by kernel_rfl) (by kernel_rfl)
  have h37 := @run_callFunc_extern Tryz.prog 200 _ (ReflectliteType.method ReflectliteType.elem) Tryz.func200 (by kernel_rfl) (by kernel_rfl) (by kernel_rfl) (by kernel_rfl)
  have h38 := @run_callFunc_extern Tryz.prog 201 _ (ReflectliteType.relation "Implements" ReflectliteType.implements_) Tryz.func201 (by kernel_rfl) (by kernel_rfl) (by kernel_rfl) (by kernel_rfl)
  have h10 := @run_callFunc_extern Tryz.prog 94 _ ReflectliteType.typeOf Tryz.func94 (by kernel_rfl) (by kernel_rfl) (by kernel_rfl) (by kernel_rfl)
  have h35 := @run_callFunc_extern Tryz.prog 198 _ (ReflectliteType.relation "AssignableTo" ReflectliteType.assignableTo) Tryz.func198 (by kernel_rfl) (by kernel_rfl) (by kernel_rfl) (by kernel_rfl)
  have h11 := @run_callFunc_extern Tryz.prog 95 _ (ReflectliteValue.method (ReflectliteValue.valueError "reflectlite.Value.Elem" 0) ReflectliteValue.elem) Tryz.func95 (by kernel_rfl) (by kernel_rfl) (by kernel_rfl) (by kernel_rfl)
  have h12 := @run_callFunc_extern Tryz.prog 96 _ ReflectliteValue.set Tryz.func96 (by kernel_rfl) (by kernel_rfl) (by kernel_rfl) (by kernel_rfl)
  have tO := typeOfF
  have mA := methodAssignableTo
  have a25 := asgFF
  have v25 := valueOfFA
  have f6 := valueOfF
  have f7 := typeF
  have mK := methodKind
  have mE := methodElem
  have mI := methodImplements
  have k27 := kindPF
  have k25 := kindFA
  have e27 := elemF
  have i25 := implF
  have n8 := isNilF ⟨w.heap.size, 0, none⟩ t ((w.alloc (.cells #[.pointer (some t)] 74)).alloc (vF w)) (by simp)
  have hlt : 0 < w.heap.size := by
    rcases Nat.lt_or_ge 0 w.heap.size with h | h
    · exact h
    · simp [World.cell?, Array.getElem?_eq_none h] at hg
  have hg2 : ((w.alloc (.cells #[.pointer (some t)] 74)).alloc (vF w)).cell? ⟨0, 0, none⟩ = some (.iface 129 (.agg #[hd 29])) := by
    rw [World.cell?_alloc_lt _ _ ⟨0, 0, none⟩ (by simp <;> omega), World.cell?_alloc_lt _ _ ⟨0, 0, none⟩ hlt]; exact hg
  have htl : t.block < w.heap.size := by
    rcases Nat.lt_or_ge t.block w.heap.size with h | h
    · exact h
    · simp [World.cell?, Array.getElem?_eq_none h] at ht0
  have el := elemVF ⟨w.heap.size, 0, none⟩ t (((w.alloc (.cells #[.pointer (some t)] 74)).alloc (vF w)).alloc (vF w)) (by rw [World.cell?_alloc_lt _ _ ⟨w.heap.size, 0, none⟩ (by simp; omega)]; simp)
  have st := setFA t ⟨w.heap.size + 1 + 1 + 1, 0, none⟩ e old ((((w.alloc (.cells #[.pointer (some t)] 74)).alloc (vF w)).alloc (vF w)).alloc (.cells #[.pointer (some e)] 58))
    (by rw [World.cell?_alloc_at _ _ _ _ (by simp)]; rfl)
    (by rw [World.cell?_alloc_lt _ _ t (by simp; omega), World.cell?_alloc_lt _ _ t (by simp; omega), World.cell?_alloc_lt _ _ t (by simp; omega), World.cell?_alloc_lt _ _ t htl]; exact ht0)
    (by rw [World.frozen?_alloc_old _ _ t (by simp; omega), World.frozen?_alloc_old _ _ t (by simp; omega), World.frozen?_alloc_old _ _ t (by simp; omega), World.frozen?_alloc_old _ _ t (Nat.ne_of_lt htl)]; exact hf0)
  go_enter Tryz.func35, Tryz.ntmps35
  go_wp2
  refine wp_loop_rounds 1 ?_
  rw [rounds_succ]
  go_wp2
  go_ret
  exact ⟨rfl, _, .step _ (.step _ (.step _ (.step _ .refl))), rfl⟩
set_option maxHeartbeats 4000000 in
theorem as_CF (n : Int) (t : Addr) (old : Value) (w : World) (hg : w.cell? ⟨0, 0, none⟩ = some (.iface 129 (.agg #[hd 29]))) (ht0 : w.cell? t = some old) (hf0 : w.frozen? t = false) :
    Calls Tryz.prog 35 #[.iface 55 (.int .i64 n), .iface 74 (.pointer (some t))] w fun ev w' => ev = .returned (.bool false) ∧ Al w w' := by
  have h6 := @run_callFunc_extern Tryz.prog 61 _ (fun args => ReflectliteValue.unpack (args.getD 0 (.tuple #[]))) Tryz.func61 (by kernel_rfl) (by kernel_rfl) (by kernel_rfl) (by kernel_rfl)
  have h7 := @run_callFunc_extern Tryz.prog 62 _ (ReflectliteValue.methodAny (ReflectliteValue.valueError "reflectlite.Value.Type" 0) (fun t _ _ _ => ReflectliteType.toType t)) Tryz.func62 (by kernel_rfl) (by kernel_rfl) (by kernel_rfl) (by kernel_rfl)
  have h8 := @run_callFunc_extern Tryz.prog 63 _ (ReflectliteValue.method (ReflectliteValue.valueError "reflectlite.Value.IsNil" 0) ReflectliteValue.isNil) Tryz.func63 (by kernel_rfl) (by kernel_rfl) (by kernel_rfl) (by kernel_rfl)
  have h27 := @run_callFunc_extern Tryz.prog 188 _ (ReflectliteType.abiMethod fun t => do pure (.int .u8 (← Rtype.kind t))) Tryz.func188 (by kernel_rfl) (by kernel_rfl) (by kernel_rfl) (by kernel_rfl)
  have h37 := @run_callFunc_extern Tryz.prog 200 _ (ReflectliteType.method ReflectliteType.elem) Tryz.func200 (by kernel_rfl) (by kernel_rfl) (by kernel_rfl) (by kernel_rfl)
  have h38 := @run_callFunc_extern Tryz.prog 201 _ (ReflectliteType.relation "Implements" ReflectliteType.implements_) Tryz.func201 (by kernel_rfl) (by kernel_rfl) (by kernel_rfl) (by kernel_rfl)
  have h10 := @run_callFunc_extern Tryz.prog 94 _ ReflectliteType.typeOf Tryz.func94 (by kernel_rfl) (by kernel_rfl) (by kernel_rfl) (by kernel_rfl)
  have h35 := @run_callFunc_extern Tryz.prog 198 _ (ReflectliteType.relation "AssignableTo" ReflectliteType.assignableTo) Tryz.func198 (by kernel_rfl) (by kernel_rfl) (by kernel_rfl) (by kernel_rfl)
  have h11 := @run_callFunc_extern Tryz.prog 95 _ (ReflectliteValue.method (ReflectliteValue.valueError "reflectlite.Value.Elem" 0) ReflectliteValue.elem) Tryz.func95 (by kernel_rfl) (by kernel_rfl) (by kernel_rfl) (by kernel_rfl)
  have h12 := @run_callFunc_extern Tryz.prog 96 _ ReflectliteValue.set Tryz.func96 (by kernel_rfl) (by kernel_rfl) (by kernel_rfl) (by kernel_rfl)
  have tO := typeOfC
  have mA := methodAssignableTo
  have nA := noAsC
  have nU := noUnC
  have nL := noUlC
  have a25 := asgCF
  have v25 := valueOfFA
  have f6 := valueOfF
  have f7 := typeF
  have mK := methodKind
  have mE := methodElem
  have mI := methodImplements
  have k27 := kindPF
  have k25 := kindFA
  have e27 := elemF
  have i25 := implF
  have n8 := isNilF ⟨w.heap.size, 0, none⟩ t ((w.alloc (.cells #[.pointer (some t)] 74)).alloc (vF w)) (by simp)
  have hlt : 0 < w.heap.size := by
    rcases Nat.lt_or_ge 0 w.heap.size with h | h
    · exact h
    · simp [World.cell?, Array.getElem?_eq_none h] at hg
  have hg2 : ((w.alloc (.cells #[.pointer (some t)] 74)).alloc (vF w)).cell? ⟨0, 0, none⟩ = some (.iface 129 (.agg #[hd 29])) := by
    rw [World.cell?_alloc_lt _ _ ⟨0, 0, none⟩ (by simp <;> omega), World.cell?_alloc_lt _ _ ⟨0, 0, none⟩ hlt]; exact hg
  have htl : t.block < w.heap.size := by
    rcases Nat.lt_or_ge t.block w.heap.size with h | h
    · exact h
    · simp [World.cell?, Array.getElem?_eq_none h] at ht0
  have el := elemVF ⟨w.heap.size, 0, none⟩ t (((w.alloc (.cells #[.pointer (some t)] 74)).alloc (vF w)).alloc (vF w)) (by rw [World.cell?_alloc_lt _ _ ⟨w.heap.size, 0, none⟩ (by simp; omega)]; simp)
  go_enter Tryz.func35, Tryz.ntmps35
  go_wp2
  refine wp_loop_rounds 1 ?_
  rw [rounds_succ]
  go_wp2
  go_ret
  exact ⟨rfl, .step _ (.step _ (.step _ .refl))⟩
end Go.Proofs.Tryz.AsP
end
section
namespace Go.Proofs.Tryz.AsP
open Go.RowKit Go.Extern.Stop Go.Stop Go.Extern Go.Proofs
set_option maxHeartbeats 4000000 in
theorem as_FC (b o : Nat) (n : Int) (t : Addr) (old : Value) (w : World) (hg : w.cell? ⟨0, 0, none⟩ = some (.iface 129 (.agg #[hd 29]))) (ht0 : w.cell? t = some old) (hf0 : w.frozen? t = false) (hp : w.cell? ⟨b, o + 1, none⟩ = some (.iface 55 (.int .i64 n))) :
    Calls Tryz.prog 35 #[.iface 58 (.pointer (some ⟨b, o, none⟩)), .iface 73 (.pointer (some t))] w fun ev w' => ev = .returned (.bool true) ∧ ∃ w1, Al w w1 ∧ w' = w1.setCell t (.int .i64 n) := by
  have h6 := @run_callFunc_extern Tryz.prog 61 _ (fun args => ReflectliteValue.unpack (args.getD 0 (.tuple #[]))) Tryz.func61 (by kernel_rfl) (by kernel_rfl) (by kernel_rfl) (by kernel_rfl)
  have h7 := @run_callFunc_extern Tryz.prog 62 _ (ReflectliteValue.methodAny (ReflectliteValue.valueError "reflectlite.Value.Type" 0) (fun t _ _ _ => ReflectliteType.toType t)) Tryz.func62 (by kernel_rfl) (by kernel_rfl) (by kernel_rfl) (by kernel_rfl)
  have h8 := @run_callFunc_extern Tryz.prog 63 _ (ReflectliteValue.method (ReflectliteValue.valueError "reflectlite.Value.IsNil" 0) ReflectliteValue.isNil) Tryz.func63 (by kernel_rfl) (by kernel_rfl) (by kernel_rfl) (by kernel_rfl)
  have h27 := @run_callFunc_extern Tryz.prog 188 _ (ReflectliteType.abiMethod fun t => do pure (.int .u8 (← Rtype.kind t))) Tryz.func188 (by kernel_rfl) (by kernel_rfl) (by kernel_rfl) (by kernel_rfl)
  have h37 := @run_callFunc_extern Tryz.prog 200 _ (ReflectliteType.method ReflectliteType.elem) Tryz.func200 (by kernel_rfl) (by kernel_rfl) (by kernel_rfl) (by kernel_rfl)
  have h38 := @run_callFunc_extern Tryz.prog 201 _ (ReflectliteType.relation "Implements" ReflectliteType.implements_) Tryz.func201 (by kernel_rfl) (by kernel_rfl) (by kernel_rfl) (by kernel_rfl)
  have h10 := @run_callFunc_extern Tryz.prog 94 _ ReflectliteType.typeOf Tryz.func94 (by kernel_rfl) (by kernel_rfl) (by kernel_rfl) (by kernel_rfl)
  have h35 := @run_callFunc_extern Tryz.prog 198 _ (ReflectliteType.relation "AssignableTo" ReflectliteType.assignableTo) Tryz.func198 (by kernel_rfl) (by kernel_rfl) (by kernel_rfl) (by kernel_rfl)
  have h11 := @run_callFunc_extern Tryz.prog 95 _ (ReflectliteValue.method (ReflectliteValue.valueError "reflectlite.Value.Elem" 0) ReflectliteValue.elem) Tryz.func95 (by kernel_rfl) (by kernel_rfl) (by kernel_rfl) (by kernel_rfl)
  have h12 := @run_callFunc_extern Tryz.prog 96 _ ReflectliteValue.set Tryz.func96 (by kernel_rfl) (by kernel_rfl) (by kernel_rfl) (by kernel_rfl)
  have tO := typeOfC
  have tO2 := typeOfF
  have a26 := asgFC
  have nA := noAsF
  have nU := unF
  have mU := methodUnwrap
  have mA := methodAssignableTo
  have a25 := asgCC
  have v25 := valueOfCO
  have f6 := valueOfC
  have f7 := typeC
  have mK := methodKind
  have mE := methodElem
  have mI := methodImplements
  have k27 := kindPC
  have k25 := kindCO
  have e27 := elemC
  have i25 := implC
  have n8 := isNilC ⟨w.heap.size, 0, none⟩ t ((w.alloc (.cells #[.pointer (some t)] 73)).alloc (vC w)) (by simp)
  have hlt : 0 < w.heap.size := by
    rcases Nat.lt_or_ge 0 w.heap.size with h | h
    · exact h
    · simp [World.cell?, Array.getElem?_eq_none h] at hg
  have hg2 : ((w.alloc (.cells #[.pointer (some t)] 73)).alloc (vC w)).cell? ⟨0, 0, none⟩ = some (.iface 129 (.agg #[hd 29])) := by
    rw [World.cell?_alloc_lt _ _ ⟨0, 0, none⟩ (by simp <;> omega), World.cell?_alloc_lt _ _ ⟨0, 0, none⟩ hlt]; exact hg
  have htl : t.block < w.heap.size := by
    rcases Nat.lt_or_ge t.block w.heap.size with h | h
    · exact h
    · simp [World.cell?, Array.getElem?_eq_none h] at ht0
  have hbl : b < w.heap.size := by
    rcases Nat.lt_or_ge b w.heap.size with h | h
    · exact h
    · simp [World.cell?, Array.getElem?_eq_none h] at hp
  have hp2 : (((w.alloc (.cells #[.pointer (some t)] 73)).alloc (vC w)).alloc (vC w)).cell? ⟨b, o + 1, none⟩ = some (.iface 55 (.int .i64 n)) := by
    rw [World.cell?_alloc_lt _ _ ⟨b, o + 1, none⟩ (by simp <;> omega), World.cell?_alloc_lt _ _ ⟨b, o + 1, none⟩ (by simp <;> omega), World.cell?_alloc_lt _ _ ⟨b, o + 1, none⟩ hbl]; exact hp
  have el := elemVC ⟨w.heap.size, 0, none⟩ t (((w.alloc (.cells #[.pointer (some t)] 73)).alloc (vC w)).alloc (vC w)) (by rw [World.cell?_alloc_lt _ _ ⟨w.heap.size, 0, none⟩ (by simp; omega)]; simp)
  have st := setCO t ⟨w.heap.size + 1 + 1 + 1, 0, none⟩ n old ((((w.alloc (.cells #[.pointer (some t)] 73)).alloc (vC w)).alloc (vC w)).alloc (.cells #[.int .i64 n] 55))
    (by rw [World.cell?_alloc_at _ _ _ _ (by simp)]; rfl)
    (by rw [World.cell?_alloc_lt _ _ t (by simp; omega), World.cell?_alloc_lt _ _ t (by simp; omega), World.cell?_alloc_lt _ _ t (by simp; omega), World.cell?_alloc_lt _ _ t htl]; exact ht0)
    (by rw [World.frozen?_alloc_old _ _ t (by simp; omega), World.frozen?_alloc_old _ _ t (by simp; omega), World.frozen?_alloc_old _ _ t (by simp; omega), World.frozen?_alloc_old _ _ t (Nat.ne_of_lt htl)]; exact hf0)
  go_enter Tryz.func35, Tryz.ntmps35
  go_wp2
  refine wp_loop_rounds 2 ?_
  rw [rounds_succ]
  go_wp2
  rw [rounds_succ]
  go_wp2
  go_ret
  exact ⟨rfl, _, .step _ (.step _ (.step _ (.step _ .refl))), rfl⟩
end Go.Proofs.Tryz.AsP
end
section
namespace Go.Lb
inductive Alc (w : World) : World → Prop
  | refl : Alc w w
  | step {w1 : World} (o : Obj) (h : Alc w w1) : Alc w (w1.alloc o)
theorem Alc.srel {B : Nat} {fz : Fz} {h : Heap} {w w1 : World} (ha : Alc w w1) (s : SRel B fz h w) : SRel B fz h w1 ∧ Evo B fz w fz w1 := by
  induction ha with
  | refl => exact ⟨s, Evo.refl _ _ _⟩
  | step o _ ih => exact ⟨srel_alloc ih.1 o, ih.2.trans (evo_alloc ih.1 o fz fun _ _ h => h)⟩
theorem acalls_hit {X : Cx} {f : FuncId} {args : List AV} {h : Heap} {b : Nat} {E : TypeId} {old new : AV} (he : Enters X.P f) (hb : h b = some (.cells [old] E))
    (hc : ∀ fz w (cargs : Array Value), SRel X.B fz h w → GRel X.B fz w X.G → RelL fz w args cargs.toList → ∀ c0, w.cell? ⟨b, 0, none⟩ = some c0 → w.frozen? ⟨b, 0, none⟩ = false →
      ∃ cn, Rel fz w new cn ∧ Calls X.P f cargs w fun e w' => e = .returned (.bool true) ∧ ∃ w1, Alc w w1 ∧ w' = w1.setCell ⟨b, 0, none⟩ cn) :
    ACalls X f args h fun e h' => e = .ret (.bool true) ∧ h' = hset h b (.cells [new] E) := by
  refine ⟨he, fun fz w cargs h1 h2 h3 => ?_⟩
  obtain ⟨hB, cs, hcs, hrl, hnf⟩ := h1.blk b _ hb
  have hsz : cs.size = 1 := by have := RelL.length hrl; simp at this; omega
  obtain ⟨c0, hc0⟩ : ∃ c0, cs = #[c0] := by
    refine ⟨cs[0], ?_⟩
    apply Array.ext
    · simp [hsz]
    · intro i h1 h2
      simp at h2
      subst h2
      rfl
  subst hc0
  obtain ⟨cn, hn, hcall⟩ := hc fz w cargs h1 h2 h3 c0 (by simp [World.cell?, hcs]) (by simp [World.frozen?, hcs])
  refine hcall.mono ?_
  rintro e w' ⟨rfl, w1, ha, rfl⟩
  obtain ⟨s1, e1⟩ := ha.srel h1
  obtain ⟨_, cs1, hcs1, hrl1, hnf1⟩ := s1.blk b _ hb
  have hsz1 : cs1.size = 1 := by have := RelL.length hrl1; simp at this; omega
  obtain ⟨c1, hc1⟩ : ∃ c0, cs1 = #[c0] := by
    refine ⟨cs1[0], ?_⟩
    apply Array.ext
    · simp [hsz1]
    · intro i h1 h2
      simp at h2
      subst h2
      rfl
  subst hc1
  have hlt : b < w1.heap.size := (Array.getElem?_eq_some_iff.1 hcs1).1
  have hw : w1.setCell ⟨b, 0, none⟩ cn = setRow w1 b (.cells #[cn] E (0, 0)) := by
    refine world_ext_heap (fun k => ?_) rfl rfl rfl rfl
    by_cases hk : k = b
    · subst hk
      rw [setCell_heap_at _ _ _ _ hcs1, setRow_heap_at _ _ _ hlt]
      rfl
    · rw [setCell_heap_ne _ _ _ _ hk, setRow_heap_ne _ _ _ hk]
  obtain ⟨e2, s2⟩ := srel_setRow (fz' := fz) (k' := .cells [new] E) s1 hb (.cells #[cn] E (0, 0)) (fun _ _ h => h) (fun _ _ h _ => h) (fun o ho => absurd ho (hnf1 o)) (fun o ho => absurd ho (hnf1 o)) (fun ev => by
    refine ⟨#[cn], setRow_heap_at _ _ _ hlt, ?_, hnf1⟩
    simp only [RelL]
    exact ⟨cn, [], rfl, Rel.mono (e1.trans ev) _ _ hn, rfl⟩)
  rw [hw]
  exact ⟨.ret (.bool true), _, fz, ⟨rfl, rfl⟩, by simp [EndRel, Rel], s2, e1.trans e2⟩
theorem acalls_miss {X : Cx} {f : FuncId} {args : List AV} {h : Heap} (he : Enters X.P f)
    (hc : ∀ fz w (cargs : Array Value), SRel X.B fz h w → GRel X.B fz w X.G → RelL fz w args cargs.toList → Calls X.P f cargs w fun e w' => e = .returned (.bool false) ∧ Alc w w') :
    ACalls X f args h fun e h' => e = .ret (.bool false) ∧ h' = h := by
  refine ⟨he, fun fz w cargs h1 h2 h3 => (hc fz w cargs h1 h2 h3).mono ?_⟩
  rintro e w' ⟨rfl, ha⟩
  obtain ⟨s1, e1⟩ := ha.srel h1
  exact ⟨.ret (.bool false), _, fz, ⟨rfl, rfl⟩, by simp [EndRel, Rel], s1, e1⟩
theorem cell_of_grel {B : Nat} {fz : Fz} {w : World} {G : Nat → AV} {g rt ng er : Nat} (hG : GRel B fz w G) (hv : G g = .agg [.iface rt (.agg [.ptr ng er])]) : w.cell? ⟨g, 0, none⟩ = some (.iface rt (.agg #[.pointer (some ⟨ng, er, none⟩)])) := by
  have h := hG g
  rw [hv] at h
  obtain ⟨_, cs, E, fr, h1, h2⟩ := h
  simp only [RelL] at h2
  obtain ⟨c, l, e1, h3, rfl⟩ := h2
  simp only [Rel] at h3
  obtain ⟨x, rfl, vs, rfl, h4⟩ := h3
  simp only [RelL] at h4
  obtain ⟨c2, l2, e2, h5, rfl⟩ := h4
  simp only [Rel] at h5
  subst h5
  have : vs = #[.pointer (some ⟨ng, er, none⟩)] := by
    apply Array.toList_inj.1
    simpa using e2
  subst this
  have : cs = #[.iface rt (.agg #[.pointer (some ⟨ng, er, none⟩)])] := by
    apply Array.toList_inj.1
    simpa using e1
  subst this
  simp [World.cell?, h1]
end Go.Lb
end
section
set_option maxRecDepth 100000
namespace Go.Lb.R
open Go.Proofs
open Go.Lb
open Go.Proofs.Tryz.AsP (as_CC as_FF as_CF as_FC)
theorem al_alc {w w' : World} (h : Go.Proofs.Tryz.AsP.Al w w') : Alc w w' := by
  induction h with
  | refl => exact .refl
  | step o _ ih => exact .step o ih
theorem asEnters : Enters Tryz.prog 35 := ⟨Tryz.f35, _, Tryz.func35, rfl, by kernel_rfl⟩
theorem et_cell {B : Nat} {fz : Fz} {w : World} (hG : GRel B fz w G0) : w.cell? ⟨0, 0, none⟩ = some (.iface 129 (.agg #[.pointer (some ⟨5, 29, none⟩)])) := cell_of_grel hG (by rfl)
theorem rel2 {fz : Fz} {w : World} {t1 t2 b : Nat} {v : AV} {cargs : Array Value} (h : RelL fz w [.iface t1 v, .iface t2 (.ptr b 0)] cargs.toList) : ∃ c, cargs = #[.iface t1 c, .iface t2 (.pointer (some ⟨b, 0, none⟩))] ∧ Rel fz w v c := by
  simp only [RelL, Rel] at h
  obtain ⟨c, l, e1, ⟨x, rfl, hx⟩, c2, l2, rfl, ⟨y, rfl, rfl⟩, rfl⟩ := h
  exact ⟨x, Array.toList_inj.1 (by simpa using e1), hx⟩
theorem asA_CC (B : Nat) (n : Int) {h : Heap} {b : Nat} {old : AV} {E : TypeId} (hb : h b = some (.cells [old] E)) : ACalls (X B) 35 [.iface 55 (.int .i64 n), .iface 73 (.ptr b 0)] h fun e h' => e = .ret (.bool true) ∧ h' = hset h b (.cells [.int .i64 n] E) :=
  acalls_hit asEnters hb fun fz w cargs h1 h2 h3 c0 hc0 hf0 => by
    obtain ⟨c, rfl, hc⟩ := rel2 h3
    simp only [Rel] at hc
    subst hc
    refine ⟨.int .i64 n, by simp only [Rel], (as_CC n ⟨b, 0, none⟩ c0 w (et_cell h2) hc0 hf0).mono ?_⟩
    rintro e w' ⟨rfl, w1, ha, rfl⟩
    exact ⟨rfl, w1, al_alc ha, rfl⟩
theorem asA_FC (B : Nat) (p n : Int) {h : Heap} {b : Nat} {old : AV} {E : TypeId} (hb : h b = some (.cells [old] E)) : ACalls (X B) 35 [aErr 55 58 (.fault p (.code n)), .iface 73 (.ptr b 0)] h fun e h' => e = .ret (.bool true) ∧ h' = hset h b (.cells [.int .i64 n] E) :=
  acalls_hit asEnters hb fun fz w cargs h1 h2 h3 c0 hc0 hf0 => by
    obtain ⟨c, rfl, hc⟩ := rel2 h3
    simp only [Rel] at hc
    obtain ⟨pb, po, rfl, hc⟩ := hc
    simp only [RelAt, aErr, Rel] at hc
    obtain ⟨_, ⟨c2, hc2, _, x, rfl, rfl⟩, _⟩ := hc
    refine ⟨.int .i64 n, by simp only [Rel], (as_FC pb po n ⟨b, 0, none⟩ c0 w (et_cell h2) hc0 hf0 hc2).mono ?_⟩
    rintro e w' ⟨rfl, w1, ha, rfl⟩
    exact ⟨rfl, w1, al_alc ha, rfl⟩
theorem asA_FF (B : Nat) (cs : List AV) {h : Heap} {b : Nat} {old : AV} {E : TypeId} (hb : h b = some (.cells [old] E)) : ACalls (X B) 35 [.iface 58 (.ro cs), .iface 74 (.ptr b 0)] h fun e h' => e = .ret (.bool true) ∧ h' = hset h b (.cells [.ro cs] E) :=
  acalls_hit asEnters hb fun fz w cargs h1 h2 h3 c0 hc0 hf0 => by
    obtain ⟨c, rfl, hc⟩ := rel2 h3
    have hc' := hc
    simp only [Rel] at hc
    obtain ⟨pb, po, rfl, hc⟩ := hc
    refine ⟨_, hc', (as_FF ⟨pb, po, none⟩ ⟨b, 0, none⟩ c0 w (et_cell h2) hc0 hf0).mono ?_⟩
    rintro e w' ⟨rfl, w1, ha, rfl⟩
    exact ⟨rfl, w1, al_alc ha, rfl⟩
theorem asA_CF (B : Nat) (n : Int) {h : Heap} {b : Nat} {old : AV} {E : TypeId} (hb : h b = some (.cells [old] E)) : ACalls (X B) 35 [.iface 55 (.int .i64 n), .iface 74 (.ptr b 0)] h fun e h' => e = .ret (.bool false) ∧ h' = h :=
  acalls_miss asEnters fun fz w cargs h1 h2 h3 => by
    obtain ⟨c, rfl, hc⟩ := rel2 h3
    simp only [Rel] at hc
    subst hc
    obtain ⟨_, cs, hcs, hrl, hnf⟩ := h1.blk b _ hb
    have hsz : cs.size = 1 := by have := RelL.length hrl; simp at this; omega
    refine (as_CF n ⟨b, 0, none⟩ cs[0] w (et_cell h2) (by simp [World.cell?, hcs, hsz]) (by simp [World.frozen?, hcs])).mono ?_
    rintro e w' ⟨rfl, ha⟩
    exact ⟨rfl, al_alc ha⟩
def codeI (n : Int) : Int := bif decide (n > 0) then n else -1
def codeF : GErr → Option Int
  | .nil => some 0
  | .code n => some (codeI n)
  | .fault _ (.code n) => some (codeI n)
  | _ => none
noncomputable def bC : Code := Tryz.f20.body.getD .skip
noncomputable def c0 : Array Oper := match bC with | .seq (.region _ o _) _ => o | _ => #[]
noncomputable def c1 : Array Oper := match bC with | .seq _ (.seq (.seq (.region _ o _) _) _) => o | _ => #[]
noncomputable def c2 : Array Oper := match bC with | .seq _ (.seq (.seq _ (.cond _ (.seq (.region _ o _) _) _)) _) => o | _ => #[]
noncomputable def c3 : Array Oper := match bC with | .seq _ (.seq _ (.seq (.region _ o _) _)) => o | _ => #[]
noncomputable def c4 : Array Oper := match bC with | .seq _ (.seq _ (.seq _ (.seq (.seq (.region _ o _) _) _))) => o | _ => #[]
noncomputable def c5 : Array Oper := match bC with | .seq _ (.seq _ (.seq _ (.seq (.seq _ (.cond _ (.seq (.region _ o _) _) _)) _))) => o | _ => #[]
noncomputable def c6 : Array Oper := match bC with | .seq _ (.seq _ (.seq _ (.seq _ (.seq (.region _ o _) _)))) => o | _ => #[]
theorem bC_eq : bC = .seq (.region 0 c0 false) (.seq (.seq (.region 1 c1 false) (.cond (.tmp 5) (.seq (.region 2 c2 false) .ret) .skip)) (.seq (.region 3 c3 false) (.seq (.seq (.region 4 c4 false) (.cond (.tmp 12) (.seq (.region 5 c5 false) .ret) .skip)) (.seq (.region 6 c6 false) .ret)))) := by kernel_rfl
theorem fC_ok : FIok' Tryz.prog 20 (fiOf Tryz.f20 ⟨[], [], []⟩) := ⟨_, by kernel_rfl, by kernel_rfl, by kernel_rfl, rfl, rfl⟩
theorem code_nil (B : Nat) : Pure (X B) 20 [.nilif] (.int .i64 0) := by
  obtain ⟨fn, f1, f2, f3, f4, f5⟩ := fC_ok.ex
  refine wf 14 f1 f2 f3 f4 f5 (by simp) fun h hP => ?_
  show WS (X B) 14 bC _ ⟨look [(0, AV.nilif)], h⟩
  rw [bC_eq]
  refine sr (rkE [] 1 [0] [(0, AV.nilif)] (nt ?_ (by decide)))
  refine ws_seq (sr (rkE [] 2 [0, 5] [(0, AV.nilif), (5, .bool true)] (nt ?_ (by decide))))
  refine ws_cond (t := true) rfl (fun _ => sr (rkE [] 1 [2] [(2, .int .i64 0)] (nt (ws_ret (t_ret (Go.Lb.re (.int .i64 0) (Weak.refl _) (Sub.refl _)))) (by decide)))) (fun e => by cases e)
theorem code_as (B : Nat) (t : TypeId) (v : AV) (n : Int) (hAs : ∀ (h : Heap) (b : Nat) (old : AV) (E : TypeId), h b = some (.cells [old] E) → ACalls (X B) 35 [.iface t v, .iface 73 (.ptr b 0)] h fun e h' => e = .ret (.bool true) ∧ h' = hset h b (.cells [.int .i64 n] E)) : Pure (X B) 20 [.iface t v] (.int .i64 (codeI n)) := by
  obtain ⟨fn, f1, f2, f3, f4, f5⟩ := fC_ok.ex
  refine wf 14 f1 f2 f3 f4 f5 (by simp) fun h hP => ?_
  show WS (X B) 14 bC _ ⟨look [(0, AV.iface t v)], h⟩
  rw [bC_eq]
  refine sr (rkE [] 1 [0] [(0, AV.iface t v)] (nt ?_ (by decide)))
  refine ws_seq (sr (rkE [] 2 [0, 5] [(0, AV.iface t v), (5, .bool false)] (nt ?_ (by decide))))
  refine ws_cond (t := false) rfl (fun e => by cases e) (fun _ => ws_skip (t_norm ?_))
  refine sr (rn [.int .i64 0] 55 (some 3) hP fun b h1 hP1 => nt ?_ (by decide))
  refine ws_seq (sr (rkE [] 2 [3, 6, 7] [(3, .ptr b 0), (6, AV.iface t v), (7, .iface 73 (.ptr b 0))] ?_))
  refine wso_acall XOK.ok (g := 35) (args := [.iface t v, .iface 73 (.ptr b 0)]) (d := some 8) (by kernel_rfl) (hAs h1 b (.int .i64 0) 55 (hP1.get 0 rfl)) (fun v' h' ⟨e1, e2⟩ => ?_) (fun v' h' ⟨e1, _⟩ => by cases e1)
  cases e1
  subst e2
  have hP2 := hP1.set 0 rfl (.cells [.int .i64 n] 55)
  refine rkE [] 1 [3, 9] [(3, .ptr b 0), (9, .bool true)] ?_
  refine rld (b := b) (vs := [.int .i64 n]) (E := 55) 0 ⟨.int .i64, 1, 8, .int .i64 0⟩ (some 10) (.int .i64 n) (hP2.get 0 rfl) ?_
  refine rkE [] 2 [3, 12] [(3, .ptr b 0), (12, .bool (decide (n > 0)))] (nt ?_ (by decide))
  refine ws_cond (t := decide (n > 0)) rfl (fun hn => ?_) (fun hn => ws_skip (t_norm ?_))
  · refine sr (rld (b := b) (vs := [.int .i64 n]) (E := 55) 0 ⟨.int .i64, 1, 8, .int .i64 0⟩ (some 13) (.int .i64 n) (hP2.get 0 rfl) ?_)
    refine rkE [] 1 [2] [(2, .int .i64 n)] (nt (ws_ret (t_ret ?_)) (by decide))
    have : codeI n = n := by unfold codeI; rw [hn]; rfl
    rw [this]
    exact Go.Lb.re (.int .i64 n) (Weak.refl _) hP2.sub
  · refine sr (rkE [] 1 [2] [(2, .int .i64 (-1))] (nt (ws_ret ?_) (by decide)))
    have : codeI n = -1 := by unfold codeI; rw [hn]; rfl
    rw [this]
    exact Go.Lb.re (.int .i64 (-1)) (Weak.refl _) hP2.sub
theorem code_pure (B : Nat) (e : GErr) (r : Int) (hr : codeF e = some r) : Pure (X B) 20 [aErr 55 58 e] (.int .i64 r) := by
  match e, hr with
  | .nil, hr => cases hr; exact code_nil B
  | .code n, hr => cases hr; exact code_as B 55 _ n fun h b old E hb => asA_CC B n hb
  | .fault p (.code n), hr => cases hr; exact code_as B 58 _ n fun h b old E hb => asA_FC B p n hb
def codeCon : Con := pureCon [(0, .err)] (.int .i64) fun x => codeF x.1
theorem code_ok (B : Nat) (con : FuncId → Option Con) (lp : Nat → Option (FuncId × List Nat × Con)) : ∀ x y, codeCon.fn x = some y → FnOK1 (X B) (mkC con lp) 20 codeCon x y :=
  pure_fnok rfl rfl rfl rfl fun x y h => code_pure B x.1 y h
def faultF (e : GErr) (code at_ : Int) : Option Bool :=
  bif decide (code = 0) then some e.isNil else
  match e with
  | .nil => some false
  | .code _ => some false
  | .fault p (.code n) => some (decide (codeI n = code) && decide (p = at_))
  | _ => none
noncomputable def bF : Code := Tryz.f21.body.getD .skip
noncomputable def d0 : Array Oper := match bF with | .seq (.region _ o _) _ => o | _ => #[]
noncomputable def d1 : Array Oper := match bF with | .seq _ (.seq (.region _ o _) _) => o | _ => #[]
noncomputable def d2 : Array Oper := match bF with | .seq _ (.seq _ (.seq (.seq (.region _ o _) _) _)) => o | _ => #[]
noncomputable def d3 : Array Oper := match bF with | .seq _ (.seq _ (.seq (.seq _ (.cond _ (.seq (.region _ o _) _) _)) _)) => o | _ => #[]
noncomputable def d4 : Array Oper := match bF with | .seq _ (.seq _ (.seq _ (.seq (.region _ o _) _))) => o | _ => #[]
theorem bF_eq : bF = .seq (.region 0 d0 false) (.seq (.region 1 d1 false) (.seq (.seq (.region 2 d2 false) (.cond (.tmp 9) (.seq (.region 3 d3 false) .ret) .skip)) (.seq (.region 4 d4 false) .ret))) := by kernel_rfl
theorem fF_ok : FIok' Tryz.prog 21 (fiOf Tryz.f21 ⟨[], [], []⟩) := ⟨_, by kernel_rfl, by kernel_rfl, by kernel_rfl, rfl, rfl⟩
theorem isNil_eq (B : Nat) {n : Nat} {ops : Array Oper} {k : Nat} {A : List (Nat × AV)} {h : Heap} {Q : AExit → St → Prop} (d : Option Tmp) (e : GErr) (hw : WSO (X B) n ops Q (k + 1) ⟨look (putA d (.bool e.isNil) A), h⟩) (hc : opAt (X B) n ops k A h = some (abinT (X B).T (X B).es .eql 29 (.tmp 10) (.const .nilIface) (aErr 55 58 e) .nilif, d) := by kernel_rfl) : WSO (X B) n ops Q k ⟨look A, h⟩ := by
  exact wso_aop XOK.ok hc (er_eql (xo := .tmp 10) (yo := .const .nilIface) ⟨.iface, 1, 16, .nilif⟩ (by kernel_rfl) rfl rfl e) hw
theorem fault_pure (B : Nat) (e : GErr) (code at_ : Int) (r : Bool) (hr : faultF e code at_ = some r) : Pure (X B) 21 [aErr 55 58 e, .int .i64 code, .int .i64 at_] (.bool r) := by
  obtain ⟨fn, f1, f2, f3, f4, f5⟩ := fF_ok.ex
  refine wf 33 f1 f2 f3 f4 f5 (by simp) fun h hP => ?_
  show WS (X B) 33 bF _ ⟨look [(0, aErr 55 58 e), (1, .int .i64 code), (2, .int .i64 at_)], h⟩
  rw [bF_eq]
  refine sr (rkE [] 1 [0, 1, 2] [(0, aErr 55 58 e), (1, .int .i64 code), (2, .int .i64 at_)] (nt ?_ (by decide)))
  refine sr (rn [.nilp] 58 (some 7) hP fun b h1 hP1 => nt ?_ (by decide))
  refine ws_seq (sr (rkE [] 2 [0, 1, 2, 7, 9] [(0, aErr 55 58 e), (1, .int .i64 code), (2, .int .i64 at_), (7, .ptr b 0), (9, .bool (decide (code = 0)))] (nt ?_ (by decide))))
  unfold faultF at hr
  refine ws_cond (t := decide (code = 0)) rfl (fun hn => ?_) (fun hn => ws_skip (t_norm ?_))
  · rw [hn] at hr
    simp only [cond_true, Option.some.injEq] at hr
    subst hr
    refine sr (rkE [] 1 [10] [(10, aErr 55 58 e)] (isNil_eq B (some 11) e (rkE [] 1 [6] [(6, .bool e.isNil)] (nt (ws_ret (t_ret ?_)) (by decide)))))
    exact Go.Lb.re (.bool e.isNil) (Weak.refl _) hP1.sub
  · rw [hn] at hr
    simp only [cond_false] at hr
    have miss : ∀ c : Int, codeF e = some c → decide (c = code) = false → r = false → WS (X B) 33 (.seq (.region 4 d4 false) .ret) (retPost (X B) [.tmp 6] (EndsIn (.bool r) h)) ⟨look [(0, aErr 55 58 e), (1, .int .i64 code), (2, .int .i64 at_), (7, .ptr b 0), (9, .bool (decide (code = 0)))], h1⟩ := by
      intro c hc1 hc2 hc3
      subst hc3
      refine sr (rkE [] 1 [0, 1, 2, 7, 12] [(0, aErr 55 58 e), (1, .int .i64 code), (2, .int .i64 at_), (7, .ptr b 0), (12, aErr 55 58 e)] ?_)
      refine rc (some 13) (code_pure B e c hc1) ?_
      refine rkE [] 2 [0, 2, 7, 15] [(0, aErr 55 58 e), (2, .int .i64 at_), (7, .ptr b 0), (15, .bool (decide (c = code)))] ?_
      rw [hc2]
      refine rkE [] 18 [6] [(6, .bool false)] (nt (ws_ret ?_) (by decide))
      exact Go.Lb.re (.bool false) (Weak.refl _) hP1.sub
    match e, hr with
    | .nil, hr =>
      cases hr
      refine miss 0 rfl ?_ rfl
      simp only [decide_eq_false_iff_not] at hn ⊢
      omega
    | .code n, hr =>
      cases hr
      cases hc : decide (codeI n = code) with
      | false => exact miss (codeI n) rfl hc rfl
      | true =>
        refine sr (rkE [] 1 [0, 1, 2, 7, 12] [(0, .iface 55 (.int .i64 n)), (1, .int .i64 code), (2, .int .i64 at_), (7, .ptr b 0), (12, .iface 55 (.int .i64 n))] ?_)
        refine rc (some 13) (code_pure B (.code n) (codeI n) rfl) ?_
        refine rkE [] 2 [0, 2, 7, 15] [(0, .iface 55 (.int .i64 n)), (2, .int .i64 at_), (7, .ptr b 0), (15, .bool (decide (codeI n = code)))] ?_
        rw [hc]
        refine rkE [] 3 [2, 7, 16, 17, 18] [(2, .int .i64 at_), (7, .ptr b 0), (16, .bool true), (17, .iface 55 (.int .i64 n)), (18, .iface 74 (.ptr b 0))] ?_
        refine wso_acall XOK.ok (g := 35) (args := [.iface 55 (.int .i64 n), .iface 74 (.ptr b 0)]) (d := some 19) (by kernel_rfl) (asA_CF B n (hP1.get 0 rfl)) (fun v' h' ⟨e1, e2⟩ => ?_) (fun v' h' ⟨e1, _⟩ => by cases e1)
        cases e1
        subst e2
        refine rkE [] 14 [6] [(6, .bool false)] (nt (ws_ret ?_) (by decide))
        exact Go.Lb.re (.bool false) (Weak.refl _) hP1.sub
    | .fault p (.code n), hr =>
      cases hr
      cases hc : decide (codeI n = code) with
      | false => have hm := miss (codeI n) rfl hc (by rw [hc]; rfl); rw [hc] at hm; exact hm
      | true =>
        refine sr (rkE [] 1 [0, 1, 2, 7, 12] [(0, aErr 55 58 (.fault p (.code n))), (1, .int .i64 code), (2, .int .i64 at_), (7, .ptr b 0), (12, aErr 55 58 (.fault p (.code n)))] ?_)
        refine rc (some 13) (code_pure B (.fault p (.code n)) (codeI n) rfl) ?_
        refine rkE [] 2 [0, 2, 7, 15] [(0, aErr 55 58 (.fault p (.code n))), (2, .int .i64 at_), (7, .ptr b 0), (15, .bool (decide (codeI n = code)))] ?_
        rw [hc]
        refine rkE [] 3 [2, 7, 16, 17, 18] [(2, .int .i64 at_), (7, .ptr b 0), (16, .bool true), (17, aErr 55 58 (.fault p (.code n))), (18, .iface 74 (.ptr b 0))] ?_
        refine wso_acall XOK.ok (g := 35) (args := [aErr 55 58 (.fault p (.code n)), .iface 74 (.ptr b 0)]) (d := some 19) (by kernel_rfl) (asA_FF B [.int .i64 p, aErr 55 58 (.code n)] (hP1.get 0 rfl)) (fun v' h' ⟨e1, e2⟩ => ?_) (fun v' h' ⟨e1, _⟩ => by cases e1)
        cases e1
        subst e2
        have hP2 := hP1.set 0 rfl (.cells [.ro [.int .i64 p, aErr 55 58 (.code n)]] 58)
        refine rkE [] 2 [2, 7, 21] [(2, .int .i64 at_), (7, .ptr b 0), (21, .bool true)] ?_
        refine rld (b := b) (vs := [.ro [.int .i64 p, aErr 55 58 (.code n)]]) (E := 58) 0 ⟨.ptr (60), 1, 8, .nilp⟩ (some 22) (.ro [.int .i64 p, aErr 55 58 (.code n)]) (hP2.get 0 rfl) ?_
        refine rkE [] 3 [2, 7, 25] [(2, .int .i64 at_), (7, .ptr b 0), (25, .bool true)] ?_
        refine rld (b := b) (vs := [.ro [.int .i64 p, aErr 55 58 (.code n)]]) (E := 58) 0 ⟨.ptr (60), 1, 8, .nilp⟩ (some 26) (.ro [.int .i64 p, aErr 55 58 (.code n)]) (hP2.get 0 rfl) ?_
        refine rkE [] 7 [6] [(6, .bool (decide (p = at_)))] (nt (ws_ret ?_) (by decide))
        exact Go.Lb.re (.bool (decide (p = at_))) (Weak.eq (by simp)) hP2.sub
def faultCon : Con := pureCon [(0, .err), (1, .int .i64), (2, .int .i64)] .bool fun x => faultF x.1 x.2.1 x.2.2.1
theorem fault_ok (B : Nat) (con : FuncId → Option Con) (lp : Nat → Option (FuncId × List Nat × Con)) : ∀ x y, faultCon.fn x = some y → FnOK1 (X B) (mkC con lp) 21 faultCon x y :=
  pure_fnok rfl rfl rfl rfl fun x y h => fault_pure B x.1 x.2.1 x.2.2.1 y h
end Go.Lb.R
end
section
namespace Go.Lb.R
open Go.Lb
def kh_fields (a : Str) : Option (((List Str) × Unit) × Unit) := fieldsCon.fn ((a, ()), ())
def kh_indexByte (a : Str) (b : Int) : Option ((Int × Unit) × Unit) := indexByteCon.fn ((a, (b, ())), ())
def kh_validRune (a : Int) : Option ((Bool × Unit) × Unit) := validRuneCon.fn ((a, ()), ())
def kh_clone (a : List Str) : Option (((List Str) × Unit) × Unit) := cloneCon.fn ((a, ()), ())
def kh_code (a : GErr) : Option ((Int × Unit) × Unit) := codeCon.fn ((a, ()), ())
def kh_fault (a : GErr) (b c : Int) : Option ((Bool × Unit) × Unit) := faultCon.fn ((a, (b, (c, ()))), ())
def kh_inner (l : List (Str × Bool)) : Option ((Unit × Unit) × (List (Str × Bool) × (List (Str × Bool) × Unit))) := innerCon.fn (((), ()), (l, ()))
def kh_awake : Option ((Bool × Unit) × Unit) := some ((true, ()), ())
end Go.Lb.R
end
section
set_option maxRecDepth 100000
namespace Go.Lb.R
open Go.Lb
mutual
def k15 (a0 : GT) : Option ((Int × Unit) × Unit) := ((k15_0 a0 (w64 (1 + w64 (Int.tdiv (↑(List.length (GT.life a0)) : Int) 100))) 0) >>= fun y0 => (some (((y0.1.1, ()), ()))))
  partial_fixpoint
def k15_0 (a0 : GT) (a1 : Int) (a2 : Int) : Option ((Int × Unit) × Unit) := (match ltI a2 (↑(List.length (GT.kids a0)) : Int) with | true => (match leI a1 400 with | true => ((idx (GT.kids a0) a2) >>= fun y0 => ((k15 y0) >>= fun y1 => (k15_0 a0 (w64 (a1 + y1.1.1)) (w64 (a2 + 1))))) | false => (some (((a1, ()), ())))) | false => (some (((a1, ()), ()))))
  partial_fixpoint
end
mutual
def k17 (a0 : GE) : Option ((Int × Unit) × Unit) := ((k17_0 a0 (w64 (1 + w64 (Int.tdiv (↑(List.length (GE.name a0)) : Int) 100))) 0) >>= fun y0 => (some (((y0.1.1, ()), ()))))
  partial_fixpoint
def k17_0 (a0 : GE) (a1 : Int) (a2 : Int) : Option ((Int × Unit) × Unit) := (match ltI a2 (↑(List.length (GE.kids a0)) : Int) with | true => (match leI a1 400 with | true => ((idx (GE.kids a0) a2) >>= fun y0 => ((k17 y0) >>= fun y1 => (k17_0 a0 (w64 (a1 + y1.1.1)) (w64 (a2 + 1))))) | false => (some (((a1, ()), ())))) | false => (some (((a1, ()), ()))))
  partial_fixpoint
end
mutual
def k16 (a0 : List GS) : Option ((Int × Unit) × Unit) := ((k16_0 a0 0 0) >>= fun y0 => (some (((y0.1.1, ()), ()))))
  partial_fixpoint
def k16_0 (a0 : List GS) (a1 : Int) (a2 : Int) : Option ((Int × Unit) × Unit) := ((match ltI a2 (↑(List.length a0) : Int) with | true => (some (((leI a1 400, ()), ()))) | false => (some (((false, ()), ())))) >>= fun y0 => (match y0.1.1 with | true => ((idx a0 a2) >>= fun y1 => ((idx a0 a2) >>= fun y2 => (((k17 (GS.place y2)) >>= fun y3 => (some (y3.1.1))) >>= fun y4 => ((idx a0 a2) >>= fun y5 => (((k17 (GS.expr y5)) >>= fun y6 => (some (y6.1.1))) >>= fun y7 => ((idx a0 a2) >>= fun y8 => (((k16 (GS.thn y8)) >>= fun y9 => (some (y9.1.1))) >>= fun y10 => ((idx a0 a2) >>= fun y11 => (((k16 (GS.els y11)) >>= fun y12 => (some (y12.1.1))) >>= fun y13 => (k16_0 a0 (w64 (w64 (w64 (w64 (w64 (w64 (a1 + 1) + w64 (Int.tdiv (↑(List.length (GS.name y1)) : Int) 100)) + y4) + y7) + y10) + y13)) (w64 (a2 + 1)))))))))))) | false => (some (((a1, ()), ())))))
  partial_fixpoint
end
def k7_0 (a0 : Int) (a1 : Int) (a2 : GF) : Option ((Int × Unit) × (GF × Unit)) := ((match ltI a1 (↑(List.length (GF.params a2)) : Int) with | true => (some (((leI a0 400, ()), ()))) | false => (some (((false, ()), ())))) >>= fun y0 => (match y0.1.1 with | true => ((idx (GF.params a2) a1) >>= fun y1 => ((idx (GF.params a2) a1) >>= fun y2 => (((k15 (GP.ty y2)) >>= fun y3 => (some (y3.1.1))) >>= fun y4 => (k7_0 (w64 (w64 (a0 + w64 (Int.tdiv (↑(List.length (GP.name y1)) : Int) 100)) + y4)) (w64 (a1 + 1)) (nf a2))))) | false => (some (((a0, ()), a2, ())))))
  partial_fixpoint
def k7_1 (a0 : Int) (a1 : Int) (a2 : GF) : Option ((Int × Unit) × (GF × Unit)) := (match ltI a1 (↑(List.length (GF.lives a2)) : Int) with | true => (match leI a0 400 with | true => ((idx (GF.lives a2) a1) >>= fun y0 => (k7_1 (w64 (a0 + w64 (Int.tdiv (↑(List.length y0) : Int) 100))) (w64 (a1 + 1)) (nf a2))) | false => (some (((a0, ()), a2, ())))) | false => (some (((a0, ()), a2, ()))))
  partial_fixpoint
def k7_2 (a0 : Int) (a1 : Int) (a2 : GF) : Option ((Int × Unit) × (GF × Unit)) := (match ltI a1 (↑(List.length (GF.outs a2)) : Int) with | true => (match leI a0 400 with | true => ((idx (GF.outs a2) a1) >>= fun y0 => (k7_2 (w64 (a0 + w64 (Int.tdiv (↑(List.length y0) : Int) 100))) (w64 (a1 + 1)) (nf a2))) | false => (some (((a0, ()), a2, ())))) | false => (some (((a0, ()), a2, ()))))
  partial_fixpoint
def k7_3 (a0 : List GF) (a1 : Int) (a2 : Int) : Option ((Int × Unit) × Unit) := ((match ltI a2 (↑(List.length a0) : Int) with | true => (some (((leI a1 400, ()), ()))) | false => (some (((false, ()), ())))) >>= fun y0 => (match y0.1.1 with | true => ((idx a0 a2) >>= fun y1 => (((k15 (GF.gives y1)) >>= fun y2 => (some (y2.1.1))) >>= fun y3 => (((k16 (GF.body y1)) >>= fun y4 => (some (y4.1.1))) >>= fun y5 => (((k17 (GF.value y1)) >>= fun y6 => (some (y6.1.1))) >>= fun y7 => ((k7_0 (w64 (w64 (w64 (w64 (w64 (w64 (w64 (a1 + 1) + w64 (Int.tdiv (↑(List.length (GF.name y1)) : Int) 100)) + (↑(List.length (GF.lives y1)) : Int)) + (↑(List.length (GF.outs y1)) : Int)) + y3) + y5) + y7)) 0 y1) >>= fun y8 => ((k7_1 (y8.1.1) 0 y8.2.1) >>= fun y9 => ((k7_2 (y9.1.1) 0 y9.2.1) >>= fun y10 => (k7_3 (nf a0) (y10.1.1) (w64 (a2 + 1)))))))))) | false => (some (((a1, ()), ())))))
  partial_fixpoint
def k7 (a0 : List GF) : Option ((Int × Unit) × Unit) := ((k7_3 a0 0 0) >>= fun y0 => (some (((y0.1.1, ()), ()))))
def k51_0 (a0 : Str) (a1 : List Str) (a2 : Int) : Option ((Unit × Unit) ⊕ ((Bool × Unit) × Unit)) := (match ltI a2 (↑(List.length a1) : Int) with | true => ((idx a1 a2) >>= fun y0 => (match eqS y0 a0 with | true => (some (Sum.inr ((false, ()), ()))) | false => (k51_0 (nf a0) (nf a1) (w64 (a2 + 1))))) | false => (some (Sum.inl ((), ()))))
  partial_fixpoint
def k117 (a0 : Int) : Option ((Bool × Unit) × Unit) := (match leI 97 a0 with | true => (match leI a0 122 with | true => (some (((true, ()), ()))) | false => (match leI 65 a0 with | true => (match leI a0 90 with | true => (some (((true, ()), ()))) | false => (some (((eqI a0 95, ()), ())))) | false => (some (((eqI a0 95, ()), ()))))) | false => (match leI 65 a0 with | true => (match leI a0 90 with | true => (some (((true, ()), ()))) | false => (some (((eqI a0 95, ()), ())))) | false => (some (((eqI a0 95, ()), ())))))
def k119 (a0 : Int) : Option ((Bool × Unit) × Unit) := (match leI 48 a0 with | true => (some (((leI a0 57, ()), ()))) | false => (some (((false, ()), ()))))
def k118_0 (a0 : Str) (a1 : Int) (a2 : Int) : Option ((Int × Unit) × Unit) := (match ltI a2 (↑(List.length a0) : Int) with | true => ((idxB a0 a2) >>= fun y0 => ((k117 y0) >>= fun y1 => (match y1.1.1 with | true => (k118_0 (nf a0) (nf a1) (w64 (a2 + 1))) | false => (match ltI a1 a2 with | true => ((idxB a0 a2) >>= fun y2 => ((k119 y2) >>= fun y3 => (match y3.1.1 with | true => (k118_0 (nf a0) (nf a1) (w64 (a2 + 1))) | false => (some (((a2, ()), ())))))) | false => (some (((a2, ()), ()))))))) | false => (some (((a2, ()), ()))))
  partial_fixpoint
def k118 (a0 : Str) (a1 : Int) : Option ((Int × Unit) × Unit) := ((k118_0 a0 a1 a1) >>= fun y0 => (match ltI 30 (w64 (y0.1.1 - a1)) with | true => (some (((a1, ()), ()))) | false => (some (((y0.1.1, ()), ())))))
def k89 (a0 : Str) : Option ((Bool × Unit) × Unit) := (match ltI 0 (↑(List.length a0) : Int) with | true => ((k118 a0 0) >>= fun y0 => (some (((eqI (y0.1.1) (↑(List.length a0) : Int), ()), ())))) | false => (some (((false, ()), ()))))
def k51 (a0 : Str) : Option ((Bool × Unit) × Unit) := ((k51_0 a0 [Array.toList (ByteArray.data { data := #[102, 110] }), Array.toList (ByteArray.data { data := #[108, 101, 116] }), Array.toList (ByteArray.data { data := #[105, 102] }), Array.toList (ByteArray.data { data := #[101, 108, 115, 101] }), Array.toList (ByteArray.data { data := #[114, 101, 112, 101, 97, 116] }), Array.toList (ByteArray.data { data := #[114, 101, 116] }), Array.toList (ByteArray.data { data := #[98, 111, 120] }), Array.toList (ByteArray.data { data := #[105, 110, 116] }), Array.toList (ByteArray.data { data := #[109, 117, 116] }), Array.toList (ByteArray.data { data := #[119, 104, 101, 114, 101] })] 0) >>= fun y0 => (match y0 with | .inl y1 => ((k89 a0) >>= fun y2 => (some (((y2.1.1, ()), ())))) | .inr y3 => (some (((y3.1.1, ()), ())))))
mutual
def k52 (a0 : GT) : Option ((Bool × Unit) × Unit) := ((k52_0 a0 0) >>= fun y0 => (match y0 with | .inl y1 => (match eqI (GT.kind a0) 4 with | true => (((k51 (GT.life a0)) >>= fun y2 => (match y2.1.1 with | true => (some (((eqI (↑(List.length (GT.kids a0)) : Int) 1, ()), ()))) | false => (some (((false, ()), ()))))) >>= fun y3 => (some (((y3.1.1, ()), ())))) | false => (match eqS (GT.life a0) (Array.toList (ByteArray.data { data := #[] })) with | true => (match not (GT.mu a0) with | true => (match eqI (GT.kind a0) 1 with | true => (match eqI (↑(List.length (GT.kids a0)) : Int) 0 with | true => (some (((true, ()), ()))) | false => (match eqI (GT.kind a0) 2 with | true => (match eqI (↑(List.length (GT.kids a0)) : Int) 1 with | true => (some (((true, ()), ()))) | false => (match eqI (GT.kind a0) 3 with | true => (match leI 2 (↑(List.length (GT.kids a0)) : Int) with | true => (some (((leI (↑(List.length (GT.kids a0)) : Int) 30, ()), ()))) | false => (some (((false, ()), ())))) | false => (some (((false, ()), ()))))) | false => (match eqI (GT.kind a0) 3 with | true => (match leI 2 (↑(List.length (GT.kids a0)) : Int) with | true => (some (((leI (↑(List.length (GT.kids a0)) : Int) 30, ()), ()))) | false => (some (((false, ()), ())))) | false => (some (((false, ()), ())))))) | false => (match eqI (GT.kind a0) 2 with | true => (match eqI (↑(List.length (GT.kids a0)) : Int) 1 with | true => (some (((true, ()), ()))) | false => (match eqI (GT.kind a0) 3 with | true => (match leI 2 (↑(List.length (GT.kids a0)) : Int) with | true => (some (((leI (↑(List.length (GT.kids a0)) : Int) 30, ()), ()))) | false => (some (((false, ()), ())))) | false => (some (((false, ()), ()))))) | false => (match eqI (GT.kind a0) 3 with | true => (match leI 2 (↑(List.length (GT.kids a0)) : Int) with | true => (some (((leI (↑(List.length (GT.kids a0)) : Int) 30, ()), ()))) | false => (some (((false, ()), ())))) | false => (some (((false, ()), ())))))) | false => (some (((false, ()), ())))) | false => (some (((false, ()), ()))))) | .inr y4 => (some (((y4.1.1, ()), ())))))
  partial_fixpoint
def k52_0 (a0 : GT) (a1 : Int) : Option ((Unit × Unit) ⊕ ((Bool × Unit) × Unit)) := (match ltI a1 (↑(List.length (GT.kids a0)) : Int) with | true => ((idx (GT.kids a0) a1) >>= fun y0 => ((k52 y0) >>= fun y1 => (match not (y1.1.1) with | true => (some (Sum.inr ((false, ()), ()))) | false => (k52_0 a0 (w64 (a1 + 1)))))) | false => (some (Sum.inl ((), ()))))
  partial_fixpoint
end
def k29_0 (a0 : GF) (a1 : Int) : Option ((Unit × Unit) ⊕ ((Bool × Unit) × Unit)) := (match ltI a1 (↑(List.length (GF.params a0)) : Int) with | true => ((idx (GF.params a0) a1) >>= fun y0 => ((k51 (GP.name y0)) >>= fun y1 => (match not (y1.1.1) with | true => (some (Sum.inr ((false, ()), ()))) | false => ((idx (GF.params a0) a1) >>= fun y2 => ((k52 (GP.ty y2)) >>= fun y3 => (match not (y3.1.1) with | true => (some (Sum.inr ((false, ()), ()))) | false => (k29_0 (nf a0) (w64 (a1 + 1))))))))) | false => (some (Sum.inl ((), ()))))
  partial_fixpoint
def k53_0 (a0 : List Str) (a1 : Int) : Option ((Unit × Unit) ⊕ ((Bool × Unit) × Unit)) := (match ltI a1 (↑(List.length a0) : Int) with | true => ((idx a0 a1) >>= fun y0 => ((k51 y0) >>= fun y1 => (match not (y1.1.1) with | true => (some (Sum.inr ((false, ()), ()))) | false => (k53_0 (nf a0) (w64 (a1 + 1)))))) | false => (some (Sum.inl ((), ()))))
  partial_fixpoint
def k53 (a0 : List Str) : Option ((Bool × Unit) × Unit) := ((k53_0 a0 0) >>= fun y0 => (match y0 with | .inl y1 => (some (((leI (↑(List.length a0) : Int) 30, ()), ()))) | .inr y2 => (some (((y2.1.1, ()), ())))))
def k125 (a0 : GE) : Option ((Bool × Unit) × Unit) := (match eqI (GE.kind a0) 0 with | true => (match eqI (GE.num a0) 0 with | true => (match eqS (GE.name a0) (Array.toList (ByteArray.data { data := #[] })) with | true => (match not (GE.mu a0) with | true => (some (((eqI (↑(List.length (GE.kids a0)) : Int) 0, ()), ()))) | false => (some (((false, ()), ())))) | false => (some (((false, ()), ())))) | false => (some (((false, ()), ())))) | false => (some (((false, ()), ()))))
def k91 (a0 : GE) : Option ((Bool × Unit) × Unit) := (match eqI (GE.kind a0) 2 with | true => (some (((true, ()), ()))) | false => (match eqI (GE.kind a0) 3 with | true => (some (((true, ()), ()))) | false => (some (((eqI (GE.kind a0) 4, ()), ())))))
def k92 (a0 : GE) : Option ((Int × Unit) × Unit) := (match eqI (GE.kind a0) 8 with | true => (match eqS (GE.name a0) (Array.toList (ByteArray.data { data := #[60] })) with | true => (match eqS (GE.name a0) (Array.toList (ByteArray.data { data := #[60] })) with | true => (some (((1, ()), ()))) | false => (match eqS (GE.name a0) (Array.toList (ByteArray.data { data := #[43] })) with | true => (match eqS (GE.name a0) (Array.toList (ByteArray.data { data := #[43] })) with | true => (some (((2, ()), ()))) | false => (match eqS (GE.name a0) (Array.toList (ByteArray.data { data := #[42] })) with | true => (match eqS (GE.name a0) (Array.toList (ByteArray.data { data := #[42] })) with | true => (some (((3, ()), ()))) | false => (some (((4, ()), ())))) | false => (match eqS (GE.name a0) (Array.toList (ByteArray.data { data := #[47] })) with | true => (some (((3, ()), ()))) | false => (some (((4, ()), ())))))) | false => (match eqS (GE.name a0) (Array.toList (ByteArray.data { data := #[45] })) with | true => (some (((2, ()), ()))) | false => (match eqS (GE.name a0) (Array.toList (ByteArray.data { data := #[42] })) with | true => (match eqS (GE.name a0) (Array.toList (ByteArray.data { data := #[42] })) with | true => (some (((3, ()), ()))) | false => (some (((4, ()), ())))) | false => (match eqS (GE.name a0) (Array.toList (ByteArray.data { data := #[47] })) with | true => (some (((3, ()), ()))) | false => (some (((4, ()), ())))))))) | false => (match eqS (GE.name a0) (Array.toList (ByteArray.data { data := #[61, 61] })) with | true => (some (((1, ()), ()))) | false => (match eqS (GE.name a0) (Array.toList (ByteArray.data { data := #[43] })) with | true => (match eqS (GE.name a0) (Array.toList (ByteArray.data { data := #[43] })) with | true => (some (((2, ()), ()))) | false => (match eqS (GE.name a0) (Array.toList (ByteArray.data { data := #[42] })) with | true => (match eqS (GE.name a0) (Array.toList (ByteArray.data { data := #[42] })) with | true => (some (((3, ()), ()))) | false => (some (((4, ()), ())))) | false => (match eqS (GE.name a0) (Array.toList (ByteArray.data { data := #[47] })) with | true => (some (((3, ()), ()))) | false => (some (((4, ()), ())))))) | false => (match eqS (GE.name a0) (Array.toList (ByteArray.data { data := #[45] })) with | true => (some (((2, ()), ()))) | false => (match eqS (GE.name a0) (Array.toList (ByteArray.data { data := #[42] })) with | true => (match eqS (GE.name a0) (Array.toList (ByteArray.data { data := #[42] })) with | true => (some (((3, ()), ()))) | false => (some (((4, ()), ())))) | false => (match eqS (GE.name a0) (Array.toList (ByteArray.data { data := #[47] })) with | true => (some (((3, ()), ()))) | false => (some (((4, ()), ()))))))))) | false => (some (((4, ()), ()))))
mutual
def k56 (a0 : GE) : Option ((Bool × Unit) × Unit) := ((k56_0 a0 0) >>= fun y0 => (match y0 with | .inl y1 => (match eqI (GE.kind a0) 1 with | true => (match leI 0 (GE.num a0) with | true => (match leI (GE.num a0) 999999999999999999 with | true => (match eqS (GE.name a0) (Array.toList (ByteArray.data { data := #[] })) with | true => (match not (GE.mu a0) with | true => (some (((eqI (↑(List.length (GE.kids a0)) : Int) 0, ()), ()))) | false => (some (((false, ()), ())))) | false => (some (((false, ()), ())))) | false => (some (((false, ()), ())))) | false => (some (((false, ()), ())))) | false => (match eqI (GE.kind a0) 2 with | true => (match eqI (GE.num a0) 0 with | true => ((k51 (GE.name a0)) >>= fun y2 => (match y2.1.1 with | true => (match not (GE.mu a0) with | true => (some (((eqI (↑(List.length (GE.kids a0)) : Int) 0, ()), ()))) | false => (some (((false, ()), ())))) | false => (some (((false, ()), ()))))) | false => (some (((false, ()), ())))) | false => (match eqI (GE.kind a0) 3 with | true => (match leI 0 (GE.num a0) with | true => (match ltI (GE.num a0) 30 with | true => (match eqS (GE.name a0) (Array.toList (ByteArray.data { data := #[] })) with | true => (match not (GE.mu a0) with | true => (match eqI (↑(List.length (GE.kids a0)) : Int) 1 with | true => ((idx (GE.kids a0) 0) >>= fun y3 => ((k91 y3) >>= fun y4 => (some (((y4.1.1, ()), ()))))) | false => (some (((false, ()), ())))) | false => (some (((false, ()), ())))) | false => (some (((false, ()), ())))) | false => (some (((false, ()), ())))) | false => (some (((false, ()), ())))) | false => (match eqI (GE.kind a0) 4 with | true => (match eqI (GE.num a0) 0 with | true => (match eqS (GE.name a0) (Array.toList (ByteArray.data { data := #[] })) with | true => (match not (GE.mu a0) with | true => (match eqI (↑(List.length (GE.kids a0)) : Int) 1 with | true => ((idx (GE.kids a0) 0) >>= fun y5 => ((k91 y5) >>= fun y6 => (some (((y6.1.1, ()), ()))))) | false => (some (((false, ()), ())))) | false => (some (((false, ()), ())))) | false => (some (((false, ()), ())))) | false => (some (((false, ()), ())))) | false => (match eqI (GE.kind a0) 5 with | true => (match eqI (GE.num a0) 0 with | true => (match eqS (GE.name a0) (Array.toList (ByteArray.data { data := #[] })) with | true => (match eqI (↑(List.length (GE.kids a0)) : Int) 1 with | true => ((idx (GE.kids a0) 0) >>= fun y7 => ((k91 y7) >>= fun y8 => (some (((y8.1.1, ()), ()))))) | false => (some (((false, ()), ())))) | false => (some (((false, ()), ())))) | false => (some (((false, ()), ())))) | false => (match eqI (GE.kind a0) 6 with | true => (match eqI (GE.num a0) 0 with | true => (match eqS (GE.name a0) (Array.toList (ByteArray.data { data := #[] })) with | true => (match not (GE.mu a0) with | true => (some (((eqI (↑(List.length (GE.kids a0)) : Int) 1, ()), ()))) | false => (some (((false, ()), ())))) | false => (some (((false, ()), ())))) | false => (some (((false, ()), ())))) | false => (match eqI (GE.kind a0) 7 with | true => (match eqI (GE.num a0) 0 with | true => (match eqS (GE.name a0) (Array.toList (ByteArray.data { data := #[] })) with | true => (match not (GE.mu a0) with | true => (match leI 2 (↑(List.length (GE.kids a0)) : Int) with | true => (some (((leI (↑(List.length (GE.kids a0)) : Int) 30, ()), ()))) | false => (some (((false, ()), ())))) | false => (some (((false, ()), ())))) | false => (some (((false, ()), ())))) | false => (some (((false, ()), ())))) | false => (match eqI (GE.kind a0) 8 with | true => (match eqI (GE.num a0) 0 with | true => (match not (GE.mu a0) with | true => (match eqI (↑(List.length (GE.kids a0)) : Int) 2 with | true => ((k92 a0) >>= fun y9 => (some (((ltI (y9.1.1) 4, ()), ())))) | false => (some (((false, ()), ())))) | false => (some (((false, ()), ())))) | false => (some (((false, ()), ())))) | false => (match eqI (GE.kind a0) 9 with | true => (match eqI (GE.num a0) 0 with | true => (match not (GE.mu a0) with | true => (match leI (↑(List.length (GE.kids a0)) : Int) 30 with | true => ((k51 (GE.name a0)) >>= fun y10 => (some (((y10.1.1, ()), ())))) | false => (some (((false, ()), ())))) | false => (some (((false, ()), ())))) | false => (some (((false, ()), ())))) | false => (some (((false, ()), ())))))))))))) | .inr y11 => (some (((y11.1.1, ()), ())))))
  partial_fixpoint
def k56_0 (a0 : GE) (a1 : Int) : Option ((Unit × Unit) ⊕ ((Bool × Unit) × Unit)) := (match ltI a1 (↑(List.length (GE.kids a0)) : Int) with | true => ((idx (GE.kids a0) a1) >>= fun y0 => ((k56 y0) >>= fun y1 => (match not (y1.1.1) with | true => (some (Sum.inr ((false, ()), ()))) | false => (k56_0 a0 (w64 (a1 + 1)))))) | false => (some (Sum.inl ((), ()))))
  partial_fixpoint
end
mutual
def k54 (a0 : List GS) : Option ((Bool × Unit) × Unit) := ((k54_0 a0 0) >>= fun y0 => (match y0 with | .inl y1 => (some (((leI (↑(List.length a0) : Int) 30, ()), ()))) | .inr y2 => (some (((y2.1.1, ()), ())))))
  partial_fixpoint
def k54_0 (a0 : List GS) (a1 : Int) : Option ((Unit × Unit) ⊕ ((Bool × Unit) × Unit)) := (match ltI a1 (↑(List.length a0) : Int) with | true => ((idx a0 a1) >>= fun y0 => ((k90 y0) >>= fun y1 => (match not (y1.1.1) with | true => (some (Sum.inr ((false, ()), ()))) | false => (k54_0 a0 (w64 (a1 + 1)))))) | false => (some (Sum.inl ((), ()))))
  partial_fixpoint
def k90 (a0 : GS) : Option ((Bool × Unit) × Unit) := (((k56 (GS.expr a0)) >>= fun y0 => (match not (y0.1.1) with | true => (some (((true, ()), ()))) | false => ((k54 (GS.thn a0)) >>= fun y1 => (match not (y1.1.1) with | true => (some (((true, ()), ()))) | false => ((k54 (GS.els a0)) >>= fun y2 => (some (((not (y2.1.1), ()), ())))))))) >>= fun y3 => (match y3.1.1 with | true => (some (((false, ()), ()))) | false => ((k125 (GS.place a0)) >>= fun y4 => (match eqI (GS.kind a0) 1 with | true => ((k51 (GS.name a0)) >>= fun y5 => (match y5.1.1 with | true => (match y4.1.1 with | true => (some (((eqI (w64 ((↑(List.length (GS.thn a0)) : Int) + (↑(List.length (GS.els a0)) : Int))) 0, ()), ()))) | false => (some (((false, ()), ())))) | false => (some (((false, ()), ()))))) | false => (match eqI (GS.kind a0) 2 with | true => (match eqS (GS.name a0) (Array.toList (ByteArray.data { data := #[] })) with | true => ((k91 (GS.place a0)) >>= fun y6 => (match y6.1.1 with | true => ((k56 (GS.place a0)) >>= fun y7 => (match y7.1.1 with | true => (some (((eqI (w64 ((↑(List.length (GS.thn a0)) : Int) + (↑(List.length (GS.els a0)) : Int))) 0, ()), ()))) | false => (some (((false, ()), ()))))) | false => (some (((false, ()), ()))))) | false => (some (((false, ()), ())))) | false => (match eqI (GS.kind a0) 3 with | true => (match eqS (GS.name a0) (Array.toList (ByteArray.data { data := #[] })) with | true => (some (((y4.1.1, ()), ()))) | false => (some (((false, ()), ())))) | false => (match eqI (GS.kind a0) 4 with | true => (match eqS (GS.name a0) (Array.toList (ByteArray.data { data := #[] })) with | true => (match y4.1.1 with | true => (some (((eqI (↑(List.length (GS.els a0)) : Int) 0, ()), ()))) | false => (some (((false, ()), ())))) | false => (some (((false, ()), ())))) | false => (some (((false, ()), ()))))))))))
  partial_fixpoint
end
def k57 (a0 : Int) (a1 : Int) : Option ((Int × Unit) × Unit) := (match ltI a1 a0 with | true => (some (((a0, ()), ()))) | false => (some (((a1, ()), ()))))
mutual
def k55 (a0 : List GS) : Option ((Int × Unit) × Unit) := ((k55_0 a0 0 0) >>= fun y0 => (some (((y0.1.1, ()), ()))))
  partial_fixpoint
def k55_0 (a0 : List GS) (a1 : Int) (a2 : Int) : Option ((Int × Unit) × Unit) := (match ltI a2 (↑(List.length a0) : Int) with | true => ((idx a0 a2) >>= fun y0 => (((k55 (GS.thn y0)) >>= fun y1 => (some (y1.1.1))) >>= fun y2 => ((idx a0 a2) >>= fun y3 => ((k55 (GS.els y3)) >>= fun y4 => ((k57 y2 (y4.1.1)) >>= fun y5 => ((idx a0 a2) >>= fun y6 => (match eqI (GS.kind y6) 4 with | true => ((k57 a1 (w64 (y5.1.1 + 1))) >>= fun y7 => (k55_0 a0 (y7.1.1) (w64 (a2 + 1)))) | false => ((k57 a1 (y5.1.1)) >>= fun y8 => (k55_0 a0 (y8.1.1) (w64 (a2 + 1))))))))))) | false => (some (((a1, ()), ()))))
  partial_fixpoint
end
def k29 (a0 : GF) : Option ((Bool × Unit) × Unit) := ((k29_0 a0 0) >>= fun y0 => (match y0 with | .inl y1 => ((k51 (GF.name a0)) >>= fun y2 => (match y2.1.1 with | true => ((k53 (GF.lives a0)) >>= fun y3 => (match y3.1.1 with | true => (match leI (↑(List.length (GF.params a0)) : Int) 30 with | true => ((k52 (GF.gives a0)) >>= fun y4 => (match y4.1.1 with | true => ((k53 (GF.outs a0)) >>= fun y5 => (match y5.1.1 with | true => (match eqI (Int.tmod (↑(List.length (GF.outs a0)) : Int) 2) 0 with | true => ((k54 (GF.body a0)) >>= fun y6 => (match y6.1.1 with | true => ((k55 (GF.body a0)) >>= fun y7 => (match leI (y7.1.1) 3 with | true => ((k56 (GF.value a0)) >>= fun y8 => (some (((y8.1.1, ()), ())))) | false => (some (((false, ()), ()))))) | false => (some (((false, ()), ()))))) | false => (some (((false, ()), ())))) | false => (some (((false, ()), ()))))) | false => (some (((false, ()), ()))))) | false => (some (((false, ()), ())))) | false => (some (((false, ()), ()))))) | false => (some (((false, ()), ()))))) | .inr y9 => (some (((y9.1.1, ()), ())))))
def k18_0 (a0 : List GF) (a1 : Int) : Option ((Unit × Unit) ⊕ ((Bool × Unit) × Unit)) := (match ltI a1 (↑(List.length a0) : Int) with | true => ((idx a0 a1) >>= fun y0 => ((k29 y0) >>= fun y1 => (match not (y1.1.1) with | true => (some (Sum.inr ((false, ()), ()))) | false => (k18_0 (nf a0) (w64 (a1 + 1)))))) | false => (some (Sum.inl ((), ()))))
  partial_fixpoint
mutual
def k58 (a0 : GT) : Option ((Int × Unit) × Unit) := (match ltI (GT.kind a0) 2 with | true => (some (((0, ()), ()))) | false => (match ltI 4 (GT.kind a0) with | true => (some (((0, ()), ()))) | false => ((k58_0 a0 0 0) >>= fun y0 => (some (((w64 (y0.1.1 + 1), ()), ()))))))
  partial_fixpoint
def k58_0 (a0 : GT) (a1 : Int) (a2 : Int) : Option ((Int × Unit) × Unit) := (match ltI a2 (↑(List.length (GT.kids a0)) : Int) with | true => ((idx (GT.kids a0) a2) >>= fun y0 => ((k58 y0) >>= fun y1 => ((k57 a1 (y1.1.1)) >>= fun y2 => (k58_0 a0 (y2.1.1) (w64 (a2 + 1)))))) | false => (some (((a1, ()), ()))))
  partial_fixpoint
end
def k30_0 (a0 : List GF) (a1 : Int) (a2 : Int) (a3 : Int) : Option ((Int × Unit) × Unit) := ((idx a0 a2) >>= fun y0 => (match ltI a3 (↑(List.length (GF.params y0)) : Int) with | true => ((idx a0 a2) >>= fun y1 => ((idx (GF.params y1) a3) >>= fun y2 => ((k58 (GP.ty y2)) >>= fun y3 => ((k57 a1 (y3.1.1)) >>= fun y4 => (k30_0 (nf a0) (y4.1.1) (nf a2) (w64 (a3 + 1))))))) | false => (some (((a1, ()), ())))))
  partial_fixpoint
def k93 (a0 : GE) (a1 : Int) : Option ((Bool × Unit) × Unit) := ((idx (GE.kids a0) a1) >>= fun y0 => ((k92 y0) >>= fun y1 => ((k92 a0) >>= fun y2 => (match eqI (y2.1.1) 1 with | true => (some (((eqI (y1.1.1) 1, ()), ()))) | false => ((k92 a0) >>= fun y3 => (match ltI (y1.1.1) (y3.1.1) with | true => (some (((true, ()), ()))) | false => (match eqI a1 1 with | true => ((k92 a0) >>= fun y4 => (some (((eqI (y1.1.1) (y4.1.1), ()), ())))) | false => (some (((false, ()), ()))))))))))
mutual
def k60 (a0 : GE) : Option ((Int × Unit) × Unit) := (match ltI (GE.kind a0) 3 with | true => (some (((0, ()), ()))) | false => (match ltI 9 (GE.kind a0) with | true => (some (((0, ()), ()))) | false => ((k60_0 a0 0 0) >>= fun y0 => (some (((w64 (y0.1.1 + 1), ()), ()))))))
  partial_fixpoint
def k60_0 (a0 : GE) (a1 : Int) (a2 : Int) : Option ((Int × Unit) × Unit) := (match ltI a2 (↑(List.length (GE.kids a0)) : Int) with | true => ((idx (GE.kids a0) a2) >>= fun y0 => ((k60 y0) >>= fun y1 => ((match eqI (GE.kind a0) 8 with | true => (match ltI a2 2 with | true => ((k93 a0 a2) >>= fun y2 => (some (((y2.1.1, ()), ())))) | false => (some (((false, ()), ())))) | false => (some (((false, ()), ())))) >>= fun y3 => (match y3.1.1 with | true => ((k57 a1 (w64 (y1.1.1 + 1))) >>= fun y4 => (k60_0 a0 (y4.1.1) (w64 (a2 + 1)))) | false => ((k57 a1 (y1.1.1)) >>= fun y5 => (k60_0 a0 (y5.1.1) (w64 (a2 + 1)))))))) | false => (some (((a1, ()), ()))))
  partial_fixpoint
end
mutual
def k59 (a0 : List GS) : Option ((Int × Unit) × Unit) := ((k59_0 a0 0 0) >>= fun y0 => (some (((y0.1.1, ()), ()))))
  partial_fixpoint
def k59_0 (a0 : List GS) (a1 : Int) (a2 : Int) : Option ((Int × Unit) × Unit) := (match ltI a2 (↑(List.length a0) : Int) with | true => ((idx a0 a2) >>= fun y0 => (((k60 (GS.place y0)) >>= fun y1 => (some (y1.1.1))) >>= fun y2 => ((idx a0 a2) >>= fun y3 => ((k60 (GS.expr y3)) >>= fun y4 => ((k57 y2 (y4.1.1)) >>= fun y5 => ((idx a0 a2) >>= fun y6 => (((k59 (GS.thn y6)) >>= fun y7 => (some (y7.1.1))) >>= fun y8 => ((idx a0 a2) >>= fun y9 => (((k59 (GS.els y9)) >>= fun y10 => (some (y10.1.1))) >>= fun y11 => (((k57 y8 y11) >>= fun y12 => (some (y12.1.1))) >>= fun y13 => (((k57 (y5.1.1) y13) >>= fun y14 => (some (y14.1.1))) >>= fun y15 => ((k57 a1 (w64 (1 + y15))) >>= fun y16 => (k59_0 a0 (y16.1.1) (w64 (a2 + 1))))))))))))))) | false => (some (((a1, ()), ()))))
  partial_fixpoint
end
def k30_1 (a0 : List GF) (a1 : Int) (a2 : Int) : Option ((Int × Unit) × Unit) := (match ltI a2 (↑(List.length a0) : Int) with | true => ((idx a0 a2) >>= fun y0 => (((k58 (GF.gives y0)) >>= fun y1 => (some (y1.1.1))) >>= fun y2 => ((idx a0 a2) >>= fun y3 => (((k59 (GF.body y3)) >>= fun y4 => (some (y4.1.1))) >>= fun y5 => ((idx a0 a2) >>= fun y6 => (((k60 (GF.value y6)) >>= fun y7 => (some (y7.1.1))) >>= fun y8 => (((k57 y5 y8) >>= fun y9 => (some (y9.1.1))) >>= fun y10 => (((k57 y2 y10) >>= fun y11 => (some (y11.1.1))) >>= fun y12 => ((k57 a1 y12) >>= fun y13 => ((k30_0 a0 (y13.1.1) a2 0) >>= fun y14 => (k30_1 (nf a0) (y14.1.1) (w64 (a2 + 1))))))))))))) | false => (some (((a1, ()), ()))))
  partial_fixpoint
def k30 (a0 : List GF) : Option ((Int × Unit) × Unit) := ((k30_1 a0 0 0) >>= fun y0 => (some (((y0.1.1, ()), ()))))
def k18 (a0 : List GF) : Option ((Bool × Unit) × Unit) := ((k18_0 a0 0) >>= fun y0 => (match y0 with | .inl y1 => (match leI (↑(List.length a0) : Int) 30 with | true => ((k30 a0) >>= fun y2 => (some (((leI (y2.1.1) 40, ()), ())))) | false => (some (((false, ()), ())))) | .inr y3 => (some (((y3.1.1, ()), ())))))
mutual
def k27 (a0 : GT) : Option ((Bool × Unit) × Unit) := ((k27_0 a0 (eqI (GT.kind a0) 4) 0) >>= fun y0 => (some (((y0.1.1, ()), ()))))
  partial_fixpoint
def k27_0 (a0 : GT) (a1 : Bool) (a2 : Int) : Option ((Bool × Unit) × Unit) := (match ltI a2 (↑(List.length (GT.kids a0)) : Int) with | true => (match a1 with | true => (k27_0 a0 true (w64 (a2 + 1))) | false => ((idx (GT.kids a0) a2) >>= fun y0 => ((k27 y0) >>= fun y1 => (k27_0 a0 (y1.1.1) (w64 (a2 + 1)))))) | false => (some (((a1, ()), ()))))
  partial_fixpoint
end
mutual
def k12 (a0 : GT) : Option ((Bool × Unit) × Unit) := ((k12_0 a0 0) >>= fun y0 => (match y0 with | .inl y1 => (some (((true, ()), ()))) | .inr y2 => (some (((y2.1.1, ()), ())))))
  partial_fixpoint
def k12_0 (a0 : GT) (a1 : Int) : Option ((Unit × Unit) ⊕ ((Bool × Unit) × Unit)) := (match ltI a1 (↑(List.length (GT.kids a0)) : Int) with | true => ((idx (GT.kids a0) a1) >>= fun y0 => ((k12 y0) >>= fun y1 => (match not (y1.1.1) with | true => (some (Sum.inr ((false, ()), ()))) | false => (match eqI (GT.kind a0) 2 with | true => ((idx (GT.kids a0) a1) >>= fun y2 => ((k27 y2) >>= fun y3 => (match y3.1.1 with | true => (some (Sum.inr ((false, ()), ()))) | false => (k12_0 a0 (w64 (a1 + 1)))))) | false => (match eqI (GT.kind a0) 4 with | true => ((idx (GT.kids a0) a1) >>= fun y4 => ((k27 y4) >>= fun y5 => (match y5.1.1 with | true => (some (Sum.inr ((false, ()), ()))) | false => (k12_0 a0 (w64 (a1 + 1)))))) | false => (k12_0 a0 (w64 (a1 + 1)))))))) | false => (some (Sum.inl ((), ()))))
  partial_fixpoint
end
def k13_0 (a0 : List GF) (a1 : Str) (a2 : Int) : Option ((Unit × Unit) ⊕ ((Int × Unit) × Unit)) := (match ltI a2 (↑(List.length a0) : Int) with | true => ((idx a0 a2) >>= fun y0 => (match eqS (GF.name y0) a1 with | true => (some (Sum.inr ((a2, ()), ()))) | false => (k13_0 (nf a0) (nf a1) (w64 (a2 + 1))))) | false => (some (Sum.inl ((), ()))))
  partial_fixpoint
def k13 (a0 : List GF) (a1 : Str) : Option ((Int × Unit) × Unit) := ((k13_0 a0 a1 0) >>= fun y0 => (match y0 with | .inl y1 => (some (((-1, ()), ()))) | .inr y2 => (some (((y2.1.1, ()), ())))))
def k32_0 (a0 : Str) (a1 : List Str) (a2 : Int) (a3 : Int) : Option ((Int × Unit) × Unit) := (match ltI a3 (↑(List.length a1) : Int) with | true => ((idx a1 a3) >>= fun y0 => (match eqS y0 a0 with | true => (k32_0 (nf a0) (nf a1) (w64 (a2 + 1)) (w64 (a3 + 1))) | false => (k32_0 (nf a0) (nf a1) a2 (w64 (a3 + 1))))) | false => (some (((a2, ()), ()))))
  partial_fixpoint
def k32 (a0 : Str) (a1 : List Str) : Option ((Int × Unit) × Unit) := ((k32_0 a0 a1 0 0) >>= fun y0 => (some (((y0.1.1, ()), ()))))
mutual
def k31 (a0 : GT) (a1 : List Str) : Option ((Bool × Unit) × Unit) := (match eqI (GT.kind a0) 4 with | true => ((k32 (GT.life a0) a1) >>= fun y0 => (match eqI (y0.1.1) 0 with | true => (some (((false, ()), ()))) | false => ((k31_0 (nf a1) (nf a0) 0) >>= fun y1 => (match y1 with | .inl y2 => (some (((true, ()), ()))) | .inr y3 => (some (((y3.1.1, ()), ()))))))) | false => ((k31_0 (nf a1) (nf a0) 0) >>= fun y4 => (match y4 with | .inl y5 => (some (((true, ()), ()))) | .inr y6 => (some (((y6.1.1, ()), ()))))))
  partial_fixpoint
def k31_0 (a0 : List Str) (a1 : GT) (a2 : Int) : Option ((Unit × Unit) ⊕ ((Bool × Unit) × Unit)) := (match ltI a2 (↑(List.length (GT.kids a1)) : Int) with | true => ((idx (GT.kids a1) a2) >>= fun y0 => ((k31 y0 (nf a0)) >>= fun y1 => (match not (y1.1.1) with | true => (some (Sum.inr ((false, ()), ()))) | false => (k31_0 (nf a0) (nf a1) (w64 (a2 + 1)))))) | false => (some (Sum.inl ((), ()))))
  partial_fixpoint
end
def k19_0 (a0 : GF) (a1 : List Str) (a2 : Bool) (a3 : Bool) (a4 : Int) : Option (((List Str) × (Bool × (Bool × Unit))) × Unit) := (match ltI a4 (↑(List.length (GF.params a0)) : Int) with | true => ((match a2 with | true => ((idx (GF.params a0) a4) >>= fun y0 => (((k32 (GP.name y0) a1) >>= fun y1 => (some (y1.1.1))) >>= fun y2 => (match eqI y2 0 with | true => ((idx (GF.params a0) a4) >>= fun y3 => ((k31 (GP.ty y3) (GF.lives a0)) >>= fun y4 => (some (((y4.1.1, ()), ()))))) | false => (some (((false, ()), ())))))) | false => (some (((false, ()), ())))) >>= fun y5 => (match a3 with | true => ((idx (GF.params a0) a4) >>= fun y6 => ((k12 (GP.ty y6)) >>= fun y7 => ((idx (GF.params a0) a4) >>= fun y8 => ((app 16 a1 [GP.name y8]) >>= fun y9 => (k19_0 (nf a0) y9 (y5.1.1) (y7.1.1) (w64 (a4 + 1))))))) | false => ((idx (GF.params a0) a4) >>= fun y10 => ((app 16 a1 [GP.name y10]) >>= fun y11 => (k19_0 (nf a0) y11 (y5.1.1) false (w64 (a4 + 1))))))) | false => (some (((a1, a2, a3, ()), ()))))
  partial_fixpoint
def k19_1 (a0 : GF) (a1 : Bool) (a2 : Int) : Option ((Bool × Unit) × Unit) := (match ltI a2 (↑(List.length (GF.lives a0)) : Int) with | true => (match a1 with | true => ((idx (GF.lives a0) a2) >>= fun y0 => ((k32 y0 (GF.lives a0)) >>= fun y1 => (k19_1 (nf a0) (eqI (y1.1.1) 1) (w64 (a2 + 1))))) | false => (k19_1 (nf a0) false (w64 (a2 + 1)))) | false => (some (((a1, ()), ()))))
  partial_fixpoint
def k19_2 (a0 : GF) (a1 : Bool) (a2 : Int) : Option ((Bool × Unit) × Unit) := (match ltI a2 (↑(List.length (GF.outs a0)) : Int) with | true => (match a1 with | true => ((idx (GF.outs a0) a2) >>= fun y0 => ((k32 y0 (GF.lives a0)) >>= fun y1 => (k19_2 (nf a0) (ltI 0 (y1.1.1)) (w64 (a2 + 1))))) | false => (k19_2 (nf a0) false (w64 (a2 + 1)))) | false => (some (((a1, ()), ()))))
  partial_fixpoint
mutual
def k34 (a0 : GE) (a1 : List Str) (a2 : List GF) : Option ((Bool × Unit) × Unit) := ((k34_0 (nf a1) (nf a2) (nf a0) 0) >>= fun y0 => (match y0 with | .inl y1 => (match eqI (GE.kind a0) 2 with | true => ((k32 (GE.name a0) a1) >>= fun y2 => (some (((ltI 0 (y2.1.1), ()), ())))) | false => (match eqI (GE.kind a0) 9 with | true => ((k13 a2 (GE.name a0)) >>= fun y3 => (match leI 0 (y3.1.1) with | true => ((idx a2 (y3.1.1)) >>= fun y4 => (some (((eqI (↑(List.length (GF.params y4)) : Int) (↑(List.length (GE.kids a0)) : Int), ()), ())))) | false => (some (((false, ()), ()))))) | false => (some (((true, ()), ()))))) | .inr y5 => (some (((y5.1.1, ()), ())))))
  partial_fixpoint
def k34_0 (a0 : List Str) (a1 : List GF) (a2 : GE) (a3 : Int) : Option ((Unit × Unit) ⊕ ((Bool × Unit) × Unit)) := (match ltI a3 (↑(List.length (GE.kids a2)) : Int) with | true => ((idx (GE.kids a2) a3) >>= fun y0 => ((k34 y0 (nf a0) (nf a1)) >>= fun y1 => (match not (y1.1.1) with | true => (some (Sum.inr ((false, ()), ()))) | false => (k34_0 (nf a0) (nf a1) (nf a2) (w64 (a3 + 1)))))) | false => (some (Sum.inl ((), ()))))
  partial_fixpoint
end
mutual
def k33 (a0 : List GS) (a1 : List Str) (a2 : List GF) : Option ((((List Str) × (Bool × Unit)) × Unit) × Unit) := ((k33_0 (nf a0) (nf a1) (nf a2) 0) >>= fun y0 => (match y0 with | .inl y1 => (some ((((y1.1.1, true, ()), ()), ()))) | .inr y2 => (some (((([], y2.1.2.1, ()), ()), ())))))
  partial_fixpoint
def k33_0 (a0 : List GS) (a1 : List Str) (a2 : List GF) (a3 : Int) : Option ((((List Str) × Unit) × Unit) ⊕ ((Unit × (Bool × Unit)) × Unit)) := (match ltI a3 (↑(List.length a0) : Int) with | true => ((idx a0 a3) >>= fun y0 => ((k33 (GS.thn y0) (nf a1) (nf a2)) >>= fun y1 => ((k33 (GS.els y0) (nf a1) (nf a2)) >>= fun y2 => (((k34 (GS.expr y0) a1 a2) >>= fun y3 => (match not (y3.1.1) with | true => (some (((true, ()), ()))) | false => ((k34 (GS.place y0) a1 a2) >>= fun y4 => (match not (y4.1.1) with | true => (some (((true, ()), ()))) | false => (match not (Prod.fst (Prod.snd (y1.1.1))) with | true => (some (((true, ()), ()))) | false => (some (((not (Prod.fst (Prod.snd (y2.1.1))), ()), ())))))))) >>= fun y5 => (match y5.1.1 with | true => (some (Sum.inr (((), false, ()), ()))) | false => (match eqI (GS.kind y0) 1 with | true => ((k32 (GS.name y0) a1) >>= fun y6 => (match ltI 0 (y6.1.1) with | true => (some (Sum.inr (((), false, ()), ()))) | false => ((app 16 [] a1) >>= fun y7 => ((app 16 y7 [GS.name y0]) >>= fun y8 => (k33_0 (nf a0) y8 (nf a2) (w64 (a3 + 1))))))) | false => (k33_0 (nf a0) (nf a1) (nf a2) (w64 (a3 + 1))))))))) | false => (some (Sum.inl ((a1, ()), ()))))
  partial_fixpoint
end
def k19 (a0 : GF) (a1 : List GF) : Option ((Int × Unit) × Unit) := (((k13 a1 (GF.name a0)) >>= fun y0 => (match ltI (y0.1.1) 0 with | true => ((k31 (GF.gives a0) (GF.lives a0)) >>= fun y1 => (some (((y1.1.1, ()), ())))) | false => (some (((false, ()), ()))))) >>= fun y2 => ((k12 (GF.gives a0)) >>= fun y3 => ((k19_0 a0 [] (y2.1.1) (y3.1.1) 0) >>= fun y4 => ((k19_1 a0 y4.1.2.1 0) >>= fun y5 => ((k19_2 a0 (y5.1.1) 0) >>= fun y6 => (match not (y6.1.1) with | true => (some (((4, ()), ()))) | false => (match not (Prod.fst (y4.1.2.2)) with | true => (some (((5, ()), ()))) | false => ((k33 (GF.body a0) (y4.1.1) a1) >>= fun y7 => (match not (Prod.fst (Prod.snd (y7.1.1))) with | true => (some (((4, ()), ()))) | false => ((k34 (GF.value a0) (Prod.fst (y7.1.1)) a1) >>= fun y8 => (match not (y8.1.1) with | true => (some (((4, ()), ()))) | false => (some (((0, ()), ()))))))))))))))
def k8_0 (a0 : List GF) (a1 : Int) : Option ((Unit × Unit) ⊕ ((Int × (Int × Unit)) × Unit)) := (match ltI a1 (↑(List.length a0) : Int) with | true => ((idx a0 a1) >>= fun y0 => ((subL a0 0 a1) >>= fun y1 => ((k19 y0 y1) >>= fun y2 => (match ltI 0 (y2.1.1) with | true => (some (Sum.inr ((y2.1.1, a1, ()), ()))) | false => (k8_0 (nf a0) (w64 (a1 + 1))))))) | false => (some (Sum.inl ((), ()))))
  partial_fixpoint
def k8 (a0 : List GF) : Option (((Int × (Int × Unit)) × Unit) × Unit) := ((k18 a0) >>= fun y0 => (match not (y0.1.1) with | true => (some ((((2, -1, ()), ()), ()))) | false => ((k8_0 a0 0) >>= fun y1 => (match y1 with | .inl y2 => ((match eqI (↑(List.length a0) : Int) 0 with | true => (some (((true, ()), ()))) | false => ((idx a0 (w64 ((↑(List.length a0) : Int) - 1))) >>= fun y3 => (some (((not (eqS (GF.name y3) (Array.toList (ByteArray.data { data := #[109, 97, 105, 110] }))), ()), ()))))) >>= fun y4 => (match y4.1.1 with | true => (some ((((4, (↑(List.length a0) : Int), ()), ()), ()))) | false => ((idx a0 (w64 ((↑(List.length a0) : Int) - 1))) >>= fun y5 => (match ltI 0 (↑(List.length (GF.lives y5)) : Int) with | true => (some ((((5, (↑(List.length a0) : Int), ()), ()), ()))) | false => ((idx a0 (w64 ((↑(List.length a0) : Int) - 1))) >>= fun y6 => (match ltI 0 (↑(List.length (GF.params y6)) : Int) with | true => (some ((((5, (↑(List.length a0) : Int), ()), ()), ()))) | false => ((idx a0 (w64 ((↑(List.length a0) : Int) - 1))) >>= fun y7 => (match not (eqI (GT.kind (GF.gives y7)) 1) with | true => (some ((((5, (↑(List.length a0) : Int), ()), ()), ()))) | false => (some ((((0, -1, ()), ()), ()))))))))))) | .inr y8 => (some ((((y8.1.1, y8.1.2.1, ()), ()), ())))))))
end Go.Lb.R
end
section
set_option maxRecDepth 100000
namespace Go.Lb.R
open Go.Lb
def k23_0 (a0 : List GT) (a1 : List Str) (a2 : List GP) (a3 : Int) (a4 : Int) (a5 : Mp Bool) : Option (((List GT) × ((List Str) × Unit)) × ((Mp Bool) × Unit)) := (match ltI a4 a3 with | true => ((idx a2 a4) >>= fun y0 => ((app 16 a1 [GP.name y0]) >>= fun y1 => ((app 56 a0 [GP.ty y0]) >>= fun y2 => (k23_0 y2 y1 (nf a2) (nf a3) (w64 (a4 + 1)) (mputL (GP.name y0) true a5))))) | false => (some (((a0, a1, ()), a5, ()))))
  partial_fixpoint
mutual
def k26 (a0 : GT) : Option ((Bool × Unit) × Unit) := (match eqI (GT.kind a0) 4 with | true => (some (((true, ()), ()))) | false => ((k26_0 (GT.kids a0) (↑(List.length (GT.kids a0)) : Int) 0) >>= fun y0 => (match y0 with | .inl y1 => (some (((leI 0 (-1), ()), ()))) | .inr y2 => (some (((leI 0 (y2.1.1), ()), ()))))))
  partial_fixpoint
def k26_0 (a0 : List GT) (a1 : Int) (a2 : Int) : Option ((Unit × Unit) ⊕ ((Int × Unit) × Unit)) := (match ltI a2 a1 with | true => ((idx a0 a2) >>= fun y0 => ((k26 y0) >>= fun y1 => (match y1.1.1 with | true => (some (Sum.inr ((a2, ()), ()))) | false => (k26_0 a0 a1 (w64 (a2 + 1)))))) | false => (some (Sum.inl ((), ()))))
  partial_fixpoint
end
mutual
def k11 (a0 : GT) : Option ((Bool × Unit) × Unit) := (match eqI (GT.kind a0) 2 with | true => ((k11_0 (GT.kids a0) (↑(List.length (GT.kids a0)) : Int) 0 true) >>= fun y0 => (match y0 with | .inl y1 => (some (((not (leI 0 (-1)), ()), ()))) | .inr y2 => (some (((not (leI 0 (y2.1.1)), ()), ()))))) | false => ((k11_0 (GT.kids a0) (↑(List.length (GT.kids a0)) : Int) 0 (eqI (GT.kind a0) 4)) >>= fun y3 => (match y3 with | .inl y4 => (some (((not (leI 0 (-1)), ()), ()))) | .inr y5 => (some (((not (leI 0 (y5.1.1)), ()), ()))))))
  partial_fixpoint
def k11_0 (a0 : List GT) (a1 : Int) (a2 : Int) (a3 : Bool) : Option ((Unit × (Bool × Unit)) ⊕ ((Int × Unit) × (Bool × Unit))) := (match ltI a2 a1 with | true => ((idx a0 a2) >>= fun y0 => ((k11 y0) >>= fun y1 => (match not (y1.1.1) with | true => (some (Sum.inr ((a2, ()), a3, ()))) | false => (match a3 with | true => ((k26 y0) >>= fun y2 => (match y2.1.1 with | true => (some (Sum.inr ((a2, ()), a3, ()))) | false => (k11_0 a0 a1 (w64 (a2 + 1)) a3))) | false => (k11_0 a0 a1 (w64 (a2 + 1)) a3))))) | false => (some (Sum.inl ((), a3, ()))))
  partial_fixpoint
end
mutual
def k42 (a0 : GT) : Option (((List Str) × Unit) × Unit) := (match eqI (GT.kind a0) 4 with | true => ((app 16 [] [GT.life a0]) >>= fun y0 => ((k42_0 y0 (GT.kids a0) (↑(List.length (GT.kids a0)) : Int) 0) >>= fun y1 => (some (((y1.1.1, ()), ()))))) | false => ((k42_0 [] (GT.kids a0) (↑(List.length (GT.kids a0)) : Int) 0) >>= fun y2 => (some (((y2.1.1, ()), ())))))
  partial_fixpoint
def k42_0 (a0 : List Str) (a1 : List GT) (a2 : Int) (a3 : Int) : Option (((List Str) × Unit) × Unit) := (match ltI a3 a2 with | true => ((idx a1 a3) >>= fun y0 => ((k42 y0) >>= fun y1 => ((app 16 a0 (y1.1.1)) >>= fun y2 => (k42_0 y2 a1 a2 (w64 (a3 + 1)))))) | false => (some (((a0, ()), ()))))
  partial_fixpoint
end
def k23_1 (a0 : List Str) (a1 : Bool) (a2 : List GT) (a3 : Int) (a4 : Int) : Option (((List Str) × (Bool × Unit)) × Unit) := (match ltI a4 a3 with | true => ((idx a2 a4) >>= fun y0 => ((k42 y0) >>= fun y1 => ((app 16 a0 (y1.1.1)) >>= fun y2 => (match a1 with | true => ((k11 y0) >>= fun y3 => (k23_1 y2 (y3.1.1) (nf a2) (nf a3) (w64 (a4 + 1)))) | false => (k23_1 y2 false (nf a2) (nf a3) (w64 (a4 + 1))))))) | false => (some (((a0, a1, ()), ()))))
  partial_fixpoint
def k78_0 (a0 : List Str) (a1 : Str) (a2 : Int) (a3 : Int) : Option ((Unit × Unit) ⊕ ((Int × Unit) × Unit)) := (match ltI a3 a2 with | true => ((idx a0 a3) >>= fun y0 => (match eqS a1 y0 with | true => (some (Sum.inr ((a3, ()), ()))) | false => (k78_0 (nf a0) (nf a1) (nf a2) (w64 (a3 + 1))))) | false => (some (Sum.inl ((), ()))))
  partial_fixpoint
def k78 (a0 : List Str) (a1 : Str) : Option ((Int × Unit) × Unit) := ((k78_0 a0 a1 (↑(List.length a0) : Int) 0) >>= fun y0 => (match y0 with | .inl y1 => (some (((-1, ()), ()))) | .inr y2 => (some (((y2.1.1, ()), ())))))
def k40 (a0 : List Str) (a1 : Str) : Option ((Bool × Unit) × Unit) := ((k78 a0 a1) >>= fun y0 => (some (((leI 0 (y0.1.1), ()), ()))))
def k23_2 (a0 : List Str) (a1 : Int) (a2 : Int) (a3 : GF) : Option ((Unit × ((Unit × (Unit × Unit)) × (GF × Unit))) ⊕ ((Int × Unit) × ((Unit × (Unit × Unit)) × (GF × Unit)))) := (match ltI a2 a1 with | true => ((idx a0 a2) >>= fun y0 => ((k40 (GF.lives a3) y0) >>= fun y1 => (match not (y1.1.1) with | true => (some (Sum.inr ((a2, ()), ((), (), ()), a3, ()))) | false => (k23_2 (nf a0) (nf a1) (w64 (a2 + 1)) (nf a3))))) | false => (some (Sum.inl ((), ((), (), ()), a3, ()))))
  partial_fixpoint
def k43_0 (a0 : List Str) (a1 : Int) (a2 : Int) (a3 : Mp Bool) : Option ((Unit × ((Mp Bool) × Unit)) ⊕ ((Bool × Unit) × ((Mp Bool) × Unit))) := (match ltI a2 a1 with | true => ((idx a0 a2) >>= fun y0 => (match mLook y0 a3 false with | true => (some (Sum.inr ((false, ()), a3, ()))) | false => (k43_0 (nf a0) (nf a1) (w64 (a2 + 1)) (mputL y0 true a3)))) | false => (some (Sum.inl ((), a3, ()))))
  partial_fixpoint
def k43 (a0 : List Str) : Option ((Bool × Unit) × Unit) := ((k43_0 a0 (↑(List.length a0) : Int) 0 []) >>= fun y0 => (match y0 with | .inl y1 => (some (((true, ()), ()))) | .inr y2 => (some (((y2.1.1, ()), ())))))
mutual
def k47 (a0 : GE) (a1 : Mp Bool) (a2 : Mp Int) : Option ((Bool × Unit) × ((Mp Bool) × ((Mp Int) × Unit))) := ((k47_0 (GE.kids a0) (↑(List.length (GE.kids a0)) : Int) 0 a1 a2) >>= fun y0 => (match y0 with | .inl y1 => (match eqI (GE.kind a0) 2 with | true => (some (((mLook (GE.name a0) y1.2.1 false, ()), y1.2.1, Prod.fst (y1.2.2), ()))) | false => (match eqI (GE.kind a0) 9 with | true => (match mHas (GE.name a0) (Prod.fst (y1.2.2)) with | true => (some (((eqI (mLook (GE.name a0) (Prod.fst (y1.2.2)) 0) (↑(List.length (GE.kids a0)) : Int), ()), y1.2.1, Prod.fst (y1.2.2), ()))) | false => (some (((false, ()), y1.2.1, Prod.fst (y1.2.2), ())))) | false => (some (((true, ()), y1.2.1, Prod.fst (y1.2.2), ()))))) | .inr y2 => (some (((y2.1.1, ()), y2.2.1, Prod.fst (y2.2.2), ())))))
  partial_fixpoint
def k47_0 (a0 : List GE) (a1 : Int) (a2 : Int) (a3 : Mp Bool) (a4 : Mp Int) : Option ((Unit × ((Mp Bool) × ((Mp Int) × Unit))) ⊕ ((Bool × Unit) × ((Mp Bool) × ((Mp Int) × Unit)))) := (match ltI a2 a1 with | true => ((idx a0 a2) >>= fun y0 => ((k47 y0 a3 a4) >>= fun y1 => (match not (y1.1.1) with | true => (some (Sum.inr ((false, ()), y1.2.1, Prod.fst (y1.2.2), ()))) | false => (k47_0 a0 a1 (w64 (a2 + 1)) y1.2.1 (Prod.fst (y1.2.2)))))) | false => (some (Sum.inl ((), a3, a4, ()))))
  partial_fixpoint
end
mutual
def k46 (a0 : List GS) (a1 : Mp Bool) (a2 : Mp Int) : Option ((Bool × Unit) × ((Mp Bool) × ((Mp Int) × Unit))) := ((k46_0 a0 (↑(List.length a0) : Int) 0 a1 a2) >>= fun y0 => (match y0 with | .inl y1 => (some (((true, ()), y1.2.1, Prod.fst (y1.2.2), ()))) | .inr y2 => (some (((y2.1.1, ()), y2.2.1, Prod.fst (y2.2.2), ())))))
  partial_fixpoint
def k46_0 (a0 : List GS) (a1 : Int) (a2 : Int) (a3 : Mp Bool) (a4 : Mp Int) : Option ((Unit × ((Mp Bool) × ((Mp Int) × Unit))) ⊕ ((Bool × Unit) × ((Mp Bool) × ((Mp Int) × Unit)))) := (match ltI a2 a1 with | true => ((idx a0 a2) >>= fun y0 => (((k47 (GS.expr y0) a3 a4) >>= fun y1 => (match not (y1.1.1) with | true => (some (((true, ()), y1.2.1, Prod.fst (y1.2.2), ()))) | false => (match eqI (GS.kind y0) 2 with | true => ((k47 (GS.place y0) y1.2.1 (Prod.fst (y1.2.2))) >>= fun y2 => (some (((not (y2.1.1), ()), y2.2.1, Prod.fst (y2.2.2), ())))) | false => (some (((false, ()), y1.2.1, Prod.fst (y1.2.2), ())))))) >>= fun y3 => (match y3.1.1 with | true => (some (Sum.inr ((false, ()), y3.2.1, Prod.fst (y3.2.2), ()))) | false => (((kh_inner y3.2.1) >>= fun y4 => ((k46 (GS.thn y0) (Prod.fst (y4.2.2)) (Prod.fst (y3.2.2))) >>= fun y5 => (match not (y5.1.1) with | true => (some (((true, ()), y4.2.1, Prod.fst (y5.2.2), ()))) | false => ((kh_inner y4.2.1) >>= fun y6 => ((k46 (GS.els y0) (Prod.fst (y6.2.2)) (Prod.fst (y5.2.2))) >>= fun y7 => (match not (y7.1.1) with | true => (some (((true, ()), y6.2.1, Prod.fst (y7.2.2), ()))) | false => (match eqI (GS.kind y0) 1 with | true => (some (((mLook (GS.name y0) y6.2.1 false, ()), y6.2.1, Prod.fst (y7.2.2), ()))) | false => (some (((false, ()), y6.2.1, Prod.fst (y7.2.2), ())))))))))) >>= fun y8 => (match y8.1.1 with | true => (some (Sum.inr ((false, ()), y8.2.1, Prod.fst (y8.2.2), ()))) | false => (match eqI (GS.kind y0) 1 with | true => (k46_0 a0 a1 (w64 (a2 + 1)) (mputL (GS.name y0) true y8.2.1) (Prod.fst (y8.2.2))) | false => (k46_0 a0 a1 (w64 (a2 + 1)) y8.2.1 (Prod.fst (y8.2.2))))))))) | false => (some (Sum.inl ((), a3, a4, ()))))
  partial_fixpoint
end
def k23 (a0 : GF) (a1 : Mp Int) : Option ((GErr × Unit) × ((Mp Int) × Unit)) := ((k23_0 [GF.gives a0] [] (GF.params a0) (↑(List.length (GF.params a0)) : Int) 0 []) >>= fun y0 => ((kh_clone (GF.outs a0)) >>= fun y1 => ((k23_1 (y1.1.1) true (y0.1.1) (↑(List.length (y0.1.1)) : Int) 0) >>= fun y2 => ((match mHas (GF.name a0) a1 with | true => (some (((true, ()), a0, ((), (), ()), ()))) | false => ((k43 (GF.lives a0)) >>= fun y3 => (match not (y3.1.1) with | true => (some (((true, ()), a0, ((), (), ()), ()))) | false => ((k43 y0.1.2.1) >>= fun y4 => (match not (y4.1.1) with | true => (some (((true, ()), a0, ((), (), ()), ()))) | false => ((k23_2 (y2.1.1) (↑(List.length (y2.1.1)) : Int) 0 a0) >>= fun y5 => (match y5 with | .inl y6 => (some (((leI 0 (-1), ()), Prod.fst (y6.2.2), ((), (), ()), ()))) | .inr y7 => (some (((leI 0 (y7.1.1), ()), Prod.fst (y7.2.2), ((), (), ()), ())))))))))) >>= fun y8 => (match y8.1.1 with | true => (some (((GErr.code 4, ()), a1, ()))) | false => (match not y2.1.2.1 with | true => (some (((GErr.code 5, ()), a1, ()))) | false => ((k46 (GF.body y8.2.1) y0.2.1 a1) >>= fun y9 => (match not (y9.1.1) with | true => (some (((GErr.code 4, ()), Prod.fst (y9.2.2), ()))) | false => ((k47 (GF.value y8.2.1) y9.2.1 (Prod.fst (y9.2.2))) >>= fun y10 => (match not (y10.1.1) with | true => (some (((GErr.code 4, ()), Prod.fst (y10.2.2), ()))) | false => (some (((GErr.nil, ()), Prod.fst (y10.2.2), ())))))))))))))
def k10_0 (a0 : List GF) (a1 : Int) (a2 : Int) (a3 : Mp Int) : Option ((Unit × ((Mp Int) × Unit)) ⊕ ((GErr × Unit) × ((Mp Int) × Unit))) := (match ltI a2 a1 with | true => ((idx a0 a2) >>= fun y0 => ((k23 y0 a3) >>= fun y1 => (match not (GErr.isNil (y1.1.1)) with | true => (some (Sum.inr ((GErr.fault a2 (y1.1.1), ()), y1.2.1, ()))) | false => (k10_0 (nf a0) (nf a1) (w64 (a2 + 1)) (mputL (GF.name y0) (↑(List.length (GF.params y0)) : Int) y1.2.1))))) | false => (some (Sum.inl ((), a3, ()))))
  partial_fixpoint
def k128_0 (a0 : Str × Nat) : Option ((Unit × ((Str × Nat) × Unit)) ⊕ ((Int × Unit) × ((Str × Nat) × Unit))) := (match ltN a0.2 (List.length a0.1) with | true => (match eqI (runeAt a0.1 a0.2) 32 with | true => (k128_0 (a0.1, a0.2 + runeW a0.1 a0.2)) | false => (match eqI (runeAt a0.1 a0.2) 9 with | true => (k128_0 (a0.1, a0.2 + runeW a0.1 a0.2)) | false => (match not (eqI (runeAt a0.1 a0.2) 10) with | true => (some (Sum.inr (((↑a0.2 : Int), ()), (a0.1, a0.2 + runeW a0.1 a0.2), ()))) | false => (k128_0 (a0.1, a0.2 + runeW a0.1 a0.2))))) | false => (some (Sum.inl ((), (a0.1, a0.2), ()))))
  partial_fixpoint
def k128_1 (a0 : Str × Nat) : Option ((Unit × ((Str × Nat) × Unit)) ⊕ ((Int × Unit) × ((Str × Nat) × Unit))) := (match ltN a0.2 (List.length a0.1) with | true => (match not (not (eqI (runeAt a0.1 a0.2) 10)) with | true => (some (Sum.inr (((↑a0.2 : Int), ()), (a0.1, a0.2 + runeW a0.1 a0.2), ()))) | false => (k128_1 (a0.1, a0.2 + runeW a0.1 a0.2))) | false => (some (Sum.inl ((), (a0.1, a0.2), ()))))
  partial_fixpoint
def k160 (a0 : Str) (a1 : Str) : Option ((Bool × Unit) × Unit) := (match leI (↑(List.length a1) : Int) (↑(List.length a0) : Int) with | true => ((subL a0 0 (↑(List.length a1) : Int)) >>= fun y0 => (some (((eqS y0 a1, ()), ())))) | false => (some (((false, ()), ()))))
def k149 (a0 : Str) (a1 : Str) : Option ((Bool × Unit) × Unit) := ((k160 a0 a1) >>= fun y0 => (some (((y0.1.1, ()), ()))))
def k128 (a0 : Str) : Option ((Int × Unit) × Unit) := ((k128_0 (a0, 0)) >>= fun y0 => (match y0 with | .inl y1 => ((subL a0 (↑(List.length a0) : Int) (↑(List.length a0) : Int)) >>= fun y2 => ((k149 y2 (Array.toList (ByteArray.data { data := #[47, 47] }))) >>= fun y3 => (match y3.1.1 with | true => ((subL a0 (↑(List.length a0) : Int) (↑(List.length a0) : Int)) >>= fun y4 => ((k128_1 (y4, 0)) >>= fun y5 => (match y5 with | .inl y6 => (some (((w64 ((↑(List.length a0) : Int) + (↑(List.length y4) : Int)), ()), ()))) | .inr y7 => (some (((w64 ((↑(List.length a0) : Int) + y7.1.1), ()), ())))))) | false => (some ((((↑(List.length a0) : Int), ()), ())))))) | .inr y8 => ((subL a0 (y8.1.1) (↑(List.length a0) : Int)) >>= fun y9 => ((k149 y9 (Array.toList (ByteArray.data { data := #[47, 47] }))) >>= fun y10 => (match y10.1.1 with | true => ((subL a0 (y8.1.1) (↑(List.length a0) : Int)) >>= fun y11 => ((k128_1 (y11, 0)) >>= fun y12 => (match y12 with | .inl y13 => (some (((w64 (y8.1.1 + (↑(List.length y11) : Int)), ()), ()))) | .inr y14 => (some (((w64 (y8.1.1 + y14.1.1), ()), ())))))) | false => (some (((y8.1.1, ()), ()))))))))
def k153 (a0 : Int) : Option ((Bool × Unit) × Unit) := (match leI 48 a0 with | true => (some (((leI a0 57, ()), ()))) | false => (some (((false, ()), ()))))
def k129_0 (a0 : Str × Nat) : Option ((Unit × ((Str × Nat) × Unit)) ⊕ ((Int × Unit) × ((Str × Nat) × Unit))) := (match ltN a0.2 (List.length a0.1) with | true => ((k153 (runeAt a0.1 a0.2)) >>= fun y0 => (match not (y0.1.1) with | true => (some (Sum.inr (((↑a0.2 : Int), ()), (a0.1, a0.2 + runeW a0.1 a0.2), ()))) | false => (k129_0 (a0.1, a0.2 + runeW a0.1 a0.2)))) | false => (some (Sum.inl ((), (a0.1, a0.2), ()))))
  partial_fixpoint
def k151 (a0 : Int) : Option ((Bool × Unit) × Unit) := (match eqI a0 95 with | true => (some (((true, ()), ()))) | false => (match leI 97 a0 with | true => (match leI a0 122 with | true => (some (((true, ()), ()))) | false => (match leI 65 a0 with | true => (some (((leI a0 90, ()), ()))) | false => (some (((false, ()), ()))))) | false => (match leI 65 a0 with | true => (some (((leI a0 90, ()), ()))) | false => (some (((false, ()), ()))))))
def k152_0 (a0 : Str × Nat) : Option ((Unit × ((Str × Nat) × Unit)) ⊕ ((Int × Unit) × ((Str × Nat) × Unit))) := (match ltN a0.2 (List.length a0.1) with | true => ((k151 (runeAt a0.1 a0.2)) >>= fun y0 => (match y0.1.1 with | true => (k152_0 (a0.1, a0.2 + runeW a0.1 a0.2)) | false => ((k153 (runeAt a0.1 a0.2)) >>= fun y1 => (match not (y1.1.1) with | true => (some (Sum.inr (((↑a0.2 : Int), ()), (a0.1, a0.2 + runeW a0.1 a0.2), ()))) | false => (k152_0 (a0.1, a0.2 + runeW a0.1 a0.2)))))) | false => (some (Sum.inl ((), (a0.1, a0.2), ()))))
  partial_fixpoint
def k152 (a0 : Str) : Option ((Int × Unit) × Unit) := ((k152_0 (a0, 0)) >>= fun y0 => (match y0 with | .inl y1 => (match eqI (↑(List.length a0) : Int) 0 with | true => (some (((0, ()), ()))) | false => ((idxB a0 0) >>= fun y2 => ((k153 (IntKind.wrap IntKind.i32 y2)) >>= fun y3 => (match y3.1.1 with | true => (some (((0, ()), ()))) | false => (match ltI 30 (↑(List.length a0) : Int) with | true => (some (((0, ()), ()))) | false => (some ((((↑(List.length a0) : Int), ()), ())))))))) | .inr y4 => (match eqI (y4.1.1) 0 with | true => (some (((0, ()), ()))) | false => ((idxB a0 0) >>= fun y5 => ((k153 (IntKind.wrap IntKind.i32 y5)) >>= fun y6 => (match y6.1.1 with | true => (some (((0, ()), ()))) | false => (match ltI 30 (y4.1.1) with | true => (some (((0, ()), ()))) | false => (some (((y4.1.1, ()), ()))))))))))
def k162_0 (a0 : Str × Nat) : Option ((Unit × ((Str × Nat) × Unit)) ⊕ ((Int × Unit) × ((Str × Nat) × Unit))) := (match ltN a0.2 (List.length a0.1) with | true => (match eqI (runeAt a0.1 a0.2) 65533 with | true => (some (Sum.inr (((↑a0.2 : Int), ()), (a0.1, a0.2 + runeW a0.1 a0.2), ()))) | false => (k162_0 (a0.1, a0.2 + runeW a0.1 a0.2))) | false => (some (Sum.inl ((), (a0.1, a0.2), ()))))
  partial_fixpoint
def k162_1 (a0 : Str) (a1 : Str) (a2 : Int) (a3 : Int) (a4 : Int) : Option (Unit × Unit) := (match ltI a4 (↑(List.length a1) : Int) with | true => ((idxB a0 (w64 (a3 - a4))) >>= fun y0 => ((idxB a1 (w64 (a2 - a4))) >>= fun y1 => (match not (eqI y0 y1) with | true => none | false => (k162_1 (nf a0) (nf a1) (nf a2) (nf a3) (w64 (a4 + 1)))))) | false => (some (((), ()))))
  partial_fixpoint
def k162_2 (a0 : Str) (a1 : Str) (a2 : Int) (a3 : Int) : Option ((Unit × Unit) ⊕ ((Int × Unit) × Unit)) := (match ltI a3 (↑(List.length a0) : Int) with | true => (((idxB a0 a3) >>= fun y0 => ((idxB a1 a2) >>= fun y1 => (match not (eqI y0 y1) with | true => ((subL a0 (w64 (a3 + 1)) (↑(List.length a0) : Int)) >>= fun y2 => ((idxB a1 a2) >>= fun y3 => ((kh_indexByte y2 y3) >>= fun y4 => (match ltI (y4.1.1) 0 with | true => (some (Sum.inr ((-1, ()), ()))) | false => (some (Sum.inl ((w64 (a3 + w64 (y4.1.1 + 1)), ()), ()))))))) | false => (some (Sum.inl ((a3, ()), ())))))) >>= fun y5 => (match y5 with | .inl y6 => ((k162_1 a0 a1 a2 (y6.1.1) 1) >>= fun y7 => (some (Sum.inr ((w64 (y6.1.1 - a2), ()), ())))) | .inr y8 => (some (Sum.inr ((y8.1.1, ()), ()))))) | false => (some (Sum.inl ((), ()))))
def k162 (a0 : Str) (a1 : Int) : Option ((Int × Unit) × Unit) := ((match leI 0 a1 with | true => (some (((ltI a1 128, ()), ()))) | false => (some (((false, ()), ())))) >>= fun y0 => (match y0.1.1 with | true => ((kh_indexByte a0 (IntKind.wrap IntKind.u8 a1)) >>= fun y1 => (some (((y1.1.1, ()), ())))) | false => (match eqI a1 65533 with | true => ((k162_0 (a0, 0)) >>= fun y2 => (match y2 with | .inl y3 => (some (((-1, ()), ()))) | .inr y4 => (some (((y4.1.1, ()), ()))))) | false => ((kh_validRune a1) >>= fun y5 => (match not (y5.1.1) with | true => (some (((-1, ()), ()))) | false => ((k162_2 a0 (runeStr a1) (w64 ((↑(List.length (runeStr a1)) : Int) - 1)) (w64 ((↑(List.length (runeStr a1)) : Int) - 1))) >>= fun y6 => (match y6 with | .inl y7 => (some (((-1, ()), ()))) | .inr y8 => (some (((y8.1.1, ()), ()))))))))))
def k154 (a0 : Str) (a1 : Int) : Option ((Bool × Unit) × Unit) := ((k162 a0 a1) >>= fun y0 => (some (((leI 0 (y0.1.1), ()), ()))))
def k129 (a0 : Str) : Option (((Int × (Int × Unit)) × Unit) × Unit) := ((idxB a0 0) >>= fun y0 => ((k151 (IntKind.wrap IntKind.i32 y0)) >>= fun y1 => (match y1.1.1 with | true => ((k152 a0) >>= fun y2 => (some ((((1, y2.1.1, ()), ()), ())))) | false => ((k153 (IntKind.wrap IntKind.i32 y0)) >>= fun y3 => (match y3.1.1 with | true => ((k129_0 (a0, 0)) >>= fun y4 => (match y4 with | .inl y5 => (match ltI 18 (↑(List.length a0) : Int) with | true => (some ((((2, 0, ()), ()), ()))) | false => (some ((((2, (↑(List.length a0) : Int), ()), ()), ())))) | .inr y6 => (match ltI 18 (y6.1.1) with | true => (some ((((2, 0, ()), ()), ()))) | false => (some ((((2, y6.1.1, ()), ()), ())))))) | false => (match eqI (IntKind.wrap IntKind.i32 y0) 39 with | true => ((subL a0 1 (↑(List.length a0) : Int)) >>= fun y7 => ((k152 y7) >>= fun y8 => (match ltI 0 (y8.1.1) with | true => (some ((((3, w64 (y8.1.1 + 1), ()), ()), ()))) | false => (some ((((3, y8.1.1, ()), ()), ())))))) | false => ((k149 a0 (Array.toList (ByteArray.data { data := #[45, 62] }))) >>= fun y9 => (match y9.1.1 with | true => (some ((((4, 2, ()), ()), ()))) | false => ((k149 a0 (Array.toList (ByteArray.data { data := #[61, 61] }))) >>= fun y10 => (match y10.1.1 with | true => (some ((((4, 2, ()), ()), ()))) | false => ((k154 (Array.toList (ByteArray.data { data := #[40, 41, 123, 125, 91, 93, 44, 59, 58, 46, 38, 42, 61, 43, 45, 47, 60] })) (IntKind.wrap IntKind.i32 y0)) >>= fun y11 => (match y11.1.1 with | true => (some ((((4, 1, ()), ()), ()))) | false => (some ((((0, 0, ()), ()), ())))))))))))))))
def k104_0 (a0 : Str) (a1 : List KTok) (a2 : Int) : Option ((((List KTok) × Unit) × Unit) ⊕ ((Unit × (GErr × Unit)) × Unit)) := (match ltI a2 (↑(List.length a0) : Int) with | true => ((subL a0 a2 (↑(List.length a0) : Int)) >>= fun y0 => ((k128 y0) >>= fun y1 => (match ltI 0 (y1.1.1) with | true => (k104_0 (nf a0) a1 (w64 (a2 + y1.1.1))) | false => ((subL a0 a2 (↑(List.length a0) : Int)) >>= fun y2 => ((k129 y2) >>= fun y3 => (match eqI (Prod.fst (Prod.snd (y3.1.1))) 0 with | true => (some (Sum.inr (((), GErr.fault a2 (GErr.code 1), ()), ()))) | false => ((subL a0 a2 (w64 (a2 + Prod.fst (Prod.snd (y3.1.1))))) >>= fun y4 => ((app 32 a1 [{ kind := Prod.fst (y3.1.1), pos := a2, text := y4 }]) >>= fun y5 => (k104_0 (nf a0) y5 (w64 (a2 + Prod.fst (Prod.snd (y3.1.1))))))))))))) | false => (some (Sum.inl ((a1, ()), ()))))
  partial_fixpoint
def k104 (a0 : Str) : Option ((((List KTok) × (GErr × Unit)) × Unit) × Unit) := (match ltI 20000 (↑(List.length a0) : Int) with | true => (some (((([], GErr.code 3, ()), ()), ()))) | false => ((k104_0 a0 [] 0) >>= fun y0 => (match y0 with | .inl y1 => (some ((((y1.1.1, GErr.nil, ()), ()), ()))) | .inr y2 => (some (((([], y2.1.2.1, ()), ()), ()))))))
def k105 : Option (((List Str) × Unit) × Unit) := ((kh_fields (Array.toList (ByteArray.data { data := #[102, 110, 32, 108, 101, 116, 32, 105, 102, 32, 101, 108, 115, 101, 32, 114, 101, 112, 101, 97, 116, 32, 114, 101, 116, 32, 98, 111, 120, 32, 105, 110, 116, 32, 109, 117, 116, 32, 119, 104, 101, 114, 101] }))) >>= fun y0 => (some (((y0.1.1, ()), ()))))
def k70 (a0 : Str) : Option ((Bool × Unit) × Unit) := ((k104 a0) >>= fun y0 => (match GErr.isNil (Prod.fst (Prod.snd (y0.1.1))) with | true => (match eqI (↑(List.length (Prod.fst (y0.1.1))) : Int) 1 with | true => ((idx (Prod.fst (y0.1.1)) 0) >>= fun y1 => (match eqTok y1 { kind := 1, pos := 0, text := a0 } with | true => ((k105) >>= fun y2 => ((k40 (y2.1.1) a0) >>= fun y3 => (some (((not (y3.1.1), ()), ()))))) | false => (some (((false, ()), ()))))) | false => (some (((false, ()), ())))) | false => (some (((false, ()), ())))))
def k38_0 (a0 : List Str) (a1 : Int) (a2 : Int) : Option ((Unit × ((Unit × Unit) × Unit)) ⊕ ((Int × Unit) × ((Unit × Unit) × Unit))) := (match ltI a2 a1 with | true => ((idx a0 a2) >>= fun y0 => ((k70 y0) >>= fun y1 => (match not (y1.1.1) with | true => (some (Sum.inr ((a2, ()), ((), ()), ()))) | false => (k38_0 (nf a0) (nf a1) (w64 (a2 + 1)))))) | false => (some (Sum.inl ((), ((), ()), ()))))
  partial_fixpoint
mutual
def k71 (a0 : GT) : Option ((Bool × Unit) × Unit) := ((match not (eqI (GT.kind a0) 4) with | true => (match not (eqS (GT.life a0) (Array.toList (ByteArray.data { data := #[] }))) with | true => (some (((true, ()), ()))) | false => (some (((GT.mu a0, ()), ())))) | false => (some (((false, ()), ())))) >>= fun y0 => (match y0.1.1 with | true => (some (((false, ()), ()))) | false => (match eqI (↑(List.length (GT.kids a0)) : Int) 1 with | true => ((k70 (GT.life a0)) >>= fun y1 => (match leI 1 (GT.kind a0) with | true => (match leI (GT.kind a0) 4 with | true => (match decide (w64 (GT.kind (Prod.fst (Prod.fst ((a0, ()), ()))) - 1) = (↑0 : Int)) with | true => (match eqI (↑(List.length (GT.kids a0)) : Int) 0 with | true => (match leI (↑(List.length (GT.kids a0)) : Int) 30 with | true => ((k71_0 (GT.kids a0) (↑(List.length (GT.kids a0)) : Int) 0) >>= fun y2 => (match y2 with | .inl y3 => (some (((not (leI 0 (-1)), ()), ()))) | .inr y4 => (some (((not (leI 0 (y4.1.1)), ()), ()))))) | false => (some (((false, ()), ())))) | false => (some (((false, ()), ())))) | false => (match decide (w64 (GT.kind (Prod.fst (Prod.fst ((a0, ()), ()))) - 1) = (↑(0 + 1) : Int)) with | true => (match eqI (↑(List.length (GT.kids a0)) : Int) 1 with | true => (match leI (↑(List.length (GT.kids a0)) : Int) 30 with | true => ((k71_0 (GT.kids a0) (↑(List.length (GT.kids a0)) : Int) 0) >>= fun y5 => (match y5 with | .inl y6 => (some (((not (leI 0 (-1)), ()), ()))) | .inr y7 => (some (((not (leI 0 (y7.1.1)), ()), ()))))) | false => (some (((false, ()), ())))) | false => (some (((false, ()), ())))) | false => (match decide (w64 (GT.kind (Prod.fst (Prod.fst ((a0, ()), ()))) - 1) = (↑(0 + 1 + 1) : Int)) with | true => (match leI 2 (↑(List.length (GT.kids a0)) : Int) with | true => (match leI (↑(List.length (GT.kids a0)) : Int) 30 with | true => ((k71_0 (GT.kids a0) (↑(List.length (GT.kids a0)) : Int) 0) >>= fun y8 => (match y8 with | .inl y9 => (some (((not (leI 0 (-1)), ()), ()))) | .inr y10 => (some (((not (leI 0 (y10.1.1)), ()), ()))))) | false => (some (((false, ()), ())))) | false => (some (((false, ()), ())))) | false => (match decide (w64 (GT.kind (Prod.fst (Prod.fst ((a0, ()), ()))) - 1) = (↑(0 + 1 + 1 + 1) : Int)) with | true => (match y1.1.1 with | true => (match leI (↑(List.length (GT.kids a0)) : Int) 30 with | true => ((k71_0 (GT.kids a0) (↑(List.length (GT.kids a0)) : Int) 0) >>= fun y11 => (match y11 with | .inl y12 => (some (((not (leI 0 (-1)), ()), ()))) | .inr y13 => (some (((not (leI 0 (y13.1.1)), ()), ()))))) | false => (some (((false, ()), ())))) | false => (some (((false, ()), ())))) | false => none)))) | false => (some (((false, ()), ())))) | false => (some (((false, ()), ()))))) | false => (match leI 1 (GT.kind a0) with | true => (match leI (GT.kind a0) 4 with | true => (match decide (w64 (GT.kind (Prod.fst (Prod.fst ((a0, ()), ()))) - 1) = (↑0 : Int)) with | true => (match eqI (↑(List.length (GT.kids a0)) : Int) 0 with | true => (match leI (↑(List.length (GT.kids a0)) : Int) 30 with | true => ((k71_0 (GT.kids a0) (↑(List.length (GT.kids a0)) : Int) 0) >>= fun y14 => (match y14 with | .inl y15 => (some (((not (leI 0 (-1)), ()), ()))) | .inr y16 => (some (((not (leI 0 (y16.1.1)), ()), ()))))) | false => (some (((false, ()), ())))) | false => (some (((false, ()), ())))) | false => (match decide (w64 (GT.kind (Prod.fst (Prod.fst ((a0, ()), ()))) - 1) = (↑(0 + 1) : Int)) with | true => (match eqI (↑(List.length (GT.kids a0)) : Int) 1 with | true => (match leI (↑(List.length (GT.kids a0)) : Int) 30 with | true => ((k71_0 (GT.kids a0) (↑(List.length (GT.kids a0)) : Int) 0) >>= fun y17 => (match y17 with | .inl y18 => (some (((not (leI 0 (-1)), ()), ()))) | .inr y19 => (some (((not (leI 0 (y19.1.1)), ()), ()))))) | false => (some (((false, ()), ())))) | false => (some (((false, ()), ())))) | false => (match decide (w64 (GT.kind (Prod.fst (Prod.fst ((a0, ()), ()))) - 1) = (↑(0 + 1 + 1) : Int)) with | true => (match leI 2 (↑(List.length (GT.kids a0)) : Int) with | true => (match leI (↑(List.length (GT.kids a0)) : Int) 30 with | true => ((k71_0 (GT.kids a0) (↑(List.length (GT.kids a0)) : Int) 0) >>= fun y20 => (match y20 with | .inl y21 => (some (((not (leI 0 (-1)), ()), ()))) | .inr y22 => (some (((not (leI 0 (y22.1.1)), ()), ()))))) | false => (some (((false, ()), ())))) | false => (some (((false, ()), ())))) | false => (match decide (w64 (GT.kind (Prod.fst (Prod.fst ((a0, ()), ()))) - 1) = (↑(0 + 1 + 1 + 1) : Int)) with | true => (some (((false, ()), ()))) | false => none)))) | false => (some (((false, ()), ())))) | false => (some (((false, ()), ())))))))
  partial_fixpoint
def k71_0 (a0 : List GT) (a1 : Int) (a2 : Int) : Option ((Unit × ((Unit × Unit) × Unit)) ⊕ ((Int × Unit) × ((Unit × Unit) × Unit))) := (match ltI a2 a1 with | true => ((idx a0 a2) >>= fun y0 => ((k71 y0) >>= fun y1 => (match not (y1.1.1) with | true => (some (Sum.inr ((a2, ()), ((), ()), ()))) | false => (k71_0 a0 a1 (w64 (a2 + 1)))))) | false => (some (Sum.inl ((), ((), ()), ()))))
  partial_fixpoint
end
def k38_1 (a0 : List GP) (a1 : Int) (a2 : Int) : Option ((Unit × ((Unit × Unit) × Unit)) ⊕ ((Int × Unit) × ((Unit × Unit) × Unit))) := (match ltI a2 a1 with | true => ((idx a0 a2) >>= fun y0 => ((k70 (GP.name y0)) >>= fun y1 => (match y1.1.1 with | true => ((k71 (GP.ty y0)) >>= fun y2 => (match not (y2.1.1) with | true => (some (Sum.inr ((a2, ()), ((), ()), ()))) | false => (k38_1 (nf a0) (nf a1) (w64 (a2 + 1))))) | false => (some (Sum.inr ((a2, ()), ((), ()), ())))))) | false => (some (Sum.inl ((), ((), ()), ()))))
  partial_fixpoint
def k112 (a0 : GE) : Option ((Bool × Unit) × Unit) := (match eqI (GE.kind a0) 0 with | true => (match eqI (GE.num a0) 0 with | true => (match eqS (GE.name a0) (Array.toList (ByteArray.data { data := #[] })) with | true => (match not (GE.mu a0) with | true => (some (((eqI (↑(List.length (GE.kids a0)) : Int) 0, ()), ()))) | false => (some (((false, ()), ())))) | false => (some (((false, ()), ())))) | false => (some (((false, ()), ())))) | false => (some (((false, ()), ()))))
def k113 (a0 : GE) : Option ((Bool × Unit) × Unit) := (match leI 2 (GE.kind a0) with | true => (some (((leI (GE.kind a0) 4, ()), ()))) | false => (some (((false, ()), ()))))
def k137 (a0 : GE) : Option ((Bool × Unit) × Unit) := ((idx (GE.kids a0) 0) >>= fun y0 => ((k113 y0) >>= fun y1 => (some (((y1.1.1, ()), ())))))
def k138 (a0 : GE) : Option ((Bool × Unit) × Unit) := (some (((true, ()), ())))
def k140 (a0 : GE) : Option ((Int × Unit) × Unit) := (match not (eqI (GE.kind a0) 8) with | true => (some (((4, ()), ()))) | false => (match eqS (GE.name a0) (Array.toList (ByteArray.data { data := #[60] })) with | true => (match eqS (GE.name a0) (Array.toList (ByteArray.data { data := #[60] })) with | true => (some (((1, ()), ()))) | false => (match eqS (GE.name a0) (Array.toList (ByteArray.data { data := #[43] })) with | true => (match eqS (GE.name a0) (Array.toList (ByteArray.data { data := #[43] })) with | true => (some (((2, ()), ()))) | false => (match eqS (GE.name a0) (Array.toList (ByteArray.data { data := #[42] })) with | true => (match eqS (GE.name a0) (Array.toList (ByteArray.data { data := #[42] })) with | true => (some (((3, ()), ()))) | false => (some (((4, ()), ())))) | false => (match eqS (GE.name a0) (Array.toList (ByteArray.data { data := #[47] })) with | true => (some (((3, ()), ()))) | false => (some (((4, ()), ())))))) | false => (match eqS (GE.name a0) (Array.toList (ByteArray.data { data := #[45] })) with | true => (some (((2, ()), ()))) | false => (match eqS (GE.name a0) (Array.toList (ByteArray.data { data := #[42] })) with | true => (match eqS (GE.name a0) (Array.toList (ByteArray.data { data := #[42] })) with | true => (some (((3, ()), ()))) | false => (some (((4, ()), ())))) | false => (match eqS (GE.name a0) (Array.toList (ByteArray.data { data := #[47] })) with | true => (some (((3, ()), ()))) | false => (some (((4, ()), ())))))))) | false => (match eqS (GE.name a0) (Array.toList (ByteArray.data { data := #[61, 61] })) with | true => (some (((1, ()), ()))) | false => (match eqS (GE.name a0) (Array.toList (ByteArray.data { data := #[43] })) with | true => (match eqS (GE.name a0) (Array.toList (ByteArray.data { data := #[43] })) with | true => (some (((2, ()), ()))) | false => (match eqS (GE.name a0) (Array.toList (ByteArray.data { data := #[42] })) with | true => (match eqS (GE.name a0) (Array.toList (ByteArray.data { data := #[42] })) with | true => (some (((3, ()), ()))) | false => (some (((4, ()), ())))) | false => (match eqS (GE.name a0) (Array.toList (ByteArray.data { data := #[47] })) with | true => (some (((3, ()), ()))) | false => (some (((4, ()), ())))))) | false => (match eqS (GE.name a0) (Array.toList (ByteArray.data { data := #[45] })) with | true => (some (((2, ()), ()))) | false => (match eqS (GE.name a0) (Array.toList (ByteArray.data { data := #[42] })) with | true => (match eqS (GE.name a0) (Array.toList (ByteArray.data { data := #[42] })) with | true => (some (((3, ()), ()))) | false => (some (((4, ()), ())))) | false => (match eqS (GE.name a0) (Array.toList (ByteArray.data { data := #[47] })) with | true => (some (((3, ()), ()))) | false => (some (((4, ()), ()))))))))))
mutual
def k77 (a0 : GE) : Option ((Bool × Unit) × Unit) := ((match ltI (GE.kind a0) 1 with | true => (some (((true, ()), ()))) | false => (some (((ltI 9 (GE.kind a0), ()), ())))) >>= fun y0 => (match y0.1.1 with | true => (some (((false, ()), ()))) | false => (match decide (w64 (GE.kind (Prod.fst (Prod.fst ((a0, ()), ()))) - 1) = (↑0 : Int)) with | true => ((some ((((↑(List.length (GE.kids a0)) : Int), ()), ()))) >>= fun y1 => ((match ltI (y1.1.1) 0 with | true => (some (((true, ()), ()))) | false => (match ltI 0 (y1.1.1) with | true => (some (((true, ()), ()))) | false => (match not (eqS (GE.name a0) (Array.toList (ByteArray.data { data := #[] }))) with | true => (some (((true, ()), ()))) | false => (some (((GE.mu a0, ()), ())))))) >>= fun y2 => (match y2.1.1 with | true => (some (((false, ()), ()))) | false => (match leI 0 (GE.num a0) with | true => (match ltI (GE.num a0) 1000000000000000000 with | true => (match leI (↑(List.length (GE.kids a0)) : Int) 30 with | true => ((k77_0 (GE.kids a0) (↑(List.length (GE.kids a0)) : Int) 0) >>= fun y3 => (match y3 with | .inl y4 => (some (((not (leI 0 (-1)), ()), ()))) | .inr y5 => (some (((not (leI 0 (y5.1.1)), ()), ()))))) | false => (some (((false, ()), ())))) | false => (some (((false, ()), ())))) | false => (some (((false, ()), ()))))))) | false => (match decide (w64 (GE.kind (Prod.fst (Prod.fst ((a0, ()), ()))) - 1) = (↑(0 + 1) : Int)) with | true => ((some ((((↑(List.length (GE.kids a0)) : Int), ()), ()))) >>= fun y6 => ((match ltI (y6.1.1) 0 with | true => (some (((true, ()), ()))) | false => (match ltI 0 (y6.1.1) with | true => (some (((true, ()), ()))) | false => (match not (eqI (GE.num a0) 0) with | true => (some (((true, ()), ()))) | false => (some (((GE.mu a0, ()), ())))))) >>= fun y7 => (match y7.1.1 with | true => (some (((false, ()), ()))) | false => ((k70 (GE.name a0)) >>= fun y8 => (match y8.1.1 with | true => (match leI (↑(List.length (GE.kids a0)) : Int) 30 with | true => ((k77_0 (GE.kids a0) (↑(List.length (GE.kids a0)) : Int) 0) >>= fun y9 => (match y9 with | .inl y10 => (some (((not (leI 0 (-1)), ()), ()))) | .inr y11 => (some (((not (leI 0 (y11.1.1)), ()), ()))))) | false => (some (((false, ()), ())))) | false => (some (((false, ()), ())))))))) | false => (match decide (w64 (GE.kind (Prod.fst (Prod.fst ((a0, ()), ()))) - 1) = (↑(0 + 1 + 1) : Int)) with | true => ((some ((((↑(List.length (GE.kids a0)) : Int), ()), ()))) >>= fun y12 => ((match ltI (y12.1.1) 1 with | true => (some (((true, ()), ()))) | false => (match ltI 1 (y12.1.1) with | true => (some (((true, ()), ()))) | false => (match not (eqS (GE.name a0) (Array.toList (ByteArray.data { data := #[] }))) with | true => (some (((true, ()), ()))) | false => (some (((GE.mu a0, ()), ())))))) >>= fun y13 => (match y13.1.1 with | true => (some (((false, ()), ()))) | false => ((k137 a0) >>= fun y14 => (match y14.1.1 with | true => (match leI 0 (GE.num a0) with | true => (match ltI (GE.num a0) 30 with | true => (match leI (↑(List.length (GE.kids a0)) : Int) 30 with | true => ((k77_0 (GE.kids a0) (↑(List.length (GE.kids a0)) : Int) 0) >>= fun y15 => (match y15 with | .inl y16 => (some (((not (leI 0 (-1)), ()), ()))) | .inr y17 => (some (((not (leI 0 (y17.1.1)), ()), ()))))) | false => (some (((false, ()), ())))) | false => (some (((false, ()), ())))) | false => (some (((false, ()), ())))) | false => (some (((false, ()), ())))))))) | false => (match decide (w64 (GE.kind (Prod.fst (Prod.fst ((a0, ()), ()))) - 1) = (↑(0 + 1 + 1 + 1) : Int)) with | true => ((some ((((↑(List.length (GE.kids a0)) : Int), ()), ()))) >>= fun y18 => ((match ltI (y18.1.1) 1 with | true => (some (((true, ()), ()))) | false => (match ltI 1 (y18.1.1) with | true => (some (((true, ()), ()))) | false => (match not (eqI (GE.num a0) 0) with | true => (some (((true, ()), ()))) | false => (match not (eqS (GE.name a0) (Array.toList (ByteArray.data { data := #[] }))) with | true => (some (((true, ()), ()))) | false => (some (((GE.mu a0, ()), ()))))))) >>= fun y19 => (match y19.1.1 with | true => (some (((false, ()), ()))) | false => ((k137 a0) >>= fun y20 => (match y20.1.1 with | true => (match leI (↑(List.length (GE.kids a0)) : Int) 30 with | true => ((k77_0 (GE.kids a0) (↑(List.length (GE.kids a0)) : Int) 0) >>= fun y21 => (match y21 with | .inl y22 => (some (((not (leI 0 (-1)), ()), ()))) | .inr y23 => (some (((not (leI 0 (y23.1.1)), ()), ()))))) | false => (some (((false, ()), ())))) | false => (some (((false, ()), ())))))))) | false => (match decide (w64 (GE.kind (Prod.fst (Prod.fst ((a0, ()), ()))) - 1) = (↑(0 + 1 + 1 + 1 + 1) : Int)) with | true => ((some ((((↑(List.length (GE.kids a0)) : Int), ()), ()))) >>= fun y24 => ((match ltI (y24.1.1) 1 with | true => (some (((true, ()), ()))) | false => (match ltI 1 (y24.1.1) with | true => (some (((true, ()), ()))) | false => (match not (eqI (GE.num a0) 0) with | true => (some (((true, ()), ()))) | false => (match not (eqS (GE.name a0) (Array.toList (ByteArray.data { data := #[] }))) with | true => (some (((true, ()), ()))) | false => (some (((false, ()), ()))))))) >>= fun y25 => (match y25.1.1 with | true => (some (((false, ()), ()))) | false => ((k137 a0) >>= fun y26 => (match y26.1.1 with | true => (match leI (↑(List.length (GE.kids a0)) : Int) 30 with | true => ((k77_0 (GE.kids a0) (↑(List.length (GE.kids a0)) : Int) 0) >>= fun y27 => (match y27 with | .inl y28 => (some (((not (leI 0 (-1)), ()), ()))) | .inr y29 => (some (((not (leI 0 (y29.1.1)), ()), ()))))) | false => (some (((false, ()), ())))) | false => (some (((false, ()), ())))))))) | false => (match decide (w64 (GE.kind (Prod.fst (Prod.fst ((a0, ()), ()))) - 1) = (↑(0 + 1 + 1 + 1 + 1 + 1) : Int)) with | true => ((some ((((↑(List.length (GE.kids a0)) : Int), ()), ()))) >>= fun y30 => ((match ltI (y30.1.1) 1 with | true => (some (((true, ()), ()))) | false => (match ltI 1 (y30.1.1) with | true => (some (((true, ()), ()))) | false => (match not (eqI (GE.num a0) 0) with | true => (some (((true, ()), ()))) | false => (match not (eqS (GE.name a0) (Array.toList (ByteArray.data { data := #[] }))) with | true => (some (((true, ()), ()))) | false => (some (((GE.mu a0, ()), ()))))))) >>= fun y31 => (match y31.1.1 with | true => (some (((false, ()), ()))) | false => ((k138 a0) >>= fun y32 => (match y32.1.1 with | true => (match leI (↑(List.length (GE.kids a0)) : Int) 30 with | true => ((k77_0 (GE.kids a0) (↑(List.length (GE.kids a0)) : Int) 0) >>= fun y33 => (match y33 with | .inl y34 => (some (((not (leI 0 (-1)), ()), ()))) | .inr y35 => (some (((not (leI 0 (y35.1.1)), ()), ()))))) | false => (some (((false, ()), ())))) | false => (some (((false, ()), ())))))))) | false => (match decide (w64 (GE.kind (Prod.fst (Prod.fst ((a0, ()), ()))) - 1) = (↑(0 + 1 + 1 + 1 + 1 + 1 + 1) : Int)) with | true => ((some ((((↑(List.length (GE.kids a0)) : Int), ()), ()))) >>= fun y36 => ((match ltI (y36.1.1) 2 with | true => (some (((true, ()), ()))) | false => (match ltI 30 (y36.1.1) with | true => (some (((true, ()), ()))) | false => (match not (eqI (GE.num a0) 0) with | true => (some (((true, ()), ()))) | false => (match not (eqS (GE.name a0) (Array.toList (ByteArray.data { data := #[] }))) with | true => (some (((true, ()), ()))) | false => (some (((GE.mu a0, ()), ()))))))) >>= fun y37 => (match y37.1.1 with | true => (some (((false, ()), ()))) | false => ((k138 a0) >>= fun y38 => (match y38.1.1 with | true => (match leI (↑(List.length (GE.kids a0)) : Int) 30 with | true => ((k77_0 (GE.kids a0) (↑(List.length (GE.kids a0)) : Int) 0) >>= fun y39 => (match y39 with | .inl y40 => (some (((not (leI 0 (-1)), ()), ()))) | .inr y41 => (some (((not (leI 0 (y41.1.1)), ()), ()))))) | false => (some (((false, ()), ())))) | false => (some (((false, ()), ())))))))) | false => (match decide (w64 (GE.kind (Prod.fst (Prod.fst ((a0, ()), ()))) - 1) = (↑(0 + 1 + 1 + 1 + 1 + 1 + 1 + 1) : Int)) with | true => ((some ((((↑(List.length (GE.kids a0)) : Int), ()), ()))) >>= fun y42 => ((match ltI (y42.1.1) 2 with | true => (some (((true, ()), ()))) | false => (match ltI 2 (y42.1.1) with | true => (some (((true, ()), ()))) | false => (match not (eqI (GE.num a0) 0) with | true => (some (((true, ()), ()))) | false => (some (((GE.mu a0, ()), ())))))) >>= fun y43 => (match y43.1.1 with | true => (some (((false, ()), ()))) | false => ((k140 a0) >>= fun y44 => (match ltI (y44.1.1) 4 with | true => (match leI (↑(List.length (GE.kids a0)) : Int) 30 with | true => ((k77_0 (GE.kids a0) (↑(List.length (GE.kids a0)) : Int) 0) >>= fun y45 => (match y45 with | .inl y46 => (some (((not (leI 0 (-1)), ()), ()))) | .inr y47 => (some (((not (leI 0 (y47.1.1)), ()), ()))))) | false => (some (((false, ()), ())))) | false => (some (((false, ()), ())))))))) | false => (match decide (w64 (GE.kind (Prod.fst (Prod.fst ((a0, ()), ()))) - 1) = (↑(0 + 1 + 1 + 1 + 1 + 1 + 1 + 1 + 1) : Int)) with | true => ((some ((((↑(List.length (GE.kids a0)) : Int), ()), ()))) >>= fun y48 => ((match ltI (y48.1.1) 0 with | true => (some (((true, ()), ()))) | false => (match ltI 30 (y48.1.1) with | true => (some (((true, ()), ()))) | false => (match not (eqI (GE.num a0) 0) with | true => (some (((true, ()), ()))) | false => (some (((GE.mu a0, ()), ())))))) >>= fun y49 => (match y49.1.1 with | true => (some (((false, ()), ()))) | false => ((k70 (GE.name a0)) >>= fun y50 => (match y50.1.1 with | true => (match leI (↑(List.length (GE.kids a0)) : Int) 30 with | true => ((k77_0 (GE.kids a0) (↑(List.length (GE.kids a0)) : Int) 0) >>= fun y51 => (match y51 with | .inl y52 => (some (((not (leI 0 (-1)), ()), ()))) | .inr y53 => (some (((not (leI 0 (y53.1.1)), ()), ()))))) | false => (some (((false, ()), ())))) | false => (some (((false, ()), ())))))))) | false => none)))))))))))
  partial_fixpoint
def k77_0 (a0 : List GE) (a1 : Int) (a2 : Int) : Option ((Unit × ((Unit × Unit) × Unit)) ⊕ ((Int × Unit) × ((Unit × Unit) × Unit))) := (match ltI a2 a1 with | true => ((idx a0 a2) >>= fun y0 => ((k77 y0) >>= fun y1 => (match not (y1.1.1) with | true => (some (Sum.inr ((a2, ()), ((), ()), ()))) | false => (k77_0 a0 a1 (w64 (a2 + 1)))))) | false => (some (Sum.inl ((), ((), ()), ()))))
  partial_fixpoint
end
mutual
def k75 (a0 : GS) : Option ((Bool × Unit) × Unit) := ((match ltI (GS.kind a0) 1 with | true => (some (((true, ()), ()))) | false => (match ltI 4 (GS.kind a0) with | true => (some (((true, ()), ()))) | false => ((k77 (GS.expr a0)) >>= fun y0 => (some (((not (y0.1.1), ()), ())))))) >>= fun y1 => (match y1.1.1 with | true => (some (((false, ()), ()))) | false => ((match not (eqB (eqI (GS.kind a0) 1) (not (eqS (GS.name a0) (Array.toList (ByteArray.data { data := #[] }))))) with | true => (some (((true, ()), ()))) | false => (match eqI (GS.kind a0) 1 with | true => ((k70 (GS.name a0)) >>= fun y2 => (some (((not (y2.1.1), ()), ())))) | false => (some (((false, ()), ()))))) >>= fun y3 => (match y3.1.1 with | true => (some (((false, ()), ()))) | false => (((k112 (GS.place a0)) >>= fun y4 => (match not (eqB (eqI (GS.kind a0) 2) (not (y4.1.1))) with | true => (some (((true, ()), ()))) | false => (match eqI (GS.kind a0) 2 with | true => ((k113 (GS.place a0)) >>= fun y5 => (match y5.1.1 with | true => ((k77 (GS.place a0)) >>= fun y6 => (some (((not (y6.1.1), ()), ())))) | false => (some (((not false, ()), ()))))) | false => (some (((false, ()), ())))))) >>= fun y7 => (match y7.1.1 with | true => (some (((false, ()), ()))) | false => ((match eqI (GS.kind a0) 1 with | true => (match ltI 0 (↑(List.length (GS.thn a0)) : Int) with | true => (some (((true, ()), ()))) | false => (match not (eqI (GS.kind a0) 3) with | true => (some (((ltI 0 (↑(List.length (GS.els a0)) : Int), ()), ()))) | false => (some (((false, ()), ()))))) | false => (match eqI (GS.kind a0) 2 with | true => (match ltI 0 (↑(List.length (GS.thn a0)) : Int) with | true => (some (((true, ()), ()))) | false => (match not (eqI (GS.kind a0) 3) with | true => (some (((ltI 0 (↑(List.length (GS.els a0)) : Int), ()), ()))) | false => (some (((false, ()), ()))))) | false => (match not (eqI (GS.kind a0) 3) with | true => (some (((ltI 0 (↑(List.length (GS.els a0)) : Int), ()), ()))) | false => (some (((false, ()), ())))))) >>= fun y8 => (match y8.1.1 with | true => (some (((false, ()), ()))) | false => ((match leI (↑(List.length (GS.thn a0)) : Int) 30 with | true => ((k75_0 (GS.thn a0) (↑(List.length (GS.thn a0)) : Int) 0) >>= fun y9 => (match y9 with | .inl y10 => (some (((not (leI 0 (-1)), ()), ()))) | .inr y11 => (some (((not (leI 0 (y11.1.1)), ()), ()))))) | false => (some (((false, ()), ())))) >>= fun y12 => (match y12.1.1 with | true => (match leI (↑(List.length (GS.els a0)) : Int) 30 with | true => ((k75_0 (GS.els a0) (↑(List.length (GS.els a0)) : Int) 0) >>= fun y13 => (match y13 with | .inl y14 => (some (((not (leI 0 (-1)), ()), ()))) | .inr y15 => (some (((not (leI 0 (y15.1.1)), ()), ()))))) | false => (some (((false, ()), ())))) | false => (some (((false, ()), ())))))))))))))
  partial_fixpoint
def k75_0 (a0 : List GS) (a1 : Int) (a2 : Int) : Option ((Unit × ((Unit × Unit) × Unit)) ⊕ ((Int × Unit) × ((Unit × Unit) × Unit))) := (match ltI a2 a1 with | true => ((idx a0 a2) >>= fun y0 => ((k75 y0) >>= fun y1 => (match not (y1.1.1) with | true => (some (Sum.inr ((a2, ()), ((), ()), ()))) | false => (k75_0 a0 a1 (w64 (a2 + 1)))))) | false => (some (Sum.inl ((), ((), ()), ()))))
  partial_fixpoint
end
def k38_2 (a0 : List GS) (a1 : Int) (a2 : Int) : Option ((Unit × ((Unit × Unit) × Unit)) ⊕ ((Int × Unit) × ((Unit × Unit) × Unit))) := (match ltI a2 a1 with | true => ((idx a0 a2) >>= fun y0 => ((k75 y0) >>= fun y1 => (match not (y1.1.1) with | true => (some (Sum.inr ((a2, ()), ((), ()), ()))) | false => (k38_2 (nf a0) (nf a1) (w64 (a2 + 1)))))) | false => (some (Sum.inl ((), ((), ()), ()))))
  partial_fixpoint
mutual
def k76 (a0 : List GS) : Option ((Int × Unit) × Unit) := ((k76_0 0 a0 (↑(List.length a0) : Int) 0) >>= fun y0 => (some (((y0.1.1, ()), ()))))
  partial_fixpoint
def k76_0 (a0 : Int) (a1 : List GS) (a2 : Int) (a3 : Int) : Option ((Int × Unit) × Unit) := (match ltI a3 a2 with | true => ((idx a1 a3) >>= fun y0 => (((k76 (GS.thn y0)) >>= fun y1 => (some (y1.1.1))) >>= fun y2 => ((k76 (GS.els y0)) >>= fun y3 => (match eqI (GS.kind y0) 4 with | true => (k76_0 (imax a0 (w64 (imax y2 (y3.1.1) + 1))) a1 a2 (w64 (a3 + 1))) | false => (k76_0 (imax a0 (imax y2 (y3.1.1))) a1 a2 (w64 (a3 + 1))))))) | false => (some (((a0, ()), ()))))
  partial_fixpoint
end
def k38 (a0 : GF) : Option ((Bool × Unit) × Unit) := ((k70 (GF.name a0)) >>= fun y0 => (match y0.1.1 with | true => ((match leI (↑(List.length (GF.lives a0)) : Int) 30 with | true => ((k38_0 (GF.lives a0) (↑(List.length (GF.lives a0)) : Int) 0) >>= fun y1 => (match y1 with | .inl y2 => (some (((not (leI 0 (-1)), ()), ()))) | .inr y3 => (some (((not (leI 0 (y3.1.1)), ()), ()))))) | false => (some (((false, ()), ())))) >>= fun y4 => (match y4.1.1 with | true => ((match leI (↑(List.length (GF.params a0)) : Int) 30 with | true => ((k38_1 (GF.params a0) (↑(List.length (GF.params a0)) : Int) 0) >>= fun y5 => (match y5 with | .inl y6 => (some (((not (leI 0 (-1)), ()), ()))) | .inr y7 => (some (((not (leI 0 (y7.1.1)), ()), ()))))) | false => (some (((false, ()), ())))) >>= fun y8 => (match y8.1.1 with | true => ((k71 (GF.gives a0)) >>= fun y9 => (match y9.1.1 with | true => ((match leI (↑(List.length (GF.outs a0)) : Int) 30 with | true => ((k38_0 (GF.outs a0) (↑(List.length (GF.outs a0)) : Int) 0) >>= fun y10 => (match y10 with | .inl y11 => (some (((not (leI 0 (-1)), ()), ()))) | .inr y12 => (some (((not (leI 0 (y12.1.1)), ()), ()))))) | false => (some (((false, ()), ())))) >>= fun y13 => (match y13.1.1 with | true => (match eqI (Int.tmod (↑(List.length (GF.outs a0)) : Int) 2) 0 with | true => ((match leI (↑(List.length (GF.body a0)) : Int) 30 with | true => ((k38_2 (GF.body a0) (↑(List.length (GF.body a0)) : Int) 0) >>= fun y14 => (match y14 with | .inl y15 => (some (((not (leI 0 (-1)), ()), ()))) | .inr y16 => (some (((not (leI 0 (y16.1.1)), ()), ()))))) | false => (some (((false, ()), ())))) >>= fun y17 => (match y17.1.1 with | true => ((k76 (GF.body a0)) >>= fun y18 => (match leI (y18.1.1) 3 with | true => ((k77 (GF.value a0)) >>= fun y19 => (some (((y19.1.1, ()), ())))) | false => (some (((false, ()), ()))))) | false => (some (((false, ()), ()))))) | false => (some (((false, ()), ())))) | false => (some (((false, ()), ()))))) | false => (some (((false, ()), ()))))) | false => (some (((false, ()), ()))))) | false => (some (((false, ()), ()))))) | false => (some (((false, ()), ())))))
def k22_0 (a0 : List GF) (a1 : Int) (a2 : Int) : Option ((Unit × ((Unit × Unit) × Unit)) ⊕ ((Int × Unit) × ((Unit × Unit) × Unit))) := (match ltI a2 a1 with | true => ((idx a0 a2) >>= fun y0 => ((k38 y0) >>= fun y1 => (match not (y1.1.1) with | true => (some (Sum.inr ((a2, ()), ((), ()), ()))) | false => (k22_0 (nf a0) (nf a1) (w64 (a2 + 1)))))) | false => (some (Sum.inl ((), ((), ()), ()))))
  partial_fixpoint
def k127 (a0 : GE) (a1 : Int) : Option ((Bool × Unit) × Unit) := (((k140 a0) >>= fun y0 => (some (y0.1.1))) >>= fun y1 => ((idx (GE.kids a0) a1) >>= fun y2 => ((k140 y2) >>= fun y3 => (match eqI y1 1 with | true => (match eqI (y3.1.1) 1 with | true => (some (((true, ()), ()))) | false => (match ltI (y3.1.1) (w64 (y1 + a1)) with | true => (some (((ltI 1 y1, ()), ()))) | false => (some (((false, ()), ()))))) | false => (match ltI (y3.1.1) (w64 (y1 + a1)) with | true => (some (((ltI 1 y1, ()), ()))) | false => (some (((false, ()), ()))))))))
mutual
def k102 (a0 : GE) : Option ((Int × Unit) × Unit) := (match ltI (GE.kind a0) 3 with | true => (some (((0, ()), ()))) | false => (match ltI 9 (GE.kind a0) with | true => (some (((0, ()), ()))) | false => ((k102_0 a0 0 (GE.kids a0) (↑(List.length (GE.kids a0)) : Int) 0) >>= fun y0 => (some (((w64 (y0.1.1 + 1), ()), ()))))))
  partial_fixpoint
def k102_0 (a0 : GE) (a1 : Int) (a2 : List GE) (a3 : Int) (a4 : Int) : Option ((Int × Unit) × Unit) := (match ltI a4 a3 with | true => ((idx a2 a4) >>= fun y0 => ((k102 y0) >>= fun y1 => ((match eqI (GE.kind a0) 8 with | true => (match ltI a4 2 with | true => ((k127 a0 a4) >>= fun y2 => (match y2.1.1 with | true => (some (((w64 (y1.1.1 + 1), ()), ()))) | false => (some (((y1.1.1, ()), ()))))) | false => (some (((y1.1.1, ()), ())))) | false => (some (((y1.1.1, ()), ())))) >>= fun y3 => (k102_0 a0 (imax a1 (y3.1.1)) a2 a3 (w64 (a4 + 1)))))) | false => (some (((a1, ()), ()))))
  partial_fixpoint
end
mutual
def k99 (a0 : GT) : Option ((Int × Unit) × Unit) := (match ltI (GT.kind a0) 2 with | true => (some (((0, ()), ()))) | false => (match ltI 4 (GT.kind a0) with | true => (some (((0, ()), ()))) | false => ((k99_0 0 (GT.kids a0) (↑(List.length (GT.kids a0)) : Int) 0) >>= fun y0 => (some (((w64 (1 + y0.1.1), ()), ()))))))
  partial_fixpoint
def k99_0 (a0 : Int) (a1 : List GT) (a2 : Int) (a3 : Int) : Option ((Int × Unit) × Unit) := (match ltI a3 a2 with | true => ((idx a1 a3) >>= fun y0 => ((k99 y0) >>= fun y1 => (k99_0 (imax a0 (y1.1.1)) a1 a2 (w64 (a3 + 1))))) | false => (some (((a0, ()), ()))))
  partial_fixpoint
end
def k66_0 (a0 : Int) (a1 : List GP) (a2 : Int) (a3 : Int) : Option ((Int × Unit) × Unit) := (match ltI a3 a2 with | true => ((idx a1 a3) >>= fun y0 => ((k99 (GP.ty y0)) >>= fun y1 => (k66_0 (imax a0 (y1.1.1)) (nf a1) (nf a2) (w64 (a3 + 1))))) | false => (some (((a0, ()), ()))))
  partial_fixpoint
mutual
def k101 (a0 : GS) : Option ((Int × Unit) × Unit) := (((k102 (GS.place a0)) >>= fun y0 => (some (y0.1.1))) >>= fun y1 => ((k102 (GS.expr a0)) >>= fun y2 => (((k101_0 0 (GS.thn a0) (↑(List.length (GS.thn a0)) : Int) 0) >>= fun y3 => (some (y3.1.1))) >>= fun y4 => (((k101_0 0 (GS.els a0) (↑(List.length (GS.els a0)) : Int) 0) >>= fun y5 => (some (y5.1.1))) >>= fun y6 => (some (((w64 (1 + imax (imax (imax y1 (y2.1.1)) y4) y6), ()), ())))))))
  partial_fixpoint
def k101_0 (a0 : Int) (a1 : List GS) (a2 : Int) (a3 : Int) : Option ((Int × Unit) × Unit) := (match ltI a3 a2 with | true => ((idx a1 a3) >>= fun y0 => ((k101 y0) >>= fun y1 => (k101_0 (imax a0 (y1.1.1)) a1 a2 (w64 (a3 + 1))))) | false => (some (((a0, ()), ()))))
  partial_fixpoint
end
def k66_1 (a0 : Int) (a1 : List GS) (a2 : Int) (a3 : Int) : Option ((Int × Unit) × Unit) := (match ltI a3 a2 with | true => ((idx a1 a3) >>= fun y0 => ((k101 y0) >>= fun y1 => (k66_1 (imax a0 (y1.1.1)) (nf a1) (nf a2) (w64 (a3 + 1))))) | false => (some (((a0, ()), ()))))
  partial_fixpoint
def k66 (a0 : GF) : Option ((Int × Unit) × Unit) := ((k66_0 0 (GF.params a0) (↑(List.length (GF.params a0)) : Int) 0) >>= fun y0 => (((k99 (GF.gives a0)) >>= fun y1 => (some (y1.1.1))) >>= fun y2 => (((k66_1 0 (GF.body a0) (↑(List.length (GF.body a0)) : Int) 0) >>= fun y3 => (some (y3.1.1))) >>= fun y4 => (((k102 (GF.value a0)) >>= fun y5 => (some (y5.1.1))) >>= fun y6 => (some (((imax (imax (imax (y0.1.1) y2) y4) y6, ()), ())))))))
def k36_0 (a0 : Int) (a1 : List GF) (a2 : Int) (a3 : Int) : Option ((Int × Unit) × Unit) := (match ltI a3 a2 with | true => ((idx a1 a3) >>= fun y0 => ((k66 y0) >>= fun y1 => (k36_0 (imax a0 (y1.1.1)) (nf a1) (nf a2) (w64 (a3 + 1))))) | false => (some (((a0, ()), ()))))
  partial_fixpoint
def k36 (a0 : List GF) : Option ((Int × Unit) × Unit) := ((k36_0 0 a0 (↑(List.length a0) : Int) 0) >>= fun y0 => (some (((y0.1.1, ()), ()))))
def k22 (a0 : List GF) : Option ((Bool × Unit) × Unit) := ((k36 a0) >>= fun y0 => (match leI (y0.1.1) 40 with | true => (match leI (↑(List.length a0) : Int) 30 with | true => ((k22_0 a0 (↑(List.length a0) : Int) 0) >>= fun y1 => (match y1 with | .inl y2 => (some (((not (leI 0 (-1)), ()), ()))) | .inr y3 => (some (((not (leI 0 (y3.1.1)), ()), ()))))) | false => (some (((false, ()), ())))) | false => (some (((false, ()), ())))))
def k10 (a0 : List GF) : Option ((GErr × Unit) × Unit) := ((k22 a0) >>= fun y0 => (match not (y0.1.1) with | true => (some (((GErr.code 2, ()), ()))) | false => ((k10_0 a0 (↑(List.length a0) : Int) 0 []) >>= fun y1 => (match y1 with | .inl y2 => ((match eqI (↑(List.length a0) : Int) 0 with | true => (some (((true, ()), ()))) | false => ((idx a0 (w64 ((↑(List.length a0) : Int) - 1))) >>= fun y3 => (some (((not (eqS (GF.name y3) (Array.toList (ByteArray.data { data := #[109, 97, 105, 110] }))), ()), ()))))) >>= fun y4 => (match y4.1.1 with | true => (some (((GErr.fault (↑(List.length a0) : Int) (GErr.code 4), ()), ()))) | false => ((idx a0 (w64 ((↑(List.length a0) : Int) - 1))) >>= fun y5 => (match ltI 0 (w64 ((↑(List.length (GF.lives y5)) : Int) + (↑(List.length (GF.params y5)) : Int))) with | true => (some (((GErr.fault (↑(List.length a0) : Int) (GErr.code 5), ()), ()))) | false => (match not (eqI (GT.kind (GF.gives y5)) 1) with | true => (some (((GErr.fault (↑(List.length a0) : Int) (GErr.code 5), ()), ()))) | false => (some (((GErr.nil, ()), ())))))))) | .inr y6 => (some (((y6.1.1, ()), ())))))))
end Go.Lb.R
end
section
set_option maxRecDepth 100000
namespace Go.Lb.R
open Go.Lb
def k9 (a0 : GErr) (a1 : Int) (a2 : Int) : Option ((Bool × Unit) × Unit) := (match ltI a2 0 with | true => ((kh_code a0) >>= fun y0 => (some (((eqI (y0.1.1) a1, ()), ())))) | false => ((kh_fault a0 a1 a2) >>= fun y1 => (some (((y1.1.1, ()), ())))))
def k3 (a0 : List GF) : Option ((Bool × Unit) × Unit) := ((kh_awake) >>= fun y0 => (match not (y0.1.1) with | true => (some (((false, ()), ()))) | false => ((k7 a0) >>= fun y1 => (match ltI 400 (y1.1.1) with | true => (some (((true, ()), ()))) | false => ((k8 a0) >>= fun y2 => ((k10 a0) >>= fun y3 => ((k9 (y3.1.1) (Prod.fst (y2.1.1)) (Prod.fst (Prod.snd (y2.1.1)))) >>= fun y4 => (some (((y4.1.1, ()), ()))))))))))
def k4 (a0 : GT) : Option ((Bool × Unit) × Unit) := ((kh_awake) >>= fun y0 => (match not (y0.1.1) with | true => (some (((false, ()), ()))) | false => ((k7 [{ name := [], lives := [], params := [], gives := a0, outs := [], body := [], value := GE.mk 0 0 [] false [] }]) >>= fun y1 => (match ltI 400 (y1.1.1) with | true => (some (((true, ()), ()))) | false => (((k11 a0) >>= fun y2 => (some (y2.1.1))) >>= fun y3 => ((k12 a0) >>= fun y4 => (some (((eqB y3 (y4.1.1), ()), ())))))))))
def k5_0 (a0 : List GF) (a1 : Str) : Option ((Str × Unit) × Unit) := ((k13 a0 a1) >>= fun y0 => (match leI 0 (y0.1.1) with | true => ((catS a1 (Array.toList (ByteArray.data { data := #[113] }))) >>= fun y1 => (k5_0 (nf a0) y1)) | false => (some (((a1, ()), ())))))
  partial_fixpoint
def k5 (a0 : List GF) (a1 : Int) : Option ((Bool × Unit) × Unit) := ((kh_awake) >>= fun y0 => (match not (y0.1.1) with | true => (some (((false, ()), ()))) | false => (((k7 a0) >>= fun y1 => (match ltI 400 (y1.1.1) with | true => (some (((true, ()), ()))) | false => (match ltI 29 (↑(List.length a0) : Int) with | true => (some (((true, ()), ()))) | false => ((k10 a0) >>= fun y2 => (some (((not (GErr.isNil (y2.1.1)), ()), ()))))))) >>= fun y3 => (match y3.1.1 with | true => (some (((true, ()), ()))) | false => ((k5_0 a0 (Array.toList (ByteArray.data { data := #[113] }))) >>= fun y4 => (match ltI 30 (↑(List.length (y4.1.1)) : Int) with | true => (some (((true, ()), ()))) | false => ((app 232 [{ name := y4.1.1, lives := [], params := [], gives := GT.mk 1 [] false [], outs := [], body := [], value := GE.mk 1 (w64 a1) [] false [] }] a0) >>= fun y5 => ((k10 y5) >>= fun y6 => (some (((GErr.isNil (y6.1.1), ()), ())))))))))))
end Go.Lb.R
end
section
set_option maxRecDepth 100000
set_option maxHeartbeats 0
namespace Go.Lb.R
open Go.Proofs
open Go.Lb
def conL : List (Nat × Con) := [(130, fieldsCon), (166, indexByteCon), (167, validRuneCon), (41, cloneCon), (80, innerCon), (20, codeCon), (21, faultCon)]
noncomputable def C0 : XC := mkC (lkCon conL) (fun _ => none)
theorem conL_ok (B : Nat) : AllC (X B) C0 conL := ⟨fields_ok B _ _, indexByte_ok B _ _, validRune_ok B _ _, clone_ok B _ _, inner_ok B _ _, code_ok B _ _, fault_ok B _ _, trivial⟩
def awakeCon : Con := pureCon [] .bool fun _ => some true
noncomputable def fi6 : FI := (lkF XFl 6).getD ⟨0, [], .skip, ro0⟩
theorem fi6_eq : C0.fi 6 = some fi6 := by kernel_rfl
theorem awake_run : xfunc C0 (xcall C0 100) 6 fi6 .nil awakeCon ((), ()) = some ((true, ()), ()) := by kernel_rfl
theorem awake_ok (B : Nat) (con : FuncId → Option Con) (lp : Nat → Option (FuncId × List Nat × Con)) : FnOKs (X B) (mkC con lp) 6 awakeCon := fun x y hx => by
  have hx : some ((true, ()), ()) = some y := hx
  injection hx with hx
  subst hx
  exact fn_noloop (C := C0) (hX B _ _) (hF B _ _) (conL_ok B) rfl rfl 100 fi6_eq awake_run
end Go.Lb.R
end
section
namespace Go.Lb.R
open Go.Lb
noncomputable abbrev fX (n : Nat) : FI := (lkF XFl n).getD ⟨0, [], .skip, ro0⟩
noncomputable abbrev bX (n : Nat) (p : List Nat) : Code := match cAt (fX n).body p with | .loop b => b | _ => .skip
structure IsF (n : Nat) : Prop where
  e : lkF XFl n = some (fX n)
structure IsL (f : Nat) (p : List Nat) : Prop where
  hf : IsF f
  hb : cAt (fX f).body p = .loop (bX f p)
theorem cN {X : Cx} {C : XC} : AllC X C [] := trivial
theorem cC {X : Cx} {C : XC} {j : Nat} {v : Con} {r : List (Nat × Con)} (h : FnOKs X C j v) (t : AllC X C r) : AllC X C ((j, v) :: r) := ⟨h, t⟩
theorem lN {X : Cx} {C : XC} : AllLp X C [] := trivial
theorem lC (i : Nat) {B : Nat} {f : Nat} {p : List Nat} (w : IsL f p) {L : Con} {r : List (Nat × FuncId × List Nat × Con)} (h : LpOKs (X B) Ce (fX f).n (bX f p) L) (t : AllLp (X B) Ce r) : AllLp (X B) Ce ((i, f, p, L) :: r) := ⟨⟨_, _, w.hf.e, w.hb, h⟩, t⟩
theorem allC_any {B : Nat} {con : FuncId → Option Con} {lp : Nat → Option (FuncId × List Nat × Con)} : ∀ {l : List (Nat × Con)}, AllC (X B) Ce l → AllC (X B) (mkC con lp) l
  | [], _ => trivial
  | (_, _) :: _, h => ⟨h.1, allC_any h.2⟩
theorem allLp_any {B : Nat} {con : FuncId → Option Con} {lp : Nat → Option (FuncId × List Nat × Con)} : ∀ {l : List (Nat × FuncId × List Nat × Con)}, AllLp (X B) Ce l → AllLp (X B) (mkC con lp) l
  | [], _ => trivial
  | (_, _, _, _) :: _, h => ⟨h.1, allLp_any h.2⟩
theorem gf {B : Nat} {cl : List (Nat × Con)} {ll : List (Nat × FuncId × List Nat × Con)} (hcl : AllC (X B) Ce cl) (hll : AllLp (X B) Ce ll) {f : Nat} (w : IsF f) (ct : Cert) {L : Con} {x : DenF L.f} {y : DenA L.al} (hx : xfunc (mkC (lkCon cl) (lkLp ll)) (xcall (mkC (lkCon cl) (lkLp ll)) 60) f (fX f) ct L x = some y) : FnOK1 (X B) Ce f L x y :=
  gfun (C := mkC (lkCon cl) (lkLp ll)) (hX B _ _) (hF B _ _) (allC_any hcl) (allLp_any hll) rfl rfl 60 w.e hx
theorem gl {B : Nat} {cl : List (Nat × Con)} {ll : List (Nat × FuncId × List Nat × Con)} (hcl : AllC (X B) Ce cl) (hll : AllLp (X B) Ce ll) {f : Nat} {p : List Nat} (w : IsL f p) (ct : Cert) (L : Con) (hL : LpOKs (X B) Ce (fX f).n (bX f p) L) {x : DenF L.f} {y : DenA L.al} (hx : xloop (mkC (lkCon cl) (lkLp ll)) (xcall (mkC (lkCon cl) (lkLp ll)) 60) (fX f).n (fX f).ro f p (bX f p) ct L x = some y) : LoopOK1 (X B) Ce (fX f).n (bX f p) L x y :=
  gloop (C := mkC (lkCon cl) (lkLp ll)) (hX B _ _) (hF B _ _) (allC_any hcl) (allLp_any hll) rfl rfl 60 w.hf.e w.hb hL hx
end Go.Lb.R
end
section
set_option maxRecDepth 1000000
set_option maxHeartbeats 0
namespace Go.Lb.R
open Go.Lb
open Go.Proofs
theorem wF7 : IsF 7 := ⟨by kernel_rfl⟩
theorem wF13 : IsF 13 := ⟨by kernel_rfl⟩
theorem wF15 : IsF 15 := ⟨by kernel_rfl⟩
theorem wF16 : IsF 16 := ⟨by kernel_rfl⟩
theorem wF17 : IsF 17 := ⟨by kernel_rfl⟩
def con7 (k : (List GF) → Option ((Int × Unit) × Unit)) : Con := ⟨⟨[(0, .sl .fn)], [], []⟩, [(.ret, ⟨[(1000, .int .i64)], [], []⟩)], fun x => k x.1.1⟩
abbrev P7 (B : Nat) := FnOKs (X B) Ce 7
abbrev Q7 (B : Nat) := FnOK1 (X B) Ce 7 (con7 (fun _ => none))
def lp700 (k : Int → Int → GF → Option ((Int × Unit) × (GF × Unit))) : Con := ⟨⟨[(3, .int .i64), (5, .ptr 0 0), (6, .int .i64)], [(0, .cells 42 (.n .fn))], []⟩, [(.exit 2, ⟨[(3, .int .i64)], [(0, .cells 42 (.n .fn))], []⟩)], fun x => k x.1.1 x.1.2.2.1 x.2.1⟩
theorem vL700 : IsL 7 [0, 1, 0, 1, 1, 0, 0, 1, 0, 0, 1, 0, 1, 1] := ⟨wF7, by kernel_rfl⟩
abbrev P700 (B : Nat) := LpOKs (X B) Ce (fX 7).n (bX 7 [0, 1, 0, 1, 1, 0, 0, 1, 0, 0, 1, 0, 1, 1])
abbrev Q700 (B : Nat) := LoopOK1 (X B) Ce (fX 7).n (bX 7 [0, 1, 0, 1, 1, 0, 0, 1, 0, 0, 1, 0, 1, 1]) (lp700 (fun _ _ _ => none))
def lp701 (k : Int → Int → GF → Option ((Int × Unit) × (GF × Unit))) : Con := ⟨⟨[(3, .int .i64), (5, .ptr 0 0), (7, .int .i64)], [(0, .cells 42 (.n .fn))], []⟩, [(.exit 4, ⟨[(3, .int .i64)], [(0, .cells 42 (.n .fn))], []⟩)], fun x => k x.1.1 x.1.2.2.1 x.2.1⟩
theorem vL701 : IsL 7 [0, 1, 0, 1, 1, 1, 0, 0, 1, 0, 0, 1, 0, 1, 1] := ⟨wF7, by kernel_rfl⟩
abbrev P701 (B : Nat) := LpOKs (X B) Ce (fX 7).n (bX 7 [0, 1, 0, 1, 1, 1, 0, 0, 1, 0, 0, 1, 0, 1, 1])
abbrev Q701 (B : Nat) := LoopOK1 (X B) Ce (fX 7).n (bX 7 [0, 1, 0, 1, 1, 1, 0, 0, 1, 0, 0, 1, 0, 1, 1]) (lp701 (fun _ _ _ => none))
def lp702 (k : Int → Int → GF → Option ((Int × Unit) × (GF × Unit))) : Con := ⟨⟨[(3, .int .i64), (5, .ptr 0 0), (8, .int .i64)], [(0, .cells 42 (.n .fn))], []⟩, [(.exit 6, ⟨[(3, .int .i64)], [(0, .cells 42 (.n .fn))], []⟩)], fun x => k x.1.1 x.1.2.2.1 x.2.1⟩
theorem vL702 : IsL 7 [0, 1, 1, 1, 1, 1, 0, 0, 1, 0, 0, 1, 0, 1, 1] := ⟨wF7, by kernel_rfl⟩
abbrev P702 (B : Nat) := LpOKs (X B) Ce (fX 7).n (bX 7 [0, 1, 1, 1, 1, 1, 0, 0, 1, 0, 0, 1, 0, 1, 1])
abbrev Q702 (B : Nat) := LoopOK1 (X B) Ce (fX 7).n (bX 7 [0, 1, 1, 1, 1, 1, 0, 0, 1, 0, 0, 1, 0, 1, 1]) (lp702 (fun _ _ _ => none))
def lp703 (k : (List GF) → Int → Int → Option ((Int × Unit) × Unit)) : Con := ⟨⟨[(0, .sl .fn), (3, .int .i64), (4, .int .i64)], [], []⟩, [(.exit 0, ⟨[(3, .int .i64)], [], []⟩)], fun x => k x.1.1 x.1.2.1 x.1.2.2.1⟩
theorem vL703 : IsL 7 [0, 1, 0, 1, 1] := ⟨wF7, by kernel_rfl⟩
abbrev P703 (B : Nat) := LpOKs (X B) Ce (fX 7).n (bX 7 [0, 1, 0, 1, 1])
abbrev Q703 (B : Nat) := LoopOK1 (X B) Ce (fX 7).n (bX 7 [0, 1, 0, 1, 1]) (lp703 (fun _ _ _ => none))
def con13 (k : (List GF) → Str → Option ((Int × Unit) × Unit)) : Con := ⟨⟨[(0, .sl .fn), (1, .str)], [], []⟩, [(.ret, ⟨[(1000, .int .i64)], [], []⟩)], fun x => k x.1.1 x.1.2.1⟩
abbrev P13 (B : Nat) := FnOKs (X B) Ce 13
abbrev Q13 (B : Nat) := FnOK1 (X B) Ce 13 (con13 (fun _ _ => none))
def lp1300 (k : (List GF) → Str → Int → Option ((Unit × Unit) ⊕ ((Int × Unit) × Unit))) : Con := ⟨⟨[(0, .sl .fn), (1, .str), (5, .int .i64)], [], []⟩, [(.exit 0, ⟨[], [], []⟩), (.ret, ⟨[(4, .int .i64)], [], []⟩)], fun x => k x.1.1 x.1.2.1 x.1.2.2.1⟩
theorem vL1300 : IsL 13 [0, 1, 0, 1] := ⟨wF13, by kernel_rfl⟩
abbrev P1300 (B : Nat) := LpOKs (X B) Ce (fX 13).n (bX 13 [0, 1, 0, 1])
abbrev Q1300 (B : Nat) := LoopOK1 (X B) Ce (fX 13).n (bX 13 [0, 1, 0, 1]) (lp1300 (fun _ _ _ => none))
def con15 (k : GT → Option ((Int × Unit) × Unit)) : Con := ⟨⟨[(0, .n .ty)], [], []⟩, [(.ret, ⟨[(1000, .int .i64)], [], []⟩)], fun x => k x.1.1⟩
abbrev P15 (B : Nat) := FnOKs (X B) Ce 15
abbrev Q15 (B : Nat) := FnOK1 (X B) Ce 15 (con15 (fun _ => none))
def lp1500 (k : GT → Int → Int → Option ((Int × Unit) × Unit)) : Con := ⟨⟨[(1, .ro (.n .ty)), (3, .int .i64), (4, .int .i64)], [], []⟩, [(.exit 0, ⟨[(3, .int .i64)], [], []⟩)], fun x => k x.1.1 x.1.2.1 x.1.2.2.1⟩
theorem vL1500 : IsL 15 [0, 1, 0, 1, 1] := ⟨wF15, by kernel_rfl⟩
abbrev P1500 (B : Nat) := LpOKs (X B) Ce (fX 15).n (bX 15 [0, 1, 0, 1, 1])
abbrev Q1500 (B : Nat) := LoopOK1 (X B) Ce (fX 15).n (bX 15 [0, 1, 0, 1, 1]) (lp1500 (fun _ _ _ => none))
def con16 (k : (List GS) → Option ((Int × Unit) × Unit)) : Con := ⟨⟨[(0, .sl .st)], [], []⟩, [(.ret, ⟨[(1000, .int .i64)], [], []⟩)], fun x => k x.1.1⟩
abbrev P16 (B : Nat) := FnOKs (X B) Ce 16
abbrev Q16 (B : Nat) := FnOK1 (X B) Ce 16 (con16 (fun _ => none))
def lp1600 (k : (List GS) → Int → Int → Option ((Int × Unit) × Unit)) : Con := ⟨⟨[(0, .sl .st), (3, .int .i64), (4, .int .i64)], [], []⟩, [(.exit 0, ⟨[(3, .int .i64)], [], []⟩)], fun x => k x.1.1 x.1.2.1 x.1.2.2.1⟩
theorem vL1600 : IsL 16 [0, 1, 0, 1, 1] := ⟨wF16, by kernel_rfl⟩
abbrev P1600 (B : Nat) := LpOKs (X B) Ce (fX 16).n (bX 16 [0, 1, 0, 1, 1])
abbrev Q1600 (B : Nat) := LoopOK1 (X B) Ce (fX 16).n (bX 16 [0, 1, 0, 1, 1]) (lp1600 (fun _ _ _ => none))
def con17 (k : GE → Option ((Int × Unit) × Unit)) : Con := ⟨⟨[(0, .n .ex)], [], []⟩, [(.ret, ⟨[(1000, .int .i64)], [], []⟩)], fun x => k x.1.1⟩
abbrev P17 (B : Nat) := FnOKs (X B) Ce 17
abbrev Q17 (B : Nat) := FnOK1 (X B) Ce 17 (con17 (fun _ => none))
def lp1700 (k : GE → Int → Int → Option ((Int × Unit) × Unit)) : Con := ⟨⟨[(1, .ro (.n .ex)), (3, .int .i64), (4, .int .i64)], [], []⟩, [(.exit 0, ⟨[(3, .int .i64)], [], []⟩)], fun x => k x.1.1 x.1.2.1 x.1.2.2.1⟩
theorem vL1700 : IsL 17 [0, 1, 0, 1, 1] := ⟨wF17, by kernel_rfl⟩
abbrev P1700 (B : Nat) := LpOKs (X B) Ce (fX 17).n (bX 17 [0, 1, 0, 1, 1])
abbrev Q1700 (B : Nat) := LoopOK1 (X B) Ce (fX 17).n (bX 17 [0, 1, 0, 1, 1]) (lp1700 (fun _ _ _ => none))
theorem h_k15 (B : Nat) : (∀ a0 r, k15 a0 = some r → Q15 B ((a0, ()), ()) r) ∧ (∀ a0 a1 a2 r, k15_0 a0 a1 a2 = some r → Q1500 B ((a0, (a1, (a2, ()))), ()) r) := by
  refine k15.mutual_partial_correctness _ _ ?_ ?_
  · intro gk15_0 mk15_0 a0 r h
    have Hk15_0 : P1500 B (lp1500 gk15_0) := fun _ _ hx => mk15_0 _ _ _ _ hx
    exact gf cN (lC 1500 vL1500 Hk15_0 lN) wF15 (.seq .nil (.seq .nil (.seq (.seq .nil (.sub (.loop 1500))) .nil))) (krw h (by kernel_rfl))
  · intro gk15 gk15_0 mk15 mk15_0 a0 a1 a2 r h
    have Hk15 : P15 B (con15 gk15) := fun _ _ hx => mk15 _ _ hx
    have Hk15_0 : P1500 B (lp1500 gk15_0) := fun _ _ hx => mk15_0 _ _ _ _ hx
    have HL := Hk15_0
    exact gl (cC Hk15 cN) (lC 1500 vL1500 Hk15_0 lN) vL1500 .nil (lp1500 gk15_0) HL (krw h (by kernel_rfl))
theorem ok_k15 (B : Nat) : P15 B (con15 k15) := fun _ _ hx => (h_k15 B).1 _ _ hx
theorem h_k17 (B : Nat) : (∀ a0 r, k17 a0 = some r → Q17 B ((a0, ()), ()) r) ∧ (∀ a0 a1 a2 r, k17_0 a0 a1 a2 = some r → Q1700 B ((a0, (a1, (a2, ()))), ()) r) := by
  refine k17.mutual_partial_correctness _ _ ?_ ?_
  · intro gk17_0 mk17_0 a0 r h
    have Hk17_0 : P1700 B (lp1700 gk17_0) := fun _ _ hx => mk17_0 _ _ _ _ hx
    exact gf cN (lC 1700 vL1700 Hk17_0 lN) wF17 (.seq .nil (.seq .nil (.seq (.seq .nil (.sub (.loop 1700))) .nil))) (krw h (by kernel_rfl))
  · intro gk17 gk17_0 mk17 mk17_0 a0 a1 a2 r h
    have Hk17 : P17 B (con17 gk17) := fun _ _ hx => mk17 _ _ hx
    have Hk17_0 : P1700 B (lp1700 gk17_0) := fun _ _ hx => mk17_0 _ _ _ _ hx
    have HL := Hk17_0
    exact gl (cC Hk17 cN) (lC 1700 vL1700 Hk17_0 lN) vL1700 .nil (lp1700 gk17_0) HL (krw h (by kernel_rfl))
theorem ok_k17 (B : Nat) : P17 B (con17 k17) := fun _ _ hx => (h_k17 B).1 _ _ hx
theorem h_k16 (B : Nat) : (∀ a0 r, k16 a0 = some r → Q16 B ((a0, ()), ()) r) ∧ (∀ a0 a1 a2 r, k16_0 a0 a1 a2 = some r → Q1600 B ((a0, (a1, (a2, ()))), ()) r) := by
  refine k16.mutual_partial_correctness _ _ ?_ ?_
  · intro gk16_0 mk16_0 a0 r h
    have Hk16_0 : P1600 B (lp1600 gk16_0) := fun _ _ hx => mk16_0 _ _ _ _ hx
    exact gf cN (lC 1600 vL1600 Hk16_0 lN) wF16 (.seq .nil (.seq .nil (.seq (.seq .nil (.sub (.loop 1600))) .nil))) (krw h (by kernel_rfl))
  · intro gk16 gk16_0 mk16 mk16_0 a0 a1 a2 r h
    have Hk16 : P16 B (con16 gk16) := fun _ _ hx => mk16 _ _ hx
    have Hk16_0 : P1600 B (lp1600 gk16_0) := fun _ _ hx => mk16_0 _ _ _ _ hx
    have HL := Hk16_0
    exact gl (cC Hk16 (cC (ok_k17 B) cN)) (lC 1600 vL1600 Hk16_0 lN) vL1600 (.seq (.seq (.join [] [] [(.normal, ⟨[(12, .bool)], [], []⟩)] .nil) .nil) .nil) (lp1600 gk16_0) HL (krw h (by kernel_rfl))
theorem ok_k16 (B : Nat) : P16 B (con16 k16) := fun _ _ hx => (h_k16 B).1 _ _ hx
theorem h_k7_0 (B : Nat) : (∀ a0 a1 a2 r, k7_0 a0 a1 a2 = some r → Q700 B ((a0, ((), (a1, ()))), (a2, ())) r) := by
  refine k7_0.partial_correctness _ ?_
  · intro gk7_0 mk7_0 a0 a1 a2 r h
    have Hk7_0 : P700 B (lp700 gk7_0) := fun _ _ hx => mk7_0 _ _ _ _ hx
    have HL := Hk7_0
    exact gl (cC (ok_k15 B) cN) (lC 700 vL700 Hk7_0 lN) vL700 (.seq (.seq (.join [] [] [(.normal, ⟨[(58, .bool)], [], []⟩)] .nil) .nil) .nil) (lp700 gk7_0) HL (krw h (by kernel_rfl))
theorem ok_k7_0 (B : Nat) : P700 B (lp700 k7_0) := fun _ _ hx => (h_k7_0 B) _ _ _ _ hx
theorem h_k7_1 (B : Nat) : (∀ a0 a1 a2 r, k7_1 a0 a1 a2 = some r → Q701 B ((a0, ((), (a1, ()))), (a2, ())) r) := by
  refine k7_1.partial_correctness _ ?_
  · intro gk7_1 mk7_1 a0 a1 a2 r h
    have Hk7_1 : P701 B (lp701 gk7_1) := fun _ _ hx => mk7_1 _ _ _ _ hx
    have HL := Hk7_1
    exact gl cN (lC 701 vL701 Hk7_1 lN) vL701 .nil (lp701 gk7_1) HL (krw h (by kernel_rfl))
theorem ok_k7_1 (B : Nat) : P701 B (lp701 k7_1) := fun _ _ hx => (h_k7_1 B) _ _ _ _ hx
theorem h_k7_2 (B : Nat) : (∀ a0 a1 a2 r, k7_2 a0 a1 a2 = some r → Q702 B ((a0, ((), (a1, ()))), (a2, ())) r) := by
  refine k7_2.partial_correctness _ ?_
  · intro gk7_2 mk7_2 a0 a1 a2 r h
    have Hk7_2 : P702 B (lp702 gk7_2) := fun _ _ hx => mk7_2 _ _ _ _ hx
    have HL := Hk7_2
    exact gl cN (lC 702 vL702 Hk7_2 lN) vL702 .nil (lp702 gk7_2) HL (krw h (by kernel_rfl))
theorem ok_k7_2 (B : Nat) : P702 B (lp702 k7_2) := fun _ _ hx => (h_k7_2 B) _ _ _ _ hx
theorem h_k7_3 (B : Nat) : (∀ a0 a1 a2 r, k7_3 a0 a1 a2 = some r → Q703 B ((a0, (a1, (a2, ()))), ()) r) := by
  refine k7_3.partial_correctness _ ?_
  · intro gk7_3 mk7_3 a0 a1 a2 r h
    have Hk7_3 : P703 B (lp703 gk7_3) := fun _ _ hx => mk7_3 _ _ _ _ hx
    have HL := Hk7_3
    exact gl (cC (ok_k15 B) (cC (ok_k16 B) (cC (ok_k17 B) cN))) (lC 700 vL700 (ok_k7_0 B) (lC 701 vL701 (ok_k7_1 B) (lC 702 vL702 (ok_k7_2 B) (lC 703 vL703 Hk7_3 lN)))) vL703 (.seq (.seq (.join [] [] [(.normal, ⟨[(16, .bool)], [], []⟩)] .nil) .nil) (.seq (.sub (.seq .nil (.seq .nil (.seq (.seq .nil (.sub (.loop 700))) (.seq (.seq .nil (.sub (.loop 701))) (.seq .nil (.sub (.loop 702)))))))) .nil)) (lp703 gk7_3) HL (krw h (by kernel_rfl))
theorem ok_k7_3 (B : Nat) : P703 B (lp703 k7_3) := fun _ _ hx => (h_k7_3 B) _ _ _ _ hx
theorem ok_k7 (B : Nat) : P7 B (con7 k7) := by
  have h : ∀ a0 r, k7 a0 = some r → Q7 B ((a0, ()), ()) r := fun a0 r h => gf cN (lC 703 vL703 (ok_k7_3 B) lN) wF7 (.seq .nil (.seq .nil (.seq (.seq .nil (.sub (.loop 703))) .nil))) (krw h (by kernel_rfl))
  exact fun _ _ hx => h _ _ hx
theorem h_k13_0 (B : Nat) : (∀ a0 a1 a2 r, k13_0 a0 a1 a2 = some r → Q1300 B ((a0, (a1, (a2, ()))), ()) r) := by
  refine k13_0.partial_correctness _ ?_
  · intro gk13_0 mk13_0 a0 a1 a2 r h
    have Hk13_0 : P1300 B (lp1300 gk13_0) := fun _ _ hx => mk13_0 _ _ _ _ hx
    have HL := Hk13_0
    exact gl cN (lC 1300 vL1300 Hk13_0 lN) vL1300 .nil (lp1300 gk13_0) HL (krw h (by kernel_rfl))
theorem ok_k13_0 (B : Nat) : P1300 B (lp1300 k13_0) := fun _ _ hx => (h_k13_0 B) _ _ _ _ hx
theorem ok_k13 (B : Nat) : P13 B (con13 k13) := by
  have h : ∀ a0 a1 r, k13 a0 a1 = some r → Q13 B ((a0, (a1, ())), ()) r := fun a0 a1 r h => gf cN (lC 1300 vL1300 (ok_k13_0 B) lN) wF13 (.seq .nil (.seq (.seq .nil (.sub (.loop 1300))) .nil)) (krw h (by kernel_rfl))
  exact fun _ _ hx => h _ _ _ hx
end Go.Lb.R
end
section
set_option maxRecDepth 1000000
set_option maxHeartbeats 0
namespace Go.Lb.R
open Go.Lb
open Go.Proofs
theorem wF10 : IsF 10 := ⟨by kernel_rfl⟩
theorem wF11 : IsF 11 := ⟨by kernel_rfl⟩
theorem wF22 : IsF 22 := ⟨by kernel_rfl⟩
theorem wF23 : IsF 23 := ⟨by kernel_rfl⟩
theorem wF26 : IsF 26 := ⟨by kernel_rfl⟩
theorem wF36 : IsF 36 := ⟨by kernel_rfl⟩
theorem wF38 : IsF 38 := ⟨by kernel_rfl⟩
theorem wF40 : IsF 40 := ⟨by kernel_rfl⟩
theorem wF42 : IsF 42 := ⟨by kernel_rfl⟩
theorem wF43 : IsF 43 := ⟨by kernel_rfl⟩
theorem wF46 : IsF 46 := ⟨by kernel_rfl⟩
theorem wF47 : IsF 47 := ⟨by kernel_rfl⟩
theorem wF48 : IsF 48 := ⟨by kernel_rfl⟩
theorem wF65 : IsF 65 := ⟨by kernel_rfl⟩
theorem wF66 : IsF 66 := ⟨by kernel_rfl⟩
theorem wF70 : IsF 70 := ⟨by kernel_rfl⟩
theorem wF71 : IsF 71 := ⟨by kernel_rfl⟩
theorem wF75 : IsF 75 := ⟨by kernel_rfl⟩
theorem wF76 : IsF 76 := ⟨by kernel_rfl⟩
theorem wF77 : IsF 77 := ⟨by kernel_rfl⟩
theorem wF78 : IsF 78 := ⟨by kernel_rfl⟩
theorem wF79 : IsF 79 := ⟨by kernel_rfl⟩
theorem wF97 : IsF 97 := ⟨by kernel_rfl⟩
theorem wF99 : IsF 99 := ⟨by kernel_rfl⟩
theorem wF100 : IsF 100 := ⟨by kernel_rfl⟩
theorem wF101 : IsF 101 := ⟨by kernel_rfl⟩
theorem wF102 : IsF 102 := ⟨by kernel_rfl⟩
theorem wF103 : IsF 103 := ⟨by kernel_rfl⟩
theorem wF104 : IsF 104 := ⟨by kernel_rfl⟩
theorem wF105 : IsF 105 := ⟨by kernel_rfl⟩
theorem wF112 : IsF 112 := ⟨by kernel_rfl⟩
theorem wF113 : IsF 113 := ⟨by kernel_rfl⟩
theorem wF126 : IsF 126 := ⟨by kernel_rfl⟩
theorem wF127 : IsF 127 := ⟨by kernel_rfl⟩
theorem wF128 : IsF 128 := ⟨by kernel_rfl⟩
theorem wF129 : IsF 129 := ⟨by kernel_rfl⟩
theorem wF132 : IsF 132 := ⟨by kernel_rfl⟩
theorem wF133 : IsF 133 := ⟨by kernel_rfl⟩
theorem wF137 : IsF 137 := ⟨by kernel_rfl⟩
theorem wF138 : IsF 138 := ⟨by kernel_rfl⟩
theorem wF140 : IsF 140 := ⟨by kernel_rfl⟩
theorem wF147 : IsF 147 := ⟨by kernel_rfl⟩
theorem wF149 : IsF 149 := ⟨by kernel_rfl⟩
theorem wF151 : IsF 151 := ⟨by kernel_rfl⟩
theorem wF152 : IsF 152 := ⟨by kernel_rfl⟩
theorem wF153 : IsF 153 := ⟨by kernel_rfl⟩
theorem wF154 : IsF 154 := ⟨by kernel_rfl⟩
theorem wF157 : IsF 157 := ⟨by kernel_rfl⟩
theorem wF160 : IsF 160 := ⟨by kernel_rfl⟩
theorem wF162 : IsF 162 := ⟨by kernel_rfl⟩
def con10 (k : (List GF) → Option ((GErr × Unit) × Unit)) : Con := ⟨⟨[(0, .sl .fn)], [], []⟩, [(.ret, ⟨[(1000, .err)], [], []⟩)], fun x => k x.1.1⟩
abbrev P10 (B : Nat) := FnOKs (X B) Ce 10
abbrev Q10 (B : Nat) := FnOK1 (X B) Ce 10 (con10 (fun _ => none))
def lp1000 (k : (List GF) → Int → Int → (Mp Int) → Option ((Unit × ((Mp Int) × Unit)) ⊕ ((GErr × Unit) × ((Mp Int) × Unit)))) : Con := ⟨⟨[(3, .map 0), (13, .sl .fn), (14, .int .i64), (15, .int .i64)], [(0, .map .str .int)], []⟩, [(.exit 0, ⟨[], [(0, .map .str .int)], []⟩), (.ret, ⟨[(2, .err)], [(0, .map .str .int)], []⟩)], fun x => k x.1.2.1 x.1.2.2.1 x.1.2.2.2.1 x.2.1⟩
theorem vL1000 : IsL 10 [0, 1, 0, 1, 1, 1] := ⟨wF10, by kernel_rfl⟩
abbrev P1000 (B : Nat) := LpOKs (X B) Ce (fX 10).n (bX 10 [0, 1, 0, 1, 1, 1])
abbrev Q1000 (B : Nat) := LoopOK1 (X B) Ce (fX 10).n (bX 10 [0, 1, 0, 1, 1, 1]) (lp1000 (fun _ _ _ _ => none))
def con11 (k : GT → Option ((Bool × Unit) × Unit)) : Con := ⟨⟨[(0, .n .ty)], [], []⟩, [(.ret, ⟨[(1000, .bool)], [], []⟩)], fun x => k x.1.1⟩
abbrev P11 (B : Nat) := FnOKs (X B) Ce 11
abbrev Q11 (B : Nat) := FnOK1 (X B) Ce 11 (con11 (fun _ => none))
def lp1100 (k : (List GT) → Int → Int → Bool → Option ((Unit × (Bool × Unit)) ⊕ ((Int × Unit) × (Bool × Unit)))) : Con := ⟨⟨[(0, .sl .ty), (1, .fn 25 [] [.ptr 0 0]), (7, .int .i64), (8, .int .i64)], [(0, .cells 4 (.bool))], []⟩, [(.exit 0, ⟨[], [(0, .cells 4 (.bool))], []⟩), (.ret, ⟨[(4, .int .i64)], [(0, .cells 4 (.bool))], []⟩)], fun x => k x.1.1 x.1.2.2.1 x.1.2.2.2.1 x.2.1⟩
theorem vL1100 : IsL 48 [0, 1, 0, 1] := ⟨wF48, by kernel_rfl⟩
abbrev P1100 (B : Nat) := LpOKs (X B) Ce (fX 48).n (bX 48 [0, 1, 0, 1])
abbrev Q1100 (B : Nat) := LoopOK1 (X B) Ce (fX 48).n (bX 48 [0, 1, 0, 1]) (lp1100 (fun _ _ _ _ => none))
def con22 (k : (List GF) → Option ((Bool × Unit) × Unit)) : Con := ⟨⟨[(0, .sl .fn)], [], []⟩, [(.ret, ⟨[(1000, .bool)], [], []⟩)], fun x => k x.1.1⟩
abbrev P22 (B : Nat) := FnOKs (X B) Ce 22
abbrev Q22 (B : Nat) := FnOK1 (X B) Ce 22 (con22 (fun _ => none))
def lp2200 (k : (List GF) → Int → Int → Option ((Unit × ((Unit × Unit) × Unit)) ⊕ ((Int × Unit) × ((Unit × Unit) × Unit)))) : Con := ⟨⟨[(0, .sl .fn), (1, .fn 68 [] [.ptr 0 0]), (7, .int .i64), (8, .int .i64)], [(0, .cells 66 (.fn 38 [] []))], []⟩, [(.exit 0, ⟨[], [(0, .cells 66 (.fn 38 [] []))], []⟩), (.ret, ⟨[(4, .int .i64)], [(0, .cells 66 (.fn 38 [] []))], []⟩)], fun x => k x.1.1 x.1.2.2.1 x.1.2.2.2.1⟩
theorem vL2200 : IsL 103 [0, 1, 0, 1] := ⟨wF103, by kernel_rfl⟩
abbrev P2200 (B : Nat) := LpOKs (X B) Ce (fX 103).n (bX 103 [0, 1, 0, 1])
abbrev Q2200 (B : Nat) := LoopOK1 (X B) Ce (fX 103).n (bX 103 [0, 1, 0, 1]) (lp2200 (fun _ _ _ => none))
def con23 (k : GF → (Mp Int) → Option ((GErr × Unit) × ((Mp Int) × Unit))) : Con := ⟨⟨[(0, .n .fn), (1, .map 0)], [(0, .map .str .int)], []⟩, [(.ret, ⟨[(1000, .err)], [(0, .map .str .int)], []⟩)], fun x => k x.1.1 x.2.1⟩
abbrev P23 (B : Nat) := FnOKs (X B) Ce 23
abbrev Q23 (B : Nat) := FnOK1 (X B) Ce 23 (con23 (fun _ _ => none))
def lp2300 (k : (List GT) → (List Str) → (List GP) → Int → Int → (Mp Bool) → Option (((List GT) × ((List Str) × Unit)) × ((Mp Bool) × Unit))) : Con := ⟨⟨[(5, .map 0), (6, .own .ty 1), (7, .own .str 2), (22, .sl .par), (23, .int .i64), (24, .int .i64)], [(0, .map .str .bool)], [(1, 4, 34), (2, 1, 9)]⟩, [(.exit 0, ⟨[(6, .own .ty 1), (7, .own .str 2)], [(0, .map .str .bool)], [(1, 4, 34), (2, 1, 9)]⟩)], fun x => k x.1.2.1 x.1.2.2.1 x.1.2.2.2.1 x.1.2.2.2.2.1 x.1.2.2.2.2.2.1 x.2.1⟩
theorem vL2300 : IsL 23 [0, 1, 0, 1, 1, 1, 1] := ⟨wF23, by kernel_rfl⟩
abbrev P2300 (B : Nat) := LpOKs (X B) Ce (fX 23).n (bX 23 [0, 1, 0, 1, 1, 1, 1])
abbrev Q2300 (B : Nat) := LoopOK1 (X B) Ce (fX 23).n (bX 23 [0, 1, 0, 1, 1, 1, 1]) (lp2300 (fun _ _ _ _ _ _ => none))
def lp2301 (k : (List Str) → Bool → (List GT) → Int → Int → Option (((List Str) × (Bool × Unit)) × Unit)) : Con := ⟨⟨[(11, .own .str 0), (12, .bool), (46, .own .ty 1), (47, .int .i64), (48, .int .i64)], [], [(0, 1, 9), (1, 4, 34)]⟩, [(.exit 2, ⟨[(11, .own .str 0), (12, .bool)], [], [(0, 1, 9)]⟩)], fun x => k x.1.1 x.1.2.1 x.1.2.2.1 x.1.2.2.2.1 x.1.2.2.2.2.1⟩
theorem vL2301 : IsL 23 [0, 1, 0, 1, 1, 1, 1, 1, 1, 1, 1] := ⟨wF23, by kernel_rfl⟩
abbrev P2301 (B : Nat) := LpOKs (X B) Ce (fX 23).n (bX 23 [0, 1, 0, 1, 1, 1, 1, 1, 1, 1, 1])
abbrev Q2301 (B : Nat) := LoopOK1 (X B) Ce (fX 23).n (bX 23 [0, 1, 0, 1, 1, 1, 1, 1, 1, 1, 1]) (lp2301 (fun _ _ _ _ _ => none))
def lp2302 (k : (List Str) → Int → Int → GF → Option ((Unit × ((Unit × (Unit × Unit)) × (GF × Unit))) ⊕ ((Int × Unit) × ((Unit × (Unit × Unit)) × (GF × Unit))))) : Con := ⟨⟨[(0, .own .str 2), (1, .fn 45 [] [.ptr 0 0]), (7, .int .i64), (8, .int .i64)], [(0, .cells 79 (.fn 39 [] [.ptr 1 0])), (1, .cells 42 (.n .fn))], [(2, 1, 9)]⟩, [(.exit 0, ⟨[], [(0, .cells 79 (.fn 39 [] [.ptr 1 0])), (1, .cells 42 (.n .fn))], []⟩), (.ret, ⟨[(4, .int .i64)], [(0, .cells 79 (.fn 39 [] [.ptr 1 0])), (1, .cells 42 (.n .fn))], []⟩)], fun x => k x.1.1 x.1.2.2.1 x.1.2.2.2.1 x.2.2.1⟩
theorem vL2302 : IsL 79 [0, 1, 0, 1] := ⟨wF79, by kernel_rfl⟩
abbrev P2302 (B : Nat) := LpOKs (X B) Ce (fX 79).n (bX 79 [0, 1, 0, 1])
abbrev Q2302 (B : Nat) := LoopOK1 (X B) Ce (fX 79).n (bX 79 [0, 1, 0, 1]) (lp2302 (fun _ _ _ _ => none))
def con26 (k : GT → Option ((Bool × Unit) × Unit)) : Con := ⟨⟨[(0, .n .ty)], [], []⟩, [(.ret, ⟨[(1000, .bool)], [], []⟩)], fun x => k x.1.1⟩
abbrev P26 (B : Nat) := FnOKs (X B) Ce 26
abbrev Q26 (B : Nat) := FnOK1 (X B) Ce 26 (con26 (fun _ => none))
def lp2600 (k : (List GT) → Int → Int → Option ((Unit × Unit) ⊕ ((Int × Unit) × Unit))) : Con := ⟨⟨[(0, .sl .ty), (1, .fn 26 [] []), (7, .int .i64), (8, .int .i64)], [], []⟩, [(.exit 0, ⟨[], [], []⟩), (.ret, ⟨[(4, .int .i64)], [], []⟩)], fun x => k x.1.1 x.1.2.2.1 x.1.2.2.2.1⟩
theorem vL2600 : IsL 48 [0, 1, 0, 1] := ⟨wF48, by kernel_rfl⟩
abbrev P2600 (B : Nat) := LpOKs (X B) Ce (fX 48).n (bX 48 [0, 1, 0, 1])
abbrev Q2600 (B : Nat) := LoopOK1 (X B) Ce (fX 48).n (bX 48 [0, 1, 0, 1]) (lp2600 (fun _ _ _ => none))
def con36 (k : (List GF) → Option ((Int × Unit) × Unit)) : Con := ⟨⟨[(0, .sl .fn)], [], []⟩, [(.ret, ⟨[(1000, .int .i64)], [], []⟩)], fun x => k x.1.1⟩
abbrev P36 (B : Nat) := FnOKs (X B) Ce 36
abbrev Q36 (B : Nat) := FnOK1 (X B) Ce 36 (con36 (fun _ => none))
def lp3600 (k : Int → (List GF) → Int → Int → Option ((Int × Unit) × Unit)) : Con := ⟨⟨[(1, .fn 66 [] []), (5, .int .i64), (8, .sl .fn), (9, .int .i64), (10, .int .i64)], [], []⟩, [(.exit 0, ⟨[(5, .int .i64)], [], []⟩)], fun x => k x.1.2.1 x.1.2.2.1 x.1.2.2.2.1 x.1.2.2.2.2.1⟩
theorem vL3600 : IsL 65 [0, 1, 0, 1, 1] := ⟨wF65, by kernel_rfl⟩
abbrev P3600 (B : Nat) := LpOKs (X B) Ce (fX 65).n (bX 65 [0, 1, 0, 1, 1])
abbrev Q3600 (B : Nat) := LoopOK1 (X B) Ce (fX 65).n (bX 65 [0, 1, 0, 1, 1]) (lp3600 (fun _ _ _ _ => none))
def con38 (k : GF → Option ((Bool × Unit) × Unit)) : Con := ⟨⟨[(0, .n .fn)], [], []⟩, [(.ret, ⟨[(1000, .bool)], [], []⟩)], fun x => k x.1.1⟩
abbrev P38 (B : Nat) := FnOKs (X B) Ce 38
abbrev Q38 (B : Nat) := FnOK1 (X B) Ce 38 (con38 (fun _ => none))
def lp3800 (k : (List Str) → Int → Int → Option ((Unit × ((Unit × Unit) × Unit)) ⊕ ((Int × Unit) × ((Unit × Unit) × Unit)))) : Con := ⟨⟨[(0, .sl .str), (1, .fn 107 [] [.ptr 0 0]), (7, .int .i64), (8, .int .i64)], [(0, .cells 79 (.fn 70 [] []))], []⟩, [(.exit 0, ⟨[], [(0, .cells 79 (.fn 70 [] []))], []⟩), (.ret, ⟨[(4, .int .i64)], [(0, .cells 79 (.fn 70 [] []))], []⟩)], fun x => k x.1.1 x.1.2.2.1 x.1.2.2.2.1⟩
theorem vL3800 : IsL 79 [0, 1, 0, 1] := ⟨wF79, by kernel_rfl⟩
abbrev P3800 (B : Nat) := LpOKs (X B) Ce (fX 79).n (bX 79 [0, 1, 0, 1])
abbrev Q3800 (B : Nat) := LoopOK1 (X B) Ce (fX 79).n (bX 79 [0, 1, 0, 1]) (lp3800 (fun _ _ _ => none))
def lp3801 (k : (List GP) → Int → Int → Option ((Unit × ((Unit × Unit) × Unit)) ⊕ ((Int × Unit) × ((Unit × Unit) × Unit)))) : Con := ⟨⟨[(0, .sl .par), (1, .fn 109 [] [.ptr 0 0]), (7, .int .i64), (8, .int .i64)], [(0, .cells 114 (.fn 69 [] []))], []⟩, [(.exit 0, ⟨[], [(0, .cells 114 (.fn 69 [] []))], []⟩), (.ret, ⟨[(4, .int .i64)], [(0, .cells 114 (.fn 69 [] []))], []⟩)], fun x => k x.1.1 x.1.2.2.1 x.1.2.2.2.1⟩
theorem vL3801 : IsL 132 [0, 1, 0, 1] := ⟨wF132, by kernel_rfl⟩
abbrev P3801 (B : Nat) := LpOKs (X B) Ce (fX 132).n (bX 132 [0, 1, 0, 1])
abbrev Q3801 (B : Nat) := LoopOK1 (X B) Ce (fX 132).n (bX 132 [0, 1, 0, 1]) (lp3801 (fun _ _ _ => none))
def lp3802 (k : (List GS) → Int → Int → Option ((Unit × ((Unit × Unit) × Unit)) ⊕ ((Int × Unit) × ((Unit × Unit) × Unit)))) : Con := ⟨⟨[(0, .sl .st), (1, .fn 111 [] [.ptr 0 0]), (7, .int .i64), (8, .int .i64)], [(0, .cells 117 (.fn 75 [] []))], []⟩, [(.exit 0, ⟨[], [(0, .cells 117 (.fn 75 [] []))], []⟩), (.ret, ⟨[(4, .int .i64)], [(0, .cells 117 (.fn 75 [] []))], []⟩)], fun x => k x.1.1 x.1.2.2.1 x.1.2.2.2.1⟩
theorem vL3802 : IsL 133 [0, 1, 0, 1] := ⟨wF133, by kernel_rfl⟩
abbrev P3802 (B : Nat) := LpOKs (X B) Ce (fX 133).n (bX 133 [0, 1, 0, 1])
abbrev Q3802 (B : Nat) := LoopOK1 (X B) Ce (fX 133).n (bX 133 [0, 1, 0, 1]) (lp3802 (fun _ _ _ => none))
def con40 (k : (List Str) → Str → Option ((Bool × Unit) × Unit)) : Con := ⟨⟨[(0, .sl .str), (1, .str)], [], []⟩, [(.ret, ⟨[(1000, .bool)], [], []⟩)], fun x => k x.1.1 x.1.2.1⟩
abbrev P40 (B : Nat) := FnOKs (X B) Ce 40
abbrev Q40 (B : Nat) := FnOK1 (X B) Ce 40 (con40 (fun _ _ => none))
def con42 (k : GT → Option (((List Str) × Unit) × Unit)) : Con := ⟨⟨[(0, .n .ty)], [], []⟩, [(.ret, ⟨[(1000, .own .str 0)], [], [(0, 1, 9)]⟩)], fun x => k x.1.1⟩
abbrev P42 (B : Nat) := FnOKs (X B) Ce 42
abbrev Q42 (B : Nat) := FnOK1 (X B) Ce 42 (con42 (fun _ => none))
def lp4200 (k : (List Str) → (List GT) → Int → Int → Option (((List Str) × Unit) × Unit)) : Con := ⟨⟨[(3, .own .str 0), (15, .sl .ty), (16, .int .i64), (17, .int .i64)], [], [(0, 1, 9)]⟩, [(.exit 0, ⟨[(3, .own .str 0)], [], [(0, 1, 9)]⟩)], fun x => k x.1.1 x.1.2.1 x.1.2.2.1 x.1.2.2.2.1⟩
theorem vL4200 : IsL 42 [0, 1, 0, 1, 1, 1] := ⟨wF42, by kernel_rfl⟩
abbrev P4200 (B : Nat) := LpOKs (X B) Ce (fX 42).n (bX 42 [0, 1, 0, 1, 1, 1])
abbrev Q4200 (B : Nat) := LoopOK1 (X B) Ce (fX 42).n (bX 42 [0, 1, 0, 1, 1, 1]) (lp4200 (fun _ _ _ _ => none))
def con43 (k : (List Str) → Option ((Bool × Unit) × Unit)) : Con := ⟨⟨[(0, .sl .str)], [], []⟩, [(.ret, ⟨[(1000, .bool)], [], []⟩)], fun x => k x.1.1⟩
abbrev P43 (B : Nat) := FnOKs (X B) Ce 43
abbrev Q43 (B : Nat) := FnOK1 (X B) Ce 43 (con43 (fun _ => none))
def lp4300 (k : (List Str) → Int → Int → (Mp Bool) → Option ((Unit × ((Mp Bool) × Unit)) ⊕ ((Bool × Unit) × ((Mp Bool) × Unit)))) : Con := ⟨⟨[(3, .map 0), (7, .sl .str), (8, .int .i64), (9, .int .i64)], [(0, .map .str .bool)], []⟩, [(.exit 0, ⟨[], [(0, .map .str .bool)], []⟩), (.ret, ⟨[(2, .bool)], [(0, .map .str .bool)], []⟩)], fun x => k x.1.2.1 x.1.2.2.1 x.1.2.2.2.1 x.2.1⟩
theorem vL4300 : IsL 43 [0, 1, 0, 1, 1] := ⟨wF43, by kernel_rfl⟩
abbrev P4300 (B : Nat) := LpOKs (X B) Ce (fX 43).n (bX 43 [0, 1, 0, 1, 1])
abbrev Q4300 (B : Nat) := LoopOK1 (X B) Ce (fX 43).n (bX 43 [0, 1, 0, 1, 1]) (lp4300 (fun _ _ _ _ => none))
def con46 (k : (List GS) → (Mp Bool) → (Mp Int) → Option ((Bool × Unit) × ((Mp Bool) × ((Mp Int) × Unit)))) : Con := ⟨⟨[(0, .map 0), (1, .sl .st), (2, .map 1)], [(0, .map .str .bool), (1, .map .str .int)], []⟩, [(.ret, ⟨[(1000, .bool)], [(0, .map .str .bool), (1, .map .str .int)], []⟩)], fun x => k x.1.2.1 x.2.1 x.2.2.1⟩
abbrev P46 (B : Nat) := FnOKs (X B) Ce 46
abbrev Q46 (B : Nat) := FnOK1 (X B) Ce 46 (con46 (fun _ _ _ => none))
def lp4600 (k : (List GS) → Int → Int → (Mp Bool) → (Mp Int) → Option ((Unit × ((Mp Bool) × ((Mp Int) × Unit))) ⊕ ((Bool × Unit) × ((Mp Bool) × ((Mp Int) × Unit))))) : Con := ⟨⟨[(0, .map 0), (2, .map 1), (9, .sl .st), (10, .int .i64), (11, .int .i64)], [(0, .map .str .bool), (1, .map .str .int)], []⟩, [(.exit 0, ⟨[], [(0, .map .str .bool), (1, .map .str .int)], []⟩), (.ret, ⟨[(6, .bool)], [(0, .map .str .bool), (1, .map .str .int)], []⟩)], fun x => k x.1.2.2.1 x.1.2.2.2.1 x.1.2.2.2.2.1 x.2.1 x.2.2.1⟩
theorem vL4600 : IsL 46 [0, 1, 0, 1] := ⟨wF46, by kernel_rfl⟩
abbrev P4600 (B : Nat) := LpOKs (X B) Ce (fX 46).n (bX 46 [0, 1, 0, 1])
abbrev Q4600 (B : Nat) := LoopOK1 (X B) Ce (fX 46).n (bX 46 [0, 1, 0, 1]) (lp4600 (fun _ _ _ _ _ => none))
def con47 (k : GE → (Mp Bool) → (Mp Int) → Option ((Bool × Unit) × ((Mp Bool) × ((Mp Int) × Unit)))) : Con := ⟨⟨[(0, .map 0), (1, .n .ex), (2, .map 1)], [(0, .map .str .bool), (1, .map .str .int)], []⟩, [(.ret, ⟨[(1000, .bool)], [(0, .map .str .bool), (1, .map .str .int)], []⟩)], fun x => k x.1.2.1 x.2.1 x.2.2.1⟩
abbrev P47 (B : Nat) := FnOKs (X B) Ce 47
abbrev Q47 (B : Nat) := FnOK1 (X B) Ce 47 (con47 (fun _ _ _ => none))
def lp4700 (k : (List GE) → Int → Int → (Mp Bool) → (Mp Int) → Option ((Unit × ((Mp Bool) × ((Mp Int) × Unit))) ⊕ ((Bool × Unit) × ((Mp Bool) × ((Mp Int) × Unit))))) : Con := ⟨⟨[(0, .map 0), (2, .map 1), (12, .sl .ex), (13, .int .i64), (14, .int .i64)], [(0, .map .str .bool), (1, .map .str .int)], []⟩, [(.exit 0, ⟨[], [(0, .map .str .bool), (1, .map .str .int)], []⟩), (.ret, ⟨[(6, .bool)], [(0, .map .str .bool), (1, .map .str .int)], []⟩)], fun x => k x.1.2.2.1 x.1.2.2.2.1 x.1.2.2.2.2.1 x.2.1 x.2.2.1⟩
theorem vL4700 : IsL 47 [0, 1, 0, 1] := ⟨wF47, by kernel_rfl⟩
abbrev P4700 (B : Nat) := LpOKs (X B) Ce (fX 47).n (bX 47 [0, 1, 0, 1])
abbrev Q4700 (B : Nat) := LoopOK1 (X B) Ce (fX 47).n (bX 47 [0, 1, 0, 1]) (lp4700 (fun _ _ _ _ _ => none))
def con66 (k : GF → Option ((Int × Unit) × Unit)) : Con := ⟨⟨[(0, .n .fn)], [], []⟩, [(.ret, ⟨[(1000, .int .i64)], [], []⟩)], fun x => k x.1.1⟩
abbrev P66 (B : Nat) := FnOKs (X B) Ce 66
abbrev Q66 (B : Nat) := FnOK1 (X B) Ce 66 (con66 (fun _ => none))
def lp6600 (k : Int → (List GP) → Int → Int → Option ((Int × Unit) × Unit)) : Con := ⟨⟨[(1, .fn 98 [] []), (5, .int .i64), (8, .sl .par), (9, .int .i64), (10, .int .i64)], [], []⟩, [(.exit 0, ⟨[(5, .int .i64)], [], []⟩)], fun x => k x.1.2.1 x.1.2.2.1 x.1.2.2.2.1 x.1.2.2.2.2.1⟩
theorem vL6600 : IsL 97 [0, 1, 0, 1, 1] := ⟨wF97, by kernel_rfl⟩
abbrev P6600 (B : Nat) := LpOKs (X B) Ce (fX 97).n (bX 97 [0, 1, 0, 1, 1])
abbrev Q6600 (B : Nat) := LoopOK1 (X B) Ce (fX 97).n (bX 97 [0, 1, 0, 1, 1]) (lp6600 (fun _ _ _ _ => none))
def lp6601 (k : Int → (List GS) → Int → Int → Option ((Int × Unit) × Unit)) : Con := ⟨⟨[(1, .fn 101 [] []), (5, .int .i64), (8, .sl .st), (9, .int .i64), (10, .int .i64)], [], []⟩, [(.exit 0, ⟨[(5, .int .i64)], [], []⟩)], fun x => k x.1.2.1 x.1.2.2.1 x.1.2.2.2.1 x.1.2.2.2.2.1⟩
theorem vL6601 : IsL 100 [0, 1, 0, 1, 1] := ⟨wF100, by kernel_rfl⟩
abbrev P6601 (B : Nat) := LpOKs (X B) Ce (fX 100).n (bX 100 [0, 1, 0, 1, 1])
abbrev Q6601 (B : Nat) := LoopOK1 (X B) Ce (fX 100).n (bX 100 [0, 1, 0, 1, 1]) (lp6601 (fun _ _ _ _ => none))
def con70 (k : Str → Option ((Bool × Unit) × Unit)) : Con := ⟨⟨[(0, .str)], [], []⟩, [(.ret, ⟨[(1000, .bool)], [], []⟩)], fun x => k x.1.1⟩
abbrev P70 (B : Nat) := FnOKs (X B) Ce 70
abbrev Q70 (B : Nat) := FnOK1 (X B) Ce 70 (con70 (fun _ => none))
def con71 (k : GT → Option ((Bool × Unit) × Unit)) : Con := ⟨⟨[(0, .n .ty)], [], []⟩, [(.ret, ⟨[(1000, .bool)], [], []⟩)], fun x => k x.1.1⟩
abbrev P71 (B : Nat) := FnOKs (X B) Ce 71
abbrev Q71 (B : Nat) := FnOK1 (X B) Ce 71 (con71 (fun _ => none))
def lp7100 (k : (List GT) → Int → Int → Option ((Unit × ((Unit × Unit) × Unit)) ⊕ ((Int × Unit) × ((Unit × Unit) × Unit)))) : Con := ⟨⟨[(0, .sl .ty), (1, .fn 131 [] [.ptr 0 0]), (7, .int .i64), (8, .int .i64)], [(0, .cells 43 (.fn 71 [] []))], []⟩, [(.exit 0, ⟨[], [(0, .cells 43 (.fn 71 [] []))], []⟩), (.ret, ⟨[(4, .int .i64)], [(0, .cells 43 (.fn 71 [] []))], []⟩)], fun x => k x.1.1 x.1.2.2.1 x.1.2.2.2.1⟩
theorem vL7100 : IsL 48 [0, 1, 0, 1] := ⟨wF48, by kernel_rfl⟩
abbrev P7100 (B : Nat) := LpOKs (X B) Ce (fX 48).n (bX 48 [0, 1, 0, 1])
abbrev Q7100 (B : Nat) := LoopOK1 (X B) Ce (fX 48).n (bX 48 [0, 1, 0, 1]) (lp7100 (fun _ _ _ => none))
def con75 (k : GS → Option ((Bool × Unit) × Unit)) : Con := ⟨⟨[(0, .n .st)], [], []⟩, [(.ret, ⟨[(1000, .bool)], [], []⟩)], fun x => k x.1.1⟩
abbrev P75 (B : Nat) := FnOKs (X B) Ce 75
abbrev Q75 (B : Nat) := FnOK1 (X B) Ce 75 (con75 (fun _ => none))
def lp7500 (k : (List GS) → Int → Int → Option ((Unit × ((Unit × Unit) × Unit)) ⊕ ((Int × Unit) × ((Unit × Unit) × Unit)))) : Con := ⟨⟨[(0, .sl .st), (1, .fn 111 [] [.ptr 0 0]), (7, .int .i64), (8, .int .i64)], [(0, .cells 117 (.fn 75 [] []))], []⟩, [(.exit 0, ⟨[], [(0, .cells 117 (.fn 75 [] []))], []⟩), (.ret, ⟨[(4, .int .i64)], [(0, .cells 117 (.fn 75 [] []))], []⟩)], fun x => k x.1.1 x.1.2.2.1 x.1.2.2.2.1⟩
theorem vL7500 : IsL 133 [0, 1, 0, 1] := ⟨wF133, by kernel_rfl⟩
abbrev P7500 (B : Nat) := LpOKs (X B) Ce (fX 133).n (bX 133 [0, 1, 0, 1])
abbrev Q7500 (B : Nat) := LoopOK1 (X B) Ce (fX 133).n (bX 133 [0, 1, 0, 1]) (lp7500 (fun _ _ _ => none))
def con76 (k : (List GS) → Option ((Int × Unit) × Unit)) : Con := ⟨⟨[(0, .sl .st)], [], []⟩, [(.ret, ⟨[(1000, .int .i64)], [], []⟩)], fun x => k x.1.1⟩
abbrev P76 (B : Nat) := FnOKs (X B) Ce 76
abbrev Q76 (B : Nat) := FnOK1 (X B) Ce 76 (con76 (fun _ => none))
def lp7600 (k : Int → (List GS) → Int → Int → Option ((Int × Unit) × Unit)) : Con := ⟨⟨[(1, .fn 114 [] []), (5, .int .i64), (8, .sl .st), (9, .int .i64), (10, .int .i64)], [], []⟩, [(.exit 0, ⟨[(5, .int .i64)], [], []⟩)], fun x => k x.1.2.1 x.1.2.2.1 x.1.2.2.2.1 x.1.2.2.2.2.1⟩
theorem vL7600 : IsL 100 [0, 1, 0, 1, 1] := ⟨wF100, by kernel_rfl⟩
abbrev P7600 (B : Nat) := LpOKs (X B) Ce (fX 100).n (bX 100 [0, 1, 0, 1, 1])
abbrev Q7600 (B : Nat) := LoopOK1 (X B) Ce (fX 100).n (bX 100 [0, 1, 0, 1, 1]) (lp7600 (fun _ _ _ _ => none))
def con77 (k : GE → Option ((Bool × Unit) × Unit)) : Con := ⟨⟨[(0, .n .ex)], [], []⟩, [(.ret, ⟨[(1000, .bool)], [], []⟩)], fun x => k x.1.1⟩
abbrev P77 (B : Nat) := FnOKs (X B) Ce 77
abbrev Q77 (B : Nat) := FnOK1 (X B) Ce 77 (con77 (fun _ => none))
def lp7700 (k : (List GE) → Int → Int → Option ((Unit × ((Unit × Unit) × Unit)) ⊕ ((Int × Unit) × ((Unit × Unit) × Unit)))) : Con := ⟨⟨[(0, .sl .ex), (1, .fn 143 [] [.ptr 0 0]), (7, .int .i64), (8, .int .i64)], [(0, .cells 98 (.fn 77 [] []))], []⟩, [(.exit 0, ⟨[], [(0, .cells 98 (.fn 77 [] []))], []⟩), (.ret, ⟨[(4, .int .i64)], [(0, .cells 98 (.fn 77 [] []))], []⟩)], fun x => k x.1.1 x.1.2.2.1 x.1.2.2.2.1⟩
theorem vL7700 : IsL 157 [0, 1, 0, 1] := ⟨wF157, by kernel_rfl⟩
abbrev P7700 (B : Nat) := LpOKs (X B) Ce (fX 157).n (bX 157 [0, 1, 0, 1])
abbrev Q7700 (B : Nat) := LoopOK1 (X B) Ce (fX 157).n (bX 157 [0, 1, 0, 1]) (lp7700 (fun _ _ _ => none))
def con78 (k : (List Str) → Str → Option ((Int × Unit) × Unit)) : Con := ⟨⟨[(0, .sl .str), (1, .str)], [], []⟩, [(.ret, ⟨[(1000, .int .i64)], [], []⟩)], fun x => k x.1.1 x.1.2.1⟩
abbrev P78 (B : Nat) := FnOKs (X B) Ce 78
abbrev Q78 (B : Nat) := FnOK1 (X B) Ce 78 (con78 (fun _ _ => none))
def lp7800 (k : (List Str) → Str → Int → Int → Option ((Unit × Unit) ⊕ ((Int × Unit) × Unit))) : Con := ⟨⟨[(0, .sl .str), (1, .str), (7, .int .i64), (8, .int .i64)], [], []⟩, [(.exit 0, ⟨[], [], []⟩), (.ret, ⟨[(4, .int .i64)], [], []⟩)], fun x => k x.1.1 x.1.2.1 x.1.2.2.1 x.1.2.2.2.1⟩
theorem vL7800 : IsL 78 [0, 1, 0, 1] := ⟨wF78, by kernel_rfl⟩
abbrev P7800 (B : Nat) := LpOKs (X B) Ce (fX 78).n (bX 78 [0, 1, 0, 1])
abbrev Q7800 (B : Nat) := LoopOK1 (X B) Ce (fX 78).n (bX 78 [0, 1, 0, 1]) (lp7800 (fun _ _ _ _ => none))
def con99 (k : GT → Option ((Int × Unit) × Unit)) : Con := ⟨⟨[(0, .n .ty)], [], []⟩, [(.ret, ⟨[(1000, .int .i64)], [], []⟩)], fun x => k x.1.1⟩
abbrev P99 (B : Nat) := FnOKs (X B) Ce 99
abbrev Q99 (B : Nat) := FnOK1 (X B) Ce 99 (con99 (fun _ => none))
def lp9900 (k : Int → (List GT) → Int → Int → Option ((Int × Unit) × Unit)) : Con := ⟨⟨[(1, .fn 99 [] []), (5, .int .i64), (8, .sl .ty), (9, .int .i64), (10, .int .i64)], [], []⟩, [(.exit 0, ⟨[(5, .int .i64)], [], []⟩)], fun x => k x.1.2.1 x.1.2.2.1 x.1.2.2.2.1 x.1.2.2.2.2.1⟩
theorem vL9900 : IsL 126 [0, 1, 0, 1, 1] := ⟨wF126, by kernel_rfl⟩
abbrev P9900 (B : Nat) := LpOKs (X B) Ce (fX 126).n (bX 126 [0, 1, 0, 1, 1])
abbrev Q9900 (B : Nat) := LoopOK1 (X B) Ce (fX 126).n (bX 126 [0, 1, 0, 1, 1]) (lp9900 (fun _ _ _ _ => none))
def con101 (k : GS → Option ((Int × Unit) × Unit)) : Con := ⟨⟨[(0, .n .st)], [], []⟩, [(.ret, ⟨[(1000, .int .i64)], [], []⟩)], fun x => k x.1.1⟩
abbrev P101 (B : Nat) := FnOKs (X B) Ce 101
abbrev Q101 (B : Nat) := FnOK1 (X B) Ce 101 (con101 (fun _ => none))
def lp10100 (k : Int → (List GS) → Int → Int → Option ((Int × Unit) × Unit)) : Con := ⟨⟨[(1, .fn 101 [] []), (5, .int .i64), (8, .sl .st), (9, .int .i64), (10, .int .i64)], [], []⟩, [(.exit 0, ⟨[(5, .int .i64)], [], []⟩)], fun x => k x.1.2.1 x.1.2.2.1 x.1.2.2.2.1 x.1.2.2.2.2.1⟩
theorem vL10100 : IsL 100 [0, 1, 0, 1, 1] := ⟨wF100, by kernel_rfl⟩
abbrev P10100 (B : Nat) := LpOKs (X B) Ce (fX 100).n (bX 100 [0, 1, 0, 1, 1])
abbrev Q10100 (B : Nat) := LoopOK1 (X B) Ce (fX 100).n (bX 100 [0, 1, 0, 1, 1]) (lp10100 (fun _ _ _ _ => none))
def con102 (k : GE → Option ((Int × Unit) × Unit)) : Con := ⟨⟨[(0, .n .ex)], [], []⟩, [(.ret, ⟨[(1000, .int .i64)], [], []⟩)], fun x => k x.1.1⟩
abbrev P102 (B : Nat) := FnOKs (X B) Ce 102
abbrev Q102 (B : Nat) := FnOK1 (X B) Ce 102 (con102 (fun _ => none))
def lp10200 (k : GE → Int → (List GE) → Int → Int → Option ((Int × Unit) × Unit)) : Con := ⟨⟨[(1, .ro (.n .ex)), (3, .int .i64), (16, .sl .ex), (17, .int .i64), (18, .int .i64)], [], []⟩, [(.exit 0, ⟨[(3, .int .i64)], [], []⟩)], fun x => k x.1.1 x.1.2.1 x.1.2.2.1 x.1.2.2.2.1 x.1.2.2.2.2.1⟩
theorem vL10200 : IsL 102 [0, 1, 0, 1, 1, 1] := ⟨wF102, by kernel_rfl⟩
abbrev P10200 (B : Nat) := LpOKs (X B) Ce (fX 102).n (bX 102 [0, 1, 0, 1, 1, 1])
abbrev Q10200 (B : Nat) := LoopOK1 (X B) Ce (fX 102).n (bX 102 [0, 1, 0, 1, 1, 1]) (lp10200 (fun _ _ _ _ _ => none))
def con104 (k : Str → Option ((((List KTok) × (GErr × Unit)) × Unit) × Unit)) : Con := ⟨⟨[(0, .str)], [], []⟩, [(.ret, ⟨[(1000, .tuple [.own .tok 0, .err])], [], [(0, 3, 96)]⟩)], fun x => k x.1.1⟩
abbrev P104 (B : Nat) := FnOKs (X B) Ce 104
abbrev Q104 (B : Nat) := FnOK1 (X B) Ce 104 (con104 (fun _ => none))
def lp10400 (k : Str → (List KTok) → Int → Option ((((List KTok) × Unit) × Unit) ⊕ ((Unit × (GErr × Unit)) × Unit))) : Con := ⟨⟨[(0, .str), (4, .own .tok 0), (5, .int .i64)], [], [(0, 3, 96)]⟩, [(.exit 0, ⟨[(4, .own .tok 0)], [], [(0, 3, 96)]⟩), (.ret, ⟨[(2, .lit 5), (3, .err)], [], []⟩)], fun x => k x.1.1 x.1.2.1 x.1.2.2.1⟩
theorem vL10400 : IsL 104 [0, 1, 0, 1, 1, 1] := ⟨wF104, by kernel_rfl⟩
abbrev P10400 (B : Nat) := LpOKs (X B) Ce (fX 104).n (bX 104 [0, 1, 0, 1, 1, 1])
abbrev Q10400 (B : Nat) := LoopOK1 (X B) Ce (fX 104).n (bX 104 [0, 1, 0, 1, 1, 1]) (lp10400 (fun _ _ _ => none))
def con105 (k : Option (((List Str) × Unit) × Unit)) : Con := ⟨⟨[], [], []⟩, [(.ret, ⟨[(1000, .sl .str)], [], []⟩)], fun x => k⟩
abbrev P105 (B : Nat) := FnOKs (X B) Ce 105
abbrev Q105 (B : Nat) := FnOK1 (X B) Ce 105 (con105 none)
def con112 (k : GE → Option ((Bool × Unit) × Unit)) : Con := ⟨⟨[(0, .n .ex)], [], []⟩, [(.ret, ⟨[(1000, .bool)], [], []⟩)], fun x => k x.1.1⟩
abbrev P112 (B : Nat) := FnOKs (X B) Ce 112
abbrev Q112 (B : Nat) := FnOK1 (X B) Ce 112 (con112 (fun _ => none))
def con113 (k : GE → Option ((Bool × Unit) × Unit)) : Con := ⟨⟨[(0, .n .ex)], [], []⟩, [(.ret, ⟨[(1000, .bool)], [], []⟩)], fun x => k x.1.1⟩
abbrev P113 (B : Nat) := FnOKs (X B) Ce 113
abbrev Q113 (B : Nat) := FnOK1 (X B) Ce 113 (con113 (fun _ => none))
def con127 (k : GE → Int → Option ((Bool × Unit) × Unit)) : Con := ⟨⟨[(0, .n .ex), (1, .int .i64)], [], []⟩, [(.ret, ⟨[(1000, .bool)], [], []⟩)], fun x => k x.1.1 x.1.2.1⟩
abbrev P127 (B : Nat) := FnOKs (X B) Ce 127
abbrev Q127 (B : Nat) := FnOK1 (X B) Ce 127 (con127 (fun _ _ => none))
def con128 (k : Str → Option ((Int × Unit) × Unit)) : Con := ⟨⟨[(0, .str)], [], []⟩, [(.ret, ⟨[(1000, .int .i64)], [], []⟩)], fun x => k x.1.1⟩
abbrev P128 (B : Nat) := FnOKs (X B) Ce 128
abbrev Q128 (B : Nat) := FnOK1 (X B) Ce 128 (con128 (fun _ => none))
def lp12800 (k : (Str × Nat) → Option ((Unit × ((Str × Nat) × Unit)) ⊕ ((Int × Unit) × ((Str × Nat) × Unit)))) : Con := ⟨⟨[(1, .fn 148 [] []), (8, .ptr 0 0)], [(0, .iter)], []⟩, [(.exit 0, ⟨[], [(0, .iter)], []⟩), (.ret, ⟨[(4, .int .i64)], [(0, .iter)], []⟩)], fun x => k x.2.1⟩
theorem vL12800 : IsL 147 [0, 1, 0, 1] := ⟨wF147, by kernel_rfl⟩
abbrev P12800 (B : Nat) := LpOKs (X B) Ce (fX 147).n (bX 147 [0, 1, 0, 1])
abbrev Q12800 (B : Nat) := LoopOK1 (X B) Ce (fX 147).n (bX 147 [0, 1, 0, 1]) (lp12800 (fun _ => none))
def lp12801 (k : (Str × Nat) → Option ((Unit × ((Str × Nat) × Unit)) ⊕ ((Int × Unit) × ((Str × Nat) × Unit)))) : Con := ⟨⟨[(1, .fn 150 [] []), (8, .ptr 0 0)], [(0, .iter)], []⟩, [(.exit 0, ⟨[], [(0, .iter)], []⟩), (.ret, ⟨[(4, .int .i64)], [(0, .iter)], []⟩)], fun x => k x.2.1⟩
theorem vL12801 : IsL 147 [0, 1, 0, 1] := ⟨wF147, by kernel_rfl⟩
abbrev P12801 (B : Nat) := LpOKs (X B) Ce (fX 147).n (bX 147 [0, 1, 0, 1])
abbrev Q12801 (B : Nat) := LoopOK1 (X B) Ce (fX 147).n (bX 147 [0, 1, 0, 1]) (lp12801 (fun _ => none))
def con129 (k : Str → Option (((Int × (Int × Unit)) × Unit) × Unit)) : Con := ⟨⟨[(0, .str)], [], []⟩, [(.ret, ⟨[(1000, .tuple [.int .i64, .int .i64])], [], []⟩)], fun x => k x.1.1⟩
abbrev P129 (B : Nat) := FnOKs (X B) Ce 129
abbrev Q129 (B : Nat) := FnOK1 (X B) Ce 129 (con129 (fun _ => none))
def lp12900 (k : (Str × Nat) → Option ((Unit × ((Str × Nat) × Unit)) ⊕ ((Int × Unit) × ((Str × Nat) × Unit)))) : Con := ⟨⟨[(1, .fn 153 [] []), (8, .ptr 0 0)], [(0, .iter)], []⟩, [(.exit 0, ⟨[], [(0, .iter)], []⟩), (.ret, ⟨[(4, .int .i64)], [(0, .iter)], []⟩)], fun x => k x.2.1⟩
theorem vL12900 : IsL 147 [0, 1, 0, 1] := ⟨wF147, by kernel_rfl⟩
abbrev P12900 (B : Nat) := LpOKs (X B) Ce (fX 147).n (bX 147 [0, 1, 0, 1])
abbrev Q12900 (B : Nat) := LoopOK1 (X B) Ce (fX 147).n (bX 147 [0, 1, 0, 1]) (lp12900 (fun _ => none))
def con137 (k : GE → Option ((Bool × Unit) × Unit)) : Con := ⟨⟨[(0, .n .ex)], [], []⟩, [(.ret, ⟨[(1000, .bool)], [], []⟩)], fun x => k x.1.1⟩
abbrev P137 (B : Nat) := FnOKs (X B) Ce 137
abbrev Q137 (B : Nat) := FnOK1 (X B) Ce 137 (con137 (fun _ => none))
def con138 (k : GE → Option ((Bool × Unit) × Unit)) : Con := ⟨⟨[(0, .n .ex)], [], []⟩, [(.ret, ⟨[(1000, .bool)], [], []⟩)], fun x => k x.1.1⟩
abbrev P138 (B : Nat) := FnOKs (X B) Ce 138
abbrev Q138 (B : Nat) := FnOK1 (X B) Ce 138 (con138 (fun _ => none))
def con140 (k : GE → Option ((Int × Unit) × Unit)) : Con := ⟨⟨[(0, .n .ex)], [], []⟩, [(.ret, ⟨[(1000, .int .i64)], [], []⟩)], fun x => k x.1.1⟩
abbrev P140 (B : Nat) := FnOKs (X B) Ce 140
abbrev Q140 (B : Nat) := FnOK1 (X B) Ce 140 (con140 (fun _ => none))
def con149 (k : Str → Str → Option ((Bool × Unit) × Unit)) : Con := ⟨⟨[(0, .str), (1, .str)], [], []⟩, [(.ret, ⟨[(1000, .bool)], [], []⟩)], fun x => k x.1.1 x.1.2.1⟩
abbrev P149 (B : Nat) := FnOKs (X B) Ce 149
abbrev Q149 (B : Nat) := FnOK1 (X B) Ce 149 (con149 (fun _ _ => none))
def con151 (k : Int → Option ((Bool × Unit) × Unit)) : Con := ⟨⟨[(0, .int .i32)], [], []⟩, [(.ret, ⟨[(1000, .bool)], [], []⟩)], fun x => k x.1.1⟩
abbrev P151 (B : Nat) := FnOKs (X B) Ce 151
abbrev Q151 (B : Nat) := FnOK1 (X B) Ce 151 (con151 (fun _ => none))
def con152 (k : Str → Option ((Int × Unit) × Unit)) : Con := ⟨⟨[(0, .str)], [], []⟩, [(.ret, ⟨[(1000, .int .i64)], [], []⟩)], fun x => k x.1.1⟩
abbrev P152 (B : Nat) := FnOKs (X B) Ce 152
abbrev Q152 (B : Nat) := FnOK1 (X B) Ce 152 (con152 (fun _ => none))
def lp15200 (k : (Str × Nat) → Option ((Unit × ((Str × Nat) × Unit)) ⊕ ((Int × Unit) × ((Str × Nat) × Unit)))) : Con := ⟨⟨[(1, .fn 161 [] []), (8, .ptr 0 0)], [(0, .iter)], []⟩, [(.exit 0, ⟨[], [(0, .iter)], []⟩), (.ret, ⟨[(4, .int .i64)], [(0, .iter)], []⟩)], fun x => k x.2.1⟩
theorem vL15200 : IsL 147 [0, 1, 0, 1] := ⟨wF147, by kernel_rfl⟩
abbrev P15200 (B : Nat) := LpOKs (X B) Ce (fX 147).n (bX 147 [0, 1, 0, 1])
abbrev Q15200 (B : Nat) := LoopOK1 (X B) Ce (fX 147).n (bX 147 [0, 1, 0, 1]) (lp15200 (fun _ => none))
def con153 (k : Int → Option ((Bool × Unit) × Unit)) : Con := ⟨⟨[(0, .int .i32)], [], []⟩, [(.ret, ⟨[(1000, .bool)], [], []⟩)], fun x => k x.1.1⟩
abbrev P153 (B : Nat) := FnOKs (X B) Ce 153
abbrev Q153 (B : Nat) := FnOK1 (X B) Ce 153 (con153 (fun _ => none))
def con154 (k : Str → Int → Option ((Bool × Unit) × Unit)) : Con := ⟨⟨[(0, .str), (1, .int .i32)], [], []⟩, [(.ret, ⟨[(1000, .bool)], [], []⟩)], fun x => k x.1.1 x.1.2.1⟩
abbrev P154 (B : Nat) := FnOKs (X B) Ce 154
abbrev Q154 (B : Nat) := FnOK1 (X B) Ce 154 (con154 (fun _ _ => none))
def con160 (k : Str → Str → Option ((Bool × Unit) × Unit)) : Con := ⟨⟨[(0, .str), (1, .str)], [], []⟩, [(.ret, ⟨[(1000, .bool)], [], []⟩)], fun x => k x.1.1 x.1.2.1⟩
abbrev P160 (B : Nat) := FnOKs (X B) Ce 160
abbrev Q160 (B : Nat) := FnOK1 (X B) Ce 160 (con160 (fun _ _ => none))
def con162 (k : Str → Int → Option ((Int × Unit) × Unit)) : Con := ⟨⟨[(0, .str), (1, .int .i32)], [], []⟩, [(.ret, ⟨[(1000, .int .i64)], [], []⟩)], fun x => k x.1.1 x.1.2.1⟩
abbrev P162 (B : Nat) := FnOKs (X B) Ce 162
abbrev Q162 (B : Nat) := FnOK1 (X B) Ce 162 (con162 (fun _ _ => none))
def lp16200 (k : (Str × Nat) → Option ((Unit × ((Str × Nat) × Unit)) ⊕ ((Int × Unit) × ((Str × Nat) × Unit)))) : Con := ⟨⟨[(175, .ptr 0 0)], [(0, .iter)], []⟩, [(.exit 9, ⟨[], [(0, .iter)], []⟩), (.ret, ⟨[(4, .int .i64)], [(0, .iter)], []⟩)], fun x => k x.2.1⟩
theorem vL16200 : IsL 162 [0, 1, 0, 0, 1, 1, 1, 0, 1] := ⟨wF162, by kernel_rfl⟩
abbrev P16200 (B : Nat) := LpOKs (X B) Ce (fX 162).n (bX 162 [0, 1, 0, 0, 1, 1, 1, 0, 1])
abbrev Q16200 (B : Nat) := LoopOK1 (X B) Ce (fX 162).n (bX 162 [0, 1, 0, 0, 1, 1, 1, 0, 1]) (lp16200 (fun _ => none))
def lp16201 (k : Str → Str → Int → Int → Int → Option (Unit × Unit)) : Con := ⟨⟨[(0, .str), (7, .str), (8, .int .i64), (9, .int .i64), (12, .int .i64)], [], []⟩, [(.exit 3, ⟨[], [], []⟩)], fun x => k x.1.1 x.1.2.1 x.1.2.2.1 x.1.2.2.2.1 x.1.2.2.2.2.1⟩
theorem vL16201 : IsL 162 [0, 1, 0, 1, 0, 0, 1, 0, 0, 0, 1, 1, 1, 1, 0, 1, 1, 1, 1, 1, 1, 0, 1] := ⟨wF162, by kernel_rfl⟩
abbrev P16201 (B : Nat) := LpOKs (X B) Ce (fX 162).n (bX 162 [0, 1, 0, 1, 0, 0, 1, 0, 0, 0, 1, 1, 1, 1, 0, 1, 1, 1, 1, 1, 1, 0, 1])
abbrev Q16201 (B : Nat) := LoopOK1 (X B) Ce (fX 162).n (bX 162 [0, 1, 0, 1, 0, 0, 1, 0, 0, 0, 1, 1, 1, 1, 0, 1, 1, 1, 1, 1, 1, 0, 1]) (lp16201 (fun _ _ _ _ _ => none))
def lp16202 (k : Str → Str → Int → Int → Option ((Unit × Unit) ⊕ ((Int × Unit) × Unit))) : Con := ⟨⟨[(0, .str), (7, .str), (8, .int .i64), (9, .int .i64)], [], []⟩, [(.exit 1, ⟨[], [], []⟩), (.ret, ⟨[(4, .int .i64)], [], []⟩)], fun x => k x.1.1 x.1.2.1 x.1.2.2.1 x.1.2.2.2.1⟩
theorem vL16202 : IsL 162 [0, 0, 1, 1, 1, 1, 0, 1, 1, 1, 1, 1, 1, 0, 1] := ⟨wF162, by kernel_rfl⟩
abbrev P16202 (B : Nat) := LpOKs (X B) Ce (fX 162).n (bX 162 [0, 0, 1, 1, 1, 1, 0, 1, 1, 1, 1, 1, 1, 0, 1])
abbrev Q16202 (B : Nat) := LoopOK1 (X B) Ce (fX 162).n (bX 162 [0, 0, 1, 1, 1, 1, 0, 1, 1, 1, 1, 1, 1, 0, 1]) (lp16202 (fun _ _ _ _ => none))
theorem h_k23_0 (B : Nat) : (∀ a0 a1 a2 a3 a4 a5 r, k23_0 a0 a1 a2 a3 a4 a5 = some r → Q2300 B (((), (a0, (a1, (a2, (a3, (a4, ())))))), (a5, ())) r) := by
  refine k23_0.partial_correctness _ ?_
  · intro gk23_0 mk23_0 a0 a1 a2 a3 a4 a5 r h
    have Hk23_0 : P2300 B (lp2300 gk23_0) := fun _ _ hx => mk23_0 _ _ _ _ _ _ _ hx
    have HL := Hk23_0
    exact gl cN (lC 2300 vL2300 Hk23_0 lN) vL2300 .nil (lp2300 gk23_0) HL (krw h (by kernel_rfl))
theorem ok_k23_0 (B : Nat) : P2300 B (lp2300 k23_0) := fun _ _ hx => (h_k23_0 B) _ _ _ _ _ _ _ hx
theorem h_k26 (B : Nat) : (∀ a0 r, k26 a0 = some r → Q26 B ((a0, ()), ()) r) ∧ (∀ a0 a1 a2 r, k26_0 a0 a1 a2 = some r → Q2600 B ((a0, (((), ()), (a1, (a2, ())))), ()) r) := by
  refine k26.mutual_partial_correctness _ _ ?_ ?_
  · intro gk26_0 mk26_0 a0 r h
    have Hk26_0 : P2600 B (lp2600 gk26_0) := fun _ _ hx => mk26_0 _ _ _ _ hx
    exact gf cN (lC 2600 vL2600 Hk26_0 lN) wF26 (.seq .nil (.seq (.region [(6, (.seq .nil (.seq (.region [(2, (.seq .nil (.seq (.seq .nil (.sub (.loop 2600))) .nil)))]) .nil)))]) .nil)) (krw h (by kernel_rfl))
  · intro gk26 gk26_0 mk26 mk26_0 a0 a1 a2 r h
    have Hk26 : P26 B (con26 gk26) := fun _ _ hx => mk26 _ _ hx
    have Hk26_0 : P2600 B (lp2600 gk26_0) := fun _ _ hx => mk26_0 _ _ _ _ hx
    have HL := Hk26_0
    exact gl (cC Hk26 cN) (lC 2600 vL2600 Hk26_0 lN) vL2600 .nil (lp2600 gk26_0) HL (krw h (by kernel_rfl))
theorem ok_k26 (B : Nat) : P26 B (con26 k26) := fun _ _ hx => (h_k26 B).1 _ _ hx
theorem h_k11 (B : Nat) : (∀ a0 r, k11 a0 = some r → Q11 B ((a0, ()), ()) r) ∧ (∀ a0 a1 a2 a3 r, k11_0 a0 a1 a2 a3 = some r → Q1100 B ((a0, (((), ((), ())), (a1, (a2, ())))), (a3, ())) r) := by
  refine k11.mutual_partial_correctness _ _ ?_ ?_
  · intro gk11_0 mk11_0 a0 r h
    have Hk11_0 : P1100 B (lp1100 gk11_0) := fun _ _ hx => mk11_0 _ _ _ _ _ hx
    exact gf cN (lC 1100 vL1100 Hk11_0 lN) wF11 (.seq .nil (.seq .nil (.seq (.region [(3, (.seq .nil (.seq (.region [(2, (.seq .nil (.seq (.seq .nil (.sub (.loop 1100))) .nil)))]) .nil)))]) .nil))) (krw h (by kernel_rfl))
  · intro gk11 gk11_0 mk11 mk11_0 a0 a1 a2 a3 r h
    have Hk11 : P11 B (con11 gk11) := fun _ _ hx => mk11 _ _ hx
    have Hk11_0 : P1100 B (lp1100 gk11_0) := fun _ _ hx => mk11_0 _ _ _ _ _ hx
    have HL := Hk11_0
    exact gl (cC Hk11 (cC (ok_k26 B) cN)) (lC 1100 vL1100 Hk11_0 lN) vL1100 .nil (lp1100 gk11_0) HL (krw h (by kernel_rfl))
theorem ok_k11 (B : Nat) : P11 B (con11 k11) := fun _ _ hx => (h_k11 B).1 _ _ hx
theorem h_k42 (B : Nat) : (∀ a0 r, k42 a0 = some r → Q42 B ((a0, ()), ()) r) ∧ (∀ a0 a1 a2 a3 r, k42_0 a0 a1 a2 a3 = some r → Q4200 B ((a0, (a1, (a2, (a3, ())))), ()) r) := by
  refine k42.mutual_partial_correctness _ _ ?_ ?_
  · intro gk42_0 mk42_0 a0 r h
    have Hk42_0 : P4200 B (lp4200 gk42_0) := fun _ _ hx => mk42_0 _ _ _ _ _ hx
    exact gf cN (lC 4200 vL4200 Hk42_0 lN) wF42 (.seq .nil (.seq .nil (.seq .nil (.seq (.seq .nil (.sub (.loop 4200))) .nil)))) (krw h (by kernel_rfl))
  · intro gk42 gk42_0 mk42 mk42_0 a0 a1 a2 a3 r h
    have Hk42 : P42 B (con42 gk42) := fun _ _ hx => mk42 _ _ hx
    have Hk42_0 : P4200 B (lp4200 gk42_0) := fun _ _ hx => mk42_0 _ _ _ _ _ hx
    have HL := Hk42_0
    exact gl (cC Hk42 cN) (lC 4200 vL4200 Hk42_0 lN) vL4200 .nil (lp4200 gk42_0) HL (krw h (by kernel_rfl))
theorem ok_k42 (B : Nat) : P42 B (con42 k42) := fun _ _ hx => (h_k42 B).1 _ _ hx
theorem h_k23_1 (B : Nat) : (∀ a0 a1 a2 a3 a4 r, k23_1 a0 a1 a2 a3 a4 = some r → Q2301 B ((a0, (a1, (a2, (a3, (a4, ()))))), ()) r) := by
  refine k23_1.partial_correctness _ ?_
  · intro gk23_1 mk23_1 a0 a1 a2 a3 a4 r h
    have Hk23_1 : P2301 B (lp2301 gk23_1) := fun _ _ hx => mk23_1 _ _ _ _ _ _ hx
    have HL := Hk23_1
    exact gl (cC (ok_k11 B) (cC (ok_k42 B) cN)) (lC 2301 vL2301 Hk23_1 lN) vL2301 .nil (lp2301 gk23_1) HL (krw h (by kernel_rfl))
theorem ok_k23_1 (B : Nat) : P2301 B (lp2301 k23_1) := fun _ _ hx => (h_k23_1 B) _ _ _ _ _ _ hx
theorem h_k78_0 (B : Nat) : (∀ a0 a1 a2 a3 r, k78_0 a0 a1 a2 a3 = some r → Q7800 B ((a0, (a1, (a2, (a3, ())))), ()) r) := by
  refine k78_0.partial_correctness _ ?_
  · intro gk78_0 mk78_0 a0 a1 a2 a3 r h
    have Hk78_0 : P7800 B (lp7800 gk78_0) := fun _ _ hx => mk78_0 _ _ _ _ _ hx
    have HL := Hk78_0
    exact gl cN (lC 7800 vL7800 Hk78_0 lN) vL7800 .nil (lp7800 gk78_0) HL (krw h (by kernel_rfl))
theorem ok_k78_0 (B : Nat) : P7800 B (lp7800 k78_0) := fun _ _ hx => (h_k78_0 B) _ _ _ _ _ hx
theorem ok_k78 (B : Nat) : P78 B (con78 k78) := by
  have h : ∀ a0 a1 r, k78 a0 a1 = some r → Q78 B ((a0, (a1, ())), ()) r := fun a0 a1 r h => gf cN (lC 7800 vL7800 (ok_k78_0 B) lN) wF78 (.seq .nil (.seq (.seq .nil (.sub (.loop 7800))) .nil)) (krw h (by kernel_rfl))
  exact fun _ _ hx => h _ _ _ hx
theorem ok_k40 (B : Nat) : P40 B (con40 k40) := by
  have h : ∀ a0 a1 r, k40 a0 a1 = some r → Q40 B ((a0, (a1, ())), ()) r := fun a0 a1 r h => gf (cC (ok_k78 B) cN) lN wF40 .nil (krw h (by kernel_rfl))
  exact fun _ _ hx => h _ _ _ hx
theorem h_k23_2 (B : Nat) : (∀ a0 a1 a2 a3 r, k23_2 a0 a1 a2 a3 = some r → Q2302 B ((a0, (((), ((), ())), (a1, (a2, ())))), (((), ((), ())), (a3, ()))) r) := by
  refine k23_2.partial_correctness _ ?_
  · intro gk23_2 mk23_2 a0 a1 a2 a3 r h
    have Hk23_2 : P2302 B (lp2302 gk23_2) := fun _ _ hx => mk23_2 _ _ _ _ _ hx
    have HL := Hk23_2
    exact gl (cC (ok_k40 B) cN) (lC 2302 vL2302 Hk23_2 lN) vL2302 .nil (lp2302 gk23_2) HL (krw h (by kernel_rfl))
theorem ok_k23_2 (B : Nat) : P2302 B (lp2302 k23_2) := fun _ _ hx => (h_k23_2 B) _ _ _ _ _ hx
theorem h_k43_0 (B : Nat) : (∀ a0 a1 a2 a3 r, k43_0 a0 a1 a2 a3 = some r → Q4300 B (((), (a0, (a1, (a2, ())))), (a3, ())) r) := by
  refine k43_0.partial_correctness _ ?_
  · intro gk43_0 mk43_0 a0 a1 a2 a3 r h
    have Hk43_0 : P4300 B (lp4300 gk43_0) := fun _ _ hx => mk43_0 _ _ _ _ _ hx
    have HL := Hk43_0
    exact gl cN (lC 4300 vL4300 Hk43_0 lN) vL4300 .nil (lp4300 gk43_0) HL (krw h (by kernel_rfl))
theorem ok_k43_0 (B : Nat) : P4300 B (lp4300 k43_0) := fun _ _ hx => (h_k43_0 B) _ _ _ _ _ hx
theorem ok_k43 (B : Nat) : P43 B (con43 k43) := by
  have h : ∀ a0 r, k43 a0 = some r → Q43 B ((a0, ()), ()) r := fun a0 r h => gf cN (lC 4300 vL4300 (ok_k43_0 B) lN) wF43 (.seq .nil (.seq .nil (.seq (.seq .nil (.sub (.loop 4300))) .nil))) (krw h (by kernel_rfl))
  exact fun _ _ hx => h _ _ hx
theorem h_k47 (B : Nat) : (∀ a0 a1 a2 r, k47 a0 a1 a2 = some r → Q47 B (((), (a0, ((), ()))), (a1, (a2, ()))) r) ∧ (∀ a0 a1 a2 a3 a4 r, k47_0 a0 a1 a2 a3 a4 = some r → Q4700 B (((), ((), (a0, (a1, (a2, ()))))), (a3, (a4, ()))) r) := by
  refine k47.mutual_partial_correctness _ _ ?_ ?_
  · intro gk47_0 mk47_0 a0 a1 a2 r h
    have Hk47_0 : P4700 B (lp4700 gk47_0) := fun _ _ hx => mk47_0 _ _ _ _ _ _ hx
    exact gf cN (lC 4700 vL4700 Hk47_0 lN) wF47 (.seq .nil (.seq (.seq .nil (.sub (.loop 4700))) .nil)) (krw h (by kernel_rfl))
  · intro gk47 gk47_0 mk47 mk47_0 a0 a1 a2 a3 a4 r h
    have Hk47 : P47 B (con47 gk47) := fun _ _ hx => mk47 _ _ _ _ hx
    have Hk47_0 : P4700 B (lp4700 gk47_0) := fun _ _ hx => mk47_0 _ _ _ _ _ _ hx
    have HL := Hk47_0
    exact gl (cC Hk47 cN) (lC 4700 vL4700 Hk47_0 lN) vL4700 .nil (lp4700 gk47_0) HL (krw h (by kernel_rfl))
theorem ok_k47 (B : Nat) : P47 B (con47 k47) := fun _ _ hx => (h_k47 B).1 _ _ _ _ hx
theorem h_k46 (B : Nat) : (∀ a0 a1 a2 r, k46 a0 a1 a2 = some r → Q46 B (((), (a0, ((), ()))), (a1, (a2, ()))) r) ∧ (∀ a0 a1 a2 a3 a4 r, k46_0 a0 a1 a2 a3 a4 = some r → Q4600 B (((), ((), (a0, (a1, (a2, ()))))), (a3, (a4, ()))) r) := by
  refine k46.mutual_partial_correctness _ _ ?_ ?_
  · intro gk46_0 mk46_0 a0 a1 a2 r h
    have Hk46_0 : P4600 B (lp4600 gk46_0) := fun _ _ hx => mk46_0 _ _ _ _ _ _ hx
    exact gf (cC (inner_ok B _ _) cN) (lC 4600 vL4600 Hk46_0 lN) wF46 (.seq .nil (.seq (.seq .nil (.sub (.loop 4600))) .nil)) (krw h (by kernel_rfl))
  · intro gk46 gk46_0 mk46 mk46_0 a0 a1 a2 a3 a4 r h
    have Hk46 : P46 B (con46 gk46) := fun _ _ hx => mk46 _ _ _ _ hx
    have Hk46_0 : P4600 B (lp4600 gk46_0) := fun _ _ hx => mk46_0 _ _ _ _ _ _ hx
    have HL := Hk46_0
    exact gl (cC Hk46 (cC (ok_k47 B) (cC (inner_ok B _ _) cN))) (lC 4600 vL4600 Hk46_0 lN) vL4600 (.seq .nil (.seq .nil (.seq (.sub (.seq .nil (.seq (.seq (.join [(0, 0), (1, 2)] [] [(.normal, ⟨[(33, .bool)], [(0, .map .str .bool), (1, .map .str .int)], []⟩)] .nil) .nil) (.seq (.seq (.join [(0, 0), (1, 2)] [] [(.normal, ⟨[(60, .bool)], [(0, .map .str .bool), (1, .map .str .int)], []⟩)] .nil) .nil) .nil)))) .nil))) (lp4600 gk46_0) HL (krw h (by kernel_rfl))
theorem ok_k46 (B : Nat) : P46 B (con46 k46) := fun _ _ hx => (h_k46 B).1 _ _ _ _ hx
theorem ok_k23 (B : Nat) : P23 B (con23 k23) := by
  have h : ∀ a0 a1 r, k23 a0 a1 = some r → Q23 B ((a0, ((), ())), (a1, ())) r := fun a0 a1 r h => gf (cC (clone_ok B _ _) (cC (ok_k43 B) (cC (ok_k46 B) (cC (ok_k47 B) cN)))) (lC 2300 vL2300 (ok_k23_0 B) (lC 2301 vL2301 (ok_k23_1 B) (lC 2302 vL2302 (ok_k23_2 B) lN))) wF23 (.seq .nil (.seq .nil (.seq .nil (.seq .nil (.seq (.seq .nil (.sub (.loop 2300))) (.seq .nil (.seq .nil (.seq .nil (.seq (.seq .nil (.sub (.loop 2301))) (.seq .nil (.seq (.sub (.seq (.join [(0, 2), (1, 10)] [7, 11] [(.normal, ⟨[(69, .bool)], [(0, .cells 42 (.n .fn)), (1, .cells 79 (.fn 39 [] [.ptr 0 0]))], []⟩)] (.region [(15, (.seq .nil (.seq (.region [(2, (.seq .nil (.seq (.seq .nil (.sub (.loop 2302))) .nil)))]) .nil)))])) .nil)) .nil))))))))))) (krw h (by kernel_rfl))
  exact fun _ _ hx => h _ _ _ hx
theorem h_k10_0 (B : Nat) : (∀ a0 a1 a2 a3 r, k10_0 a0 a1 a2 a3 = some r → Q1000 B (((), (a0, (a1, (a2, ())))), (a3, ())) r) := by
  refine k10_0.partial_correctness _ ?_
  · intro gk10_0 mk10_0 a0 a1 a2 a3 r h
    have Hk10_0 : P1000 B (lp1000 gk10_0) := fun _ _ hx => mk10_0 _ _ _ _ _ hx
    have HL := Hk10_0
    exact gl (cC (ok_k23 B) cN) (lC 1000 vL1000 Hk10_0 lN) vL1000 .nil (lp1000 gk10_0) HL (krw h (by kernel_rfl))
theorem ok_k10_0 (B : Nat) : P1000 B (lp1000 k10_0) := fun _ _ hx => (h_k10_0 B) _ _ _ _ _ hx
theorem h_k128_0 (B : Nat) : (∀ a0 r, k128_0 a0 = some r → Q12800 B ((((), ()), ((), ())), (a0, ())) r) := by
  refine k128_0.partial_correctness _ ?_
  · intro gk128_0 mk128_0 a0 r h
    have Hk128_0 : P12800 B (lp12800 gk128_0) := fun _ _ hx => mk128_0 _ _ hx
    have HL := Hk128_0
    exact gl cN (lC 12800 vL12800 Hk128_0 lN) vL12800 .nil (lp12800 gk128_0) HL (krw h (by kernel_rfl))
theorem ok_k128_0 (B : Nat) : P12800 B (lp12800 k128_0) := fun _ _ hx => (h_k128_0 B) _ _ hx
theorem h_k128_1 (B : Nat) : (∀ a0 r, k128_1 a0 = some r → Q12801 B ((((), ()), ((), ())), (a0, ())) r) := by
  refine k128_1.partial_correctness _ ?_
  · intro gk128_1 mk128_1 a0 r h
    have Hk128_1 : P12801 B (lp12801 gk128_1) := fun _ _ hx => mk128_1 _ _ hx
    have HL := Hk128_1
    exact gl cN (lC 12801 vL12801 Hk128_1 lN) vL12801 .nil (lp12801 gk128_1) HL (krw h (by kernel_rfl))
theorem ok_k128_1 (B : Nat) : P12801 B (lp12801 k128_1) := fun _ _ hx => (h_k128_1 B) _ _ hx
theorem ok_k160 (B : Nat) : P160 B (con160 k160) := by
  have h : ∀ a0 a1 r, k160 a0 a1 = some r → Q160 B ((a0, (a1, ())), ()) r := fun a0 a1 r h => gf cN lN wF160 .nil (krw h (by kernel_rfl))
  exact fun _ _ hx => h _ _ _ hx
theorem ok_k149 (B : Nat) : P149 B (con149 k149) := by
  have h : ∀ a0 a1 r, k149 a0 a1 = some r → Q149 B ((a0, (a1, ())), ()) r := fun a0 a1 r h => gf (cC (ok_k160 B) cN) lN wF149 .nil (krw h (by kernel_rfl))
  exact fun _ _ hx => h _ _ _ hx
theorem ok_k128 (B : Nat) : P128 B (con128 k128) := by
  have h : ∀ a0 r, k128 a0 = some r → Q128 B ((a0, ()), ()) r := fun a0 r h => gf (cC (ok_k149 B) cN) (lC 12800 vL12800 (ok_k128_0 B) (lC 12801 vL12801 (ok_k128_1 B) lN)) wF128 (.seq .nil (.seq (.region [(1, (.seq .nil (.seq (.seq .nil (.sub (.loop 12800))) .nil)))]) (.seq (.seq .nil (.seq (.region [(4, (.seq .nil (.seq (.seq .nil (.sub (.loop 12801))) .nil)))]) .nil)) .nil))) (krw h (by kernel_rfl))
  exact fun _ _ hx => h _ _ hx
theorem ok_k153 (B : Nat) : P153 B (con153 k153) := by
  have h : ∀ a0 r, k153 a0 = some r → Q153 B ((a0, ()), ()) r := fun a0 r h => gf cN lN wF153 .nil (krw h (by kernel_rfl))
  exact fun _ _ hx => h _ _ hx
theorem h_k129_0 (B : Nat) : (∀ a0 r, k129_0 a0 = some r → Q12900 B ((((), ()), ((), ())), (a0, ())) r) := by
  refine k129_0.partial_correctness _ ?_
  · intro gk129_0 mk129_0 a0 r h
    have Hk129_0 : P12900 B (lp12900 gk129_0) := fun _ _ hx => mk129_0 _ _ hx
    have HL := Hk129_0
    exact gl (cC (ok_k153 B) cN) (lC 12900 vL12900 Hk129_0 lN) vL12900 .nil (lp12900 gk129_0) HL (krw h (by kernel_rfl))
theorem ok_k129_0 (B : Nat) : P12900 B (lp12900 k129_0) := fun _ _ hx => (h_k129_0 B) _ _ hx
theorem ok_k151 (B : Nat) : P151 B (con151 k151) := by
  have h : ∀ a0 r, k151 a0 = some r → Q151 B ((a0, ()), ()) r := fun a0 r h => gf cN lN wF151 .nil (krw h (by kernel_rfl))
  exact fun _ _ hx => h _ _ hx
theorem h_k152_0 (B : Nat) : (∀ a0 r, k152_0 a0 = some r → Q15200 B ((((), ()), ((), ())), (a0, ())) r) := by
  refine k152_0.partial_correctness _ ?_
  · intro gk152_0 mk152_0 a0 r h
    have Hk152_0 : P15200 B (lp15200 gk152_0) := fun _ _ hx => mk152_0 _ _ hx
    have HL := Hk152_0
    exact gl (cC (ok_k151 B) (cC (ok_k153 B) cN)) (lC 15200 vL15200 Hk152_0 lN) vL15200 .nil (lp15200 gk152_0) HL (krw h (by kernel_rfl))
theorem ok_k152_0 (B : Nat) : P15200 B (lp15200 k152_0) := fun _ _ hx => (h_k152_0 B) _ _ hx
theorem ok_k152 (B : Nat) : P152 B (con152 k152) := by
  have h : ∀ a0 r, k152 a0 = some r → Q152 B ((a0, ()), ()) r := fun a0 r h => gf (cC (ok_k153 B) cN) (lC 15200 vL15200 (ok_k152_0 B) lN) wF152 (.seq .nil (.seq (.region [(1, (.seq .nil (.seq (.seq .nil (.sub (.loop 15200))) .nil)))]) .nil)) (krw h (by kernel_rfl))
  exact fun _ _ hx => h _ _ hx
theorem h_k162_0 (B : Nat) : (∀ a0 r, k162_0 a0 = some r → Q16200 B (((), ()), (a0, ())) r) := by
  refine k162_0.partial_correctness _ ?_
  · intro gk162_0 mk162_0 a0 r h
    have Hk162_0 : P16200 B (lp16200 gk162_0) := fun _ _ hx => mk162_0 _ _ hx
    have HL := Hk162_0
    exact gl cN (lC 16200 vL16200 Hk162_0 lN) vL16200 .nil (lp16200 gk162_0) HL (krw h (by kernel_rfl))
theorem ok_k162_0 (B : Nat) : P16200 B (lp16200 k162_0) := fun _ _ hx => (h_k162_0 B) _ _ hx
theorem h_k162_1 (B : Nat) : (∀ a0 a1 a2 a3 a4 r, k162_1 a0 a1 a2 a3 a4 = some r → Q16201 B ((a0, (a1, (a2, (a3, (a4, ()))))), ()) r) := by
  refine k162_1.partial_correctness _ ?_
  · intro gk162_1 mk162_1 a0 a1 a2 a3 a4 r h
    have Hk162_1 : P16201 B (lp16201 gk162_1) := fun _ _ hx => mk162_1 _ _ _ _ _ _ hx
    have HL := Hk162_1
    exact gl cN (lC 16201 vL16201 Hk162_1 lN) vL16201 .nil (lp16201 gk162_1) HL (krw h (by kernel_rfl))
theorem ok_k162_1 (B : Nat) : P16201 B (lp16201 k162_1) := fun _ _ hx => (h_k162_1 B) _ _ _ _ _ _ hx
theorem ok_k162_2 (B : Nat) : P16202 B (lp16202 k162_2) := by
  have HL : P16202 B (lp16202 (fun _ _ _ _ => none)) := fun _ _ hx => by cases hx
  have h : ∀ a0 a1 a2 a3 r, k162_2 a0 a1 a2 a3 = some r → Q16202 B ((a0, (a1, (a2, (a3, ())))), ()) r := fun a0 a1 a2 a3 r h => gl (cC (indexByte_ok B _ _) cN) (lC 16201 vL16201 (ok_k162_1 B) lN) vL16202 (.seq .nil (.sub (.sub (.seq (.join [] [] [(.normal, ⟨[(9, .int .i64)], [], []⟩), (.ret, ⟨[(4, .int .i64)], [], []⟩)] .nil) (.seq (.seq .nil (.sub (.loop 16201))) .nil))))) (lp16202 (fun _ _ _ _ => none)) HL (krw h (by kernel_rfl))
  exact fun _ _ hx => h _ _ _ _ _ hx
theorem ok_k162 (B : Nat) : P162 B (con162 k162) := by
  have h : ∀ a0 a1 r, k162 a0 a1 = some r → Q162 B ((a0, (a1, ())), ()) r := fun a0 a1 r h => gf (cC (indexByte_ok B _ _) (cC (validRune_ok B _ _) cN)) (lC 16200 vL16200 (ok_k162_0 B) (lC 16202 vL16202 (ok_k162_2 B) lN)) wF162 (.seq .nil (.sub (.seq (.join [] [] [(.normal, ⟨[(160, .bool)], [], []⟩)] .nil) (.seq .nil (.seq .nil (.seq (.seq (.seq .nil (.sub (.loop 16200))) .nil) (.seq .nil (.seq .nil (.sub (.seq .nil (.seq .nil (.seq .nil (.seq .nil (.seq (.sub (.loop 16202)) .nil)))))))))))))) (krw h (by kernel_rfl))
  exact fun _ _ hx => h _ _ _ hx
theorem ok_k154 (B : Nat) : P154 B (con154 k154) := by
  have h : ∀ a0 a1 r, k154 a0 a1 = some r → Q154 B ((a0, (a1, ())), ()) r := fun a0 a1 r h => gf (cC (ok_k162 B) cN) lN wF154 .nil (krw h (by kernel_rfl))
  exact fun _ _ hx => h _ _ _ hx
theorem ok_k129 (B : Nat) : P129 B (con129 k129) := by
  have h : ∀ a0 r, k129 a0 = some r → Q129 B ((a0, ()), ()) r := fun a0 r h => gf (cC (ok_k149 B) (cC (ok_k151 B) (cC (ok_k152 B) (cC (ok_k153 B) (cC (ok_k154 B) cN))))) (lC 12900 vL12900 (ok_k129_0 B) lN) wF129 (.seq .nil (.seq (.seq .nil (.sub (.seq .nil (.seq .nil (.seq .nil (.seq (.seq (.region [(1, (.seq .nil (.seq (.seq .nil (.sub (.loop 12900))) .nil)))]) .nil) .nil)))))) .nil)) (krw h (by kernel_rfl))
  exact fun _ _ hx => h _ _ hx
theorem h_k104_0 (B : Nat) : (∀ a0 a1 a2 r, k104_0 a0 a1 a2 = some r → Q10400 B ((a0, (a1, (a2, ()))), ()) r) := by
  refine k104_0.partial_correctness _ ?_
  · intro gk104_0 mk104_0 a0 a1 a2 r h
    have Hk104_0 : P10400 B (lp10400 gk104_0) := fun _ _ hx => mk104_0 _ _ _ _ hx
    have HL := Hk104_0
    exact gl (cC (ok_k128 B) (cC (ok_k129 B) cN)) (lC 10400 vL10400 Hk104_0 lN) vL10400 .nil (lp10400 gk104_0) HL (krw h (by kernel_rfl))
theorem ok_k104_0 (B : Nat) : P10400 B (lp10400 k104_0) := fun _ _ hx => (h_k104_0 B) _ _ _ _ hx
theorem ok_k104 (B : Nat) : P104 B (con104 k104) := by
  have h : ∀ a0 r, k104 a0 = some r → Q104 B ((a0, ()), ()) r := fun a0 r h => gf cN (lC 10400 vL10400 (ok_k104_0 B) lN) wF104 (.seq .nil (.seq .nil (.seq .nil (.seq (.seq .nil (.sub (.loop 10400))) .nil)))) (krw h (by kernel_rfl))
  exact fun _ _ hx => h _ _ hx
theorem ok_k105 (B : Nat) : P105 B (con105 k105) := by
  have h : ∀ r, k105 = some r → Q105 B ((), ()) r := fun r h => gf (cC (fields_ok B _ _) cN) lN wF105 .nil (krw h (by kernel_rfl))
  exact fun _ _ hx => h _ hx
theorem ok_k70 (B : Nat) : P70 B (con70 k70) := by
  have h : ∀ a0 r, k70 a0 = some r → Q70 B ((a0, ()), ()) r := fun a0 r h => gf (cC (ok_k40 B) (cC (ok_k104 B) (cC (ok_k105 B) cN))) lN wF70 .nil (krw h (by kernel_rfl))
  exact fun _ _ hx => h _ _ hx
theorem h_k38_0 (B : Nat) : (∀ a0 a1 a2 r, k38_0 a0 a1 a2 = some r → Q3800 B ((a0, (((), ((), ())), (a1, (a2, ())))), (((), ()), ())) r) := by
  refine k38_0.partial_correctness _ ?_
  · intro gk38_0 mk38_0 a0 a1 a2 r h
    have Hk38_0 : P3800 B (lp3800 gk38_0) := fun _ _ hx => mk38_0 _ _ _ _ hx
    have HL := Hk38_0
    exact gl (cC (ok_k70 B) cN) (lC 3800 vL3800 Hk38_0 lN) vL3800 .nil (lp3800 gk38_0) HL (krw h (by kernel_rfl))
theorem ok_k38_0 (B : Nat) : P3800 B (lp3800 k38_0) := fun _ _ hx => (h_k38_0 B) _ _ _ _ hx
theorem h_k71 (B : Nat) : (∀ a0 r, k71 a0 = some r → Q71 B ((a0, ()), ()) r) ∧ (∀ a0 a1 a2 r, k71_0 a0 a1 a2 = some r → Q7100 B ((a0, (((), ((), ())), (a1, (a2, ())))), (((), ()), ())) r) := by
  refine k71.mutual_partial_correctness _ _ ?_ ?_
  · intro gk71_0 mk71_0 a0 r h
    have Hk71_0 : P7100 B (lp7100 gk71_0) := fun _ _ hx => mk71_0 _ _ _ _ hx
    exact gf (cC (ok_k70 B) cN) (lC 7100 vL7100 Hk71_0 lN) wF71 (.seq .nil (.seq (.seq (.join [] [] [(.normal, ⟨[(16, .bool)], [], []⟩)] .nil) .nil) (.seq .nil (.seq .nil (.seq (.region [(18, (.seq .nil (.seq (.region [(6, (.seq .nil (.seq (.region [(2, (.seq .nil (.seq (.seq .nil (.sub (.loop 7100))) .nil)))]) .nil)))]) .nil)))]) .nil))))) (krw h (by kernel_rfl))
  · intro gk71 gk71_0 mk71 mk71_0 a0 a1 a2 r h
    have Hk71 : P71 B (con71 gk71) := fun _ _ hx => mk71 _ _ hx
    have Hk71_0 : P7100 B (lp7100 gk71_0) := fun _ _ hx => mk71_0 _ _ _ _ hx
    have HL := Hk71_0
    exact gl (cC Hk71 cN) (lC 7100 vL7100 Hk71_0 lN) vL7100 .nil (lp7100 gk71_0) HL (krw h (by kernel_rfl))
theorem ok_k71 (B : Nat) : P71 B (con71 k71) := fun _ _ hx => (h_k71 B).1 _ _ hx
theorem h_k38_1 (B : Nat) : (∀ a0 a1 a2 r, k38_1 a0 a1 a2 = some r → Q3801 B ((a0, (((), ((), ())), (a1, (a2, ())))), (((), ()), ())) r) := by
  refine k38_1.partial_correctness _ ?_
  · intro gk38_1 mk38_1 a0 a1 a2 r h
    have Hk38_1 : P3801 B (lp3801 gk38_1) := fun _ _ hx => mk38_1 _ _ _ _ hx
    have HL := Hk38_1
    exact gl (cC (ok_k70 B) (cC (ok_k71 B) cN)) (lC 3801 vL3801 Hk38_1 lN) vL3801 .nil (lp3801 gk38_1) HL (krw h (by kernel_rfl))
theorem ok_k38_1 (B : Nat) : P3801 B (lp3801 k38_1) := fun _ _ hx => (h_k38_1 B) _ _ _ _ hx
theorem ok_k112 (B : Nat) : P112 B (con112 k112) := by
  have h : ∀ a0 r, k112 a0 = some r → Q112 B ((a0, ()), ()) r := fun a0 r h => gf cN lN wF112 .nil (krw h (by kernel_rfl))
  exact fun _ _ hx => h _ _ hx
theorem ok_k113 (B : Nat) : P113 B (con113 k113) := by
  have h : ∀ a0 r, k113 a0 = some r → Q113 B ((a0, ()), ()) r := fun a0 r h => gf cN lN wF113 .nil (krw h (by kernel_rfl))
  exact fun _ _ hx => h _ _ hx
theorem ok_k137 (B : Nat) : P137 B (con137 k137) := by
  have h : ∀ a0 r, k137 a0 = some r → Q137 B ((a0, ()), ()) r := fun a0 r h => gf (cC (ok_k113 B) cN) lN wF137 .nil (krw h (by kernel_rfl))
  exact fun _ _ hx => h _ _ hx
theorem ok_k138 (B : Nat) : P138 B (con138 k138) := by
  have h : ∀ a0 r, k138 a0 = some r → Q138 B ((a0, ()), ()) r := fun a0 r h => gf cN lN wF138 .nil (krw h (by kernel_rfl))
  exact fun _ _ hx => h _ _ hx
theorem ok_k140 (B : Nat) : P140 B (con140 k140) := by
  have h : ∀ a0 r, k140 a0 = some r → Q140 B ((a0, ()), ()) r := fun a0 r h => gf cN lN wF140 .nil (krw h (by kernel_rfl))
  exact fun _ _ hx => h _ _ hx
theorem h_k77 (B : Nat) : (∀ a0 r, k77 a0 = some r → Q77 B ((a0, ()), ()) r) ∧ (∀ a0 a1 a2 r, k77_0 a0 a1 a2 = some r → Q7700 B ((a0, (((), ((), ())), (a1, (a2, ())))), (((), ()), ())) r) := by
  refine k77.mutual_partial_correctness _ _ ?_ ?_
  · intro gk77_0 mk77_0 a0 r h
    have Hk77_0 : P7700 B (lp7700 gk77_0) := fun _ _ hx => mk77_0 _ _ _ _ hx
    exact gf (cC (ok_k70 B) (cC (ok_k137 B) (cC (ok_k138 B) (cC (ok_k140 B) cN)))) (lC 7700 vL7700 Hk77_0 lN) wF77 (.seq .nil (.seq (.seq (.join [] [] [(.normal, ⟨[(12, .bool)], [], []⟩)] .nil) .nil) (.seq .nil (.seq (.join [] [] [(.normal, ⟨[(4, .int .i64)], [], []⟩)] .nil) (.seq (.seq (.join [] [] [(.normal, ⟨[(59, .bool)], [], []⟩)] .nil) .nil) (.seq (.region [(7, (.seq .nil (.seq (.region [(6, (.seq .nil (.seq (.region [(2, (.seq .nil (.seq (.seq .nil (.sub (.loop 7700))) .nil)))]) .nil)))]) .nil)))]) .nil)))))) (krw h (by kernel_rfl))
  · intro gk77 gk77_0 mk77 mk77_0 a0 a1 a2 r h
    have Hk77 : P77 B (con77 gk77) := fun _ _ hx => mk77 _ _ hx
    have Hk77_0 : P7700 B (lp7700 gk77_0) := fun _ _ hx => mk77_0 _ _ _ _ hx
    have HL := Hk77_0
    exact gl (cC Hk77 cN) (lC 7700 vL7700 Hk77_0 lN) vL7700 .nil (lp7700 gk77_0) HL (krw h (by kernel_rfl))
theorem ok_k77 (B : Nat) : P77 B (con77 k77) := fun _ _ hx => (h_k77 B).1 _ _ hx
theorem h_k75 (B : Nat) : (∀ a0 r, k75 a0 = some r → Q75 B ((a0, ()), ()) r) ∧ (∀ a0 a1 a2 r, k75_0 a0 a1 a2 = some r → Q7500 B ((a0, (((), ((), ())), (a1, (a2, ())))), (((), ()), ())) r) := by
  refine k75.mutual_partial_correctness _ _ ?_ ?_
  · intro gk75_0 mk75_0 a0 r h
    have Hk75_0 : P7500 B (lp7500 gk75_0) := fun _ _ hx => mk75_0 _ _ _ _ hx
    exact gf (cC (ok_k70 B) (cC (ok_k77 B) (cC (ok_k112 B) (cC (ok_k113 B) cN)))) (lC 7500 vL7500 Hk75_0 lN) wF75 (.seq .nil (.seq .nil (.seq (.sub (.seq (.join [] [] [(.normal, ⟨[(15, .bool)], [], []⟩)] .nil) (.seq .nil (.seq (.join [] [] [(.normal, ⟨[(30, .bool)], [], []⟩)] .nil) (.seq .nil (.seq (.join [] [] [(.normal, ⟨[(45, .bool)], [], []⟩)] .nil) (.seq .nil (.seq (.join [] [] [(.normal, ⟨[(66, .bool)], [], []⟩)] .nil) .nil)))))))) (.seq (.region [(2, (.join [] [] [(.ret, ⟨[(4, .bool)], [], []⟩)] (.seq .nil (.seq (.region [(6, (.seq .nil (.seq (.region [(2, (.seq .nil (.seq (.seq .nil (.sub (.loop 7500))) .nil)))]) .nil)))]) .nil)))), (6, (.seq .nil (.seq (.region [(6, (.seq .nil (.seq (.region [(2, (.seq .nil (.seq (.seq .nil (.sub (.loop 7500))) .nil)))]) .nil)))]) .nil)))]) .nil)))) (krw h (by kernel_rfl))
  · intro gk75 gk75_0 mk75 mk75_0 a0 a1 a2 r h
    have Hk75 : P75 B (con75 gk75) := fun _ _ hx => mk75 _ _ hx
    have Hk75_0 : P7500 B (lp7500 gk75_0) := fun _ _ hx => mk75_0 _ _ _ _ hx
    have HL := Hk75_0
    exact gl (cC Hk75 cN) (lC 7500 vL7500 Hk75_0 lN) vL7500 .nil (lp7500 gk75_0) HL (krw h (by kernel_rfl))
theorem ok_k75 (B : Nat) : P75 B (con75 k75) := fun _ _ hx => (h_k75 B).1 _ _ hx
theorem h_k38_2 (B : Nat) : (∀ a0 a1 a2 r, k38_2 a0 a1 a2 = some r → Q3802 B ((a0, (((), ((), ())), (a1, (a2, ())))), (((), ()), ())) r) := by
  refine k38_2.partial_correctness _ ?_
  · intro gk38_2 mk38_2 a0 a1 a2 r h
    have Hk38_2 : P3802 B (lp3802 gk38_2) := fun _ _ hx => mk38_2 _ _ _ _ hx
    have HL := Hk38_2
    exact gl (cC (ok_k75 B) cN) (lC 3802 vL3802 Hk38_2 lN) vL3802 .nil (lp3802 gk38_2) HL (krw h (by kernel_rfl))
theorem ok_k38_2 (B : Nat) : P3802 B (lp3802 k38_2) := fun _ _ hx => (h_k38_2 B) _ _ _ _ hx
theorem h_k76 (B : Nat) : (∀ a0 r, k76 a0 = some r → Q76 B ((a0, ()), ()) r) ∧ (∀ a0 a1 a2 a3 r, k76_0 a0 a1 a2 a3 = some r → Q7600 B ((((), ()), (a0, (a1, (a2, (a3, ()))))), ()) r) := by
  refine k76.mutual_partial_correctness _ _ ?_ ?_
  · intro gk76_0 mk76_0 a0 r h
    have Hk76_0 : P7600 B (lp7600 gk76_0) := fun _ _ hx => mk76_0 _ _ _ _ _ hx
    exact gf cN (lC 7600 vL7600 Hk76_0 lN) wF76 (.seq .nil (.seq (.region [(1, (.seq .nil (.seq .nil (.seq (.seq .nil (.sub (.loop 7600))) .nil))))]) .nil)) (krw h (by kernel_rfl))
  · intro gk76 gk76_0 mk76 mk76_0 a0 a1 a2 a3 r h
    have Hk76 : P76 B (con76 gk76) := fun _ _ hx => mk76 _ _ hx
    have Hk76_0 : P7600 B (lp7600 gk76_0) := fun _ _ hx => mk76_0 _ _ _ _ _ hx
    have HL := Hk76_0
    exact gl (cC Hk76 cN) (lC 7600 vL7600 Hk76_0 lN) vL7600 .nil (lp7600 gk76_0) HL (krw h (by kernel_rfl))
theorem ok_k76 (B : Nat) : P76 B (con76 k76) := fun _ _ hx => (h_k76 B).1 _ _ hx
theorem ok_k38 (B : Nat) : P38 B (con38 k38) := by
  have h : ∀ a0 r, k38 a0 = some r → Q38 B ((a0, ()), ()) r := fun a0 r h => gf (cC (ok_k70 B) (cC (ok_k71 B) (cC (ok_k76 B) (cC (ok_k77 B) cN)))) (lC 3800 vL3800 (ok_k38_0 B) (lC 3801 vL3801 (ok_k38_1 B) (lC 3802 vL3802 (ok_k38_2 B) lN))) wF38 (.seq .nil (.seq .nil (.seq (.region [(6, (.join [] [] [(.ret, ⟨[(4, .bool)], [], []⟩)] (.seq .nil (.seq (.region [(6, (.seq .nil (.seq (.region [(2, (.seq .nil (.seq (.seq .nil (.sub (.loop 3800))) .nil)))]) .nil)))]) .nil)))), (12, (.join [] [] [(.ret, ⟨[(4, .bool)], [], []⟩)] (.seq .nil (.seq (.region [(6, (.seq .nil (.seq (.region [(2, (.seq .nil (.seq (.seq .nil (.sub (.loop 3801))) .nil)))]) .nil)))]) .nil)))), (22, (.join [] [] [(.ret, ⟨[(4, .bool)], [], []⟩)] (.seq .nil (.seq (.region [(6, (.seq .nil (.seq (.region [(2, (.seq .nil (.seq (.seq .nil (.sub (.loop 3800))) .nil)))]) .nil)))]) .nil)))), (34, (.join [] [] [(.ret, ⟨[(4, .bool)], [], []⟩)] (.seq .nil (.seq (.region [(6, (.seq .nil (.seq (.region [(2, (.seq .nil (.seq (.seq .nil (.sub (.loop 3802))) .nil)))]) .nil)))]) .nil))))]) .nil))) (krw h (by kernel_rfl))
  exact fun _ _ hx => h _ _ hx
theorem h_k22_0 (B : Nat) : (∀ a0 a1 a2 r, k22_0 a0 a1 a2 = some r → Q2200 B ((a0, (((), ((), ())), (a1, (a2, ())))), (((), ()), ())) r) := by
  refine k22_0.partial_correctness _ ?_
  · intro gk22_0 mk22_0 a0 a1 a2 r h
    have Hk22_0 : P2200 B (lp2200 gk22_0) := fun _ _ hx => mk22_0 _ _ _ _ hx
    have HL := Hk22_0
    exact gl (cC (ok_k38 B) cN) (lC 2200 vL2200 Hk22_0 lN) vL2200 .nil (lp2200 gk22_0) HL (krw h (by kernel_rfl))
theorem ok_k22_0 (B : Nat) : P2200 B (lp2200 k22_0) := fun _ _ hx => (h_k22_0 B) _ _ _ _ hx
theorem ok_k127 (B : Nat) : P127 B (con127 k127) := by
  have h : ∀ a0 a1 r, k127 a0 a1 = some r → Q127 B ((a0, (a1, ())), ()) r := fun a0 a1 r h => gf (cC (ok_k140 B) cN) lN wF127 .nil (krw h (by kernel_rfl))
  exact fun _ _ hx => h _ _ _ hx
theorem h_k102 (B : Nat) : (∀ a0 r, k102 a0 = some r → Q102 B ((a0, ()), ()) r) ∧ (∀ a0 a1 a2 a3 a4 r, k102_0 a0 a1 a2 a3 a4 = some r → Q10200 B ((a0, (a1, (a2, (a3, (a4, ()))))), ()) r) := by
  refine k102.mutual_partial_correctness _ _ ?_ ?_
  · intro gk102_0 mk102_0 a0 r h
    have Hk102_0 : P10200 B (lp10200 gk102_0) := fun _ _ hx => mk102_0 _ _ _ _ _ _ hx
    exact gf cN (lC 10200 vL10200 Hk102_0 lN) wF102 (.seq .nil (.seq .nil (.seq .nil (.seq (.seq .nil (.sub (.loop 10200))) .nil)))) (krw h (by kernel_rfl))
  · intro gk102 gk102_0 mk102 mk102_0 a0 a1 a2 a3 a4 r h
    have Hk102 : P102 B (con102 gk102) := fun _ _ hx => mk102 _ _ hx
    have Hk102_0 : P10200 B (lp10200 gk102_0) := fun _ _ hx => mk102_0 _ _ _ _ _ _ hx
    have HL := Hk102_0
    exact gl (cC Hk102 (cC (ok_k127 B) cN)) (lC 10200 vL10200 Hk102_0 lN) vL10200 (.seq .nil (.seq .nil (.seq (.sub (.seq .nil (.seq .nil (.seq (.join [] [] [(.normal, ⟨[(6, .int .i64)], [], []⟩)] .nil) .nil)))) .nil))) (lp10200 gk102_0) HL (krw h (by kernel_rfl))
theorem ok_k102 (B : Nat) : P102 B (con102 k102) := fun _ _ hx => (h_k102 B).1 _ _ hx
theorem h_k99 (B : Nat) : (∀ a0 r, k99 a0 = some r → Q99 B ((a0, ()), ()) r) ∧ (∀ a0 a1 a2 a3 r, k99_0 a0 a1 a2 a3 = some r → Q9900 B ((((), ()), (a0, (a1, (a2, (a3, ()))))), ()) r) := by
  refine k99.mutual_partial_correctness _ _ ?_ ?_
  · intro gk99_0 mk99_0 a0 r h
    have Hk99_0 : P9900 B (lp9900 gk99_0) := fun _ _ hx => mk99_0 _ _ _ _ _ hx
    exact gf cN (lC 9900 vL9900 Hk99_0 lN) wF99 (.seq .nil (.seq .nil (.seq (.region [(2, (.seq .nil (.seq .nil (.seq (.seq .nil (.sub (.loop 9900))) .nil))))]) .nil))) (krw h (by kernel_rfl))
  · intro gk99 gk99_0 mk99 mk99_0 a0 a1 a2 a3 r h
    have Hk99 : P99 B (con99 gk99) := fun _ _ hx => mk99 _ _ hx
    have Hk99_0 : P9900 B (lp9900 gk99_0) := fun _ _ hx => mk99_0 _ _ _ _ _ hx
    have HL := Hk99_0
    exact gl (cC Hk99 cN) (lC 9900 vL9900 Hk99_0 lN) vL9900 .nil (lp9900 gk99_0) HL (krw h (by kernel_rfl))
theorem ok_k99 (B : Nat) : P99 B (con99 k99) := fun _ _ hx => (h_k99 B).1 _ _ hx
theorem h_k66_0 (B : Nat) : (∀ a0 a1 a2 a3 r, k66_0 a0 a1 a2 a3 = some r → Q6600 B ((((), ()), (a0, (a1, (a2, (a3, ()))))), ()) r) := by
  refine k66_0.partial_correctness _ ?_
  · intro gk66_0 mk66_0 a0 a1 a2 a3 r h
    have Hk66_0 : P6600 B (lp6600 gk66_0) := fun _ _ hx => mk66_0 _ _ _ _ _ hx
    have HL := Hk66_0
    exact gl (cC (ok_k99 B) cN) (lC 6600 vL6600 Hk66_0 lN) vL6600 .nil (lp6600 gk66_0) HL (krw h (by kernel_rfl))
theorem ok_k66_0 (B : Nat) : P6600 B (lp6600 k66_0) := fun _ _ hx => (h_k66_0 B) _ _ _ _ _ hx
theorem h_k101 (B : Nat) : (∀ a0 r, k101 a0 = some r → Q101 B ((a0, ()), ()) r) ∧ (∀ a0 a1 a2 a3 r, k101_0 a0 a1 a2 a3 = some r → Q10100 B ((((), ()), (a0, (a1, (a2, (a3, ()))))), ()) r) := by
  refine k101.mutual_partial_correctness _ _ ?_ ?_
  · intro gk101_0 mk101_0 a0 r h
    have Hk101_0 : P10100 B (lp10100 gk101_0) := fun _ _ hx => mk101_0 _ _ _ _ _ hx
    exact gf (cC (ok_k102 B) cN) (lC 10100 vL10100 Hk101_0 lN) wF101 (.seq .nil (.seq .nil (.seq (.region [(3, (.seq .nil (.seq .nil (.seq (.seq .nil (.sub (.loop 10100))) .nil)))), (6, (.seq .nil (.seq .nil (.seq (.seq .nil (.sub (.loop 10100))) .nil))))]) .nil))) (krw h (by kernel_rfl))
  · intro gk101 gk101_0 mk101 mk101_0 a0 a1 a2 a3 r h
    have Hk101 : P101 B (con101 gk101) := fun _ _ hx => mk101 _ _ hx
    have Hk101_0 : P10100 B (lp10100 gk101_0) := fun _ _ hx => mk101_0 _ _ _ _ _ hx
    have HL := Hk101_0
    exact gl (cC Hk101 cN) (lC 10100 vL10100 Hk101_0 lN) vL10100 .nil (lp10100 gk101_0) HL (krw h (by kernel_rfl))
theorem ok_k101 (B : Nat) : P101 B (con101 k101) := fun _ _ hx => (h_k101 B).1 _ _ hx
theorem h_k66_1 (B : Nat) : (∀ a0 a1 a2 a3 r, k66_1 a0 a1 a2 a3 = some r → Q6601 B ((((), ()), (a0, (a1, (a2, (a3, ()))))), ()) r) := by
  refine k66_1.partial_correctness _ ?_
  · intro gk66_1 mk66_1 a0 a1 a2 a3 r h
    have Hk66_1 : P6601 B (lp6601 gk66_1) := fun _ _ hx => mk66_1 _ _ _ _ _ hx
    have HL := Hk66_1
    exact gl (cC (ok_k101 B) cN) (lC 6601 vL6601 Hk66_1 lN) vL6601 .nil (lp6601 gk66_1) HL (krw h (by kernel_rfl))
theorem ok_k66_1 (B : Nat) : P6601 B (lp6601 k66_1) := fun _ _ hx => (h_k66_1 B) _ _ _ _ _ hx
theorem ok_k66 (B : Nat) : P66 B (con66 k66) := by
  have h : ∀ a0 r, k66 a0 = some r → Q66 B ((a0, ()), ()) r := fun a0 r h => gf (cC (ok_k99 B) (cC (ok_k102 B) cN)) (lC 6600 vL6600 (ok_k66_0 B) (lC 6601 vL6601 (ok_k66_1 B) lN)) wF66 (.seq .nil (.seq (.region [(2, (.seq .nil (.seq .nil (.seq (.seq .nil (.sub (.loop 6600))) .nil))))]) (.seq (.region [(6, (.seq .nil (.seq .nil (.seq (.seq .nil (.sub (.loop 6601))) .nil))))]) .nil))) (krw h (by kernel_rfl))
  exact fun _ _ hx => h _ _ hx
theorem h_k36_0 (B : Nat) : (∀ a0 a1 a2 a3 r, k36_0 a0 a1 a2 a3 = some r → Q3600 B ((((), ()), (a0, (a1, (a2, (a3, ()))))), ()) r) := by
  refine k36_0.partial_correctness _ ?_
  · intro gk36_0 mk36_0 a0 a1 a2 a3 r h
    have Hk36_0 : P3600 B (lp3600 gk36_0) := fun _ _ hx => mk36_0 _ _ _ _ _ hx
    have HL := Hk36_0
    exact gl (cC (ok_k66 B) cN) (lC 3600 vL3600 Hk36_0 lN) vL3600 .nil (lp3600 gk36_0) HL (krw h (by kernel_rfl))
theorem ok_k36_0 (B : Nat) : P3600 B (lp3600 k36_0) := fun _ _ hx => (h_k36_0 B) _ _ _ _ _ hx
theorem ok_k36 (B : Nat) : P36 B (con36 k36) := by
  have h : ∀ a0 r, k36 a0 = some r → Q36 B ((a0, ()), ()) r := fun a0 r h => gf cN (lC 3600 vL3600 (ok_k36_0 B) lN) wF36 (.seq .nil (.seq (.region [(1, (.seq .nil (.seq .nil (.seq (.seq .nil (.sub (.loop 3600))) .nil))))]) .nil)) (krw h (by kernel_rfl))
  exact fun _ _ hx => h _ _ hx
theorem ok_k22 (B : Nat) : P22 B (con22 k22) := by
  have h : ∀ a0 r, k22 a0 = some r → Q22 B ((a0, ()), ()) r := fun a0 r h => gf (cC (ok_k36 B) cN) (lC 2200 vL2200 (ok_k22_0 B) lN) wF22 (.seq .nil (.seq (.region [(5, (.seq .nil (.seq (.region [(6, (.seq .nil (.seq (.region [(2, (.seq .nil (.seq (.seq .nil (.sub (.loop 2200))) .nil)))]) .nil)))]) .nil)))]) .nil)) (krw h (by kernel_rfl))
  exact fun _ _ hx => h _ _ hx
theorem ok_k10 (B : Nat) : P10 B (con10 k10) := by
  have h : ∀ a0 r, k10 a0 = some r → Q10 B ((a0, ()), ()) r := fun a0 r h => gf (cC (ok_k22 B) cN) (lC 1000 vL1000 (ok_k10_0 B) lN) wF10 (.seq .nil (.seq .nil (.seq .nil (.seq (.seq .nil (.sub (.loop 1000))) (.seq (.seq (.join [] [] [(.normal, ⟨[(49, .bool)], [], []⟩)] .nil) .nil) .nil))))) (krw h (by kernel_rfl))
  exact fun _ _ hx => h _ _ hx
end Go.Lb.R
end
section
set_option maxRecDepth 1000000
set_option maxHeartbeats 0
namespace Go.Lb.R
open Go.Lb
open Go.Proofs
theorem wF5 : IsF 5 := ⟨by kernel_rfl⟩
def con5 (k : (List GF) → Int → Option ((Bool × Unit) × Unit)) : Con := ⟨⟨[(0, .sl .fn), (1, .int .u16)], [], []⟩, [(.ret, ⟨[(1000, .bool)], [], []⟩)], fun x => k x.1.1 x.1.2.1⟩
abbrev P5 (B : Nat) := FnOKs (X B) Ce 5
abbrev Q5 (B : Nat) := FnOK1 (X B) Ce 5 (con5 (fun _ _ => none))
def lp500 (k : (List GF) → Str → Option ((Str × Unit) × Unit)) : Con := ⟨⟨[(0, .sl .fn), (5, .str)], [], []⟩, [(.exit 0, ⟨[(5, .str)], [], []⟩)], fun x => k x.1.1 x.1.2.1⟩
theorem vL500 : IsL 5 [0, 0, 1, 1, 1, 1] := ⟨wF5, by kernel_rfl⟩
abbrev P500 (B : Nat) := LpOKs (X B) Ce (fX 5).n (bX 5 [0, 0, 1, 1, 1, 1])
abbrev Q500 (B : Nat) := LoopOK1 (X B) Ce (fX 5).n (bX 5 [0, 0, 1, 1, 1, 1]) (lp500 (fun _ _ => none))
theorem h_k5_0 (B : Nat) : (∀ a0 a1 r, k5_0 a0 a1 = some r → Q500 B ((a0, (a1, ())), ()) r) := by
  refine k5_0.partial_correctness _ ?_
  · intro gk5_0 mk5_0 a0 a1 r h
    have Hk5_0 : P500 B (lp500 gk5_0) := fun _ _ hx => mk5_0 _ _ _ hx
    have HL := Hk5_0
    exact gl (cC (ok_k13 B) cN) (lC 500 vL500 Hk5_0 lN) vL500 .nil (lp500 gk5_0) HL (krw h (by kernel_rfl))
theorem ok_k5_0 (B : Nat) : P500 B (lp500 k5_0) := fun _ _ hx => (h_k5_0 B) _ _ _ hx
theorem ok_k5 (B : Nat) : P5 B (con5 k5) := by
  have h : ∀ a0 a1 r, k5 a0 a1 = some r → Q5 B ((a0, (a1, ())), ()) r := fun a0 a1 r h => gf (cC (awake_ok B _ _) (cC (ok_k7 B) (cC (ok_k10 B) cN))) (lC 500 vL500 (ok_k5_0 B) lN) wF5 (.seq .nil (.seq .nil (.seq (.seq (.join [] [] [(.normal, ⟨[(21, .bool)], [], []⟩)] .nil) .nil) (.seq .nil (.seq (.sub (.loop 500)) .nil))))) (krw h (by kernel_rfl))
  exact fun _ _ hx => h _ _ _ hx
end Go.Lb.R
end
section
set_option maxRecDepth 1000000
namespace Go.Proofs.YtdnndjdlfpkjlaaGreatDoor
open Go.ChangeShapes Go.WideShapes Go.RowKit Go.Lb Go.Lb.R
abbrev laidL : List (String × DataW Unit) := [("errors.errorType", Rows.laid_errors_errorType), ("unicode.White_Space", Rows.laid_unicode_White_Space), ("strings.asciiSpace", Rows.laid_strings_asciiSpace)]
theorem own : ownKnob Tryz.prog.godebug = none := by kernel_rfl
theorem et : Tryz.prog.globalNamed "errors.errorType" = some 0 := by kernel_rfl
theorem rt : (Tryz.prog.cutTypes.find? (·.1 == "internal/reflectlite.rtype")).map (·.2) = some 129 := by kernel_rfl
theorem oneRow : ((List.range 227).filter fun t => Tryz.prog.rowNamed t [101, 114, 114, 111, 114]) = [29] := by kernel_rfl
theorem size : Tryz.prog.types.size = 227 := by kernel_rfl
theorem handle_of_laid {W : World} (h : laidMetH Tryz.prog laidL W) : W.var? Tryz.prog "errors.errorType" = some #[.iface 129 (.agg #[.pointer (some ⟨5, 29, none⟩)])] := by
  have h' : laidMet Tryz.prog [("unicode.White_Space", Rows.laid_unicode_White_Space), ("strings.asciiSpace", Rows.laid_strings_asciiSpace)] W ∧ handlesMet Tryz.prog [("errors.errorType", Rows.laid_errors_errorType)] W := h
  obtain ⟨name, u, ty, e1, e2, e3, e4, e5⟩ := h'.2 _ (List.mem_singleton.2 rfl)
  have en : name = [101, 114, 114, 111, 114] := (Option.some.inj e1).symm
  subst en
  obtain rfl := Option.some.inj (rt.symm.trans e2)
  have hm : ty ∈ (List.range 227).filter fun t => Tryz.prog.rowNamed t [101, 114, 114, 111, 114] := List.mem_filter.2 ⟨List.mem_range.2 (by rw [← size]; exact e3), e4⟩
  rw [oneRow] at hm
  obtain rfl := List.mem_singleton.1 hm
  have hh : typeHandle Tryz.prog 29 = .pointer (some ⟨5, 29, none⟩) := by kernel_rfl
  rw [hh] at e5
  exact e5
theorem space_of_laid {W : World} (h : laidMetH Tryz.prog laidL W) : Lib.TabIs Tryz.prog W "strings.asciiSpace" .u8 Lib.asciiSpaceTab := by
  have h' : laidMet Tryz.prog [("unicode.White_Space", Rows.laid_unicode_White_Space), ("strings.asciiSpace", Rows.laid_strings_asciiSpace)] W ∧ handlesMet Tryz.prog [("errors.errorType", Rows.laid_errors_errorType)] W := h
  have h2 : laidMet Tryz.prog (("strings.asciiSpace", Lib.tabData .u8 Lib.asciiSpaceTab) :: []) W := laidMet.filter (fun x => x.1 == "strings.asciiSpace") h'.1
  exact Lib.tabIs_of_head (g := 1) (t := 171) (e := 5) (n := 256) (by kernel_rfl) (by kernel_rfl) (by kernel_rfl) (by kernel_rfl) (by kernel_rfl) (by kernel_rfl) h2
noncomputable def laidWorld (os : Os) : World :=
  let w0 := World.holding Tryz.prog os ⟨#[], #[], []⟩
  let w1 := { w0 with heap := w0.heap.modify 0 fun
      | .cells _ t frozen => .cells #[.iface 129 (.agg #[.pointer (some ⟨5, 29, none⟩)])] t frozen
      | o => o }
  w1.layVars Tryz.prog [("unicode.White_Space", Rows.laid_unicode_White_Space), ("strings.asciiSpace", Rows.laid_strings_asciiSpace)]
theorem laidWorld_met (os : Os) (args : Array Value) : laidMetH Tryz.prog laidL ((laidWorld os).forCall (fun _ _ => 0) ⟨#[], args, []⟩).memory :=
  laidMetH_of_parts (laidMet_of_run' (l := [("unicode.White_Space", Rows.laid_unicode_White_Space), ("strings.asciiSpace", Rows.laid_strings_asciiSpace)]) 60 (by kernel_rfl) (by kernel_rfl)) (by kernel_rfl)
end Go.Proofs.YtdnndjdlfpkjlaaGreatDoor
end
section
set_option maxRecDepth 1000000
namespace Go.Proofs.YtdnndjdlfpkjlaaGreatDoor
open Go.ChangeShapes Go.WideShapes Go.RowKit Go.Lb Go.Lb.R
theorem grel_of_laid {W : World} (h : laidMetH Tryz.prog laidL W) : GRel W.heap.size (fzW W) W G0 := by
  intro g
  have h1 := handle_of_laid h
  have h2 : W.var? Tryz.prog "strings.asciiSpace" = some (Lib.asciiSpaceTab.map fun z => Value.int .u8 z).toArray := space_of_laid h
  have e2 : Tryz.prog.globalNamed "strings.asciiSpace" = some 1 := by kernel_rfl
  unfold World.var? at h1 h2
  rw [et] at h1
  rw [e2] at h2
  simp only [Option.bind_some] at h1 h2
  by_cases g1 : g = 1
  · subst g1
    show GRel1 W.heap.size (fzW W) W 1 (.agg (Lib.asciiSpaceTab.map (AV.int .u8)))
    split at h2
    · rename_i cs E fr hh
      injection h2 with h2
      subst h2
      refine ⟨(Array.getElem?_eq_some_iff.1 hh).1, _, _, _, hh, ?_⟩
      have : ∀ zs : List Int, RelL (fzW W) W (zs.map (AV.int .u8)) (zs.map fun z => Value.int .u8 z) := by
        intro zs
        induction zs with
        | nil => simp [RelL]
        | cons z zs ih =>
          simp only [List.map_cons, RelL]
          exact ⟨_, _, rfl, by simp only [Rel], ih⟩
      simpa using this Lib.asciiSpaceTab
    · cases h2
  · by_cases g0 : g = 0
    · subst g0
      show GRel1 W.heap.size (fzW W) W 0 (.agg [.iface 129 (.agg [.ptr 5 29])])
      split at h1
      · rename_i cs E fr hh
        injection h1 with h1
        subst h1
        refine ⟨(Array.getElem?_eq_some_iff.1 hh).1, _, _, _, hh, ?_⟩
        simp only [RelL]
        refine ⟨_, [], rfl, ?_, rfl⟩
        simp only [Rel]
        refine ⟨_, rfl, _, rfl, ?_⟩
        simp only [RelL]
        exact ⟨_, [], rfl, by simp only [Rel], rfl⟩
      · cases h1
    · have : G0 g = .junk := by unfold G0; rw [if_neg (by unfold gAscii; exact g1), if_neg g0]
      rw [this]
      show Rel _ _ _ _
      simp only [Rel]
theorem srel_start (W : World) : SRel W.heap.size (fzW W) (fun _ => none) W :=
  ⟨Nat.le_refl _, fun b o h => h, fun b k h => by cases h⟩
theorem keptBut_of_below {W W' : World} (h : Below W.heap.size W W') (may : MemPlace → Prop) : W.keptBut W' may := by
  refine ⟨h.os, h.output, fun i hi => ?_⟩
  rw [h.block i hi]
  cases hh : W.heap[i]? with
  | none => trivial
  | some o =>
    cases o <;> simp
theorem bool_call {B : Nat} {f : FuncId} {L : Con} {x : DenF L.f} {y : DenA L.al} (h : FnOK1 (X B) Ce f L x y) (hal : ∀ f' y', OutA L.al y .ret f' y' → ∀ t' h' h0 N', SR Ce.I N' (stF f' y') t' h' h0 → t' 1000 = .bool true) {W : World} (hB : B = W.heap.size) (hG : GRel B (fzW W) W G0) {cargs : Array Value} (hbl : L.f.bl = []) (hrw : L.f.rw = [])
    (hargs : RelL (fzW W) W (Val.encL Ce.I N00 ((stS L.f.sl x.1).map (·.2))) cargs.toList) (hok : ∀ i, okV N00 0 (lkV (stS L.f.sl x.1) i)) : Calls Tryz.prog f cargs W fun e W' => e = .returned (.bool true) ∧ Below W.heap.size W W' := by
  subst hB
  have hs : SR Ce.I N00 (stF L.f x) (fun i => (lkV (stS L.f.sl x.1) i).enc Ce.I N00) (fun _ => none) (fun _ => none) := by
    obtain ⟨xs, xb⟩ := x
    have hb : ∀ (bl : List (Nat × BSh)) (xb : DenBS bl), bl = [] → stB bl xb = [] := by intro bl xb e; subst e; rfl
    have hc : maxN (fnums L.f) = 0 := by simp [fnums, hbl, hrw, maxN]
    refine { heap := ⟨[], ?_, ?_, ?_⟩, okH := ?_, okF := fun e he => (by cases he), okR := ?_, slots := fun i _ => rfl, okA := ?_ }
    · show 0 = (stB L.f.bl xb).length
      rw [hb _ xb hbl]; rfl
    · intro i nm b hi
      have : (stB L.f.bl xb)[i]? = some (nm, b) := hi
      rw [hb _ xb hbl] at this
      simp at this
    · show HP _ _ [] ((L.f.rw).map (rowR N00))
      rw [hrw]
      exact HP.nil _
    · intro e he
      have : e ∈ stB L.f.bl xb := he
      rw [hb _ xb hbl] at this
      cases this
    · intro r hr
      have : r ∈ L.f.rw := hr
      rw [hrw] at this
      cases this
    · intro i
      show okV N00 (maxN (fnums L.f)) _
      rw [hc]
      exact hok i
  refine ((h N00 _ _ _ hs).2 (fzW W) W cargs (srel_start W) hG hargs).mono ?_
  rintro e W' ⟨r, h', fz', ⟨av, f', y', N', t', rfl, ho, _, _, hsr, hw⟩, hend, hsrel, hev⟩
  cases e with
  | returned c =>
    have hc := hw _ _ _ hend
    rw [hal f' y' ho t' h' _ N' hsr] at hc
    simp only [Rel] at hc
    subst hc
    exact ⟨rfl, hev.below⟩
  | _ => exact hend.elim
end Go.Proofs.YtdnndjdlfpkjlaaGreatDoor
end
section
set_option maxRecDepth 1000000
namespace Go.Proofs.YtdnndjdlfpkjlaaGreatDoor
open Go.ChangeShapes Go.WideShapes Go.RowKit Go.Lb Go.Lb.R
mutual
theorem bulk_eq {H : Type} : ∀ d : DataW H, Rows.uptoBulk d = bulk d
  | .lit (.string _) => by simp only [Rows.uptoBulk, bulk]
  | .lit (.bool _) => by simp only [Rows.uptoBulk, bulk]
  | .lit (.int _ _) => by simp only [Rows.uptoBulk, bulk]
  | .lit (.float _ _) => by simp only [Rows.uptoBulk, bulk]
  | .lit .nil => by simp only [Rows.uptoBulk, bulk]
  | .nil => by simp only [Rows.uptoBulk, bulk]
  | .ptr d => by simp only [Rows.uptoBulk, bulk, bulk_eq d]
  | .slice a b => by simp only [Rows.uptoBulk, bulk, bulkAll_eq a, bulkAll_eq b]
  | .agg a => by simp only [Rows.uptoBulk, bulk, bulkAll_eq a]
  | .iface _ d => by simp only [Rows.uptoBulk, bulk, bulk_eq d]
  | .map l => by simp only [Rows.uptoBulk, bulk, bulkEntries_eq l]
  | .held _ => by simp only [Rows.uptoBulk, bulk]
theorem bulkAll_eq {H : Type} : ∀ d : List (DataW H), Rows.uptoBulkAll d = bulkAll d
  | [] => by simp only [Rows.uptoBulkAll, bulkAll]
  | d :: r => by simp only [Rows.uptoBulkAll, bulkAll, bulk_eq d, bulkAll_eq r]
theorem bulkEntries_eq {H : Type} : ∀ d : List (Lit × DataW H), Rows.uptoBulkEntries d = bulkEntries d
  | [] => by simp only [Rows.uptoBulkEntries, bulkEntries]
  | d :: r => by simp only [Rows.uptoBulkEntries, bulkEntries, bulkEntry_eq d, bulkEntries_eq r]
theorem bulkEntry_eq {H : Type} : ∀ d : Lit × DataW H, Rows.uptoBulkEntry d = bulkEntry d
  | (.string _, d) => by simp only [Rows.uptoBulkEntry, bulkEntry, bulk_eq d]
  | (.bool _, d) => by simp only [Rows.uptoBulkEntry, bulkEntry, bulk_eq d]
  | (.int _ _, d) => by simp only [Rows.uptoBulkEntry, bulkEntry, bulk_eq d]
  | (.float _ _, d) => by simp only [Rows.uptoBulkEntry, bulkEntry, bulk_eq d]
  | (.nil, d) => by simp only [Rows.uptoBulkEntry, bulkEntry, bulk_eq d]
end
theorem cTy : Tryz.prog.cellsOf 34 = 4 := by kernel_rfl
theorem cEx : Tryz.prog.cellsOf 40 = 5 := by kernel_rfl
theorem cSt : Tryz.prog.cellsOf 65 = 14 := by kernel_rfl
theorem cPa : Tryz.prog.cellsOf 52 = 5 := by kernel_rfl
theorem cFu : Tryz.prog.cellsOf 42 = 14 := by kernel_rfl
theorem cIn : Tryz.prog.cellsOf 3 = 1 := by kernel_rfl
theorem cIq : Tryz.prog.cellsOf 2 = 1 := by kernel_rfl
theorem cBo : Tryz.prog.cellsOf 4 = 1 := by kernel_rfl
theorem cSr : Tryz.prog.cellsOf 9 = 1 := by kernel_rfl
theorem cLT : Tryz.prog.cellsOf 32 = 1 := by kernel_rfl
theorem cLE : Tryz.prog.cellsOf 38 = 1 := by kernel_rfl
theorem cLS : Tryz.prog.cellsOf 37 = 1 := by kernel_rfl
theorem cLP : Tryz.prog.cellsOf 36 = 1 := by kernel_rfl
theorem cLN : Tryz.prog.cellsOf 35 = 1 := by kernel_rfl
section
variable {H : Type} {enc : TypeId × Value → H} {W : World} {spare : Nat → Bool} {held : Bool}
theorem len4 {α : Type} {l : List α} (h : l.length = 4) : ∃ a b c d, l = [a, b, c, d] := by
  match l, h with
  | [a, b, c, d], _ => exact ⟨a, b, c, d, rfl⟩
theorem len5 {α : Type} {l : List α} (h : l.length = 5) : ∃ a b c d e, l = [a, b, c, d, e] := by
  match l, h with
  | [a, b, c, d, e], _ => exact ⟨a, b, c, d, e, rfl⟩
theorem len14 {α : Type} {l : List α} (h : l.length = 14) : ∃ a b c d e f g a' b' c' d' e' f' g', l = [a, b, c, d, e, f, g, a', b', c', d', e', f', g'] := by
  match l, h with
  | [a, b, c, d, e, f, g, a', b', c', d', e', f', g'], _ => exact ⟨a, b, c, d, e, f, g, a', b', c', d', e', f', g', rfl⟩
theorem rel_str {s : Str} (hs : s.length ≤ MX) : Rel (fzW W) W (.str s) (.string ⟨s.toArray⟩) := by
  simp only [Rel]
  exact ⟨trivial, by simpa only [MX] using hs⟩
theorem rel_int {k : IntKind} {n : Int} : Rel (fzW W) W (.int k n) (.int k n) := by simp only [Rel]
theorem rel_bool {b : Bool} : Rel (fzW W) W (.bool b) (.bool b) := by simp only [Rel]
theorem rd_nm (fuel : Nat) (cs : List Value) (d : DataW H) (ps : List MemPlace) (h : DataW.trod enc Tryz.prog W 0 spare held fuel 9 cs = some (d, ps)) : ∃ x : Str, x.length ≤ MX ∧ szN x ≤ bulk d ∧ RelL (fzW W) W (Enc.enc x) cs := by
  obtain ⟨s, hs, rfl, hb⟩ := rd_str Tryz.underlying9 h
  exact ⟨s, hs, by simp only [szN]; simp only at hb; omega, by show RelL _ _ [.str s] _; rw [RelL_cons, RelL_nil]; exact ⟨rel_str hs, trivial⟩⟩
theorem rd_ty : ∀ (fuel : Nat) (cs : List Value) (d : DataW H) (ps : List MemPlace), DataW.trod enc Tryz.prog W 0 spare held fuel 34 cs = some (d, ps) → ∃ x : GT, okT x ∧ szT x ≤ bulk d ∧ RelL (fzW W) W (Enc.enc x) cs := by
  intro fuel
  induction fuel using Nat.strongRecOn with
  | _ fuel ih =>
    intro cs d ps h
    cases fuel with
    | zero => unfold DataW.trod at h; cases h
    | succ fuel =>
      obtain ⟨hl, xs, hf, hb⟩ := rd_st Tryz.underlying34 h
      rw [cTy] at hl
      obtain ⟨v0, v1, v2, v3, rfl⟩ := len4 hl
      obtain ⟨y0, t0, h0, hf0, eq0⟩ := mapM_cons' hf
      obtain ⟨y1, t1, h1, hf1, eq1⟩ := mapM_cons' hf0
      obtain ⟨y2, t2, h2, hf2, eq2⟩ := mapM_cons' hf1
      obtain ⟨y3, t3, h3, hf3, eq3⟩ := mapM_cons' hf2
      have eqn := mapM_nil' hf3
      subst eq0; subst eq1; subst eq2; subst eq3; subst eqn
      simp only [cIn, cSr, cBo, cLT, List.drop_succ_cons, List.drop_zero, List.take_succ_cons, List.take_zero] at h0 h1 h2 h3
      obtain ⟨n, e0, _, _⟩ := rd_int Tryz.underlying3 h0
      obtain ⟨s, hs, e1, b1⟩ := rd_str Tryz.underlying9 h1
      obtain ⟨b, e2, _⟩ := rd_bool Tryz.underlying4 h2
      injection e0 with e0 _
      injection e1 with e1 _
      injection e2 with e2 _
      subst e0; subst e1; subst e2
      obtain ⟨l, hl1, hl2, hl3, hl4⟩ := rd_sl1 (α := GT) (ok := okT) (w := szT) (sz := 4) Tryz.underlying32 cTy rfl (by decide) (fun f hf cs d ps h => ih f (by omega) cs d ps h) h3
      simp only [List.map_cons, List.map_nil, bulkAll] at hb
      refine ⟨.mk n s b l, by simp only [okT]; exact ⟨hs, hl1, okTs_of hl2⟩, by simp only [szT, szTs_sum]; omega, ?_⟩
      show RelL (fzW W) W [.int .i64 n, .str s, .bool b, .sl l.length (encTs l) .shared] _
      simp only [RelL_cons, RelL_nil, and_true]
      exact ⟨rel_int, rel_str hs, rel_bool, hl4⟩
theorem rd_ex : ∀ (fuel : Nat) (cs : List Value) (d : DataW H) (ps : List MemPlace), DataW.trod enc Tryz.prog W 0 spare held fuel 40 cs = some (d, ps) → ∃ x : GE, okE x ∧ szE x ≤ bulk d ∧ RelL (fzW W) W (Enc.enc x) cs := by
  intro fuel
  induction fuel using Nat.strongRecOn with
  | _ fuel ih =>
    intro cs d ps h
    cases fuel with
    | zero => unfold DataW.trod at h; cases h
    | succ fuel =>
      obtain ⟨hl, xs, hf, hb⟩ := rd_st Tryz.underlying40 h
      rw [cEx] at hl
      obtain ⟨v0, v1, v2, v3, v4, rfl⟩ := len5 hl
      obtain ⟨y0, t0, h0, hf0, eq0⟩ := mapM_cons' hf
      obtain ⟨y1, t1, h1, hf1, eq1⟩ := mapM_cons' hf0
      obtain ⟨y2, t2, h2, hf2, eq2⟩ := mapM_cons' hf1
      obtain ⟨y3, t3, h3, hf3, eq3⟩ := mapM_cons' hf2
      obtain ⟨y4, t4, h4, hf4, eq4⟩ := mapM_cons' hf3
      have eqn := mapM_nil' hf4
      subst eq0; subst eq1; subst eq2; subst eq3; subst eq4; subst eqn
      simp only [cIn, cIq, cSr, cBo, cLE, List.drop_succ_cons, List.drop_zero, List.take_succ_cons, List.take_zero] at h0 h1 h2 h3 h4
      obtain ⟨n, e0, _, _⟩ := rd_int Tryz.underlying3 h0
      obtain ⟨q, e1, _, _⟩ := rd_int Tryz.underlying2 h1
      obtain ⟨s, hs, e2, b2⟩ := rd_str Tryz.underlying9 h2
      obtain ⟨b, e3, _⟩ := rd_bool Tryz.underlying4 h3
      injection e0 with e0 _
      injection e1 with e1 _
      injection e2 with e2 _
      injection e3 with e3 _
      subst e0; subst e1; subst e2; subst e3
      obtain ⟨l, hl1, hl2, hl3, hl4⟩ := rd_sl1 (α := GE) (ok := okE) (w := szE) (sz := 5) Tryz.underlying38 cEx rfl (by decide) (fun f hf cs d ps h => ih f (by omega) cs d ps h) h4
      simp only [List.map_cons, List.map_nil, bulkAll] at hb
      refine ⟨.mk n q s b l, by simp only [okE]; exact ⟨hs, hl1, okEs_of hl2⟩, by simp only [szE, szEs_sum]; omega, ?_⟩
      show RelL (fzW W) W [.int .i64 n, .int .i64 q, .str s, .bool b, .sl l.length (encEs l) .shared] _
      simp only [RelL_cons, RelL_nil, and_true]
      exact ⟨rel_int, rel_int, rel_str hs, rel_bool, hl4⟩
theorem relTy {x : GT} {a b c d : Value} (h : RelL (fzW W) W (Enc.enc x) [a, b, c, d]) : Rel (fzW W) W (.int .i64 x.kind) a ∧ Rel (fzW W) W (.str x.life) b ∧ Rel (fzW W) W (.bool x.mu) c ∧ Rel (fzW W) W (.sl x.kids.length (encTs x.kids) .shared) d := by
  have h' : RelL (fzW W) W [.int .i64 x.kind, .str x.life, .bool x.mu, .sl x.kids.length (encTs x.kids) .shared] [a, b, c, d] := h
  simpa only [RelL_cons, RelL_nil, and_true] using h'
theorem relEx {x : GE} {a b c d e : Value} (h : RelL (fzW W) W (Enc.enc x) [a, b, c, d, e]) : Rel (fzW W) W (.int .i64 x.kind) a ∧ Rel (fzW W) W (.int .i64 x.num) b ∧ Rel (fzW W) W (.str x.name) c ∧ Rel (fzW W) W (.bool x.mu) d ∧ Rel (fzW W) W (.sl x.kids.length (encEs x.kids) .shared) e := by
  have h' : RelL (fzW W) W [.int .i64 x.kind, .int .i64 x.num, .str x.name, .bool x.mu, .sl x.kids.length (encEs x.kids) .shared] [a, b, c, d, e] := h
  simpa only [RelL_cons, RelL_nil, and_true] using h'
theorem rd_stm : ∀ (fuel : Nat) (cs : List Value) (d : DataW H) (ps : List MemPlace), DataW.trod enc Tryz.prog W 0 spare held fuel 65 cs = some (d, ps) → ∃ x : GS, okS x ∧ szS x ≤ bulk d ∧ RelL (fzW W) W (Enc.enc x) cs := by
  intro fuel
  induction fuel using Nat.strongRecOn with
  | _ fuel ih =>
    intro cs d ps h
    cases fuel with
    | zero => unfold DataW.trod at h; cases h
    | succ fuel =>
      obtain ⟨hl, xs, hf, hb⟩ := rd_st Tryz.underlying65 h
      rw [cSt] at hl
      obtain ⟨v0, v1, v2, v3, v4, v5, v6, v7, v8, v9, v10, v11, v12, v13, rfl⟩ := len14 hl
      obtain ⟨y0, t0, h0, hf0, eq0⟩ := mapM_cons' hf
      obtain ⟨y1, t1, h1, hf1, eq1⟩ := mapM_cons' hf0
      obtain ⟨y2, t2, h2, hf2, eq2⟩ := mapM_cons' hf1
      obtain ⟨y3, t3, h3, hf3, eq3⟩ := mapM_cons' hf2
      obtain ⟨y4, t4, h4, hf4, eq4⟩ := mapM_cons' hf3
      obtain ⟨y5, t5, h5, hf5, eq5⟩ := mapM_cons' hf4
      have eqn := mapM_nil' hf5
      subst eq0; subst eq1; subst eq2; subst eq3; subst eq4; subst eq5; subst eqn
      simp only [cIn, cSr, cEx, cLS, List.drop_succ_cons, List.drop_zero, List.take_succ_cons, List.take_zero] at h0 h1 h2 h3 h4 h5
      obtain ⟨n, e0, _, _⟩ := rd_int Tryz.underlying3 h0
      obtain ⟨s, hs, e1, b1⟩ := rd_str Tryz.underlying9 h1
      injection e0 with e0 _
      injection e1 with e1 _
      subst e0; subst e1
      obtain ⟨p, op, wp, rp⟩ := rd_ex fuel _ y2.1 y2.2 h2
      obtain ⟨e, oe, we, re⟩ := rd_ex fuel _ y3.1 y3.2 h3
      obtain ⟨l, hl1, hl2, hl3, hl4⟩ := rd_sl1 (α := GS) (ok := okS) (w := szS) (sz := 14) Tryz.underlying37 cSt rfl (by decide) (fun f hf cs d ps h => ih f (by omega) cs d ps h) h4
      obtain ⟨m, hm1, hm2, hm3, hm4⟩ := rd_sl1 (α := GS) (ok := okS) (w := szS) (sz := 14) Tryz.underlying37 cSt rfl (by decide) (fun f hf cs d ps h => ih f (by omega) cs d ps h) h5
      simp only [List.map_cons, List.map_nil, bulkAll] at hb
      obtain ⟨p1, p2, p3, p4, p5⟩ := relEx rp
      obtain ⟨q1, q2, q3, q4, q5⟩ := relEx re
      refine ⟨.mk n s p e l m, by simp only [okS]; exact ⟨hs, op, oe, ⟨hl1, okSs_of hl2⟩, hm1, okSs_of hm2⟩, by simp only [szS, szSs_sum]; omega, ?_⟩
      show RelL (fzW W) W [.int .i64 n, .str s, .int .i64 p.kind, .int .i64 p.num, .str p.name, .bool p.mu, .sl p.kids.length (encEs p.kids) .shared, .int .i64 e.kind, .int .i64 e.num, .str e.name, .bool e.mu, .sl e.kids.length (encEs e.kids) .shared, .sl l.length (encSts l) .shared, .sl m.length (encSts m) .shared] _
      simp only [RelL_cons, RelL_nil, and_true]
      exact ⟨rel_int, rel_str hs, p1, p2, p3, p4, p5, q1, q2, q3, q4, q5, hl4, hm4⟩
theorem rd_pa (fuel : Nat) (cs : List Value) (d : DataW H) (ps : List MemPlace) (h : DataW.trod enc Tryz.prog W 0 spare held fuel 52 cs = some (d, ps)) : ∃ x : GP, (x.name.length ≤ MX ∧ okT x.ty) ∧ szP x ≤ bulk d ∧ RelL (fzW W) W (Enc.enc x) cs := by
  cases fuel with
  | zero => unfold DataW.trod at h; cases h
  | succ fuel =>
    obtain ⟨hl, xs, hf, hb⟩ := rd_st Tryz.underlying52 h
    rw [cPa] at hl
    obtain ⟨v0, v1, v2, v3, v4, rfl⟩ := len5 hl
    obtain ⟨y0, t0, h0, hf0, eq0⟩ := mapM_cons' hf
    obtain ⟨y1, t1, h1, hf1, eq1⟩ := mapM_cons' hf0
    have eqn := mapM_nil' hf1
    subst eq0; subst eq1; subst eqn
    simp only [cSr, cTy, List.drop_succ_cons, List.drop_zero, List.take_succ_cons, List.take_zero] at h0 h1
    obtain ⟨s, hs, e0, b0⟩ := rd_str Tryz.underlying9 h0
    injection e0 with e0 _
    subst e0
    obtain ⟨t, ot, wt, rt⟩ := rd_ty fuel _ y1.1 y1.2 h1
    simp only [List.map_cons, List.map_nil, bulkAll] at hb
    obtain ⟨p1, p2, p3, p4⟩ := relTy rt
    refine ⟨⟨s, t⟩, ⟨hs, ot⟩, by simp only [szP]; omega, ?_⟩
    show RelL (fzW W) W [.str s, .int .i64 t.kind, .str t.life, .bool t.mu, .sl t.kids.length (encTs t.kids) .shared] _
    simp only [RelL_cons, RelL_nil, and_true]
    exact ⟨rel_str hs, p1, p2, p3, p4⟩
theorem rd_fn (fuel : Nat) (cs : List Value) (d : DataW H) (ps : List MemPlace) (h : DataW.trod enc Tryz.prog W 0 spare held fuel 42 cs = some (d, ps)) : ∃ x : GF, okF x ∧ szF x ≤ bulk d ∧ RelL (fzW W) W (Enc.enc x) cs := by
  cases fuel with
  | zero => unfold DataW.trod at h; cases h
  | succ fuel =>
    obtain ⟨hl, xs, hf, hb⟩ := rd_st Tryz.underlying42 h
    rw [cFu] at hl
    obtain ⟨v0, v1, v2, v3, v4, v5, v6, v7, v8, v9, v10, v11, v12, v13, rfl⟩ := len14 hl
    obtain ⟨y0, t0, h0, hf0, eq0⟩ := mapM_cons' hf
    obtain ⟨y1, t1, h1, hf1, eq1⟩ := mapM_cons' hf0
    obtain ⟨y2, t2, h2, hf2, eq2⟩ := mapM_cons' hf1
    obtain ⟨y3, t3, h3, hf3, eq3⟩ := mapM_cons' hf2
    obtain ⟨y4, t4, h4, hf4, eq4⟩ := mapM_cons' hf3
    obtain ⟨y5, t5, h5, hf5, eq5⟩ := mapM_cons' hf4
    obtain ⟨y6, t6, h6, hf6, eq6⟩ := mapM_cons' hf5
    have eqn := mapM_nil' hf6
    subst eq0; subst eq1; subst eq2; subst eq3; subst eq4; subst eq5; subst eq6; subst eqn
    simp only [cSr, cLN, cLP, cTy, cLS, cEx, List.drop_succ_cons, List.drop_zero, List.take_succ_cons, List.take_zero] at h0 h1 h2 h3 h4 h5 h6
    obtain ⟨s, hs, e0, b0⟩ := rd_str Tryz.underlying9 h0
    injection e0 with e0 _
    subst e0
    obtain ⟨lv, l1, l2, l3, l4⟩ := rd_sl1 (α := Str) (ok := fun x => x.length ≤ MX) (w := szN) (sz := 1) Tryz.underlying35 cSr rfl (by decide) (fun f _ => rd_nm f) h1
    obtain ⟨pa, p1, p2, p3, p4⟩ := rd_sl1 (α := GP) (ok := fun x => x.name.length ≤ MX ∧ okT x.ty) (w := szP) (sz := 5) Tryz.underlying36 cPa rfl (by decide) (fun f _ => rd_pa f) h2
    obtain ⟨g, og, wg, rg⟩ := rd_ty fuel _ y3.1 y3.2 h3
    obtain ⟨ou, o1, o2, o3, o4⟩ := rd_sl1 (α := Str) (ok := fun x => x.length ≤ MX) (w := szN) (sz := 1) Tryz.underlying35 cSr rfl (by decide) (fun f _ => rd_nm f) h4
    obtain ⟨bo, b1, b2, b3, b4⟩ := rd_sl1 (α := GS) (ok := okS) (w := szS) (sz := 14) Tryz.underlying37 cSt rfl (by decide) (fun f _ => rd_stm f) h5
    obtain ⟨v, ov, wv, rv⟩ := rd_ex fuel _ y6.1 y6.2 h6
    simp only [List.map_cons, List.map_nil, bulkAll] at hb
    obtain ⟨g1, g2, g3, g4⟩ := relTy rg
    obtain ⟨q1, q2, q3, q4, q5⟩ := relEx rv
    refine ⟨⟨s, lv, pa, g, ou, bo, v⟩, ⟨hs, ⟨l1, l2⟩, ⟨p1, p2⟩, og, ⟨o1, o2⟩, ⟨b1, okSs_of b2⟩, ov⟩, by simp only [szF, szSs_sum]; omega, ?_⟩
    show RelL (fzW W) W [.str s, .sl lv.length (encN lv) .shared, .sl pa.length (encPs pa) .shared, .int .i64 g.kind, .str g.life, .bool g.mu, .sl g.kids.length (encTs g.kids) .shared, .sl ou.length (encN ou) .shared, .sl bo.length (encSts bo) .shared, .int .i64 v.kind, .int .i64 v.num, .str v.name, .bool v.mu, .sl v.kids.length (encEs v.kids) .shared] _
    simp only [RelL_cons, RelL_nil, and_true]
    exact ⟨rel_str hs, l4, p4, g1, g2, g3, g4, o4, b4, q1, q2, q3, q4, q5⟩
theorem rd_pr (fuel : Nat) (v : Value) (d : DataW H) (ps : List MemPlace) (h : DataW.trod enc Tryz.prog W 0 spare held fuel 22 [v] = some (d, ps)) : ∃ p : List GF, okPr p ∧ sumL szF p + 1 ≤ bulk d ∧ Rel (fzW W) W (.sl p.length (encFs p) .shared) v := by
  obtain ⟨l, h1, h2, h3, h4⟩ := rd_sl1 (α := GF) (ok := okF) (w := szF) (sz := 14) Tryz.underlying22 cFu rfl (by decide) (fun f _ => rd_fn f) (y := (d, ps)) h
  exact ⟨l, ⟨h1, h2⟩, h3, h4⟩
end
end Go.Proofs.YtdnndjdlfpkjlaaGreatDoor
end
