/-
  Part 5 of 6. The law NamesChecks of the names layer holds of the given program for every input whose bulk is at most 1048576: it returns true.
-/
import Derived.Test.YtdnndjdlfpkjlaaGreatDoorA4
import Derived.Test.YtdnndjdlfpkjlaaGreatDoorRows
import Derived.Test.YtdnndjdlfpkjlaaGreatDoorTie
import Derived.ChangeSame
import Derived.ChangeVars
import Derived.JoinedOf
import Derived.RowKit
import Derived.RowKitTokens
import Derived.LaidLaws
import Derived.LaidHandle
import Derived.LaidSub
import Derived.Lib.LaidTab
import Derived.Lay
import Derived.Carry
import Derived.Stop.Joined
import Derived.Lib.MapLaws
import Derived.Lib.TrimUEq
section
set_option maxRecDepth 1000000
set_option maxHeartbeats 0
namespace Go.Lb.R
open Go.Lb
open Go.Proofs
theorem wF10 : IsF 10 := ⟨by kernel_rfl⟩
theorem wF11 : IsF 11 := ⟨by kernel_rfl⟩
theorem wF22 : IsF 22 := ⟨by kernel_rfl⟩
theorem wF23 : IsF 23 := ⟨by kernel_rfl⟩
theorem wF26 : IsF 26 := ⟨by kernel_rfl⟩
theorem wF36 : IsF 36 := ⟨by kernel_rfl⟩
theorem wF38 : IsF 38 := ⟨by kernel_rfl⟩
theorem wF40 : IsF 40 := ⟨by kernel_rfl⟩
theorem wF42 : IsF 42 := ⟨by kernel_rfl⟩
theorem wF43 : IsF 43 := ⟨by kernel_rfl⟩
theorem wF46 : IsF 46 := ⟨by kernel_rfl⟩
theorem wF47 : IsF 47 := ⟨by kernel_rfl⟩
theorem wF48 : IsF 48 := ⟨by kernel_rfl⟩
theorem wF65 : IsF 65 := ⟨by kernel_rfl⟩
theorem wF66 : IsF 66 := ⟨by kernel_rfl⟩
theorem wF70 : IsF 70 := ⟨by kernel_rfl⟩
theorem wF71 : IsF 71 := ⟨by kernel_rfl⟩
theorem wF75 : IsF 75 := ⟨by kernel_rfl⟩
theorem wF76 : IsF 76 := ⟨by kernel_rfl⟩
theorem wF77 : IsF 77 := ⟨by kernel_rfl⟩
theorem wF78 : IsF 78 := ⟨by kernel_rfl⟩
theorem wF79 : IsF 79 := ⟨by kernel_rfl⟩
theorem wF97 : IsF 97 := ⟨by kernel_rfl⟩
theorem wF99 : IsF 99 := ⟨by kernel_rfl⟩
theorem wF100 : IsF 100 := ⟨by kernel_rfl⟩
theorem wF101 : IsF 101 := ⟨by kernel_rfl⟩
theorem wF102 : IsF 102 := ⟨by kernel_rfl⟩
theorem wF103 : IsF 103 := ⟨by kernel_rfl⟩
theorem wF104 : IsF 104 := ⟨by kernel_rfl⟩
theorem wF105 : IsF 105 := ⟨by kernel_rfl⟩
theorem wF112 : IsF 112 := ⟨by kernel_rfl⟩
theorem wF113 : IsF 113 := ⟨by kernel_rfl⟩
theorem wF126 : IsF 126 := ⟨by kernel_rfl⟩
theorem wF127 : IsF 127 := ⟨by kernel_rfl⟩
theorem wF128 : IsF 128 := ⟨by kernel_rfl⟩
theorem wF129 : IsF 129 := ⟨by kernel_rfl⟩
theorem wF132 : IsF 132 := ⟨by kernel_rfl⟩
theorem wF133 : IsF 133 := ⟨by kernel_rfl⟩
theorem wF137 : IsF 137 := ⟨by kernel_rfl⟩
theorem wF138 : IsF 138 := ⟨by kernel_rfl⟩
theorem wF140 : IsF 140 := ⟨by kernel_rfl⟩
theorem wF147 : IsF 147 := ⟨by kernel_rfl⟩
theorem wF149 : IsF 149 := ⟨by kernel_rfl⟩
theorem wF151 : IsF 151 := ⟨by kernel_rfl⟩
theorem wF152 : IsF 152 := ⟨by kernel_rfl⟩
theorem wF153 : IsF 153 := ⟨by kernel_rfl⟩
theorem wF154 : IsF 154 := ⟨by kernel_rfl⟩
theorem wF157 : IsF 157 := ⟨by kernel_rfl⟩
theorem wF160 : IsF 160 := ⟨by kernel_rfl⟩
theorem wF162 : IsF 162 := ⟨by kernel_rfl⟩
def con10 (k : (List GF) → Option ((GErr × Unit) × Unit)) : Con := ⟨⟨[(0, .sl .fn)], [], []⟩, [(.ret, ⟨[(1000, .err)], [], []⟩)], fun x => k x.1.1⟩
abbrev P10 (B : Nat) := FnOKs (X B) Ce 10
abbrev Q10 (B : Nat) := FnOK1 (X B) Ce 10 (con10 (fun _ => none))
def lp1000 (k : (List GF) → Int → Int → (Mp Int) → Option ((Unit × ((Mp Int) × Unit)) ⊕ ((GErr × Unit) × ((Mp Int) × Unit)))) : Con := ⟨⟨[(3, .map 0), (13, .sl .fn), (14, .int .i64), (15, .int .i64)], [(0, .map .str .int)], []⟩, [(.exit 0, ⟨[], [(0, .map .str .int)], []⟩), (.ret, ⟨[(2, .err)], [(0, .map .str .int)], []⟩)], fun x => k x.1.2.1 x.1.2.2.1 x.1.2.2.2.1 x.2.1⟩
theorem vL1000 : IsL 10 [0, 1, 0, 1, 1, 1] := ⟨wF10, by kernel_rfl⟩
abbrev P1000 (B : Nat) := LpOKs (X B) Ce (fX 10).n (bX 10 [0, 1, 0, 1, 1, 1])
abbrev Q1000 (B : Nat) := LoopOK1 (X B) Ce (fX 10).n (bX 10 [0, 1, 0, 1, 1, 1]) (lp1000 (fun _ _ _ _ => none))
def con11 (k : GT → Option ((Bool × Unit) × Unit)) : Con := ⟨⟨[(0, .n .ty)], [], []⟩, [(.ret, ⟨[(1000, .bool)], [], []⟩)], fun x => k x.1.1⟩
abbrev P11 (B : Nat) := FnOKs (X B) Ce 11
abbrev Q11 (B : Nat) := FnOK1 (X B) Ce 11 (con11 (fun _ => none))
def lp1100 (k : (List GT) → Int → Int → Bool → Option ((Unit × (Bool × Unit)) ⊕ ((Int × Unit) × (Bool × Unit)))) : Con := ⟨⟨[(0, .sl .ty), (1, .fn 25 [] [.ptr 0 0]), (7, .int .i64), (8, .int .i64)], [(0, .cells 4 (.bool))], []⟩, [(.exit 0, ⟨[], [(0, .cells 4 (.bool))], []⟩), (.ret, ⟨[(4, .int .i64)], [(0, .cells 4 (.bool))], []⟩)], fun x => k x.1.1 x.1.2.2.1 x.1.2.2.2.1 x.2.1⟩
theorem vL1100 : IsL 48 [0, 1, 0, 1] := ⟨wF48, by kernel_rfl⟩
abbrev P1100 (B : Nat) := LpOKs (X B) Ce (fX 48).n (bX 48 [0, 1, 0, 1])
abbrev Q1100 (B : Nat) := LoopOK1 (X B) Ce (fX 48).n (bX 48 [0, 1, 0, 1]) (lp1100 (fun _ _ _ _ => none))
def con22 (k : (List GF) → Option ((Bool × Unit) × Unit)) : Con := ⟨⟨[(0, .sl .fn)], [], []⟩, [(.ret, ⟨[(1000, .bool)], [], []⟩)], fun x => k x.1.1⟩
abbrev P22 (B : Nat) := FnOKs (X B) Ce 22
abbrev Q22 (B : Nat) := FnOK1 (X B) Ce 22 (con22 (fun _ => none))
def lp2200 (k : (List GF) → Int → Int → Option ((Unit × ((Unit × Unit) × Unit)) ⊕ ((Int × Unit) × ((Unit × Unit) × Unit)))) : Con := ⟨⟨[(0, .sl .fn), (1, .fn 68 [] [.ptr 0 0]), (7, .int .i64), (8, .int .i64)], [(0, .cells 66 (.fn 38 [] []))], []⟩, [(.exit 0, ⟨[], [(0, .cells 66 (.fn 38 [] []))], []⟩), (.ret, ⟨[(4, .int .i64)], [(0, .cells 66 (.fn 38 [] []))], []⟩)], fun x => k x.1.1 x.1.2.2.1 x.1.2.2.2.1⟩
theorem vL2200 : IsL 103 [0, 1, 0, 1] := ⟨wF103, by kernel_rfl⟩
abbrev P2200 (B : Nat) := LpOKs (X B) Ce (fX 103).n (bX 103 [0, 1, 0, 1])
abbrev Q2200 (B : Nat) := LoopOK1 (X B) Ce (fX 103).n (bX 103 [0, 1, 0, 1]) (lp2200 (fun _ _ _ => none))
def con23 (k : GF → (Mp Int) → Option ((GErr × Unit) × ((Mp Int) × Unit))) : Con := ⟨⟨[(0, .n .fn), (1, .map 0)], [(0, .map .str .int)], []⟩, [(.ret, ⟨[(1000, .err)], [(0, .map .str .int)], []⟩)], fun x => k x.1.1 x.2.1⟩
abbrev P23 (B : Nat) := FnOKs (X B) Ce 23
abbrev Q23 (B : Nat) := FnOK1 (X B) Ce 23 (con23 (fun _ _ => none))
def lp2300 (k : (List GT) → (List Str) → (List GP) → Int → Int → (Mp Bool) → Option (((List GT) × ((List Str) × Unit)) × ((Mp Bool) × Unit))) : Con := ⟨⟨[(5, .map 0), (6, .own .ty 1), (7, .own .str 2), (22, .sl .par), (23, .int .i64), (24, .int .i64)], [(0, .map .str .bool)], [(1, 4, 34), (2, 1, 9)]⟩, [(.exit 0, ⟨[(6, .own .ty 1), (7, .own .str 2)], [(0, .map .str .bool)], [(1, 4, 34), (2, 1, 9)]⟩)], fun x => k x.1.2.1 x.1.2.2.1 x.1.2.2.2.1 x.1.2.2.2.2.1 x.1.2.2.2.2.2.1 x.2.1⟩
theorem vL2300 : IsL 23 [0, 1, 0, 1, 1, 1, 1] := ⟨wF23, by kernel_rfl⟩
abbrev P2300 (B : Nat) := LpOKs (X B) Ce (fX 23).n (bX 23 [0, 1, 0, 1, 1, 1, 1])
abbrev Q2300 (B : Nat) := LoopOK1 (X B) Ce (fX 23).n (bX 23 [0, 1, 0, 1, 1, 1, 1]) (lp2300 (fun _ _ _ _ _ _ => none))
def lp2301 (k : (List Str) → Bool → (List GT) → Int → Int → Option (((List Str) × (Bool × Unit)) × Unit)) : Con := ⟨⟨[(11, .own .str 0), (12, .bool), (46, .own .ty 1), (47, .int .i64), (48, .int .i64)], [], [(0, 1, 9), (1, 4, 34)]⟩, [(.exit 2, ⟨[(11, .own .str 0), (12, .bool)], [], [(0, 1, 9)]⟩)], fun x => k x.1.1 x.1.2.1 x.1.2.2.1 x.1.2.2.2.1 x.1.2.2.2.2.1⟩
theorem vL2301 : IsL 23 [0, 1, 0, 1, 1, 1, 1, 1, 1, 1, 1] := ⟨wF23, by kernel_rfl⟩
abbrev P2301 (B : Nat) := LpOKs (X B) Ce (fX 23).n (bX 23 [0, 1, 0, 1, 1, 1, 1, 1, 1, 1, 1])
abbrev Q2301 (B : Nat) := LoopOK1 (X B) Ce (fX 23).n (bX 23 [0, 1, 0, 1, 1, 1, 1, 1, 1, 1, 1]) (lp2301 (fun _ _ _ _ _ => none))
def lp2302 (k : (List Str) → Int → Int → GF → Option ((Unit × ((Unit × (Unit × Unit)) × (GF × Unit))) ⊕ ((Int × Unit) × ((Unit × (Unit × Unit)) × (GF × Unit))))) : Con := ⟨⟨[(0, .own .str 2), (1, .fn 45 [] [.ptr 0 0]), (7, .int .i64), (8, .int .i64)], [(0, .cells 79 (.fn 39 [] [.ptr 1 0])), (1, .cells 42 (.n .fn))], [(2, 1, 9)]⟩, [(.exit 0, ⟨[], [(0, .cells 79 (.fn 39 [] [.ptr 1 0])), (1, .cells 42 (.n .fn))], []⟩), (.ret, ⟨[(4, .int .i64)], [(0, .cells 79 (.fn 39 [] [.ptr 1 0])), (1, .cells 42 (.n .fn))], []⟩)], fun x => k x.1.1 x.1.2.2.1 x.1.2.2.2.1 x.2.2.1⟩
theorem vL2302 : IsL 79 [0, 1, 0, 1] := ⟨wF79, by kernel_rfl⟩
abbrev P2302 (B : Nat) := LpOKs (X B) Ce (fX 79).n (bX 79 [0, 1, 0, 1])
abbrev Q2302 (B : Nat) := LoopOK1 (X B) Ce (fX 79).n (bX 79 [0, 1, 0, 1]) (lp2302 (fun _ _ _ _ => none))
def con26 (k : GT → Option ((Bool × Unit) × Unit)) : Con := ⟨⟨[(0, .n .ty)], [], []⟩, [(.ret, ⟨[(1000, .bool)], [], []⟩)], fun x => k x.1.1⟩
abbrev P26 (B : Nat) := FnOKs (X B) Ce 26
abbrev Q26 (B : Nat) := FnOK1 (X B) Ce 26 (con26 (fun _ => none))
def lp2600 (k : (List GT) → Int → Int → Option ((Unit × Unit) ⊕ ((Int × Unit) × Unit))) : Con := ⟨⟨[(0, .sl .ty), (1, .fn 26 [] []), (7, .int .i64), (8, .int .i64)], [], []⟩, [(.exit 0, ⟨[], [], []⟩), (.ret, ⟨[(4, .int .i64)], [], []⟩)], fun x => k x.1.1 x.1.2.2.1 x.1.2.2.2.1⟩
theorem vL2600 : IsL 48 [0, 1, 0, 1] := ⟨wF48, by kernel_rfl⟩
abbrev P2600 (B : Nat) := LpOKs (X B) Ce (fX 48).n (bX 48 [0, 1, 0, 1])
abbrev Q2600 (B : Nat) := LoopOK1 (X B) Ce (fX 48).n (bX 48 [0, 1, 0, 1]) (lp2600 (fun _ _ _ => none))
def con36 (k : (List GF) → Option ((Int × Unit) × Unit)) : Con := ⟨⟨[(0, .sl .fn)], [], []⟩, [(.ret, ⟨[(1000, .int .i64)], [], []⟩)], fun x => k x.1.1⟩
abbrev P36 (B : Nat) := FnOKs (X B) Ce 36
abbrev Q36 (B : Nat) := FnOK1 (X B) Ce 36 (con36 (fun _ => none))
def lp3600 (k : Int → (List GF) → Int → Int → Option ((Int × Unit) × Unit)) : Con := ⟨⟨[(1, .fn 66 [] []), (5, .int .i64), (8, .sl .fn), (9, .int .i64), (10, .int .i64)], [], []⟩, [(.exit 0, ⟨[(5, .int .i64)], [], []⟩)], fun x => k x.1.2.1 x.1.2.2.1 x.1.2.2.2.1 x.1.2.2.2.2.1⟩
theorem vL3600 : IsL 65 [0, 1, 0, 1, 1] := ⟨wF65, by kernel_rfl⟩
abbrev P3600 (B : Nat) := LpOKs (X B) Ce (fX 65).n (bX 65 [0, 1, 0, 1, 1])
abbrev Q3600 (B : Nat) := LoopOK1 (X B) Ce (fX 65).n (bX 65 [0, 1, 0, 1, 1]) (lp3600 (fun _ _ _ _ => none))
def con38 (k : GF → Option ((Bool × Unit) × Unit)) : Con := ⟨⟨[(0, .n .fn)], [], []⟩, [(.ret, ⟨[(1000, .bool)], [], []⟩)], fun x => k x.1.1⟩
abbrev P38 (B : Nat) := FnOKs (X B) Ce 38
abbrev Q38 (B : Nat) := FnOK1 (X B) Ce 38 (con38 (fun _ => none))
def lp3800 (k : (List Str) → Int → Int → Option ((Unit × ((Unit × Unit) × Unit)) ⊕ ((Int × Unit) × ((Unit × Unit) × Unit)))) : Con := ⟨⟨[(0, .sl .str), (1, .fn 107 [] [.ptr 0 0]), (7, .int .i64), (8, .int .i64)], [(0, .cells 79 (.fn 70 [] []))], []⟩, [(.exit 0, ⟨[], [(0, .cells 79 (.fn 70 [] []))], []⟩), (.ret, ⟨[(4, .int .i64)], [(0, .cells 79 (.fn 70 [] []))], []⟩)], fun x => k x.1.1 x.1.2.2.1 x.1.2.2.2.1⟩
theorem vL3800 : IsL 79 [0, 1, 0, 1] := ⟨wF79, by kernel_rfl⟩
abbrev P3800 (B : Nat) := LpOKs (X B) Ce (fX 79).n (bX 79 [0, 1, 0, 1])
abbrev Q3800 (B : Nat) := LoopOK1 (X B) Ce (fX 79).n (bX 79 [0, 1, 0, 1]) (lp3800 (fun _ _ _ => none))
def lp3801 (k : (List GP) → Int → Int → Option ((Unit × ((Unit × Unit) × Unit)) ⊕ ((Int × Unit) × ((Unit × Unit) × Unit)))) : Con := ⟨⟨[(0, .sl .par), (1, .fn 109 [] [.ptr 0 0]), (7, .int .i64), (8, .int .i64)], [(0, .cells 114 (.fn 69 [] []))], []⟩, [(.exit 0, ⟨[], [(0, .cells 114 (.fn 69 [] []))], []⟩), (.ret, ⟨[(4, .int .i64)], [(0, .cells 114 (.fn 69 [] []))], []⟩)], fun x => k x.1.1 x.1.2.2.1 x.1.2.2.2.1⟩
theorem vL3801 : IsL 132 [0, 1, 0, 1] := ⟨wF132, by kernel_rfl⟩
abbrev P3801 (B : Nat) := LpOKs (X B) Ce (fX 132).n (bX 132 [0, 1, 0, 1])
abbrev Q3801 (B : Nat) := LoopOK1 (X B) Ce (fX 132).n (bX 132 [0, 1, 0, 1]) (lp3801 (fun _ _ _ => none))
def lp3802 (k : (List GS) → Int → Int → Option ((Unit × ((Unit × Unit) × Unit)) ⊕ ((Int × Unit) × ((Unit × Unit) × Unit)))) : Con := ⟨⟨[(0, .sl .st), (1, .fn 111 [] [.ptr 0 0]), (7, .int .i64), (8, .int .i64)], [(0, .cells 117 (.fn 75 [] []))], []⟩, [(.exit 0, ⟨[], [(0, .cells 117 (.fn 75 [] []))], []⟩), (.ret, ⟨[(4, .int .i64)], [(0, .cells 117 (.fn 75 [] []))], []⟩)], fun x => k x.1.1 x.1.2.2.1 x.1.2.2.2.1⟩
theorem vL3802 : IsL 133 [0, 1, 0, 1] := ⟨wF133, by kernel_rfl⟩
abbrev P3802 (B : Nat) := LpOKs (X B) Ce (fX 133).n (bX 133 [0, 1, 0, 1])
abbrev Q3802 (B : Nat) := LoopOK1 (X B) Ce (fX 133).n (bX 133 [0, 1, 0, 1]) (lp3802 (fun _ _ _ => none))
def con40 (k : (List Str) → Str → Option ((Bool × Unit) × Unit)) : Con := ⟨⟨[(0, .sl .str), (1, .str)], [], []⟩, [(.ret, ⟨[(1000, .bool)], [], []⟩)], fun x => k x.1.1 x.1.2.1⟩
abbrev P40 (B : Nat) := FnOKs (X B) Ce 40
abbrev Q40 (B : Nat) := FnOK1 (X B) Ce 40 (con40 (fun _ _ => none))
def con42 (k : GT → Option (((List Str) × Unit) × Unit)) : Con := ⟨⟨[(0, .n .ty)], [], []⟩, [(.ret, ⟨[(1000, .own .str 0)], [], [(0, 1, 9)]⟩)], fun x => k x.1.1⟩
abbrev P42 (B : Nat) := FnOKs (X B) Ce 42
abbrev Q42 (B : Nat) := FnOK1 (X B) Ce 42 (con42 (fun _ => none))
def lp4200 (k : (List Str) → (List GT) → Int → Int → Option (((List Str) × Unit) × Unit)) : Con := ⟨⟨[(3, .own .str 0), (15, .sl .ty), (16, .int .i64), (17, .int .i64)], [], [(0, 1, 9)]⟩, [(.exit 0, ⟨[(3, .own .str 0)], [], [(0, 1, 9)]⟩)], fun x => k x.1.1 x.1.2.1 x.1.2.2.1 x.1.2.2.2.1⟩
theorem vL4200 : IsL 42 [0, 1, 0, 1, 1, 1] := ⟨wF42, by kernel_rfl⟩
abbrev P4200 (B : Nat) := LpOKs (X B) Ce (fX 42).n (bX 42 [0, 1, 0, 1, 1, 1])
abbrev Q4200 (B : Nat) := LoopOK1 (X B) Ce (fX 42).n (bX 42 [0, 1, 0, 1, 1, 1]) (lp4200 (fun _ _ _ _ => none))
def con43 (k : (List Str) → Option ((Bool × Unit) × Unit)) : Con := ⟨⟨[(0, .sl .str)], [], []⟩, [(.ret, ⟨[(1000, .bool)], [], []⟩)], fun x => k x.1.1⟩
abbrev P43 (B : Nat) := FnOKs (X B) Ce 43
abbrev Q43 (B : Nat) := FnOK1 (X B) Ce 43 (con43 (fun _ => none))
def lp4300 (k : (List Str) → Int → Int → (Mp Bool) → Option ((Unit × ((Mp Bool) × Unit)) ⊕ ((Bool × Unit) × ((Mp Bool) × Unit)))) : Con := ⟨⟨[(3, .map 0), (7, .sl .str), (8, .int .i64), (9, .int .i64)], [(0, .map .str .bool)], []⟩, [(.exit 0, ⟨[], [(0, .map .str .bool)], []⟩), (.ret, ⟨[(2, .bool)], [(0, .map .str .bool)], []⟩)], fun x => k x.1.2.1 x.1.2.2.1 x.1.2.2.2.1 x.2.1⟩
theorem vL4300 : IsL 43 [0, 1, 0, 1, 1] := ⟨wF43, by kernel_rfl⟩
abbrev P4300 (B : Nat) := LpOKs (X B) Ce (fX 43).n (bX 43 [0, 1, 0, 1, 1])
abbrev Q4300 (B : Nat) := LoopOK1 (X B) Ce (fX 43).n (bX 43 [0, 1, 0, 1, 1]) (lp4300 (fun _ _ _ _ => none))
def con46 (k : (List GS) → (Mp Bool) → (Mp Int) → Option ((Bool × Unit) × ((Mp Bool) × ((Mp Int) × Unit)))) : Con := ⟨⟨[(0, .map 0), (1, .sl .st), (2, .map 1)], [(0, .map .str .bool), (1, .map .str .int)], []⟩, [(.ret, ⟨[(1000, .bool)], [(0, .map .str .bool), (1, .map .str .int)], []⟩)], fun x => k x.1.2.1 x.2.1 x.2.2.1⟩
abbrev P46 (B : Nat) := FnOKs (X B) Ce 46
abbrev Q46 (B : Nat) := FnOK1 (X B) Ce 46 (con46 (fun _ _ _ => none))
def lp4600 (k : (List GS) → Int → Int → (Mp Bool) → (Mp Int) → Option ((Unit × ((Mp Bool) × ((Mp Int) × Unit))) ⊕ ((Bool × Unit) × ((Mp Bool) × ((Mp Int) × Unit))))) : Con := ⟨⟨[(0, .map 0), (2, .map 1), (9, .sl .st), (10, .int .i64), (11, .int .i64)], [(0, .map .str .bool), (1, .map .str .int)], []⟩, [(.exit 0, ⟨[], [(0, .map .str .bool), (1, .map .str .int)], []⟩), (.ret, ⟨[(6, .bool)], [(0, .map .str .bool), (1, .map .str .int)], []⟩)], fun x => k x.1.2.2.1 x.1.2.2.2.1 x.1.2.2.2.2.1 x.2.1 x.2.2.1⟩
theorem vL4600 : IsL 46 [0, 1, 0, 1] := ⟨wF46, by kernel_rfl⟩
abbrev P4600 (B : Nat) := LpOKs (X B) Ce (fX 46).n (bX 46 [0, 1, 0, 1])
abbrev Q4600 (B : Nat) := LoopOK1 (X B) Ce (fX 46).n (bX 46 [0, 1, 0, 1]) (lp4600 (fun _ _ _ _ _ => none))
def con47 (k : GE → (Mp Bool) → (Mp Int) → Option ((Bool × Unit) × ((Mp Bool) × ((Mp Int) × Unit)))) : Con := ⟨⟨[(0, .map 0), (1, .n .ex), (2, .map 1)], [(0, .map .str .bool), (1, .map .str .int)], []⟩, [(.ret, ⟨[(1000, .bool)], [(0, .map .str .bool), (1, .map .str .int)], []⟩)], fun x => k x.1.2.1 x.2.1 x.2.2.1⟩
abbrev P47 (B : Nat) := FnOKs (X B) Ce 47
abbrev Q47 (B : Nat) := FnOK1 (X B) Ce 47 (con47 (fun _ _ _ => none))
def lp4700 (k : (List GE) → Int → Int → (Mp Bool) → (Mp Int) → Option ((Unit × ((Mp Bool) × ((Mp Int) × Unit))) ⊕ ((Bool × Unit) × ((Mp Bool) × ((Mp Int) × Unit))))) : Con := ⟨⟨[(0, .map 0), (2, .map 1), (12, .sl .ex), (13, .int .i64), (14, .int .i64)], [(0, .map .str .bool), (1, .map .str .int)], []⟩, [(.exit 0, ⟨[], [(0, .map .str .bool), (1, .map .str .int)], []⟩), (.ret, ⟨[(6, .bool)], [(0, .map .str .bool), (1, .map .str .int)], []⟩)], fun x => k x.1.2.2.1 x.1.2.2.2.1 x.1.2.2.2.2.1 x.2.1 x.2.2.1⟩
theorem vL4700 : IsL 47 [0, 1, 0, 1] := ⟨wF47, by kernel_rfl⟩
abbrev P4700 (B : Nat) := LpOKs (X B) Ce (fX 47).n (bX 47 [0, 1, 0, 1])
abbrev Q4700 (B : Nat) := LoopOK1 (X B) Ce (fX 47).n (bX 47 [0, 1, 0, 1]) (lp4700 (fun _ _ _ _ _ => none))
def con66 (k : GF → Option ((Int × Unit) × Unit)) : Con := ⟨⟨[(0, .n .fn)], [], []⟩, [(.ret, ⟨[(1000, .int .i64)], [], []⟩)], fun x => k x.1.1⟩
abbrev P66 (B : Nat) := FnOKs (X B) Ce 66
abbrev Q66 (B : Nat) := FnOK1 (X B) Ce 66 (con66 (fun _ => none))
def lp6600 (k : Int → (List GP) → Int → Int → Option ((Int × Unit) × Unit)) : Con := ⟨⟨[(1, .fn 98 [] []), (5, .int .i64), (8, .sl .par), (9, .int .i64), (10, .int .i64)], [], []⟩, [(.exit 0, ⟨[(5, .int .i64)], [], []⟩)], fun x => k x.1.2.1 x.1.2.2.1 x.1.2.2.2.1 x.1.2.2.2.2.1⟩
theorem vL6600 : IsL 97 [0, 1, 0, 1, 1] := ⟨wF97, by kernel_rfl⟩
abbrev P6600 (B : Nat) := LpOKs (X B) Ce (fX 97).n (bX 97 [0, 1, 0, 1, 1])
abbrev Q6600 (B : Nat) := LoopOK1 (X B) Ce (fX 97).n (bX 97 [0, 1, 0, 1, 1]) (lp6600 (fun _ _ _ _ => none))
def lp6601 (k : Int → (List GS) → Int → Int → Option ((Int × Unit) × Unit)) : Con := ⟨⟨[(1, .fn 101 [] []), (5, .int .i64), (8, .sl .st), (9, .int .i64), (10, .int .i64)], [], []⟩, [(.exit 0, ⟨[(5, .int .i64)], [], []⟩)], fun x => k x.1.2.1 x.1.2.2.1 x.1.2.2.2.1 x.1.2.2.2.2.1⟩
theorem vL6601 : IsL 100 [0, 1, 0, 1, 1] := ⟨wF100, by kernel_rfl⟩
abbrev P6601 (B : Nat) := LpOKs (X B) Ce (fX 100).n (bX 100 [0, 1, 0, 1, 1])
abbrev Q6601 (B : Nat) := LoopOK1 (X B) Ce (fX 100).n (bX 100 [0, 1, 0, 1, 1]) (lp6601 (fun _ _ _ _ => none))
def con70 (k : Str → Option ((Bool × Unit) × Unit)) : Con := ⟨⟨[(0, .str)], [], []⟩, [(.ret, ⟨[(1000, .bool)], [], []⟩)], fun x => k x.1.1⟩
abbrev P70 (B : Nat) := FnOKs (X B) Ce 70
abbrev Q70 (B : Nat) := FnOK1 (X B) Ce 70 (con70 (fun _ => none))
def con71 (k : GT → Option ((Bool × Unit) × Unit)) : Con := ⟨⟨[(0, .n .ty)], [], []⟩, [(.ret, ⟨[(1000, .bool)], [], []⟩)], fun x => k x.1.1⟩
abbrev P71 (B : Nat) := FnOKs (X B) Ce 71
abbrev Q71 (B : Nat) := FnOK1 (X B) Ce 71 (con71 (fun _ => none))
def lp7100 (k : (List GT) → Int → Int → Option ((Unit × ((Unit × Unit) × Unit)) ⊕ ((Int × Unit) × ((Unit × Unit) × Unit)))) : Con := ⟨⟨[(0, .sl .ty), (1, .fn 131 [] [.ptr 0 0]), (7, .int .i64), (8, .int .i64)], [(0, .cells 43 (.fn 71 [] []))], []⟩, [(.exit 0, ⟨[], [(0, .cells 43 (.fn 71 [] []))], []⟩), (.ret, ⟨[(4, .int .i64)], [(0, .cells 43 (.fn 71 [] []))], []⟩)], fun x => k x.1.1 x.1.2.2.1 x.1.2.2.2.1⟩
theorem vL7100 : IsL 48 [0, 1, 0, 1] := ⟨wF48, by kernel_rfl⟩
abbrev P7100 (B : Nat) := LpOKs (X B) Ce (fX 48).n (bX 48 [0, 1, 0, 1])
abbrev Q7100 (B : Nat) := LoopOK1 (X B) Ce (fX 48).n (bX 48 [0, 1, 0, 1]) (lp7100 (fun _ _ _ => none))
def con75 (k : GS → Option ((Bool × Unit) × Unit)) : Con := ⟨⟨[(0, .n .st)], [], []⟩, [(.ret, ⟨[(1000, .bool)], [], []⟩)], fun x => k x.1.1⟩
abbrev P75 (B : Nat) := FnOKs (X B) Ce 75
abbrev Q75 (B : Nat) := FnOK1 (X B) Ce 75 (con75 (fun _ => none))
def lp7500 (k : (List GS) → Int → Int → Option ((Unit × ((Unit × Unit) × Unit)) ⊕ ((Int × Unit) × ((Unit × Unit) × Unit)))) : Con := ⟨⟨[(0, .sl .st), (1, .fn 111 [] [.ptr 0 0]), (7, .int .i64), (8, .int .i64)], [(0, .cells 117 (.fn 75 [] []))], []⟩, [(.exit 0, ⟨[], [(0, .cells 117 (.fn 75 [] []))], []⟩), (.ret, ⟨[(4, .int .i64)], [(0, .cells 117 (.fn 75 [] []))], []⟩)], fun x => k x.1.1 x.1.2.2.1 x.1.2.2.2.1⟩
theorem vL7500 : IsL 133 [0, 1, 0, 1] := ⟨wF133, by kernel_rfl⟩
abbrev P7500 (B : Nat) := LpOKs (X B) Ce (fX 133).n (bX 133 [0, 1, 0, 1])
abbrev Q7500 (B : Nat) := LoopOK1 (X B) Ce (fX 133).n (bX 133 [0, 1, 0, 1]) (lp7500 (fun _ _ _ => none))
def con76 (k : (List GS) → Option ((Int × Unit) × Unit)) : Con := ⟨⟨[(0, .sl .st)], [], []⟩, [(.ret, ⟨[(1000, .int .i64)], [], []⟩)], fun x => k x.1.1⟩
abbrev P76 (B : Nat) := FnOKs (X B) Ce 76
abbrev Q76 (B : Nat) := FnOK1 (X B) Ce 76 (con76 (fun _ => none))
def lp7600 (k : Int → (List GS) → Int → Int → Option ((Int × Unit) × Unit)) : Con := ⟨⟨[(1, .fn 114 [] []), (5, .int .i64), (8, .sl .st), (9, .int .i64), (10, .int .i64)], [], []⟩, [(.exit 0, ⟨[(5, .int .i64)], [], []⟩)], fun x => k x.1.2.1 x.1.2.2.1 x.1.2.2.2.1 x.1.2.2.2.2.1⟩
theorem vL7600 : IsL 100 [0, 1, 0, 1, 1] := ⟨wF100, by kernel_rfl⟩
abbrev P7600 (B : Nat) := LpOKs (X B) Ce (fX 100).n (bX 100 [0, 1, 0, 1, 1])
abbrev Q7600 (B : Nat) := LoopOK1 (X B) Ce (fX 100).n (bX 100 [0, 1, 0, 1, 1]) (lp7600 (fun _ _ _ _ => none))
def con77 (k : GE → Option ((Bool × Unit) × Unit)) : Con := ⟨⟨[(0, .n .ex)], [], []⟩, [(.ret, ⟨[(1000, .bool)], [], []⟩)], fun x => k x.1.1⟩
abbrev P77 (B : Nat) := FnOKs (X B) Ce 77
abbrev Q77 (B : Nat) := FnOK1 (X B) Ce 77 (con77 (fun _ => none))
def lp7700 (k : (List GE) → Int → Int → Option ((Unit × ((Unit × Unit) × Unit)) ⊕ ((Int × Unit) × ((Unit × Unit) × Unit)))) : Con := ⟨⟨[(0, .sl .ex), (1, .fn 143 [] [.ptr 0 0]), (7, .int .i64), (8, .int .i64)], [(0, .cells 98 (.fn 77 [] []))], []⟩, [(.exit 0, ⟨[], [(0, .cells 98 (.fn 77 [] []))], []⟩), (.ret, ⟨[(4, .int .i64)], [(0, .cells 98 (.fn 77 [] []))], []⟩)], fun x => k x.1.1 x.1.2.2.1 x.1.2.2.2.1⟩
theorem vL7700 : IsL 157 [0, 1, 0, 1] := ⟨wF157, by kernel_rfl⟩
abbrev P7700 (B : Nat) := LpOKs (X B) Ce (fX 157).n (bX 157 [0, 1, 0, 1])
abbrev Q7700 (B : Nat) := LoopOK1 (X B) Ce (fX 157).n (bX 157 [0, 1, 0, 1]) (lp7700 (fun _ _ _ => none))
def con78 (k : (List Str) → Str → Option ((Int × Unit) × Unit)) : Con := ⟨⟨[(0, .sl .str), (1, .str)], [], []⟩, [(.ret, ⟨[(1000, .int .i64)], [], []⟩)], fun x => k x.1.1 x.1.2.1⟩
abbrev P78 (B : Nat) := FnOKs (X B) Ce 78
abbrev Q78 (B : Nat) := FnOK1 (X B) Ce 78 (con78 (fun _ _ => none))
def lp7800 (k : (List Str) → Str → Int → Int → Option ((Unit × Unit) ⊕ ((Int × Unit) × Unit))) : Con := ⟨⟨[(0, .sl .str), (1, .str), (7, .int .i64), (8, .int .i64)], [], []⟩, [(.exit 0, ⟨[], [], []⟩), (.ret, ⟨[(4, .int .i64)], [], []⟩)], fun x => k x.1.1 x.1.2.1 x.1.2.2.1 x.1.2.2.2.1⟩
theorem vL7800 : IsL 78 [0, 1, 0, 1] := ⟨wF78, by kernel_rfl⟩
abbrev P7800 (B : Nat) := LpOKs (X B) Ce (fX 78).n (bX 78 [0, 1, 0, 1])
abbrev Q7800 (B : Nat) := LoopOK1 (X B) Ce (fX 78).n (bX 78 [0, 1, 0, 1]) (lp7800 (fun _ _ _ _ => none))
def con99 (k : GT → Option ((Int × Unit) × Unit)) : Con := ⟨⟨[(0, .n .ty)], [], []⟩, [(.ret, ⟨[(1000, .int .i64)], [], []⟩)], fun x => k x.1.1⟩
abbrev P99 (B : Nat) := FnOKs (X B) Ce 99
abbrev Q99 (B : Nat) := FnOK1 (X B) Ce 99 (con99 (fun _ => none))
def lp9900 (k : Int → (List GT) → Int → Int → Option ((Int × Unit) × Unit)) : Con := ⟨⟨[(1, .fn 99 [] []), (5, .int .i64), (8, .sl .ty), (9, .int .i64), (10, .int .i64)], [], []⟩, [(.exit 0, ⟨[(5, .int .i64)], [], []⟩)], fun x => k x.1.2.1 x.1.2.2.1 x.1.2.2.2.1 x.1.2.2.2.2.1⟩
theorem vL9900 : IsL 126 [0, 1, 0, 1, 1] := ⟨wF126, by kernel_rfl⟩
abbrev P9900 (B : Nat) := LpOKs (X B) Ce (fX 126).n (bX 126 [0, 1, 0, 1, 1])
abbrev Q9900 (B : Nat) := LoopOK1 (X B) Ce (fX 126).n (bX 126 [0, 1, 0, 1, 1]) (lp9900 (fun _ _ _ _ => none))
def con101 (k : GS → Option ((Int × Unit) × Unit)) : Con := ⟨⟨[(0, .n .st)], [], []⟩, [(.ret, ⟨[(1000, .int .i64)], [], []⟩)], fun x => k x.1.1⟩
abbrev P101 (B : Nat) := FnOKs (X B) Ce 101
abbrev Q101 (B : Nat) := FnOK1 (X B) Ce 101 (con101 (fun _ => none))
def lp10100 (k : Int → (List GS) → Int → Int → Option ((Int × Unit) × Unit)) : Con := ⟨⟨[(1, .fn 101 [] []), (5, .int .i64), (8, .sl .st), (9, .int .i64), (10, .int .i64)], [], []⟩, [(.exit 0, ⟨[(5, .int .i64)], [], []⟩)], fun x => k x.1.2.1 x.1.2.2.1 x.1.2.2.2.1 x.1.2.2.2.2.1⟩
theorem vL10100 : IsL 100 [0, 1, 0, 1, 1] := ⟨wF100, by kernel_rfl⟩
abbrev P10100 (B : Nat) := LpOKs (X B) Ce (fX 100).n (bX 100 [0, 1, 0, 1, 1])
abbrev Q10100 (B : Nat) := LoopOK1 (X B) Ce (fX 100).n (bX 100 [0, 1, 0, 1, 1]) (lp10100 (fun _ _ _ _ => none))
def con102 (k : GE → Option ((Int × Unit) × Unit)) : Con := ⟨⟨[(0, .n .ex)], [], []⟩, [(.ret, ⟨[(1000, .int .i64)], [], []⟩)], fun x => k x.1.1⟩
abbrev P102 (B : Nat) := FnOKs (X B) Ce 102
abbrev Q102 (B : Nat) := FnOK1 (X B) Ce 102 (con102 (fun _ => none))
def lp10200 (k : GE → Int → (List GE) → Int → Int → Option ((Int × Unit) × Unit)) : Con := ⟨⟨[(1, .ro (.n .ex)), (3, .int .i64), (16, .sl .ex), (17, .int .i64), (18, .int .i64)], [], []⟩, [(.exit 0, ⟨[(3, .int .i64)], [], []⟩)], fun x => k x.1.1 x.1.2.1 x.1.2.2.1 x.1.2.2.2.1 x.1.2.2.2.2.1⟩
theorem vL10200 : IsL 102 [0, 1, 0, 1, 1, 1] := ⟨wF102, by kernel_rfl⟩
abbrev P10200 (B : Nat) := LpOKs (X B) Ce (fX 102).n (bX 102 [0, 1, 0, 1, 1, 1])
abbrev Q10200 (B : Nat) := LoopOK1 (X B) Ce (fX 102).n (bX 102 [0, 1, 0, 1, 1, 1]) (lp10200 (fun _ _ _ _ _ => none))
def con104 (k : Str → Option ((((List KTok) × (GErr × Unit)) × Unit) × Unit)) : Con := ⟨⟨[(0, .str)], [], []⟩, [(.ret, ⟨[(1000, .tuple [.own .tok 0, .err])], [], [(0, 3, 96)]⟩)], fun x => k x.1.1⟩
abbrev P104 (B : Nat) := FnOKs (X B) Ce 104
abbrev Q104 (B : Nat) := FnOK1 (X B) Ce 104 (con104 (fun _ => none))
def lp10400 (k : Str → (List KTok) → Int → Option ((((List KTok) × Unit) × Unit) ⊕ ((Unit × (GErr × Unit)) × Unit))) : Con := ⟨⟨[(0, .str), (4, .own .tok 0), (5, .int .i64)], [], [(0, 3, 96)]⟩, [(.exit 0, ⟨[(4, .own .tok 0)], [], [(0, 3, 96)]⟩), (.ret, ⟨[(2, .lit 5), (3, .err)], [], []⟩)], fun x => k x.1.1 x.1.2.1 x.1.2.2.1⟩
theorem vL10400 : IsL 104 [0, 1, 0, 1, 1, 1] := ⟨wF104, by kernel_rfl⟩
abbrev P10400 (B : Nat) := LpOKs (X B) Ce (fX 104).n (bX 104 [0, 1, 0, 1, 1, 1])
abbrev Q10400 (B : Nat) := LoopOK1 (X B) Ce (fX 104).n (bX 104 [0, 1, 0, 1, 1, 1]) (lp10400 (fun _ _ _ => none))
def con105 (k : Option (((List Str) × Unit) × Unit)) : Con := ⟨⟨[], [], []⟩, [(.ret, ⟨[(1000, .sl .str)], [], []⟩)], fun x => k⟩
abbrev P105 (B : Nat) := FnOKs (X B) Ce 105
abbrev Q105 (B : Nat) := FnOK1 (X B) Ce 105 (con105 none)
def con112 (k : GE → Option ((Bool × Unit) × Unit)) : Con := ⟨⟨[(0, .n .ex)], [], []⟩, [(.ret, ⟨[(1000, .bool)], [], []⟩)], fun x => k x.1.1⟩
abbrev P112 (B : Nat) := FnOKs (X B) Ce 112
abbrev Q112 (B : Nat) := FnOK1 (X B) Ce 112 (con112 (fun _ => none))
def con113 (k : GE → Option ((Bool × Unit) × Unit)) : Con := ⟨⟨[(0, .n .ex)], [], []⟩, [(.ret, ⟨[(1000, .bool)], [], []⟩)], fun x => k x.1.1⟩
abbrev P113 (B : Nat) := FnOKs (X B) Ce 113
abbrev Q113 (B : Nat) := FnOK1 (X B) Ce 113 (con113 (fun _ => none))
def con127 (k : GE → Int → Option ((Bool × Unit) × Unit)) : Con := ⟨⟨[(0, .n .ex), (1, .int .i64)], [], []⟩, [(.ret, ⟨[(1000, .bool)], [], []⟩)], fun x => k x.1.1 x.1.2.1⟩
abbrev P127 (B : Nat) := FnOKs (X B) Ce 127
abbrev Q127 (B : Nat) := FnOK1 (X B) Ce 127 (con127 (fun _ _ => none))
def con128 (k : Str → Option ((Int × Unit) × Unit)) : Con := ⟨⟨[(0, .str)], [], []⟩, [(.ret, ⟨[(1000, .int .i64)], [], []⟩)], fun x => k x.1.1⟩
abbrev P128 (B : Nat) := FnOKs (X B) Ce 128
abbrev Q128 (B : Nat) := FnOK1 (X B) Ce 128 (con128 (fun _ => none))
def lp12800 (k : (Str × Nat) → Option ((Unit × ((Str × Nat) × Unit)) ⊕ ((Int × Unit) × ((Str × Nat) × Unit)))) : Con := ⟨⟨[(1, .fn 148 [] []), (8, .ptr 0 0)], [(0, .iter)], []⟩, [(.exit 0, ⟨[], [(0, .iter)], []⟩), (.ret, ⟨[(4, .int .i64)], [(0, .iter)], []⟩)], fun x => k x.2.1⟩
theorem vL12800 : IsL 147 [0, 1, 0, 1] := ⟨wF147, by kernel_rfl⟩
abbrev P12800 (B : Nat) := LpOKs (X B) Ce (fX 147).n (bX 147 [0, 1, 0, 1])
abbrev Q12800 (B : Nat) := LoopOK1 (X B) Ce (fX 147).n (bX 147 [0, 1, 0, 1]) (lp12800 (fun _ => none))
def lp12801 (k : (Str × Nat) → Option ((Unit × ((Str × Nat) × Unit)) ⊕ ((Int × Unit) × ((Str × Nat) × Unit)))) : Con := ⟨⟨[(1, .fn 150 [] []), (8, .ptr 0 0)], [(0, .iter)], []⟩, [(.exit 0, ⟨[], [(0, .iter)], []⟩), (.ret, ⟨[(4, .int .i64)], [(0, .iter)], []⟩)], fun x => k x.2.1⟩
theorem vL12801 : IsL 147 [0, 1, 0, 1] := ⟨wF147, by kernel_rfl⟩
abbrev P12801 (B : Nat) := LpOKs (X B) Ce (fX 147).n (bX 147 [0, 1, 0, 1])
abbrev Q12801 (B : Nat) := LoopOK1 (X B) Ce (fX 147).n (bX 147 [0, 1, 0, 1]) (lp12801 (fun _ => none))
def con129 (k : Str → Option (((Int × (Int × Unit)) × Unit) × Unit)) : Con := ⟨⟨[(0, .str)], [], []⟩, [(.ret, ⟨[(1000, .tuple [.int .i64, .int .i64])], [], []⟩)], fun x => k x.1.1⟩
abbrev P129 (B : Nat) := FnOKs (X B) Ce 129
abbrev Q129 (B : Nat) := FnOK1 (X B) Ce 129 (con129 (fun _ => none))
def lp12900 (k : (Str × Nat) → Option ((Unit × ((Str × Nat) × Unit)) ⊕ ((Int × Unit) × ((Str × Nat) × Unit)))) : Con := ⟨⟨[(1, .fn 153 [] []), (8, .ptr 0 0)], [(0, .iter)], []⟩, [(.exit 0, ⟨[], [(0, .iter)], []⟩), (.ret, ⟨[(4, .int .i64)], [(0, .iter)], []⟩)], fun x => k x.2.1⟩
theorem vL12900 : IsL 147 [0, 1, 0, 1] := ⟨wF147, by kernel_rfl⟩
abbrev P12900 (B : Nat) := LpOKs (X B) Ce (fX 147).n (bX 147 [0, 1, 0, 1])
abbrev Q12900 (B : Nat) := LoopOK1 (X B) Ce (fX 147).n (bX 147 [0, 1, 0, 1]) (lp12900 (fun _ => none))
def con137 (k : GE → Option ((Bool × Unit) × Unit)) : Con := ⟨⟨[(0, .n .ex)], [], []⟩, [(.ret, ⟨[(1000, .bool)], [], []⟩)], fun x => k x.1.1⟩
abbrev P137 (B : Nat) := FnOKs (X B) Ce 137
abbrev Q137 (B : Nat) := FnOK1 (X B) Ce 137 (con137 (fun _ => none))
def con138 (k : GE → Option ((Bool × Unit) × Unit)) : Con := ⟨⟨[(0, .n .ex)], [], []⟩, [(.ret, ⟨[(1000, .bool)], [], []⟩)], fun x => k x.1.1⟩
abbrev P138 (B : Nat) := FnOKs (X B) Ce 138
abbrev Q138 (B : Nat) := FnOK1 (X B) Ce 138 (con138 (fun _ => none))
def con140 (k : GE → Option ((Int × Unit) × Unit)) : Con := ⟨⟨[(0, .n .ex)], [], []⟩, [(.ret, ⟨[(1000, .int .i64)], [], []⟩)], fun x => k x.1.1⟩
abbrev P140 (B : Nat) := FnOKs (X B) Ce 140
abbrev Q140 (B : Nat) := FnOK1 (X B) Ce 140 (con140 (fun _ => none))
def con149 (k : Str → Str → Option ((Bool × Unit) × Unit)) : Con := ⟨⟨[(0, .str), (1, .str)], [], []⟩, [(.ret, ⟨[(1000, .bool)], [], []⟩)], fun x => k x.1.1 x.1.2.1⟩
abbrev P149 (B : Nat) := FnOKs (X B) Ce 149
abbrev Q149 (B : Nat) := FnOK1 (X B) Ce 149 (con149 (fun _ _ => none))
def con151 (k : Int → Option ((Bool × Unit) × Unit)) : Con := ⟨⟨[(0, .int .i32)], [], []⟩, [(.ret, ⟨[(1000, .bool)], [], []⟩)], fun x => k x.1.1⟩
abbrev P151 (B : Nat) := FnOKs (X B) Ce 151
abbrev Q151 (B : Nat) := FnOK1 (X B) Ce 151 (con151 (fun _ => none))
def con152 (k : Str → Option ((Int × Unit) × Unit)) : Con := ⟨⟨[(0, .str)], [], []⟩, [(.ret, ⟨[(1000, .int .i64)], [], []⟩)], fun x => k x.1.1⟩
abbrev P152 (B : Nat) := FnOKs (X B) Ce 152
abbrev Q152 (B : Nat) := FnOK1 (X B) Ce 152 (con152 (fun _ => none))
def lp15200 (k : (Str × Nat) → Option ((Unit × ((Str × Nat) × Unit)) ⊕ ((Int × Unit) × ((Str × Nat) × Unit)))) : Con := ⟨⟨[(1, .fn 161 [] []), (8, .ptr 0 0)], [(0, .iter)], []⟩, [(.exit 0, ⟨[], [(0, .iter)], []⟩), (.ret, ⟨[(4, .int .i64)], [(0, .iter)], []⟩)], fun x => k x.2.1⟩
theorem vL15200 : IsL 147 [0, 1, 0, 1] := ⟨wF147, by kernel_rfl⟩
abbrev P15200 (B : Nat) := LpOKs (X B) Ce (fX 147).n (bX 147 [0, 1, 0, 1])
abbrev Q15200 (B : Nat) := LoopOK1 (X B) Ce (fX 147).n (bX 147 [0, 1, 0, 1]) (lp15200 (fun _ => none))
def con153 (k : Int → Option ((Bool × Unit) × Unit)) : Con := ⟨⟨[(0, .int .i32)], [], []⟩, [(.ret, ⟨[(1000, .bool)], [], []⟩)], fun x => k x.1.1⟩
abbrev P153 (B : Nat) := FnOKs (X B) Ce 153
abbrev Q153 (B : Nat) := FnOK1 (X B) Ce 153 (con153 (fun _ => none))
def con154 (k : Str → Int → Option ((Bool × Unit) × Unit)) : Con := ⟨⟨[(0, .str), (1, .int .i32)], [], []⟩, [(.ret, ⟨[(1000, .bool)], [], []⟩)], fun x => k x.1.1 x.1.2.1⟩
abbrev P154 (B : Nat) := FnOKs (X B) Ce 154
abbrev Q154 (B : Nat) := FnOK1 (X B) Ce 154 (con154 (fun _ _ => none))
def con160 (k : Str → Str → Option ((Bool × Unit) × Unit)) : Con := ⟨⟨[(0, .str), (1, .str)], [], []⟩, [(.ret, ⟨[(1000, .bool)], [], []⟩)], fun x => k x.1.1 x.1.2.1⟩
abbrev P160 (B : Nat) := FnOKs (X B) Ce 160
abbrev Q160 (B : Nat) := FnOK1 (X B) Ce 160 (con160 (fun _ _ => none))
def con162 (k : Str → Int → Option ((Int × Unit) × Unit)) : Con := ⟨⟨[(0, .str), (1, .int .i32)], [], []⟩, [(.ret, ⟨[(1000, .int .i64)], [], []⟩)], fun x => k x.1.1 x.1.2.1⟩
abbrev P162 (B : Nat) := FnOKs (X B) Ce 162
abbrev Q162 (B : Nat) := FnOK1 (X B) Ce 162 (con162 (fun _ _ => none))
def lp16200 (k : (Str × Nat) → Option ((Unit × ((Str × Nat) × Unit)) ⊕ ((Int × Unit) × ((Str × Nat) × Unit)))) : Con := ⟨⟨[(175, .ptr 0 0)], [(0, .iter)], []⟩, [(.exit 9, ⟨[], [(0, .iter)], []⟩), (.ret, ⟨[(4, .int .i64)], [(0, .iter)], []⟩)], fun x => k x.2.1⟩
theorem vL16200 : IsL 162 [0, 1, 0, 0, 1, 1, 1, 0, 1] := ⟨wF162, by kernel_rfl⟩
abbrev P16200 (B : Nat) := LpOKs (X B) Ce (fX 162).n (bX 162 [0, 1, 0, 0, 1, 1, 1, 0, 1])
abbrev Q16200 (B : Nat) := LoopOK1 (X B) Ce (fX 162).n (bX 162 [0, 1, 0, 0, 1, 1, 1, 0, 1]) (lp16200 (fun _ => none))
def lp16201 (k : Str → Str → Int → Int → Int → Option (Unit × Unit)) : Con := ⟨⟨[(0, .str), (7, .str), (8, .int .i64), (9, .int .i64), (12, .int .i64)], [], []⟩, [(.exit 3, ⟨[], [], []⟩)], fun x => k x.1.1 x.1.2.1 x.1.2.2.1 x.1.2.2.2.1 x.1.2.2.2.2.1⟩
theorem vL16201 : IsL 162 [0, 1, 0, 1, 0, 0, 1, 0, 0, 0, 1, 1, 1, 1, 0, 1, 1, 1, 1, 1, 1, 0, 1] := ⟨wF162, by kernel_rfl⟩
abbrev P16201 (B : Nat) := LpOKs (X B) Ce (fX 162).n (bX 162 [0, 1, 0, 1, 0, 0, 1, 0, 0, 0, 1, 1, 1, 1, 0, 1, 1, 1, 1, 1, 1, 0, 1])
abbrev Q16201 (B : Nat) := LoopOK1 (X B) Ce (fX 162).n (bX 162 [0, 1, 0, 1, 0, 0, 1, 0, 0, 0, 1, 1, 1, 1, 0, 1, 1, 1, 1, 1, 1, 0, 1]) (lp16201 (fun _ _ _ _ _ => none))
def lp16202 (k : Str → Str → Int → Int → Option ((Unit × Unit) ⊕ ((Int × Unit) × Unit))) : Con := ⟨⟨[(0, .str), (7, .str), (8, .int .i64), (9, .int .i64)], [], []⟩, [(.exit 1, ⟨[], [], []⟩), (.ret, ⟨[(4, .int .i64)], [], []⟩)], fun x => k x.1.1 x.1.2.1 x.1.2.2.1 x.1.2.2.2.1⟩
theorem vL16202 : IsL 162 [0, 0, 1, 1, 1, 1, 0, 1, 1, 1, 1, 1, 1, 0, 1] := ⟨wF162, by kernel_rfl⟩
abbrev P16202 (B : Nat) := LpOKs (X B) Ce (fX 162).n (bX 162 [0, 0, 1, 1, 1, 1, 0, 1, 1, 1, 1, 1, 1, 0, 1])
abbrev Q16202 (B : Nat) := LoopOK1 (X B) Ce (fX 162).n (bX 162 [0, 0, 1, 1, 1, 1, 0, 1, 1, 1, 1, 1, 1, 0, 1]) (lp16202 (fun _ _ _ _ => none))
theorem h_k23_0 (B : Nat) : (∀ a0 a1 a2 a3 a4 a5 r, k23_0 a0 a1 a2 a3 a4 a5 = some r → Q2300 B (((), (a0, (a1, (a2, (a3, (a4, ())))))), (a5, ())) r) := by
  refine k23_0.partial_correctness _ ?_
  · intro gk23_0 mk23_0 a0 a1 a2 a3 a4 a5 r h
    have Hk23_0 : P2300 B (lp2300 gk23_0) := fun _ _ hx => mk23_0 _ _ _ _ _ _ _ hx
    have HL := Hk23_0
    exact gl cN (lC 2300 vL2300 Hk23_0 lN) vL2300 .nil (lp2300 gk23_0) HL (krw h (by kernel_rfl))
theorem ok_k23_0 (B : Nat) : P2300 B (lp2300 k23_0) := fun _ _ hx => (h_k23_0 B) _ _ _ _ _ _ _ hx
theorem h_k26 (B : Nat) : (∀ a0 r, k26 a0 = some r → Q26 B ((a0, ()), ()) r) ∧ (∀ a0 a1 a2 r, k26_0 a0 a1 a2 = some r → Q2600 B ((a0, (((), ()), (a1, (a2, ())))), ()) r) := by
  refine k26.mutual_partial_correctness _ _ ?_ ?_
  · intro gk26_0 mk26_0 a0 r h
    have Hk26_0 : P2600 B (lp2600 gk26_0) := fun _ _ hx => mk26_0 _ _ _ _ hx
    exact gf cN (lC 2600 vL2600 Hk26_0 lN) wF26 (.seq .nil (.seq (.region [(6, (.seq .nil (.seq (.region [(2, (.seq .nil (.seq (.seq .nil (.sub (.loop 2600))) .nil)))]) .nil)))]) .nil)) (krw h (by kernel_rfl))
  · intro gk26 gk26_0 mk26 mk26_0 a0 a1 a2 r h
    have Hk26 : P26 B (con26 gk26) := fun _ _ hx => mk26 _ _ hx
    have Hk26_0 : P2600 B (lp2600 gk26_0) := fun _ _ hx => mk26_0 _ _ _ _ hx
    have HL := Hk26_0
    exact gl (cC Hk26 cN) (lC 2600 vL2600 Hk26_0 lN) vL2600 .nil (lp2600 gk26_0) HL (krw h (by kernel_rfl))
theorem ok_k26 (B : Nat) : P26 B (con26 k26) := fun _ _ hx => (h_k26 B).1 _ _ hx
theorem h_k11 (B : Nat) : (∀ a0 r, k11 a0 = some r → Q11 B ((a0, ()), ()) r) ∧ (∀ a0 a1 a2 a3 r, k11_0 a0 a1 a2 a3 = some r → Q1100 B ((a0, (((), ((), ())), (a1, (a2, ())))), (a3, ())) r) := by
  refine k11.mutual_partial_correctness _ _ ?_ ?_
  · intro gk11_0 mk11_0 a0 r h
    have Hk11_0 : P1100 B (lp1100 gk11_0) := fun _ _ hx => mk11_0 _ _ _ _ _ hx
    exact gf cN (lC 1100 vL1100 Hk11_0 lN) wF11 (.seq .nil (.seq .nil (.seq (.region [(3, (.seq .nil (.seq (.region [(2, (.seq .nil (.seq (.seq .nil (.sub (.loop 1100))) .nil)))]) .nil)))]) .nil))) (krw h (by kernel_rfl))
  · intro gk11 gk11_0 mk11 mk11_0 a0 a1 a2 a3 r h
    have Hk11 : P11 B (con11 gk11) := fun _ _ hx => mk11 _ _ hx
    have Hk11_0 : P1100 B (lp1100 gk11_0) := fun _ _ hx => mk11_0 _ _ _ _ _ hx
    have HL := Hk11_0
    exact gl (cC Hk11 (cC (ok_k26 B) cN)) (lC 1100 vL1100 Hk11_0 lN) vL1100 .nil (lp1100 gk11_0) HL (krw h (by kernel_rfl))
theorem ok_k11 (B : Nat) : P11 B (con11 k11) := fun _ _ hx => (h_k11 B).1 _ _ hx
theorem h_k42 (B : Nat) : (∀ a0 r, k42 a0 = some r → Q42 B ((a0, ()), ()) r) ∧ (∀ a0 a1 a2 a3 r, k42_0 a0 a1 a2 a3 = some r → Q4200 B ((a0, (a1, (a2, (a3, ())))), ()) r) := by
  refine k42.mutual_partial_correctness _ _ ?_ ?_
  · intro gk42_0 mk42_0 a0 r h
    have Hk42_0 : P4200 B (lp4200 gk42_0) := fun _ _ hx => mk42_0 _ _ _ _ _ hx
    exact gf cN (lC 4200 vL4200 Hk42_0 lN) wF42 (.seq .nil (.seq .nil (.seq .nil (.seq (.seq .nil (.sub (.loop 4200))) .nil)))) (krw h (by kernel_rfl))
  · intro gk42 gk42_0 mk42 mk42_0 a0 a1 a2 a3 r h
    have Hk42 : P42 B (con42 gk42) := fun _ _ hx => mk42 _ _ hx
    have Hk42_0 : P4200 B (lp4200 gk42_0) := fun _ _ hx => mk42_0 _ _ _ _ _ hx
    have HL := Hk42_0
    exact gl (cC Hk42 cN) (lC 4200 vL4200 Hk42_0 lN) vL4200 .nil (lp4200 gk42_0) HL (krw h (by kernel_rfl))
theorem ok_k42 (B : Nat) : P42 B (con42 k42) := fun _ _ hx => (h_k42 B).1 _ _ hx
theorem h_k23_1 (B : Nat) : (∀ a0 a1 a2 a3 a4 r, k23_1 a0 a1 a2 a3 a4 = some r → Q2301 B ((a0, (a1, (a2, (a3, (a4, ()))))), ()) r) := by
  refine k23_1.partial_correctness _ ?_
  · intro gk23_1 mk23_1 a0 a1 a2 a3 a4 r h
    have Hk23_1 : P2301 B (lp2301 gk23_1) := fun _ _ hx => mk23_1 _ _ _ _ _ _ hx
    have HL := Hk23_1
    exact gl (cC (ok_k11 B) (cC (ok_k42 B) cN)) (lC 2301 vL2301 Hk23_1 lN) vL2301 .nil (lp2301 gk23_1) HL (krw h (by kernel_rfl))
theorem ok_k23_1 (B : Nat) : P2301 B (lp2301 k23_1) := fun _ _ hx => (h_k23_1 B) _ _ _ _ _ _ hx
theorem h_k78_0 (B : Nat) : (∀ a0 a1 a2 a3 r, k78_0 a0 a1 a2 a3 = some r → Q7800 B ((a0, (a1, (a2, (a3, ())))), ()) r) := by
  refine k78_0.partial_correctness _ ?_
  · intro gk78_0 mk78_0 a0 a1 a2 a3 r h
    have Hk78_0 : P7800 B (lp7800 gk78_0) := fun _ _ hx => mk78_0 _ _ _ _ _ hx
    have HL := Hk78_0
    exact gl cN (lC 7800 vL7800 Hk78_0 lN) vL7800 .nil (lp7800 gk78_0) HL (krw h (by kernel_rfl))
theorem ok_k78_0 (B : Nat) : P7800 B (lp7800 k78_0) := fun _ _ hx => (h_k78_0 B) _ _ _ _ _ hx
theorem ok_k78 (B : Nat) : P78 B (con78 k78) := by
  have h : ∀ a0 a1 r, k78 a0 a1 = some r → Q78 B ((a0, (a1, ())), ()) r := fun a0 a1 r h => gf cN (lC 7800 vL7800 (ok_k78_0 B) lN) wF78 (.seq .nil (.seq (.seq .nil (.sub (.loop 7800))) .nil)) (krw h (by kernel_rfl))
  exact fun _ _ hx => h _ _ _ hx
theorem ok_k40 (B : Nat) : P40 B (con40 k40) := by
  have h : ∀ a0 a1 r, k40 a0 a1 = some r → Q40 B ((a0, (a1, ())), ()) r := fun a0 a1 r h => gf (cC (ok_k78 B) cN) lN wF40 .nil (krw h (by kernel_rfl))
  exact fun _ _ hx => h _ _ _ hx
theorem h_k23_2 (B : Nat) : (∀ a0 a1 a2 a3 r, k23_2 a0 a1 a2 a3 = some r → Q2302 B ((a0, (((), ((), ())), (a1, (a2, ())))), (((), ((), ())), (a3, ()))) r) := by
  refine k23_2.partial_correctness _ ?_
  · intro gk23_2 mk23_2 a0 a1 a2 a3 r h
    have Hk23_2 : P2302 B (lp2302 gk23_2) := fun _ _ hx => mk23_2 _ _ _ _ _ hx
    have HL := Hk23_2
    exact gl (cC (ok_k40 B) cN) (lC 2302 vL2302 Hk23_2 lN) vL2302 .nil (lp2302 gk23_2) HL (krw h (by kernel_rfl))
theorem ok_k23_2 (B : Nat) : P2302 B (lp2302 k23_2) := fun _ _ hx => (h_k23_2 B) _ _ _ _ _ hx
theorem h_k43_0 (B : Nat) : (∀ a0 a1 a2 a3 r, k43_0 a0 a1 a2 a3 = some r → Q4300 B (((), (a0, (a1, (a2, ())))), (a3, ())) r) := by
  refine k43_0.partial_correctness _ ?_
  · intro gk43_0 mk43_0 a0 a1 a2 a3 r h
    have Hk43_0 : P4300 B (lp4300 gk43_0) := fun _ _ hx => mk43_0 _ _ _ _ _ hx
    have HL := Hk43_0
    exact gl cN (lC 4300 vL4300 Hk43_0 lN) vL4300 .nil (lp4300 gk43_0) HL (krw h (by kernel_rfl))
theorem ok_k43_0 (B : Nat) : P4300 B (lp4300 k43_0) := fun _ _ hx => (h_k43_0 B) _ _ _ _ _ hx
theorem ok_k43 (B : Nat) : P43 B (con43 k43) := by
  have h : ∀ a0 r, k43 a0 = some r → Q43 B ((a0, ()), ()) r := fun a0 r h => gf cN (lC 4300 vL4300 (ok_k43_0 B) lN) wF43 (.seq .nil (.seq .nil (.seq (.seq .nil (.sub (.loop 4300))) .nil))) (krw h (by kernel_rfl))
  exact fun _ _ hx => h _ _ hx
theorem h_k47 (B : Nat) : (∀ a0 a1 a2 r, k47 a0 a1 a2 = some r → Q47 B (((), (a0, ((), ()))), (a1, (a2, ()))) r) ∧ (∀ a0 a1 a2 a3 a4 r, k47_0 a0 a1 a2 a3 a4 = some r → Q4700 B (((), ((), (a0, (a1, (a2, ()))))), (a3, (a4, ()))) r) := by
  refine k47.mutual_partial_correctness _ _ ?_ ?_
  · intro gk47_0 mk47_0 a0 a1 a2 r h
    have Hk47_0 : P4700 B (lp4700 gk47_0) := fun _ _ hx => mk47_0 _ _ _ _ _ _ hx
    exact gf cN (lC 4700 vL4700 Hk47_0 lN) wF47 (.seq .nil (.seq (.seq .nil (.sub (.loop 4700))) .nil)) (krw h (by kernel_rfl))
  · intro gk47 gk47_0 mk47 mk47_0 a0 a1 a2 a3 a4 r h
    have Hk47 : P47 B (con47 gk47) := fun _ _ hx => mk47 _ _ _ _ hx
    have Hk47_0 : P4700 B (lp4700 gk47_0) := fun _ _ hx => mk47_0 _ _ _ _ _ _ hx
    have HL := Hk47_0
    exact gl (cC Hk47 cN) (lC 4700 vL4700 Hk47_0 lN) vL4700 .nil (lp4700 gk47_0) HL (krw h (by kernel_rfl))
theorem ok_k47 (B : Nat) : P47 B (con47 k47) := fun _ _ hx => (h_k47 B).1 _ _ _ _ hx
theorem h_k46 (B : Nat) : (∀ a0 a1 a2 r, k46 a0 a1 a2 = some r → Q46 B (((), (a0, ((), ()))), (a1, (a2, ()))) r) ∧ (∀ a0 a1 a2 a3 a4 r, k46_0 a0 a1 a2 a3 a4 = some r → Q4600 B (((), ((), (a0, (a1, (a2, ()))))), (a3, (a4, ()))) r) := by
  refine k46.mutual_partial_correctness _ _ ?_ ?_
  · intro gk46_0 mk46_0 a0 a1 a2 r h
    have Hk46_0 : P4600 B (lp4600 gk46_0) := fun _ _ hx => mk46_0 _ _ _ _ _ _ hx
    exact gf (cC (inner_ok B _ _) cN) (lC 4600 vL4600 Hk46_0 lN) wF46 (.seq .nil (.seq (.seq .nil (.sub (.loop 4600))) .nil)) (krw h (by kernel_rfl))
  · intro gk46 gk46_0 mk46 mk46_0 a0 a1 a2 a3 a4 r h
    have Hk46 : P46 B (con46 gk46) := fun _ _ hx => mk46 _ _ _ _ hx
    have Hk46_0 : P4600 B (lp4600 gk46_0) := fun _ _ hx => mk46_0 _ _ _ _ _ _ hx
    have HL := Hk46_0
    exact gl (cC Hk46 (cC (ok_k47 B) (cC (inner_ok B _ _) cN))) (lC 4600 vL4600 Hk46_0 lN) vL4600 (.seq .nil (.seq .nil (.seq (.sub (.seq .nil (.seq (.seq (.join [(0, 0), (1, 2)] [] [(.normal, ⟨[(33, .bool)], [(0, .map .str .bool), (1, .map .str .int)], []⟩)] .nil) .nil) (.seq (.seq (.join [(0, 0), (1, 2)] [] [(.normal, ⟨[(60, .bool)], [(0, .map .str .bool), (1, .map .str .int)], []⟩)] .nil) .nil) .nil)))) .nil))) (lp4600 gk46_0) HL (krw h (by kernel_rfl))
theorem ok_k46 (B : Nat) : P46 B (con46 k46) := fun _ _ hx => (h_k46 B).1 _ _ _ _ hx
theorem ok_k23 (B : Nat) : P23 B (con23 k23) := by
  have h : ∀ a0 a1 r, k23 a0 a1 = some r → Q23 B ((a0, ((), ())), (a1, ())) r := fun a0 a1 r h => gf (cC (clone_ok B _ _) (cC (ok_k43 B) (cC (ok_k46 B) (cC (ok_k47 B) cN)))) (lC 2300 vL2300 (ok_k23_0 B) (lC 2301 vL2301 (ok_k23_1 B) (lC 2302 vL2302 (ok_k23_2 B) lN))) wF23 (.seq .nil (.seq .nil (.seq .nil (.seq .nil (.seq (.seq .nil (.sub (.loop 2300))) (.seq .nil (.seq .nil (.seq .nil (.seq (.seq .nil (.sub (.loop 2301))) (.seq .nil (.seq (.sub (.seq (.join [(0, 2), (1, 10)] [7, 11] [(.normal, ⟨[(69, .bool)], [(0, .cells 42 (.n .fn)), (1, .cells 79 (.fn 39 [] [.ptr 0 0]))], []⟩)] (.region [(15, (.seq .nil (.seq (.region [(2, (.seq .nil (.seq (.seq .nil (.sub (.loop 2302))) .nil)))]) .nil)))])) .nil)) .nil))))))))))) (krw h (by kernel_rfl))
  exact fun _ _ hx => h _ _ _ hx
theorem h_k10_0 (B : Nat) : (∀ a0 a1 a2 a3 r, k10_0 a0 a1 a2 a3 = some r → Q1000 B (((), (a0, (a1, (a2, ())))), (a3, ())) r) := by
  refine k10_0.partial_correctness _ ?_
  · intro gk10_0 mk10_0 a0 a1 a2 a3 r h
    have Hk10_0 : P1000 B (lp1000 gk10_0) := fun _ _ hx => mk10_0 _ _ _ _ _ hx
    have HL := Hk10_0
    exact gl (cC (ok_k23 B) cN) (lC 1000 vL1000 Hk10_0 lN) vL1000 .nil (lp1000 gk10_0) HL (krw h (by kernel_rfl))
theorem ok_k10_0 (B : Nat) : P1000 B (lp1000 k10_0) := fun _ _ hx => (h_k10_0 B) _ _ _ _ _ hx
theorem h_k128_0 (B : Nat) : (∀ a0 r, k128_0 a0 = some r → Q12800 B ((((), ()), ((), ())), (a0, ())) r) := by
  refine k128_0.partial_correctness _ ?_
  · intro gk128_0 mk128_0 a0 r h
    have Hk128_0 : P12800 B (lp12800 gk128_0) := fun _ _ hx => mk128_0 _ _ hx
    have HL := Hk128_0
    exact gl cN (lC 12800 vL12800 Hk128_0 lN) vL12800 .nil (lp12800 gk128_0) HL (krw h (by kernel_rfl))
theorem ok_k128_0 (B : Nat) : P12800 B (lp12800 k128_0) := fun _ _ hx => (h_k128_0 B) _ _ hx
theorem h_k128_1 (B : Nat) : (∀ a0 r, k128_1 a0 = some r → Q12801 B ((((), ()), ((), ())), (a0, ())) r) := by
  refine k128_1.partial_correctness _ ?_
  · intro gk128_1 mk128_1 a0 r h
    have Hk128_1 : P12801 B (lp12801 gk128_1) := fun _ _ hx => mk128_1 _ _ hx
    have HL := Hk128_1
    exact gl cN (lC 12801 vL12801 Hk128_1 lN) vL12801 .nil (lp12801 gk128_1) HL (krw h (by kernel_rfl))
theorem ok_k128_1 (B : Nat) : P12801 B (lp12801 k128_1) := fun _ _ hx => (h_k128_1 B) _ _ hx
theorem ok_k160 (B : Nat) : P160 B (con160 k160) := by
  have h : ∀ a0 a1 r, k160 a0 a1 = some r → Q160 B ((a0, (a1, ())), ()) r := fun a0 a1 r h => gf cN lN wF160 .nil (krw h (by kernel_rfl))
  exact fun _ _ hx => h _ _ _ hx
theorem ok_k149 (B : Nat) : P149 B (con149 k149) := by
  have h : ∀ a0 a1 r, k149 a0 a1 = some r → Q149 B ((a0, (a1, ())), ()) r := fun a0 a1 r h => gf (cC (ok_k160 B) cN) lN wF149 .nil (krw h (by kernel_rfl))
  exact fun _ _ hx => h _ _ _ hx
theorem ok_k128 (B : Nat) : P128 B (con128 k128) := by
  have h : ∀ a0 r, k128 a0 = some r → Q128 B ((a0, ()), ()) r := fun a0 r h => gf (cC (ok_k149 B) cN) (lC 12800 vL12800 (ok_k128_0 B) (lC 12801 vL12801 (ok_k128_1 B) lN)) wF128 (.seq .nil (.seq (.region [(1, (.seq .nil (.seq (.seq .nil (.sub (.loop 12800))) .nil)))]) (.seq (.seq .nil (.seq (.region [(4, (.seq .nil (.seq (.seq .nil (.sub (.loop 12801))) .nil)))]) .nil)) .nil))) (krw h (by kernel_rfl))
  exact fun _ _ hx => h _ _ hx
theorem ok_k153 (B : Nat) : P153 B (con153 k153) := by
  have h : ∀ a0 r, k153 a0 = some r → Q153 B ((a0, ()), ()) r := fun a0 r h => gf cN lN wF153 .nil (krw h (by kernel_rfl))
  exact fun _ _ hx => h _ _ hx
theorem h_k129_0 (B : Nat) : (∀ a0 r, k129_0 a0 = some r → Q12900 B ((((), ()), ((), ())), (a0, ())) r) := by
  refine k129_0.partial_correctness _ ?_
  · intro gk129_0 mk129_0 a0 r h
    have Hk129_0 : P12900 B (lp12900 gk129_0) := fun _ _ hx => mk129_0 _ _ hx
    have HL := Hk129_0
    exact gl (cC (ok_k153 B) cN) (lC 12900 vL12900 Hk129_0 lN) vL12900 .nil (lp12900 gk129_0) HL (krw h (by kernel_rfl))
theorem ok_k129_0 (B : Nat) : P12900 B (lp12900 k129_0) := fun _ _ hx => (h_k129_0 B) _ _ hx
theorem ok_k151 (B : Nat) : P151 B (con151 k151) := by
  have h : ∀ a0 r, k151 a0 = some r → Q151 B ((a0, ()), ()) r := fun a0 r h => gf cN lN wF151 .nil (krw h (by kernel_rfl))
  exact fun _ _ hx => h _ _ hx
theorem h_k152_0 (B : Nat) : (∀ a0 r, k152_0 a0 = some r → Q15200 B ((((), ()), ((), ())), (a0, ())) r) := by
  refine k152_0.partial_correctness _ ?_
  · intro gk152_0 mk152_0 a0 r h
    have Hk152_0 : P15200 B (lp15200 gk152_0) := fun _ _ hx => mk152_0 _ _ hx
    have HL := Hk152_0
    exact gl (cC (ok_k151 B) (cC (ok_k153 B) cN)) (lC 15200 vL15200 Hk152_0 lN) vL15200 .nil (lp15200 gk152_0) HL (krw h (by kernel_rfl))
theorem ok_k152_0 (B : Nat) : P15200 B (lp15200 k152_0) := fun _ _ hx => (h_k152_0 B) _ _ hx
theorem ok_k152 (B : Nat) : P152 B (con152 k152) := by
  have h : ∀ a0 r, k152 a0 = some r → Q152 B ((a0, ()), ()) r := fun a0 r h => gf (cC (ok_k153 B) cN) (lC 15200 vL15200 (ok_k152_0 B) lN) wF152 (.seq .nil (.seq (.region [(1, (.seq .nil (.seq (.seq .nil (.sub (.loop 15200))) .nil)))]) .nil)) (krw h (by kernel_rfl))
  exact fun _ _ hx => h _ _ hx
theorem h_k162_0 (B : Nat) : (∀ a0 r, k162_0 a0 = some r → Q16200 B (((), ()), (a0, ())) r) := by
  refine k162_0.partial_correctness _ ?_
  · intro gk162_0 mk162_0 a0 r h
    have Hk162_0 : P16200 B (lp16200 gk162_0) := fun _ _ hx => mk162_0 _ _ hx
    have HL := Hk162_0
    exact gl cN (lC 16200 vL16200 Hk162_0 lN) vL16200 .nil (lp16200 gk162_0) HL (krw h (by kernel_rfl))
theorem ok_k162_0 (B : Nat) : P16200 B (lp16200 k162_0) := fun _ _ hx => (h_k162_0 B) _ _ hx
theorem h_k162_1 (B : Nat) : (∀ a0 a1 a2 a3 a4 r, k162_1 a0 a1 a2 a3 a4 = some r → Q16201 B ((a0, (a1, (a2, (a3, (a4, ()))))), ()) r) := by
  refine k162_1.partial_correctness _ ?_
  · intro gk162_1 mk162_1 a0 a1 a2 a3 a4 r h
    have Hk162_1 : P16201 B (lp16201 gk162_1) := fun _ _ hx => mk162_1 _ _ _ _ _ _ hx
    have HL := Hk162_1
    exact gl cN (lC 16201 vL16201 Hk162_1 lN) vL16201 .nil (lp16201 gk162_1) HL (krw h (by kernel_rfl))
theorem ok_k162_1 (B : Nat) : P16201 B (lp16201 k162_1) := fun _ _ hx => (h_k162_1 B) _ _ _ _ _ _ hx
theorem ok_k162_2 (B : Nat) : P16202 B (lp16202 k162_2) := by
  have HL : P16202 B (lp16202 (fun _ _ _ _ => none)) := fun _ _ hx => by cases hx
  have h : ∀ a0 a1 a2 a3 r, k162_2 a0 a1 a2 a3 = some r → Q16202 B ((a0, (a1, (a2, (a3, ())))), ()) r := fun a0 a1 a2 a3 r h => gl (cC (indexByte_ok B _ _) cN) (lC 16201 vL16201 (ok_k162_1 B) lN) vL16202 (.seq .nil (.sub (.sub (.seq (.join [] [] [(.normal, ⟨[(9, .int .i64)], [], []⟩), (.ret, ⟨[(4, .int .i64)], [], []⟩)] .nil) (.seq (.seq .nil (.sub (.loop 16201))) .nil))))) (lp16202 (fun _ _ _ _ => none)) HL (krw h (by kernel_rfl))
  exact fun _ _ hx => h _ _ _ _ _ hx
theorem ok_k162 (B : Nat) : P162 B (con162 k162) := by
  have h : ∀ a0 a1 r, k162 a0 a1 = some r → Q162 B ((a0, (a1, ())), ()) r := fun a0 a1 r h => gf (cC (indexByte_ok B _ _) (cC (validRune_ok B _ _) cN)) (lC 16200 vL16200 (ok_k162_0 B) (lC 16202 vL16202 (ok_k162_2 B) lN)) wF162 (.seq .nil (.sub (.seq (.join [] [] [(.normal, ⟨[(160, .bool)], [], []⟩)] .nil) (.seq .nil (.seq .nil (.seq (.seq (.seq .nil (.sub (.loop 16200))) .nil) (.seq .nil (.seq .nil (.sub (.seq .nil (.seq .nil (.seq .nil (.seq .nil (.seq (.sub (.loop 16202)) .nil)))))))))))))) (krw h (by kernel_rfl))
  exact fun _ _ hx => h _ _ _ hx
theorem ok_k154 (B : Nat) : P154 B (con154 k154) := by
  have h : ∀ a0 a1 r, k154 a0 a1 = some r → Q154 B ((a0, (a1, ())), ()) r := fun a0 a1 r h => gf (cC (ok_k162 B) cN) lN wF154 .nil (krw h (by kernel_rfl))
  exact fun _ _ hx => h _ _ _ hx
theorem ok_k129 (B : Nat) : P129 B (con129 k129) := by
  have h : ∀ a0 r, k129 a0 = some r → Q129 B ((a0, ()), ()) r := fun a0 r h => gf (cC (ok_k149 B) (cC (ok_k151 B) (cC (ok_k152 B) (cC (ok_k153 B) (cC (ok_k154 B) cN))))) (lC 12900 vL12900 (ok_k129_0 B) lN) wF129 (.seq .nil (.seq (.seq .nil (.sub (.seq .nil (.seq .nil (.seq .nil (.seq (.seq (.region [(1, (.seq .nil (.seq (.seq .nil (.sub (.loop 12900))) .nil)))]) .nil) .nil)))))) .nil)) (krw h (by kernel_rfl))
  exact fun _ _ hx => h _ _ hx
theorem h_k104_0 (B : Nat) : (∀ a0 a1 a2 r, k104_0 a0 a1 a2 = some r → Q10400 B ((a0, (a1, (a2, ()))), ()) r) := by
  refine k104_0.partial_correctness _ ?_
  · intro gk104_0 mk104_0 a0 a1 a2 r h
    have Hk104_0 : P10400 B (lp10400 gk104_0) := fun _ _ hx => mk104_0 _ _ _ _ hx
    have HL := Hk104_0
    exact gl (cC (ok_k128 B) (cC (ok_k129 B) cN)) (lC 10400 vL10400 Hk104_0 lN) vL10400 .nil (lp10400 gk104_0) HL (krw h (by kernel_rfl))
theorem ok_k104_0 (B : Nat) : P10400 B (lp10400 k104_0) := fun _ _ hx => (h_k104_0 B) _ _ _ _ hx
theorem ok_k104 (B : Nat) : P104 B (con104 k104) := by
  have h : ∀ a0 r, k104 a0 = some r → Q104 B ((a0, ()), ()) r := fun a0 r h => gf cN (lC 10400 vL10400 (ok_k104_0 B) lN) wF104 (.seq .nil (.seq .nil (.seq .nil (.seq (.seq .nil (.sub (.loop 10400))) .nil)))) (krw h (by kernel_rfl))
  exact fun _ _ hx => h _ _ hx
theorem ok_k105 (B : Nat) : P105 B (con105 k105) := by
  have h : ∀ r, k105 = some r → Q105 B ((), ()) r := fun r h => gf (cC (fields_ok B _ _) cN) lN wF105 .nil (krw h (by kernel_rfl))
  exact fun _ _ hx => h _ hx
theorem ok_k70 (B : Nat) : P70 B (con70 k70) := by
  have h : ∀ a0 r, k70 a0 = some r → Q70 B ((a0, ()), ()) r := fun a0 r h => gf (cC (ok_k40 B) (cC (ok_k104 B) (cC (ok_k105 B) cN))) lN wF70 .nil (krw h (by kernel_rfl))
  exact fun _ _ hx => h _ _ hx
theorem h_k38_0 (B : Nat) : (∀ a0 a1 a2 r, k38_0 a0 a1 a2 = some r → Q3800 B ((a0, (((), ((), ())), (a1, (a2, ())))), (((), ()), ())) r) := by
  refine k38_0.partial_correctness _ ?_
  · intro gk38_0 mk38_0 a0 a1 a2 r h
    have Hk38_0 : P3800 B (lp3800 gk38_0) := fun _ _ hx => mk38_0 _ _ _ _ hx
    have HL := Hk38_0
    exact gl (cC (ok_k70 B) cN) (lC 3800 vL3800 Hk38_0 lN) vL3800 .nil (lp3800 gk38_0) HL (krw h (by kernel_rfl))
theorem ok_k38_0 (B : Nat) : P3800 B (lp3800 k38_0) := fun _ _ hx => (h_k38_0 B) _ _ _ _ hx
theorem h_k71 (B : Nat) : (∀ a0 r, k71 a0 = some r → Q71 B ((a0, ()), ()) r) ∧ (∀ a0 a1 a2 r, k71_0 a0 a1 a2 = some r → Q7100 B ((a0, (((), ((), ())), (a1, (a2, ())))), (((), ()), ())) r) := by
  refine k71.mutual_partial_correctness _ _ ?_ ?_
  · intro gk71_0 mk71_0 a0 r h
    have Hk71_0 : P7100 B (lp7100 gk71_0) := fun _ _ hx => mk71_0 _ _ _ _ hx
    exact gf (cC (ok_k70 B) cN) (lC 7100 vL7100 Hk71_0 lN) wF71 (.seq .nil (.seq (.seq (.join [] [] [(.normal, ⟨[(16, .bool)], [], []⟩)] .nil) .nil) (.seq .nil (.seq .nil (.seq (.region [(18, (.seq .nil (.seq (.region [(6, (.seq .nil (.seq (.region [(2, (.seq .nil (.seq (.seq .nil (.sub (.loop 7100))) .nil)))]) .nil)))]) .nil)))]) .nil))))) (krw h (by kernel_rfl))
  · intro gk71 gk71_0 mk71 mk71_0 a0 a1 a2 r h
    have Hk71 : P71 B (con71 gk71) := fun _ _ hx => mk71 _ _ hx
    have Hk71_0 : P7100 B (lp7100 gk71_0) := fun _ _ hx => mk71_0 _ _ _ _ hx
    have HL := Hk71_0
    exact gl (cC Hk71 cN) (lC 7100 vL7100 Hk71_0 lN) vL7100 .nil (lp7100 gk71_0) HL (krw h (by kernel_rfl))
theorem ok_k71 (B : Nat) : P71 B (con71 k71) := fun _ _ hx => (h_k71 B).1 _ _ hx
theorem h_k38_1 (B : Nat) : (∀ a0 a1 a2 r, k38_1 a0 a1 a2 = some r → Q3801 B ((a0, (((), ((), ())), (a1, (a2, ())))), (((), ()), ())) r) := by
  refine k38_1.partial_correctness _ ?_
  · intro gk38_1 mk38_1 a0 a1 a2 r h
    have Hk38_1 : P3801 B (lp3801 gk38_1) := fun _ _ hx => mk38_1 _ _ _ _ hx
    have HL := Hk38_1
    exact gl (cC (ok_k70 B) (cC (ok_k71 B) cN)) (lC 3801 vL3801 Hk38_1 lN) vL3801 .nil (lp3801 gk38_1) HL (krw h (by kernel_rfl))
theorem ok_k38_1 (B : Nat) : P3801 B (lp3801 k38_1) := fun _ _ hx => (h_k38_1 B) _ _ _ _ hx
theorem ok_k112 (B : Nat) : P112 B (con112 k112) := by
  have h : ∀ a0 r, k112 a0 = some r → Q112 B ((a0, ()), ()) r := fun a0 r h => gf cN lN wF112 .nil (krw h (by kernel_rfl))
  exact fun _ _ hx => h _ _ hx
theorem ok_k113 (B : Nat) : P113 B (con113 k113) := by
  have h : ∀ a0 r, k113 a0 = some r → Q113 B ((a0, ()), ()) r := fun a0 r h => gf cN lN wF113 .nil (krw h (by kernel_rfl))
  exact fun _ _ hx => h _ _ hx
theorem ok_k137 (B : Nat) : P137 B (con137 k137) := by
  have h : ∀ a0 r, k137 a0 = some r → Q137 B ((a0, ()), ()) r := fun a0 r h => gf (cC (ok_k113 B) cN) lN wF137 .nil (krw h (by kernel_rfl))
  exact fun _ _ hx => h _ _ hx
theorem ok_k138 (B : Nat) : P138 B (con138 k138) := by
  have h : ∀ a0 r, k138 a0 = some r → Q138 B ((a0, ()), ()) r := fun a0 r h => gf cN lN wF138 .nil (krw h (by kernel_rfl))
  exact fun _ _ hx => h _ _ hx
theorem ok_k140 (B : Nat) : P140 B (con140 k140) := by
  have h : ∀ a0 r, k140 a0 = some r → Q140 B ((a0, ()), ()) r := fun a0 r h => gf cN lN wF140 .nil (krw h (by kernel_rfl))
  exact fun _ _ hx => h _ _ hx
theorem h_k77 (B : Nat) : (∀ a0 r, k77 a0 = some r → Q77 B ((a0, ()), ()) r) ∧ (∀ a0 a1 a2 r, k77_0 a0 a1 a2 = some r → Q7700 B ((a0, (((), ((), ())), (a1, (a2, ())))), (((), ()), ())) r) := by
  refine k77.mutual_partial_correctness _ _ ?_ ?_
  · intro gk77_0 mk77_0 a0 r h
    have Hk77_0 : P7700 B (lp7700 gk77_0) := fun _ _ hx => mk77_0 _ _ _ _ hx
    exact gf (cC (ok_k70 B) (cC (ok_k137 B) (cC (ok_k138 B) (cC (ok_k140 B) cN)))) (lC 7700 vL7700 Hk77_0 lN) wF77 (.seq .nil (.seq (.seq (.join [] [] [(.normal, ⟨[(12, .bool)], [], []⟩)] .nil) .nil) (.seq .nil (.seq (.join [] [] [(.normal, ⟨[(4, .int .i64)], [], []⟩)] .nil) (.seq (.seq (.join [] [] [(.normal, ⟨[(59, .bool)], [], []⟩)] .nil) .nil) (.seq (.region [(7, (.seq .nil (.seq (.region [(6, (.seq .nil (.seq (.region [(2, (.seq .nil (.seq (.seq .nil (.sub (.loop 7700))) .nil)))]) .nil)))]) .nil)))]) .nil)))))) (krw h (by kernel_rfl))
  · intro gk77 gk77_0 mk77 mk77_0 a0 a1 a2 r h
    have Hk77 : P77 B (con77 gk77) := fun _ _ hx => mk77 _ _ hx
    have Hk77_0 : P7700 B (lp7700 gk77_0) := fun _ _ hx => mk77_0 _ _ _ _ hx
    have HL := Hk77_0
    exact gl (cC Hk77 cN) (lC 7700 vL7700 Hk77_0 lN) vL7700 .nil (lp7700 gk77_0) HL (krw h (by kernel_rfl))
theorem ok_k77 (B : Nat) : P77 B (con77 k77) := fun _ _ hx => (h_k77 B).1 _ _ hx
theorem h_k75 (B : Nat) : (∀ a0 r, k75 a0 = some r → Q75 B ((a0, ()), ()) r) ∧ (∀ a0 a1 a2 r, k75_0 a0 a1 a2 = some r → Q7500 B ((a0, (((), ((), ())), (a1, (a2, ())))), (((), ()), ())) r) := by
  refine k75.mutual_partial_correctness _ _ ?_ ?_
  · intro gk75_0 mk75_0 a0 r h
    have Hk75_0 : P7500 B (lp7500 gk75_0) := fun _ _ hx => mk75_0 _ _ _ _ hx
    exact gf (cC (ok_k70 B) (cC (ok_k77 B) (cC (ok_k112 B) (cC (ok_k113 B) cN)))) (lC 7500 vL7500 Hk75_0 lN) wF75 (.seq .nil (.seq .nil (.seq (.sub (.seq (.join [] [] [(.normal, ⟨[(15, .bool)], [], []⟩)] .nil) (.seq .nil (.seq (.join [] [] [(.normal, ⟨[(30, .bool)], [], []⟩)] .nil) (.seq .nil (.seq (.join [] [] [(.normal, ⟨[(45, .bool)], [], []⟩)] .nil) (.seq .nil (.seq (.join [] [] [(.normal, ⟨[(66, .bool)], [], []⟩)] .nil) .nil)))))))) (.seq (.region [(2, (.join [] [] [(.ret, ⟨[(4, .bool)], [], []⟩)] (.seq .nil (.seq (.region [(6, (.seq .nil (.seq (.region [(2, (.seq .nil (.seq (.seq .nil (.sub (.loop 7500))) .nil)))]) .nil)))]) .nil)))), (6, (.seq .nil (.seq (.region [(6, (.seq .nil (.seq (.region [(2, (.seq .nil (.seq (.seq .nil (.sub (.loop 7500))) .nil)))]) .nil)))]) .nil)))]) .nil)))) (krw h (by kernel_rfl))
  · intro gk75 gk75_0 mk75 mk75_0 a0 a1 a2 r h
    have Hk75 : P75 B (con75 gk75) := fun _ _ hx => mk75 _ _ hx
    have Hk75_0 : P7500 B (lp7500 gk75_0) := fun _ _ hx => mk75_0 _ _ _ _ hx
    have HL := Hk75_0
    exact gl (cC Hk75 cN) (lC 7500 vL7500 Hk75_0 lN) vL7500 .nil (lp7500 gk75_0) HL (krw h (by kernel_rfl))
theorem ok_k75 (B : Nat) : P75 B (con75 k75) := fun _ _ hx => (h_k75 B).1 _ _ hx
theorem h_k38_2 (B : Nat) : (∀ a0 a1 a2 r, k38_2 a0 a1 a2 = some r → Q3802 B ((a0, (((), ((), ())), (a1, (a2, ())))), (((), ()), ())) r) := by
  refine k38_2.partial_correctness _ ?_
  · intro gk38_2 mk38_2 a0 a1 a2 r h
    have Hk38_2 : P3802 B (lp3802 gk38_2) := fun _ _ hx => mk38_2 _ _ _ _ hx
    have HL := Hk38_2
    exact gl (cC (ok_k75 B) cN) (lC 3802 vL3802 Hk38_2 lN) vL3802 .nil (lp3802 gk38_2) HL (krw h (by kernel_rfl))
theorem ok_k38_2 (B : Nat) : P3802 B (lp3802 k38_2) := fun _ _ hx => (h_k38_2 B) _ _ _ _ hx
theorem h_k76 (B : Nat) : (∀ a0 r, k76 a0 = some r → Q76 B ((a0, ()), ()) r) ∧ (∀ a0 a1 a2 a3 r, k76_0 a0 a1 a2 a3 = some r → Q7600 B ((((), ()), (a0, (a1, (a2, (a3, ()))))), ()) r) := by
  refine k76.mutual_partial_correctness _ _ ?_ ?_
  · intro gk76_0 mk76_0 a0 r h
    have Hk76_0 : P7600 B (lp7600 gk76_0) := fun _ _ hx => mk76_0 _ _ _ _ _ hx
    exact gf cN (lC 7600 vL7600 Hk76_0 lN) wF76 (.seq .nil (.seq (.region [(1, (.seq .nil (.seq .nil (.seq (.seq .nil (.sub (.loop 7600))) .nil))))]) .nil)) (krw h (by kernel_rfl))
  · intro gk76 gk76_0 mk76 mk76_0 a0 a1 a2 a3 r h
    have Hk76 : P76 B (con76 gk76) := fun _ _ hx => mk76 _ _ hx
    have Hk76_0 : P7600 B (lp7600 gk76_0) := fun _ _ hx => mk76_0 _ _ _ _ _ hx
    have HL := Hk76_0
    exact gl (cC Hk76 cN) (lC 7600 vL7600 Hk76_0 lN) vL7600 .nil (lp7600 gk76_0) HL (krw h (by kernel_rfl))
theorem ok_k76 (B : Nat) : P76 B (con76 k76) := fun _ _ hx => (h_k76 B).1 _ _ hx
theorem ok_k38 (B : Nat) : P38 B (con38 k38) := by
  have h : ∀ a0 r, k38 a0 = some r → Q38 B ((a0, ()), ()) r := fun a0 r h => gf (cC (ok_k70 B) (cC (ok_k71 B) (cC (ok_k76 B) (cC (ok_k77 B) cN)))) (lC 3800 vL3800 (ok_k38_0 B) (lC 3801 vL3801 (ok_k38_1 B) (lC 3802 vL3802 (ok_k38_2 B) lN))) wF38 (.seq .nil (.seq .nil (.seq (.region [(6, (.join [] [] [(.ret, ⟨[(4, .bool)], [], []⟩)] (.seq .nil (.seq (.region [(6, (.seq .nil (.seq (.region [(2, (.seq .nil (.seq (.seq .nil (.sub (.loop 3800))) .nil)))]) .nil)))]) .nil)))), (12, (.join [] [] [(.ret, ⟨[(4, .bool)], [], []⟩)] (.seq .nil (.seq (.region [(6, (.seq .nil (.seq (.region [(2, (.seq .nil (.seq (.seq .nil (.sub (.loop 3801))) .nil)))]) .nil)))]) .nil)))), (22, (.join [] [] [(.ret, ⟨[(4, .bool)], [], []⟩)] (.seq .nil (.seq (.region [(6, (.seq .nil (.seq (.region [(2, (.seq .nil (.seq (.seq .nil (.sub (.loop 3800))) .nil)))]) .nil)))]) .nil)))), (34, (.join [] [] [(.ret, ⟨[(4, .bool)], [], []⟩)] (.seq .nil (.seq (.region [(6, (.seq .nil (.seq (.region [(2, (.seq .nil (.seq (.seq .nil (.sub (.loop 3802))) .nil)))]) .nil)))]) .nil))))]) .nil))) (krw h (by kernel_rfl))
  exact fun _ _ hx => h _ _ hx
theorem h_k22_0 (B : Nat) : (∀ a0 a1 a2 r, k22_0 a0 a1 a2 = some r → Q2200 B ((a0, (((), ((), ())), (a1, (a2, ())))), (((), ()), ())) r) := by
  refine k22_0.partial_correctness _ ?_
  · intro gk22_0 mk22_0 a0 a1 a2 r h
    have Hk22_0 : P2200 B (lp2200 gk22_0) := fun _ _ hx => mk22_0 _ _ _ _ hx
    have HL := Hk22_0
    exact gl (cC (ok_k38 B) cN) (lC 2200 vL2200 Hk22_0 lN) vL2200 .nil (lp2200 gk22_0) HL (krw h (by kernel_rfl))
theorem ok_k22_0 (B : Nat) : P2200 B (lp2200 k22_0) := fun _ _ hx => (h_k22_0 B) _ _ _ _ hx
theorem ok_k127 (B : Nat) : P127 B (con127 k127) := by
  have h : ∀ a0 a1 r, k127 a0 a1 = some r → Q127 B ((a0, (a1, ())), ()) r := fun a0 a1 r h => gf (cC (ok_k140 B) cN) lN wF127 .nil (krw h (by kernel_rfl))
  exact fun _ _ hx => h _ _ _ hx
theorem h_k102 (B : Nat) : (∀ a0 r, k102 a0 = some r → Q102 B ((a0, ()), ()) r) ∧ (∀ a0 a1 a2 a3 a4 r, k102_0 a0 a1 a2 a3 a4 = some r → Q10200 B ((a0, (a1, (a2, (a3, (a4, ()))))), ()) r) := by
  refine k102.mutual_partial_correctness _ _ ?_ ?_
  · intro gk102_0 mk102_0 a0 r h
    have Hk102_0 : P10200 B (lp10200 gk102_0) := fun _ _ hx => mk102_0 _ _ _ _ _ _ hx
    exact gf cN (lC 10200 vL10200 Hk102_0 lN) wF102 (.seq .nil (.seq .nil (.seq .nil (.seq (.seq .nil (.sub (.loop 10200))) .nil)))) (krw h (by kernel_rfl))
  · intro gk102 gk102_0 mk102 mk102_0 a0 a1 a2 a3 a4 r h
    have Hk102 : P102 B (con102 gk102) := fun _ _ hx => mk102 _ _ hx
    have Hk102_0 : P10200 B (lp10200 gk102_0) := fun _ _ hx => mk102_0 _ _ _ _ _ _ hx
    have HL := Hk102_0
    exact gl (cC Hk102 (cC (ok_k127 B) cN)) (lC 10200 vL10200 Hk102_0 lN) vL10200 (.seq .nil (.seq .nil (.seq (.sub (.seq .nil (.seq .nil (.seq (.join [] [] [(.normal, ⟨[(6, .int .i64)], [], []⟩)] .nil) .nil)))) .nil))) (lp10200 gk102_0) HL (krw h (by kernel_rfl))
theorem ok_k102 (B : Nat) : P102 B (con102 k102) := fun _ _ hx => (h_k102 B).1 _ _ hx
theorem h_k99 (B : Nat) : (∀ a0 r, k99 a0 = some r → Q99 B ((a0, ()), ()) r) ∧ (∀ a0 a1 a2 a3 r, k99_0 a0 a1 a2 a3 = some r → Q9900 B ((((), ()), (a0, (a1, (a2, (a3, ()))))), ()) r) := by
  refine k99.mutual_partial_correctness _ _ ?_ ?_
  · intro gk99_0 mk99_0 a0 r h
    have Hk99_0 : P9900 B (lp9900 gk99_0) := fun _ _ hx => mk99_0 _ _ _ _ _ hx
    exact gf cN (lC 9900 vL9900 Hk99_0 lN) wF99 (.seq .nil (.seq .nil (.seq (.region [(2, (.seq .nil (.seq .nil (.seq (.seq .nil (.sub (.loop 9900))) .nil))))]) .nil))) (krw h (by kernel_rfl))
  · intro gk99 gk99_0 mk99 mk99_0 a0 a1 a2 a3 r h
    have Hk99 : P99 B (con99 gk99) := fun _ _ hx => mk99 _ _ hx
    have Hk99_0 : P9900 B (lp9900 gk99_0) := fun _ _ hx => mk99_0 _ _ _ _ _ hx
    have HL := Hk99_0
    exact gl (cC Hk99 cN) (lC 9900 vL9900 Hk99_0 lN) vL9900 .nil (lp9900 gk99_0) HL (krw h (by kernel_rfl))
theorem ok_k99 (B : Nat) : P99 B (con99 k99) := fun _ _ hx => (h_k99 B).1 _ _ hx
theorem h_k66_0 (B : Nat) : (∀ a0 a1 a2 a3 r, k66_0 a0 a1 a2 a3 = some r → Q6600 B ((((), ()), (a0, (a1, (a2, (a3, ()))))), ()) r) := by
  refine k66_0.partial_correctness _ ?_
  · intro gk66_0 mk66_0 a0 a1 a2 a3 r h
    have Hk66_0 : P6600 B (lp6600 gk66_0) := fun _ _ hx => mk66_0 _ _ _ _ _ hx
    have HL := Hk66_0
    exact gl (cC (ok_k99 B) cN) (lC 6600 vL6600 Hk66_0 lN) vL6600 .nil (lp6600 gk66_0) HL (krw h (by kernel_rfl))
theorem ok_k66_0 (B : Nat) : P6600 B (lp6600 k66_0) := fun _ _ hx => (h_k66_0 B) _ _ _ _ _ hx
theorem h_k101 (B : Nat) : (∀ a0 r, k101 a0 = some r → Q101 B ((a0, ()), ()) r) ∧ (∀ a0 a1 a2 a3 r, k101_0 a0 a1 a2 a3 = some r → Q10100 B ((((), ()), (a0, (a1, (a2, (a3, ()))))), ()) r) := by
  refine k101.mutual_partial_correctness _ _ ?_ ?_
  · intro gk101_0 mk101_0 a0 r h
    have Hk101_0 : P10100 B (lp10100 gk101_0) := fun _ _ hx => mk101_0 _ _ _ _ _ hx
    exact gf (cC (ok_k102 B) cN) (lC 10100 vL10100 Hk101_0 lN) wF101 (.seq .nil (.seq .nil (.seq (.region [(3, (.seq .nil (.seq .nil (.seq (.seq .nil (.sub (.loop 10100))) .nil)))), (6, (.seq .nil (.seq .nil (.seq (.seq .nil (.sub (.loop 10100))) .nil))))]) .nil))) (krw h (by kernel_rfl))
  · intro gk101 gk101_0 mk101 mk101_0 a0 a1 a2 a3 r h
    have Hk101 : P101 B (con101 gk101) := fun _ _ hx => mk101 _ _ hx
    have Hk101_0 : P10100 B (lp10100 gk101_0) := fun _ _ hx => mk101_0 _ _ _ _ _ hx
    have HL := Hk101_0
    exact gl (cC Hk101 cN) (lC 10100 vL10100 Hk101_0 lN) vL10100 .nil (lp10100 gk101_0) HL (krw h (by kernel_rfl))
theorem ok_k101 (B : Nat) : P101 B (con101 k101) := fun _ _ hx => (h_k101 B).1 _ _ hx
theorem h_k66_1 (B : Nat) : (∀ a0 a1 a2 a3 r, k66_1 a0 a1 a2 a3 = some r → Q6601 B ((((), ()), (a0, (a1, (a2, (a3, ()))))), ()) r) := by
  refine k66_1.partial_correctness _ ?_
  · intro gk66_1 mk66_1 a0 a1 a2 a3 r h
    have Hk66_1 : P6601 B (lp6601 gk66_1) := fun _ _ hx => mk66_1 _ _ _ _ _ hx
    have HL := Hk66_1
    exact gl (cC (ok_k101 B) cN) (lC 6601 vL6601 Hk66_1 lN) vL6601 .nil (lp6601 gk66_1) HL (krw h (by kernel_rfl))
theorem ok_k66_1 (B : Nat) : P6601 B (lp6601 k66_1) := fun _ _ hx => (h_k66_1 B) _ _ _ _ _ hx
theorem ok_k66 (B : Nat) : P66 B (con66 k66) := by
  have h : ∀ a0 r, k66 a0 = some r → Q66 B ((a0, ()), ()) r := fun a0 r h => gf (cC (ok_k99 B) (cC (ok_k102 B) cN)) (lC 6600 vL6600 (ok_k66_0 B) (lC 6601 vL6601 (ok_k66_1 B) lN)) wF66 (.seq .nil (.seq (.region [(2, (.seq .nil (.seq .nil (.seq (.seq .nil (.sub (.loop 6600))) .nil))))]) (.seq (.region [(6, (.seq .nil (.seq .nil (.seq (.seq .nil (.sub (.loop 6601))) .nil))))]) .nil))) (krw h (by kernel_rfl))
  exact fun _ _ hx => h _ _ hx
theorem h_k36_0 (B : Nat) : (∀ a0 a1 a2 a3 r, k36_0 a0 a1 a2 a3 = some r → Q3600 B ((((), ()), (a0, (a1, (a2, (a3, ()))))), ()) r) := by
  refine k36_0.partial_correctness _ ?_
  · intro gk36_0 mk36_0 a0 a1 a2 a3 r h
    have Hk36_0 : P3600 B (lp3600 gk36_0) := fun _ _ hx => mk36_0 _ _ _ _ _ hx
    have HL := Hk36_0
    exact gl (cC (ok_k66 B) cN) (lC 3600 vL3600 Hk36_0 lN) vL3600 .nil (lp3600 gk36_0) HL (krw h (by kernel_rfl))
theorem ok_k36_0 (B : Nat) : P3600 B (lp3600 k36_0) := fun _ _ hx => (h_k36_0 B) _ _ _ _ _ hx
theorem ok_k36 (B : Nat) : P36 B (con36 k36) := by
  have h : ∀ a0 r, k36 a0 = some r → Q36 B ((a0, ()), ()) r := fun a0 r h => gf cN (lC 3600 vL3600 (ok_k36_0 B) lN) wF36 (.seq .nil (.seq (.region [(1, (.seq .nil (.seq .nil (.seq (.seq .nil (.sub (.loop 3600))) .nil))))]) .nil)) (krw h (by kernel_rfl))
  exact fun _ _ hx => h _ _ hx
theorem ok_k22 (B : Nat) : P22 B (con22 k22) := by
  have h : ∀ a0 r, k22 a0 = some r → Q22 B ((a0, ()), ()) r := fun a0 r h => gf (cC (ok_k36 B) cN) (lC 2200 vL2200 (ok_k22_0 B) lN) wF22 (.seq .nil (.seq (.region [(5, (.seq .nil (.seq (.region [(6, (.seq .nil (.seq (.region [(2, (.seq .nil (.seq (.seq .nil (.sub (.loop 2200))) .nil)))]) .nil)))]) .nil)))]) .nil)) (krw h (by kernel_rfl))
  exact fun _ _ hx => h _ _ hx
theorem ok_k10 (B : Nat) : P10 B (con10 k10) := by
  have h : ∀ a0 r, k10 a0 = some r → Q10 B ((a0, ()), ()) r := fun a0 r h => gf (cC (ok_k22 B) cN) (lC 1000 vL1000 (ok_k10_0 B) lN) wF10 (.seq .nil (.seq .nil (.seq .nil (.seq (.seq .nil (.sub (.loop 1000))) (.seq (.seq (.join [] [] [(.normal, ⟨[(49, .bool)], [], []⟩)] .nil) .nil) .nil))))) (krw h (by kernel_rfl))
  exact fun _ _ hx => h _ _ hx
end Go.Lb.R
end
section
set_option maxRecDepth 1000000
set_option maxHeartbeats 0
namespace Go.Lb.R
open Go.Lb
open Go.Proofs
theorem wF3 : IsF 3 := ⟨by kernel_rfl⟩
theorem wF9 : IsF 9 := ⟨by kernel_rfl⟩
def con3 (k : (List GF) → Option ((Bool × Unit) × Unit)) : Con := ⟨⟨[(0, .sl .fn)], [], []⟩, [(.ret, ⟨[(1000, .bool)], [], []⟩)], fun x => k x.1.1⟩
abbrev P3 (B : Nat) := FnOKs (X B) Ce 3
abbrev Q3 (B : Nat) := FnOK1 (X B) Ce 3 (con3 (fun _ => none))
def con9 (k : GErr → Int → Int → Option ((Bool × Unit) × Unit)) : Con := ⟨⟨[(0, .err), (1, .int .i64), (2, .int .i64)], [], []⟩, [(.ret, ⟨[(1000, .bool)], [], []⟩)], fun x => k x.1.1 x.1.2.1 x.1.2.2.1⟩
abbrev P9 (B : Nat) := FnOKs (X B) Ce 9
abbrev Q9 (B : Nat) := FnOK1 (X B) Ce 9 (con9 (fun _ _ _ => none))
theorem ok_k9 (B : Nat) : P9 B (con9 k9) := by
  have h : ∀ a0 a1 a2 r, k9 a0 a1 a2 = some r → Q9 B ((a0, (a1, (a2, ()))), ()) r := fun a0 a1 a2 r h => gf (cC (code_ok B _ _) (cC (fault_ok B _ _) cN)) lN wF9 .nil (krw h (by kernel_rfl))
  exact fun _ _ hx => h _ _ _ _ hx
theorem ok_k3 (B : Nat) : P3 B (con3 k3) := by
  have h : ∀ a0 r, k3 a0 = some r → Q3 B ((a0, ()), ()) r := fun a0 r h => gf (cC (awake_ok B _ _) (cC (ok_k7 B) (cC (ok_k8 B) (cC (ok_k9 B) (cC (ok_k10 B) cN))))) lN wF3 .nil (krw h (by kernel_rfl))
  exact fun _ _ hx => h _ _ hx
end Go.Lb.R
end
section
set_option maxRecDepth 1000000
namespace Go.Proofs.YtdnndjdlfpkjlaaGreatDoor
open Go.ChangeShapes Go.WideShapes Go.RowKit Go.Lb Go.Lb.R
abbrev laidL : List (String × DataW Unit) := [("errors.errorType", Rows.laid_errors_errorType), ("unicode.White_Space", Rows.laid_unicode_White_Space), ("strings.asciiSpace", Rows.laid_strings_asciiSpace)]
theorem own : ownKnob Tryz.prog.godebug = none := by kernel_rfl
theorem et : Tryz.prog.globalNamed "errors.errorType" = some 0 := by kernel_rfl
theorem rt : (Tryz.prog.cutTypes.find? (·.1 == "internal/reflectlite.rtype")).map (·.2) = some 129 := by kernel_rfl
theorem oneRow : ((List.range 227).filter fun t => Tryz.prog.rowNamed t [101, 114, 114, 111, 114]) = [29] := by kernel_rfl
theorem size : Tryz.prog.types.size = 227 := by kernel_rfl
theorem handle_of_laid {W : World} (h : laidMetH Tryz.prog laidL W) : W.var? Tryz.prog "errors.errorType" = some #[.iface 129 (.agg #[.pointer (some ⟨5, 29, none⟩)])] := by
  have h' : laidMet Tryz.prog [("unicode.White_Space", Rows.laid_unicode_White_Space), ("strings.asciiSpace", Rows.laid_strings_asciiSpace)] W ∧ handlesMet Tryz.prog [("errors.errorType", Rows.laid_errors_errorType)] W := h
  obtain ⟨name, u, ty, e1, e2, e3, e4, e5⟩ := h'.2 _ (List.mem_singleton.2 rfl)
  have en : name = [101, 114, 114, 111, 114] := (Option.some.inj e1).symm
  subst en
  obtain rfl := Option.some.inj (rt.symm.trans e2)
  have hm : ty ∈ (List.range 227).filter fun t => Tryz.prog.rowNamed t [101, 114, 114, 111, 114] := List.mem_filter.2 ⟨List.mem_range.2 (by rw [← size]; exact e3), e4⟩
  rw [oneRow] at hm
  obtain rfl := List.mem_singleton.1 hm
  have hh : typeHandle Tryz.prog 29 = .pointer (some ⟨5, 29, none⟩) := by kernel_rfl
  rw [hh] at e5
  exact e5
theorem space_of_laid {W : World} (h : laidMetH Tryz.prog laidL W) : Lib.TabIs Tryz.prog W "strings.asciiSpace" .u8 Lib.asciiSpaceTab := by
  have h' : laidMet Tryz.prog [("unicode.White_Space", Rows.laid_unicode_White_Space), ("strings.asciiSpace", Rows.laid_strings_asciiSpace)] W ∧ handlesMet Tryz.prog [("errors.errorType", Rows.laid_errors_errorType)] W := h
  have h2 : laidMet Tryz.prog (("strings.asciiSpace", Lib.tabData .u8 Lib.asciiSpaceTab) :: []) W := laidMet.filter (fun x => x.1 == "strings.asciiSpace") h'.1
  exact Lib.tabIs_of_head (g := 1) (t := 171) (e := 5) (n := 256) (by kernel_rfl) (by kernel_rfl) (by kernel_rfl) (by kernel_rfl) (by kernel_rfl) (by kernel_rfl) h2
noncomputable def laidWorld (os : Os) : World :=
  let w0 := World.holding Tryz.prog os ⟨#[], #[], []⟩
  let w1 := { w0 with heap := w0.heap.modify 0 fun
      | .cells _ t frozen => .cells #[.iface 129 (.agg #[.pointer (some ⟨5, 29, none⟩)])] t frozen
      | o => o }
  w1.layVars Tryz.prog [("unicode.White_Space", Rows.laid_unicode_White_Space), ("strings.asciiSpace", Rows.laid_strings_asciiSpace)]
theorem laidWorld_met (os : Os) (args : Array Value) : laidMetH Tryz.prog laidL ((laidWorld os).forCall (fun _ _ => 0) ⟨#[], args, []⟩).memory :=
  laidMetH_of_parts (laidMet_of_run' (l := [("unicode.White_Space", Rows.laid_unicode_White_Space), ("strings.asciiSpace", Rows.laid_strings_asciiSpace)]) 60 (by kernel_rfl) (by kernel_rfl)) (by kernel_rfl)
end Go.Proofs.YtdnndjdlfpkjlaaGreatDoor
end
section
set_option maxRecDepth 1000000
namespace Go.Proofs.YtdnndjdlfpkjlaaGreatDoor
open Go.ChangeShapes Go.WideShapes Go.RowKit Go.Lb Go.Lb.R
theorem grel_of_laid {W : World} (h : laidMetH Tryz.prog laidL W) : GRel W.heap.size (fzW W) W G0 := by
  intro g
  have h1 := handle_of_laid h
  have h2 : W.var? Tryz.prog "strings.asciiSpace" = some (Lib.asciiSpaceTab.map fun z => Value.int .u8 z).toArray := space_of_laid h
  have e2 : Tryz.prog.globalNamed "strings.asciiSpace" = some 1 := by kernel_rfl
  unfold World.var? at h1 h2
  rw [et] at h1
  rw [e2] at h2
  simp only [Option.bind_some] at h1 h2
  by_cases g1 : g = 1
  · subst g1
    show GRel1 W.heap.size (fzW W) W 1 (.agg (Lib.asciiSpaceTab.map (AV.int .u8)))
    split at h2
    · rename_i cs E fr hh
      injection h2 with h2
      subst h2
      refine ⟨(Array.getElem?_eq_some_iff.1 hh).1, _, _, _, hh, ?_⟩
      have : ∀ zs : List Int, RelL (fzW W) W (zs.map (AV.int .u8)) (zs.map fun z => Value.int .u8 z) := by
        intro zs
        induction zs with
        | nil => simp [RelL]
        | cons z zs ih =>
          simp only [List.map_cons, RelL]
          exact ⟨_, _, rfl, by simp only [Rel], ih⟩
      simpa using this Lib.asciiSpaceTab
    · cases h2
  · by_cases g0 : g = 0
    · subst g0
      show GRel1 W.heap.size (fzW W) W 0 (.agg [.iface 129 (.agg [.ptr 5 29])])
      split at h1
      · rename_i cs E fr hh
        injection h1 with h1
        subst h1
        refine ⟨(Array.getElem?_eq_some_iff.1 hh).1, _, _, _, hh, ?_⟩
        simp only [RelL]
        refine ⟨_, [], rfl, ?_, rfl⟩
        simp only [Rel]
        refine ⟨_, rfl, _, rfl, ?_⟩
        simp only [RelL]
        exact ⟨_, [], rfl, by simp only [Rel], rfl⟩
      · cases h1
    · have : G0 g = .junk := by unfold G0; rw [if_neg (by unfold gAscii; exact g1), if_neg g0]
      rw [this]
      show Rel _ _ _ _
      simp only [Rel]
theorem srel_start (W : World) : SRel W.heap.size (fzW W) (fun _ => none) W :=
  ⟨Nat.le_refl _, fun b o h => h, fun b k h => by cases h⟩
theorem keptBut_of_below {W W' : World} (h : Below W.heap.size W W') (may : MemPlace → Prop) : W.keptBut W' may := by
  refine ⟨h.os, h.output, fun i hi => ?_⟩
  rw [h.block i hi]
  cases hh : W.heap[i]? with
  | none => trivial
  | some o =>
    cases o <;> simp
theorem bool_call {B : Nat} {f : FuncId} {L : Con} {x : DenF L.f} {y : DenA L.al} (h : FnOK1 (X B) Ce f L x y) (hal : ∀ f' y', OutA L.al y .ret f' y' → ∀ t' h' h0 N', SR Ce.I N' (stF f' y') t' h' h0 → t' 1000 = .bool true) {W : World} (hB : B = W.heap.size) (hG : GRel B (fzW W) W G0) {cargs : Array Value} (hbl : L.f.bl = []) (hrw : L.f.rw = [])
    (hargs : RelL (fzW W) W (Val.encL Ce.I N00 ((stS L.f.sl x.1).map (·.2))) cargs.toList) (hok : ∀ i, okV N00 0 (lkV (stS L.f.sl x.1) i)) : Calls Tryz.prog f cargs W fun e W' => e = .returned (.bool true) ∧ Below W.heap.size W W' := by
  subst hB
  have hs : SR Ce.I N00 (stF L.f x) (fun i => (lkV (stS L.f.sl x.1) i).enc Ce.I N00) (fun _ => none) (fun _ => none) := by
    obtain ⟨xs, xb⟩ := x
    have hb : ∀ (bl : List (Nat × BSh)) (xb : DenBS bl), bl = [] → stB bl xb = [] := by intro bl xb e; subst e; rfl
    have hc : maxN (fnums L.f) = 0 := by simp [fnums, hbl, hrw, maxN]
    refine { heap := ⟨[], ?_, ?_, ?_⟩, okH := ?_, okF := fun e he => (by cases he), okR := ?_, slots := fun i _ => rfl, okA := ?_ }
    · show 0 = (stB L.f.bl xb).length
      rw [hb _ xb hbl]; rfl
    · intro i nm b hi
      have : (stB L.f.bl xb)[i]? = some (nm, b) := hi
      rw [hb _ xb hbl] at this
      simp at this
    · show HP _ _ [] ((L.f.rw).map (rowR N00))
      rw [hrw]
      exact HP.nil _
    · intro e he
      have : e ∈ stB L.f.bl xb := he
      rw [hb _ xb hbl] at this
      cases this
    · intro r hr
      have : r ∈ L.f.rw := hr
      rw [hrw] at this
      cases this
    · intro i
      show okV N00 (maxN (fnums L.f)) _
      rw [hc]
      exact hok i
  refine ((h N00 _ _ _ hs).2 (fzW W) W cargs (srel_start W) hG hargs).mono ?_
  rintro e W' ⟨r, h', fz', ⟨av, f', y', N', t', rfl, ho, _, _, hsr, hw⟩, hend, hsrel, hev⟩
  cases e with
  | returned c =>
    have hc := hw _ _ _ hend
    rw [hal f' y' ho t' h' _ N' hsr] at hc
    simp only [Rel] at hc
    subst hc
    exact ⟨rfl, hev.below⟩
  | _ => exact hend.elim
end Go.Proofs.YtdnndjdlfpkjlaaGreatDoor
end
section
set_option maxRecDepth 1000000
namespace Go.Proofs.YtdnndjdlfpkjlaaGreatDoor
open Go.ChangeShapes Go.WideShapes Go.RowKit Go.Lb Go.Lb.R
mutual
theorem bulk_eq {H : Type} : ∀ d : DataW H, Rows.uptoBulk d = bulk d
  | .lit (.string _) => by simp only [Rows.uptoBulk, bulk]
  | .lit (.bool _) => by simp only [Rows.uptoBulk, bulk]
  | .lit (.int _ _) => by simp only [Rows.uptoBulk, bulk]
  | .lit (.float _ _) => by simp only [Rows.uptoBulk, bulk]
  | .lit .nil => by simp only [Rows.uptoBulk, bulk]
  | .nil => by simp only [Rows.uptoBulk, bulk]
  | .ptr d => by simp only [Rows.uptoBulk, bulk, bulk_eq d]
  | .slice a b => by simp only [Rows.uptoBulk, bulk, bulkAll_eq a, bulkAll_eq b]
  | .agg a => by simp only [Rows.uptoBulk, bulk, bulkAll_eq a]
  | .iface _ d => by simp only [Rows.uptoBulk, bulk, bulk_eq d]
  | .map l => by simp only [Rows.uptoBulk, bulk, bulkEntries_eq l]
  | .held _ => by simp only [Rows.uptoBulk, bulk]
theorem bulkAll_eq {H : Type} : ∀ d : List (DataW H), Rows.uptoBulkAll d = bulkAll d
  | [] => by simp only [Rows.uptoBulkAll, bulkAll]
  | d :: r => by simp only [Rows.uptoBulkAll, bulkAll, bulk_eq d, bulkAll_eq r]
theorem bulkEntries_eq {H : Type} : ∀ d : List (Lit × DataW H), Rows.uptoBulkEntries d = bulkEntries d
  | [] => by simp only [Rows.uptoBulkEntries, bulkEntries]
  | d :: r => by simp only [Rows.uptoBulkEntries, bulkEntries, bulkEntry_eq d, bulkEntries_eq r]
theorem bulkEntry_eq {H : Type} : ∀ d : Lit × DataW H, Rows.uptoBulkEntry d = bulkEntry d
  | (.string _, d) => by simp only [Rows.uptoBulkEntry, bulkEntry, bulk_eq d]
  | (.bool _, d) => by simp only [Rows.uptoBulkEntry, bulkEntry, bulk_eq d]
  | (.int _ _, d) => by simp only [Rows.uptoBulkEntry, bulkEntry, bulk_eq d]
  | (.float _ _, d) => by simp only [Rows.uptoBulkEntry, bulkEntry, bulk_eq d]
  | (.nil, d) => by simp only [Rows.uptoBulkEntry, bulkEntry, bulk_eq d]
end
theorem cTy : Tryz.prog.cellsOf 34 = 4 := by kernel_rfl
theorem cEx : Tryz.prog.cellsOf 40 = 5 := by kernel_rfl
theorem cSt : Tryz.prog.cellsOf 65 = 14 := by kernel_rfl
theorem cPa : Tryz.prog.cellsOf 52 = 5 := by kernel_rfl
theorem cFu : Tryz.prog.cellsOf 42 = 14 := by kernel_rfl
theorem cIn : Tryz.prog.cellsOf 3 = 1 := by kernel_rfl
theorem cIq : Tryz.prog.cellsOf 2 = 1 := by kernel_rfl
theorem cBo : Tryz.prog.cellsOf 4 = 1 := by kernel_rfl
theorem cSr : Tryz.prog.cellsOf 9 = 1 := by kernel_rfl
theorem cLT : Tryz.prog.cellsOf 32 = 1 := by kernel_rfl
theorem cLE : Tryz.prog.cellsOf 38 = 1 := by kernel_rfl
theorem cLS : Tryz.prog.cellsOf 37 = 1 := by kernel_rfl
theorem cLP : Tryz.prog.cellsOf 36 = 1 := by kernel_rfl
theorem cLN : Tryz.prog.cellsOf 35 = 1 := by kernel_rfl
section
variable {H : Type} {enc : TypeId × Value → H} {W : World} {spare : Nat → Bool} {held : Bool}
theorem len4 {α : Type} {l : List α} (h : l.length = 4) : ∃ a b c d, l = [a, b, c, d] := by
  match l, h with
  | [a, b, c, d], _ => exact ⟨a, b, c, d, rfl⟩
theorem len5 {α : Type} {l : List α} (h : l.length = 5) : ∃ a b c d e, l = [a, b, c, d, e] := by
  match l, h with
  | [a, b, c, d, e], _ => exact ⟨a, b, c, d, e, rfl⟩
theorem len14 {α : Type} {l : List α} (h : l.length = 14) : ∃ a b c d e f g a' b' c' d' e' f' g', l = [a, b, c, d, e, f, g, a', b', c', d', e', f', g'] := by
  match l, h with
  | [a, b, c, d, e, f, g, a', b', c', d', e', f', g'], _ => exact ⟨a, b, c, d, e, f, g, a', b', c', d', e', f', g', rfl⟩
theorem rel_str {s : Str} (hs : s.length ≤ MX) : Rel (fzW W) W (.str s) (.string ⟨s.toArray⟩) := by
  simp only [Rel]
  exact ⟨trivial, by simpa only [MX] using hs⟩
theorem rel_int {k : IntKind} {n : Int} : Rel (fzW W) W (.int k n) (.int k n) := by simp only [Rel]
theorem rel_bool {b : Bool} : Rel (fzW W) W (.bool b) (.bool b) := by simp only [Rel]
theorem rd_nm (fuel : Nat) (cs : List Value) (d : DataW H) (ps : List MemPlace) (h : DataW.trod enc Tryz.prog W 0 spare held fuel 9 cs = some (d, ps)) : ∃ x : Str, x.length ≤ MX ∧ szN x ≤ bulk d ∧ RelL (fzW W) W (Enc.enc x) cs := by
  obtain ⟨s, hs, rfl, hb⟩ := rd_str Tryz.underlying9 h
  exact ⟨s, hs, by simp only [szN]; simp only at hb; omega, by show RelL _ _ [.str s] _; rw [RelL_cons, RelL_nil]; exact ⟨rel_str hs, trivial⟩⟩
theorem rd_ty : ∀ (fuel : Nat) (cs : List Value) (d : DataW H) (ps : List MemPlace), DataW.trod enc Tryz.prog W 0 spare held fuel 34 cs = some (d, ps) → ∃ x : GT, okT x ∧ szT x ≤ bulk d ∧ RelL (fzW W) W (Enc.enc x) cs := by
  intro fuel
  induction fuel using Nat.strongRecOn with
  | _ fuel ih =>
    intro cs d ps h
    cases fuel with
    | zero => unfold DataW.trod at h; cases h
    | succ fuel =>
      obtain ⟨hl, xs, hf, hb⟩ := rd_st Tryz.underlying34 h
      rw [cTy] at hl
      obtain ⟨v0, v1, v2, v3, rfl⟩ := len4 hl
      obtain ⟨y0, t0, h0, hf0, eq0⟩ := mapM_cons' hf
      obtain ⟨y1, t1, h1, hf1, eq1⟩ := mapM_cons' hf0
      obtain ⟨y2, t2, h2, hf2, eq2⟩ := mapM_cons' hf1
      obtain ⟨y3, t3, h3, hf3, eq3⟩ := mapM_cons' hf2
      have eqn := mapM_nil' hf3
      subst eq0; subst eq1; subst eq2; subst eq3; subst eqn
      simp only [cIn, cSr, cBo, cLT, List.drop_succ_cons, List.drop_zero, List.take_succ_cons, List.take_zero] at h0 h1 h2 h3
      obtain ⟨n, e0, _, _⟩ := rd_int Tryz.underlying3 h0
      obtain ⟨s, hs, e1, b1⟩ := rd_str Tryz.underlying9 h1
      obtain ⟨b, e2, _⟩ := rd_bool Tryz.underlying4 h2
      injection e0 with e0 _
      injection e1 with e1 _
      injection e2 with e2 _
      subst e0; subst e1; subst e2
      obtain ⟨l, hl1, hl2, hl3, hl4⟩ := rd_sl1 (α := GT) (ok := okT) (w := szT) (sz := 4) Tryz.underlying32 cTy rfl (by decide) (fun f hf cs d ps h => ih f (by omega) cs d ps h) h3
      simp only [List.map_cons, List.map_nil, bulkAll] at hb
      refine ⟨.mk n s b l, by simp only [okT]; exact ⟨hs, hl1, okTs_of hl2⟩, by simp only [szT, szTs_sum]; omega, ?_⟩
      show RelL (fzW W) W [.int .i64 n, .str s, .bool b, .sl l.length (encTs l) .shared] _
      simp only [RelL_cons, RelL_nil, and_true]
      exact ⟨rel_int, rel_str hs, rel_bool, hl4⟩
theorem rd_ex : ∀ (fuel : Nat) (cs : List Value) (d : DataW H) (ps : List MemPlace), DataW.trod enc Tryz.prog W 0 spare held fuel 40 cs = some (d, ps) → ∃ x : GE, okE x ∧ szE x ≤ bulk d ∧ RelL (fzW W) W (Enc.enc x) cs := by
  intro fuel
  induction fuel using Nat.strongRecOn with
  | _ fuel ih =>
    intro cs d ps h
    cases fuel with
    | zero => unfold DataW.trod at h; cases h
    | succ fuel =>
      obtain ⟨hl, xs, hf, hb⟩ := rd_st Tryz.underlying40 h
      rw [cEx] at hl
      obtain ⟨v0, v1, v2, v3, v4, rfl⟩ := len5 hl
      obtain ⟨y0, t0, h0, hf0, eq0⟩ := mapM_cons' hf
      obtain ⟨y1, t1, h1, hf1, eq1⟩ := mapM_cons' hf0
      obtain ⟨y2, t2, h2, hf2, eq2⟩ := mapM_cons' hf1
      obtain ⟨y3, t3, h3, hf3, eq3⟩ := mapM_cons' hf2
      obtain ⟨y4, t4, h4, hf4, eq4⟩ := mapM_cons' hf3
      have eqn := mapM_nil' hf4
      subst eq0; subst eq1; subst eq2; subst eq3; subst eq4; subst eqn
      simp only [cIn, cIq, cSr, cBo, cLE, List.drop_succ_cons, List.drop_zero, List.take_succ_cons, List.take_zero] at h0 h1 h2 h3 h4
      obtain ⟨n, e0, _, _⟩ := rd_int Tryz.underlying3 h0
      obtain ⟨q, e1, _, _⟩ := rd_int Tryz.underlying2 h1
      obtain ⟨s, hs, e2, b2⟩ := rd_str Tryz.underlying9 h2
      obtain ⟨b, e3, _⟩ := rd_bool Tryz.underlying4 h3
      injection e0 with e0 _
      injection e1 with e1 _
      injection e2 with e2 _
      injection e3 with e3 _
      subst e0; subst e1; subst e2; subst e3
      obtain ⟨l, hl1, hl2, hl3, hl4⟩ := rd_sl1 (α := GE) (ok := okE) (w := szE) (sz := 5) Tryz.underlying38 cEx rfl (by decide) (fun f hf cs d ps h => ih f (by omega) cs d ps h) h4
      simp only [List.map_cons, List.map_nil, bulkAll] at hb
      refine ⟨.mk n q s b l, by simp only [okE]; exact ⟨hs, hl1, okEs_of hl2⟩, by simp only [szE, szEs_sum]; omega, ?_⟩
      show RelL (fzW W) W [.int .i64 n, .int .i64 q, .str s, .bool b, .sl l.length (encEs l) .shared] _
      simp only [RelL_cons, RelL_nil, and_true]
      exact ⟨rel_int, rel_int, rel_str hs, rel_bool, hl4⟩
theorem relTy {x : GT} {a b c d : Value} (h : RelL (fzW W) W (Enc.enc x) [a, b, c, d]) : Rel (fzW W) W (.int .i64 x.kind) a ∧ Rel (fzW W) W (.str x.life) b ∧ Rel (fzW W) W (.bool x.mu) c ∧ Rel (fzW W) W (.sl x.kids.length (encTs x.kids) .shared) d := by
  have h' : RelL (fzW W) W [.int .i64 x.kind, .str x.life, .bool x.mu, .sl x.kids.length (encTs x.kids) .shared] [a, b, c, d] := h
  simpa only [RelL_cons, RelL_nil, and_true] using h'
theorem relEx {x : GE} {a b c d e : Value} (h : RelL (fzW W) W (Enc.enc x) [a, b, c, d, e]) : Rel (fzW W) W (.int .i64 x.kind) a ∧ Rel (fzW W) W (.int .i64 x.num) b ∧ Rel (fzW W) W (.str x.name) c ∧ Rel (fzW W) W (.bool x.mu) d ∧ Rel (fzW W) W (.sl x.kids.length (encEs x.kids) .shared) e := by
  have h' : RelL (fzW W) W [.int .i64 x.kind, .int .i64 x.num, .str x.name, .bool x.mu, .sl x.kids.length (encEs x.kids) .shared] [a, b, c, d, e] := h
  simpa only [RelL_cons, RelL_nil, and_true] using h'
theorem rd_stm : ∀ (fuel : Nat) (cs : List Value) (d : DataW H) (ps : List MemPlace), DataW.trod enc Tryz.prog W 0 spare held fuel 65 cs = some (d, ps) → ∃ x : GS, okS x ∧ szS x ≤ bulk d ∧ RelL (fzW W) W (Enc.enc x) cs := by
  intro fuel
  induction fuel using Nat.strongRecOn with
  | _ fuel ih =>
    intro cs d ps h
    cases fuel with
    | zero => unfold DataW.trod at h; cases h
    | succ fuel =>
      obtain ⟨hl, xs, hf, hb⟩ := rd_st Tryz.underlying65 h
      rw [cSt] at hl
      obtain ⟨v0, v1, v2, v3, v4, v5, v6, v7, v8, v9, v10, v11, v12, v13, rfl⟩ := len14 hl
      obtain ⟨y0, t0, h0, hf0, eq0⟩ := mapM_cons' hf
      obtain ⟨y1, t1, h1, hf1, eq1⟩ := mapM_cons' hf0
      obtain ⟨y2, t2, h2, hf2, eq2⟩ := mapM_cons' hf1
      obtain ⟨y3, t3, h3, hf3, eq3⟩ := mapM_cons' hf2
      obtain ⟨y4, t4, h4, hf4, eq4⟩ := mapM_cons' hf3
      obtain ⟨y5, t5, h5, hf5, eq5⟩ := mapM_cons' hf4
      have eqn := mapM_nil' hf5
      subst eq0; subst eq1; subst eq2; subst eq3; subst eq4; subst eq5; subst eqn
      simp only [cIn, cSr, cEx, cLS, List.drop_succ_cons, List.drop_zero, List.take_succ_cons, List.take_zero] at h0 h1 h2 h3 h4 h5
      obtain ⟨n, e0, _, _⟩ := rd_int Tryz.underlying3 h0
      obtain ⟨s, hs, e1, b1⟩ := rd_str Tryz.underlying9 h1
      injection e0 with e0 _
      injection e1 with e1 _
      subst e0; subst e1
      obtain ⟨p, op, wp, rp⟩ := rd_ex fuel _ y2.1 y2.2 h2
      obtain ⟨e, oe, we, re⟩ := rd_ex fuel _ y3.1 y3.2 h3
      obtain ⟨l, hl1, hl2, hl3, hl4⟩ := rd_sl1 (α := GS) (ok := okS) (w := szS) (sz := 14) Tryz.underlying37 cSt rfl (by decide) (fun f hf cs d ps h => ih f (by omega) cs d ps h) h4
      obtain ⟨m, hm1, hm2, hm3, hm4⟩ := rd_sl1 (α := GS) (ok := okS) (w := szS) (sz := 14) Tryz.underlying37 cSt rfl (by decide) (fun f hf cs d ps h => ih f (by omega) cs d ps h) h5
      simp only [List.map_cons, List.map_nil, bulkAll] at hb
      obtain ⟨p1, p2, p3, p4, p5⟩ := relEx rp
      obtain ⟨q1, q2, q3, q4, q5⟩ := relEx re
      refine ⟨.mk n s p e l m, by simp only [okS]; exact ⟨hs, op, oe, ⟨hl1, okSs_of hl2⟩, hm1, okSs_of hm2⟩, by simp only [szS, szSs_sum]; omega, ?_⟩
      show RelL (fzW W) W [.int .i64 n, .str s, .int .i64 p.kind, .int .i64 p.num, .str p.name, .bool p.mu, .sl p.kids.length (encEs p.kids) .shared, .int .i64 e.kind, .int .i64 e.num, .str e.name, .bool e.mu, .sl e.kids.length (encEs e.kids) .shared, .sl l.length (encSts l) .shared, .sl m.length (encSts m) .shared] _
      simp only [RelL_cons, RelL_nil, and_true]
      exact ⟨rel_int, rel_str hs, p1, p2, p3, p4, p5, q1, q2, q3, q4, q5, hl4, hm4⟩
theorem rd_pa (fuel : Nat) (cs : List Value) (d : DataW H) (ps : List MemPlace) (h : DataW.trod enc Tryz.prog W 0 spare held fuel 52 cs = some (d, ps)) : ∃ x : GP, (x.name.length ≤ MX ∧ okT x.ty) ∧ szP x ≤ bulk d ∧ RelL (fzW W) W (Enc.enc x) cs := by
  cases fuel with
  | zero => unfold DataW.trod at h; cases h
  | succ fuel =>
    obtain ⟨hl, xs, hf, hb⟩ := rd_st Tryz.underlying52 h
    rw [cPa] at hl
    obtain ⟨v0, v1, v2, v3, v4, rfl⟩ := len5 hl
    obtain ⟨y0, t0, h0, hf0, eq0⟩ := mapM_cons' hf
    obtain ⟨y1, t1, h1, hf1, eq1⟩ := mapM_cons' hf0
    have eqn := mapM_nil' hf1
    subst eq0; subst eq1; subst eqn
    simp only [cSr, cTy, List.drop_succ_cons, List.drop_zero, List.take_succ_cons, List.take_zero] at h0 h1
    obtain ⟨s, hs, e0, b0⟩ := rd_str Tryz.underlying9 h0
    injection e0 with e0 _
    subst e0
    obtain ⟨t, ot, wt, rt⟩ := rd_ty fuel _ y1.1 y1.2 h1
    simp only [List.map_cons, List.map_nil, bulkAll] at hb
    obtain ⟨p1, p2, p3, p4⟩ := relTy rt
    refine ⟨⟨s, t⟩, ⟨hs, ot⟩, by simp only [szP]; omega, ?_⟩
    show RelL (fzW W) W [.str s, .int .i64 t.kind, .str t.life, .bool t.mu, .sl t.kids.length (encTs t.kids) .shared] _
    simp only [RelL_cons, RelL_nil, and_true]
    exact ⟨rel_str hs, p1, p2, p3, p4⟩
theorem rd_fn (fuel : Nat) (cs : List Value) (d : DataW H) (ps : List MemPlace) (h : DataW.trod enc Tryz.prog W 0 spare held fuel 42 cs = some (d, ps)) : ∃ x : GF, okF x ∧ szF x ≤ bulk d ∧ RelL (fzW W) W (Enc.enc x) cs := by
  cases fuel with
  | zero => unfold DataW.trod at h; cases h
  | succ fuel =>
    obtain ⟨hl, xs, hf, hb⟩ := rd_st Tryz.underlying42 h
    rw [cFu] at hl
    obtain ⟨v0, v1, v2, v3, v4, v5, v6, v7, v8, v9, v10, v11, v12, v13, rfl⟩ := len14 hl
    obtain ⟨y0, t0, h0, hf0, eq0⟩ := mapM_cons' hf
    obtain ⟨y1, t1, h1, hf1, eq1⟩ := mapM_cons' hf0
    obtain ⟨y2, t2, h2, hf2, eq2⟩ := mapM_cons' hf1
    obtain ⟨y3, t3, h3, hf3, eq3⟩ := mapM_cons' hf2
    obtain ⟨y4, t4, h4, hf4, eq4⟩ := mapM_cons' hf3
    obtain ⟨y5, t5, h5, hf5, eq5⟩ := mapM_cons' hf4
    obtain ⟨y6, t6, h6, hf6, eq6⟩ := mapM_cons' hf5
    have eqn := mapM_nil' hf6
    subst eq0; subst eq1; subst eq2; subst eq3; subst eq4; subst eq5; subst eq6; subst eqn
    simp only [cSr, cLN, cLP, cTy, cLS, cEx, List.drop_succ_cons, List.drop_zero, List.take_succ_cons, List.take_zero] at h0 h1 h2 h3 h4 h5 h6
    obtain ⟨s, hs, e0, b0⟩ := rd_str Tryz.underlying9 h0
    injection e0 with e0 _
    subst e0
    obtain ⟨lv, l1, l2, l3, l4⟩ := rd_sl1 (α := Str) (ok := fun x => x.length ≤ MX) (w := szN) (sz := 1) Tryz.underlying35 cSr rfl (by decide) (fun f _ => rd_nm f) h1
    obtain ⟨pa, p1, p2, p3, p4⟩ := rd_sl1 (α := GP) (ok := fun x => x.name.length ≤ MX ∧ okT x.ty) (w := szP) (sz := 5) Tryz.underlying36 cPa rfl (by decide) (fun f _ => rd_pa f) h2
    obtain ⟨g, og, wg, rg⟩ := rd_ty fuel _ y3.1 y3.2 h3
    obtain ⟨ou, o1, o2, o3, o4⟩ := rd_sl1 (α := Str) (ok := fun x => x.length ≤ MX) (w := szN) (sz := 1) Tryz.underlying35 cSr rfl (by decide) (fun f _ => rd_nm f) h4
    obtain ⟨bo, b1, b2, b3, b4⟩ := rd_sl1 (α := GS) (ok := okS) (w := szS) (sz := 14) Tryz.underlying37 cSt rfl (by decide) (fun f _ => rd_stm f) h5
    obtain ⟨v, ov, wv, rv⟩ := rd_ex fuel _ y6.1 y6.2 h6
    simp only [List.map_cons, List.map_nil, bulkAll] at hb
    obtain ⟨g1, g2, g3, g4⟩ := relTy rg
    obtain ⟨q1, q2, q3, q4, q5⟩ := relEx rv
    refine ⟨⟨s, lv, pa, g, ou, bo, v⟩, ⟨hs, ⟨l1, l2⟩, ⟨p1, p2⟩, og, ⟨o1, o2⟩, ⟨b1, okSs_of b2⟩, ov⟩, by simp only [szF, szSs_sum]; omega, ?_⟩
    show RelL (fzW W) W [.str s, .sl lv.length (encN lv) .shared, .sl pa.length (encPs pa) .shared, .int .i64 g.kind, .str g.life, .bool g.mu, .sl g.kids.length (encTs g.kids) .shared, .sl ou.length (encN ou) .shared, .sl bo.length (encSts bo) .shared, .int .i64 v.kind, .int .i64 v.num, .str v.name, .bool v.mu, .sl v.kids.length (encEs v.kids) .shared] _
    simp only [RelL_cons, RelL_nil, and_true]
    exact ⟨rel_str hs, l4, p4, g1, g2, g3, g4, o4, b4, q1, q2, q3, q4, q5⟩
theorem rd_pr (fuel : Nat) (v : Value) (d : DataW H) (ps : List MemPlace) (h : DataW.trod enc Tryz.prog W 0 spare held fuel 22 [v] = some (d, ps)) : ∃ p : List GF, okPr p ∧ sumL szF p + 1 ≤ bulk d ∧ Rel (fzW W) W (.sl p.length (encFs p) .shared) v := by
  obtain ⟨l, h1, h2, h3, h4⟩ := rd_sl1 (α := GF) (ok := okF) (w := szF) (sz := 14) Tryz.underlying22 cFu rfl (by decide) (fun f _ => rd_fn f) (y := (d, ps)) h
  exact ⟨l, ⟨h1, h2⟩, h3, h4⟩
end
end Go.Proofs.YtdnndjdlfpkjlaaGreatDoor
end
section
namespace Go.Lb.R
open Go.Lb
theorem w64_nat {n : Nat} (h : n < 9223372036854775808) : w64 (n : Int) = n := by
  show IntKind.wrap .i64 (n : Int) = n
  unfold IntKind.wrap
  simp only [IntKind.bits, IntKind.signed]
  have h1 : (n : Int) % (2 ^ 64 : Int) = n := Int.emod_eq_of_lt (by omega) (by omega)
  simp only [h1]
  have h2 : ¬ ((n : Int) ≥ 2 ^ (64 - 1)) := by
    have : (2 : Int) ^ (64 - 1) = 9223372036854775808 := by decide
    omega
  simp only [h2, decide_false, Bool.and_false, Bool.false_eq_true, if_false]
theorem idx_nat {α : Type} {l : List α} {i : Nat} (h : i < l.length) : idx l (i : Int) = some l[i] := by
  unfold idx
  simp [h]
mutual
def refsTB : GT → Bool
  | .mk k _ _ ks => decide (k = 4) || refsTs ks
def refsTs : List GT → Bool
  | [] => false
  | t :: r => refsTB t || refsTs r
end
theorem refsTB_eq (t : GT) : refsTB t = (decide (t.kind = 4) || refsTs t.kids) := by cases t; simp only [refsTB]; rfl
mutual
def wholeT : GT → Bool
  | .mk k _ _ ks => wholeTs (decide (k = 2) || decide (k = 4)) ks
def wholeTs (b : Bool) : List GT → Bool
  | [] => true
  | t :: r => wholeT t && !(b && refsTB t) && wholeTs b r
end
theorem wholeT_eq (t : GT) : wholeT t = wholeTs (decide (t.kind = 2) || decide (t.kind = 4)) t.kids := by cases t; simp only [wholeT]; rfl
theorem drop_at {α : Type} {l : List α} {i : Nat} (h : i < l.length) : l.drop i = l[i] :: l.drop (i + 1) := List.drop_eq_getElem_cons h
theorem k26_loop (l : List GT) (hl : l.length ≤ MX) (IH : ∀ x ∈ l, k26 x = some ((refsTB x, ()), ())) : ∀ (d i : Nat), i + d = l.length →
    (refsTs (l.drop i) = true → ∃ j : Int, 0 ≤ j ∧ k26_0 l (l.length : Int) (i : Int) = some (Sum.inr ((j, ()), ()))) ∧ (refsTs (l.drop i) = false → k26_0 l (l.length : Int) (i : Int) = some (Sum.inl ((), ())))
  | 0, i, h => by
    have h1 : l.drop i = [] := List.drop_of_length_le (by omega)
    rw [h1]
    refine ⟨fun e => by simp [refsTs] at e, fun _ => ?_⟩
    rw [k26_0]
    have : ltI (i : Int) (l.length : Int) = false := by simp only [ltI, decide_eq_false_iff_not]; omega
    rw [this]
  | d + 1, i, h => by
    have hi : i < l.length := by omega
    obtain ⟨a1, a2⟩ := k26_loop l hl IH d (i + 1) (by omega)
    rw [drop_at hi]
    simp only [refsTs]
    rw [k26_0]
    have e1 : ltI (i : Int) (l.length : Int) = true := by simp only [ltI, decide_eq_true_eq]; omega
    rw [e1, idx_nat hi]
    simp only [Option.bind_eq_bind, Option.bind_some, IH _ (List.getElem_mem hi)]
    have e2 : w64 ((i : Int) + 1) = ((i + 1 : Nat) : Int) := by
      have := w64_nat (n := i + 1) (by simp only [MX] at hl; omega)
      simpa using this
    cases hr : refsTB l[i] with
    | true => exact ⟨fun _ => ⟨i, by omega, rfl⟩, fun e => by simp at e⟩
    | false =>
      simp only [Bool.false_or]
      rw [e2]
      exact ⟨a1, a2⟩
theorem k26_eq : ∀ (n : Nat) (t : GT), SizeOf.sizeOf t < n → okT t → k26 t = some ((refsTB t, ()), ())
  | 0, t, h, _ => by omega
  | n + 1, t, h, ho => by
    obtain ⟨h1, h2⟩ := okT_kids ho
    have IH : ∀ x ∈ t.kids, k26 x = some ((refsTB x, ()), ()) := fun x hx => k26_eq n x (by have := GT.kids_lt hx; omega) (h2 x hx)
    obtain ⟨a1, a2⟩ := k26_loop t.kids h1 IH t.kids.length 0 (by omega)
    rw [k26, refsTB_eq]
    cases hk : decide (t.kind = 4) with
    | true => simp only [eqI, hk, Bool.true_or]
    | false =>
      simp only [eqI, hk, Bool.false_or]
      simp only [List.drop_zero] at a1 a2
      cases hr : refsTs t.kids with
      | true =>
        obtain ⟨j, hj, e⟩ := a1 hr
        rw [show ((0 : Nat) : Int) = 0 from rfl] at e
        rw [e]
        simp only [Option.bind_eq_bind, Option.bind_some, leI]
        simp [hj]
      | false =>
        have e := a2 hr
        rw [show ((0 : Nat) : Int) = 0 from rfl] at e
        rw [e]
        rfl
theorem w64_succ {i n : Nat} (hl : n ≤ MX) (hi : i < n) : w64 ((i : Int) + 1) = ((i + 1 : Nat) : Int) := by
  have := w64_nat (n := i + 1) (by simp only [MX] at hl; omega)
  simpa using this
theorem ltI_true {i n : Nat} (h : i < n) : ltI (i : Int) (n : Int) = true := by simp only [ltI, decide_eq_true_eq]; omega
theorem ltI_false {i n : Nat} (h : ¬ i < n) : ltI (i : Int) (n : Int) = false := by simp only [ltI, decide_eq_false_iff_not]; omega
theorem k11_loop (b : Bool) (l : List GT) (hl : l.length ≤ MX) (ho : ∀ x ∈ l, okT x) (IH : ∀ x ∈ l, k11 x = some ((wholeT x, ()), ())) : ∀ (d i : Nat), i + d = l.length →
    (wholeTs b (l.drop i) = false → ∃ j : Int, 0 ≤ j ∧ k11_0 l (l.length : Int) (i : Int) b = some (Sum.inr ((j, ()), b, ()))) ∧ (wholeTs b (l.drop i) = true → k11_0 l (l.length : Int) (i : Int) b = some (Sum.inl ((), b, ())))
  | 0, i, h => by
    have h1 : l.drop i = [] := List.drop_of_length_le (by omega)
    rw [h1]
    refine ⟨fun e => by simp [wholeTs] at e, fun _ => ?_⟩
    rw [k11_0, ltI_false (by omega)]
  | d + 1, i, h => by
    have hi : i < l.length := by omega
    obtain ⟨a1, a2⟩ := k11_loop b l hl ho IH d (i + 1) (by omega)
    rw [drop_at hi]
    simp only [wholeTs]
    rw [k11_0, ltI_true hi, idx_nat hi]
    simp only [Option.bind_eq_bind, Option.bind_some, IH _ (List.getElem_mem hi), k26_eq _ l[i] (Nat.lt_succ_self _) (ho _ (List.getElem_mem hi)), w64_succ hl hi]
    cases hw : wholeT l[i] with
    | false => exact ⟨fun _ => ⟨i, by omega, rfl⟩, fun e => by simp at e⟩
    | true =>
      cases b with
      | false => simpa using ⟨a1, a2⟩
      | true =>
        cases hr : refsTB l[i] with
        | true => exact ⟨fun _ => ⟨i, by omega, rfl⟩, fun e => by simp at e⟩
        | false => simpa using ⟨a1, a2⟩
theorem k11_eq : ∀ (n : Nat) (t : GT), SizeOf.sizeOf t < n → okT t → k11 t = some ((wholeT t, ()), ())
  | 0, t, h, _ => by omega
  | n + 1, t, h, ho => by
    obtain ⟨h1, h2⟩ := okT_kids ho
    have IH : ∀ x ∈ t.kids, k11 x = some ((wholeT x, ()), ()) := fun x hx => k11_eq n x (by have := GT.kids_lt hx; omega) (h2 x hx)
    have fin : ∀ b : Bool, ((k11_0 (GT.kids t) (↑(List.length (GT.kids t)) : Int) 0 b) >>= fun y0 => (match y0 with | .inl y1 => (some (((not (leI 0 (-1)), ()), ()))) | .inr y2 => (some (((not (leI 0 (y2.1.1)), ()), ()))))) = some ((wholeTs b t.kids, ()), ()) := by
      intro b
      obtain ⟨a1, a2⟩ := k11_loop b t.kids h1 h2 IH t.kids.length 0 (by omega)
      simp only [List.drop_zero] at a1 a2
      cases hr : wholeTs b t.kids with
      | false =>
        obtain ⟨j, hj, e⟩ := a1 hr
        rw [show ((0 : Nat) : Int) = 0 from rfl] at e
        rw [e]
        simp only [Option.bind_eq_bind, Option.bind_some, leI]
        simp [hj]
      | true =>
        have e := a2 hr
        rw [show ((0 : Nat) : Int) = 0 from rfl] at e
        rw [e]
        rfl
    rw [k11, wholeT_eq]
    cases hk : decide (t.kind = 2) with
    | true => simp only [eqI, hk, Bool.true_or]; exact fin true
    | false => simp only [eqI, hk, Bool.false_or]; exact fin _
theorem k27_loop (t : GT) (hl : t.kids.length ≤ MX) (IH : ∀ x ∈ t.kids, k27 x = some ((refsTB x, ()), ())) : ∀ (d i : Nat) (b : Bool), i + d = t.kids.length → k27_0 t b (i : Int) = some ((b || refsTs (t.kids.drop i), ()), ())
  | 0, i, b, h => by
    have h1 : t.kids.drop i = [] := List.drop_of_length_le (by omega)
    rw [h1, k27_0.eq_def, ltI_false (by omega)]
    simp [refsTs]
  | d + 1, i, b, h => by
    have hi : i < t.kids.length := by omega
    rw [drop_at hi]
    simp only [refsTs]
    rw [k27_0.eq_def, ltI_true hi]
    simp only [w64_succ hl hi]
    cases b with
    | true => simp only; rw [k27_loop t hl IH d (i + 1) true (by omega)]; simp
    | false =>
      simp only [idx_nat hi, Option.bind_eq_bind, Option.bind_some, IH _ (List.getElem_mem hi)]
      rw [k27_loop t hl IH d (i + 1) _ (by omega)]
      simp
theorem k27_eq : ∀ (n : Nat) (t : GT), SizeOf.sizeOf t < n → okT t → k27 t = some ((refsTB t, ()), ())
  | 0, t, h, _ => by omega
  | n + 1, t, h, ho => by
    obtain ⟨h1, h2⟩ := okT_kids ho
    have IH : ∀ x ∈ t.kids, k27 x = some ((refsTB x, ()), ()) := fun x hx => k27_eq n x (by have := GT.kids_lt hx; omega) (h2 x hx)
    have e := k27_loop t h1 IH t.kids.length 0 (eqI t.kind 4) (by omega)
    rw [show ((0 : Nat) : Int) = 0 from rfl, List.drop_zero] at e
    rw [k27, e, refsTB_eq]
    rfl
theorem k12_loop (t : GT) (hl : t.kids.length ≤ MX) (ho : ∀ x ∈ t.kids, okT x) (IH : ∀ x ∈ t.kids, k12 x = some ((wholeT x, ()), ())) : ∀ (d i : Nat), i + d = t.kids.length →
    k12_0 t (i : Int) = some (bif wholeTs (decide (t.kind = 2) || decide (t.kind = 4)) (t.kids.drop i) then Sum.inl ((), ()) else Sum.inr ((false, ()), ()))
  | 0, i, h => by
    have h1 : t.kids.drop i = [] := List.drop_of_length_le (by omega)
    rw [h1, k12_0, ltI_false (by omega)]
    simp [wholeTs]
  | d + 1, i, h => by
    have hi : i < t.kids.length := by omega
    have ih := k12_loop t hl ho IH d (i + 1) (by omega)
    rw [drop_at hi]
    simp only [wholeTs]
    rw [k12_0, ltI_true hi]
    simp only [idx_nat hi, Option.bind_eq_bind, Option.bind_some, IH _ (List.getElem_mem hi), k27_eq _ t.kids[i] (Nat.lt_succ_self _) (ho _ (List.getElem_mem hi)), w64_succ hl hi, ih]
    cases hw : wholeT t.kids[i] with
    | false => rfl
    | true =>
      simp only [eqI, Bool.not_true]
      cases h2 : decide (t.kind = 2) <;> cases h4 : decide (t.kind = 4) <;> cases hr : refsTB t.kids[i] <;> simp
theorem k12_eq : ∀ (n : Nat) (t : GT), SizeOf.sizeOf t < n → okT t → k12 t = some ((wholeT t, ()), ())
  | 0, t, h, _ => by omega
  | n + 1, t, h, ho => by
    obtain ⟨h1, h2⟩ := okT_kids ho
    have IH : ∀ x ∈ t.kids, k12 x = some ((wholeT x, ()), ()) := fun x hx => k12_eq n x (by have := GT.kids_lt hx; omega) (h2 x hx)
    have e := k12_loop t h1 h2 IH t.kids.length 0 (by omega)
    rw [show ((0 : Nat) : Int) = 0 from rfl, List.drop_zero] at e
    rw [k12, e, wholeT_eq]
    cases wholeTs (decide (t.kind = 2) || decide (t.kind = 4)) t.kids <;> rfl
theorem k15_loop (t : GT) (hl : t.kids.length ≤ MX) (IH : ∀ x ∈ t.kids, ∃ n, k15 x = some ((n, ()), ())) : ∀ (d i : Nat) (a : Int), i + d = t.kids.length → ∃ n, k15_0 t a (i : Int) = some ((n, ()), ())
  | 0, i, a, h => by
    rw [k15_0, ltI_false (by omega)]
    exact ⟨_, rfl⟩
  | d + 1, i, a, h => by
    have hi : i < t.kids.length := by omega
    obtain ⟨n, hn⟩ := IH _ (List.getElem_mem hi)
    rw [k15_0, ltI_true hi]
    simp only [idx_nat hi, Option.bind_eq_bind, Option.bind_some, hn, w64_succ hl hi]
    cases leI a 400 with
    | true => exact k15_loop t hl IH d (i + 1) _ (by omega)
    | false => exact ⟨_, rfl⟩
theorem k15_some : ∀ (n : Nat) (t : GT), SizeOf.sizeOf t < n → okT t → ∃ m, k15 t = some ((m, ()), ())
  | 0, t, h, _ => by omega
  | n + 1, t, h, ho => by
    obtain ⟨h1, h2⟩ := okT_kids ho
    have IH : ∀ x ∈ t.kids, ∃ m, k15 x = some ((m, ()), ()) := fun x hx => k15_some n x (by have := GT.kids_lt hx; omega) (h2 x hx)
    rw [k15]
    obtain ⟨m, hm⟩ := k15_loop t h1 IH t.kids.length 0 (w64 (1 + w64 (Int.tdiv (↑(List.length (GT.life t)) : Int) 100))) (by omega)
    rw [show ((0 : Nat) : Int) = 0 from rfl] at hm
    rw [hm]
    exact ⟨_, rfl⟩
end Go.Lb.R
end
section
namespace Go.Lb.R
open Go.Lb
theorem loop_some {α σ R : Type} {l : List α} {L : σ → Nat → Option R} {Inv : Nat → σ → Prop} {Q : R → Prop}
    (hs : ∀ s i (h : i < l.length), Inv i s → (∃ r, L s i = some r ∧ Q r) ∨ (∃ s', Inv (i + 1) s' ∧ L s i = L s' (i + 1)))
    (he : ∀ s, Inv l.length s → ∃ r, L s l.length = some r ∧ Q r) : ∀ (d i : Nat) (s : σ), i + d = l.length → Inv i s → ∃ r, L s i = some r ∧ Q r
  | 0, i, s, h, hi => by
    obtain rfl : i = l.length := by omega
    exact he s hi
  | d + 1, i, s, h, hi => by
    rcases hs s i (by omega) hi with hr | ⟨s', h1, h2⟩
    · exact hr
    · rw [h2]
      exact loop_some hs he d (i + 1) s' (by omega) h1
theorem loop_all {α R : Type} {l : List α} {p : α → Bool} {L : Nat → Option R} {good : R} {bad : Nat → R}
    (hs : ∀ i (h : i < l.length), L i = bif p l[i] then L (i + 1) else some (bad i)) (he : L l.length = some good) :
    ∀ (d i : Nat), i + d = l.length → (L i = some good ∧ (l.drop i).all p = true) ∨ ((∃ j, L i = some (bad j)) ∧ (l.drop i).all p = false)
  | 0, i, h => by
    obtain rfl : i = l.length := by omega
    exact .inl ⟨he, by simp⟩
  | d + 1, i, h => by
    have hi : i < l.length := by omega
    rw [hs i hi, drop_at hi, List.all_cons]
    cases hp : p l[i] with
    | false => exact .inr ⟨⟨i, rfl⟩, rfl⟩
    | true => simpa using loop_all hs he d (i + 1) (by omega)
theorem loop_all0 {α R : Type} {l : List α} {p : α → Bool} {L : Nat → Option R} {good : R} {bad : Nat → R}
    (hs : ∀ i (h : i < l.length), L i = bif p l[i] then L (i + 1) else some (bad i)) (he : L l.length = some good) :
    (L 0 = some good ∧ l.all p = true) ∨ ((∃ j, L 0 = some (bad j)) ∧ l.all p = false) := by
  simpa using loop_all hs he l.length 0 (by omega)
theorem loop_fold {α σ R : Type} {l : List α} {L : σ → Nat → Option R} {st : σ → α → σ} {fin : σ → R} {Inv : Nat → σ → Prop}
    (hs : ∀ s i (h : i < l.length), Inv i s → Inv (i + 1) (st s l[i]) ∧ L s i = L (st s l[i]) (i + 1))
    (he : ∀ s, Inv l.length s → L s l.length = some (fin s)) : ∀ (d i : Nat) (s : σ), i + d = l.length → Inv i s → L s i = some (fin ((l.drop i).foldl st s))
  | 0, i, s, h, hi => by
    obtain rfl : i = l.length := by omega
    rw [he s hi]
    simp
  | d + 1, i, s, h, hi => by
    have hl : i < l.length := by omega
    obtain ⟨h1, h2⟩ := hs s i hl hi
    rw [h2, drop_at hl, List.foldl_cons]
    exact loop_fold hs he d (i + 1) _ (by omega) h1
theorem eqS_refl (s : Str) : eqS s s = true := by simp [eqS]
def letterB (c : Int) : Bool := decide (97 ≤ c) && decide (c ≤ 122) || (decide (65 ≤ c) && decide (c ≤ 90) || decide (c = 95))
def digitB (c : Int) : Bool := decide (48 ≤ c) && decide (c ≤ 57)
theorem k117_eq (c : Int) : k117 c = some ((letterB c, ()), ()) := by
  rw [k117]
  simp only [letterB, leI, eqI]
  cases decide (97 ≤ c) <;> cases decide (c ≤ 122) <;> cases decide (65 ≤ c) <;> cases decide (c ≤ 90) <;> rfl
theorem k119_eq (c : Int) : k119 c = some ((digitB c, ()), ()) := by
  rw [k119]
  simp only [digitB, leI]
  cases decide (48 ≤ c) <;> rfl
theorem k153_eq (c : Int) : k153 c = some ((digitB c, ()), ()) := by
  rw [k153]
  simp only [digitB, leI]
  cases decide (48 ≤ c) <;> rfl
theorem k151_eq (c : Int) : k151 c = some ((letterB c, ()), ()) := by
  rw [k151]
  simp only [letterB, leI, eqI]
  cases decide (97 ≤ c) <;> cases decide (c ≤ 122) <;> cases decide (65 ≤ c) <;> cases decide (c ≤ 90) <;> cases decide (c = 95) <;> rfl
def bI (b : UInt8) : Int := (b.toNat : Int)
def wlen : Bool → Str → Nat
  | _, [] => 0
  | first, c :: r => bif letterB (bI c) || (!first && digitB (bI c)) then wlen false r + 1 else 0
theorem wlen_le : ∀ (b : Bool) (s : Str), wlen b s ≤ s.length
  | _, [] => Nat.le_refl _
  | b, c :: r => by
    simp only [wlen]
    cases letterB (bI c) || (!b && digitB (bI c)) with
    | false => simp
    | true => simpa using wlen_le false r
theorem idxB_nat {s : Str} {i : Nat} (h : i < s.length) : idxB s (i : Int) = some (bI s[i]) := by
  unfold idxB bI
  simp [h]
theorem k118_loop (s : Str) (hl : s.length ≤ MX) (a : Nat) : ∀ (d i : Nat), i + d = s.length → a ≤ i → k118_0 s (a : Int) (i : Int) = some (((((i + wlen (decide (i = a)) (s.drop i) : Nat) : Int)), ()), ())
  | 0, i, h, ha => by
    have h1 : s.drop i = [] := List.drop_of_length_le (by omega)
    rw [h1, k118_0, ltI_false (by omega)]
    simp [wlen]
  | d + 1, i, h, ha => by
    have hi : i < s.length := by omega
    have ih := k118_loop s hl a d (i + 1) (by omega) (by omega)
    rw [drop_at hi]
    have hne : decide (i + 1 = a) = false := decide_eq_false (by omega)
    rw [hne] at ih
    rw [k118_0, ltI_true hi]
    simp only [idxB_nat hi, Option.bind_eq_bind, Option.bind_some, k117_eq, k119_eq, w64_succ hl hi, wlen, nf_eq, ih]
    have e : i + (wlen false (s.drop (i + 1)) + 1) = i + 1 + wlen false (s.drop (i + 1)) := by omega
    cases hL : letterB (bI s[i]) with
    | true => simp [e]
    | false =>
      by_cases hia : i = a
      · subst hia
        rw [ltI_false (by omega)]
        simp
      · rw [ltI_true (by omega)]
        cases hD : digitB (bI s[i]) with
        | true => simp [hia, e]
        | false => simp
end Go.Lb.R
end
section
namespace Go.Lb.R
open Go.Lb
theorem rune_N (s : Str) (p : Nat) : Utf8.decode ⟨s.toArray⟩ p = Go.Lib.decodeN (s.length - p) (s.getD p 0).toNat (s.getD (p + 1) 0).toNat (s.getD (p + 2) 0).toNat (s.getD (p + 3) 0).toNat := by
  have := Go.Lib.decode_N ⟨s.toArray⟩ p
  simpa using this
theorem rune_ascii {s : Str} {p : Nat} (h : p < s.length) (ha : s[p].toNat < 128) : runeAt s p = bI s[p] ∧ runeW s p = 1 := by
  have e : s.getD p 0 = s[p] := by simp [List.getD, h]
  unfold runeAt runeW
  rw [rune_N, e, Go.Lib.decodeN_ascii _ _ _ _ _ ha]
  exact ⟨rfl, rfl⟩
theorem rune_high {s : Str} {p : Nat} (h : p < s.length) (ha : ¬ s[p].toNat < 128) : 128 ≤ runeAt s p := by
  have e : s.getD p 0 = s[p] := by simp [List.getD, h]
  unfold runeAt
  rw [rune_N, e]
  rcases Go.Lib.decodeN_shape (s.length - p) s[p].toNat (s.getD (p + 1) 0).toNat (s.getD (p + 2) 0).toNat (s.getD (p + 3) 0).toNat with ⟨c, e⟩ | ⟨c1, c2, c3, cv, e⟩ | ⟨c1, c2, c3, c4, cv, cs, e⟩ | ⟨c1, c2, c3, c4, c5, cv, cw, e⟩ | e
  · exact absurd c ha
  all_goals (rw [e]; dsimp only; omega)
theorem rune_W {s : Str} {p : Nat} (h : p < s.length) : 1 ≤ runeW s p ∧ p + runeW s p ≤ s.length := by
  unfold runeW
  rw [rune_N]
  rcases Go.Lib.decodeN_shape (s.length - p) (s.getD p 0).toNat (s.getD (p + 1) 0).toNat (s.getD (p + 2) 0).toNat (s.getD (p + 3) 0).toNat with ⟨c, e⟩ | ⟨c1, c2, c3, cv, e⟩ | ⟨c1, c2, c3, c4, cv, cs, e⟩ | ⟨c1, c2, c3, c4, c5, cv, cw, e⟩ | e
  all_goals (rw [e]; dsimp only; omega)
theorem rloop {R : Type} {s : Str} {T : Int → Bool} {L : Nat → Option R} {good : R} {bad : Nat → R}
    (hs : ∀ p, p < s.length → L p = bif T (runeAt s p) then L (p + runeW s p) else some (bad p)) (he : L s.length = some good) :
    ∀ (d p : Nat), s.length ≤ p + d → p ≤ s.length → (∃ q, p ≤ q ∧ q < s.length ∧ L p = some (bad q) ∧ (T (runeAt s p) = true → p < q)) ∨ L p = some good
  | 0, p, h, hp => by
    obtain rfl : p = s.length := by omega
    exact .inr he
  | d + 1, p, h, hp => by
    by_cases hl : p < s.length
    · obtain ⟨w1, w2⟩ := rune_W hl
      rw [hs p hl]
      cases hT : T (runeAt s p) with
      | false => exact .inl ⟨p, Nat.le_refl _, hl, rfl, fun e => by cases e⟩
      | true =>
        rcases rloop hs he d (p + runeW s p) (by omega) w2 with ⟨q, h1, h2, h3, h4⟩ | h1
        · exact .inl ⟨q, by omega, h2, h3, fun _ => by omega⟩
        · exact .inr h1
    · obtain rfl : p = s.length := by omega
      exact .inr he
def wl (T : Int → Bool) : Str → Nat
  | [] => 0
  | c :: r => bif T (bI c) then wl T r + 1 else 0
theorem wl_le (T : Int → Bool) : ∀ s : Str, wl T s ≤ s.length
  | [] => Nat.le_refl _
  | c :: r => by
    simp only [wl]
    cases T (bI c) with
    | false => simp
    | true => simpa using wl_le T r
theorem aloop {R : Type} {s : Str} {T : Int → Bool} {L : Nat → Option R} {good : R} {bad : Nat → R} (hT : ∀ c, 128 ≤ c → T c = false)
    (hs : ∀ p, p < s.length → L p = bif T (runeAt s p) then L (p + runeW s p) else some (bad p)) (he : L s.length = some good) :
    ∀ (d p : Nat), p + d = s.length → L p = some (if p + wl T (s.drop p) < s.length then bad (p + wl T (s.drop p)) else good)
  | 0, p, h => by
    obtain rfl : p = s.length := by omega
    rw [he]
    simp [wl]
  | d + 1, p, h => by
    have hl : p < s.length := by omega
    rw [hs p hl, drop_at hl]
    by_cases ha : s[p].toNat < 128
    · obtain ⟨e1, e2⟩ := rune_ascii hl ha
      rw [e1, e2]
      by_cases hc : T (bI s[p]) = true
      · have e : p + wl T (s[p] :: s.drop (p + 1)) = p + 1 + wl T (s.drop (p + 1)) := by simp only [wl, hc, cond_true]; omega
        rw [hc, cond_true, e]
        exact aloop hT hs he d (p + 1) (by omega)
      · have hc' : T (bI s[p]) = false := by simpa using hc
        simp [wl, hc', hl]
    · rw [hT _ (rune_high hl ha)]
      simp only [wl]
      have : T (bI s[p]) = false := hT _ (by unfold bI; omega)
      simp [this, hl]
def wordB (c : Int) : Bool := letterB c || digitB c
theorem letter_high (c : Int) (h : 128 ≤ c) : letterB c = false := by
  simp only [letterB, Bool.or_eq_false_iff, Bool.and_eq_false_iff, decide_eq_false_iff_not]
  omega
theorem digit_high (c : Int) (h : 128 ≤ c) : digitB c = false := by
  simp only [digitB, Bool.and_eq_false_iff, decide_eq_false_iff_not]
  omega
theorem word_high (c : Int) (h : 128 ≤ c) : wordB c = false := by rw [wordB, letter_high c h, digit_high c h]; rfl
theorem ltN_true {a b : Nat} (h : a < b) : ltN a b = true := by simp [ltN, h]
theorem ltN_false {a b : Nat} (h : ¬ a < b) : ltN a b = false := by simp [ltN, h]
theorem k152_loop (s : Str) : k152_0 (s, 0) = some (if wl wordB s < s.length then Sum.inr (((wl wordB s : Int), ()), (s, wl wordB s + runeW s (wl wordB s)), ()) else Sum.inl ((), (s, s.length), ())) := by
  have := aloop (s := s) (T := wordB) (L := fun p => k152_0 (s, p)) (good := Sum.inl ((), (s, s.length), ())) (bad := fun p => Sum.inr (((p : Int), ()), (s, p + runeW s p), ())) word_high
    (fun p hp => by
      rw [k152_0]
      simp only [ltN_true hp, k151_eq, k153_eq, Option.bind_eq_bind, Option.bind_some, wordB]
      cases letterB (runeAt s p) <;> cases digitB (runeAt s p) <;> rfl)
    (by rw [k152_0]; simp only [ltN_false (Nat.lt_irrefl _)]) s.length 0 (by omega)
  simpa using this
theorem k129_loop (s : Str) : k129_0 (s, 0) = some (if wl digitB s < s.length then Sum.inr (((wl digitB s : Int), ()), (s, wl digitB s + runeW s (wl digitB s)), ()) else Sum.inl ((), (s, s.length), ())) := by
  have := aloop (s := s) (T := digitB) (L := fun p => k129_0 (s, p)) (good := Sum.inl ((), (s, s.length), ())) (bad := fun p => Sum.inr (((p : Int), ()), (s, p + runeW s p), ())) digit_high
    (fun p hp => by
      rw [k129_0]
      simp only [ltN_true hp, k153_eq, Option.bind_eq_bind, Option.bind_some]
      cases digitB (runeAt s p) <;> rfl)
    (by rw [k129_0]; simp only [ltN_false (Nat.lt_irrefl _)]) s.length 0 (by omega)
  simpa using this
theorem wrap32_byte (b : UInt8) : IntKind.wrap .i32 (bI b) = bI b := by
  have h := b.toNat_lt
  unfold IntKind.wrap bI
  simp only [IntKind.bits, IntKind.signed]
  have h1 : (b.toNat : Int) % (2 ^ 32 : Int) = b.toNat := Int.emod_eq_of_lt (by omega) (by omega)
  simp only [h1]
  have h2 : ¬ ((b.toNat : Int) ≥ 2 ^ (32 - 1)) := by
    have : (2 : Int) ^ (32 - 1) = 2147483648 := by decide
    omega
  simp only [h2, decide_false, Bool.and_false, Bool.false_eq_true, if_false]
def wordN : Str → Nat
  | [] => 0
  | c :: r => bif digitB (bI c) || decide (30 < wl wordB (c :: r)) then 0 else wl wordB (c :: r)
theorem wordN_le (s : Str) : wordN s ≤ s.length := by
  cases s with
  | nil => exact Nat.le_refl _
  | cons c r =>
    simp only [wordN]
    cases digitB (bI c) || decide (30 < wl wordB (c :: r)) with
    | true => simp
    | false => exact wl_le _ _
theorem k152_eq (s : Str) : k152 s = some (((wordN s : Int), ()), ()) := by
  rw [k152, k152_loop]
  cases s with
  | nil => rfl
  | cons c r =>
    have hi : idxB (c :: r) 0 = some (bI c) := by simp [idxB, bI]
    have hle := wl_le wordB (c :: r)
    simp only [wordN]
    generalize hn : wl wordB (c :: r) = n at *
    by_cases h1 : n < (c :: r).length
    · simp only [h1, if_true, Option.bind_eq_bind, Option.bind_some, hi, wrap32_byte, k153_eq]
      by_cases h0 : n = 0
      · subst h0
        cases digitB (bI c) <;> simp [eqI]
      · have : eqI (n : Int) 0 = false := by simp only [eqI, decide_eq_false_iff_not]; omega
        rw [this]
        cases hd : digitB (bI c) with
        | true => rfl
        | false =>
          by_cases h3 : 30 < n
          · have : ltI 30 (n : Int) = true := by simp only [ltI, decide_eq_true_eq]; omega
            simp [this, h3]
          · have : ltI 30 (n : Int) = false := by simp only [ltI, decide_eq_false_iff_not]; omega
            simp [this, h3]
    · have e : n = (c :: r).length := by omega
      simp only [h1, if_false, Option.bind_eq_bind, Option.bind_some, hi, wrap32_byte, k153_eq]
      rw [← e]
      have h0 : n ≠ 0 := by simp at e; omega
      have : eqI (n : Int) 0 = false := by simp only [eqI, decide_eq_false_iff_not]; omega
      rw [this]
      cases hd : digitB (bI c) with
      | true => rfl
      | false =>
        by_cases h3 : 30 < n
        · have : ltI 30 (n : Int) = true := by simp only [ltI, decide_eq_true_eq]; omega
          simp [this, h3]
        · have : ltI 30 (n : Int) = false := by simp only [ltI, decide_eq_false_iff_not]; omega
          simp [this, h3]
end Go.Lb.R
end
section
namespace Go.Lb.R
open Go.Lb
theorem subL_nat {α : Type} {l : List α} {a b : Nat} (h1 : a ≤ b) (h2 : b ≤ l.length) : subL l (a : Int) (b : Int) = some ((l.drop a).take (b - a)) := by
  unfold subL
  have : (0 : Int) ≤ a ∧ (a : Int) ≤ b ∧ (b : Int) ≤ l.length := ⟨by omega, by omega, by omega⟩
  rw [if_pos this]
  simp
theorem subL_end {α : Type} {l : List α} {a : Nat} (h : a ≤ l.length) : subL l (a : Int) (l.length : Int) = some (l.drop a) := by
  rw [subL_nat h (Nat.le_refl _)]
  rw [List.take_of_length_le (by simp)]
theorem w64_add {a b n : Nat} (hn : n ≤ MX) (h : a + b ≤ n) : w64 ((a : Int) + (b : Int)) = ((a + b : Nat) : Int) := by
  have := w64_nat (n := a + b) (by simp only [MX] at hn; omega)
  simpa using this
def preB (a b : Str) : Bool := decide (b.length ≤ a.length) && eqS (a.take b.length) b
theorem k149_eq (a b : Str) : k149 a b = some ((preB a b, ()), ()) := by
  rw [k149, k160]
  unfold preB
  by_cases h : b.length ≤ a.length
  · have e : leI (b.length : Int) (a.length : Int) = true := by simp only [leI, decide_eq_true_eq]; omega
    have := subL_nat (l := a) (a := 0) (b := b.length) (Nat.zero_le _) h
    simp only [Nat.sub_zero, List.drop_zero] at this
    rw [show ((0 : Nat) : Int) = 0 from rfl] at this
    simp [e, this, h]
  · have e : leI (b.length : Int) (a.length : Int) = false := by simp only [leI, decide_eq_false_iff_not]; omega
    simp [e, h]
def blankB (c : Int) : Bool := eqI c 32 || (eqI c 9 || eqI c 10)
def lineB (c : Int) : Bool := !eqI c 10
theorem k128_loop (s : Str) : (∃ q, q < s.length ∧ k128_0 (s, 0) = some (Sum.inr (((q : Int), ()), (s, q + runeW s q), ())) ∧ (blankB (runeAt s 0) = true → 0 < q)) ∨ k128_0 (s, 0) = some (Sum.inl ((), (s, s.length), ())) := by
  have := rloop (s := s) (T := blankB) (L := fun p => k128_0 (s, p)) (good := Sum.inl ((), (s, s.length), ())) (bad := fun p => Sum.inr (((p : Int), ()), (s, p + runeW s p), ()))
    (fun p hp => by
      rw [k128_0]
      simp only [ltN_true hp, blankB]
      cases eqI (runeAt s p) 32 <;> cases eqI (runeAt s p) 9 <;> cases eqI (runeAt s p) 10 <;> rfl)
    (by rw [k128_0]; simp only [ltN_false (Nat.lt_irrefl _)]) s.length 0 (by omega) (by omega)
  rcases this with ⟨q, _, h1, h2, h3⟩ | h
  · exact .inl ⟨q, h1, h2, h3⟩
  · exact .inr h
theorem k128_first (s : Str) (h : 0 < s.length) (hb : blankB (runeAt s 0) = false) : k128_0 (s, 0) = some (Sum.inr (((0 : Int), ()), (s, 0 + runeW s 0), ())) := by
  rw [k128_0]
  simp only [ltN_true h]
  simp only [blankB, Bool.or_eq_false_iff] at hb
  rw [hb.1, hb.2.1, hb.2.2]
  rfl
theorem k128_line (s : Str) : (∃ q, q < s.length ∧ k128_1 (s, 0) = some (Sum.inr (((q : Int), ()), (s, q + runeW s q), ()))) ∨ k128_1 (s, 0) = some (Sum.inl ((), (s, s.length), ())) := by
  have := rloop (s := s) (T := lineB) (L := fun p => k128_1 (s, p)) (good := Sum.inl ((), (s, s.length), ())) (bad := fun p => Sum.inr (((p : Int), ()), (s, p + runeW s p), ()))
    (fun p hp => by
      rw [k128_1]
      simp only [ltN_true hp, lineB]
      cases eqI (runeAt s p) 10 <;> rfl)
    (by rw [k128_1]; simp only [ltN_false (Nat.lt_irrefl _)]) s.length 0 (by omega) (by omega)
  rcases this with ⟨q, _, h1, h2, h3⟩ | h
  · exact .inl ⟨q, h1, h2⟩
  · exact .inr h
theorem k128_some (s : Str) (hl : s.length ≤ MX) : ∃ n : Nat, n ≤ s.length ∧ k128 s = some (((n : Int), ()), ()) := by
  rw [k128]
  rcases k128_loop s with ⟨q, hq, e, _⟩ | e
  · simp only [e, Option.bind_eq_bind, Option.bind_some]
    rw [subL_end (by omega)]
    simp only [Option.bind_some, k149_eq]
    cases preB (s.drop q) _ with
    | false => exact ⟨q, by omega, rfl⟩
    | true =>
      rcases k128_line (s.drop q) with ⟨q2, h2, e2⟩ | e2
      · have : q2 < s.length - q := by simpa using h2
        simp only [e2, Option.bind_some]
        refine ⟨q + q2, by omega, ?_⟩
        rw [w64_add hl (by omega)]
      · simp only [e2, Option.bind_some]
        refine ⟨q + (s.drop q).length, by simp; omega, ?_⟩
        rw [w64_add hl (by simp; omega)]
  · simp only [e, Option.bind_eq_bind, Option.bind_some]
    rw [subL_end (Nat.le_refl _)]
    simp only [Option.bind_some, k149_eq, List.drop_length]
    exact ⟨s.length, Nat.le_refl _, rfl⟩
theorem letter_lt {c : Int} (h : letterB c = true) : 65 ≤ c ∧ c < 128 := by
  simp only [letterB, Bool.or_eq_true, Bool.and_eq_true, decide_eq_true_eq] at h
  omega
theorem k128_letter (c : UInt8) (r : Str) (hc : letterB (bI c) = true) : k128 (c :: r) = some ((0, ()), ()) := by
  obtain ⟨h1, h2⟩ := letter_lt hc
  have hp : 0 < (c :: r).length := by simp
  have ha := (rune_ascii (s := c :: r) (p := 0) hp (by unfold bI at h2; simpa using (by omega : c.toNat < 128))).1
  have hb : blankB (runeAt (c :: r) 0) = false := by
    rw [ha]
    simp only [blankB, eqI, List.getElem_cons_zero, Bool.or_eq_false_iff, decide_eq_false_iff_not]
    omega
  rw [k128, k128_first _ hp hb]
  simp only [Option.bind_eq_bind, Option.bind_some]
  rw [show (0 : Int) = ((0 : Nat) : Int) from rfl, subL_end (Nat.zero_le _)]
  simp only [Option.bind_some, k149_eq, List.drop_zero]
  have : preB (c :: r) (Array.toList (ByteArray.data { data := #[47, 47] })) = false := by
    cases hp : preB (c :: r) (Array.toList (ByteArray.data { data := #[47, 47] })) with
    | false => rfl
    | true =>
      exfalso
      simp only [preB, Bool.and_eq_true, eqS] at hp
      have h := hp.2
      simp at h
      rw [h.1] at h1
      exact absurd h1 (by decide)
  rw [this]
end Go.Lb.R
end
section
namespace Go.Lb.R
open Go.Lb
abbrev marksS : Str := Array.toList (ByteArray.data { data := #[40, 41, 123, 125, 91, 93, 44, 59, 58, 46, 38, 42, 61, 43, 45, 47, 60] })
theorem kh_indexByte_eq (a : Str) (b : Int) : kh_indexByte a b = some ((Go.Lib.indexByte a b.toNat.toUInt8, ()), ()) := rfl
theorem kh_validRune_eq (a : Int) : kh_validRune a = some ((Go.Lib.validRune a, ()), ()) := rfl
theorem runeStr_two : ∀ n : Fin 128, ∃ b1 b2 : UInt8, runeStr ((128 + n.val : Nat) : Int) = [b1, b2] ∧ 128 ≤ b2.toNat := by
  have : ∀ n : Fin 128, (runeStr ((128 + n.val : Nat) : Int)).length = 2 ∧ 128 ≤ ((runeStr ((128 + n.val : Nat) : Int)).getD 1 0).toNat := by decide
  intro n
  obtain ⟨h1, h2⟩ := this n
  generalize runeStr ((128 + n.val : Nat) : Int) = l at h1 h2
  match l, h1 with
  | [a, b], _ => exact ⟨a, b, rfl, by simpa using h2⟩
theorem marks_none : ∀ b2 : UInt8, 128 ≤ b2.toNat → Go.Lib.indexByte [123, 125, 91, 93, 44, 59, 58, 46, 38, 42, 61, 43, 45, 47, 60] b2 = -1 := by
  intro b2 h
  have hne : ∀ k : UInt8, k.toNat < 128 → (k == b2) = false := by
    intro k hk
    simp only [beq_eq_false_iff_ne, ne_eq]
    rintro rfl
    omega
  simp [Go.Lib.indexByte, hne]
theorem k162_marks (b : UInt8) : ∃ n : Int, k162 marksS (bI b) = some ((n, ()), ()) := by
  rw [k162]
  by_cases h : b.toNat < 128
  · have e1 : leI 0 (bI b) = true := decide_eq_true (by unfold bI; omega)
    have e2 : ltI (bI b) 128 = true := decide_eq_true (by unfold bI; omega)
    simp only [e1, e2, Option.bind_eq_bind, Option.bind_some, kh_indexByte_eq]
    exact ⟨_, rfl⟩
  · have hb := b.toNat_lt
    have e1 : leI 0 (bI b) = true := decide_eq_true (by unfold bI; omega)
    have e2 : ltI (bI b) 128 = false := decide_eq_false (by unfold bI; omega)
    have e3 : eqI (bI b) 65533 = false := decide_eq_false (by unfold bI; omega)
    have e4 : Go.Lib.validRune (bI b) = true := decide_eq_true (by unfold bI; omega)
    obtain ⟨b1, b2, hr, h2⟩ := runeStr_two ⟨b.toNat - 128, by omega⟩
    have hbb : ((128 + (b.toNat - 128) : Nat) : Int) = bI b := by unfold bI; omega
    simp only [hbb] at hr
    simp only [e1, e2, e3, e4, Option.bind_eq_bind, Option.bind_some, kh_validRune_eq, Bool.not_true, hr]
    have i1 : w64 ((([b1, b2] : Str).length : Int) - 1) = 1 := by show w64 1 = 1; decide
    rw [i1, k162_2]
    have j0 : ltI 1 (marksS.length : Int) = true := by decide
    have j1 : idxB marksS 1 = some 41 := by decide
    have j2 : idxB [b1, b2] 1 = some (bI b2) := by simp [idxB, bI]
    have j3 : eqI 41 (bI b2) = false := decide_eq_false (by unfold bI; omega)
    have j4 : w64 (1 + 1) = 2 := by decide
    have j5 : subL marksS 2 (marksS.length : Int) = some [123, 125, 91, 93, 44, 59, 58, 46, 38, 42, 61, 43, 45, 47, 60] := by decide
    have j6 : (bI b2).toNat.toUInt8 = b2 := by simp [bI]
    simp only [j0, j1, j2, j3, j4, j5, Option.bind_eq_bind, Option.bind_some, Bool.not_false, kh_indexByte_eq, j6, marks_none b2 h2]
    exact ⟨_, rfl⟩
theorem k129_eq (c : UInt8) (r : Str) (hl : (c :: r).length ≤ MX) : ∃ k n : Nat, n ≤ (c :: r).length ∧ k129 (c :: r) = some ((((k : Int), (n : Int), ()), ()), ()) ∧ (letterB (bI c) = true → k = 1 ∧ n = wordN (c :: r)) ∧ (letterB (bI c) = false → k ≠ 1) := by
  have hi : idxB (c :: r) 0 = some (bI c) := by simp [idxB, bI]
  rw [k129]
  simp only [hi, Option.bind_eq_bind, Option.bind_some, wrap32_byte, k151_eq, k153_eq]
  cases hL : letterB (bI c) with
  | true =>
    simp only [k152_eq, Option.bind_some]
    exact ⟨1, wordN (c :: r), wordN_le _, rfl, fun _ => ⟨rfl, rfl⟩, nofun⟩
  | false =>
    cases hD : digitB (bI c) with
    | true =>
      simp only [k129_loop, Option.bind_some]
      have hle := wl_le digitB (c :: r)
      generalize wl digitB (c :: r) = n at *
      by_cases hn : n < (c :: r).length
      · simp only [hn, if_true]
        cases ltI 18 (n : Int) with
        | true => exact ⟨2, 0, Nat.zero_le _, rfl, nofun, fun _ => by decide⟩
        | false => exact ⟨2, n, hle, rfl, nofun, fun _ => by decide⟩
      · simp only [hn, if_false]
        cases ltI 18 ((c :: r).length : Int) with
        | true => exact ⟨2, 0, Nat.zero_le _, rfl, nofun, fun _ => by decide⟩
        | false => exact ⟨2, (c :: r).length, Nat.le_refl _, rfl, nofun, fun _ => by decide⟩
    | false =>
      simp only
      cases hq : eqI (bI c) 39 with
      | true =>
        simp only
        have hs : subL (c :: r) 1 ((c :: r).length : Int) = some r := by
          have := subL_end (l := c :: r) (a := 1) (by simp)
          simpa using this
        have hw := wordN_le r
        have hl' : r.length + 1 ≤ MX := by simpa using hl
        simp only [hs, Option.bind_some, k152_eq]
        cases h0 : ltI 0 ((wordN r : Nat) : Int) with
        | true =>
          refine ⟨3, wordN r + 1, by simp; omega, ?_, nofun, fun _ => by decide⟩
          have := w64_add (a := wordN r) (b := 1) (n := r.length + 1) hl' (by omega)
          rw [show ((1 : Nat) : Int) = 1 from rfl] at this
          simp only [this]
          rfl
        | false => exact ⟨3, wordN r, by simp; omega, rfl, nofun, fun _ => by decide⟩
      | false =>
        simp only [k149_eq, Option.bind_some]
        cases h1 : preB (c :: r) (Array.toList (ByteArray.data { data := #[45, 62] })) with
        | true =>
          refine ⟨4, 2, ?_, rfl, nofun, fun _ => by decide⟩
          simp only [preB, Bool.and_eq_true, decide_eq_true_eq] at h1
          exact h1.1
        | false =>
          simp only
          cases h2 : preB (c :: r) (Array.toList (ByteArray.data { data := #[61, 61] })) with
          | true =>
            refine ⟨4, 2, ?_, rfl, nofun, fun _ => by decide⟩
            simp only [preB, Bool.and_eq_true, decide_eq_true_eq] at h2
            exact h2.1
          | false =>
            obtain ⟨m, hm⟩ := k162_marks c
            simp only [k154, hm, Option.bind_eq_bind, Option.bind_some]
            cases leI 0 m with
            | true => exact ⟨4, 1, by simp, rfl, nofun, fun _ => by decide⟩
            | false => exact ⟨0, 0, Nat.zero_le _, rfl, nofun, fun _ => by decide⟩
end Go.Lb.R
end
section
namespace Go.Lb.R
open Go.Lb
def isWordB : Str → Bool
  | [] => false
  | c :: r => letterB (bI c) && (decide (wl wordB (c :: r) = (c :: r).length) && decide ((c :: r).length ≤ 30))
theorem wl_take (T : Int → Bool) : ∀ s : Str, wl T (s.take (wl T s)) = wl T s
  | [] => rfl
  | c :: r => by
    by_cases h : T (bI c) = true
    · have e : wl T (c :: r) = wl T r + 1 := by simp [wl, h]
      rw [e, List.take_succ_cons]
      simp only [wl, h, cond_true]
      rw [wl_take T r]
    · have h' : T (bI c) = false := by simpa using h
      simp [wl, h']
theorem letter_digit {c : Int} (h : letterB c = true) : digitB c = false := by
  have := letter_lt h
  simp only [digitB, Bool.and_eq_false_iff, decide_eq_false_iff_not]
  omega
theorem letter_word {c : Int} (h : letterB c = true) : wordB c = true := by rw [wordB, h]; rfl
theorem word_of_token {c : UInt8} {r : Str} (hc : letterB (bI c) = true) (h0 : wordN (c :: r) ≠ 0) : isWordB ((c :: r).take (wordN (c :: r))) = true := by
  have e : wordN (c :: r) = bif decide (30 < wl wordB (c :: r)) then 0 else wl wordB (c :: r) := by simp only [wordN, letter_digit hc, Bool.false_or]
  by_cases h3 : 30 < wl wordB (c :: r)
  · rw [e] at h0
    simp [h3] at h0
  · have e' : wordN (c :: r) = wl wordB (c :: r) := by rw [e]; simp [h3]
    rw [e']
    have e1 : wl wordB (c :: r) = wl wordB r + 1 := by simp [wl, letter_word hc]
    have ht := wl_take wordB (c :: r)
    have hle := wl_le wordB (c :: r)
    have hlen : ((c :: r).take (wl wordB (c :: r))).length = wl wordB (c :: r) := by rw [List.length_take]; omega
    generalize hn : wl wordB (c :: r) = n at *
    rw [e1] at ht hlen ⊢
    rw [List.take_succ_cons] at ht hlen ⊢
    simp only [isWordB, hc, ht, hlen, Bool.true_and, decide_true]
    simp
    omega
theorem wordN_word {c : UInt8} {r : Str} (h : isWordB (c :: r) = true) : letterB (bI c) = true ∧ wordN (c :: r) = (c :: r).length := by
  simp only [isWordB, Bool.and_eq_true, decide_eq_true_eq] at h
  obtain ⟨h1, h2, h3⟩ := h
  refine ⟨h1, ?_⟩
  simp only [wordN, letter_digit h1, Bool.false_or, h2]
  have : ¬ 30 < (c :: r).length := by omega
  rw [decide_eq_false this]
  rfl
def TokOK (l : List KTok) : Prop := ∀ t ∈ l, t.kind = 1 → isWordB t.text = true
theorem k104_loop (s : Str) (hs : s.length ≤ 20000) : ∀ (d at' : Nat) (l : List KTok), s.length ≤ at' + d → at' ≤ s.length → l.length ≤ at' → TokOK l →
    (∃ l', k104_0 s l (at' : Int) = some (Sum.inl ((l', ()), ())) ∧ TokOK l') ∨ ∃ p, k104_0 s l (at' : Int) = some (Sum.inr (((), GErr.fault p (GErr.code 1), ()), ()))
  | d, at', l, h, ha, hl, hk => by
    have hm : s.length ≤ MX := by simp only [MX]; omega
    rw [k104_0]
    by_cases hi : at' < s.length
    · rw [ltI_true hi, subL_end (by omega)]
      simp only [Option.bind_eq_bind, Option.bind_some]
      obtain ⟨n, hn, e⟩ := k128_some (s.drop at') (by simp; omega)
      have hn' : n ≤ s.length - at' := by simpa using hn
      simp only [e, Option.bind_some, nf_eq]
      by_cases h0 : 0 < n
      · have : ltI 0 (n : Int) = true := decide_eq_true (by omega)
        simp only [this]
        rw [w64_add hm (by omega)]
        match d with
        | 0 => omega
        | d + 1 => exact k104_loop s hs d (at' + n) l (by omega) (by omega) (by omega) hk
      · have : ltI 0 (n : Int) = false := decide_eq_false (by omega)
        simp only [this]
        have hdr := drop_at hi
        rw [hdr]
        obtain ⟨k, m, hm1, e1, e2, e3⟩ := k129_eq s[at'] (s.drop (at' + 1)) (by rw [← hdr]; simp; omega)
        have hm2 : m ≤ s.length - at' := by rw [← hdr] at hm1; simpa using hm1
        simp only [e1, Option.bind_some]
        by_cases hm0 : m = 0
        · subst hm0
          exact .inr ⟨_, rfl⟩
        · have : eqI (m : Int) 0 = false := decide_eq_false (by omega)
          simp only [this]
          rw [w64_add hm (by omega), subL_nat (by omega) (by omega)]
          simp only [Option.bind_some, Nat.add_sub_cancel_left]
          rw [hdr]
          have happ : ∀ t : KTok, app 32 l [t] = some (l ++ [t]) := fun t => by unfold app; rw [if_pos (by simp; omega)]
          rw [happ]
          simp only [Option.bind_some]
          match d with
          | 0 => omega
          | d + 1 =>
            refine k104_loop s hs d (at' + m) _ (by omega) (by omega) (by simp; omega) ?_
            intro t ht
            rcases List.mem_append.1 ht with ht | ht
            · exact hk t ht
            · simp only [List.mem_singleton] at ht
              subst ht
              simp only
              intro hk1
              cases hL : letterB (bI s[at']) with
              | false =>
                have := e3 hL
                omega
              | true =>
                obtain ⟨_, rfl⟩ := e2 hL
                exact word_of_token hL hm0
    · rw [ltI_false hi]
      exact .inl ⟨l, rfl, hk⟩
theorem k104_some (s : Str) (hm : s.length ≤ MX) : (∃ l, k104 s = some (((l, GErr.nil, ()), ()), ()) ∧ TokOK l) ∨ ∃ l e, k104 s = some (((l, e, ()), ()), ()) ∧ GErr.isNil e = false := by
  rw [k104]
  by_cases h : s.length ≤ 20000
  · have : ltI 20000 (s.length : Int) = false := decide_eq_false (by omega)
    simp only [this]
    rcases k104_loop s h s.length 0 [] (by omega) (Nat.zero_le _) (by simp) (fun t ht => by simp at ht) with ⟨l, e, hl⟩ | ⟨p, e⟩
    · rw [show ((0 : Nat) : Int) = 0 from rfl] at e
      simp only [e, Option.bind_eq_bind, Option.bind_some]
      exact .inl ⟨l, rfl, hl⟩
    · rw [show ((0 : Nat) : Int) = 0 from rfl] at e
      simp only [e, Option.bind_eq_bind, Option.bind_some]
      exact .inr ⟨_, _, rfl, rfl⟩
  · have : ltI 20000 (s.length : Int) = true := decide_eq_true (by omega)
    simp only [this]
    exact .inr ⟨_, _, rfl, rfl⟩
theorem k104_word (s : Str) (h : isWordB s = true) : k104 s = some ((([{ kind := 1, pos := 0, text := s }], GErr.nil, ()), ()), ()) := by
  cases s with
  | nil => cases h
  | cons c r =>
    obtain ⟨hc, hw⟩ := wordN_word h
    have h30 : (c :: r).length ≤ 30 := by
      simp only [isWordB, Bool.and_eq_true, decide_eq_true_eq] at h
      exact h.2.2
    have hm : (c :: r).length ≤ MX := by simp only [MX]; omega
    have i0 : ltI 20000 ((c :: r).length : Int) = false := decide_eq_false (by omega)
    have i1 : ltI 0 ((c :: r).length : Int) = true := decide_eq_true (by simp only [List.length_cons]; omega)
    have i2 : subL (c :: r) 0 ((c :: r).length : Int) = some (c :: r) := by
      have := subL_end (l := c :: r) (a := 0) (Nat.zero_le _)
      simpa using this
    obtain ⟨k, m, hm1, e1, e2, e3⟩ := k129_eq c r hm
    obtain ⟨rfl, rfl⟩ := e2 hc
    have i3 : eqI ((c :: r).length : Int) 0 = false := decide_eq_false (by simp only [List.length_cons]; omega)
    have i4 : w64 (0 + ((c :: r).length : Int)) = ((c :: r).length : Int) := by
      have := w64_add (a := 0) (b := (c :: r).length) hm (by omega)
      simpa using this
    have i5 : ltI 0 0 = false := rfl
    have i6 : ∀ t : KTok, app 32 [] [t] = some [t] := fun t => rfl
    rw [k104, i0]
    simp only
    rw [k104_0]
    simp only [i1, i2, i3, i4, i5, i6, k128_letter c r hc, e1, hw, Option.bind_eq_bind, Option.bind_some]
    rw [k104_0]
    simp only [nf_eq]
    rw [ltI_false (Nat.lt_irrefl _)]
    rfl
theorem all_not {α : Type} (p : α → Bool) : ∀ l : List α, (l.all fun y => !p y) = !(l.any p)
  | [] => rfl
  | a :: l => by simp only [List.all_cons, List.any_cons, all_not p l]; cases p a <;> rfl
theorem k78_loop (l : List Str) (hl : l.length ≤ MX) (s : Str) : (k78_0 l s (l.length : Int) 0 = some (Sum.inl ((), ())) ∧ (l.any fun y => eqS s y) = false) ∨ ((∃ j : Nat, k78_0 l s (l.length : Int) 0 = some (Sum.inr (((j : Int), ()), ()))) ∧ (l.any fun y => eqS s y) = true) := by
  have := loop_all0 (l := l) (p := fun y => !eqS s y) (L := fun i => k78_0 l s (l.length : Int) (i : Int)) (good := Sum.inl ((), ())) (bad := fun j => Sum.inr (((j : Int), ()), ()))
    (fun i hi => by
      rw [k78_0, ltI_true hi]
      simp only [idx_nat hi, Option.bind_eq_bind, Option.bind_some, nf_eq, w64_succ hl hi]
      cases eqS s l[i] <;> rfl)
    (by rw [k78_0, ltI_false (Nat.lt_irrefl _)])
  have e : (l.all fun y => !eqS s y) = !(l.any fun y => eqS s y) := all_not _ l
  rw [e] at this
  rcases this with ⟨h1, h2⟩ | ⟨⟨j, h1⟩, h2⟩
  · exact .inl ⟨h1, by simpa using h2⟩
  · exact .inr ⟨⟨j, h1⟩, by simpa using h2⟩
theorem k40_eq (l : List Str) (hl : l.length ≤ MX) (s : Str) : k40 l s = some ((l.any fun y => eqS s y, ()), ()) := by
  rw [k40, k78]
  rcases k78_loop l hl s with ⟨h1, h2⟩ | ⟨⟨j, h1⟩, h2⟩
  · simp only [h1, h2, Option.bind_eq_bind, Option.bind_some]
    rfl
  · simp only [h1, h2, Option.bind_eq_bind, Option.bind_some]
    have : leI 0 (j : Int) = true := decide_eq_true (by omega)
    rw [this]
abbrev kwsS : List Str := [Array.toList (ByteArray.data { data := #[102, 110] }), Array.toList (ByteArray.data { data := #[108, 101, 116] }), Array.toList (ByteArray.data { data := #[105, 102] }), Array.toList (ByteArray.data { data := #[101, 108, 115, 101] }), Array.toList (ByteArray.data { data := #[114, 101, 112, 101, 97, 116] }), Array.toList (ByteArray.data { data := #[114, 101, 116] }), Array.toList (ByteArray.data { data := #[98, 111, 120] }), Array.toList (ByteArray.data { data := #[105, 110, 116] }), Array.toList (ByteArray.data { data := #[109, 117, 116] }), Array.toList (ByteArray.data { data := #[119, 104, 101, 114, 101] })]
def nameB (s : Str) : Bool := isWordB s && !(kwsS.any fun y => eqS s y)
theorem k105_eq : k105 = some ((kwsS, ()), ()) := by
  rw [k105]
  rfl
theorem k70_eq (s : Str) (hm : s.length ≤ MX) : k70 s = some ((nameB s, ()), ()) := by
  rw [k70]
  cases hw : isWordB s with
  | true =>
    simp only [k104_word s hw, Option.bind_eq_bind, Option.bind_some]
    have i1 : eqI (([{ kind := 1, pos := 0, text := s }] : List KTok).length : Int) 1 = true := rfl
    have i2 : idx ([{ kind := 1, pos := 0, text := s }] : List KTok) 0 = some { kind := 1, pos := 0, text := s } := rfl
    have i3 : eqTok { kind := 1, pos := 0, text := s } { kind := 1, pos := 0, text := s } = true := by simp [eqTok]
    simp only [GErr.isNil, i1, i2, i3, k105_eq, Option.bind_some]
    rw [k40_eq _ (by decide)]
    simp only [Option.bind_some, nameB, hw, Bool.true_and]
  | false =>
    have hn : nameB s = false := by rw [nameB, hw]; rfl
    rw [hn]
    rcases k104_some s hm with ⟨l, e, hl⟩ | ⟨l, e, h1, h2⟩
    · simp only [e, Option.bind_eq_bind, Option.bind_some, GErr.isNil]
      match l, hl with
      | [], _ => rfl
      | [t], hl =>
        have i1 : eqI (([t] : List KTok).length : Int) 1 = true := rfl
        have i2 : idx [t] 0 = some t := rfl
        have i3 : eqTok t { kind := 1, pos := 0, text := s } = false := by
          cases h : eqTok t { kind := 1, pos := 0, text := s } with
          | false => rfl
          | true =>
            exfalso
            simp only [eqTok, Bool.and_eq_true, beq_iff_eq] at h
            have := hl t (by simp) h.1
            rw [h.2.2, hw] at this
            cases this
        simp only [i1, i2, i3, Option.bind_some]
      | a :: b :: r, _ =>
        have i1 : eqI ((a :: b :: r : List KTok).length : Int) 1 = false := decide_eq_false (by simp only [List.length_cons]; omega)
        simp only [i1]
    · simp only [h1, h2, Option.bind_eq_bind, Option.bind_some]
end Go.Lb.R
end
section
namespace Go.Lb.R
open Go.Lb
theorem eqS_iff {a b : Str} : eqS a b = true ↔ a = b := ⟨fun h => eq_of_beq h, fun h => by subst h; exact eqS_refl _⟩
theorem eqS_comm (a b : Str) : eqS a b = eqS b a := Bool.eq_iff_iff.2 ⟨fun h => eqS_iff.2 (eqS_iff.1 h).symm, fun h => eqS_iff.2 (eqS_iff.1 h).symm⟩
theorem wlen_false : ∀ s : Str, wlen false s = wl wordB s
  | [] => rfl
  | c :: r => by simp only [wlen, wl, wordB, Bool.not_false, Bool.true_and, wlen_false r]
theorem k89_eq (s : Str) (hm : s.length ≤ MX) : k89 s = some ((isWordB s, ()), ()) := by
  rw [k89]
  cases s with
  | nil => rfl
  | cons c r =>
    have i1 : ltI 0 ((c :: r).length : Int) = true := decide_eq_true (by simp only [List.length_cons]; omega)
    have e := k118_loop (c :: r) hm 0 (c :: r).length 0 (by omega) (Nat.le_refl _)
    simp only [List.drop_zero, decide_true, Nat.zero_add] at e
    rw [show ((0 : Nat) : Int) = 0 from rfl] at e
    have hle := wlen_le true (c :: r)
    simp only [i1, k118, e, Option.bind_eq_bind, Option.bind_some]
    have i2 : w64 ((wlen true (c :: r) : Int) - 0) = (wlen true (c :: r) : Int) := by
      rw [show ((wlen true (c :: r) : Int) - 0) = (wlen true (c :: r) : Int) by omega]
      exact w64_nat (by simp only [MX] at hm; omega)
    rw [i2]
    simp only [isWordB]
    cases hL : letterB (bI c) with
    | false =>
      have : wlen true (c :: r) = 0 := by simp [wlen, hL]
      rw [this]
      have i3 : eqI ((0 : Nat) : Int) ((c :: r).length : Int) = false := decide_eq_false (by simp only [List.length_cons]; omega)
      have i4 : ltI 30 ((0 : Nat) : Int) = false := rfl
      simp only [i3, i4, Option.bind_some, Bool.false_and]
    | true =>
      have hw : wlen true (c :: r) = wl wordB (c :: r) := by simp [wlen, hL, wl, letter_word hL, wlen_false]
      rw [hw] at hle ⊢
      generalize wl wordB (c :: r) = n at *
      by_cases h3 : 30 < n
      · have i4 : ltI 30 (n : Int) = true := decide_eq_true (by omega)
        have i5 : eqI 0 ((c :: r).length : Int) = false := decide_eq_false (by simp only [List.length_cons]; omega)
        have i6 : ¬ (c :: r).length ≤ 30 := by omega
        simp only [i4, i5, Option.bind_some, decide_eq_false i6, Bool.and_false]
      · have i4 : ltI 30 (n : Int) = false := decide_eq_false (by omega)
        simp only [i4, Option.bind_some, Bool.true_and]
        by_cases hn : n = (c :: r).length
        · have i5 : eqI (n : Int) ((c :: r).length : Int) = true := decide_eq_true (by omega)
          have i6 : (c :: r).length ≤ 30 := by omega
          simp only [i5, decide_eq_true hn, decide_eq_true i6, Bool.and_self]
        · have i5 : eqI (n : Int) ((c :: r).length : Int) = false := decide_eq_false (by omega)
          simp only [i5, decide_eq_false hn, Bool.false_and]
theorem k51_loop (l : List Str) (hl : l.length ≤ MX) (s : Str) : (k51_0 s l 0 = some (Sum.inl ((), ())) ∧ (l.any fun y => eqS s y) = false) ∨ (k51_0 s l 0 = some (Sum.inr ((false, ()), ())) ∧ (l.any fun y => eqS s y) = true) := by
  have := loop_all0 (l := l) (p := fun y => !eqS s y) (L := fun i => k51_0 s l (i : Int)) (good := Sum.inl ((), ())) (bad := fun j => Sum.inr ((false, ()), ()))
    (fun i hi => by
      rw [k51_0, ltI_true hi]
      simp only [idx_nat hi, Option.bind_eq_bind, Option.bind_some, nf_eq, w64_succ hl hi, eqS_comm l[i] s]
      cases eqS s l[i] <;> rfl)
    (by rw [k51_0, ltI_false (Nat.lt_irrefl _)])
  rw [all_not] at this
  rcases this with ⟨h1, h2⟩ | ⟨⟨j, h1⟩, h2⟩
  · exact .inl ⟨h1, by simpa using h2⟩
  · exact .inr ⟨h1, by simpa using h2⟩
theorem k51_eq (s : Str) (hm : s.length ≤ MX) : k51 s = some ((nameB s, ()), ()) := by
  rw [k51]
  unfold nameB
  rcases k51_loop kwsS (by decide) s with ⟨h1, h2⟩ | ⟨h1, h2⟩
  · rw [h1]
    simp only [Option.bind_eq_bind, Option.bind_some, k89_eq s hm, h2, Bool.not_false, Bool.and_true]
  · rw [h1]
    simp only [Option.bind_eq_bind, Option.bind_some, h2, Bool.not_true, Bool.and_false]
abbrev nilS : Str := Array.toList (ByteArray.data { data := #[] })
def rightT1 (k : Int) (l : Str) (m : Bool) (n : Int) : Bool :=
  bif eqI k 4 then nameB l && eqI n 1 else eqS l nilS && (!m && (eqI k 1 && eqI n 0 || (eqI k 2 && eqI n 1 || eqI k 3 && (leI 2 n && leI n 30))))
mutual
def rightT : GT → Bool
  | .mk k l m ks => rightTs ks && rightT1 k l m (ks.length : Int)
def rightTs : List GT → Bool
  | [] => true
  | t :: r => rightT t && rightTs r
end
theorem rightTs_all : ∀ l : List GT, rightTs l = l.all rightT
  | [] => rfl
  | t :: r => by simp only [rightTs, List.all_cons, rightTs_all r]
theorem rightT_eq (t : GT) : rightT t = (t.kids.all rightT && rightT1 t.kind t.life t.mu (t.kids.length : Int)) := by
  cases t
  simp only [rightT, rightTs_all]
  rfl
theorem okT_life {t : GT} (h : okT t) : t.life.length ≤ MX := by
  cases t
  simp only [okT] at h
  exact h.1
theorem k52_loop (t : GT) (hl : t.kids.length ≤ MX) (IH : ∀ x ∈ t.kids, k52 x = some ((rightT x, ()), ())) : (k52_0 t 0 = some (Sum.inl ((), ())) ∧ t.kids.all rightT = true) ∨ (k52_0 t 0 = some (Sum.inr ((false, ()), ())) ∧ t.kids.all rightT = false) := by
  have := loop_all0 (l := t.kids) (p := rightT) (L := fun i => k52_0 t (i : Int)) (good := Sum.inl ((), ())) (bad := fun j => Sum.inr ((false, ()), ()))
    (fun i hi => by
      rw [k52_0, ltI_true hi]
      simp only [idx_nat hi, Option.bind_eq_bind, Option.bind_some, nf_eq, w64_succ hl hi, IH _ (List.getElem_mem hi)]
      cases rightT t.kids[i] <;> rfl)
    (by rw [k52_0, ltI_false (Nat.lt_irrefl _)])
  rcases this with ⟨h1, h2⟩ | ⟨⟨j, h1⟩, h2⟩
  · exact .inl ⟨h1, h2⟩
  · exact .inr ⟨h1, h2⟩
theorem k52_eq : ∀ (n : Nat) (t : GT), SizeOf.sizeOf t < n → okT t → k52 t = some ((rightT t, ()), ())
  | 0, t, h, _ => by omega
  | n + 1, t, h, ho => by
    obtain ⟨h1, h2⟩ := okT_kids ho
    have IH : ∀ x ∈ t.kids, k52 x = some ((rightT x, ()), ()) := fun x hx => k52_eq n x (by have := GT.kids_lt hx; omega) (h2 x hx)
    rw [k52, rightT_eq]
    rcases k52_loop t h1 IH with ⟨e, e2⟩ | ⟨e, e2⟩
    · rw [e, e2]
      simp only [Option.bind_eq_bind, Option.bind_some, k51_eq _ (okT_life ho), rightT1, Bool.true_and]
      generalize eqI t.kind 4 = b4
      generalize nameB t.life = bn
      generalize (t.kids.length : Int) = n
      generalize eqS t.life _ = bl
      generalize t.mu = bm
      generalize eqI t.kind 1 = b1
      generalize eqI t.kind 2 = b2
      generalize eqI t.kind 3 = b3
      generalize eqI n 0 = n0
      generalize eqI n 1 = n1
      generalize leI 2 n = n2
      cases b4 with
      | true => cases bn <;> rfl
      | false => cases bl <;> cases bm <;> cases b1 <;> cases b2 <;> cases b3 <;> cases n0 <;> cases n1 <;> cases n2 <;> rfl
    · rw [e, e2]
      rfl
end Go.Lb.R
end
section
namespace Go.Lb.R
open Go.Lb
theorem leI_neg : leI 0 (-1) = false := rfl
theorem leI_nat (j : Nat) : leI 0 (j : Int) = true := decide_eq_true (by omega)
theorem k71_loop (l : List GT) (hl : l.length ≤ MX) (IH : ∀ x ∈ l, k71 x = some ((rightT x, ()), ())) : (k71_0 l (l.length : Int) 0 = some (Sum.inl ((), ((), ()), ())) ∧ l.all rightT = true) ∨ ((∃ j : Nat, k71_0 l (l.length : Int) 0 = some (Sum.inr (((j : Int), ()), ((), ()), ()))) ∧ l.all rightT = false) := by
  have := loop_all0 (l := l) (p := rightT) (L := fun i => k71_0 l (l.length : Int) (i : Int)) (good := Sum.inl ((), ((), ()), ())) (bad := fun j => Sum.inr (((j : Int), ()), ((), ()), ()))
    (fun i hi => by
      rw [k71_0, ltI_true hi]
      simp only [idx_nat hi, Option.bind_eq_bind, Option.bind_some, nf_eq, w64_succ hl hi, IH _ (List.getElem_mem hi)]
      cases rightT l[i] <;> rfl)
    (by rw [k71_0, ltI_false (Nat.lt_irrefl _)])
  exact this
theorem w1 : w64 0 = 0 := by decide
theorem w2 : w64 1 = 1 := by decide
theorem w3 : w64 2 = 2 := by decide
theorem w4 : w64 3 = 3 := by decide
theorem k71_eq : ∀ (n : Nat) (t : GT), SizeOf.sizeOf t < n → okT t → k71 t = some ((rightT t, ()), ())
  | 0, t, h, _ => by omega
  | n + 1, t, h, ho => by
    obtain ⟨h1, h2⟩ := okT_kids ho
    have IH : ∀ x ∈ t.kids, k71 x = some ((rightT x, ()), ()) := fun x hx => k71_eq n x (by have := GT.kids_lt hx; omega) (h2 x hx)
    have hlp := k71_loop t.kids h1 IH
    rw [k71, rightT_eq]
    simp only [Option.bind_eq_bind, k70_eq _ (okT_life ho), Option.bind_some, rightT1]
    have hn : (t.kids.length : Int) = 0 ∨ (t.kids.length : Int) = 1 ∨ (2 ≤ (t.kids.length : Int) ∧ (t.kids.length : Int) ≤ 30) ∨ 30 < (t.kids.length : Int) := by omega
    generalize (t.kids.length : Int) = n at *
    generalize t.kids.all rightT = ba at *
    generalize k71_0 t.kids n 0 = X at *
    generalize nameB t.life = bn
    generalize eqS t.life _ = bl
    generalize t.mu = bm
    generalize t.kind = k at *
    by_cases hk : k = 1 ∨ k = 2 ∨ k = 3 ∨ k = 4
    · rcases hk with rfl | rfl | rfl | rfl <;> rcases hn with rfl | rfl | ⟨ha, hb⟩ | ha
      all_goals first
        | (have a0 : ¬ n = 0 := by omega
           have a1 : ¬ n = 1 := by omega
           have a2 : (2 : Int) ≤ n := by omega
           have a3 : ¬ n ≤ 30 := by omega
           cases bl <;> cases bm <;> cases bn <;> rcases hlp with ⟨rfl, rfl⟩ | ⟨⟨j, rfl⟩, rfl⟩ <;> simp [eqI, leI, w1, w2, w3, w4, a0, a1, a2, a3])
        | (have a0 : ¬ n = 0 := by omega
           have a1 : ¬ n = 1 := by omega
           have a2 : (2 : Int) ≤ n := by omega
           have a3 : n ≤ 30 := by omega
           cases bl <;> cases bm <;> cases bn <;> rcases hlp with ⟨rfl, rfl⟩ | ⟨⟨j, rfl⟩, rfl⟩ <;> simp [eqI, leI, w1, w2, w3, w4, a0, a1, a2, a3])
        | (cases bl <;> cases bm <;> cases bn <;> rcases hlp with ⟨rfl, rfl⟩ | ⟨⟨j, rfl⟩, rfl⟩ <;> simp [eqI, leI, w1, w2, w3, w4])
    · have a1 : ¬ k = 1 := fun e => hk (.inl e)
      have a2 : ¬ k = 2 := fun e => hk (.inr (.inl e))
      have a3 : ¬ k = 3 := fun e => hk (.inr (.inr (.inl e)))
      have a4 : ¬ k = 4 := fun e => hk (.inr (.inr (.inr e)))
      have a5 : (leI 1 k && leI k 4) = false := by
        simp only [leI, Bool.and_eq_false_iff, decide_eq_false_iff_not]
        omega
      have e1 : eqI k 1 = false := decide_eq_false a1
      have e2 : eqI k 2 = false := decide_eq_false a2
      have e3 : eqI k 3 = false := decide_eq_false a3
      have e4 : eqI k 4 = false := decide_eq_false a4
      simp only [e1, e2, e3, e4]
      cases h1 : leI 1 k <;> cases h4 : leI k 4
      · cases bl <;> cases bm <;> cases eqI n 1 <;> simp
      · cases bl <;> cases bm <;> cases eqI n 1 <;> simp
      · cases bl <;> cases bm <;> cases eqI n 1 <;> simp
      · rw [h1, h4] at a5; cases a5
end Go.Lb.R
end
section
namespace Go.Lb.R
open Go.Lb
abbrev sLt : Str := Array.toList (ByteArray.data { data := #[60] })
abbrev sEq : Str := Array.toList (ByteArray.data { data := #[61, 61] })
abbrev sAdd : Str := Array.toList (ByteArray.data { data := #[43] })
abbrev sSub : Str := Array.toList (ByteArray.data { data := #[45] })
abbrev sMul : Str := Array.toList (ByteArray.data { data := #[42] })
abbrev sDiv : Str := Array.toList (ByteArray.data { data := #[47] })
def strE (e : GE) : Int :=
  bif eqI e.kind 8 then (bif eqS e.name sLt || eqS e.name sEq then 1 else bif eqS e.name sAdd || eqS e.name sSub then 2 else bif eqS e.name sMul || eqS e.name sDiv then 3 else 4) else 4
theorem k92_eq (e : GE) : k92 e = some ((strE e, ()), ()) := by
  rw [k92]
  unfold strE
  cases eqI e.kind 8 <;> cases eqS e.name sLt <;> cases eqS e.name sEq <;> cases eqS e.name sAdd <;> cases eqS e.name sSub <;> cases eqS e.name sMul <;> cases eqS e.name sDiv <;> rfl
theorem k140_eq (e : GE) : k140 e = some ((strE e, ()), ()) := by
  rw [k140]
  unfold strE
  cases eqI e.kind 8 <;> cases eqS e.name sLt <;> cases eqS e.name sEq <;> cases eqS e.name sAdd <;> cases eqS e.name sSub <;> cases eqS e.name sMul <;> cases eqS e.name sDiv <;> rfl
theorem strE_range (e : GE) : strE e = 1 ∨ strE e = 2 ∨ strE e = 3 ∨ strE e = 4 := by
  unfold strE
  cases eqI e.kind 8 <;> cases eqS e.name sLt <;> cases eqS e.name sEq <;> cases eqS e.name sAdd <;> cases eqS e.name sSub <;> cases eqS e.name sMul <;> cases eqS e.name sDiv <;> simp
def placeB (e : GE) : Bool := eqI e.kind 2 || (eqI e.kind 3 || eqI e.kind 4)
theorem k91_eq (e : GE) : k91 e = some ((placeB e, ()), ()) := by
  rw [k91]
  unfold placeB
  cases eqI e.kind 2 <;> cases eqI e.kind 3 <;> rfl
theorem k113_eq (e : GE) : k113 e = some ((placeB e, ()), ()) := by
  rw [k113]
  have : placeB e = (leI 2 e.kind && leI e.kind 4) := by
    unfold placeB
    rw [Bool.eq_iff_iff]
    simp only [eqI, leI, Bool.or_eq_true, Bool.and_eq_true, decide_eq_true_eq]
    omega
  rw [this]
  cases leI 2 e.kind <;> rfl
def noneB (e : GE) : Bool := eqI e.kind 0 && (eqI e.num 0 && (eqS e.name nilS && (!e.mu && eqI (e.kids.length : Int) 0)))
theorem k125_eq (e : GE) : k125 e = some ((noneB e, ()), ()) := by
  rw [k125]
  unfold noneB
  cases eqI e.kind 0 <;> cases eqI e.num 0 <;> cases eqS e.name nilS <;> cases e.mu <;> rfl
theorem k112_eq (e : GE) : k112 e = some ((noneB e, ()), ()) := by
  rw [k112]
  unfold noneB
  cases eqI e.kind 0 <;> cases eqI e.num 0 <;> cases eqS e.name nilS <;> cases e.mu <;> rfl
def kid0 (e : GE) : Bool := match e.kids with | [] => false | x :: _ => placeB x
def right1 (e : GE) : Bool :=
  let n : Int := e.kids.length
  bif eqI e.kind 1 then leI 0 e.num && (leI e.num 999999999999999999 && (eqS e.name nilS && (!e.mu && eqI n 0)))
  else bif eqI e.kind 2 then eqI e.num 0 && (nameB e.name && (!e.mu && eqI n 0))
  else bif eqI e.kind 3 then leI 0 e.num && (ltI e.num 30 && (eqS e.name nilS && (!e.mu && (eqI n 1 && kid0 e))))
  else bif eqI e.kind 4 then eqI e.num 0 && (eqS e.name nilS && (!e.mu && (eqI n 1 && kid0 e)))
  else bif eqI e.kind 5 then eqI e.num 0 && (eqS e.name nilS && (eqI n 1 && kid0 e))
  else bif eqI e.kind 6 then eqI e.num 0 && (eqS e.name nilS && (!e.mu && eqI n 1))
  else bif eqI e.kind 7 then eqI e.num 0 && (eqS e.name nilS && (!e.mu && (leI 2 n && leI n 30)))
  else bif eqI e.kind 8 then eqI e.num 0 && (!e.mu && (eqI n 2 && ltI (strE e) 4))
  else bif eqI e.kind 9 then eqI e.num 0 && (!e.mu && (leI n 30 && nameB e.name))
  else false
mutual
def rightE : GE → Bool
  | .mk k n s m ks => rightEs ks && right1 (.mk k n s m ks)
def rightEs : List GE → Bool
  | [] => true
  | t :: r => rightE t && rightEs r
end
theorem rightEs_all : ∀ l : List GE, rightEs l = l.all rightE
  | [] => rfl
  | t :: r => by simp only [rightEs, List.all_cons, rightEs_all r]
theorem rightE_eq (t : GE) : rightE t = (t.kids.all rightE && right1 t) := by
  cases t
  simp only [rightE, rightEs_all]
  rfl
theorem k56_loop (t : GE) (hl : t.kids.length ≤ MX) (IH : ∀ x ∈ t.kids, k56 x = some ((rightE x, ()), ())) : (k56_0 t 0 = some (Sum.inl ((), ())) ∧ t.kids.all rightE = true) ∨ (k56_0 t 0 = some (Sum.inr ((false, ()), ())) ∧ t.kids.all rightE = false) := by
  have := loop_all0 (l := t.kids) (p := rightE) (L := fun i => k56_0 t (i : Int)) (good := Sum.inl ((), ())) (bad := fun j => Sum.inr ((false, ()), ()))
    (fun i hi => by
      rw [k56_0, ltI_true hi]
      simp only [idx_nat hi, Option.bind_eq_bind, Option.bind_some, nf_eq, w64_succ hl hi, IH _ (List.getElem_mem hi)]
      cases rightE t.kids[i] <;> rfl)
    (by rw [k56_0, ltI_false (Nat.lt_irrefl _)])
  rcases this with ⟨h1, h2⟩ | ⟨⟨j, h1⟩, h2⟩
  · exact .inl ⟨h1, h2⟩
  · exact .inr ⟨h1, h2⟩
theorem kid0_one {e : GE} (h : eqI (e.kids.length : Int) 1 = true) : ∃ x, idx e.kids 0 = some x ∧ kid0 e = placeB x := by
  have h' : (e.kids.length : Int) = 1 := of_decide_eq_true h
  unfold kid0
  match hk : e.kids with
  | [] => rw [hk] at h'; simp at h'
  | x :: r => exact ⟨x, rfl, rfl⟩
theorem k56_eq : ∀ (n : Nat) (t : GE), SizeOf.sizeOf t < n → okE t → k56 t = some ((rightE t, ()), ())
  | 0, t, h, _ => by omega
  | n + 1, t, h, ho => by
    obtain ⟨h1, h2⟩ := okE_kids ho
    have IH : ∀ x ∈ t.kids, k56 x = some ((rightE x, ()), ()) := fun x hx => k56_eq n x (by have := GE.kids_lt hx; omega) (h2 x hx)
    rw [k56, rightE_eq]
    rcases k56_loop t h1 IH with ⟨e, e2⟩ | ⟨e, e2⟩
    · rw [e, e2]
      have hk0 := @kid0_one t
      simp only [Option.bind_eq_bind, Option.bind_some, k51_eq _ (okE_name ho), k92_eq, k91_eq, right1, Bool.true_and]
      generalize kid0 t = bk at *
      generalize idx t.kids 0 = ik at *
      generalize (t.kids.length : Int) = n at *
      generalize nameB t.name = bn
      generalize eqS t.name _ = bl
      generalize t.mu = bm
      generalize strE t = st
      generalize t.num = nu
      cases eqI t.kind 1
      · cases eqI t.kind 2
        · cases eqI t.kind 3
          · cases eqI t.kind 4
            · cases eqI t.kind 5
              · cases eqI t.kind 6
                · cases eqI t.kind 7
                  · cases eqI t.kind 8
                    · cases eqI t.kind 9
                      · rfl
                      · cases eqI nu 0 <;> cases bm <;> cases leI n 30 <;> rfl
                    · cases eqI nu 0 <;> cases bm <;> cases eqI n 2 <;> rfl
                  · cases eqI nu 0 <;> cases bl <;> cases bm <;> cases leI 2 n <;> rfl
                · cases eqI nu 0 <;> cases bl <;> cases bm <;> rfl
              · cases eqI nu 0 <;> cases bl <;> cases h : eqI n 1 <;> first | rfl | (obtain ⟨x, rfl, rfl⟩ := hk0 h; rfl)
            · cases eqI nu 0 <;> cases bl <;> cases bm <;> cases h : eqI n 1 <;> first | rfl | (obtain ⟨x, rfl, rfl⟩ := hk0 h; rfl)
          · cases leI 0 nu <;> cases ltI nu 30 <;> cases bl <;> cases bm <;> cases h : eqI n 1 <;> first | rfl | (obtain ⟨x, rfl, rfl⟩ := hk0 h; rfl)
        · cases eqI nu 0 <;> cases bn <;> cases bm <;> rfl
      · cases leI 0 nu <;> cases leI nu 999999999999999999 <;> cases bl <;> cases bm <;> rfl
    · rw [e, e2]
      rfl
end Go.Lb.R
end
section
namespace Go.Lb.R
open Go.Lb
theorem w0 : w64 0 = 0 := by decide
theorem k77_loop (l : List GE) (hl : l.length ≤ MX) (IH : ∀ x ∈ l, k77 x = some ((rightE x, ()), ())) : (k77_0 l (l.length : Int) 0 = some (Sum.inl ((), ((), ()), ())) ∧ l.all rightE = true) ∨ ((∃ j : Nat, k77_0 l (l.length : Int) 0 = some (Sum.inr (((j : Int), ()), ((), ()), ()))) ∧ l.all rightE = false) := by
  have := loop_all0 (l := l) (p := rightE) (L := fun i => k77_0 l (l.length : Int) (i : Int)) (good := Sum.inl ((), ((), ()), ())) (bad := fun j => Sum.inr (((j : Int), ()), ((), ()), ()))
    (fun i hi => by
      rw [k77_0, ltI_true hi]
      simp only [idx_nat hi, Option.bind_eq_bind, Option.bind_some, nf_eq, w64_succ hl hi, IH _ (List.getElem_mem hi)]
      cases rightE l[i] <;> rfl)
    (by rw [k77_0, ltI_false (Nat.lt_irrefl _)])
  exact this
theorem k137_eq {e : GE} (h : (e.kids.length : Int) = 1) : k137 e = some ((kid0 e, ()), ()) := by
  obtain ⟨x, h1, h2⟩ := kid0_one (e := e) (decide_eq_true h)
  rw [k137, h1, h2]
  simp only [Option.bind_eq_bind, Option.bind_some, k113_eq]
set_option maxHeartbeats 1000000 in
theorem k77_eq : ∀ (n : Nat) (t : GE), SizeOf.sizeOf t < n → okE t → k77 t = some ((rightE t, ()), ())
  | 0, t, h, _ => by omega
  | n + 1, t, h, ho => by
    obtain ⟨h1, h2⟩ := okE_kids ho
    have IH : ∀ x ∈ t.kids, k77 x = some ((rightE x, ()), ()) := fun x hx => k77_eq n x (by have := GE.kids_lt hx; omega) (h2 x hx)
    have hlp := k77_loop t.kids h1 IH
    have h137 := @k137_eq t
    rw [k77, rightE_eq]
    simp only [Option.bind_eq_bind, k70_eq _ (okE_name ho), k140_eq, Option.bind_some, right1]
    generalize k137 t = K at *
    generalize kid0 t = bk at *
    have hn : (t.kids.length : Int) = 0 ∨ (t.kids.length : Int) = 1 ∨ (t.kids.length : Int) = 2 ∨ (3 ≤ (t.kids.length : Int) ∧ (t.kids.length : Int) ≤ 30) ∨ 30 < (t.kids.length : Int) := by omega
    generalize (t.kids.length : Int) = n at *
    generalize t.kids.all rightE = ba at *
    generalize k77_0 t.kids n 0 = X at *
    generalize nameB t.name = bn
    generalize eqS t.name _ = bl
    generalize t.mu = bm
    generalize strE t = st
    generalize t.num = nu
    generalize t.kind = k at *
    have e18 : ltI nu 1000000000000000000 = leI nu 999999999999999999 := by
      simp only [ltI, leI]
      by_cases h : nu ≤ 999999999999999999
      · rw [decide_eq_true h, decide_eq_true (by omega)]
      · rw [decide_eq_false h, decide_eq_false (by omega)]
    rw [e18]
    generalize leI 0 nu = c0
    generalize leI nu 999999999999999999 = c1
    generalize ltI nu 30 = c2
    generalize eqI nu 0 = c3
    generalize ltI st 4 = c4
    by_cases hk : k = 1 ∨ k = 2 ∨ k = 3 ∨ k = 4 ∨ k = 5 ∨ k = 6 ∨ k = 7 ∨ k = 8 ∨ k = 9
    · rcases hlp with ⟨rfl, rfl⟩ | ⟨⟨j, rfl⟩, rfl⟩ <;> rcases hk with rfl | rfl | rfl | rfl | rfl | rfl | rfl | rfl | rfl
      · rcases hn with rfl | rfl | rfl | hn | hn
        · cases c0 <;> cases c1 <;> cases bl <;> cases bm <;> rfl
        · have hK := h137 rfl
          subst hK
          cases c0 <;> cases c1 <;> cases bl <;> cases bm <;> rfl
        · cases c0 <;> cases c1 <;> cases bl <;> cases bm <;> rfl
        · have g0 : ltI n 0 = false := decide_eq_false (by omega)
          have g1 : ltI 0 n = true := decide_eq_true (by omega)
          have g2 : ltI n 1 = false := decide_eq_false (by omega)
          have g3 : ltI 1 n = true := decide_eq_true (by omega)
          have g4 : ltI n 2 = false := decide_eq_false (by omega)
          have g5 : ltI 2 n = true := decide_eq_true (by omega)
          have g6 : eqI n 0 = false := decide_eq_false (by omega)
          have g7 : eqI n 1 = false := decide_eq_false (by omega)
          have g8 : eqI n 2 = false := decide_eq_false (by omega)
          have g9 : leI 2 n = true := decide_eq_true (by omega)
          have g10 : leI n 30 = true := decide_eq_true (by omega)
          have g11 : ltI 30 n = false := decide_eq_false (by omega)
          simp only [g0, g1, g2, g3, g4, g5, g6, g7, g8, g9, g10, g11]
          cases c0 <;> cases c1 <;> cases bl <;> cases bm <;> rfl
        · have g0 : ltI n 0 = false := decide_eq_false (by omega)
          have g1 : ltI 0 n = true := decide_eq_true (by omega)
          have g2 : ltI n 1 = false := decide_eq_false (by omega)
          have g3 : ltI 1 n = true := decide_eq_true (by omega)
          have g4 : ltI n 2 = false := decide_eq_false (by omega)
          have g5 : ltI 2 n = true := decide_eq_true (by omega)
          have g6 : eqI n 0 = false := decide_eq_false (by omega)
          have g7 : eqI n 1 = false := decide_eq_false (by omega)
          have g8 : eqI n 2 = false := decide_eq_false (by omega)
          have g9 : leI 2 n = true := decide_eq_true (by omega)
          have g10 : leI n 30 = false := decide_eq_false (by omega)
          have g11 : ltI 30 n = true := decide_eq_true (by omega)
          simp only [g0, g1, g2, g3, g4, g5, g6, g7, g8, g9, g10, g11]
          cases c0 <;> cases c1 <;> cases bl <;> cases bm <;> rfl
      · rcases hn with rfl | rfl | rfl | hn | hn
        · cases c3 <;> cases bn <;> cases bm <;> rfl
        · have hK := h137 rfl
          subst hK
          cases c3 <;> cases bn <;> cases bm <;> rfl
        · cases c3 <;> cases bn <;> cases bm <;> rfl
        · have g0 : ltI n 0 = false := decide_eq_false (by omega)
          have g1 : ltI 0 n = true := decide_eq_true (by omega)
          have g2 : ltI n 1 = false := decide_eq_false (by omega)
          have g3 : ltI 1 n = true := decide_eq_true (by omega)
          have g4 : ltI n 2 = false := decide_eq_false (by omega)
          have g5 : ltI 2 n = true := decide_eq_true (by omega)
          have g6 : eqI n 0 = false := decide_eq_false (by omega)
          have g7 : eqI n 1 = false := decide_eq_false (by omega)
          have g8 : eqI n 2 = false := decide_eq_false (by omega)
          have g9 : leI 2 n = true := decide_eq_true (by omega)
          have g10 : leI n 30 = true := decide_eq_true (by omega)
          have g11 : ltI 30 n = false := decide_eq_false (by omega)
          simp only [g0, g1, g2, g3, g4, g5, g6, g7, g8, g9, g10, g11]
          cases c3 <;> cases bn <;> cases bm <;> rfl
        · have g0 : ltI n 0 = false := decide_eq_false (by omega)
          have g1 : ltI 0 n = true := decide_eq_true (by omega)
          have g2 : ltI n 1 = false := decide_eq_false (by omega)
          have g3 : ltI 1 n = true := decide_eq_true (by omega)
          have g4 : ltI n 2 = false := decide_eq_false (by omega)
          have g5 : ltI 2 n = true := decide_eq_true (by omega)
          have g6 : eqI n 0 = false := decide_eq_false (by omega)
          have g7 : eqI n 1 = false := decide_eq_false (by omega)
          have g8 : eqI n 2 = false := decide_eq_false (by omega)
          have g9 : leI 2 n = true := decide_eq_true (by omega)
          have g10 : leI n 30 = false := decide_eq_false (by omega)
          have g11 : ltI 30 n = true := decide_eq_true (by omega)
          simp only [g0, g1, g2, g3, g4, g5, g6, g7, g8, g9, g10, g11]
          cases c3 <;> cases bn <;> cases bm <;> rfl
      · rcases hn with rfl | rfl | rfl | hn | hn
        · cases c0 <;> cases c2 <;> cases bl <;> cases bm <;> cases bk <;> rfl
        · have hK := h137 rfl
          subst hK
          cases c0 <;> cases c2 <;> cases bl <;> cases bm <;> cases bk <;> rfl
        · cases c0 <;> cases c2 <;> cases bl <;> cases bm <;> cases bk <;> rfl
        · have g0 : ltI n 0 = false := decide_eq_false (by omega)
          have g1 : ltI 0 n = true := decide_eq_true (by omega)
          have g2 : ltI n 1 = false := decide_eq_false (by omega)
          have g3 : ltI 1 n = true := decide_eq_true (by omega)
          have g4 : ltI n 2 = false := decide_eq_false (by omega)
          have g5 : ltI 2 n = true := decide_eq_true (by omega)
          have g6 : eqI n 0 = false := decide_eq_false (by omega)
          have g7 : eqI n 1 = false := decide_eq_false (by omega)
          have g8 : eqI n 2 = false := decide_eq_false (by omega)
          have g9 : leI 2 n = true := decide_eq_true (by omega)
          have g10 : leI n 30 = true := decide_eq_true (by omega)
          have g11 : ltI 30 n = false := decide_eq_false (by omega)
          simp only [g0, g1, g2, g3, g4, g5, g6, g7, g8, g9, g10, g11]
          cases c0 <;> cases c2 <;> cases bl <;> cases bm <;> cases bk <;> rfl
        · have g0 : ltI n 0 = false := decide_eq_false (by omega)
          have g1 : ltI 0 n = true := decide_eq_true (by omega)
          have g2 : ltI n 1 = false := decide_eq_false (by omega)
          have g3 : ltI 1 n = true := decide_eq_true (by omega)
          have g4 : ltI n 2 = false := decide_eq_false (by omega)
          have g5 : ltI 2 n = true := decide_eq_true (by omega)
          have g6 : eqI n 0 = false := decide_eq_false (by omega)
          have g7 : eqI n 1 = false := decide_eq_false (by omega)
          have g8 : eqI n 2 = false := decide_eq_false (by omega)
          have g9 : leI 2 n = true := decide_eq_true (by omega)
          have g10 : leI n 30 = false := decide_eq_false (by omega)
          have g11 : ltI 30 n = true := decide_eq_true (by omega)
          simp only [g0, g1, g2, g3, g4, g5, g6, g7, g8, g9, g10, g11]
          cases c0 <;> cases c2 <;> cases bl <;> cases bm <;> cases bk <;> rfl
      · rcases hn with rfl | rfl | rfl | hn | hn
        · cases c3 <;> cases bl <;> cases bm <;> cases bk <;> rfl
        · have hK := h137 rfl
          subst hK
          cases c3 <;> cases bl <;> cases bm <;> cases bk <;> rfl
        · cases c3 <;> cases bl <;> cases bm <;> cases bk <;> rfl
        · have g0 : ltI n 0 = false := decide_eq_false (by omega)
          have g1 : ltI 0 n = true := decide_eq_true (by omega)
          have g2 : ltI n 1 = false := decide_eq_false (by omega)
          have g3 : ltI 1 n = true := decide_eq_true (by omega)
          have g4 : ltI n 2 = false := decide_eq_false (by omega)
          have g5 : ltI 2 n = true := decide_eq_true (by omega)
          have g6 : eqI n 0 = false := decide_eq_false (by omega)
          have g7 : eqI n 1 = false := decide_eq_false (by omega)
          have g8 : eqI n 2 = false := decide_eq_false (by omega)
          have g9 : leI 2 n = true := decide_eq_true (by omega)
          have g10 : leI n 30 = true := decide_eq_true (by omega)
          have g11 : ltI 30 n = false := decide_eq_false (by omega)
          simp only [g0, g1, g2, g3, g4, g5, g6, g7, g8, g9, g10, g11]
          cases c3 <;> cases bl <;> cases bm <;> cases bk <;> rfl
        · have g0 : ltI n 0 = false := decide_eq_false (by omega)
          have g1 : ltI 0 n = true := decide_eq_true (by omega)
          have g2 : ltI n 1 = false := decide_eq_false (by omega)
          have g3 : ltI 1 n = true := decide_eq_true (by omega)
          have g4 : ltI n 2 = false := decide_eq_false (by omega)
          have g5 : ltI 2 n = true := decide_eq_true (by omega)
          have g6 : eqI n 0 = false := decide_eq_false (by omega)
          have g7 : eqI n 1 = false := decide_eq_false (by omega)
          have g8 : eqI n 2 = false := decide_eq_false (by omega)
          have g9 : leI 2 n = true := decide_eq_true (by omega)
          have g10 : leI n 30 = false := decide_eq_false (by omega)
          have g11 : ltI 30 n = true := decide_eq_true (by omega)
          simp only [g0, g1, g2, g3, g4, g5, g6, g7, g8, g9, g10, g11]
          cases c3 <;> cases bl <;> cases bm <;> cases bk <;> rfl
      · rcases hn with rfl | rfl | rfl | hn | hn
        · cases c3 <;> cases bl <;> cases bk <;> rfl
        · have hK := h137 rfl
          subst hK
          cases c3 <;> cases bl <;> cases bk <;> rfl
        · cases c3 <;> cases bl <;> cases bk <;> rfl
        · have g0 : ltI n 0 = false := decide_eq_false (by omega)
          have g1 : ltI 0 n = true := decide_eq_true (by omega)
          have g2 : ltI n 1 = false := decide_eq_false (by omega)
          have g3 : ltI 1 n = true := decide_eq_true (by omega)
          have g4 : ltI n 2 = false := decide_eq_false (by omega)
          have g5 : ltI 2 n = true := decide_eq_true (by omega)
          have g6 : eqI n 0 = false := decide_eq_false (by omega)
          have g7 : eqI n 1 = false := decide_eq_false (by omega)
          have g8 : eqI n 2 = false := decide_eq_false (by omega)
          have g9 : leI 2 n = true := decide_eq_true (by omega)
          have g10 : leI n 30 = true := decide_eq_true (by omega)
          have g11 : ltI 30 n = false := decide_eq_false (by omega)
          simp only [g0, g1, g2, g3, g4, g5, g6, g7, g8, g9, g10, g11]
          cases c3 <;> cases bl <;> cases bk <;> rfl
        · have g0 : ltI n 0 = false := decide_eq_false (by omega)
          have g1 : ltI 0 n = true := decide_eq_true (by omega)
          have g2 : ltI n 1 = false := decide_eq_false (by omega)
          have g3 : ltI 1 n = true := decide_eq_true (by omega)
          have g4 : ltI n 2 = false := decide_eq_false (by omega)
          have g5 : ltI 2 n = true := decide_eq_true (by omega)
          have g6 : eqI n 0 = false := decide_eq_false (by omega)
          have g7 : eqI n 1 = false := decide_eq_false (by omega)
          have g8 : eqI n 2 = false := decide_eq_false (by omega)
          have g9 : leI 2 n = true := decide_eq_true (by omega)
          have g10 : leI n 30 = false := decide_eq_false (by omega)
          have g11 : ltI 30 n = true := decide_eq_true (by omega)
          simp only [g0, g1, g2, g3, g4, g5, g6, g7, g8, g9, g10, g11]
          cases c3 <;> cases bl <;> cases bk <;> rfl
      · rcases hn with rfl | rfl | rfl | hn | hn
        · cases c3 <;> cases bl <;> cases bm <;> rfl
        · have hK := h137 rfl
          subst hK
          cases c3 <;> cases bl <;> cases bm <;> rfl
        · cases c3 <;> cases bl <;> cases bm <;> rfl
        · have g0 : ltI n 0 = false := decide_eq_false (by omega)
          have g1 : ltI 0 n = true := decide_eq_true (by omega)
          have g2 : ltI n 1 = false := decide_eq_false (by omega)
          have g3 : ltI 1 n = true := decide_eq_true (by omega)
          have g4 : ltI n 2 = false := decide_eq_false (by omega)
          have g5 : ltI 2 n = true := decide_eq_true (by omega)
          have g6 : eqI n 0 = false := decide_eq_false (by omega)
          have g7 : eqI n 1 = false := decide_eq_false (by omega)
          have g8 : eqI n 2 = false := decide_eq_false (by omega)
          have g9 : leI 2 n = true := decide_eq_true (by omega)
          have g10 : leI n 30 = true := decide_eq_true (by omega)
          have g11 : ltI 30 n = false := decide_eq_false (by omega)
          simp only [g0, g1, g2, g3, g4, g5, g6, g7, g8, g9, g10, g11]
          cases c3 <;> cases bl <;> cases bm <;> rfl
        · have g0 : ltI n 0 = false := decide_eq_false (by omega)
          have g1 : ltI 0 n = true := decide_eq_true (by omega)
          have g2 : ltI n 1 = false := decide_eq_false (by omega)
          have g3 : ltI 1 n = true := decide_eq_true (by omega)
          have g4 : ltI n 2 = false := decide_eq_false (by omega)
          have g5 : ltI 2 n = true := decide_eq_true (by omega)
          have g6 : eqI n 0 = false := decide_eq_false (by omega)
          have g7 : eqI n 1 = false := decide_eq_false (by omega)
          have g8 : eqI n 2 = false := decide_eq_false (by omega)
          have g9 : leI 2 n = true := decide_eq_true (by omega)
          have g10 : leI n 30 = false := decide_eq_false (by omega)
          have g11 : ltI 30 n = true := decide_eq_true (by omega)
          simp only [g0, g1, g2, g3, g4, g5, g6, g7, g8, g9, g10, g11]
          cases c3 <;> cases bl <;> cases bm <;> rfl
      · rcases hn with rfl | rfl | rfl | hn | hn
        · cases c3 <;> cases bl <;> cases bm <;> rfl
        · have hK := h137 rfl
          subst hK
          cases c3 <;> cases bl <;> cases bm <;> rfl
        · cases c3 <;> cases bl <;> cases bm <;> rfl
        · have g0 : ltI n 0 = false := decide_eq_false (by omega)
          have g1 : ltI 0 n = true := decide_eq_true (by omega)
          have g2 : ltI n 1 = false := decide_eq_false (by omega)
          have g3 : ltI 1 n = true := decide_eq_true (by omega)
          have g4 : ltI n 2 = false := decide_eq_false (by omega)
          have g5 : ltI 2 n = true := decide_eq_true (by omega)
          have g6 : eqI n 0 = false := decide_eq_false (by omega)
          have g7 : eqI n 1 = false := decide_eq_false (by omega)
          have g8 : eqI n 2 = false := decide_eq_false (by omega)
          have g9 : leI 2 n = true := decide_eq_true (by omega)
          have g10 : leI n 30 = true := decide_eq_true (by omega)
          have g11 : ltI 30 n = false := decide_eq_false (by omega)
          simp only [g0, g1, g2, g3, g4, g5, g6, g7, g8, g9, g10, g11]
          cases c3 <;> cases bl <;> cases bm <;> rfl
        · have g0 : ltI n 0 = false := decide_eq_false (by omega)
          have g1 : ltI 0 n = true := decide_eq_true (by omega)
          have g2 : ltI n 1 = false := decide_eq_false (by omega)
          have g3 : ltI 1 n = true := decide_eq_true (by omega)
          have g4 : ltI n 2 = false := decide_eq_false (by omega)
          have g5 : ltI 2 n = true := decide_eq_true (by omega)
          have g6 : eqI n 0 = false := decide_eq_false (by omega)
          have g7 : eqI n 1 = false := decide_eq_false (by omega)
          have g8 : eqI n 2 = false := decide_eq_false (by omega)
          have g9 : leI 2 n = true := decide_eq_true (by omega)
          have g10 : leI n 30 = false := decide_eq_false (by omega)
          have g11 : ltI 30 n = true := decide_eq_true (by omega)
          simp only [g0, g1, g2, g3, g4, g5, g6, g7, g8, g9, g10, g11]
          cases c3 <;> cases bl <;> cases bm <;> rfl
      · rcases hn with rfl | rfl | rfl | hn | hn
        · cases c3 <;> cases bm <;> cases c4 <;> rfl
        · have hK := h137 rfl
          subst hK
          cases c3 <;> cases bm <;> cases c4 <;> rfl
        · cases c3 <;> cases bm <;> cases c4 <;> rfl
        · have g0 : ltI n 0 = false := decide_eq_false (by omega)
          have g1 : ltI 0 n = true := decide_eq_true (by omega)
          have g2 : ltI n 1 = false := decide_eq_false (by omega)
          have g3 : ltI 1 n = true := decide_eq_true (by omega)
          have g4 : ltI n 2 = false := decide_eq_false (by omega)
          have g5 : ltI 2 n = true := decide_eq_true (by omega)
          have g6 : eqI n 0 = false := decide_eq_false (by omega)
          have g7 : eqI n 1 = false := decide_eq_false (by omega)
          have g8 : eqI n 2 = false := decide_eq_false (by omega)
          have g9 : leI 2 n = true := decide_eq_true (by omega)
          have g10 : leI n 30 = true := decide_eq_true (by omega)
          have g11 : ltI 30 n = false := decide_eq_false (by omega)
          simp only [g0, g1, g2, g3, g4, g5, g6, g7, g8, g9, g10, g11]
          cases c3 <;> cases bm <;> cases c4 <;> rfl
        · have g0 : ltI n 0 = false := decide_eq_false (by omega)
          have g1 : ltI 0 n = true := decide_eq_true (by omega)
          have g2 : ltI n 1 = false := decide_eq_false (by omega)
          have g3 : ltI 1 n = true := decide_eq_true (by omega)
          have g4 : ltI n 2 = false := decide_eq_false (by omega)
          have g5 : ltI 2 n = true := decide_eq_true (by omega)
          have g6 : eqI n 0 = false := decide_eq_false (by omega)
          have g7 : eqI n 1 = false := decide_eq_false (by omega)
          have g8 : eqI n 2 = false := decide_eq_false (by omega)
          have g9 : leI 2 n = true := decide_eq_true (by omega)
          have g10 : leI n 30 = false := decide_eq_false (by omega)
          have g11 : ltI 30 n = true := decide_eq_true (by omega)
          simp only [g0, g1, g2, g3, g4, g5, g6, g7, g8, g9, g10, g11]
          cases c3 <;> cases bm <;> cases c4 <;> rfl
      · rcases hn with rfl | rfl | rfl | hn | hn
        · cases c3 <;> cases bm <;> cases bn <;> rfl
        · have hK := h137 rfl
          subst hK
          cases c3 <;> cases bm <;> cases bn <;> rfl
        · cases c3 <;> cases bm <;> cases bn <;> rfl
        · have g0 : ltI n 0 = false := decide_eq_false (by omega)
          have g1 : ltI 0 n = true := decide_eq_true (by omega)
          have g2 : ltI n 1 = false := decide_eq_false (by omega)
          have g3 : ltI 1 n = true := decide_eq_true (by omega)
          have g4 : ltI n 2 = false := decide_eq_false (by omega)
          have g5 : ltI 2 n = true := decide_eq_true (by omega)
          have g6 : eqI n 0 = false := decide_eq_false (by omega)
          have g7 : eqI n 1 = false := decide_eq_false (by omega)
          have g8 : eqI n 2 = false := decide_eq_false (by omega)
          have g9 : leI 2 n = true := decide_eq_true (by omega)
          have g10 : leI n 30 = true := decide_eq_true (by omega)
          have g11 : ltI 30 n = false := decide_eq_false (by omega)
          simp only [g0, g1, g2, g3, g4, g5, g6, g7, g8, g9, g10, g11]
          cases c3 <;> cases bm <;> cases bn <;> rfl
        · have g0 : ltI n 0 = false := decide_eq_false (by omega)
          have g1 : ltI 0 n = true := decide_eq_true (by omega)
          have g2 : ltI n 1 = false := decide_eq_false (by omega)
          have g3 : ltI 1 n = true := decide_eq_true (by omega)
          have g4 : ltI n 2 = false := decide_eq_false (by omega)
          have g5 : ltI 2 n = true := decide_eq_true (by omega)
          have g6 : eqI n 0 = false := decide_eq_false (by omega)
          have g7 : eqI n 1 = false := decide_eq_false (by omega)
          have g8 : eqI n 2 = false := decide_eq_false (by omega)
          have g9 : leI 2 n = true := decide_eq_true (by omega)
          have g10 : leI n 30 = false := decide_eq_false (by omega)
          have g11 : ltI 30 n = true := decide_eq_true (by omega)
          simp only [g0, g1, g2, g3, g4, g5, g6, g7, g8, g9, g10, g11]
          cases c3 <;> cases bm <;> cases bn <;> rfl
      · rcases hn with rfl | rfl | rfl | hn | hn
        · cases c0 <;> cases c1 <;> cases bl <;> cases bm <;> rfl
        · have hK := h137 rfl
          subst hK
          cases c0 <;> cases c1 <;> cases bl <;> cases bm <;> rfl
        · cases c0 <;> cases c1 <;> cases bl <;> cases bm <;> rfl
        · have g0 : ltI n 0 = false := decide_eq_false (by omega)
          have g1 : ltI 0 n = true := decide_eq_true (by omega)
          have g2 : ltI n 1 = false := decide_eq_false (by omega)
          have g3 : ltI 1 n = true := decide_eq_true (by omega)
          have g4 : ltI n 2 = false := decide_eq_false (by omega)
          have g5 : ltI 2 n = true := decide_eq_true (by omega)
          have g6 : eqI n 0 = false := decide_eq_false (by omega)
          have g7 : eqI n 1 = false := decide_eq_false (by omega)
          have g8 : eqI n 2 = false := decide_eq_false (by omega)
          have g9 : leI 2 n = true := decide_eq_true (by omega)
          have g10 : leI n 30 = true := decide_eq_true (by omega)
          have g11 : ltI 30 n = false := decide_eq_false (by omega)
          simp only [g0, g1, g2, g3, g4, g5, g6, g7, g8, g9, g10, g11]
          cases c0 <;> cases c1 <;> cases bl <;> cases bm <;> rfl
        · have g0 : ltI n 0 = false := decide_eq_false (by omega)
          have g1 : ltI 0 n = true := decide_eq_true (by omega)
          have g2 : ltI n 1 = false := decide_eq_false (by omega)
          have g3 : ltI 1 n = true := decide_eq_true (by omega)
          have g4 : ltI n 2 = false := decide_eq_false (by omega)
          have g5 : ltI 2 n = true := decide_eq_true (by omega)
          have g6 : eqI n 0 = false := decide_eq_false (by omega)
          have g7 : eqI n 1 = false := decide_eq_false (by omega)
          have g8 : eqI n 2 = false := decide_eq_false (by omega)
          have g9 : leI 2 n = true := decide_eq_true (by omega)
          have g10 : leI n 30 = false := decide_eq_false (by omega)
          have g11 : ltI 30 n = true := decide_eq_true (by omega)
          simp only [g0, g1, g2, g3, g4, g5, g6, g7, g8, g9, g10, g11]
          cases c0 <;> cases c1 <;> cases bl <;> cases bm <;> rfl
      · rcases hn with rfl | rfl | rfl | hn | hn
        · cases c3 <;> cases bn <;> cases bm <;> rfl
        · have hK := h137 rfl
          subst hK
          cases c3 <;> cases bn <;> cases bm <;> rfl
        · cases c3 <;> cases bn <;> cases bm <;> rfl
        · have g0 : ltI n 0 = false := decide_eq_false (by omega)
          have g1 : ltI 0 n = true := decide_eq_true (by omega)
          have g2 : ltI n 1 = false := decide_eq_false (by omega)
          have g3 : ltI 1 n = true := decide_eq_true (by omega)
          have g4 : ltI n 2 = false := decide_eq_false (by omega)
          have g5 : ltI 2 n = true := decide_eq_true (by omega)
          have g6 : eqI n 0 = false := decide_eq_false (by omega)
          have g7 : eqI n 1 = false := decide_eq_false (by omega)
          have g8 : eqI n 2 = false := decide_eq_false (by omega)
          have g9 : leI 2 n = true := decide_eq_true (by omega)
          have g10 : leI n 30 = true := decide_eq_true (by omega)
          have g11 : ltI 30 n = false := decide_eq_false (by omega)
          simp only [g0, g1, g2, g3, g4, g5, g6, g7, g8, g9, g10, g11]
          cases c3 <;> cases bn <;> cases bm <;> rfl
        · have g0 : ltI n 0 = false := decide_eq_false (by omega)
          have g1 : ltI 0 n = true := decide_eq_true (by omega)
          have g2 : ltI n 1 = false := decide_eq_false (by omega)
          have g3 : ltI 1 n = true := decide_eq_true (by omega)
          have g4 : ltI n 2 = false := decide_eq_false (by omega)
          have g5 : ltI 2 n = true := decide_eq_true (by omega)
          have g6 : eqI n 0 = false := decide_eq_false (by omega)
          have g7 : eqI n 1 = false := decide_eq_false (by omega)
          have g8 : eqI n 2 = false := decide_eq_false (by omega)
          have g9 : leI 2 n = true := decide_eq_true (by omega)
          have g10 : leI n 30 = false := decide_eq_false (by omega)
          have g11 : ltI 30 n = true := decide_eq_true (by omega)
          simp only [g0, g1, g2, g3, g4, g5, g6, g7, g8, g9, g10, g11]
          cases c3 <;> cases bn <;> cases bm <;> rfl
      · rcases hn with rfl | rfl | rfl | hn | hn
        · cases c0 <;> cases c2 <;> cases bl <;> cases bm <;> cases bk <;> rfl
        · have hK := h137 rfl
          subst hK
          cases c0 <;> cases c2 <;> cases bl <;> cases bm <;> cases bk <;> rfl
        · cases c0 <;> cases c2 <;> cases bl <;> cases bm <;> cases bk <;> rfl
        · have g0 : ltI n 0 = false := decide_eq_false (by omega)
          have g1 : ltI 0 n = true := decide_eq_true (by omega)
          have g2 : ltI n 1 = false := decide_eq_false (by omega)
          have g3 : ltI 1 n = true := decide_eq_true (by omega)
          have g4 : ltI n 2 = false := decide_eq_false (by omega)
          have g5 : ltI 2 n = true := decide_eq_true (by omega)
          have g6 : eqI n 0 = false := decide_eq_false (by omega)
          have g7 : eqI n 1 = false := decide_eq_false (by omega)
          have g8 : eqI n 2 = false := decide_eq_false (by omega)
          have g9 : leI 2 n = true := decide_eq_true (by omega)
          have g10 : leI n 30 = true := decide_eq_true (by omega)
          have g11 : ltI 30 n = false := decide_eq_false (by omega)
          simp only [g0, g1, g2, g3, g4, g5, g6, g7, g8, g9, g10, g11]
          cases c0 <;> cases c2 <;> cases bl <;> cases bm <;> cases bk <;> rfl
        · have g0 : ltI n 0 = false := decide_eq_false (by omega)
          have g1 : ltI 0 n = true := decide_eq_true (by omega)
          have g2 : ltI n 1 = false := decide_eq_false (by omega)
          have g3 : ltI 1 n = true := decide_eq_true (by omega)
          have g4 : ltI n 2 = false := decide_eq_false (by omega)
          have g5 : ltI 2 n = true := decide_eq_true (by omega)
          have g6 : eqI n 0 = false := decide_eq_false (by omega)
          have g7 : eqI n 1 = false := decide_eq_false (by omega)
          have g8 : eqI n 2 = false := decide_eq_false (by omega)
          have g9 : leI 2 n = true := decide_eq_true (by omega)
          have g10 : leI n 30 = false := decide_eq_false (by omega)
          have g11 : ltI 30 n = true := decide_eq_true (by omega)
          simp only [g0, g1, g2, g3, g4, g5, g6, g7, g8, g9, g10, g11]
          cases c0 <;> cases c2 <;> cases bl <;> cases bm <;> cases bk <;> rfl
      · rcases hn with rfl | rfl | rfl | hn | hn
        · cases c3 <;> cases bl <;> cases bm <;> cases bk <;> rfl
        · have hK := h137 rfl
          subst hK
          cases c3 <;> cases bl <;> cases bm <;> cases bk <;> rfl
        · cases c3 <;> cases bl <;> cases bm <;> cases bk <;> rfl
        · have g0 : ltI n 0 = false := decide_eq_false (by omega)
          have g1 : ltI 0 n = true := decide_eq_true (by omega)
          have g2 : ltI n 1 = false := decide_eq_false (by omega)
          have g3 : ltI 1 n = true := decide_eq_true (by omega)
          have g4 : ltI n 2 = false := decide_eq_false (by omega)
          have g5 : ltI 2 n = true := decide_eq_true (by omega)
          have g6 : eqI n 0 = false := decide_eq_false (by omega)
          have g7 : eqI n 1 = false := decide_eq_false (by omega)
          have g8 : eqI n 2 = false := decide_eq_false (by omega)
          have g9 : leI 2 n = true := decide_eq_true (by omega)
          have g10 : leI n 30 = true := decide_eq_true (by omega)
          have g11 : ltI 30 n = false := decide_eq_false (by omega)
          simp only [g0, g1, g2, g3, g4, g5, g6, g7, g8, g9, g10, g11]
          cases c3 <;> cases bl <;> cases bm <;> cases bk <;> rfl
        · have g0 : ltI n 0 = false := decide_eq_false (by omega)
          have g1 : ltI 0 n = true := decide_eq_true (by omega)
          have g2 : ltI n 1 = false := decide_eq_false (by omega)
          have g3 : ltI 1 n = true := decide_eq_true (by omega)
          have g4 : ltI n 2 = false := decide_eq_false (by omega)
          have g5 : ltI 2 n = true := decide_eq_true (by omega)
          have g6 : eqI n 0 = false := decide_eq_false (by omega)
          have g7 : eqI n 1 = false := decide_eq_false (by omega)
          have g8 : eqI n 2 = false := decide_eq_false (by omega)
          have g9 : leI 2 n = true := decide_eq_true (by omega)
          have g10 : leI n 30 = false := decide_eq_false (by omega)
          have g11 : ltI 30 n = true := decide_eq_true (by omega)
          simp only [g0, g1, g2, g3, g4, g5, g6, g7, g8, g9, g10, g11]
          cases c3 <;> cases bl <;> cases bm <;> cases bk <;> rfl
      · rcases hn with rfl | rfl | rfl | hn | hn
        · cases c3 <;> cases bl <;> cases bk <;> rfl
        · have hK := h137 rfl
          subst hK
          cases c3 <;> cases bl <;> cases bk <;> rfl
        · cases c3 <;> cases bl <;> cases bk <;> rfl
        · have g0 : ltI n 0 = false := decide_eq_false (by omega)
          have g1 : ltI 0 n = true := decide_eq_true (by omega)
          have g2 : ltI n 1 = false := decide_eq_false (by omega)
          have g3 : ltI 1 n = true := decide_eq_true (by omega)
          have g4 : ltI n 2 = false := decide_eq_false (by omega)
          have g5 : ltI 2 n = true := decide_eq_true (by omega)
          have g6 : eqI n 0 = false := decide_eq_false (by omega)
          have g7 : eqI n 1 = false := decide_eq_false (by omega)
          have g8 : eqI n 2 = false := decide_eq_false (by omega)
          have g9 : leI 2 n = true := decide_eq_true (by omega)
          have g10 : leI n 30 = true := decide_eq_true (by omega)
          have g11 : ltI 30 n = false := decide_eq_false (by omega)
          simp only [g0, g1, g2, g3, g4, g5, g6, g7, g8, g9, g10, g11]
          cases c3 <;> cases bl <;> cases bk <;> rfl
        · have g0 : ltI n 0 = false := decide_eq_false (by omega)
          have g1 : ltI 0 n = true := decide_eq_true (by omega)
          have g2 : ltI n 1 = false := decide_eq_false (by omega)
          have g3 : ltI 1 n = true := decide_eq_true (by omega)
          have g4 : ltI n 2 = false := decide_eq_false (by omega)
          have g5 : ltI 2 n = true := decide_eq_true (by omega)
          have g6 : eqI n 0 = false := decide_eq_false (by omega)
          have g7 : eqI n 1 = false := decide_eq_false (by omega)
          have g8 : eqI n 2 = false := decide_eq_false (by omega)
          have g9 : leI 2 n = true := decide_eq_true (by omega)
          have g10 : leI n 30 = false := decide_eq_false (by omega)
          have g11 : ltI 30 n = true := decide_eq_true (by omega)
          simp only [g0, g1, g2, g3, g4, g5, g6, g7, g8, g9, g10, g11]
          cases c3 <;> cases bl <;> cases bk <;> rfl
      · rcases hn with rfl | rfl | rfl | hn | hn
        · cases c3 <;> cases bl <;> cases bm <;> rfl
        · have hK := h137 rfl
          subst hK
          cases c3 <;> cases bl <;> cases bm <;> rfl
        · cases c3 <;> cases bl <;> cases bm <;> rfl
        · have g0 : ltI n 0 = false := decide_eq_false (by omega)
          have g1 : ltI 0 n = true := decide_eq_true (by omega)
          have g2 : ltI n 1 = false := decide_eq_false (by omega)
          have g3 : ltI 1 n = true := decide_eq_true (by omega)
          have g4 : ltI n 2 = false := decide_eq_false (by omega)
          have g5 : ltI 2 n = true := decide_eq_true (by omega)
          have g6 : eqI n 0 = false := decide_eq_false (by omega)
          have g7 : eqI n 1 = false := decide_eq_false (by omega)
          have g8 : eqI n 2 = false := decide_eq_false (by omega)
          have g9 : leI 2 n = true := decide_eq_true (by omega)
          have g10 : leI n 30 = true := decide_eq_true (by omega)
          have g11 : ltI 30 n = false := decide_eq_false (by omega)
          simp only [g0, g1, g2, g3, g4, g5, g6, g7, g8, g9, g10, g11]
          cases c3 <;> cases bl <;> cases bm <;> rfl
        · have g0 : ltI n 0 = false := decide_eq_false (by omega)
          have g1 : ltI 0 n = true := decide_eq_true (by omega)
          have g2 : ltI n 1 = false := decide_eq_false (by omega)
          have g3 : ltI 1 n = true := decide_eq_true (by omega)
          have g4 : ltI n 2 = false := decide_eq_false (by omega)
          have g5 : ltI 2 n = true := decide_eq_true (by omega)
          have g6 : eqI n 0 = false := decide_eq_false (by omega)
          have g7 : eqI n 1 = false := decide_eq_false (by omega)
          have g8 : eqI n 2 = false := decide_eq_false (by omega)
          have g9 : leI 2 n = true := decide_eq_true (by omega)
          have g10 : leI n 30 = false := decide_eq_false (by omega)
          have g11 : ltI 30 n = true := decide_eq_true (by omega)
          simp only [g0, g1, g2, g3, g4, g5, g6, g7, g8, g9, g10, g11]
          cases c3 <;> cases bl <;> cases bm <;> rfl
      · rcases hn with rfl | rfl | rfl | hn | hn
        · cases c3 <;> cases bl <;> cases bm <;> rfl
        · have hK := h137 rfl
          subst hK
          cases c3 <;> cases bl <;> cases bm <;> rfl
        · cases c3 <;> cases bl <;> cases bm <;> rfl
        · have g0 : ltI n 0 = false := decide_eq_false (by omega)
          have g1 : ltI 0 n = true := decide_eq_true (by omega)
          have g2 : ltI n 1 = false := decide_eq_false (by omega)
          have g3 : ltI 1 n = true := decide_eq_true (by omega)
          have g4 : ltI n 2 = false := decide_eq_false (by omega)
          have g5 : ltI 2 n = true := decide_eq_true (by omega)
          have g6 : eqI n 0 = false := decide_eq_false (by omega)
          have g7 : eqI n 1 = false := decide_eq_false (by omega)
          have g8 : eqI n 2 = false := decide_eq_false (by omega)
          have g9 : leI 2 n = true := decide_eq_true (by omega)
          have g10 : leI n 30 = true := decide_eq_true (by omega)
          have g11 : ltI 30 n = false := decide_eq_false (by omega)
          simp only [g0, g1, g2, g3, g4, g5, g6, g7, g8, g9, g10, g11]
          cases c3 <;> cases bl <;> cases bm <;> rfl
        · have g0 : ltI n 0 = false := decide_eq_false (by omega)
          have g1 : ltI 0 n = true := decide_eq_true (by omega)
          have g2 : ltI n 1 = false := decide_eq_false (by omega)
          have g3 : ltI 1 n = true := decide_eq_true (by omega)
          have g4 : ltI n 2 = false := decide_eq_false (by omega)
          have g5 : ltI 2 n = true := decide_eq_true (by omega)
          have g6 : eqI n 0 = false := decide_eq_false (by omega)
          have g7 : eqI n 1 = false := decide_eq_false (by omega)
          have g8 : eqI n 2 = false := decide_eq_false (by omega)
          have g9 : leI 2 n = true := decide_eq_true (by omega)
          have g10 : leI n 30 = false := decide_eq_false (by omega)
          have g11 : ltI 30 n = true := decide_eq_true (by omega)
          simp only [g0, g1, g2, g3, g4, g5, g6, g7, g8, g9, g10, g11]
          cases c3 <;> cases bl <;> cases bm <;> rfl
      · rcases hn with rfl | rfl | rfl | hn | hn
        · cases c3 <;> cases bm <;> cases c4 <;> rfl
        · have hK := h137 rfl
          subst hK
          cases c3 <;> cases bm <;> cases c4 <;> rfl
        · cases c3 <;> cases bm <;> cases c4 <;> rfl
        · have g0 : ltI n 0 = false := decide_eq_false (by omega)
          have g1 : ltI 0 n = true := decide_eq_true (by omega)
          have g2 : ltI n 1 = false := decide_eq_false (by omega)
          have g3 : ltI 1 n = true := decide_eq_true (by omega)
          have g4 : ltI n 2 = false := decide_eq_false (by omega)
          have g5 : ltI 2 n = true := decide_eq_true (by omega)
          have g6 : eqI n 0 = false := decide_eq_false (by omega)
          have g7 : eqI n 1 = false := decide_eq_false (by omega)
          have g8 : eqI n 2 = false := decide_eq_false (by omega)
          have g9 : leI 2 n = true := decide_eq_true (by omega)
          have g10 : leI n 30 = true := decide_eq_true (by omega)
          have g11 : ltI 30 n = false := decide_eq_false (by omega)
          simp only [g0, g1, g2, g3, g4, g5, g6, g7, g8, g9, g10, g11]
          cases c3 <;> cases bm <;> cases c4 <;> rfl
        · have g0 : ltI n 0 = false := decide_eq_false (by omega)
          have g1 : ltI 0 n = true := decide_eq_true (by omega)
          have g2 : ltI n 1 = false := decide_eq_false (by omega)
          have g3 : ltI 1 n = true := decide_eq_true (by omega)
          have g4 : ltI n 2 = false := decide_eq_false (by omega)
          have g5 : ltI 2 n = true := decide_eq_true (by omega)
          have g6 : eqI n 0 = false := decide_eq_false (by omega)
          have g7 : eqI n 1 = false := decide_eq_false (by omega)
          have g8 : eqI n 2 = false := decide_eq_false (by omega)
          have g9 : leI 2 n = true := decide_eq_true (by omega)
          have g10 : leI n 30 = false := decide_eq_false (by omega)
          have g11 : ltI 30 n = true := decide_eq_true (by omega)
          simp only [g0, g1, g2, g3, g4, g5, g6, g7, g8, g9, g10, g11]
          cases c3 <;> cases bm <;> cases c4 <;> rfl
      · rcases hn with rfl | rfl | rfl | hn | hn
        · cases c3 <;> cases bm <;> cases bn <;> rfl
        · have hK := h137 rfl
          subst hK
          cases c3 <;> cases bm <;> cases bn <;> rfl
        · cases c3 <;> cases bm <;> cases bn <;> rfl
        · have g0 : ltI n 0 = false := decide_eq_false (by omega)
          have g1 : ltI 0 n = true := decide_eq_true (by omega)
          have g2 : ltI n 1 = false := decide_eq_false (by omega)
          have g3 : ltI 1 n = true := decide_eq_true (by omega)
          have g4 : ltI n 2 = false := decide_eq_false (by omega)
          have g5 : ltI 2 n = true := decide_eq_true (by omega)
          have g6 : eqI n 0 = false := decide_eq_false (by omega)
          have g7 : eqI n 1 = false := decide_eq_false (by omega)
          have g8 : eqI n 2 = false := decide_eq_false (by omega)
          have g9 : leI 2 n = true := decide_eq_true (by omega)
          have g10 : leI n 30 = true := decide_eq_true (by omega)
          have g11 : ltI 30 n = false := decide_eq_false (by omega)
          simp only [g0, g1, g2, g3, g4, g5, g6, g7, g8, g9, g10, g11]
          cases c3 <;> cases bm <;> cases bn <;> rfl
        · have g0 : ltI n 0 = false := decide_eq_false (by omega)
          have g1 : ltI 0 n = true := decide_eq_true (by omega)
          have g2 : ltI n 1 = false := decide_eq_false (by omega)
          have g3 : ltI 1 n = true := decide_eq_true (by omega)
          have g4 : ltI n 2 = false := decide_eq_false (by omega)
          have g5 : ltI 2 n = true := decide_eq_true (by omega)
          have g6 : eqI n 0 = false := decide_eq_false (by omega)
          have g7 : eqI n 1 = false := decide_eq_false (by omega)
          have g8 : eqI n 2 = false := decide_eq_false (by omega)
          have g9 : leI 2 n = true := decide_eq_true (by omega)
          have g10 : leI n 30 = false := decide_eq_false (by omega)
          have g11 : ltI 30 n = true := decide_eq_true (by omega)
          simp only [g0, g1, g2, g3, g4, g5, g6, g7, g8, g9, g10, g11]
          cases c3 <;> cases bm <;> cases bn <;> rfl
    · have e0 : (ltI k 1 || ltI 9 k) = true := by
        simp only [ltI, Bool.or_eq_true, decide_eq_true_eq]
        omega
      have e1 : eqI k 1 = false := decide_eq_false (by omega)
      have e2 : eqI k 2 = false := decide_eq_false (by omega)
      have e3 : eqI k 3 = false := decide_eq_false (by omega)
      have e4 : eqI k 4 = false := decide_eq_false (by omega)
      have e5 : eqI k 5 = false := decide_eq_false (by omega)
      have e6 : eqI k 6 = false := decide_eq_false (by omega)
      have e7 : eqI k 7 = false := decide_eq_false (by omega)
      have e8 : eqI k 8 = false := decide_eq_false (by omega)
      have e9 : eqI k 9 = false := decide_eq_false (by omega)
      simp only [e1, e2, e3, e4, e5, e6, e7, e8, e9]
      cases h1 : ltI k 1 with
      | true => simp only [Option.bind_some, cond_false, Bool.and_false]
      | false =>
        rw [h1, Bool.false_or] at e0
        simp only [e0, Option.bind_some, cond_false, Bool.and_false]
end Go.Lb.R
end
section
namespace Go.Lb.R
open Go.Lb
theorem thn_mem_lt {s x : GS} (h : x ∈ s.thn) : SizeOf.sizeOf x < SizeOf.sizeOf s := Nat.lt_trans (List.sizeOf_lt_of_mem h) GS.thn_lt
theorem els_mem_lt {s x : GS} (h : x ∈ s.els) : SizeOf.sizeOf x < SizeOf.sizeOf s := Nat.lt_trans (List.sizeOf_lt_of_mem h) GS.els_lt
def rightS1 (s : GS) : Bool :=
  let a : Int := s.thn.length
  let b : Int := s.els.length
  bif eqI s.kind 1 then nameB s.name && (noneB s.place && (eqI a 0 && eqI b 0))
  else bif eqI s.kind 2 then eqS s.name nilS && (placeB s.place && (rightE s.place && (eqI a 0 && eqI b 0)))
  else bif eqI s.kind 3 then eqS s.name nilS && noneB s.place
  else bif eqI s.kind 4 then eqS s.name nilS && (noneB s.place && eqI b 0)
  else false
mutual
def rightS : GS → Bool
  | .mk k s p e t f => rightE e && ((rightSs t && leI (t.length : Int) 30) && ((rightSs f && leI (f.length : Int) 30) && rightS1 (.mk k s p e t f)))
def rightSs : List GS → Bool
  | [] => true
  | t :: r => rightS t && rightSs r
end
theorem rightSs_all : ∀ l : List GS, rightSs l = l.all rightS
  | [] => rfl
  | t :: r => by simp only [rightSs, List.all_cons, rightSs_all r]
def rightL (l : List GS) : Bool := l.all rightS && leI (l.length : Int) 30
theorem rightS_eq (s : GS) : rightS s = (rightE s.expr && (rightL s.thn && (rightL s.els && rightS1 s))) := by
  cases s
  simp only [rightS, rightSs_all]
  rfl
theorem k54_of (l : List GS) (hl : l.length ≤ MX) (IH : ∀ x ∈ l, k90 x = some ((rightS x, ()), ())) : k54 l = some ((rightL l, ()), ()) := by
  have := loop_all0 (l := l) (p := rightS) (L := fun i => k54_0 l (i : Int)) (good := Sum.inl ((), ())) (bad := fun j => Sum.inr ((false, ()), ()))
    (fun i hi => by
      rw [k54_0, ltI_true hi]
      simp only [idx_nat hi, Option.bind_eq_bind, Option.bind_some, nf_eq, w64_succ hl hi, IH _ (List.getElem_mem hi)]
      cases rightS l[i] <;> rfl)
    (by rw [k54_0, ltI_false (Nat.lt_irrefl _)])
  rw [show ((0 : Nat) : Int) = 0 from rfl] at this
  rw [k54, rightL]
  rcases this with ⟨h1, h2⟩ | ⟨⟨j, h1⟩, h2⟩
  · rw [h1, h2]; rfl
  · rw [h1, h2]; rfl
theorem w64_sum30 {a b : Nat} (ha : leI (a : Int) 30 = true) (hb : leI (b : Int) 30 = true) : eqI (w64 ((a : Int) + (b : Int))) 0 = (eqI (a : Int) 0 && eqI (b : Int) 0) := by
  have h1 := of_decide_eq_true ha
  have h2 := of_decide_eq_true hb
  rw [w64_add (n := 60) (by decide) (by omega)]
  rw [Bool.eq_iff_iff]
  simp only [eqI, Bool.and_eq_true, decide_eq_true_eq]
  omega
theorem k90_eq : ∀ (n : Nat) (s : GS), SizeOf.sizeOf s < n → okS s → k90 s = some ((rightS s, ()), ())
  | 0, s, h, _ => by omega
  | n + 1, s, h, ho => by
    obtain ⟨h1, h2, h3, ⟨h4, h5⟩, h6, h7⟩ := okS_at ho
    have e1 := k54_of s.thn h4 fun x hx => k90_eq n x (by have := thn_mem_lt hx; omega) (okSs_mem h5 hx)
    have e2 := k54_of s.els h6 fun x hx => k90_eq n x (by have := els_mem_lt hx; omega) (okSs_mem h7 hx)
    rw [k90, rightS_eq]
    simp only [k56_eq _ s.expr (Nat.lt_succ_self _) h3, k56_eq _ s.place (Nat.lt_succ_self _) h2, e1, e2, k125_eq, k51_eq _ h1, k91_eq, Option.bind_eq_bind, Option.bind_some]
    cases rightE s.expr with
    | false => rfl
    | true =>
      have q1 : rightL s.thn = true → leI (s.thn.length : Int) 30 = true := fun h => by
        simp only [rightL, Bool.and_eq_true] at h
        exact h.2
      have q2 : rightL s.els = true → leI (s.els.length : Int) 30 = true := fun h => by
        simp only [rightL, Bool.and_eq_true] at h
        exact h.2
      cases hL : rightL s.thn with
      | false => rfl
      | true =>
        cases hM : rightL s.els with
        | false => rfl
        | true =>
          rw [w64_sum30 (q1 hL) (q2 hM)]
          simp only [rightS1, Bool.true_and]
          cases eqI s.kind 1 <;> cases eqI s.kind 2 <;> cases eqI s.kind 3 <;> cases eqI s.kind 4 <;> cases nameB s.name <;> cases eqS s.name nilS <;> cases noneB s.place <;> cases placeB s.place <;> cases rightE s.place <;> rfl
end Go.Lb.R
end
section
namespace Go.Lb.R
open Go.Lb
theorem nameB_nil {s : Str} (h : eqS s nilS = true) : nameB s = false := by
  have h' : s = [] := by simpa [eqS, nilS] using h
  subst h'
  rfl
theorem placeB_none {e : GE} (h : placeB e = true) : noneB e = false := by
  cases hn : eqI e.kind 0 with
  | false => simp [noneB, hn]
  | true =>
    have h0 : e.kind = 0 := of_decide_eq_true hn
    rw [placeB, h0] at h
    cases h
theorem k75_loop (l : List GS) (hl : l.length ≤ MX) (IH : ∀ x ∈ l, k75 x = some ((rightS x, ()), ())) : (k75_0 l (l.length : Int) 0 = some (Sum.inl ((), ((), ()), ())) ∧ l.all rightS = true) ∨ ((∃ j : Nat, k75_0 l (l.length : Int) 0 = some (Sum.inr (((j : Int), ()), ((), ()), ()))) ∧ l.all rightS = false) := by
  have := loop_all0 (l := l) (p := rightS) (L := fun i => k75_0 l (l.length : Int) (i : Int)) (good := Sum.inl ((), ((), ()), ())) (bad := fun j => Sum.inr (((j : Int), ()), ((), ()), ()))
    (fun i hi => by
      rw [k75_0, ltI_true hi]
      simp only [idx_nat hi, Option.bind_eq_bind, Option.bind_some, nf_eq, w64_succ hl hi, IH _ (List.getElem_mem hi)]
      cases rightS l[i] <;> rfl)
    (by rw [k75_0, ltI_false (Nat.lt_irrefl _)])
  exact this
theorem k75_eq : ∀ (n : Nat) (s : GS), SizeOf.sizeOf s < n → okS s → k75 s = some ((rightS s, ()), ())
  | 0, s, h, _ => by omega
  | n + 1, s, h, ho => by
    obtain ⟨h1, h2, h3, ⟨h4, h5⟩, h6, h7⟩ := okS_at ho
    have e1 := k75_loop s.thn h4 fun x hx => k75_eq n x (by have := thn_mem_lt hx; omega) (okSs_mem h5 hx)
    have e2 := k75_loop s.els h6 fun x hx => k75_eq n x (by have := els_mem_lt hx; omega) (okSs_mem h7 hx)
    have f1 : eqS s.name nilS = false ∨ nameB s.name = false := by
      cases h : eqS s.name nilS with
      | false => exact .inl rfl
      | true => exact .inr (nameB_nil h)
    have f2 : placeB s.place = false ∨ noneB s.place = false := by
      cases h : placeB s.place with
      | false => exact .inl rfl
      | true => exact .inr (placeB_none h)
    have z1 : ∀ l : List GS, eqI (l.length : Int) 0 = !ltI 0 (l.length : Int) := fun l => by
      cases l with
      | nil => rfl
      | cons a r =>
        rw [show eqI ((a :: r).length : Int) 0 = false from decide_eq_false (by simp only [List.length_cons]; omega), show ltI 0 ((a :: r).length : Int) = true from decide_eq_true (by simp only [List.length_cons]; omega)]
        rfl
    rw [k75, rightS_eq]
    simp only [k77_eq _ s.expr (Nat.lt_succ_self _) h3, k77_eq _ s.place (Nat.lt_succ_self _) h2, k70_eq _ h1, k112_eq, k113_eq, Option.bind_eq_bind, Option.bind_some, rightS1, z1]
    simp only [rightL]
    generalize s.thn.all rightS = b1 at *
    generalize s.els.all rightS = b2 at *
    generalize k75_0 s.thn _ 0 = X1 at *
    generalize k75_0 s.els _ 0 = X2 at *
    generalize leI (s.thn.length : Int) 30 = q1
    generalize leI (s.els.length : Int) 30 = q2
    generalize ltI 0 (s.thn.length : Int) = l1
    generalize ltI 0 (s.els.length : Int) = l2
    generalize rightE s.expr = be
    generalize rightE s.place = br
    generalize nameB s.name = bn at *
    generalize eqS s.name _ = bl at *
    generalize noneB s.place = bo at *
    generalize placeB s.place = bp at *
    generalize s.kind = k at *
    clear h1 h2 h3 h4 h5 h6 h7 z1 ho h
    by_cases hk : k = 1 ∨ k = 2 ∨ k = 3 ∨ k = 4
    · have t1 : eqB true true = true := rfl
      have t2 : eqB true false = false := rfl
      have t3 : eqB false true = false := rfl
      have t4 : eqB false false = true := rfl
      rcases hk with rfl | rfl | rfl | rfl
      · simp only [show ltI 1 1 = false from rfl, show ltI 2 1 = false from rfl, show ltI 3 1 = false from rfl, show ltI 4 1 = false from rfl, show ltI 4 2 = false from rfl, show ltI 4 3 = false from rfl, show ltI 4 4 = false from rfl, show eqI 1 1 = true from rfl, show eqI 1 2 = false from rfl, show eqI 1 3 = false from rfl, show eqI 1 4 = false from rfl, show eqI 2 1 = false from rfl, show eqI 2 2 = true from rfl, show eqI 2 3 = false from rfl, show eqI 2 4 = false from rfl, show eqI 3 1 = false from rfl, show eqI 3 2 = false from rfl, show eqI 3 3 = true from rfl, show eqI 3 4 = false from rfl, show eqI 4 1 = false from rfl, show eqI 4 2 = false from rfl, show eqI 4 3 = false from rfl, show eqI 4 4 = true from rfl, Option.bind_some]
        cases be with
        | false =>
          simp only [t1, t2, t3, t4, Option.bind_some, Bool.not_true, Bool.not_false, Bool.true_and, Bool.false_and, Bool.and_true, Bool.and_false, cond_true, cond_false, leI_neg, leI_nat]
        | true =>
          simp only [t1, t2, t3, t4, Option.bind_some, Bool.not_true, Bool.not_false, Bool.true_and, Bool.false_and, Bool.and_true, Bool.and_false, cond_true, cond_false, leI_neg, leI_nat]
          cases bl with
          | true =>
            rcases f1 with f1 | rfl; cases f1
            simp only [t1, t2, t3, t4, Option.bind_some, Bool.not_true, Bool.not_false, Bool.true_and, Bool.false_and, Bool.and_true, Bool.and_false, cond_true, cond_false, leI_neg, leI_nat]
          | false =>
            simp only [t1, t2, t3, t4, Option.bind_some, Bool.not_true, Bool.not_false, Bool.true_and, Bool.false_and, Bool.and_true, Bool.and_false, cond_true, cond_false, leI_neg, leI_nat]
            cases bn with
            | false =>
              simp only [t1, t2, t3, t4, Option.bind_some, Bool.not_true, Bool.not_false, Bool.true_and, Bool.false_and, Bool.and_true, Bool.and_false, cond_true, cond_false, leI_neg, leI_nat]
            | true =>
              simp only [t1, t2, t3, t4, Option.bind_some, Bool.not_true, Bool.not_false, Bool.true_and, Bool.false_and, Bool.and_true, Bool.and_false, cond_true, cond_false, leI_neg, leI_nat]
              cases bo with
              | false =>
                simp only [t1, t2, t3, t4, Option.bind_some, Bool.not_true, Bool.not_false, Bool.true_and, Bool.false_and, Bool.and_true, Bool.and_false, cond_true, cond_false, leI_neg, leI_nat]
              | true =>
                simp only [t1, t2, t3, t4, Option.bind_some, Bool.not_true, Bool.not_false, Bool.true_and, Bool.false_and, Bool.and_true, Bool.and_false, cond_true, cond_false, leI_neg, leI_nat]
                cases l1 with
                | true =>
                  simp only [t1, t2, t3, t4, Option.bind_some, Bool.not_true, Bool.not_false, Bool.true_and, Bool.false_and, Bool.and_true, Bool.and_false, cond_true, cond_false, leI_neg, leI_nat]
                | false =>
                  simp only [t1, t2, t3, t4, Option.bind_some, Bool.not_true, Bool.not_false, Bool.true_and, Bool.false_and, Bool.and_true, Bool.and_false, cond_true, cond_false, leI_neg, leI_nat]
                  cases l2 with
                  | true =>
                    simp only [t1, t2, t3, t4, Option.bind_some, Bool.not_true, Bool.not_false, Bool.true_and, Bool.false_and, Bool.and_true, Bool.and_false, cond_true, cond_false, leI_neg, leI_nat]
                  | false =>
                    simp only [t1, t2, t3, t4, Option.bind_some, Bool.not_true, Bool.not_false, Bool.true_and, Bool.false_and, Bool.and_true, Bool.and_false, cond_true, cond_false, leI_neg, leI_nat]
                    cases q1 <;> rcases e1 with ⟨rfl, rfl⟩ | ⟨⟨j, rfl⟩, rfl⟩ <;> simp only [t1, t2, t3, t4, Option.bind_some, Bool.not_true, Bool.not_false, Bool.true_and, Bool.false_and, Bool.and_true, Bool.and_false, cond_true, cond_false, leI_neg, leI_nat] <;> cases q2 <;> rcases e2 with ⟨rfl, rfl⟩ | ⟨⟨j', rfl⟩, rfl⟩ <;> simp only [t1, t2, t3, t4, Option.bind_some, Bool.not_true, Bool.not_false, Bool.true_and, Bool.false_and, Bool.and_true, Bool.and_false, cond_true, cond_false, leI_neg, leI_nat]
      · simp only [show ltI 1 1 = false from rfl, show ltI 2 1 = false from rfl, show ltI 3 1 = false from rfl, show ltI 4 1 = false from rfl, show ltI 4 2 = false from rfl, show ltI 4 3 = false from rfl, show ltI 4 4 = false from rfl, show eqI 1 1 = true from rfl, show eqI 1 2 = false from rfl, show eqI 1 3 = false from rfl, show eqI 1 4 = false from rfl, show eqI 2 1 = false from rfl, show eqI 2 2 = true from rfl, show eqI 2 3 = false from rfl, show eqI 2 4 = false from rfl, show eqI 3 1 = false from rfl, show eqI 3 2 = false from rfl, show eqI 3 3 = true from rfl, show eqI 3 4 = false from rfl, show eqI 4 1 = false from rfl, show eqI 4 2 = false from rfl, show eqI 4 3 = false from rfl, show eqI 4 4 = true from rfl, Option.bind_some]
        cases be with
        | false =>
          simp only [t1, t2, t3, t4, Option.bind_some, Bool.not_true, Bool.not_false, Bool.true_and, Bool.false_and, Bool.and_true, Bool.and_false, cond_true, cond_false, leI_neg, leI_nat]
        | true =>
          simp only [t1, t2, t3, t4, Option.bind_some, Bool.not_true, Bool.not_false, Bool.true_and, Bool.false_and, Bool.and_true, Bool.and_false, cond_true, cond_false, leI_neg, leI_nat]
          cases bl with
          | false =>
            simp only [t1, t2, t3, t4, Option.bind_some, Bool.not_true, Bool.not_false, Bool.true_and, Bool.false_and, Bool.and_true, Bool.and_false, cond_true, cond_false, leI_neg, leI_nat]
          | true =>
            simp only [t1, t2, t3, t4, Option.bind_some, Bool.not_true, Bool.not_false, Bool.true_and, Bool.false_and, Bool.and_true, Bool.and_false, cond_true, cond_false, leI_neg, leI_nat]
            cases bo with
            | true =>
              rcases f2 with rfl | f2
              · simp only [t1, t2, t3, t4, Option.bind_some, Bool.not_true, Bool.not_false, Bool.true_and, Bool.false_and, Bool.and_true, Bool.and_false, cond_true, cond_false, leI_neg, leI_nat]
              · cases f2
            | false =>
              simp only [t1, t2, t3, t4, Option.bind_some, Bool.not_true, Bool.not_false, Bool.true_and, Bool.false_and, Bool.and_true, Bool.and_false, cond_true, cond_false, leI_neg, leI_nat]
              cases bp with
              | false =>
                simp only [t1, t2, t3, t4, Option.bind_some, Bool.not_true, Bool.not_false, Bool.true_and, Bool.false_and, Bool.and_true, Bool.and_false, cond_true, cond_false, leI_neg, leI_nat]
              | true =>
                simp only [t1, t2, t3, t4, Option.bind_some, Bool.not_true, Bool.not_false, Bool.true_and, Bool.false_and, Bool.and_true, Bool.and_false, cond_true, cond_false, leI_neg, leI_nat]
                cases br with
                | false =>
                  simp only [t1, t2, t3, t4, Option.bind_some, Bool.not_true, Bool.not_false, Bool.true_and, Bool.false_and, Bool.and_true, Bool.and_false, cond_true, cond_false, leI_neg, leI_nat]
                | true =>
                  simp only [t1, t2, t3, t4, Option.bind_some, Bool.not_true, Bool.not_false, Bool.true_and, Bool.false_and, Bool.and_true, Bool.and_false, cond_true, cond_false, leI_neg, leI_nat]
                  cases l1 with
                  | true =>
                    simp only [t1, t2, t3, t4, Option.bind_some, Bool.not_true, Bool.not_false, Bool.true_and, Bool.false_and, Bool.and_true, Bool.and_false, cond_true, cond_false, leI_neg, leI_nat]
                  | false =>
                    simp only [t1, t2, t3, t4, Option.bind_some, Bool.not_true, Bool.not_false, Bool.true_and, Bool.false_and, Bool.and_true, Bool.and_false, cond_true, cond_false, leI_neg, leI_nat]
                    cases l2 with
                    | true =>
                      simp only [t1, t2, t3, t4, Option.bind_some, Bool.not_true, Bool.not_false, Bool.true_and, Bool.false_and, Bool.and_true, Bool.and_false, cond_true, cond_false, leI_neg, leI_nat]
                    | false =>
                      simp only [t1, t2, t3, t4, Option.bind_some, Bool.not_true, Bool.not_false, Bool.true_and, Bool.false_and, Bool.and_true, Bool.and_false, cond_true, cond_false, leI_neg, leI_nat]
                      cases q1 <;> rcases e1 with ⟨rfl, rfl⟩ | ⟨⟨j, rfl⟩, rfl⟩ <;> simp only [t1, t2, t3, t4, Option.bind_some, Bool.not_true, Bool.not_false, Bool.true_and, Bool.false_and, Bool.and_true, Bool.and_false, cond_true, cond_false, leI_neg, leI_nat] <;> cases q2 <;> rcases e2 with ⟨rfl, rfl⟩ | ⟨⟨j', rfl⟩, rfl⟩ <;> simp only [t1, t2, t3, t4, Option.bind_some, Bool.not_true, Bool.not_false, Bool.true_and, Bool.false_and, Bool.and_true, Bool.and_false, cond_true, cond_false, leI_neg, leI_nat]
      · simp only [show ltI 1 1 = false from rfl, show ltI 2 1 = false from rfl, show ltI 3 1 = false from rfl, show ltI 4 1 = false from rfl, show ltI 4 2 = false from rfl, show ltI 4 3 = false from rfl, show ltI 4 4 = false from rfl, show eqI 1 1 = true from rfl, show eqI 1 2 = false from rfl, show eqI 1 3 = false from rfl, show eqI 1 4 = false from rfl, show eqI 2 1 = false from rfl, show eqI 2 2 = true from rfl, show eqI 2 3 = false from rfl, show eqI 2 4 = false from rfl, show eqI 3 1 = false from rfl, show eqI 3 2 = false from rfl, show eqI 3 3 = true from rfl, show eqI 3 4 = false from rfl, show eqI 4 1 = false from rfl, show eqI 4 2 = false from rfl, show eqI 4 3 = false from rfl, show eqI 4 4 = true from rfl, Option.bind_some]
        cases be with
        | false =>
          simp only [t1, t2, t3, t4, Option.bind_some, Bool.not_true, Bool.not_false, Bool.true_and, Bool.false_and, Bool.and_true, Bool.and_false, cond_true, cond_false, leI_neg, leI_nat]
        | true =>
          simp only [t1, t2, t3, t4, Option.bind_some, Bool.not_true, Bool.not_false, Bool.true_and, Bool.false_and, Bool.and_true, Bool.and_false, cond_true, cond_false, leI_neg, leI_nat]
          cases bl with
          | false =>
            simp only [t1, t2, t3, t4, Option.bind_some, Bool.not_true, Bool.not_false, Bool.true_and, Bool.false_and, Bool.and_true, Bool.and_false, cond_true, cond_false, leI_neg, leI_nat]
          | true =>
            simp only [t1, t2, t3, t4, Option.bind_some, Bool.not_true, Bool.not_false, Bool.true_and, Bool.false_and, Bool.and_true, Bool.and_false, cond_true, cond_false, leI_neg, leI_nat]
            cases bo with
            | false =>
              simp only [t1, t2, t3, t4, Option.bind_some, Bool.not_true, Bool.not_false, Bool.true_and, Bool.false_and, Bool.and_true, Bool.and_false, cond_true, cond_false, leI_neg, leI_nat]
            | true =>
              simp only [t1, t2, t3, t4, Option.bind_some, Bool.not_true, Bool.not_false, Bool.true_and, Bool.false_and, Bool.and_true, Bool.and_false, cond_true, cond_false, leI_neg, leI_nat]
              cases q1 <;> rcases e1 with ⟨rfl, rfl⟩ | ⟨⟨j, rfl⟩, rfl⟩ <;> simp only [t1, t2, t3, t4, Option.bind_some, Bool.not_true, Bool.not_false, Bool.true_and, Bool.false_and, Bool.and_true, Bool.and_false, cond_true, cond_false, leI_neg, leI_nat] <;> cases q2 <;> rcases e2 with ⟨rfl, rfl⟩ | ⟨⟨j', rfl⟩, rfl⟩ <;> simp only [t1, t2, t3, t4, Option.bind_some, Bool.not_true, Bool.not_false, Bool.true_and, Bool.false_and, Bool.and_true, Bool.and_false, cond_true, cond_false, leI_neg, leI_nat]
      · simp only [show ltI 1 1 = false from rfl, show ltI 2 1 = false from rfl, show ltI 3 1 = false from rfl, show ltI 4 1 = false from rfl, show ltI 4 2 = false from rfl, show ltI 4 3 = false from rfl, show ltI 4 4 = false from rfl, show eqI 1 1 = true from rfl, show eqI 1 2 = false from rfl, show eqI 1 3 = false from rfl, show eqI 1 4 = false from rfl, show eqI 2 1 = false from rfl, show eqI 2 2 = true from rfl, show eqI 2 3 = false from rfl, show eqI 2 4 = false from rfl, show eqI 3 1 = false from rfl, show eqI 3 2 = false from rfl, show eqI 3 3 = true from rfl, show eqI 3 4 = false from rfl, show eqI 4 1 = false from rfl, show eqI 4 2 = false from rfl, show eqI 4 3 = false from rfl, show eqI 4 4 = true from rfl, Option.bind_some]
        cases be with
        | false =>
          simp only [t1, t2, t3, t4, Option.bind_some, Bool.not_true, Bool.not_false, Bool.true_and, Bool.false_and, Bool.and_true, Bool.and_false, cond_true, cond_false, leI_neg, leI_nat]
        | true =>
          simp only [t1, t2, t3, t4, Option.bind_some, Bool.not_true, Bool.not_false, Bool.true_and, Bool.false_and, Bool.and_true, Bool.and_false, cond_true, cond_false, leI_neg, leI_nat]
          cases bl with
          | false =>
            simp only [t1, t2, t3, t4, Option.bind_some, Bool.not_true, Bool.not_false, Bool.true_and, Bool.false_and, Bool.and_true, Bool.and_false, cond_true, cond_false, leI_neg, leI_nat]
          | true =>
            simp only [t1, t2, t3, t4, Option.bind_some, Bool.not_true, Bool.not_false, Bool.true_and, Bool.false_and, Bool.and_true, Bool.and_false, cond_true, cond_false, leI_neg, leI_nat]
            cases bo with
            | false =>
              simp only [t1, t2, t3, t4, Option.bind_some, Bool.not_true, Bool.not_false, Bool.true_and, Bool.false_and, Bool.and_true, Bool.and_false, cond_true, cond_false, leI_neg, leI_nat]
            | true =>
              simp only [t1, t2, t3, t4, Option.bind_some, Bool.not_true, Bool.not_false, Bool.true_and, Bool.false_and, Bool.and_true, Bool.and_false, cond_true, cond_false, leI_neg, leI_nat]
              cases l2 with
              | true =>
                simp only [t1, t2, t3, t4, Option.bind_some, Bool.not_true, Bool.not_false, Bool.true_and, Bool.false_and, Bool.and_true, Bool.and_false, cond_true, cond_false, leI_neg, leI_nat]
              | false =>
                simp only [t1, t2, t3, t4, Option.bind_some, Bool.not_true, Bool.not_false, Bool.true_and, Bool.false_and, Bool.and_true, Bool.and_false, cond_true, cond_false, leI_neg, leI_nat]
                cases q1 <;> rcases e1 with ⟨rfl, rfl⟩ | ⟨⟨j, rfl⟩, rfl⟩ <;> simp only [t1, t2, t3, t4, Option.bind_some, Bool.not_true, Bool.not_false, Bool.true_and, Bool.false_and, Bool.and_true, Bool.and_false, cond_true, cond_false, leI_neg, leI_nat] <;> cases q2 <;> rcases e2 with ⟨rfl, rfl⟩ | ⟨⟨j', rfl⟩, rfl⟩ <;> simp only [t1, t2, t3, t4, Option.bind_some, Bool.not_true, Bool.not_false, Bool.true_and, Bool.false_and, Bool.and_true, Bool.and_false, cond_true, cond_false, leI_neg, leI_nat]
    · have a5 : (ltI k 1 || ltI 4 k) = true := by
        simp only [ltI, Bool.or_eq_true, decide_eq_true_eq]
        omega
      have e1' : eqI k 1 = false := decide_eq_false (by omega)
      have e2' : eqI k 2 = false := decide_eq_false (by omega)
      have e3 : eqI k 3 = false := decide_eq_false (by omega)
      have e4 : eqI k 4 = false := decide_eq_false (by omega)
      simp only [e1', e2', e3, e4, cond_false, Bool.and_false]
      cases h1 : ltI k 1 with
      | true => rfl
      | false =>
        rw [h1, Bool.false_or] at a5
        rw [a5]
        rfl
theorem k57_eq (a b : Int) : k57 a b = some ((imax a b, ()), ()) := by
  rw [k57, ltI, imax]
  by_cases h : b < a
  · rw [decide_eq_true h, if_neg (by omega)]
  · rw [decide_eq_false h]
    by_cases h' : b > a
    · rw [if_pos h']
    · rw [if_neg h', show a = b by omega]
theorem imax_max (a b : Int) : imax a b = max a b := by
  unfold imax
  split <;> omega
mutual
def loopS : GS → Int
  | .mk k _ _ _ t f => let m := imax (loopSs 0 t) (loopSs 0 f); bif eqI k 4 then w64 (m + 1) else m
def loopSs : Int → List GS → Int
  | a, [] => a
  | a, s :: r => loopSs (imax a (loopS s)) r
end
theorem loopS_eq (s : GS) : loopS s = (bif eqI s.kind 4 then w64 (imax (loopSs 0 s.thn) (loopSs 0 s.els) + 1) else imax (loopSs 0 s.thn) (loopSs 0 s.els)) := by
  cases s
  simp only [loopS]
  rfl
theorem loopSs_fold : ∀ (l : List GS) (a : Int), loopSs a l = l.foldl (fun a s => imax a (loopS s)) a
  | [], a => by simp only [loopSs, List.foldl_nil]
  | s :: r, a => by simp only [loopSs, List.foldl_cons, loopSs_fold r]
theorem k55_of (l : List GS) (hl : l.length ≤ MX) (IH : ∀ s ∈ l, k55 s.thn = some ((loopSs 0 s.thn, ()), ()) ∧ k55 s.els = some ((loopSs 0 s.els, ()), ())) : k55 l = some ((loopSs 0 l, ()), ()) := by
  have := loop_fold (l := l) (σ := Int) (L := fun a i => k55_0 l a (i : Int)) (st := fun a s => imax a (loopS s)) (fin := fun a => ((a, ()), ())) (Inv := fun _ _ => True)
    (fun a i hi _ => ⟨trivial, by
      obtain ⟨i1, i2⟩ := IH _ (List.getElem_mem hi)
      rw [k55_0, ltI_true hi]
      simp only [idx_nat hi, Option.bind_eq_bind, Option.bind_some, i1, i2, k57_eq, w64_succ hl hi, loopS_eq]
      cases eqI l[i].kind 4 <;> rfl⟩)
    (fun a _ => by rw [k55_0, ltI_false (Nat.lt_irrefl _)]) l.length 0 0 (by omega) trivial
  rw [show ((0 : Nat) : Int) = 0 from rfl, List.drop_zero, ← loopSs_fold] at this
  rw [k55, this]
  rfl
theorem k76_of (l : List GS) (hl : l.length ≤ MX) (IH : ∀ s ∈ l, k76 s.thn = some ((loopSs 0 s.thn, ()), ()) ∧ k76 s.els = some ((loopSs 0 s.els, ()), ())) : k76 l = some ((loopSs 0 l, ()), ()) := by
  have := loop_fold (l := l) (σ := Int) (L := fun a i => k76_0 a l (l.length : Int) (i : Int)) (st := fun a s => imax a (loopS s)) (fin := fun a => ((a, ()), ())) (Inv := fun _ _ => True)
    (fun a i hi _ => ⟨trivial, by
      obtain ⟨i1, i2⟩ := IH _ (List.getElem_mem hi)
      rw [k76_0, ltI_true hi]
      simp only [idx_nat hi, Option.bind_eq_bind, Option.bind_some, i1, i2, w64_succ hl hi, loopS_eq]
      cases eqI l[i].kind 4 <;> rfl⟩)
    (fun a _ => by rw [k76_0, ltI_false (Nat.lt_irrefl _)]) l.length 0 0 (by omega) trivial
  rw [show ((0 : Nat) : Int) = 0 from rfl, List.drop_zero, ← loopSs_fold] at this
  rw [k76, this]
  rfl
theorem loops_eq : ∀ (n : Nat) (l : List GS), SizeOf.sizeOf l < n → l.length ≤ MX → okSs l → k55 l = some ((loopSs 0 l, ()), ()) ∧ k76 l = some ((loopSs 0 l, ()), ())
  | 0, l, h, _, _ => by omega
  | n + 1, l, h, hl, ho => by
    have key : ∀ s ∈ l, (k55 s.thn = some ((loopSs 0 s.thn, ()), ()) ∧ k76 s.thn = some ((loopSs 0 s.thn, ()), ())) ∧ (k55 s.els = some ((loopSs 0 s.els, ()), ()) ∧ k76 s.els = some ((loopSs 0 s.els, ()), ())) := fun s hs => by
      obtain ⟨_, _, _, ⟨h4, h5⟩, h6, h7⟩ := okS_at (okSs_mem ho hs)
      have q0 := List.sizeOf_lt_of_mem hs
      have q1 := GS.thn_lt (t := s)
      have q2 := GS.els_lt (t := s)
      exact ⟨loops_eq n _ (by omega) h4 h5, loops_eq n _ (by omega) h6 h7⟩
    exact ⟨k55_of l hl fun s hs => ⟨(key s hs).1.1, (key s hs).2.1⟩, k76_of l hl fun s hs => ⟨(key s hs).1.2, (key s hs).2.2⟩⟩
end Go.Lb.R
end
section
namespace Go.Lb.R
open Go.Lb
mutual
def depT : GT → Int
  | .mk k _ _ ks => bif ltI k 2 then 0 else bif ltI 4 k then 0 else w64 (depTs 0 ks + 1)
def depTs : Int → List GT → Int
  | a, [] => a
  | a, s :: r => depTs (imax a (depT s)) r
end
theorem depT_eq (s : GT) : depT s = (bif ltI s.kind 2 then 0 else bif ltI 4 s.kind then 0 else w64 (depTs 0 s.kids + 1)) := by
  cases s
  simp only [depT]
  rfl
theorem depTs_fold : ∀ (l : List GT) (a : Int), depTs a l = l.foldl (fun a s => imax a (depT s)) a
  | [], a => by simp only [depTs, List.foldl_nil]
  | s :: r, a => by simp only [depTs, List.foldl_cons, depTs_fold r]
theorem k58_loop (t : GT) (hl : t.kids.length ≤ MX) (IH : ∀ s ∈ t.kids, k58 s = some ((depT s, ()), ())) : k58_0 t 0 0 = some ((depTs 0 t.kids, ()), ()) := by
  have := loop_fold (l := t.kids) (σ := Int) (L := fun a i => k58_0 t a (i : Int)) (st := fun a s => imax a (depT s)) (fin := fun a => ((a, ()), ())) (Inv := fun _ _ => True)
    (fun a i hi _ => ⟨trivial, by
      rw [k58_0, ltI_true hi]
      simp only [idx_nat hi, Option.bind_eq_bind, Option.bind_some, IH _ (List.getElem_mem hi), k57_eq, w64_succ hl hi]⟩)
    (fun a _ => by rw [k58_0, ltI_false (Nat.lt_irrefl _)]) t.kids.length 0 0 (by omega) trivial
  rw [show ((0 : Nat) : Int) = 0 from rfl, List.drop_zero, ← depTs_fold] at this
  exact this
theorem k99_loop (l : List GT) (hl : l.length ≤ MX) (IH : ∀ s ∈ l, k99 s = some ((depT s, ()), ())) : k99_0 0 l (l.length : Int) 0 = some ((depTs 0 l, ()), ()) := by
  have := loop_fold (l := l) (σ := Int) (L := fun a i => k99_0 a l (l.length : Int) (i : Int)) (st := fun a s => imax a (depT s)) (fin := fun a => ((a, ()), ())) (Inv := fun _ _ => True)
    (fun a i hi _ => ⟨trivial, by
      rw [k99_0, ltI_true hi]
      simp only [idx_nat hi, Option.bind_eq_bind, Option.bind_some, IH _ (List.getElem_mem hi), w64_succ hl hi]⟩)
    (fun a _ => by rw [k99_0, ltI_false (Nat.lt_irrefl _)]) l.length 0 0 (by omega) trivial
  rw [show ((0 : Nat) : Int) = 0 from rfl, List.drop_zero, ← depTs_fold] at this
  exact this
theorem depT_ks : ∀ (n : Nat) (t : GT), SizeOf.sizeOf t < n → okT t → k58 t = some ((depT t, ()), ()) ∧ k99 t = some ((depT t, ()), ())
  | 0, t, h, _ => by omega
  | n + 1, t, h, ho => by
    obtain ⟨h1, h2⟩ := okT_kids ho
    have IH := fun x (hx : x ∈ t.kids) => depT_ks n x (by have := GT.kids_lt hx; omega) (h2 x hx)
    have e1 := k58_loop t h1 fun x hx => (IH x hx).1
    have e2 := k99_loop t.kids h1 fun x hx => (IH x hx).2
    rw [k58, k99, e1, e2, depT_eq]
    simp only [Option.bind_eq_bind, Option.bind_some, Int.add_comm 1]
    constructor <;> cases ltI t.kind 2 <;> cases ltI 4 t.kind <;> rfl
def parB (st : Int) (i : Nat) (sk : Int) : Bool := bif eqI st 1 then eqI sk 1 else bif ltI sk st then true else bif eqI (i : Int) 1 then eqI sk st else false
mutual
def depE : GE → Int
  | .mk k n s m ks => bif ltI k 3 then 0 else bif ltI 9 k then 0 else w64 (depEs (strE (.mk k n s m ks)) (eqI k 8) 0 0 ks + 1)
def depEs (st : Int) (b : Bool) : Nat → Int → List GE → Int
  | _, a, [] => a
  | i, a, x :: r => depEs st b (i + 1) (imax a (bif b && (ltI (i : Int) 2 && parB st i (strE x)) then w64 (depE x + 1) else depE x)) r
end
theorem depE_eq (s : GE) : depE s = (bif ltI s.kind 3 then 0 else bif ltI 9 s.kind then 0 else w64 (depEs (strE s) (eqI s.kind 8) 0 0 s.kids + 1)) := by
  cases s
  simp only [depE]
  rfl
theorem k93_eq {e : GE} {i : Nat} (h : i < e.kids.length) : k93 e (i : Int) = some ((parB (strE e) i (strE e.kids[i]), ()), ()) := by
  rw [k93]
  simp only [idx_nat h, Option.bind_eq_bind, Option.bind_some, k92_eq, parB]
  cases eqI (strE e) 1 <;> cases ltI (strE e.kids[i]) (strE e) <;> cases eqI (i : Int) 1 <;> rfl
theorem k127_eq {e : GE} {i : Nat} (h : i < e.kids.length) (hi : ltI (i : Int) 2 = true) : k127 e (i : Int) = some ((parB (strE e) i (strE e.kids[i]), ()), ()) := by
  have hi' : (i : Int) < 2 := of_decide_eq_true hi
  rw [k127]
  simp only [idx_nat h, Option.bind_eq_bind, Option.bind_some, k140_eq, parB]
  have hs1 := strE_range e
  have hs2 := strE_range e.kids[i]
  generalize strE e.kids[i] = s2 at *
  generalize strE e = s1 at *
  obtain rfl | rfl : i = 0 ∨ i = 1 := by omega
  all_goals
    rcases hs1 with rfl | rfl | rfl | rfl <;> rcases hs2 with rfl | rfl | rfl | rfl <;> rfl
theorem k60_loop (t : GE) (hl : t.kids.length ≤ MX) (IH : ∀ s ∈ t.kids, k60 s = some ((depE s, ()), ())) : ∀ (d i : Nat) (a : Int), i + d = t.kids.length → k60_0 t a (i : Int) = some ((depEs (strE t) (eqI t.kind 8) i a (t.kids.drop i), ()), ())
  | 0, i, a, h => by
    rw [List.drop_of_length_le (by omega), k60_0, ltI_false (by omega)]
    simp only [depEs]
  | d + 1, i, a, h => by
    have hi : i < t.kids.length := by omega
    rw [drop_at hi, k60_0, ltI_true hi]
    simp only [idx_nat hi, Option.bind_eq_bind, Option.bind_some, IH _ (List.getElem_mem hi), k93_eq hi, k57_eq, w64_succ hl hi, depEs]
    rw [← k60_loop t hl IH d (i + 1) _ (by omega)]
    cases eqI t.kind 8 <;> cases ltI (i : Int) 2 <;> cases parB (strE t) i (strE t.kids[i]) <;> rfl
theorem k102_loop (t : GE) (hl : t.kids.length ≤ MX) (IH : ∀ s ∈ t.kids, k102 s = some ((depE s, ()), ())) : ∀ (d i : Nat) (a : Int), i + d = t.kids.length → k102_0 t a t.kids (t.kids.length : Int) (i : Int) = some ((depEs (strE t) (eqI t.kind 8) i a (t.kids.drop i), ()), ())
  | 0, i, a, h => by
    rw [List.drop_of_length_le (by omega), k102_0, ltI_false (by omega)]
    simp only [depEs]
  | d + 1, i, a, h => by
    have hi : i < t.kids.length := by omega
    rw [drop_at hi, k102_0, ltI_true hi]
    simp only [idx_nat hi, Option.bind_eq_bind, Option.bind_some, IH _ (List.getElem_mem hi), w64_succ hl hi, depEs]
    rw [← k102_loop t hl IH d (i + 1) _ (by omega)]
    have e := @k127_eq t i hi
    cases eqI t.kind 8
    · cases ltI (i : Int) 2 <;> cases parB (strE t) i (strE t.kids[i]) <;> rfl
    · cases h2 : ltI (i : Int) 2
      · cases parB (strE t) i (strE t.kids[i]) <;> rfl
      · rw [e h2]
        cases parB (strE t) i (strE t.kids[i]) <;> rfl
theorem depE_ks : ∀ (n : Nat) (t : GE), SizeOf.sizeOf t < n → okE t → k60 t = some ((depE t, ()), ()) ∧ k102 t = some ((depE t, ()), ())
  | 0, t, h, _ => by omega
  | n + 1, t, h, ho => by
    obtain ⟨h1, h2⟩ := okE_kids ho
    have IH := fun x (hx : x ∈ t.kids) => depE_ks n x (by have := GE.kids_lt hx; omega) (h2 x hx)
    have e1 := k60_loop t h1 (fun x hx => (IH x hx).1) _ 0 0 (Nat.zero_add _)
    have e2 := k102_loop t h1 (fun x hx => (IH x hx).2) _ 0 0 (Nat.zero_add _)
    rw [show ((0 : Nat) : Int) = 0 from rfl, List.drop_zero] at e1 e2
    rw [k60, k102, e1, e2, depE_eq]
    simp only [Option.bind_eq_bind, Option.bind_some]
    constructor <;> cases ltI t.kind 3 <;> cases ltI 9 t.kind <;> rfl
mutual
def depS : GS → Int
  | .mk _ _ p e t f => w64 (1 + imax (imax (depE p) (depE e)) (imax (depSs 0 t) (depSs 0 f)))
def depSs : Int → List GS → Int
  | a, [] => a
  | a, s :: r => depSs (imax a (depS s)) r
end
theorem depS_eq (s : GS) : depS s = w64 (1 + imax (imax (depE s.place) (depE s.expr)) (imax (depSs 0 s.thn) (depSs 0 s.els))) := by
  cases s
  simp only [depS]
  rfl
theorem depSs_fold : ∀ (l : List GS) (a : Int), depSs a l = l.foldl (fun a s => imax a (depS s)) a
  | [], a => by simp only [depSs, List.foldl_nil]
  | s :: r, a => by simp only [depSs, List.foldl_cons, depSs_fold r]
theorem imax_assoc (a b c : Int) : imax (imax a b) c = imax a (imax b c) := by
  simp only [imax_max]
  omega
theorem k59_of (l : List GS) (hl : l.length ≤ MX) (ho : okSs l) (IH : ∀ s ∈ l, k59 s.thn = some ((depSs 0 s.thn, ()), ()) ∧ k59 s.els = some ((depSs 0 s.els, ()), ())) : k59 l = some ((depSs 0 l, ()), ()) := by
  have := loop_fold (l := l) (σ := Int) (L := fun a i => k59_0 l a (i : Int)) (st := fun a s => imax a (depS s)) (fin := fun a => ((a, ()), ())) (Inv := fun _ _ => True)
    (fun a i hi _ => ⟨trivial, by
      obtain ⟨i1, i2⟩ := IH _ (List.getElem_mem hi)
      obtain ⟨_, o1, o2, _, _⟩ := okS_at (okSs_mem ho (List.getElem_mem hi))
      rw [k59_0, ltI_true hi]
      simp only [idx_nat hi, Option.bind_eq_bind, Option.bind_some, i1, i2, k57_eq, w64_succ hl hi, depS_eq, (depE_ks _ _ (Nat.lt_succ_self _) o1).1, (depE_ks _ _ (Nat.lt_succ_self _) o2).1]⟩)
    (fun a _ => by rw [k59_0, ltI_false (Nat.lt_irrefl _)]) l.length 0 0 (by omega) trivial
  rw [show ((0 : Nat) : Int) = 0 from rfl, List.drop_zero, ← depSs_fold] at this
  rw [k59, this]
  rfl
theorem k59_eq : ∀ (n : Nat) (l : List GS), SizeOf.sizeOf l < n → l.length ≤ MX → okSs l → k59 l = some ((depSs 0 l, ()), ())
  | 0, l, h, _, _ => by omega
  | n + 1, l, h, hl, ho => k59_of l hl ho fun s hs => by
    obtain ⟨_, _, _, ⟨h4, h5⟩, h6, h7⟩ := okS_at (okSs_mem ho hs)
    have q0 := List.sizeOf_lt_of_mem hs
    have q1 := GS.thn_lt (t := s)
    have q2 := GS.els_lt (t := s)
    exact ⟨k59_eq n _ (by omega) h4 h5, k59_eq n _ (by omega) h6 h7⟩
theorem k101_loop (l : List GS) (hl : l.length ≤ MX) (IH : ∀ s ∈ l, k101 s = some ((depS s, ()), ())) : k101_0 0 l (l.length : Int) 0 = some ((depSs 0 l, ()), ()) := by
  have := loop_fold (l := l) (σ := Int) (L := fun a i => k101_0 a l (l.length : Int) (i : Int)) (st := fun a s => imax a (depS s)) (fin := fun a => ((a, ()), ())) (Inv := fun _ _ => True)
    (fun a i hi _ => ⟨trivial, by
      rw [k101_0, ltI_true hi]
      simp only [idx_nat hi, Option.bind_eq_bind, Option.bind_some, IH _ (List.getElem_mem hi), w64_succ hl hi]⟩)
    (fun a _ => by rw [k101_0, ltI_false (Nat.lt_irrefl _)]) l.length 0 0 (by omega) trivial
  rw [show ((0 : Nat) : Int) = 0 from rfl, List.drop_zero, ← depSs_fold] at this
  exact this
theorem k101_eq : ∀ (n : Nat) (s : GS), SizeOf.sizeOf s < n → okS s → k101 s = some ((depS s, ()), ())
  | 0, s, h, _ => by omega
  | n + 1, s, h, ho => by
    obtain ⟨h1, h2, h3, ⟨h4, h5⟩, h6, h7⟩ := okS_at ho
    have e1 := k101_loop s.thn h4 fun x hx => k101_eq n x (by have := thn_mem_lt hx; omega) (okSs_mem h5 hx)
    have e2 := k101_loop s.els h6 fun x hx => k101_eq n x (by have := els_mem_lt hx; omega) (okSs_mem h7 hx)
    rw [k101, e1, e2, depS_eq]
    simp only [(depE_ks _ _ (Nat.lt_succ_self _) h2).2, (depE_ks _ _ (Nat.lt_succ_self _) h3).2, Option.bind_eq_bind, Option.bind_some, imax_assoc]
end Go.Lb.R
end
section
namespace Go.Lb.R
open Go.Lb
theorem fold_ge {α : Type} (g : α → Int) : ∀ (l : List α) (a : Int), a ≤ l.foldl (fun a s => imax a (g s)) a
  | [], a => Int.le_refl _
  | s :: r, a => by
    have := fold_ge g r (imax a (g s))
    rw [List.foldl_cons]
    rw [imax_max] at this ⊢
    omega
theorem fold_acc {α : Type} (g : α → Int) : ∀ (l : List α) (a b : Int), b ≤ a → l.foldl (fun a s => imax a (g s)) a = imax a (l.foldl (fun a s => imax a (g s)) b)
  | [], a, b, h => by simp only [List.foldl_nil, imax_max]; omega
  | s :: r, a, b, h => by
    have h1 := fold_acc g r (imax a (g s)) (imax b (g s)) (by simp only [imax_max]; omega)
    have h2 := fold_ge g r (imax b (g s))
    rw [List.foldl_cons, List.foldl_cons, h1]
    simp only [imax_max] at h2 ⊢
    omega
def depPs (a : Int) (l : List GP) : Int := l.foldl (fun a p => imax a (depT p.ty)) a
def depF (f : GF) : Int := imax (imax (imax (depPs 0 f.params) (depT f.gives)) (depSs 0 f.body)) (depE f.value)
def depP (l : List GF) : Int := l.foldl (fun a f => imax a (depF f)) 0
theorem k66_eq (f : GF) (ho : okF f) : k66 f = some ((depF f, ()), ()) := by
  have e1 : k66_0 0 f.params (f.params.length : Int) 0 = some ((depPs 0 f.params, ()), ()) := by
    have := loop_fold (l := f.params) (σ := Int) (L := fun a i => k66_0 a f.params (f.params.length : Int) (i : Int)) (st := fun a p => imax a (depT p.ty)) (fin := fun a => ((a, ()), ())) (Inv := fun _ _ => True)
      (fun a i hi _ => ⟨trivial, by
        rw [k66_0, ltI_true hi]
        simp only [idx_nat hi, Option.bind_eq_bind, Option.bind_some, nf_eq, (depT_ks _ _ (Nat.lt_succ_self _) (ho.params.2 _ (List.getElem_mem hi)).2).2, w64_succ ho.params.1 hi]⟩)
      (fun a _ => by rw [k66_0, ltI_false (Nat.lt_irrefl _)]) f.params.length 0 0 (by omega) trivial
    rw [show ((0 : Nat) : Int) = 0 from rfl, List.drop_zero] at this
    exact this
  have e2 : k66_1 0 f.body (f.body.length : Int) 0 = some ((depSs 0 f.body, ()), ()) := by
    have := loop_fold (l := f.body) (σ := Int) (L := fun a i => k66_1 a f.body (f.body.length : Int) (i : Int)) (st := fun a s => imax a (depS s)) (fin := fun a => ((a, ()), ())) (Inv := fun _ _ => True)
      (fun a i hi _ => ⟨trivial, by
        rw [k66_1, ltI_true hi]
        simp only [idx_nat hi, Option.bind_eq_bind, Option.bind_some, nf_eq, k101_eq _ _ (Nat.lt_succ_self _) (okSs_mem ho.body.2 (List.getElem_mem hi)), w64_succ ho.body.1 hi]⟩)
      (fun a _ => by rw [k66_1, ltI_false (Nat.lt_irrefl _)]) f.body.length 0 0 (by omega) trivial
    rw [show ((0 : Nat) : Int) = 0 from rfl, List.drop_zero, ← depSs_fold] at this
    exact this
  rw [k66, e1, e2]
  simp only [(depT_ks _ _ (Nat.lt_succ_self _) ho.gives).2, (depE_ks _ _ (Nat.lt_succ_self _) ho.value).2, Option.bind_eq_bind, Option.bind_some, depF]
theorem k36_eq (l : List GF) (ho : okPr l) : k36 l = some ((depP l, ()), ()) := by
  have := loop_fold (l := l) (σ := Int) (L := fun a i => k36_0 a l (l.length : Int) (i : Int)) (st := fun a p => imax a (depF p)) (fin := fun a => ((a, ()), ())) (Inv := fun _ _ => True)
    (fun a i hi _ => ⟨trivial, by
      rw [k36_0, ltI_true hi]
      simp only [idx_nat hi, Option.bind_eq_bind, Option.bind_some, nf_eq, k66_eq _ (ho.2 _ (List.getElem_mem hi)), w64_succ ho.1 hi]⟩)
    (fun a _ => by rw [k36_0, ltI_false (Nat.lt_irrefl _)]) l.length 0 0 (by omega) trivial
  rw [show ((0 : Nat) : Int) = 0 from rfl, List.drop_zero] at this
  rw [k36, this]
  rfl
theorem k30_0_eq (l : List GF) (hl : l.length ≤ MX) (j : Nat) (hj : j < l.length) (ho : okF l[j]) (a : Int) : k30_0 l a (j : Int) 0 = some ((depPs a l[j].params, ()), ()) := by
  have := loop_fold (l := l[j].params) (σ := Int) (L := fun a i => k30_0 l a (j : Int) (i : Int)) (st := fun a p => imax a (depT p.ty)) (fin := fun a => ((a, ()), ())) (Inv := fun _ _ => True)
    (fun a i hi _ => ⟨trivial, by
      rw [k30_0]
      simp only [idx_nat hj, ltI_true hi, idx_nat hi, Option.bind_eq_bind, Option.bind_some, nf_eq, k57_eq, (depT_ks _ _ (Nat.lt_succ_self _) (ho.params.2 _ (List.getElem_mem hi)).2).1, w64_succ ho.params.1 hi]⟩)
    (fun a _ => by
      rw [k30_0]
      simp only [idx_nat hj, ltI_false (Nat.lt_irrefl _), Option.bind_eq_bind, Option.bind_some]) l[j].params.length 0 a (by omega) trivial
  rw [show ((0 : Nat) : Int) = 0 from rfl, List.drop_zero] at this
  exact this
theorem k30_eq (l : List GF) (ho : okPr l) : k30 l = some ((depP l, ()), ()) := by
  have := loop_fold (l := l) (σ := Int) (L := fun a i => k30_1 l a (i : Int)) (st := fun a p => imax a (depF p)) (fin := fun a => ((a, ()), ())) (Inv := fun _ a => 0 ≤ a)
    (fun a i hi ha => by
      have of := ho.2 _ (List.getElem_mem hi)
      refine ⟨by rw [imax_max]; omega, ?_⟩
      show k30_1 l a (i : Int) = _
      rw [k30_1, ltI_true hi]
      simp only [idx_nat hi, Option.bind_eq_bind, Option.bind_some, nf_eq, k57_eq, (depT_ks _ _ (Nat.lt_succ_self _) of.gives).1, k59_eq _ _ (Nat.lt_succ_self _) of.body.1 of.body.2, (depE_ks _ _ (Nat.lt_succ_self _) of.value).1, k30_0_eq l ho.1 i hi of, w64_succ ho.1 hi]
      have e : depPs (imax a (imax (depT l[i].gives) (imax (depSs 0 l[i].body) (depE l[i].value)))) l[i].params = imax a (depF l[i]) := by
        unfold depPs depF
        rw [fold_acc (fun p : GP => depT p.ty) l[i].params _ 0 (by simp only [imax_max]; omega)]
        simp only [imax_max, depPs]
        omega
      rw [e])
    (fun a _ => by rw [k30_1, ltI_false (Nat.lt_irrefl _)]) l.length 0 0 (by omega) (Int.le_refl _)
  rw [show ((0 : Nat) : Int) = 0 from rfl, List.drop_zero] at this
  rw [k30, this]
  rfl
def namesL (l : List Str) : Bool := l.all nameB && leI (l.length : Int) 30
def parB1 (p : GP) : Bool := nameB p.name && rightT p.ty
def paramsL (l : List GP) : Bool := l.all parB1 && leI (l.length : Int) 30
def evenB (l : List Str) : Bool := eqI (Int.tmod (l.length : Int) 2) 0
def rightF (f : GF) : Bool := nameB f.name && (namesL f.lives && (paramsL f.params && (rightT f.gives && (namesL f.outs && (evenB f.outs && (rightL f.body && (leI (loopSs 0 f.body) 3 && rightE f.value)))))))
def rightP (p : List GF) : Bool := leI (depP p) 40 && (leI (p.length : Int) 30 && p.all rightF)
theorem k53_eq (l : List Str) (ho : okNs l) : k53 l = some ((namesL l, ()), ()) := by
  have := loop_all0 (l := l) (p := nameB) (L := fun i => k53_0 l (i : Int)) (good := Sum.inl ((), ())) (bad := fun j => Sum.inr ((false, ()), ()))
    (fun i hi => by
      rw [k53_0, ltI_true hi]
      simp only [idx_nat hi, Option.bind_eq_bind, Option.bind_some, nf_eq, w64_succ ho.1 hi, k51_eq _ (ho.2 _ (List.getElem_mem hi))]
      cases nameB l[i] <;> rfl)
    (by rw [k53_0, ltI_false (Nat.lt_irrefl _)])
  rw [show ((0 : Nat) : Int) = 0 from rfl] at this
  rw [k53, namesL]
  rcases this with ⟨h1, h2⟩ | ⟨⟨j, h1⟩, h2⟩
  · rw [h1, h2]; rfl
  · rw [h1, h2]; rfl
theorem k29_loop (f : GF) (ho : okPs f.params) : (k29_0 f 0 = some (Sum.inl ((), ())) ∧ f.params.all parB1 = true) ∨ (k29_0 f 0 = some (Sum.inr ((false, ()), ())) ∧ f.params.all parB1 = false) := by
  have := loop_all0 (l := f.params) (p := parB1) (L := fun i => k29_0 f (i : Int)) (good := Sum.inl ((), ())) (bad := fun j => Sum.inr ((false, ()), ()))
    (fun i hi => by
      have o := ho.2 _ (List.getElem_mem hi)
      rw [k29_0, ltI_true hi]
      simp only [idx_nat hi, Option.bind_eq_bind, Option.bind_some, nf_eq, w64_succ ho.1 hi, k51_eq _ o.1, k52_eq _ _ (Nat.lt_succ_self _) o.2, parB1]
      cases nameB f.params[i].name <;> cases rightT f.params[i].ty <;> rfl)
    (by rw [k29_0, ltI_false (Nat.lt_irrefl _)])
  rw [show ((0 : Nat) : Int) = 0 from rfl] at this
  rcases this with h | ⟨⟨j, h1⟩, h2⟩
  · exact .inl h
  · exact .inr ⟨h1, h2⟩
theorem k29_eq (f : GF) (ho : okF f) : k29 f = some ((rightF f, ()), ()) := by
  have e54 := k54_of f.body ho.body.1 fun x hx => k90_eq _ x (Nat.lt_succ_self _) (okSs_mem ho.body.2 hx)
  rw [k29]
  simp only [k51_eq _ ho.name, k53_eq _ ho.lives, k53_eq _ ho.outs, k52_eq _ _ (Nat.lt_succ_self _) ho.gives, e54, (loops_eq _ _ (Nat.lt_succ_self _) ho.body.1 ho.body.2).1, k56_eq _ _ (Nat.lt_succ_self _) ho.value, Option.bind_eq_bind, Option.bind_some, rightF, paramsL, evenB]
  rcases k29_loop f ho.params with ⟨h1, h2⟩ | ⟨h1, h2⟩
  · rw [h1, h2]
    simp only [Option.bind_some]
    cases nameB f.name <;> cases namesL f.lives <;> try rfl
    cases leI (f.params.length : Int) 30 <;> cases rightT f.gives <;> try rfl
    cases namesL f.outs <;> cases eqI (Int.tmod (f.outs.length : Int) 2) 0 <;> try rfl
    cases rightL f.body <;> cases leI (loopSs 0 f.body) 3 <;> rfl
  · rw [h1, h2]
    simp only [Option.bind_some]
    cases nameB f.name <;> cases namesL f.lives <;> rfl
theorem k18_eq (p : List GF) (ho : okPr p) : k18 p = some ((rightP p, ()), ()) := by
  have := loop_all0 (l := p) (p := rightF) (L := fun i => k18_0 p (i : Int)) (good := Sum.inl ((), ())) (bad := fun j => Sum.inr ((false, ()), ()))
    (fun i hi => by
      rw [k18_0, ltI_true hi]
      simp only [idx_nat hi, Option.bind_eq_bind, Option.bind_some, nf_eq, w64_succ ho.1 hi, k29_eq _ (ho.2 _ (List.getElem_mem hi))]
      cases rightF p[i] <;> rfl)
    (by rw [k18_0, ltI_false (Nat.lt_irrefl _)])
  rw [show ((0 : Nat) : Int) = 0 from rfl] at this
  rw [k18, rightP]
  simp only [k30_eq p ho]
  rcases this with ⟨h1, h2⟩ | ⟨⟨j, h1⟩, h2⟩
  · rw [h1, h2]
    simp only [Option.bind_eq_bind, Option.bind_some]
    cases leI (p.length : Int) 30 <;> cases leI (depP p) 40 <;> rfl
  · rw [h1, h2]
    simp only [Option.bind_eq_bind, Option.bind_some]
    cases leI (p.length : Int) 30 <;> cases leI (depP p) 40 <;> rfl
theorem k38_0_all (l : List Str) (ho : okNs l) : (k38_0 l (l.length : Int) 0 = some (Sum.inl ((), ((), ()), ())) ∧ l.all nameB = true) ∨ ((∃ j : Nat, k38_0 l (l.length : Int) 0 = some (Sum.inr (((j : Int), ()), ((), ()), ()))) ∧ l.all nameB = false) :=
  loop_all0 (l := l) (p := nameB) (L := fun i => k38_0 l (l.length : Int) (i : Int)) (good := Sum.inl ((), ((), ()), ())) (bad := fun j => Sum.inr (((j : Int), ()), ((), ()), ()))
    (fun i hi => by
      rw [k38_0, ltI_true hi]
      simp only [idx_nat hi, Option.bind_eq_bind, Option.bind_some, nf_eq, w64_succ ho.1 hi, k70_eq _ (ho.2 _ (List.getElem_mem hi))]
      cases nameB l[i] <;> rfl)
    (by rw [k38_0, ltI_false (Nat.lt_irrefl _)])
theorem k38_1_all (l : List GP) (ho : okPs l) : (k38_1 l (l.length : Int) 0 = some (Sum.inl ((), ((), ()), ())) ∧ l.all parB1 = true) ∨ ((∃ j : Nat, k38_1 l (l.length : Int) 0 = some (Sum.inr (((j : Int), ()), ((), ()), ()))) ∧ l.all parB1 = false) :=
  loop_all0 (l := l) (p := parB1) (L := fun i => k38_1 l (l.length : Int) (i : Int)) (good := Sum.inl ((), ((), ()), ())) (bad := fun j => Sum.inr (((j : Int), ()), ((), ()), ()))
    (fun i hi => by
      have o := ho.2 _ (List.getElem_mem hi)
      rw [k38_1, ltI_true hi]
      simp only [idx_nat hi, Option.bind_eq_bind, Option.bind_some, nf_eq, w64_succ ho.1 hi, k70_eq _ o.1, k71_eq _ _ (Nat.lt_succ_self _) o.2, parB1]
      cases nameB l[i].name <;> cases rightT l[i].ty <;> rfl)
    (by rw [k38_1, ltI_false (Nat.lt_irrefl _)])
theorem k38_2_all (l : List GS) (hl : l.length ≤ MX) (ho : okSs l) : (k38_2 l (l.length : Int) 0 = some (Sum.inl ((), ((), ()), ())) ∧ l.all rightS = true) ∨ ((∃ j : Nat, k38_2 l (l.length : Int) 0 = some (Sum.inr (((j : Int), ()), ((), ()), ()))) ∧ l.all rightS = false) :=
  loop_all0 (l := l) (p := rightS) (L := fun i => k38_2 l (l.length : Int) (i : Int)) (good := Sum.inl ((), ((), ()), ())) (bad := fun j => Sum.inr (((j : Int), ()), ((), ()), ()))
    (fun i hi => by
      rw [k38_2, ltI_true hi]
      simp only [idx_nat hi, Option.bind_eq_bind, Option.bind_some, nf_eq, w64_succ hl hi, k75_eq _ _ (Nat.lt_succ_self _) (okSs_mem ho (List.getElem_mem hi))]
      cases rightS l[i] <;> rfl)
    (by rw [k38_2, ltI_false (Nat.lt_irrefl _)])
theorem k38_eq (f : GF) (ho : okF f) : k38 f = some ((rightF f, ()), ()) := by
  have e1 := k38_0_all f.lives ho.lives
  have e2 := k38_0_all f.outs ho.outs
  have e3 := k38_1_all f.params ho.params
  have e4 := k38_2_all f.body ho.body.1 ho.body.2
  rw [k38]
  simp only [k70_eq _ ho.name, k71_eq _ _ (Nat.lt_succ_self _) ho.gives, (loops_eq _ _ (Nat.lt_succ_self _) ho.body.1 ho.body.2).2, k77_eq _ _ (Nat.lt_succ_self _) ho.value, Option.bind_eq_bind, Option.bind_some, rightF, namesL, paramsL, evenB, rightL]
  generalize f.lives.all nameB = b1 at *
  generalize f.outs.all nameB = b2 at *
  generalize f.params.all parB1 = b3 at *
  generalize f.body.all rightS = b4 at *
  generalize k38_0 f.lives _ 0 = X1 at *
  generalize k38_0 f.outs _ 0 = X2 at *
  generalize k38_1 f.params _ 0 = X3 at *
  generalize k38_2 f.body _ 0 = X4 at *
  generalize leI (f.lives.length : Int) 30 = c1
  generalize leI (f.outs.length : Int) 30 = c2
  generalize leI (f.params.length : Int) 30 = c3
  generalize leI (f.body.length : Int) 30 = c4
  generalize nameB f.name = a1
  generalize rightT f.gives = a2
  generalize leI (loopSs 0 f.body) 3 = a3
  generalize rightE f.value = a4
  generalize eqI (Int.tmod (f.outs.length : Int) 2) 0 = a5
  clear ho
  cases a1 with
  | false => simp only [Option.bind_some, Bool.not_true, Bool.not_false, Bool.true_and, Bool.false_and, Bool.and_true, Bool.and_false, leI_neg, leI_nat]
  | true =>
    simp only [Option.bind_some, Bool.not_true, Bool.not_false, Bool.true_and, Bool.false_and, Bool.and_true, Bool.and_false, leI_neg, leI_nat]
    cases c1 with
    | false => simp only [Option.bind_some, Bool.not_true, Bool.not_false, Bool.true_and, Bool.false_and, Bool.and_true, Bool.and_false, leI_neg, leI_nat]
    | true =>
      simp only [Option.bind_some, Bool.not_true, Bool.not_false, Bool.true_and, Bool.false_and, Bool.and_true, Bool.and_false, leI_neg, leI_nat]
      rcases e1 with ⟨rfl, rfl⟩ | ⟨⟨j, rfl⟩, rfl⟩
      rotate_left
      · simp only [Option.bind_some, Bool.not_true, Bool.not_false, Bool.true_and, Bool.false_and, Bool.and_true, Bool.and_false, leI_neg, leI_nat]
      simp only [Option.bind_some, Bool.not_true, Bool.not_false, Bool.true_and, Bool.false_and, Bool.and_true, Bool.and_false, leI_neg, leI_nat]
      cases c3 with
      | false => simp only [Option.bind_some, Bool.not_true, Bool.not_false, Bool.true_and, Bool.false_and, Bool.and_true, Bool.and_false, leI_neg, leI_nat]
      | true =>
        simp only [Option.bind_some, Bool.not_true, Bool.not_false, Bool.true_and, Bool.false_and, Bool.and_true, Bool.and_false, leI_neg, leI_nat]
        rcases e3 with ⟨rfl, rfl⟩ | ⟨⟨j, rfl⟩, rfl⟩
        rotate_left
        · simp only [Option.bind_some, Bool.not_true, Bool.not_false, Bool.true_and, Bool.false_and, Bool.and_true, Bool.and_false, leI_neg, leI_nat]
        simp only [Option.bind_some, Bool.not_true, Bool.not_false, Bool.true_and, Bool.false_and, Bool.and_true, Bool.and_false, leI_neg, leI_nat]
        cases a2 with
        | false => simp only [Option.bind_some, Bool.not_true, Bool.not_false, Bool.true_and, Bool.false_and, Bool.and_true, Bool.and_false, leI_neg, leI_nat]
        | true =>
          simp only [Option.bind_some, Bool.not_true, Bool.not_false, Bool.true_and, Bool.false_and, Bool.and_true, Bool.and_false, leI_neg, leI_nat]
          cases c2 with
          | false => simp only [Option.bind_some, Bool.not_true, Bool.not_false, Bool.true_and, Bool.false_and, Bool.and_true, Bool.and_false, leI_neg, leI_nat]
          | true =>
            simp only [Option.bind_some, Bool.not_true, Bool.not_false, Bool.true_and, Bool.false_and, Bool.and_true, Bool.and_false, leI_neg, leI_nat]
            rcases e2 with ⟨rfl, rfl⟩ | ⟨⟨j, rfl⟩, rfl⟩
            rotate_left
            · simp only [Option.bind_some, Bool.not_true, Bool.not_false, Bool.true_and, Bool.false_and, Bool.and_true, Bool.and_false, leI_neg, leI_nat]
            simp only [Option.bind_some, Bool.not_true, Bool.not_false, Bool.true_and, Bool.false_and, Bool.and_true, Bool.and_false, leI_neg, leI_nat]
            cases a5 with
            | false => simp only [Option.bind_some, Bool.not_true, Bool.not_false, Bool.true_and, Bool.false_and, Bool.and_true, Bool.and_false, leI_neg, leI_nat]
            | true =>
              simp only [Option.bind_some, Bool.not_true, Bool.not_false, Bool.true_and, Bool.false_and, Bool.and_true, Bool.and_false, leI_neg, leI_nat]
              cases c4 with
              | false => simp only [Option.bind_some, Bool.not_true, Bool.not_false, Bool.true_and, Bool.false_and, Bool.and_true, Bool.and_false, leI_neg, leI_nat]
              | true =>
                simp only [Option.bind_some, Bool.not_true, Bool.not_false, Bool.true_and, Bool.false_and, Bool.and_true, Bool.and_false, leI_neg, leI_nat]
                rcases e4 with ⟨rfl, rfl⟩ | ⟨⟨j, rfl⟩, rfl⟩
                rotate_left
                · simp only [Option.bind_some, Bool.not_true, Bool.not_false, Bool.true_and, Bool.false_and, Bool.and_true, Bool.and_false, leI_neg, leI_nat]
                simp only [Option.bind_some, Bool.not_true, Bool.not_false, Bool.true_and, Bool.false_and, Bool.and_true, Bool.and_false, leI_neg, leI_nat]
                cases a3 with
                | false => simp only [Option.bind_some, Bool.not_true, Bool.not_false, Bool.true_and, Bool.false_and, Bool.and_true, Bool.and_false, leI_neg, leI_nat]
                | true =>
                  simp only [Option.bind_some, Bool.not_true, Bool.not_false, Bool.true_and, Bool.false_and, Bool.and_true, Bool.and_false, leI_neg, leI_nat]
theorem k22_eq (p : List GF) (ho : okPr p) : k22 p = some ((rightP p, ()), ()) := by
  have := loop_all0 (l := p) (p := rightF) (L := fun i => k22_0 p (p.length : Int) (i : Int)) (good := Sum.inl ((), ((), ()), ())) (bad := fun j => Sum.inr (((j : Int), ()), ((), ()), ()))
    (fun i hi => by
      rw [k22_0, ltI_true hi]
      simp only [idx_nat hi, Option.bind_eq_bind, Option.bind_some, nf_eq, w64_succ ho.1 hi, k38_eq _ (ho.2 _ (List.getElem_mem hi))]
      cases rightF p[i] <;> rfl)
    (by rw [k22_0, ltI_false (Nat.lt_irrefl _)])
  rw [show ((0 : Nat) : Int) = 0 from rfl] at this
  rw [k22, k36_eq p ho, rightP]
  simp only [Option.bind_eq_bind, Option.bind_some]
  rcases this with ⟨h1, h2⟩ | ⟨⟨j, h1⟩, h2⟩
  · rw [h1, h2]
    cases leI (p.length : Int) 30 <;> cases leI (depP p) 40 <;> rfl
  · rw [h1, h2]
    simp only [Option.bind_some, leI_nat]
    cases leI (p.length : Int) 30 <;> cases leI (depP p) 40 <;> rfl
end Go.Lb.R
end
section
namespace Go.Lb.R
open Go.Lb
abbrev LM : Nat := 274877906944
theorem app_ok {α : Type} {b : Nat} {l m : List α} (hb : b ≤ 512) (h : l.length + m.length ≤ LM) : app b l m = some (l ++ m) := by
  unfold app
  have : (l.length + m.length) * b ≤ LM * 512 := Nat.mul_le_mul h hb
  rw [if_pos (by simp only [LM] at this; omega)]
def inB (u : Str) (l : List Str) : Bool := l.any fun y => eqS u y
theorem inB_app (u s : Str) (l : List Str) : inB u (l ++ [s]) = (eqS u s || inB u l) := by
  simp only [inB, List.any_append, List.any_cons, List.any_nil, Bool.or_false]
  rw [Bool.or_comm]
theorem mgetL_put {β : Type} (u k : Str) (v : β) : ∀ l : Mp β, mgetL u (mputL k v l) = bif eqS u k then some v else mgetL u l
  | [] => by simp only [mputL, mgetL, eqS]
  | p :: l => by
    simp only [mputL]
    cases h : (k == p.1) with
    | true =>
      have e : k = p.1 := by simpa using h
      simp only [cond_true, mgetL]
      show (bif u == k then some v else mgetL u l) = bif u == k then some v else bif u == p.1 then some p.2 else mgetL u l
      cases h2 : (u == k) with
      | true => rfl
      | false => rw [← e, h2]; rfl
    | false =>
      simp only [cond_false, mgetL, mgetL_put u k v l]
      cases h2 : (u == p.1) with
      | true =>
        have e : u = p.1 := by simpa using h2
        have : eqS u k = false := by
          cases h3 : eqS u k with
          | false => rfl
          | true =>
            have := eqS_iff.1 h3
            rw [← this, e] at h
            simp at h
        rw [this]
        rfl
      | false => rfl
def lk (M : Mp Bool) : Str → Bool := fun u => mLook u M false
theorem lk_put (M : Mp Bool) (k : Str) : lk (mputL k true M) = fun u => eqS u k || lk M u := by
  funext u
  simp only [lk, mLook, mgetL_put]
  cases eqS u k <;> rfl
def allTrue (M : Mp Bool) : Prop := ∀ p ∈ M, p.2 = true
theorem allTrue_put {k : Str} : ∀ {M : Mp Bool}, allTrue M → allTrue (mputL k true M)
  | [], _ => fun p hp => by
    simp only [mputL, List.mem_singleton] at hp
    subst hp
    rfl
  | q :: M, h => by
    intro p hp
    simp only [mputL] at hp
    cases hb : (k == q.1) with
    | true =>
      rw [hb] at hp
      rcases List.mem_cons.1 hp with rfl | hp
      · rfl
      · exact h p (by simp [hp])
    | false =>
      rw [hb] at hp
      rcases List.mem_cons.1 hp with rfl | hp
      · exact h _ (by simp)
      · exact allTrue_put (fun p hp => h p (by simp [hp])) p hp
theorem innerL_id : ∀ {M : Mp Bool}, allTrue M → innerL M = M
  | [], _ => rfl
  | q :: M, h => by
    have h1 : q.2 = true := h q (by simp)
    have h2 := innerL_id (M := M) fun p hp => h p (by simp [hp])
    simp only [innerL, List.map_cons] at h2 ⊢
    rw [h2, ← h1]
theorem kh_inner_eq {M : Mp Bool} (h : allTrue M) : kh_inner M = some (((), ()), (M, (M, ()))) := by
  show some (((), ()), (M, (innerL M, ()))) = _
  rw [innerL_id h]
def onceGo : (Str → Bool) → List Str → Bool
  | _, [] => true
  | p, s :: r => !p s && onceGo (fun u => eqS u s || p u) r
theorem onceGo_iff : ∀ (l : List Str) (p : Str → Bool), onceGo p l = true ↔ l.Nodup ∧ ∀ s ∈ l, p s = false
  | [], p => by simp [onceGo]
  | s :: r, p => by
    simp only [onceGo, Bool.and_eq_true, onceGo_iff r, List.nodup_cons, List.mem_cons, Bool.or_eq_false_iff, Bool.not_eq_true']
    constructor
    · rintro ⟨h1, h2, h3⟩
      refine ⟨⟨fun hs => ?_, h2⟩, ?_⟩
      · have := (h3 s hs).1
        rw [eqS_refl] at this
        cases this
      · rintro t (rfl | ht)
        · exact h1
        · exact (h3 t ht).2
    · rintro ⟨⟨h1, h2⟩, h3⟩
      refine ⟨h3 s (.inl rfl), h2, fun t ht => ⟨?_, h3 t (.inr ht)⟩⟩
      cases h4 : eqS t s with
      | false => rfl
      | true => exact absurd (eqS_iff.1 h4 ▸ ht) h1
def once (l : List Str) : Bool := onceGo (fun _ => false) l
theorem once_iff (l : List Str) : once l = true ↔ l.Nodup := by simp [once, onceGo_iff]
theorem k43_eq (l : List Str) (hl : l.length ≤ MX) : k43 l = some ((once l, ()), ()) := by
  have : ∀ (d i : Nat) (M : Mp Bool), i + d = l.length → (∃ M', k43_0 l (l.length : Int) (i : Int) M = some (Sum.inl ((), M', ())) ∧ onceGo (lk M) (l.drop i) = true) ∨ (∃ M', k43_0 l (l.length : Int) (i : Int) M = some (Sum.inr ((false, ()), M', ())) ∧ onceGo (lk M) (l.drop i) = false) := by
    intro d
    induction d with
    | zero =>
      intro i M h
      refine .inl ⟨M, ?_, ?_⟩
      · rw [k43_0, ltI_false (by omega)]
      · rw [List.drop_of_length_le (by omega)]; rfl
    | succ d ih =>
      intro i M h
      have hi : i < l.length := by omega
      have := ih (i + 1) (mputL l[i] true M) (by omega)
      rw [lk_put] at this
      rw [drop_at hi, k43_0, ltI_true hi]
      simp only [idx_nat hi, Option.bind_eq_bind, Option.bind_some, nf_eq, w64_succ hl hi, onceGo]
      cases hL : lk M l[i] with
      | true =>
        have : mLook l[i] M false = true := hL
        rw [this]
        exact .inr ⟨M, rfl, rfl⟩
      | false =>
        have h0 : mLook l[i] M false = false := hL
        rw [h0]
        simpa using this
  have h0 := this l.length 0 [] (by omega)
  rw [show ((0 : Nat) : Int) = 0 from rfl, List.drop_zero, show lk [] = fun _ => false from rfl] at h0
  rw [k43]
  rcases h0 with ⟨M', h1, h2⟩ | ⟨M', h1, h2⟩
  · rw [h1, once, h2]; rfl
  · rw [h1, once, h2]; rfl
def cntI (s : Str) (l : List Str) : Int := ((l.countP fun y => eqS y s : Nat) : Int)
theorem k32_eq (s : Str) (l : List Str) (hl : l.length ≤ MX) : k32 s l = some ((cntI s l, ()), ()) := by
  have : ∀ (d i c : Nat), i + d = l.length → c ≤ i → k32_0 s l (c : Int) (i : Int) = some (((((c + (l.drop i).countP fun y => eqS y s : Nat)) : Int), ()), ()) := by
    intro d
    induction d with
    | zero =>
      intro i c h hc
      rw [List.drop_of_length_le (by omega), k32_0, ltI_false (by omega)]
      rfl
    | succ d ih =>
      intro i c h hc
      have hi : i < l.length := by omega
      rw [drop_at hi, k32_0, ltI_true hi]
      simp only [idx_nat hi, Option.bind_eq_bind, Option.bind_some, nf_eq, w64_succ hl hi, w64_succ hl (show c < l.length by omega), List.countP_cons]
      have h1 := ih (i + 1) c (by omega) (by omega)
      have h2 := ih (i + 1) (c + 1) (by omega) (by omega)
      cases hb : eqS l[i] s with
      | true =>
        simp only [if_true]
        rw [h2, Nat.add_assoc, Nat.add_comm 1]
      | false =>
        simp only [Bool.false_eq_true, if_false]
        rw [h1]
        rfl
  have := this l.length 0 0 (by omega) (by omega)
  rw [show ((0 : Nat) : Int) = 0 from rfl, List.drop_zero, Nat.zero_add] at this
  rw [k32, this]
  rfl
theorem cnt_any (s : Str) (l : List Str) : (l.countP fun y => eqS y s) = 0 ↔ inB s l = false := by
  rw [List.countP_eq_zero]
  simp only [inB, List.any_eq_false, eqS_comm s]
theorem cnt_pos (s : Str) (l : List Str) : ltI 0 (cntI s l) = inB s l := by
  cases h : inB s l with
  | false =>
    have := (cnt_any s l).2 h
    exact decide_eq_false (by simp only [cntI]; omega)
  | true =>
    have : ¬ (l.countP fun y => eqS y s) = 0 := fun e => by rw [(cnt_any s l).1 e] at h; cases h
    exact decide_eq_true (by simp only [cntI]; omega)
theorem cnt_zero (s : Str) (l : List Str) : eqI (cntI s l) 0 = !inB s l := by
  cases h : inB s l with
  | false =>
    have := (cnt_any s l).2 h
    exact decide_eq_true (by simp only [cntI]; omega)
  | true =>
    have : ¬ (l.countP fun y => eqS y s) = 0 := fun e => by rw [(cnt_any s l).1 e] at h; cases h
    exact decide_eq_false (by simp only [cntI]; omega)
theorem cnt_one (l : List Str) : (l.all fun s => eqI (cntI s l) 1) = once l := by
  rw [Bool.eq_iff_iff, once_iff, List.all_eq_true, List.nodup_iff_count]
  have e : ∀ s : Str, (l.countP fun y => eqS y s) = l.count s := fun s => rfl
  constructor
  · intro h s
    by_cases hs : s ∈ l
    · have := of_decide_eq_true (h s hs)
      simp only [cntI, e] at this
      omega
    · rw [List.count_eq_zero_of_not_mem hs]
      omega
  · intro h s hs
    have h1 := h s
    have h2 := List.count_pos_iff.2 hs
    exact decide_eq_true (by simp only [cntI, e]; omega)
mutual
def livesT : GT → List Str
  | .mk k s _ ks => (bif eqI k 4 then [s] else []) ++ livesTs ks
def livesTs : List GT → List Str
  | [] => []
  | t :: r => livesT t ++ livesTs r
end
mutual
def wtT : GT → Nat
  | .mk _ _ _ ks => wtTs ks + 1
def wtTs : List GT → Nat
  | [] => 0
  | t :: r => wtT t + wtTs r
end
theorem livesT_eq (t : GT) : livesT t = (bif eqI t.kind 4 then [t.life] else []) ++ livesTs t.kids := by
  cases t
  simp only [livesT]
  rfl
theorem wtT_eq (t : GT) : wtT t = wtTs t.kids + 1 := by
  cases t
  simp only [wtT]
  rfl
theorem wtTs_mem : ∀ {l : List GT} {t : GT}, t ∈ l → wtT t ≤ wtTs l
  | a :: l, t, h => by
    simp only [wtTs]
    rcases List.mem_cons.1 h with rfl | h
    · omega
    · have := wtTs_mem h
      omega
mutual
theorem livesT_len : ∀ t : GT, (livesT t).length ≤ wtT t
  | .mk k s m ks => by
    have := livesTs_len ks
    simp only [livesT, wtT]
    cases eqI k 4 <;> simp <;> omega
theorem livesTs_len : ∀ l : List GT, (livesTs l).length ≤ wtTs l
  | [] => by simp [livesTs, wtTs]
  | t :: r => by
    have h1 := livesT_len t
    have h2 := livesTs_len r
    simp only [livesTs, wtTs, List.length_append]
    omega
end
theorem k42_loop (l : List GT) (hl : l.length ≤ MX) (IH : ∀ t ∈ l, k42 t = some ((livesT t, ()), ())) : ∀ (d i : Nat) (a : List Str), i + d = l.length → a.length + wtTs (l.drop i) ≤ LM → k42_0 a l (l.length : Int) (i : Int) = some ((a ++ livesTs (l.drop i), ()), ())
  | 0, i, a, h, _ => by
    rw [List.drop_of_length_le (by omega), k42_0, ltI_false (by omega)]
    simp [livesTs]
  | d + 1, i, a, h, hw => by
    have hi : i < l.length := by omega
    rw [drop_at hi] at hw ⊢
    simp only [wtTs] at hw
    have hlen := livesT_len l[i]
    rw [k42_0, ltI_true hi]
    simp only [idx_nat hi, Option.bind_eq_bind, Option.bind_some, nf_eq, w64_succ hl hi, IH _ (List.getElem_mem hi)]
    rw [app_ok (by decide) (by omega)]
    simp only [Option.bind_some]
    rw [k42_loop l hl IH d (i + 1) _ (by omega) (by rw [List.length_append]; omega)]
    simp [livesTs]
theorem k42_eq : ∀ (n : Nat) (t : GT), SizeOf.sizeOf t < n → okT t → wtT t ≤ LM → k42 t = some ((livesT t, ()), ())
  | 0, t, h, _, _ => by omega
  | n + 1, t, h, ho, hw => by
    obtain ⟨h1, h2⟩ := okT_kids ho
    rw [wtT_eq] at hw
    have IH : ∀ x ∈ t.kids, k42 x = some ((livesT x, ()), ()) := fun x hx => k42_eq n x (by have := GT.kids_lt hx; omega) (h2 x hx) (by have := wtTs_mem hx; omega)
    have e0 := k42_loop t.kids h1 IH t.kids.length 0 [] (by omega) (by simp; omega)
    have e1 := k42_loop t.kids h1 IH t.kids.length 0 [t.life] (by omega) (by simp; omega)
    rw [show ((0 : Nat) : Int) = 0 from rfl, List.drop_zero] at e0 e1
    rw [k42, livesT_eq]
    cases eqI t.kind 4 with
    | true =>
      simp only [app_ok (b := 16) (l := ([] : List Str)) (m := [GT.life t]) (by decide) (by simp only [List.length_nil, List.length_cons]; decide), Option.bind_eq_bind, Option.bind_some]
      rw [List.nil_append, e1]
      rfl
    | false =>
      simp only
      rw [e0]
      rfl
theorem k31_loop (t : GT) (L : List Str) (hl : t.kids.length ≤ MX) (IH : ∀ x ∈ t.kids, k31 x L = some (((livesT x).all fun s => inB s L, ()), ())) : (k31_0 L t 0 = some (Sum.inl ((), ())) ∧ ((livesTs t.kids).all fun s => inB s L) = true) ∨ (k31_0 L t 0 = some (Sum.inr ((false, ()), ())) ∧ ((livesTs t.kids).all fun s => inB s L) = false) := by
  have := loop_all0 (l := t.kids) (p := fun x => (livesT x).all fun s => inB s L) (L := fun i => k31_0 L t (i : Int)) (good := Sum.inl ((), ())) (bad := fun j => Sum.inr ((false, ()), ()))
    (fun i hi => by
      rw [k31_0, ltI_true hi]
      simp only [idx_nat hi, Option.bind_eq_bind, Option.bind_some, nf_eq, w64_succ hl hi, IH _ (List.getElem_mem hi)]
      cases ((livesT t.kids[i]).all fun s => inB s L) <;> rfl)
    (by rw [k31_0, ltI_false (Nat.lt_irrefl _)])
  have e : ∀ l : List GT, (l.all fun x => (livesT x).all fun s => inB s L) = (livesTs l).all fun s => inB s L := by
    intro l
    induction l with
    | nil => rfl
    | cons a r ih => simp only [List.all_cons, livesTs, List.all_append, ih]
  rw [e, show ((0 : Nat) : Int) = 0 from rfl] at this
  rcases this with h | ⟨⟨j, h1⟩, h2⟩
  · exact .inl h
  · exact .inr ⟨h1, h2⟩
theorem k31_eq (L : List Str) (hL : L.length ≤ MX) : ∀ (n : Nat) (t : GT), SizeOf.sizeOf t < n → okT t → k31 t L = some (((livesT t).all fun s => inB s L, ()), ())
  | 0, t, h, _ => by omega
  | n + 1, t, h, ho => by
    obtain ⟨h1, h2⟩ := okT_kids ho
    have IH := fun x (hx : x ∈ t.kids) => k31_eq L hL n x (by have := GT.kids_lt hx; omega) (h2 x hx)
    have hlp := k31_loop t L h1 IH
    rw [k31, livesT_eq]
    simp only [k32_eq _ L hL, nf_eq, Option.bind_eq_bind, Option.bind_some, cnt_zero, List.all_append]
    cases eqI t.kind 4 with
    | true =>
      simp only [cond_true, List.all_cons, List.all_nil, Bool.and_true]
      cases inB t.life L with
      | false => rfl
      | true =>
        rcases hlp with ⟨h1, h2⟩ | ⟨h1, h2⟩ <;> rw [h1, h2] <;> rfl
    | false =>
      simp only [cond_false, List.all_nil, Bool.true_and]
      rcases hlp with ⟨h1, h2⟩ | ⟨h1, h2⟩ <;> rw [h1, h2] <;> rfl
end Go.Lb.R
end
