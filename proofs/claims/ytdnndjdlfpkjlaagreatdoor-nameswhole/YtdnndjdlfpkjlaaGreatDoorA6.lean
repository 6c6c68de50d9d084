/-
  Part 6 of 6. Of lienbooklaw04.NamesWhole: for every type that can be read as data the call returns true, and its argument reads as it did; the listed package variables hold what the program's text lays.
-/
import Derived.Test.YtdnndjdlfpkjlaaGreatDoorA5
import Derived.Test.YtdnndjdlfpkjlaaGreatDoorRows
import Derived.Test.YtdnndjdlfpkjlaaGreatDoorTie
import Derived.ChangeSame
import Derived.ChangeVars
import Derived.JoinedOf
import Derived.RowKit
import Derived.RowKitTokens
import Derived.LaidLaws
import Derived.LaidHandle
import Derived.LaidSub
import Derived.Lib.LaidTab
import Derived.Lay
import Derived.Carry
import Derived.Stop.Joined
import Derived.SevenTiedAt
import Derived.Test.YtdnndjdlfpkjlaaGreatDoorCards
section
set_option maxRecDepth 1000000
set_option maxHeartbeats 0
namespace Go.Lb.R
open Go.Lb
open Go.Proofs
def con7 (k : (List GF) → Option ((Int × Unit) × Unit)) : Con := ⟨⟨[(0, .sl .fn)], [], []⟩, [(.ret, ⟨[(1000, .int .i64)], [], []⟩)], fun x => k x.1.1⟩
def lp700 (k : Int → Int → GF → Option ((Int × Unit) × (GF × Unit))) : Con := ⟨⟨[(3, .int .i64), (5, .ptr 0 0), (6, .int .i64)], [(0, .cells 42 (.n .fn))], []⟩, [(.exit 2, ⟨[(3, .int .i64)], [(0, .cells 42 (.n .fn))], []⟩)], fun x => k x.1.1 x.1.2.2.1 x.2.1⟩
def lp701 (k : Int → Int → GF → Option ((Int × Unit) × (GF × Unit))) : Con := ⟨⟨[(3, .int .i64), (5, .ptr 0 0), (7, .int .i64)], [(0, .cells 42 (.n .fn))], []⟩, [(.exit 4, ⟨[(3, .int .i64)], [(0, .cells 42 (.n .fn))], []⟩)], fun x => k x.1.1 x.1.2.2.1 x.2.1⟩
def lp702 (k : Int → Int → GF → Option ((Int × Unit) × (GF × Unit))) : Con := ⟨⟨[(3, .int .i64), (5, .ptr 0 0), (8, .int .i64)], [(0, .cells 42 (.n .fn))], []⟩, [(.exit 6, ⟨[(3, .int .i64)], [(0, .cells 42 (.n .fn))], []⟩)], fun x => k x.1.1 x.1.2.2.1 x.2.1⟩
def lp703 (k : (List GF) → Int → Int → Option ((Int × Unit) × Unit)) : Con := ⟨⟨[(0, .sl .fn), (3, .int .i64), (4, .int .i64)], [], []⟩, [(.exit 0, ⟨[(3, .int .i64)], [], []⟩)], fun x => k x.1.1 x.1.2.1 x.1.2.2.1⟩
def con8 (k : (List GF) → Option (((Int × (Int × Unit)) × Unit) × Unit)) : Con := ⟨⟨[(0, .sl .fn)], [], []⟩, [(.ret, ⟨[(1000, .tuple [.int .i64, .int .i64])], [], []⟩)], fun x => k x.1.1⟩
def lp800 (k : (List GF) → Int → Option ((Unit × Unit) ⊕ ((Int × (Int × Unit)) × Unit))) : Con := ⟨⟨[(0, .sl .fn), (4, .int .i64)], [], []⟩, [(.exit 0, ⟨[], [], []⟩), (.ret, ⟨[(2, .int .i64), (3, .int .i64)], [], []⟩)], fun x => k x.1.1 x.1.2.1⟩
def con12 (k : GT → Option ((Bool × Unit) × Unit)) : Con := ⟨⟨[(0, .n .ty)], [], []⟩, [(.ret, ⟨[(1000, .bool)], [], []⟩)], fun x => k x.1.1⟩
def lp1200 (k : GT → Int → Option ((Unit × Unit) ⊕ ((Bool × Unit) × Unit))) : Con := ⟨⟨[(1, .ro (.n .ty)), (3, .int .i64)], [], []⟩, [(.exit 0, ⟨[], [], []⟩), (.ret, ⟨[(2, .bool)], [], []⟩)], fun x => k x.1.1 x.1.2.1⟩
def con13 (k : (List GF) → Str → Option ((Int × Unit) × Unit)) : Con := ⟨⟨[(0, .sl .fn), (1, .str)], [], []⟩, [(.ret, ⟨[(1000, .int .i64)], [], []⟩)], fun x => k x.1.1 x.1.2.1⟩
def lp1300 (k : (List GF) → Str → Int → Option ((Unit × Unit) ⊕ ((Int × Unit) × Unit))) : Con := ⟨⟨[(0, .sl .fn), (1, .str), (5, .int .i64)], [], []⟩, [(.exit 0, ⟨[], [], []⟩), (.ret, ⟨[(4, .int .i64)], [], []⟩)], fun x => k x.1.1 x.1.2.1 x.1.2.2.1⟩
def con15 (k : GT → Option ((Int × Unit) × Unit)) : Con := ⟨⟨[(0, .n .ty)], [], []⟩, [(.ret, ⟨[(1000, .int .i64)], [], []⟩)], fun x => k x.1.1⟩
def lp1500 (k : GT → Int → Int → Option ((Int × Unit) × Unit)) : Con := ⟨⟨[(1, .ro (.n .ty)), (3, .int .i64), (4, .int .i64)], [], []⟩, [(.exit 0, ⟨[(3, .int .i64)], [], []⟩)], fun x => k x.1.1 x.1.2.1 x.1.2.2.1⟩
def con16 (k : (List GS) → Option ((Int × Unit) × Unit)) : Con := ⟨⟨[(0, .sl .st)], [], []⟩, [(.ret, ⟨[(1000, .int .i64)], [], []⟩)], fun x => k x.1.1⟩
def lp1600 (k : (List GS) → Int → Int → Option ((Int × Unit) × Unit)) : Con := ⟨⟨[(0, .sl .st), (3, .int .i64), (4, .int .i64)], [], []⟩, [(.exit 0, ⟨[(3, .int .i64)], [], []⟩)], fun x => k x.1.1 x.1.2.1 x.1.2.2.1⟩
def con17 (k : GE → Option ((Int × Unit) × Unit)) : Con := ⟨⟨[(0, .n .ex)], [], []⟩, [(.ret, ⟨[(1000, .int .i64)], [], []⟩)], fun x => k x.1.1⟩
def lp1700 (k : GE → Int → Int → Option ((Int × Unit) × Unit)) : Con := ⟨⟨[(1, .ro (.n .ex)), (3, .int .i64), (4, .int .i64)], [], []⟩, [(.exit 0, ⟨[(3, .int .i64)], [], []⟩)], fun x => k x.1.1 x.1.2.1 x.1.2.2.1⟩
def con18 (k : (List GF) → Option ((Bool × Unit) × Unit)) : Con := ⟨⟨[(0, .sl .fn)], [], []⟩, [(.ret, ⟨[(1000, .bool)], [], []⟩)], fun x => k x.1.1⟩
def lp1800 (k : (List GF) → Int → Option ((Unit × Unit) ⊕ ((Bool × Unit) × Unit))) : Con := ⟨⟨[(0, .sl .fn), (3, .int .i64)], [], []⟩, [(.exit 0, ⟨[], [], []⟩), (.ret, ⟨[(2, .bool)], [], []⟩)], fun x => k x.1.1 x.1.2.1⟩
def con19 (k : GF → (List GF) → Option ((Int × Unit) × Unit)) : Con := ⟨⟨[(0, .n .fn), (1, .sl .fn)], [], []⟩, [(.ret, ⟨[(1000, .int .i64)], [], []⟩)], fun x => k x.1.1 x.1.2.1⟩
def lp1900 (k : GF → (List Str) → Bool → Bool → Int → Option (((List Str) × (Bool × (Bool × Unit))) × Unit)) : Con := ⟨⟨[(2, .ro (.n .fn)), (5, .own .str 0), (6, .bool), (7, .bool), (8, .int .i64)], [], [(0, 1, 9)]⟩, [(.exit 0, ⟨[(5, .own .str 0), (6, .bool), (7, .bool)], [], [(0, 1, 9)]⟩)], fun x => k x.1.1 x.1.2.1 x.1.2.2.1 x.1.2.2.2.1 x.1.2.2.2.2.1⟩
def lp1901 (k : GF → Bool → Int → Option ((Bool × Unit) × Unit)) : Con := ⟨⟨[(2, .ro (.n .fn)), (6, .bool), (9, .int .i64)], [], []⟩, [(.exit 2, ⟨[(6, .bool)], [], []⟩)], fun x => k x.1.1 x.1.2.1 x.1.2.2.1⟩
def lp1902 (k : GF → Bool → Int → Option ((Bool × Unit) × Unit)) : Con := ⟨⟨[(2, .ro (.n .fn)), (6, .bool), (10, .int .i64)], [], []⟩, [(.exit 4, ⟨[(6, .bool)], [], []⟩)], fun x => k x.1.1 x.1.2.1 x.1.2.2.1⟩
def con27 (k : GT → Option ((Bool × Unit) × Unit)) : Con := ⟨⟨[(0, .n .ty)], [], []⟩, [(.ret, ⟨[(1000, .bool)], [], []⟩)], fun x => k x.1.1⟩
def lp2700 (k : GT → Bool → Int → Option ((Bool × Unit) × Unit)) : Con := ⟨⟨[(1, .ro (.n .ty)), (3, .bool), (4, .int .i64)], [], []⟩, [(.exit 0, ⟨[(3, .bool)], [], []⟩)], fun x => k x.1.1 x.1.2.1 x.1.2.2.1⟩
def con29 (k : GF → Option ((Bool × Unit) × Unit)) : Con := ⟨⟨[(0, .n .fn)], [], []⟩, [(.ret, ⟨[(1000, .bool)], [], []⟩)], fun x => k x.1.1⟩
def lp2900 (k : GF → Int → Option ((Unit × Unit) ⊕ ((Bool × Unit) × Unit))) : Con := ⟨⟨[(1, .ro (.n .fn)), (3, .int .i64)], [], []⟩, [(.exit 0, ⟨[], [], []⟩), (.ret, ⟨[(2, .bool)], [], []⟩)], fun x => k x.1.1 x.1.2.1⟩
def con30 (k : (List GF) → Option ((Int × Unit) × Unit)) : Con := ⟨⟨[(0, .sl .fn)], [], []⟩, [(.ret, ⟨[(1000, .int .i64)], [], []⟩)], fun x => k x.1.1⟩
def lp3000 (k : (List GF) → Int → Int → Int → Option ((Int × Unit) × Unit)) : Con := ⟨⟨[(0, .sl .fn), (3, .int .i64), (4, .int .i64), (5, .int .i64)], [], []⟩, [(.exit 2, ⟨[(3, .int .i64)], [], []⟩)], fun x => k x.1.1 x.1.2.1 x.1.2.2.1 x.1.2.2.2.1⟩
def lp3001 (k : (List GF) → Int → Int → Option ((Int × Unit) × Unit)) : Con := ⟨⟨[(0, .sl .fn), (3, .int .i64), (4, .int .i64)], [], []⟩, [(.exit 0, ⟨[(3, .int .i64)], [], []⟩)], fun x => k x.1.1 x.1.2.1 x.1.2.2.1⟩
def con31 (k : GT → (List Str) → Option ((Bool × Unit) × Unit)) : Con := ⟨⟨[(0, .n .ty), (1, .sl .str)], [], []⟩, [(.ret, ⟨[(1000, .bool)], [], []⟩)], fun x => k x.1.1 x.1.2.1⟩
def lp3100 (k : (List Str) → GT → Int → Option ((Unit × Unit) ⊕ ((Bool × Unit) × Unit))) : Con := ⟨⟨[(1, .sl .str), (2, .ro (.n .ty)), (5, .int .i64)], [], []⟩, [(.exit 0, ⟨[], [], []⟩), (.ret, ⟨[(4, .bool)], [], []⟩)], fun x => k x.1.1 x.1.2.1 x.1.2.2.1⟩
def con32 (k : Str → (List Str) → Option ((Int × Unit) × Unit)) : Con := ⟨⟨[(0, .str), (1, .sl .str)], [], []⟩, [(.ret, ⟨[(1000, .int .i64)], [], []⟩)], fun x => k x.1.1 x.1.2.1⟩
def lp3200 (k : Str → (List Str) → Int → Int → Option ((Int × Unit) × Unit)) : Con := ⟨⟨[(0, .str), (1, .sl .str), (5, .int .i64), (6, .int .i64)], [], []⟩, [(.exit 0, ⟨[(5, .int .i64)], [], []⟩)], fun x => k x.1.1 x.1.2.1 x.1.2.2.1 x.1.2.2.2.1⟩
def con33 (k : (List GS) → (List Str) → (List GF) → Option ((((List Str) × (Bool × Unit)) × Unit) × Unit)) : Con := ⟨⟨[(0, .sl .st), (1, .sl .str), (2, .sl .fn)], [], []⟩, [(.ret, ⟨[(1000, .tuple [.sl .str, .bool])], [], []⟩)], fun x => k x.1.1 x.1.2.1 x.1.2.2.1⟩
def lp3300 (k : (List GS) → (List Str) → (List GF) → Int → Option ((((List Str) × Unit) × Unit) ⊕ ((Unit × (Bool × Unit)) × Unit))) : Con := ⟨⟨[(0, .sl .st), (1, .sl .str), (2, .sl .fn), (8, .int .i64)], [], []⟩, [(.exit 0, ⟨[(1, .sl .str)], [], []⟩), (.ret, ⟨[(6, .lit 5), (7, .bool)], [], []⟩)], fun x => k x.1.1 x.1.2.1 x.1.2.2.1 x.1.2.2.2.1⟩
def con34 (k : GE → (List Str) → (List GF) → Option ((Bool × Unit) × Unit)) : Con := ⟨⟨[(0, .n .ex), (1, .sl .str), (2, .sl .fn)], [], []⟩, [(.ret, ⟨[(1000, .bool)], [], []⟩)], fun x => k x.1.1 x.1.2.1 x.1.2.2.1⟩
def lp3400 (k : (List Str) → (List GF) → GE → Int → Option ((Unit × Unit) ⊕ ((Bool × Unit) × Unit))) : Con := ⟨⟨[(1, .sl .str), (2, .sl .fn), (3, .ro (.n .ex)), (7, .int .i64)], [], []⟩, [(.exit 0, ⟨[], [], []⟩), (.ret, ⟨[(6, .bool)], [], []⟩)], fun x => k x.1.1 x.1.2.1 x.1.2.2.1 x.1.2.2.2.1⟩
def con51 (k : Str → Option ((Bool × Unit) × Unit)) : Con := ⟨⟨[(0, .str)], [], []⟩, [(.ret, ⟨[(1000, .bool)], [], []⟩)], fun x => k x.1.1⟩
def lp5100 (k : Str → (List Str) → Int → Option ((Unit × Unit) ⊕ ((Bool × Unit) × Unit))) : Con := ⟨⟨[(0, .str), (3, .own .str 0), (4, .int .i64)], [], [(0, 1, 9)]⟩, [(.exit 0, ⟨[], [], []⟩), (.ret, ⟨[(2, .bool)], [], []⟩)], fun x => k x.1.1 x.1.2.1 x.1.2.2.1⟩
def con52 (k : GT → Option ((Bool × Unit) × Unit)) : Con := ⟨⟨[(0, .n .ty)], [], []⟩, [(.ret, ⟨[(1000, .bool)], [], []⟩)], fun x => k x.1.1⟩
def lp5200 (k : GT → Int → Option ((Unit × Unit) ⊕ ((Bool × Unit) × Unit))) : Con := ⟨⟨[(1, .ro (.n .ty)), (3, .int .i64)], [], []⟩, [(.exit 0, ⟨[], [], []⟩), (.ret, ⟨[(2, .bool)], [], []⟩)], fun x => k x.1.1 x.1.2.1⟩
def con53 (k : (List Str) → Option ((Bool × Unit) × Unit)) : Con := ⟨⟨[(0, .sl .str)], [], []⟩, [(.ret, ⟨[(1000, .bool)], [], []⟩)], fun x => k x.1.1⟩
def lp5300 (k : (List Str) → Int → Option ((Unit × Unit) ⊕ ((Bool × Unit) × Unit))) : Con := ⟨⟨[(0, .sl .str), (3, .int .i64)], [], []⟩, [(.exit 0, ⟨[], [], []⟩), (.ret, ⟨[(2, .bool)], [], []⟩)], fun x => k x.1.1 x.1.2.1⟩
def con54 (k : (List GS) → Option ((Bool × Unit) × Unit)) : Con := ⟨⟨[(0, .sl .st)], [], []⟩, [(.ret, ⟨[(1000, .bool)], [], []⟩)], fun x => k x.1.1⟩
def lp5400 (k : (List GS) → Int → Option ((Unit × Unit) ⊕ ((Bool × Unit) × Unit))) : Con := ⟨⟨[(0, .sl .st), (3, .int .i64)], [], []⟩, [(.exit 0, ⟨[], [], []⟩), (.ret, ⟨[(2, .bool)], [], []⟩)], fun x => k x.1.1 x.1.2.1⟩
def con55 (k : (List GS) → Option ((Int × Unit) × Unit)) : Con := ⟨⟨[(0, .sl .st)], [], []⟩, [(.ret, ⟨[(1000, .int .i64)], [], []⟩)], fun x => k x.1.1⟩
def lp5500 (k : (List GS) → Int → Int → Option ((Int × Unit) × Unit)) : Con := ⟨⟨[(0, .sl .st), (3, .int .i64), (4, .int .i64)], [], []⟩, [(.exit 0, ⟨[(3, .int .i64)], [], []⟩)], fun x => k x.1.1 x.1.2.1 x.1.2.2.1⟩
def con56 (k : GE → Option ((Bool × Unit) × Unit)) : Con := ⟨⟨[(0, .n .ex)], [], []⟩, [(.ret, ⟨[(1000, .bool)], [], []⟩)], fun x => k x.1.1⟩
def lp5600 (k : GE → Int → Option ((Unit × Unit) ⊕ ((Bool × Unit) × Unit))) : Con := ⟨⟨[(1, .ro (.n .ex)), (3, .int .i64)], [], []⟩, [(.exit 0, ⟨[], [], []⟩), (.ret, ⟨[(2, .bool)], [], []⟩)], fun x => k x.1.1 x.1.2.1⟩
def con57 (k : Int → Int → Option ((Int × Unit) × Unit)) : Con := ⟨⟨[(0, .int .i64), (1, .int .i64)], [], []⟩, [(.ret, ⟨[(1000, .int .i64)], [], []⟩)], fun x => k x.1.1 x.1.2.1⟩
def con58 (k : GT → Option ((Int × Unit) × Unit)) : Con := ⟨⟨[(0, .n .ty)], [], []⟩, [(.ret, ⟨[(1000, .int .i64)], [], []⟩)], fun x => k x.1.1⟩
def lp5800 (k : GT → Int → Int → Option ((Int × Unit) × Unit)) : Con := ⟨⟨[(1, .ro (.n .ty)), (3, .int .i64), (4, .int .i64)], [], []⟩, [(.exit 0, ⟨[(3, .int .i64)], [], []⟩)], fun x => k x.1.1 x.1.2.1 x.1.2.2.1⟩
def con59 (k : (List GS) → Option ((Int × Unit) × Unit)) : Con := ⟨⟨[(0, .sl .st)], [], []⟩, [(.ret, ⟨[(1000, .int .i64)], [], []⟩)], fun x => k x.1.1⟩
def lp5900 (k : (List GS) → Int → Int → Option ((Int × Unit) × Unit)) : Con := ⟨⟨[(0, .sl .st), (3, .int .i64), (4, .int .i64)], [], []⟩, [(.exit 0, ⟨[(3, .int .i64)], [], []⟩)], fun x => k x.1.1 x.1.2.1 x.1.2.2.1⟩
def con60 (k : GE → Option ((Int × Unit) × Unit)) : Con := ⟨⟨[(0, .n .ex)], [], []⟩, [(.ret, ⟨[(1000, .int .i64)], [], []⟩)], fun x => k x.1.1⟩
def lp6000 (k : GE → Int → Int → Option ((Int × Unit) × Unit)) : Con := ⟨⟨[(1, .ro (.n .ex)), (3, .int .i64), (4, .int .i64)], [], []⟩, [(.exit 0, ⟨[(3, .int .i64)], [], []⟩)], fun x => k x.1.1 x.1.2.1 x.1.2.2.1⟩
def con89 (k : Str → Option ((Bool × Unit) × Unit)) : Con := ⟨⟨[(0, .str)], [], []⟩, [(.ret, ⟨[(1000, .bool)], [], []⟩)], fun x => k x.1.1⟩
def con90 (k : GS → Option ((Bool × Unit) × Unit)) : Con := ⟨⟨[(0, .n .st)], [], []⟩, [(.ret, ⟨[(1000, .bool)], [], []⟩)], fun x => k x.1.1⟩
def con91 (k : GE → Option ((Bool × Unit) × Unit)) : Con := ⟨⟨[(0, .n .ex)], [], []⟩, [(.ret, ⟨[(1000, .bool)], [], []⟩)], fun x => k x.1.1⟩
def con92 (k : GE → Option ((Int × Unit) × Unit)) : Con := ⟨⟨[(0, .n .ex)], [], []⟩, [(.ret, ⟨[(1000, .int .i64)], [], []⟩)], fun x => k x.1.1⟩
def con93 (k : GE → Int → Option ((Bool × Unit) × Unit)) : Con := ⟨⟨[(0, .n .ex), (1, .int .i64)], [], []⟩, [(.ret, ⟨[(1000, .bool)], [], []⟩)], fun x => k x.1.1 x.1.2.1⟩
def con117 (k : Int → Option ((Bool × Unit) × Unit)) : Con := ⟨⟨[(0, .int .u8)], [], []⟩, [(.ret, ⟨[(1000, .bool)], [], []⟩)], fun x => k x.1.1⟩
def con118 (k : Str → Int → Option ((Int × Unit) × Unit)) : Con := ⟨⟨[(0, .str), (1, .int .i64)], [], []⟩, [(.ret, ⟨[(1000, .int .i64)], [], []⟩)], fun x => k x.1.1 x.1.2.1⟩
def lp11800 (k : Str → Int → Int → Option ((Int × Unit) × Unit)) : Con := ⟨⟨[(0, .str), (1, .int .i64), (5, .int .i64)], [], []⟩, [(.exit 0, ⟨[(5, .int .i64)], [], []⟩)], fun x => k x.1.1 x.1.2.1 x.1.2.2.1⟩
def con119 (k : Int → Option ((Bool × Unit) × Unit)) : Con := ⟨⟨[(0, .int .u8)], [], []⟩, [(.ret, ⟨[(1000, .bool)], [], []⟩)], fun x => k x.1.1⟩
def con125 (k : GE → Option ((Bool × Unit) × Unit)) : Con := ⟨⟨[(0, .n .ex)], [], []⟩, [(.ret, ⟨[(1000, .bool)], [], []⟩)], fun x => k x.1.1⟩
noncomputable def fi7 : FI := (lkF XFl 7).getD ⟨0, [], .skip, ⟨[], [], []⟩⟩
theorem fi7_eq : lkF XFl 7 = some fi7 := by kernel_rfl
noncomputable def fi8 : FI := (lkF XFl 8).getD ⟨0, [], .skip, ⟨[], [], []⟩⟩
theorem fi8_eq : lkF XFl 8 = some fi8 := by kernel_rfl
noncomputable def fi12 : FI := (lkF XFl 12).getD ⟨0, [], .skip, ⟨[], [], []⟩⟩
theorem fi12_eq : lkF XFl 12 = some fi12 := by kernel_rfl
noncomputable def fi13 : FI := (lkF XFl 13).getD ⟨0, [], .skip, ⟨[], [], []⟩⟩
theorem fi13_eq : lkF XFl 13 = some fi13 := by kernel_rfl
noncomputable def fi15 : FI := (lkF XFl 15).getD ⟨0, [], .skip, ⟨[], [], []⟩⟩
theorem fi15_eq : lkF XFl 15 = some fi15 := by kernel_rfl
noncomputable def fi16 : FI := (lkF XFl 16).getD ⟨0, [], .skip, ⟨[], [], []⟩⟩
theorem fi16_eq : lkF XFl 16 = some fi16 := by kernel_rfl
noncomputable def fi17 : FI := (lkF XFl 17).getD ⟨0, [], .skip, ⟨[], [], []⟩⟩
theorem fi17_eq : lkF XFl 17 = some fi17 := by kernel_rfl
noncomputable def fi18 : FI := (lkF XFl 18).getD ⟨0, [], .skip, ⟨[], [], []⟩⟩
theorem fi18_eq : lkF XFl 18 = some fi18 := by kernel_rfl
noncomputable def fi19 : FI := (lkF XFl 19).getD ⟨0, [], .skip, ⟨[], [], []⟩⟩
theorem fi19_eq : lkF XFl 19 = some fi19 := by kernel_rfl
noncomputable def fi27 : FI := (lkF XFl 27).getD ⟨0, [], .skip, ⟨[], [], []⟩⟩
theorem fi27_eq : lkF XFl 27 = some fi27 := by kernel_rfl
noncomputable def fi29 : FI := (lkF XFl 29).getD ⟨0, [], .skip, ⟨[], [], []⟩⟩
theorem fi29_eq : lkF XFl 29 = some fi29 := by kernel_rfl
noncomputable def fi30 : FI := (lkF XFl 30).getD ⟨0, [], .skip, ⟨[], [], []⟩⟩
theorem fi30_eq : lkF XFl 30 = some fi30 := by kernel_rfl
noncomputable def fi31 : FI := (lkF XFl 31).getD ⟨0, [], .skip, ⟨[], [], []⟩⟩
theorem fi31_eq : lkF XFl 31 = some fi31 := by kernel_rfl
noncomputable def fi32 : FI := (lkF XFl 32).getD ⟨0, [], .skip, ⟨[], [], []⟩⟩
theorem fi32_eq : lkF XFl 32 = some fi32 := by kernel_rfl
noncomputable def fi33 : FI := (lkF XFl 33).getD ⟨0, [], .skip, ⟨[], [], []⟩⟩
theorem fi33_eq : lkF XFl 33 = some fi33 := by kernel_rfl
noncomputable def fi34 : FI := (lkF XFl 34).getD ⟨0, [], .skip, ⟨[], [], []⟩⟩
theorem fi34_eq : lkF XFl 34 = some fi34 := by kernel_rfl
noncomputable def fi51 : FI := (lkF XFl 51).getD ⟨0, [], .skip, ⟨[], [], []⟩⟩
theorem fi51_eq : lkF XFl 51 = some fi51 := by kernel_rfl
noncomputable def fi52 : FI := (lkF XFl 52).getD ⟨0, [], .skip, ⟨[], [], []⟩⟩
theorem fi52_eq : lkF XFl 52 = some fi52 := by kernel_rfl
noncomputable def fi53 : FI := (lkF XFl 53).getD ⟨0, [], .skip, ⟨[], [], []⟩⟩
theorem fi53_eq : lkF XFl 53 = some fi53 := by kernel_rfl
noncomputable def fi54 : FI := (lkF XFl 54).getD ⟨0, [], .skip, ⟨[], [], []⟩⟩
theorem fi54_eq : lkF XFl 54 = some fi54 := by kernel_rfl
noncomputable def fi55 : FI := (lkF XFl 55).getD ⟨0, [], .skip, ⟨[], [], []⟩⟩
theorem fi55_eq : lkF XFl 55 = some fi55 := by kernel_rfl
noncomputable def fi56 : FI := (lkF XFl 56).getD ⟨0, [], .skip, ⟨[], [], []⟩⟩
theorem fi56_eq : lkF XFl 56 = some fi56 := by kernel_rfl
noncomputable def fi57 : FI := (lkF XFl 57).getD ⟨0, [], .skip, ⟨[], [], []⟩⟩
theorem fi57_eq : lkF XFl 57 = some fi57 := by kernel_rfl
noncomputable def fi58 : FI := (lkF XFl 58).getD ⟨0, [], .skip, ⟨[], [], []⟩⟩
theorem fi58_eq : lkF XFl 58 = some fi58 := by kernel_rfl
noncomputable def fi59 : FI := (lkF XFl 59).getD ⟨0, [], .skip, ⟨[], [], []⟩⟩
theorem fi59_eq : lkF XFl 59 = some fi59 := by kernel_rfl
noncomputable def fi60 : FI := (lkF XFl 60).getD ⟨0, [], .skip, ⟨[], [], []⟩⟩
theorem fi60_eq : lkF XFl 60 = some fi60 := by kernel_rfl
noncomputable def fi89 : FI := (lkF XFl 89).getD ⟨0, [], .skip, ⟨[], [], []⟩⟩
theorem fi89_eq : lkF XFl 89 = some fi89 := by kernel_rfl
noncomputable def fi90 : FI := (lkF XFl 90).getD ⟨0, [], .skip, ⟨[], [], []⟩⟩
theorem fi90_eq : lkF XFl 90 = some fi90 := by kernel_rfl
noncomputable def fi91 : FI := (lkF XFl 91).getD ⟨0, [], .skip, ⟨[], [], []⟩⟩
theorem fi91_eq : lkF XFl 91 = some fi91 := by kernel_rfl
noncomputable def fi92 : FI := (lkF XFl 92).getD ⟨0, [], .skip, ⟨[], [], []⟩⟩
theorem fi92_eq : lkF XFl 92 = some fi92 := by kernel_rfl
noncomputable def fi93 : FI := (lkF XFl 93).getD ⟨0, [], .skip, ⟨[], [], []⟩⟩
theorem fi93_eq : lkF XFl 93 = some fi93 := by kernel_rfl
noncomputable def fi117 : FI := (lkF XFl 117).getD ⟨0, [], .skip, ⟨[], [], []⟩⟩
theorem fi117_eq : lkF XFl 117 = some fi117 := by kernel_rfl
noncomputable def fi118 : FI := (lkF XFl 118).getD ⟨0, [], .skip, ⟨[], [], []⟩⟩
theorem fi118_eq : lkF XFl 118 = some fi118 := by kernel_rfl
noncomputable def fi119 : FI := (lkF XFl 119).getD ⟨0, [], .skip, ⟨[], [], []⟩⟩
theorem fi119_eq : lkF XFl 119 = some fi119 := by kernel_rfl
noncomputable def fi125 : FI := (lkF XFl 125).getD ⟨0, [], .skip, ⟨[], [], []⟩⟩
theorem fi125_eq : lkF XFl 125 = some fi125 := by kernel_rfl
noncomputable def b700 : Code := match cAt fi7.body [0, 1, 0, 1, 1, 0, 0, 1, 0, 0, 1, 0, 1, 1] with | .loop b => b | _ => .skip
theorem b700_eq : cAt fi7.body [0, 1, 0, 1, 1, 0, 0, 1, 0, 0, 1, 0, 1, 1] = .loop b700 := by kernel_rfl
noncomputable def b701 : Code := match cAt fi7.body [0, 1, 0, 1, 1, 1, 0, 0, 1, 0, 0, 1, 0, 1, 1] with | .loop b => b | _ => .skip
theorem b701_eq : cAt fi7.body [0, 1, 0, 1, 1, 1, 0, 0, 1, 0, 0, 1, 0, 1, 1] = .loop b701 := by kernel_rfl
noncomputable def b702 : Code := match cAt fi7.body [0, 1, 1, 1, 1, 1, 0, 0, 1, 0, 0, 1, 0, 1, 1] with | .loop b => b | _ => .skip
theorem b702_eq : cAt fi7.body [0, 1, 1, 1, 1, 1, 0, 0, 1, 0, 0, 1, 0, 1, 1] = .loop b702 := by kernel_rfl
noncomputable def b703 : Code := match cAt fi7.body [0, 1, 0, 1, 1] with | .loop b => b | _ => .skip
theorem b703_eq : cAt fi7.body [0, 1, 0, 1, 1] = .loop b703 := by kernel_rfl
noncomputable def b800 : Code := match cAt fi8.body [0, 1, 0, 1, 1] with | .loop b => b | _ => .skip
theorem b800_eq : cAt fi8.body [0, 1, 0, 1, 1] = .loop b800 := by kernel_rfl
noncomputable def b1200 : Code := match cAt fi12.body [0, 1, 0, 1] with | .loop b => b | _ => .skip
theorem b1200_eq : cAt fi12.body [0, 1, 0, 1] = .loop b1200 := by kernel_rfl
noncomputable def b1300 : Code := match cAt fi13.body [0, 1, 0, 1] with | .loop b => b | _ => .skip
theorem b1300_eq : cAt fi13.body [0, 1, 0, 1] = .loop b1300 := by kernel_rfl
noncomputable def b1500 : Code := match cAt fi15.body [0, 1, 0, 1, 1] with | .loop b => b | _ => .skip
theorem b1500_eq : cAt fi15.body [0, 1, 0, 1, 1] = .loop b1500 := by kernel_rfl
noncomputable def b1600 : Code := match cAt fi16.body [0, 1, 0, 1, 1] with | .loop b => b | _ => .skip
theorem b1600_eq : cAt fi16.body [0, 1, 0, 1, 1] = .loop b1600 := by kernel_rfl
noncomputable def b1700 : Code := match cAt fi17.body [0, 1, 0, 1, 1] with | .loop b => b | _ => .skip
theorem b1700_eq : cAt fi17.body [0, 1, 0, 1, 1] = .loop b1700 := by kernel_rfl
noncomputable def b1800 : Code := match cAt fi18.body [0, 1, 0, 1] with | .loop b => b | _ => .skip
theorem b1800_eq : cAt fi18.body [0, 1, 0, 1] = .loop b1800 := by kernel_rfl
noncomputable def b1900 : Code := match cAt fi19.body [0, 1, 0, 1, 1, 1, 1] with | .loop b => b | _ => .skip
theorem b1900_eq : cAt fi19.body [0, 1, 0, 1, 1, 1, 1] = .loop b1900 := by kernel_rfl
noncomputable def b1901 : Code := match cAt fi19.body [0, 1, 0, 1, 1, 1, 1, 1] with | .loop b => b | _ => .skip
theorem b1901_eq : cAt fi19.body [0, 1, 0, 1, 1, 1, 1, 1] = .loop b1901 := by kernel_rfl
noncomputable def b1902 : Code := match cAt fi19.body [0, 1, 0, 1, 1, 1, 1, 1, 1] with | .loop b => b | _ => .skip
theorem b1902_eq : cAt fi19.body [0, 1, 0, 1, 1, 1, 1, 1, 1] = .loop b1902 := by kernel_rfl
noncomputable def b2700 : Code := match cAt fi27.body [0, 1, 0, 1, 1] with | .loop b => b | _ => .skip
theorem b2700_eq : cAt fi27.body [0, 1, 0, 1, 1] = .loop b2700 := by kernel_rfl
noncomputable def b2900 : Code := match cAt fi29.body [0, 1, 0, 1] with | .loop b => b | _ => .skip
theorem b2900_eq : cAt fi29.body [0, 1, 0, 1] = .loop b2900 := by kernel_rfl
noncomputable def b3000 : Code := match cAt fi30.body [0, 1, 1, 0, 0, 1, 0, 0, 1, 0, 1, 1] with | .loop b => b | _ => .skip
theorem b3000_eq : cAt fi30.body [0, 1, 1, 0, 0, 1, 0, 0, 1, 0, 1, 1] = .loop b3000 := by kernel_rfl
noncomputable def b3001 : Code := match cAt fi30.body [0, 1, 0, 1, 1] with | .loop b => b | _ => .skip
theorem b3001_eq : cAt fi30.body [0, 1, 0, 1, 1] = .loop b3001 := by kernel_rfl
noncomputable def b3100 : Code := match cAt fi31.body [0, 1, 0, 1, 1] with | .loop b => b | _ => .skip
theorem b3100_eq : cAt fi31.body [0, 1, 0, 1, 1] = .loop b3100 := by kernel_rfl
noncomputable def b3200 : Code := match cAt fi32.body [0, 1, 0, 1, 1] with | .loop b => b | _ => .skip
theorem b3200_eq : cAt fi32.body [0, 1, 0, 1, 1] = .loop b3200 := by kernel_rfl
noncomputable def b3300 : Code := match cAt fi33.body [0, 1, 0, 1] with | .loop b => b | _ => .skip
theorem b3300_eq : cAt fi33.body [0, 1, 0, 1] = .loop b3300 := by kernel_rfl
noncomputable def b3400 : Code := match cAt fi34.body [0, 1, 0, 1] with | .loop b => b | _ => .skip
theorem b3400_eq : cAt fi34.body [0, 1, 0, 1] = .loop b3400 := by kernel_rfl
noncomputable def b5100 : Code := match cAt fi51.body [0, 1, 0, 1, 1] with | .loop b => b | _ => .skip
theorem b5100_eq : cAt fi51.body [0, 1, 0, 1, 1] = .loop b5100 := by kernel_rfl
noncomputable def b5200 : Code := match cAt fi52.body [0, 1, 0, 1] with | .loop b => b | _ => .skip
theorem b5200_eq : cAt fi52.body [0, 1, 0, 1] = .loop b5200 := by kernel_rfl
noncomputable def b5300 : Code := match cAt fi53.body [0, 1, 0, 1] with | .loop b => b | _ => .skip
theorem b5300_eq : cAt fi53.body [0, 1, 0, 1] = .loop b5300 := by kernel_rfl
noncomputable def b5400 : Code := match cAt fi54.body [0, 1, 0, 1] with | .loop b => b | _ => .skip
theorem b5400_eq : cAt fi54.body [0, 1, 0, 1] = .loop b5400 := by kernel_rfl
noncomputable def b5500 : Code := match cAt fi55.body [0, 1, 0, 1, 1] with | .loop b => b | _ => .skip
theorem b5500_eq : cAt fi55.body [0, 1, 0, 1, 1] = .loop b5500 := by kernel_rfl
noncomputable def b5600 : Code := match cAt fi56.body [0, 1, 0, 1] with | .loop b => b | _ => .skip
theorem b5600_eq : cAt fi56.body [0, 1, 0, 1] = .loop b5600 := by kernel_rfl
noncomputable def b5800 : Code := match cAt fi58.body [0, 1, 0, 1, 1, 1] with | .loop b => b | _ => .skip
theorem b5800_eq : cAt fi58.body [0, 1, 0, 1, 1, 1] = .loop b5800 := by kernel_rfl
noncomputable def b5900 : Code := match cAt fi59.body [0, 1, 0, 1, 1] with | .loop b => b | _ => .skip
theorem b5900_eq : cAt fi59.body [0, 1, 0, 1, 1] = .loop b5900 := by kernel_rfl
noncomputable def b6000 : Code := match cAt fi60.body [0, 1, 0, 1, 1, 1] with | .loop b => b | _ => .skip
theorem b6000_eq : cAt fi60.body [0, 1, 0, 1, 1, 1] = .loop b6000 := by kernel_rfl
noncomputable def b11800 : Code := match cAt fi118.body [0, 0, 1, 1] with | .loop b => b | _ => .skip
theorem b11800_eq : cAt fi118.body [0, 0, 1, 1] = .loop b11800 := by kernel_rfl
theorem grp_k15 (B : Nat) : (∀ a0 r, k15 a0 = some r → FnOK1 (X B) Ce 15 (con15 (fun _ => none)) ((a0, ()), ()) r) ∧ (∀ a0 a1 a2 r, k15_0 a0 a1 a2 = some r → LoopOK1 (X B) Ce fi15.n b1500 (lp1500 (fun _ _ _ => none)) ((a0, (a1, (a2, ()))), ()) r) := by
  refine k15.mutual_partial_correctness (motive_1 := fun a0 r => FnOK1 (X B) Ce 15 (con15 (fun _ => none)) ((a0, ()), ()) r) (motive_2 := fun a0 a1 a2 r => LoopOK1 (X B) Ce fi15.n b1500 (lp1500 (fun _ _ _ => none)) ((a0, (a1, (a2, ()))), ()) r) ?_ ?_
  · intro gk15_0 mk15_0 a0 r h
    have Hk15_0 : LpOKs (X B) Ce fi15.n b1500 (lp1500 gk15_0) := fun x r hx => mk15_0 x.1.1 x.1.2.1 x.1.2.2.1 r hx
    exact gfun (C := (mkC (lkCon []) (lkLp [(1500, 15, [0, 1, 0, 1, 1], (lp1500 gk15_0))]))) (cl := []) (ll := [(1500, 15, [0, 1, 0, 1, 1], (lp1500 gk15_0))]) (hX B _ _) (hF B _ _) trivial ⟨⟨fi15, b1500, fi15_eq, b1500_eq, Hk15_0⟩, trivial⟩ rfl rfl 60 (f := 15) (fi := fi15) fi15_eq (ct := (.seq .nil (.seq .nil (.seq (.seq .nil (.sub (.loop 1500))) .nil)))) (L := con15 (fun _ => none)) (x := ((a0, ()), ())) (krw h (by kernel_rfl))
  · intro gk15 gk15_0 mk15 mk15_0 a0 a1 a2 r h
    have Hk15 : FnOKs (X B) Ce 15 (con15 gk15) := fun x r hx => mk15 x.1.1 r hx
    have Hk15_0 : LpOKs (X B) Ce fi15.n b1500 (lp1500 gk15_0) := fun x r hx => mk15_0 x.1.1 x.1.2.1 x.1.2.2.1 r hx
    have HL := Hk15_0
    exact gloop (C := (mkC (lkCon [(15, (con15 gk15))]) (lkLp [(1500, 15, [0, 1, 0, 1, 1], (lp1500 gk15_0))]))) (cl := [(15, (con15 gk15))]) (ll := [(1500, 15, [0, 1, 0, 1, 1], (lp1500 gk15_0))]) (hX B _ _) (hF B _ _) ⟨Hk15, trivial⟩ ⟨⟨fi15, b1500, fi15_eq, b1500_eq, Hk15_0⟩, trivial⟩ rfl rfl 60 (f := 15) (fi := fi15) fi15_eq (p := [0, 1, 0, 1, 1]) b1500_eq (ct := .nil) (L := lp1500 gk15_0) HL (x := ((a0, (a1, (a2, ()))), ())) (krw h (by kernel_rfl))
theorem ok_k15 (B : Nat) : FnOKs (X B) Ce 15 (con15 k15) := fun x r hx => (grp_k15 B).1 x.1.1 r hx
theorem ok_k15_0 (B : Nat) : LpOKs (X B) Ce fi15.n b1500 (lp1500 k15_0) := fun x r hx => (grp_k15 B).2 x.1.1 x.1.2.1 x.1.2.2.1 r hx
theorem grp_k17 (B : Nat) : (∀ a0 r, k17 a0 = some r → FnOK1 (X B) Ce 17 (con17 (fun _ => none)) ((a0, ()), ()) r) ∧ (∀ a0 a1 a2 r, k17_0 a0 a1 a2 = some r → LoopOK1 (X B) Ce fi17.n b1700 (lp1700 (fun _ _ _ => none)) ((a0, (a1, (a2, ()))), ()) r) := by
  refine k17.mutual_partial_correctness (motive_1 := fun a0 r => FnOK1 (X B) Ce 17 (con17 (fun _ => none)) ((a0, ()), ()) r) (motive_2 := fun a0 a1 a2 r => LoopOK1 (X B) Ce fi17.n b1700 (lp1700 (fun _ _ _ => none)) ((a0, (a1, (a2, ()))), ()) r) ?_ ?_
  · intro gk17_0 mk17_0 a0 r h
    have Hk17_0 : LpOKs (X B) Ce fi17.n b1700 (lp1700 gk17_0) := fun x r hx => mk17_0 x.1.1 x.1.2.1 x.1.2.2.1 r hx
    exact gfun (C := (mkC (lkCon []) (lkLp [(1700, 17, [0, 1, 0, 1, 1], (lp1700 gk17_0))]))) (cl := []) (ll := [(1700, 17, [0, 1, 0, 1, 1], (lp1700 gk17_0))]) (hX B _ _) (hF B _ _) trivial ⟨⟨fi17, b1700, fi17_eq, b1700_eq, Hk17_0⟩, trivial⟩ rfl rfl 60 (f := 17) (fi := fi17) fi17_eq (ct := (.seq .nil (.seq .nil (.seq (.seq .nil (.sub (.loop 1700))) .nil)))) (L := con17 (fun _ => none)) (x := ((a0, ()), ())) (krw h (by kernel_rfl))
  · intro gk17 gk17_0 mk17 mk17_0 a0 a1 a2 r h
    have Hk17 : FnOKs (X B) Ce 17 (con17 gk17) := fun x r hx => mk17 x.1.1 r hx
    have Hk17_0 : LpOKs (X B) Ce fi17.n b1700 (lp1700 gk17_0) := fun x r hx => mk17_0 x.1.1 x.1.2.1 x.1.2.2.1 r hx
    have HL := Hk17_0
    exact gloop (C := (mkC (lkCon [(17, (con17 gk17))]) (lkLp [(1700, 17, [0, 1, 0, 1, 1], (lp1700 gk17_0))]))) (cl := [(17, (con17 gk17))]) (ll := [(1700, 17, [0, 1, 0, 1, 1], (lp1700 gk17_0))]) (hX B _ _) (hF B _ _) ⟨Hk17, trivial⟩ ⟨⟨fi17, b1700, fi17_eq, b1700_eq, Hk17_0⟩, trivial⟩ rfl rfl 60 (f := 17) (fi := fi17) fi17_eq (p := [0, 1, 0, 1, 1]) b1700_eq (ct := .nil) (L := lp1700 gk17_0) HL (x := ((a0, (a1, (a2, ()))), ())) (krw h (by kernel_rfl))
theorem ok_k17 (B : Nat) : FnOKs (X B) Ce 17 (con17 k17) := fun x r hx => (grp_k17 B).1 x.1.1 r hx
theorem ok_k17_0 (B : Nat) : LpOKs (X B) Ce fi17.n b1700 (lp1700 k17_0) := fun x r hx => (grp_k17 B).2 x.1.1 x.1.2.1 x.1.2.2.1 r hx
theorem grp_k16 (B : Nat) : (∀ a0 r, k16 a0 = some r → FnOK1 (X B) Ce 16 (con16 (fun _ => none)) ((a0, ()), ()) r) ∧ (∀ a0 a1 a2 r, k16_0 a0 a1 a2 = some r → LoopOK1 (X B) Ce fi16.n b1600 (lp1600 (fun _ _ _ => none)) ((a0, (a1, (a2, ()))), ()) r) := by
  refine k16.mutual_partial_correctness (motive_1 := fun a0 r => FnOK1 (X B) Ce 16 (con16 (fun _ => none)) ((a0, ()), ()) r) (motive_2 := fun a0 a1 a2 r => LoopOK1 (X B) Ce fi16.n b1600 (lp1600 (fun _ _ _ => none)) ((a0, (a1, (a2, ()))), ()) r) ?_ ?_
  · intro gk16_0 mk16_0 a0 r h
    have Hk16_0 : LpOKs (X B) Ce fi16.n b1600 (lp1600 gk16_0) := fun x r hx => mk16_0 x.1.1 x.1.2.1 x.1.2.2.1 r hx
    exact gfun (C := (mkC (lkCon []) (lkLp [(1600, 16, [0, 1, 0, 1, 1], (lp1600 gk16_0))]))) (cl := []) (ll := [(1600, 16, [0, 1, 0, 1, 1], (lp1600 gk16_0))]) (hX B _ _) (hF B _ _) trivial ⟨⟨fi16, b1600, fi16_eq, b1600_eq, Hk16_0⟩, trivial⟩ rfl rfl 60 (f := 16) (fi := fi16) fi16_eq (ct := (.seq .nil (.seq .nil (.seq (.seq .nil (.sub (.loop 1600))) .nil)))) (L := con16 (fun _ => none)) (x := ((a0, ()), ())) (krw h (by kernel_rfl))
  · intro gk16 gk16_0 mk16 mk16_0 a0 a1 a2 r h
    have Hk16 : FnOKs (X B) Ce 16 (con16 gk16) := fun x r hx => mk16 x.1.1 r hx
    have Hk16_0 : LpOKs (X B) Ce fi16.n b1600 (lp1600 gk16_0) := fun x r hx => mk16_0 x.1.1 x.1.2.1 x.1.2.2.1 r hx
    have HL := Hk16_0
    exact gloop (C := (mkC (lkCon [(16, (con16 gk16)), (17, (con17 k17))]) (lkLp [(1600, 16, [0, 1, 0, 1, 1], (lp1600 gk16_0))]))) (cl := [(16, (con16 gk16)), (17, (con17 k17))]) (ll := [(1600, 16, [0, 1, 0, 1, 1], (lp1600 gk16_0))]) (hX B _ _) (hF B _ _) ⟨Hk16, ok_k17 B, trivial⟩ ⟨⟨fi16, b1600, fi16_eq, b1600_eq, Hk16_0⟩, trivial⟩ rfl rfl 60 (f := 16) (fi := fi16) fi16_eq (p := [0, 1, 0, 1, 1]) b1600_eq (ct := (.seq (.seq (.join [] [] [(.normal, ⟨[(12, .bool)], [], []⟩)] .nil) .nil) .nil)) (L := lp1600 gk16_0) HL (x := ((a0, (a1, (a2, ()))), ())) (krw h (by kernel_rfl))
theorem ok_k16 (B : Nat) : FnOKs (X B) Ce 16 (con16 k16) := fun x r hx => (grp_k16 B).1 x.1.1 r hx
theorem ok_k16_0 (B : Nat) : LpOKs (X B) Ce fi16.n b1600 (lp1600 k16_0) := fun x r hx => (grp_k16 B).2 x.1.1 x.1.2.1 x.1.2.2.1 r hx
theorem grp_k7_0 (B : Nat) : (∀ a0 a1 a2 r, k7_0 a0 a1 a2 = some r → LoopOK1 (X B) Ce fi7.n b700 (lp700 (fun _ _ _ => none)) ((a0, ((), (a1, ()))), (a2, ())) r) := by
  refine k7_0.partial_correctness (motive := fun a0 a1 a2 r => LoopOK1 (X B) Ce fi7.n b700 (lp700 (fun _ _ _ => none)) ((a0, ((), (a1, ()))), (a2, ())) r) ?_
  · intro gk7_0 mk7_0 a0 a1 a2 r h
    have Hk7_0 : LpOKs (X B) Ce fi7.n b700 (lp700 gk7_0) := fun x r hx => mk7_0 x.1.1 x.1.2.2.1 x.2.1 r hx
    have HL := Hk7_0
    exact gloop (C := (mkC (lkCon [(15, (con15 k15))]) (lkLp [(700, 7, [0, 1, 0, 1, 1, 0, 0, 1, 0, 0, 1, 0, 1, 1], (lp700 gk7_0))]))) (cl := [(15, (con15 k15))]) (ll := [(700, 7, [0, 1, 0, 1, 1, 0, 0, 1, 0, 0, 1, 0, 1, 1], (lp700 gk7_0))]) (hX B _ _) (hF B _ _) ⟨ok_k15 B, trivial⟩ ⟨⟨fi7, b700, fi7_eq, b700_eq, Hk7_0⟩, trivial⟩ rfl rfl 60 (f := 7) (fi := fi7) fi7_eq (p := [0, 1, 0, 1, 1, 0, 0, 1, 0, 0, 1, 0, 1, 1]) b700_eq (ct := (.seq (.seq (.join [] [] [(.normal, ⟨[(58, .bool)], [], []⟩)] .nil) .nil) .nil)) (L := lp700 gk7_0) HL (x := ((a0, ((), (a1, ()))), (a2, ()))) (krw h (by kernel_rfl))
theorem ok_k7_0 (B : Nat) : LpOKs (X B) Ce fi7.n b700 (lp700 k7_0) := fun x r hx => (grp_k7_0 B) x.1.1 x.1.2.2.1 x.2.1 r hx
theorem grp_k7_1 (B : Nat) : (∀ a0 a1 a2 r, k7_1 a0 a1 a2 = some r → LoopOK1 (X B) Ce fi7.n b701 (lp701 (fun _ _ _ => none)) ((a0, ((), (a1, ()))), (a2, ())) r) := by
  refine k7_1.partial_correctness (motive := fun a0 a1 a2 r => LoopOK1 (X B) Ce fi7.n b701 (lp701 (fun _ _ _ => none)) ((a0, ((), (a1, ()))), (a2, ())) r) ?_
  · intro gk7_1 mk7_1 a0 a1 a2 r h
    have Hk7_1 : LpOKs (X B) Ce fi7.n b701 (lp701 gk7_1) := fun x r hx => mk7_1 x.1.1 x.1.2.2.1 x.2.1 r hx
    have HL := Hk7_1
    exact gloop (C := (mkC (lkCon []) (lkLp [(701, 7, [0, 1, 0, 1, 1, 1, 0, 0, 1, 0, 0, 1, 0, 1, 1], (lp701 gk7_1))]))) (cl := []) (ll := [(701, 7, [0, 1, 0, 1, 1, 1, 0, 0, 1, 0, 0, 1, 0, 1, 1], (lp701 gk7_1))]) (hX B _ _) (hF B _ _) trivial ⟨⟨fi7, b701, fi7_eq, b701_eq, Hk7_1⟩, trivial⟩ rfl rfl 60 (f := 7) (fi := fi7) fi7_eq (p := [0, 1, 0, 1, 1, 1, 0, 0, 1, 0, 0, 1, 0, 1, 1]) b701_eq (ct := .nil) (L := lp701 gk7_1) HL (x := ((a0, ((), (a1, ()))), (a2, ()))) (krw h (by kernel_rfl))
theorem ok_k7_1 (B : Nat) : LpOKs (X B) Ce fi7.n b701 (lp701 k7_1) := fun x r hx => (grp_k7_1 B) x.1.1 x.1.2.2.1 x.2.1 r hx
theorem grp_k7_2 (B : Nat) : (∀ a0 a1 a2 r, k7_2 a0 a1 a2 = some r → LoopOK1 (X B) Ce fi7.n b702 (lp702 (fun _ _ _ => none)) ((a0, ((), (a1, ()))), (a2, ())) r) := by
  refine k7_2.partial_correctness (motive := fun a0 a1 a2 r => LoopOK1 (X B) Ce fi7.n b702 (lp702 (fun _ _ _ => none)) ((a0, ((), (a1, ()))), (a2, ())) r) ?_
  · intro gk7_2 mk7_2 a0 a1 a2 r h
    have Hk7_2 : LpOKs (X B) Ce fi7.n b702 (lp702 gk7_2) := fun x r hx => mk7_2 x.1.1 x.1.2.2.1 x.2.1 r hx
    have HL := Hk7_2
    exact gloop (C := (mkC (lkCon []) (lkLp [(702, 7, [0, 1, 1, 1, 1, 1, 0, 0, 1, 0, 0, 1, 0, 1, 1], (lp702 gk7_2))]))) (cl := []) (ll := [(702, 7, [0, 1, 1, 1, 1, 1, 0, 0, 1, 0, 0, 1, 0, 1, 1], (lp702 gk7_2))]) (hX B _ _) (hF B _ _) trivial ⟨⟨fi7, b702, fi7_eq, b702_eq, Hk7_2⟩, trivial⟩ rfl rfl 60 (f := 7) (fi := fi7) fi7_eq (p := [0, 1, 1, 1, 1, 1, 0, 0, 1, 0, 0, 1, 0, 1, 1]) b702_eq (ct := .nil) (L := lp702 gk7_2) HL (x := ((a0, ((), (a1, ()))), (a2, ()))) (krw h (by kernel_rfl))
theorem ok_k7_2 (B : Nat) : LpOKs (X B) Ce fi7.n b702 (lp702 k7_2) := fun x r hx => (grp_k7_2 B) x.1.1 x.1.2.2.1 x.2.1 r hx
theorem grp_k7_3 (B : Nat) : (∀ a0 a1 a2 r, k7_3 a0 a1 a2 = some r → LoopOK1 (X B) Ce fi7.n b703 (lp703 (fun _ _ _ => none)) ((a0, (a1, (a2, ()))), ()) r) := by
  refine k7_3.partial_correctness (motive := fun a0 a1 a2 r => LoopOK1 (X B) Ce fi7.n b703 (lp703 (fun _ _ _ => none)) ((a0, (a1, (a2, ()))), ()) r) ?_
  · intro gk7_3 mk7_3 a0 a1 a2 r h
    have Hk7_3 : LpOKs (X B) Ce fi7.n b703 (lp703 gk7_3) := fun x r hx => mk7_3 x.1.1 x.1.2.1 x.1.2.2.1 r hx
    have HL := Hk7_3
    exact gloop (C := (mkC (lkCon [(15, (con15 k15)), (16, (con16 k16)), (17, (con17 k17))]) (lkLp [(700, 7, [0, 1, 0, 1, 1, 0, 0, 1, 0, 0, 1, 0, 1, 1], (lp700 k7_0)), (701, 7, [0, 1, 0, 1, 1, 1, 0, 0, 1, 0, 0, 1, 0, 1, 1], (lp701 k7_1)), (702, 7, [0, 1, 1, 1, 1, 1, 0, 0, 1, 0, 0, 1, 0, 1, 1], (lp702 k7_2)), (703, 7, [0, 1, 0, 1, 1], (lp703 gk7_3))]))) (cl := [(15, (con15 k15)), (16, (con16 k16)), (17, (con17 k17))]) (ll := [(700, 7, [0, 1, 0, 1, 1, 0, 0, 1, 0, 0, 1, 0, 1, 1], (lp700 k7_0)), (701, 7, [0, 1, 0, 1, 1, 1, 0, 0, 1, 0, 0, 1, 0, 1, 1], (lp701 k7_1)), (702, 7, [0, 1, 1, 1, 1, 1, 0, 0, 1, 0, 0, 1, 0, 1, 1], (lp702 k7_2)), (703, 7, [0, 1, 0, 1, 1], (lp703 gk7_3))]) (hX B _ _) (hF B _ _) ⟨ok_k15 B, ok_k16 B, ok_k17 B, trivial⟩ ⟨⟨fi7, b700, fi7_eq, b700_eq, ok_k7_0 B⟩, ⟨fi7, b701, fi7_eq, b701_eq, ok_k7_1 B⟩, ⟨fi7, b702, fi7_eq, b702_eq, ok_k7_2 B⟩, ⟨fi7, b703, fi7_eq, b703_eq, Hk7_3⟩, trivial⟩ rfl rfl 60 (f := 7) (fi := fi7) fi7_eq (p := [0, 1, 0, 1, 1]) b703_eq (ct := (.seq (.seq (.join [] [] [(.normal, ⟨[(16, .bool)], [], []⟩)] .nil) .nil) (.seq (.sub (.seq .nil (.seq .nil (.seq (.seq .nil (.sub (.loop 700))) (.seq (.seq .nil (.sub (.loop 701))) (.seq .nil (.sub (.loop 702)))))))) .nil))) (L := lp703 gk7_3) HL (x := ((a0, (a1, (a2, ()))), ())) (krw h (by kernel_rfl))
theorem ok_k7_3 (B : Nat) : LpOKs (X B) Ce fi7.n b703 (lp703 k7_3) := fun x r hx => (grp_k7_3 B) x.1.1 x.1.2.1 x.1.2.2.1 r hx
theorem ok_k7 (B : Nat) : FnOKs (X B) Ce 7 (con7 k7) := by
  have h : ∀ a0 r, k7 a0 = some r → FnOK1 (X B) Ce 7 (con7 (fun _ => none)) ((a0, ()), ()) r := fun a0 r h => gfun (C := (mkC (lkCon []) (lkLp [(703, 7, [0, 1, 0, 1, 1], (lp703 k7_3))]))) (cl := []) (ll := [(703, 7, [0, 1, 0, 1, 1], (lp703 k7_3))]) (hX B _ _) (hF B _ _) trivial ⟨⟨fi7, b703, fi7_eq, b703_eq, ok_k7_3 B⟩, trivial⟩ rfl rfl 60 (f := 7) (fi := fi7) fi7_eq (ct := (.seq .nil (.seq .nil (.seq (.seq .nil (.sub (.loop 703))) .nil)))) (L := con7 (fun _ => none)) (x := ((a0, ()), ())) (krw h (by kernel_rfl))
  exact fun x r hx => h x.1.1 r hx
theorem grp_k51_0 (B : Nat) : (∀ a0 a1 a2 r, k51_0 a0 a1 a2 = some r → LoopOK1 (X B) Ce fi51.n b5100 (lp5100 (fun _ _ _ => none)) ((a0, (a1, (a2, ()))), ()) r) := by
  refine k51_0.partial_correctness (motive := fun a0 a1 a2 r => LoopOK1 (X B) Ce fi51.n b5100 (lp5100 (fun _ _ _ => none)) ((a0, (a1, (a2, ()))), ()) r) ?_
  · intro gk51_0 mk51_0 a0 a1 a2 r h
    have Hk51_0 : LpOKs (X B) Ce fi51.n b5100 (lp5100 gk51_0) := fun x r hx => mk51_0 x.1.1 x.1.2.1 x.1.2.2.1 r hx
    have HL := Hk51_0
    exact gloop (C := (mkC (lkCon []) (lkLp [(5100, 51, [0, 1, 0, 1, 1], (lp5100 gk51_0))]))) (cl := []) (ll := [(5100, 51, [0, 1, 0, 1, 1], (lp5100 gk51_0))]) (hX B _ _) (hF B _ _) trivial ⟨⟨fi51, b5100, fi51_eq, b5100_eq, Hk51_0⟩, trivial⟩ rfl rfl 60 (f := 51) (fi := fi51) fi51_eq (p := [0, 1, 0, 1, 1]) b5100_eq (ct := .nil) (L := lp5100 gk51_0) HL (x := ((a0, (a1, (a2, ()))), ())) (krw h (by kernel_rfl))
theorem ok_k51_0 (B : Nat) : LpOKs (X B) Ce fi51.n b5100 (lp5100 k51_0) := fun x r hx => (grp_k51_0 B) x.1.1 x.1.2.1 x.1.2.2.1 r hx
theorem ok_k117 (B : Nat) : FnOKs (X B) Ce 117 (con117 k117) := by
  have h : ∀ a0 r, k117 a0 = some r → FnOK1 (X B) Ce 117 (con117 (fun _ => none)) ((a0, ()), ()) r := fun a0 r h => gfun (C := (mkC (lkCon []) (lkLp []))) (cl := []) (ll := []) (hX B _ _) (hF B _ _) trivial trivial rfl rfl 60 (f := 117) (fi := fi117) fi117_eq (ct := .nil) (L := con117 (fun _ => none)) (x := ((a0, ()), ())) (krw h (by kernel_rfl))
  exact fun x r hx => h x.1.1 r hx
theorem ok_k119 (B : Nat) : FnOKs (X B) Ce 119 (con119 k119) := by
  have h : ∀ a0 r, k119 a0 = some r → FnOK1 (X B) Ce 119 (con119 (fun _ => none)) ((a0, ()), ()) r := fun a0 r h => gfun (C := (mkC (lkCon []) (lkLp []))) (cl := []) (ll := []) (hX B _ _) (hF B _ _) trivial trivial rfl rfl 60 (f := 119) (fi := fi119) fi119_eq (ct := .nil) (L := con119 (fun _ => none)) (x := ((a0, ()), ())) (krw h (by kernel_rfl))
  exact fun x r hx => h x.1.1 r hx
theorem grp_k118_0 (B : Nat) : (∀ a0 a1 a2 r, k118_0 a0 a1 a2 = some r → LoopOK1 (X B) Ce fi118.n b11800 (lp11800 (fun _ _ _ => none)) ((a0, (a1, (a2, ()))), ()) r) := by
  refine k118_0.partial_correctness (motive := fun a0 a1 a2 r => LoopOK1 (X B) Ce fi118.n b11800 (lp11800 (fun _ _ _ => none)) ((a0, (a1, (a2, ()))), ()) r) ?_
  · intro gk118_0 mk118_0 a0 a1 a2 r h
    have Hk118_0 : LpOKs (X B) Ce fi118.n b11800 (lp11800 gk118_0) := fun x r hx => mk118_0 x.1.1 x.1.2.1 x.1.2.2.1 r hx
    have HL := Hk118_0
    exact gloop (C := (mkC (lkCon [(117, (con117 k117)), (119, (con119 k119))]) (lkLp [(11800, 118, [0, 0, 1, 1], (lp11800 gk118_0))]))) (cl := [(117, (con117 k117)), (119, (con119 k119))]) (ll := [(11800, 118, [0, 0, 1, 1], (lp11800 gk118_0))]) (hX B _ _) (hF B _ _) ⟨ok_k117 B, ok_k119 B, trivial⟩ ⟨⟨fi118, b11800, fi118_eq, b11800_eq, Hk118_0⟩, trivial⟩ rfl rfl 60 (f := 118) (fi := fi118) fi118_eq (p := [0, 0, 1, 1]) b11800_eq (ct := .nil) (L := lp11800 gk118_0) HL (x := ((a0, (a1, (a2, ()))), ())) (krw h (by kernel_rfl))
theorem ok_k118_0 (B : Nat) : LpOKs (X B) Ce fi118.n b11800 (lp11800 k118_0) := fun x r hx => (grp_k118_0 B) x.1.1 x.1.2.1 x.1.2.2.1 r hx
theorem ok_k118 (B : Nat) : FnOKs (X B) Ce 118 (con118 k118) := by
  have h : ∀ a0 a1 r, k118 a0 a1 = some r → FnOK1 (X B) Ce 118 (con118 (fun _ _ => none)) ((a0, (a1, ())), ()) r := fun a0 a1 r h => gfun (C := (mkC (lkCon []) (lkLp [(11800, 118, [0, 0, 1, 1], (lp11800 k118_0))]))) (cl := []) (ll := [(11800, 118, [0, 0, 1, 1], (lp11800 k118_0))]) (hX B _ _) (hF B _ _) trivial ⟨⟨fi118, b11800, fi118_eq, b11800_eq, ok_k118_0 B⟩, trivial⟩ rfl rfl 60 (f := 118) (fi := fi118) fi118_eq (ct := (.seq .nil (.seq .nil (.seq (.sub (.loop 11800)) .nil)))) (L := con118 (fun _ _ => none)) (x := ((a0, (a1, ())), ())) (krw h (by kernel_rfl))
  exact fun x r hx => h x.1.1 x.1.2.1 r hx
theorem ok_k89 (B : Nat) : FnOKs (X B) Ce 89 (con89 k89) := by
  have h : ∀ a0 r, k89 a0 = some r → FnOK1 (X B) Ce 89 (con89 (fun _ => none)) ((a0, ()), ()) r := fun a0 r h => gfun (C := (mkC (lkCon [(118, (con118 k118))]) (lkLp []))) (cl := [(118, (con118 k118))]) (ll := []) (hX B _ _) (hF B _ _) ⟨ok_k118 B, trivial⟩ trivial rfl rfl 60 (f := 89) (fi := fi89) fi89_eq (ct := .nil) (L := con89 (fun _ => none)) (x := ((a0, ()), ())) (krw h (by kernel_rfl))
  exact fun x r hx => h x.1.1 r hx
theorem ok_k51 (B : Nat) : FnOKs (X B) Ce 51 (con51 k51) := by
  have h : ∀ a0 r, k51 a0 = some r → FnOK1 (X B) Ce 51 (con51 (fun _ => none)) ((a0, ()), ()) r := fun a0 r h => gfun (C := (mkC (lkCon [(89, (con89 k89))]) (lkLp [(5100, 51, [0, 1, 0, 1, 1], (lp5100 k51_0))]))) (cl := [(89, (con89 k89))]) (ll := [(5100, 51, [0, 1, 0, 1, 1], (lp5100 k51_0))]) (hX B _ _) (hF B _ _) ⟨ok_k89 B, trivial⟩ ⟨⟨fi51, b5100, fi51_eq, b5100_eq, ok_k51_0 B⟩, trivial⟩ rfl rfl 60 (f := 51) (fi := fi51) fi51_eq (ct := (.seq .nil (.seq .nil (.seq (.seq .nil (.sub (.loop 5100))) .nil)))) (L := con51 (fun _ => none)) (x := ((a0, ()), ())) (krw h (by kernel_rfl))
  exact fun x r hx => h x.1.1 r hx
theorem grp_k52 (B : Nat) : (∀ a0 r, k52 a0 = some r → FnOK1 (X B) Ce 52 (con52 (fun _ => none)) ((a0, ()), ()) r) ∧ (∀ a0 a1 r, k52_0 a0 a1 = some r → LoopOK1 (X B) Ce fi52.n b5200 (lp5200 (fun _ _ => none)) ((a0, (a1, ())), ()) r) := by
  refine k52.mutual_partial_correctness (motive_1 := fun a0 r => FnOK1 (X B) Ce 52 (con52 (fun _ => none)) ((a0, ()), ()) r) (motive_2 := fun a0 a1 r => LoopOK1 (X B) Ce fi52.n b5200 (lp5200 (fun _ _ => none)) ((a0, (a1, ())), ()) r) ?_ ?_
  · intro gk52_0 mk52_0 a0 r h
    have Hk52_0 : LpOKs (X B) Ce fi52.n b5200 (lp5200 gk52_0) := fun x r hx => mk52_0 x.1.1 x.1.2.1 r hx
    exact gfun (C := (mkC (lkCon [(51, (con51 k51))]) (lkLp [(5200, 52, [0, 1, 0, 1], (lp5200 gk52_0))]))) (cl := [(51, (con51 k51))]) (ll := [(5200, 52, [0, 1, 0, 1], (lp5200 gk52_0))]) (hX B _ _) (hF B _ _) ⟨ok_k51 B, trivial⟩ ⟨⟨fi52, b5200, fi52_eq, b5200_eq, Hk52_0⟩, trivial⟩ rfl rfl 60 (f := 52) (fi := fi52) fi52_eq (ct := (.seq .nil (.seq (.seq .nil (.sub (.loop 5200))) (.seq .nil (.seq (.seq .nil (.seq (.seq (.join [] [] [(.normal, ⟨[(2, .bool)], [], []⟩)] .nil) .nil) .nil)) .nil))))) (L := con52 (fun _ => none)) (x := ((a0, ()), ())) (krw h (by kernel_rfl))
  · intro gk52 gk52_0 mk52 mk52_0 a0 a1 r h
    have Hk52 : FnOKs (X B) Ce 52 (con52 gk52) := fun x r hx => mk52 x.1.1 r hx
    have Hk52_0 : LpOKs (X B) Ce fi52.n b5200 (lp5200 gk52_0) := fun x r hx => mk52_0 x.1.1 x.1.2.1 r hx
    have HL := Hk52_0
    exact gloop (C := (mkC (lkCon [(52, (con52 gk52))]) (lkLp [(5200, 52, [0, 1, 0, 1], (lp5200 gk52_0))]))) (cl := [(52, (con52 gk52))]) (ll := [(5200, 52, [0, 1, 0, 1], (lp5200 gk52_0))]) (hX B _ _) (hF B _ _) ⟨Hk52, trivial⟩ ⟨⟨fi52, b5200, fi52_eq, b5200_eq, Hk52_0⟩, trivial⟩ rfl rfl 60 (f := 52) (fi := fi52) fi52_eq (p := [0, 1, 0, 1]) b5200_eq (ct := .nil) (L := lp5200 gk52_0) HL (x := ((a0, (a1, ())), ())) (krw h (by kernel_rfl))
theorem ok_k52 (B : Nat) : FnOKs (X B) Ce 52 (con52 k52) := fun x r hx => (grp_k52 B).1 x.1.1 r hx
theorem ok_k52_0 (B : Nat) : LpOKs (X B) Ce fi52.n b5200 (lp5200 k52_0) := fun x r hx => (grp_k52 B).2 x.1.1 x.1.2.1 r hx
theorem grp_k29_0 (B : Nat) : (∀ a0 a1 r, k29_0 a0 a1 = some r → LoopOK1 (X B) Ce fi29.n b2900 (lp2900 (fun _ _ => none)) ((a0, (a1, ())), ()) r) := by
  refine k29_0.partial_correctness (motive := fun a0 a1 r => LoopOK1 (X B) Ce fi29.n b2900 (lp2900 (fun _ _ => none)) ((a0, (a1, ())), ()) r) ?_
  · intro gk29_0 mk29_0 a0 a1 r h
    have Hk29_0 : LpOKs (X B) Ce fi29.n b2900 (lp2900 gk29_0) := fun x r hx => mk29_0 x.1.1 x.1.2.1 r hx
    have HL := Hk29_0
    exact gloop (C := (mkC (lkCon [(51, (con51 k51)), (52, (con52 k52))]) (lkLp [(2900, 29, [0, 1, 0, 1], (lp2900 gk29_0))]))) (cl := [(51, (con51 k51)), (52, (con52 k52))]) (ll := [(2900, 29, [0, 1, 0, 1], (lp2900 gk29_0))]) (hX B _ _) (hF B _ _) ⟨ok_k51 B, ok_k52 B, trivial⟩ ⟨⟨fi29, b2900, fi29_eq, b2900_eq, Hk29_0⟩, trivial⟩ rfl rfl 60 (f := 29) (fi := fi29) fi29_eq (p := [0, 1, 0, 1]) b2900_eq (ct := .nil) (L := lp2900 gk29_0) HL (x := ((a0, (a1, ())), ())) (krw h (by kernel_rfl))
theorem ok_k29_0 (B : Nat) : LpOKs (X B) Ce fi29.n b2900 (lp2900 k29_0) := fun x r hx => (grp_k29_0 B) x.1.1 x.1.2.1 r hx
theorem grp_k53_0 (B : Nat) : (∀ a0 a1 r, k53_0 a0 a1 = some r → LoopOK1 (X B) Ce fi53.n b5300 (lp5300 (fun _ _ => none)) ((a0, (a1, ())), ()) r) := by
  refine k53_0.partial_correctness (motive := fun a0 a1 r => LoopOK1 (X B) Ce fi53.n b5300 (lp5300 (fun _ _ => none)) ((a0, (a1, ())), ()) r) ?_
  · intro gk53_0 mk53_0 a0 a1 r h
    have Hk53_0 : LpOKs (X B) Ce fi53.n b5300 (lp5300 gk53_0) := fun x r hx => mk53_0 x.1.1 x.1.2.1 r hx
    have HL := Hk53_0
    exact gloop (C := (mkC (lkCon [(51, (con51 k51))]) (lkLp [(5300, 53, [0, 1, 0, 1], (lp5300 gk53_0))]))) (cl := [(51, (con51 k51))]) (ll := [(5300, 53, [0, 1, 0, 1], (lp5300 gk53_0))]) (hX B _ _) (hF B _ _) ⟨ok_k51 B, trivial⟩ ⟨⟨fi53, b5300, fi53_eq, b5300_eq, Hk53_0⟩, trivial⟩ rfl rfl 60 (f := 53) (fi := fi53) fi53_eq (p := [0, 1, 0, 1]) b5300_eq (ct := .nil) (L := lp5300 gk53_0) HL (x := ((a0, (a1, ())), ())) (krw h (by kernel_rfl))
theorem ok_k53_0 (B : Nat) : LpOKs (X B) Ce fi53.n b5300 (lp5300 k53_0) := fun x r hx => (grp_k53_0 B) x.1.1 x.1.2.1 r hx
theorem ok_k53 (B : Nat) : FnOKs (X B) Ce 53 (con53 k53) := by
  have h : ∀ a0 r, k53 a0 = some r → FnOK1 (X B) Ce 53 (con53 (fun _ => none)) ((a0, ()), ()) r := fun a0 r h => gfun (C := (mkC (lkCon []) (lkLp [(5300, 53, [0, 1, 0, 1], (lp5300 k53_0))]))) (cl := []) (ll := [(5300, 53, [0, 1, 0, 1], (lp5300 k53_0))]) (hX B _ _) (hF B _ _) trivial ⟨⟨fi53, b5300, fi53_eq, b5300_eq, ok_k53_0 B⟩, trivial⟩ rfl rfl 60 (f := 53) (fi := fi53) fi53_eq (ct := (.seq .nil (.seq (.seq .nil (.sub (.loop 5300))) .nil))) (L := con53 (fun _ => none)) (x := ((a0, ()), ())) (krw h (by kernel_rfl))
  exact fun x r hx => h x.1.1 r hx
theorem ok_k125 (B : Nat) : FnOKs (X B) Ce 125 (con125 k125) := by
  have h : ∀ a0 r, k125 a0 = some r → FnOK1 (X B) Ce 125 (con125 (fun _ => none)) ((a0, ()), ()) r := fun a0 r h => gfun (C := (mkC (lkCon []) (lkLp []))) (cl := []) (ll := []) (hX B _ _) (hF B _ _) trivial trivial rfl rfl 60 (f := 125) (fi := fi125) fi125_eq (ct := .nil) (L := con125 (fun _ => none)) (x := ((a0, ()), ())) (krw h (by kernel_rfl))
  exact fun x r hx => h x.1.1 r hx
theorem ok_k91 (B : Nat) : FnOKs (X B) Ce 91 (con91 k91) := by
  have h : ∀ a0 r, k91 a0 = some r → FnOK1 (X B) Ce 91 (con91 (fun _ => none)) ((a0, ()), ()) r := fun a0 r h => gfun (C := (mkC (lkCon []) (lkLp []))) (cl := []) (ll := []) (hX B _ _) (hF B _ _) trivial trivial rfl rfl 60 (f := 91) (fi := fi91) fi91_eq (ct := .nil) (L := con91 (fun _ => none)) (x := ((a0, ()), ())) (krw h (by kernel_rfl))
  exact fun x r hx => h x.1.1 r hx
theorem ok_k92 (B : Nat) : FnOKs (X B) Ce 92 (con92 k92) := by
  have h : ∀ a0 r, k92 a0 = some r → FnOK1 (X B) Ce 92 (con92 (fun _ => none)) ((a0, ()), ()) r := fun a0 r h => gfun (C := (mkC (lkCon []) (lkLp []))) (cl := []) (ll := []) (hX B _ _) (hF B _ _) trivial trivial rfl rfl 60 (f := 92) (fi := fi92) fi92_eq (ct := .nil) (L := con92 (fun _ => none)) (x := ((a0, ()), ())) (krw h (by kernel_rfl))
  exact fun x r hx => h x.1.1 r hx
theorem grp_k56 (B : Nat) : (∀ a0 r, k56 a0 = some r → FnOK1 (X B) Ce 56 (con56 (fun _ => none)) ((a0, ()), ()) r) ∧ (∀ a0 a1 r, k56_0 a0 a1 = some r → LoopOK1 (X B) Ce fi56.n b5600 (lp5600 (fun _ _ => none)) ((a0, (a1, ())), ()) r) := by
  refine k56.mutual_partial_correctness (motive_1 := fun a0 r => FnOK1 (X B) Ce 56 (con56 (fun _ => none)) ((a0, ()), ()) r) (motive_2 := fun a0 a1 r => LoopOK1 (X B) Ce fi56.n b5600 (lp5600 (fun _ _ => none)) ((a0, (a1, ())), ()) r) ?_ ?_
  · intro gk56_0 mk56_0 a0 r h
    have Hk56_0 : LpOKs (X B) Ce fi56.n b5600 (lp5600 gk56_0) := fun x r hx => mk56_0 x.1.1 x.1.2.1 r hx
    exact gfun (C := (mkC (lkCon [(51, (con51 k51)), (91, (con91 k91)), (92, (con92 k92))]) (lkLp [(5600, 56, [0, 1, 0, 1], (lp5600 gk56_0))]))) (cl := [(51, (con51 k51)), (91, (con91 k91)), (92, (con92 k92))]) (ll := [(5600, 56, [0, 1, 0, 1], (lp5600 gk56_0))]) (hX B _ _) (hF B _ _) ⟨ok_k51 B, ok_k91 B, ok_k92 B, trivial⟩ ⟨⟨fi56, b5600, fi56_eq, b5600_eq, Hk56_0⟩, trivial⟩ rfl rfl 60 (f := 56) (fi := fi56) fi56_eq (ct := (.seq .nil (.seq (.seq .nil (.sub (.loop 5600))) .nil))) (L := con56 (fun _ => none)) (x := ((a0, ()), ())) (krw h (by kernel_rfl))
  · intro gk56 gk56_0 mk56 mk56_0 a0 a1 r h
    have Hk56 : FnOKs (X B) Ce 56 (con56 gk56) := fun x r hx => mk56 x.1.1 r hx
    have Hk56_0 : LpOKs (X B) Ce fi56.n b5600 (lp5600 gk56_0) := fun x r hx => mk56_0 x.1.1 x.1.2.1 r hx
    have HL := Hk56_0
    exact gloop (C := (mkC (lkCon [(56, (con56 gk56))]) (lkLp [(5600, 56, [0, 1, 0, 1], (lp5600 gk56_0))]))) (cl := [(56, (con56 gk56))]) (ll := [(5600, 56, [0, 1, 0, 1], (lp5600 gk56_0))]) (hX B _ _) (hF B _ _) ⟨Hk56, trivial⟩ ⟨⟨fi56, b5600, fi56_eq, b5600_eq, Hk56_0⟩, trivial⟩ rfl rfl 60 (f := 56) (fi := fi56) fi56_eq (p := [0, 1, 0, 1]) b5600_eq (ct := .nil) (L := lp5600 gk56_0) HL (x := ((a0, (a1, ())), ())) (krw h (by kernel_rfl))
theorem ok_k56 (B : Nat) : FnOKs (X B) Ce 56 (con56 k56) := fun x r hx => (grp_k56 B).1 x.1.1 r hx
theorem ok_k56_0 (B : Nat) : LpOKs (X B) Ce fi56.n b5600 (lp5600 k56_0) := fun x r hx => (grp_k56 B).2 x.1.1 x.1.2.1 r hx
theorem grp_k54 (B : Nat) : (∀ a0 r, k54 a0 = some r → FnOK1 (X B) Ce 54 (con54 (fun _ => none)) ((a0, ()), ()) r) ∧ (∀ a0 a1 r, k54_0 a0 a1 = some r → LoopOK1 (X B) Ce fi54.n b5400 (lp5400 (fun _ _ => none)) ((a0, (a1, ())), ()) r) ∧ (∀ a0 r, k90 a0 = some r → FnOK1 (X B) Ce 90 (con90 (fun _ => none)) ((a0, ()), ()) r) := by
  refine k54.mutual_partial_correctness (motive_1 := fun a0 r => FnOK1 (X B) Ce 54 (con54 (fun _ => none)) ((a0, ()), ()) r) (motive_2 := fun a0 a1 r => LoopOK1 (X B) Ce fi54.n b5400 (lp5400 (fun _ _ => none)) ((a0, (a1, ())), ()) r) (motive_3 := fun a0 r => FnOK1 (X B) Ce 90 (con90 (fun _ => none)) ((a0, ()), ()) r) ?_ ?_ ?_
  · intro gk54_0 mk54_0 a0 r h
    have Hk54_0 : LpOKs (X B) Ce fi54.n b5400 (lp5400 gk54_0) := fun x r hx => mk54_0 x.1.1 x.1.2.1 r hx
    exact gfun (C := (mkC (lkCon []) (lkLp [(5400, 54, [0, 1, 0, 1], (lp5400 gk54_0))]))) (cl := []) (ll := [(5400, 54, [0, 1, 0, 1], (lp5400 gk54_0))]) (hX B _ _) (hF B _ _) trivial ⟨⟨fi54, b5400, fi54_eq, b5400_eq, Hk54_0⟩, trivial⟩ rfl rfl 60 (f := 54) (fi := fi54) fi54_eq (ct := (.seq .nil (.seq (.seq .nil (.sub (.loop 5400))) .nil))) (L := con54 (fun _ => none)) (x := ((a0, ()), ())) (krw h (by kernel_rfl))
  · intro gk54_0 gk90 mk54_0 mk90 a0 a1 r h
    have Hk54_0 : LpOKs (X B) Ce fi54.n b5400 (lp5400 gk54_0) := fun x r hx => mk54_0 x.1.1 x.1.2.1 r hx
    have Hk90 : FnOKs (X B) Ce 90 (con90 gk90) := fun x r hx => mk90 x.1.1 r hx
    have HL := Hk54_0
    exact gloop (C := (mkC (lkCon [(90, (con90 gk90))]) (lkLp [(5400, 54, [0, 1, 0, 1], (lp5400 gk54_0))]))) (cl := [(90, (con90 gk90))]) (ll := [(5400, 54, [0, 1, 0, 1], (lp5400 gk54_0))]) (hX B _ _) (hF B _ _) ⟨Hk90, trivial⟩ ⟨⟨fi54, b5400, fi54_eq, b5400_eq, Hk54_0⟩, trivial⟩ rfl rfl 60 (f := 54) (fi := fi54) fi54_eq (p := [0, 1, 0, 1]) b5400_eq (ct := .nil) (L := lp5400 gk54_0) HL (x := ((a0, (a1, ())), ())) (krw h (by kernel_rfl))
  · intro gk54 mk54 a0 r h
    have Hk54 : FnOKs (X B) Ce 54 (con54 gk54) := fun x r hx => mk54 x.1.1 r hx
    exact gfun (C := (mkC (lkCon [(51, (con51 k51)), (54, (con54 gk54)), (56, (con56 k56)), (91, (con91 k91)), (125, (con125 k125))]) (lkLp []))) (cl := [(51, (con51 k51)), (54, (con54 gk54)), (56, (con56 k56)), (91, (con91 k91)), (125, (con125 k125))]) (ll := []) (hX B _ _) (hF B _ _) ⟨ok_k51 B, Hk54, ok_k56 B, ok_k91 B, ok_k125 B, trivial⟩ trivial rfl rfl 60 (f := 90) (fi := fi90) fi90_eq (ct := (.seq .nil (.seq (.seq (.join [] [] [(.normal, ⟨[(20, .bool)], [], []⟩)] .nil) .nil) .nil))) (L := con90 (fun _ => none)) (x := ((a0, ()), ())) (krw h (by kernel_rfl))
theorem ok_k54 (B : Nat) : FnOKs (X B) Ce 54 (con54 k54) := fun x r hx => (grp_k54 B).1 x.1.1 r hx
theorem ok_k54_0 (B : Nat) : LpOKs (X B) Ce fi54.n b5400 (lp5400 k54_0) := fun x r hx => (grp_k54 B).2.1 x.1.1 x.1.2.1 r hx
theorem ok_k90 (B : Nat) : FnOKs (X B) Ce 90 (con90 k90) := fun x r hx => (grp_k54 B).2.2 x.1.1 r hx
theorem ok_k57 (B : Nat) : FnOKs (X B) Ce 57 (con57 k57) := by
  have h : ∀ a0 a1 r, k57 a0 a1 = some r → FnOK1 (X B) Ce 57 (con57 (fun _ _ => none)) ((a0, (a1, ())), ()) r := fun a0 a1 r h => gfun (C := (mkC (lkCon []) (lkLp []))) (cl := []) (ll := []) (hX B _ _) (hF B _ _) trivial trivial rfl rfl 60 (f := 57) (fi := fi57) fi57_eq (ct := .nil) (L := con57 (fun _ _ => none)) (x := ((a0, (a1, ())), ())) (krw h (by kernel_rfl))
  exact fun x r hx => h x.1.1 x.1.2.1 r hx
theorem grp_k55 (B : Nat) : (∀ a0 r, k55 a0 = some r → FnOK1 (X B) Ce 55 (con55 (fun _ => none)) ((a0, ()), ()) r) ∧ (∀ a0 a1 a2 r, k55_0 a0 a1 a2 = some r → LoopOK1 (X B) Ce fi55.n b5500 (lp5500 (fun _ _ _ => none)) ((a0, (a1, (a2, ()))), ()) r) := by
  refine k55.mutual_partial_correctness (motive_1 := fun a0 r => FnOK1 (X B) Ce 55 (con55 (fun _ => none)) ((a0, ()), ()) r) (motive_2 := fun a0 a1 a2 r => LoopOK1 (X B) Ce fi55.n b5500 (lp5500 (fun _ _ _ => none)) ((a0, (a1, (a2, ()))), ()) r) ?_ ?_
  · intro gk55_0 mk55_0 a0 r h
    have Hk55_0 : LpOKs (X B) Ce fi55.n b5500 (lp5500 gk55_0) := fun x r hx => mk55_0 x.1.1 x.1.2.1 x.1.2.2.1 r hx
    exact gfun (C := (mkC (lkCon []) (lkLp [(5500, 55, [0, 1, 0, 1, 1], (lp5500 gk55_0))]))) (cl := []) (ll := [(5500, 55, [0, 1, 0, 1, 1], (lp5500 gk55_0))]) (hX B _ _) (hF B _ _) trivial ⟨⟨fi55, b5500, fi55_eq, b5500_eq, Hk55_0⟩, trivial⟩ rfl rfl 60 (f := 55) (fi := fi55) fi55_eq (ct := (.seq .nil (.seq .nil (.seq (.seq .nil (.sub (.loop 5500))) .nil)))) (L := con55 (fun _ => none)) (x := ((a0, ()), ())) (krw h (by kernel_rfl))
  · intro gk55 gk55_0 mk55 mk55_0 a0 a1 a2 r h
    have Hk55 : FnOKs (X B) Ce 55 (con55 gk55) := fun x r hx => mk55 x.1.1 r hx
    have Hk55_0 : LpOKs (X B) Ce fi55.n b5500 (lp5500 gk55_0) := fun x r hx => mk55_0 x.1.1 x.1.2.1 x.1.2.2.1 r hx
    have HL := Hk55_0
    exact gloop (C := (mkC (lkCon [(55, (con55 gk55)), (57, (con57 k57))]) (lkLp [(5500, 55, [0, 1, 0, 1, 1], (lp5500 gk55_0))]))) (cl := [(55, (con55 gk55)), (57, (con57 k57))]) (ll := [(5500, 55, [0, 1, 0, 1, 1], (lp5500 gk55_0))]) (hX B _ _) (hF B _ _) ⟨Hk55, ok_k57 B, trivial⟩ ⟨⟨fi55, b5500, fi55_eq, b5500_eq, Hk55_0⟩, trivial⟩ rfl rfl 60 (f := 55) (fi := fi55) fi55_eq (p := [0, 1, 0, 1, 1]) b5500_eq (ct := .nil) (L := lp5500 gk55_0) HL (x := ((a0, (a1, (a2, ()))), ())) (krw h (by kernel_rfl))
theorem ok_k55 (B : Nat) : FnOKs (X B) Ce 55 (con55 k55) := fun x r hx => (grp_k55 B).1 x.1.1 r hx
theorem ok_k55_0 (B : Nat) : LpOKs (X B) Ce fi55.n b5500 (lp5500 k55_0) := fun x r hx => (grp_k55 B).2 x.1.1 x.1.2.1 x.1.2.2.1 r hx
theorem ok_k29 (B : Nat) : FnOKs (X B) Ce 29 (con29 k29) := by
  have h : ∀ a0 r, k29 a0 = some r → FnOK1 (X B) Ce 29 (con29 (fun _ => none)) ((a0, ()), ()) r := fun a0 r h => gfun (C := (mkC (lkCon [(51, (con51 k51)), (52, (con52 k52)), (53, (con53 k53)), (54, (con54 k54)), (55, (con55 k55)), (56, (con56 k56))]) (lkLp [(2900, 29, [0, 1, 0, 1], (lp2900 k29_0))]))) (cl := [(51, (con51 k51)), (52, (con52 k52)), (53, (con53 k53)), (54, (con54 k54)), (55, (con55 k55)), (56, (con56 k56))]) (ll := [(2900, 29, [0, 1, 0, 1], (lp2900 k29_0))]) (hX B _ _) (hF B _ _) ⟨ok_k51 B, ok_k52 B, ok_k53 B, ok_k54 B, ok_k55 B, ok_k56 B, trivial⟩ ⟨⟨fi29, b2900, fi29_eq, b2900_eq, ok_k29_0 B⟩, trivial⟩ rfl rfl 60 (f := 29) (fi := fi29) fi29_eq (ct := (.seq .nil (.seq (.seq .nil (.sub (.loop 2900))) .nil))) (L := con29 (fun _ => none)) (x := ((a0, ()), ())) (krw h (by kernel_rfl))
  exact fun x r hx => h x.1.1 r hx
theorem grp_k18_0 (B : Nat) : (∀ a0 a1 r, k18_0 a0 a1 = some r → LoopOK1 (X B) Ce fi18.n b1800 (lp1800 (fun _ _ => none)) ((a0, (a1, ())), ()) r) := by
  refine k18_0.partial_correctness (motive := fun a0 a1 r => LoopOK1 (X B) Ce fi18.n b1800 (lp1800 (fun _ _ => none)) ((a0, (a1, ())), ()) r) ?_
  · intro gk18_0 mk18_0 a0 a1 r h
    have Hk18_0 : LpOKs (X B) Ce fi18.n b1800 (lp1800 gk18_0) := fun x r hx => mk18_0 x.1.1 x.1.2.1 r hx
    have HL := Hk18_0
    exact gloop (C := (mkC (lkCon [(29, (con29 k29))]) (lkLp [(1800, 18, [0, 1, 0, 1], (lp1800 gk18_0))]))) (cl := [(29, (con29 k29))]) (ll := [(1800, 18, [0, 1, 0, 1], (lp1800 gk18_0))]) (hX B _ _) (hF B _ _) ⟨ok_k29 B, trivial⟩ ⟨⟨fi18, b1800, fi18_eq, b1800_eq, Hk18_0⟩, trivial⟩ rfl rfl 60 (f := 18) (fi := fi18) fi18_eq (p := [0, 1, 0, 1]) b1800_eq (ct := .nil) (L := lp1800 gk18_0) HL (x := ((a0, (a1, ())), ())) (krw h (by kernel_rfl))
theorem ok_k18_0 (B : Nat) : LpOKs (X B) Ce fi18.n b1800 (lp1800 k18_0) := fun x r hx => (grp_k18_0 B) x.1.1 x.1.2.1 r hx
theorem grp_k58 (B : Nat) : (∀ a0 r, k58 a0 = some r → FnOK1 (X B) Ce 58 (con58 (fun _ => none)) ((a0, ()), ()) r) ∧ (∀ a0 a1 a2 r, k58_0 a0 a1 a2 = some r → LoopOK1 (X B) Ce fi58.n b5800 (lp5800 (fun _ _ _ => none)) ((a0, (a1, (a2, ()))), ()) r) := by
  refine k58.mutual_partial_correctness (motive_1 := fun a0 r => FnOK1 (X B) Ce 58 (con58 (fun _ => none)) ((a0, ()), ()) r) (motive_2 := fun a0 a1 a2 r => LoopOK1 (X B) Ce fi58.n b5800 (lp5800 (fun _ _ _ => none)) ((a0, (a1, (a2, ()))), ()) r) ?_ ?_
  · intro gk58_0 mk58_0 a0 r h
    have Hk58_0 : LpOKs (X B) Ce fi58.n b5800 (lp5800 gk58_0) := fun x r hx => mk58_0 x.1.1 x.1.2.1 x.1.2.2.1 r hx
    exact gfun (C := (mkC (lkCon []) (lkLp [(5800, 58, [0, 1, 0, 1, 1, 1], (lp5800 gk58_0))]))) (cl := []) (ll := [(5800, 58, [0, 1, 0, 1, 1, 1], (lp5800 gk58_0))]) (hX B _ _) (hF B _ _) trivial ⟨⟨fi58, b5800, fi58_eq, b5800_eq, Hk58_0⟩, trivial⟩ rfl rfl 60 (f := 58) (fi := fi58) fi58_eq (ct := (.seq .nil (.seq .nil (.seq .nil (.seq (.seq .nil (.sub (.loop 5800))) .nil))))) (L := con58 (fun _ => none)) (x := ((a0, ()), ())) (krw h (by kernel_rfl))
  · intro gk58 gk58_0 mk58 mk58_0 a0 a1 a2 r h
    have Hk58 : FnOKs (X B) Ce 58 (con58 gk58) := fun x r hx => mk58 x.1.1 r hx
    have Hk58_0 : LpOKs (X B) Ce fi58.n b5800 (lp5800 gk58_0) := fun x r hx => mk58_0 x.1.1 x.1.2.1 x.1.2.2.1 r hx
    have HL := Hk58_0
    exact gloop (C := (mkC (lkCon [(57, (con57 k57)), (58, (con58 gk58))]) (lkLp [(5800, 58, [0, 1, 0, 1, 1, 1], (lp5800 gk58_0))]))) (cl := [(57, (con57 k57)), (58, (con58 gk58))]) (ll := [(5800, 58, [0, 1, 0, 1, 1, 1], (lp5800 gk58_0))]) (hX B _ _) (hF B _ _) ⟨ok_k57 B, Hk58, trivial⟩ ⟨⟨fi58, b5800, fi58_eq, b5800_eq, Hk58_0⟩, trivial⟩ rfl rfl 60 (f := 58) (fi := fi58) fi58_eq (p := [0, 1, 0, 1, 1, 1]) b5800_eq (ct := .nil) (L := lp5800 gk58_0) HL (x := ((a0, (a1, (a2, ()))), ())) (krw h (by kernel_rfl))
theorem ok_k58 (B : Nat) : FnOKs (X B) Ce 58 (con58 k58) := fun x r hx => (grp_k58 B).1 x.1.1 r hx
theorem ok_k58_0 (B : Nat) : LpOKs (X B) Ce fi58.n b5800 (lp5800 k58_0) := fun x r hx => (grp_k58 B).2 x.1.1 x.1.2.1 x.1.2.2.1 r hx
theorem grp_k30_0 (B : Nat) : (∀ a0 a1 a2 a3 r, k30_0 a0 a1 a2 a3 = some r → LoopOK1 (X B) Ce fi30.n b3000 (lp3000 (fun _ _ _ _ => none)) ((a0, (a1, (a2, (a3, ())))), ()) r) := by
  refine k30_0.partial_correctness (motive := fun a0 a1 a2 a3 r => LoopOK1 (X B) Ce fi30.n b3000 (lp3000 (fun _ _ _ _ => none)) ((a0, (a1, (a2, (a3, ())))), ()) r) ?_
  · intro gk30_0 mk30_0 a0 a1 a2 a3 r h
    have Hk30_0 : LpOKs (X B) Ce fi30.n b3000 (lp3000 gk30_0) := fun x r hx => mk30_0 x.1.1 x.1.2.1 x.1.2.2.1 x.1.2.2.2.1 r hx
    have HL := Hk30_0
    exact gloop (C := (mkC (lkCon [(57, (con57 k57)), (58, (con58 k58))]) (lkLp [(3000, 30, [0, 1, 1, 0, 0, 1, 0, 0, 1, 0, 1, 1], (lp3000 gk30_0))]))) (cl := [(57, (con57 k57)), (58, (con58 k58))]) (ll := [(3000, 30, [0, 1, 1, 0, 0, 1, 0, 0, 1, 0, 1, 1], (lp3000 gk30_0))]) (hX B _ _) (hF B _ _) ⟨ok_k57 B, ok_k58 B, trivial⟩ ⟨⟨fi30, b3000, fi30_eq, b3000_eq, Hk30_0⟩, trivial⟩ rfl rfl 60 (f := 30) (fi := fi30) fi30_eq (p := [0, 1, 1, 0, 0, 1, 0, 0, 1, 0, 1, 1]) b3000_eq (ct := .nil) (L := lp3000 gk30_0) HL (x := ((a0, (a1, (a2, (a3, ())))), ())) (krw h (by kernel_rfl))
theorem ok_k30_0 (B : Nat) : LpOKs (X B) Ce fi30.n b3000 (lp3000 k30_0) := fun x r hx => (grp_k30_0 B) x.1.1 x.1.2.1 x.1.2.2.1 x.1.2.2.2.1 r hx
theorem ok_k93 (B : Nat) : FnOKs (X B) Ce 93 (con93 k93) := by
  have h : ∀ a0 a1 r, k93 a0 a1 = some r → FnOK1 (X B) Ce 93 (con93 (fun _ _ => none)) ((a0, (a1, ())), ()) r := fun a0 a1 r h => gfun (C := (mkC (lkCon [(92, (con92 k92))]) (lkLp []))) (cl := [(92, (con92 k92))]) (ll := []) (hX B _ _) (hF B _ _) ⟨ok_k92 B, trivial⟩ trivial rfl rfl 60 (f := 93) (fi := fi93) fi93_eq (ct := .nil) (L := con93 (fun _ _ => none)) (x := ((a0, (a1, ())), ())) (krw h (by kernel_rfl))
  exact fun x r hx => h x.1.1 x.1.2.1 r hx
theorem grp_k60 (B : Nat) : (∀ a0 r, k60 a0 = some r → FnOK1 (X B) Ce 60 (con60 (fun _ => none)) ((a0, ()), ()) r) ∧ (∀ a0 a1 a2 r, k60_0 a0 a1 a2 = some r → LoopOK1 (X B) Ce fi60.n b6000 (lp6000 (fun _ _ _ => none)) ((a0, (a1, (a2, ()))), ()) r) := by
  refine k60.mutual_partial_correctness (motive_1 := fun a0 r => FnOK1 (X B) Ce 60 (con60 (fun _ => none)) ((a0, ()), ()) r) (motive_2 := fun a0 a1 a2 r => LoopOK1 (X B) Ce fi60.n b6000 (lp6000 (fun _ _ _ => none)) ((a0, (a1, (a2, ()))), ()) r) ?_ ?_
  · intro gk60_0 mk60_0 a0 r h
    have Hk60_0 : LpOKs (X B) Ce fi60.n b6000 (lp6000 gk60_0) := fun x r hx => mk60_0 x.1.1 x.1.2.1 x.1.2.2.1 r hx
    exact gfun (C := (mkC (lkCon []) (lkLp [(6000, 60, [0, 1, 0, 1, 1, 1], (lp6000 gk60_0))]))) (cl := []) (ll := [(6000, 60, [0, 1, 0, 1, 1, 1], (lp6000 gk60_0))]) (hX B _ _) (hF B _ _) trivial ⟨⟨fi60, b6000, fi60_eq, b6000_eq, Hk60_0⟩, trivial⟩ rfl rfl 60 (f := 60) (fi := fi60) fi60_eq (ct := (.seq .nil (.seq .nil (.seq .nil (.seq (.seq .nil (.sub (.loop 6000))) .nil))))) (L := con60 (fun _ => none)) (x := ((a0, ()), ())) (krw h (by kernel_rfl))
  · intro gk60 gk60_0 mk60 mk60_0 a0 a1 a2 r h
    have Hk60 : FnOKs (X B) Ce 60 (con60 gk60) := fun x r hx => mk60 x.1.1 r hx
    have Hk60_0 : LpOKs (X B) Ce fi60.n b6000 (lp6000 gk60_0) := fun x r hx => mk60_0 x.1.1 x.1.2.1 x.1.2.2.1 r hx
    have HL := Hk60_0
    exact gloop (C := (mkC (lkCon [(57, (con57 k57)), (60, (con60 gk60)), (93, (con93 k93))]) (lkLp [(6000, 60, [0, 1, 0, 1, 1, 1], (lp6000 gk60_0))]))) (cl := [(57, (con57 k57)), (60, (con60 gk60)), (93, (con93 k93))]) (ll := [(6000, 60, [0, 1, 0, 1, 1, 1], (lp6000 gk60_0))]) (hX B _ _) (hF B _ _) ⟨ok_k57 B, Hk60, ok_k93 B, trivial⟩ ⟨⟨fi60, b6000, fi60_eq, b6000_eq, Hk60_0⟩, trivial⟩ rfl rfl 60 (f := 60) (fi := fi60) fi60_eq (p := [0, 1, 0, 1, 1, 1]) b6000_eq (ct := (.seq .nil (.seq (.sub (.seq .nil (.seq (.seq (.join [] [] [(.normal, ⟨[(38, .bool)], [], []⟩)] .nil) .nil) .nil))) .nil))) (L := lp6000 gk60_0) HL (x := ((a0, (a1, (a2, ()))), ())) (krw h (by kernel_rfl))
theorem ok_k60 (B : Nat) : FnOKs (X B) Ce 60 (con60 k60) := fun x r hx => (grp_k60 B).1 x.1.1 r hx
theorem ok_k60_0 (B : Nat) : LpOKs (X B) Ce fi60.n b6000 (lp6000 k60_0) := fun x r hx => (grp_k60 B).2 x.1.1 x.1.2.1 x.1.2.2.1 r hx
theorem grp_k59 (B : Nat) : (∀ a0 r, k59 a0 = some r → FnOK1 (X B) Ce 59 (con59 (fun _ => none)) ((a0, ()), ()) r) ∧ (∀ a0 a1 a2 r, k59_0 a0 a1 a2 = some r → LoopOK1 (X B) Ce fi59.n b5900 (lp5900 (fun _ _ _ => none)) ((a0, (a1, (a2, ()))), ()) r) := by
  refine k59.mutual_partial_correctness (motive_1 := fun a0 r => FnOK1 (X B) Ce 59 (con59 (fun _ => none)) ((a0, ()), ()) r) (motive_2 := fun a0 a1 a2 r => LoopOK1 (X B) Ce fi59.n b5900 (lp5900 (fun _ _ _ => none)) ((a0, (a1, (a2, ()))), ()) r) ?_ ?_
  · intro gk59_0 mk59_0 a0 r h
    have Hk59_0 : LpOKs (X B) Ce fi59.n b5900 (lp5900 gk59_0) := fun x r hx => mk59_0 x.1.1 x.1.2.1 x.1.2.2.1 r hx
    exact gfun (C := (mkC (lkCon []) (lkLp [(5900, 59, [0, 1, 0, 1, 1], (lp5900 gk59_0))]))) (cl := []) (ll := [(5900, 59, [0, 1, 0, 1, 1], (lp5900 gk59_0))]) (hX B _ _) (hF B _ _) trivial ⟨⟨fi59, b5900, fi59_eq, b5900_eq, Hk59_0⟩, trivial⟩ rfl rfl 60 (f := 59) (fi := fi59) fi59_eq (ct := (.seq .nil (.seq .nil (.seq (.seq .nil (.sub (.loop 5900))) .nil)))) (L := con59 (fun _ => none)) (x := ((a0, ()), ())) (krw h (by kernel_rfl))
  · intro gk59 gk59_0 mk59 mk59_0 a0 a1 a2 r h
    have Hk59 : FnOKs (X B) Ce 59 (con59 gk59) := fun x r hx => mk59 x.1.1 r hx
    have Hk59_0 : LpOKs (X B) Ce fi59.n b5900 (lp5900 gk59_0) := fun x r hx => mk59_0 x.1.1 x.1.2.1 x.1.2.2.1 r hx
    have HL := Hk59_0
    exact gloop (C := (mkC (lkCon [(57, (con57 k57)), (59, (con59 gk59)), (60, (con60 k60))]) (lkLp [(5900, 59, [0, 1, 0, 1, 1], (lp5900 gk59_0))]))) (cl := [(57, (con57 k57)), (59, (con59 gk59)), (60, (con60 k60))]) (ll := [(5900, 59, [0, 1, 0, 1, 1], (lp5900 gk59_0))]) (hX B _ _) (hF B _ _) ⟨ok_k57 B, Hk59, ok_k60 B, trivial⟩ ⟨⟨fi59, b5900, fi59_eq, b5900_eq, Hk59_0⟩, trivial⟩ rfl rfl 60 (f := 59) (fi := fi59) fi59_eq (p := [0, 1, 0, 1, 1]) b5900_eq (ct := .nil) (L := lp5900 gk59_0) HL (x := ((a0, (a1, (a2, ()))), ())) (krw h (by kernel_rfl))
theorem ok_k59 (B : Nat) : FnOKs (X B) Ce 59 (con59 k59) := fun x r hx => (grp_k59 B).1 x.1.1 r hx
theorem ok_k59_0 (B : Nat) : LpOKs (X B) Ce fi59.n b5900 (lp5900 k59_0) := fun x r hx => (grp_k59 B).2 x.1.1 x.1.2.1 x.1.2.2.1 r hx
theorem grp_k30_1 (B : Nat) : (∀ a0 a1 a2 r, k30_1 a0 a1 a2 = some r → LoopOK1 (X B) Ce fi30.n b3001 (lp3001 (fun _ _ _ => none)) ((a0, (a1, (a2, ()))), ()) r) := by
  refine k30_1.partial_correctness (motive := fun a0 a1 a2 r => LoopOK1 (X B) Ce fi30.n b3001 (lp3001 (fun _ _ _ => none)) ((a0, (a1, (a2, ()))), ()) r) ?_
  · intro gk30_1 mk30_1 a0 a1 a2 r h
    have Hk30_1 : LpOKs (X B) Ce fi30.n b3001 (lp3001 gk30_1) := fun x r hx => mk30_1 x.1.1 x.1.2.1 x.1.2.2.1 r hx
    have HL := Hk30_1
    exact gloop (C := (mkC (lkCon [(57, (con57 k57)), (58, (con58 k58)), (59, (con59 k59)), (60, (con60 k60))]) (lkLp [(3000, 30, [0, 1, 1, 0, 0, 1, 0, 0, 1, 0, 1, 1], (lp3000 k30_0)), (3001, 30, [0, 1, 0, 1, 1], (lp3001 gk30_1))]))) (cl := [(57, (con57 k57)), (58, (con58 k58)), (59, (con59 k59)), (60, (con60 k60))]) (ll := [(3000, 30, [0, 1, 1, 0, 0, 1, 0, 0, 1, 0, 1, 1], (lp3000 k30_0)), (3001, 30, [0, 1, 0, 1, 1], (lp3001 gk30_1))]) (hX B _ _) (hF B _ _) ⟨ok_k57 B, ok_k58 B, ok_k59 B, ok_k60 B, trivial⟩ ⟨⟨fi30, b3000, fi30_eq, b3000_eq, ok_k30_0 B⟩, ⟨fi30, b3001, fi30_eq, b3001_eq, Hk30_1⟩, trivial⟩ rfl rfl 60 (f := 30) (fi := fi30) fi30_eq (p := [0, 1, 0, 1, 1]) b3001_eq (ct := (.seq .nil (.seq (.sub (.seq .nil (.seq .nil (.sub (.loop 3000))))) .nil))) (L := lp3001 gk30_1) HL (x := ((a0, (a1, (a2, ()))), ())) (krw h (by kernel_rfl))
theorem ok_k30_1 (B : Nat) : LpOKs (X B) Ce fi30.n b3001 (lp3001 k30_1) := fun x r hx => (grp_k30_1 B) x.1.1 x.1.2.1 x.1.2.2.1 r hx
theorem ok_k30 (B : Nat) : FnOKs (X B) Ce 30 (con30 k30) := by
  have h : ∀ a0 r, k30 a0 = some r → FnOK1 (X B) Ce 30 (con30 (fun _ => none)) ((a0, ()), ()) r := fun a0 r h => gfun (C := (mkC (lkCon []) (lkLp [(3001, 30, [0, 1, 0, 1, 1], (lp3001 k30_1))]))) (cl := []) (ll := [(3001, 30, [0, 1, 0, 1, 1], (lp3001 k30_1))]) (hX B _ _) (hF B _ _) trivial ⟨⟨fi30, b3001, fi30_eq, b3001_eq, ok_k30_1 B⟩, trivial⟩ rfl rfl 60 (f := 30) (fi := fi30) fi30_eq (ct := (.seq .nil (.seq .nil (.seq (.seq .nil (.sub (.loop 3001))) .nil)))) (L := con30 (fun _ => none)) (x := ((a0, ()), ())) (krw h (by kernel_rfl))
  exact fun x r hx => h x.1.1 r hx
theorem ok_k18 (B : Nat) : FnOKs (X B) Ce 18 (con18 k18) := by
  have h : ∀ a0 r, k18 a0 = some r → FnOK1 (X B) Ce 18 (con18 (fun _ => none)) ((a0, ()), ()) r := fun a0 r h => gfun (C := (mkC (lkCon [(30, (con30 k30))]) (lkLp [(1800, 18, [0, 1, 0, 1], (lp1800 k18_0))]))) (cl := [(30, (con30 k30))]) (ll := [(1800, 18, [0, 1, 0, 1], (lp1800 k18_0))]) (hX B _ _) (hF B _ _) ⟨ok_k30 B, trivial⟩ ⟨⟨fi18, b1800, fi18_eq, b1800_eq, ok_k18_0 B⟩, trivial⟩ rfl rfl 60 (f := 18) (fi := fi18) fi18_eq (ct := (.seq .nil (.seq (.seq .nil (.sub (.loop 1800))) .nil))) (L := con18 (fun _ => none)) (x := ((a0, ()), ())) (krw h (by kernel_rfl))
  exact fun x r hx => h x.1.1 r hx
theorem grp_k27 (B : Nat) : (∀ a0 r, k27 a0 = some r → FnOK1 (X B) Ce 27 (con27 (fun _ => none)) ((a0, ()), ()) r) ∧ (∀ a0 a1 a2 r, k27_0 a0 a1 a2 = some r → LoopOK1 (X B) Ce fi27.n b2700 (lp2700 (fun _ _ _ => none)) ((a0, (a1, (a2, ()))), ()) r) := by
  refine k27.mutual_partial_correctness (motive_1 := fun a0 r => FnOK1 (X B) Ce 27 (con27 (fun _ => none)) ((a0, ()), ()) r) (motive_2 := fun a0 a1 a2 r => LoopOK1 (X B) Ce fi27.n b2700 (lp2700 (fun _ _ _ => none)) ((a0, (a1, (a2, ()))), ()) r) ?_ ?_
  · intro gk27_0 mk27_0 a0 r h
    have Hk27_0 : LpOKs (X B) Ce fi27.n b2700 (lp2700 gk27_0) := fun x r hx => mk27_0 x.1.1 x.1.2.1 x.1.2.2.1 r hx
    exact gfun (C := (mkC (lkCon []) (lkLp [(2700, 27, [0, 1, 0, 1, 1], (lp2700 gk27_0))]))) (cl := []) (ll := [(2700, 27, [0, 1, 0, 1, 1], (lp2700 gk27_0))]) (hX B _ _) (hF B _ _) trivial ⟨⟨fi27, b2700, fi27_eq, b2700_eq, Hk27_0⟩, trivial⟩ rfl rfl 60 (f := 27) (fi := fi27) fi27_eq (ct := (.seq .nil (.seq .nil (.seq (.seq .nil (.sub (.loop 2700))) .nil)))) (L := con27 (fun _ => none)) (x := ((a0, ()), ())) (krw h (by kernel_rfl))
  · intro gk27 gk27_0 mk27 mk27_0 a0 a1 a2 r h
    have Hk27 : FnOKs (X B) Ce 27 (con27 gk27) := fun x r hx => mk27 x.1.1 r hx
    have Hk27_0 : LpOKs (X B) Ce fi27.n b2700 (lp2700 gk27_0) := fun x r hx => mk27_0 x.1.1 x.1.2.1 x.1.2.2.1 r hx
    have HL := Hk27_0
    exact gloop (C := (mkC (lkCon [(27, (con27 gk27))]) (lkLp [(2700, 27, [0, 1, 0, 1, 1], (lp2700 gk27_0))]))) (cl := [(27, (con27 gk27))]) (ll := [(2700, 27, [0, 1, 0, 1, 1], (lp2700 gk27_0))]) (hX B _ _) (hF B _ _) ⟨Hk27, trivial⟩ ⟨⟨fi27, b2700, fi27_eq, b2700_eq, Hk27_0⟩, trivial⟩ rfl rfl 60 (f := 27) (fi := fi27) fi27_eq (p := [0, 1, 0, 1, 1]) b2700_eq (ct := .nil) (L := lp2700 gk27_0) HL (x := ((a0, (a1, (a2, ()))), ())) (krw h (by kernel_rfl))
theorem ok_k27 (B : Nat) : FnOKs (X B) Ce 27 (con27 k27) := fun x r hx => (grp_k27 B).1 x.1.1 r hx
theorem ok_k27_0 (B : Nat) : LpOKs (X B) Ce fi27.n b2700 (lp2700 k27_0) := fun x r hx => (grp_k27 B).2 x.1.1 x.1.2.1 x.1.2.2.1 r hx
theorem grp_k12 (B : Nat) : (∀ a0 r, k12 a0 = some r → FnOK1 (X B) Ce 12 (con12 (fun _ => none)) ((a0, ()), ()) r) ∧ (∀ a0 a1 r, k12_0 a0 a1 = some r → LoopOK1 (X B) Ce fi12.n b1200 (lp1200 (fun _ _ => none)) ((a0, (a1, ())), ()) r) := by
  refine k12.mutual_partial_correctness (motive_1 := fun a0 r => FnOK1 (X B) Ce 12 (con12 (fun _ => none)) ((a0, ()), ()) r) (motive_2 := fun a0 a1 r => LoopOK1 (X B) Ce fi12.n b1200 (lp1200 (fun _ _ => none)) ((a0, (a1, ())), ()) r) ?_ ?_
  · intro gk12_0 mk12_0 a0 r h
    have Hk12_0 : LpOKs (X B) Ce fi12.n b1200 (lp1200 gk12_0) := fun x r hx => mk12_0 x.1.1 x.1.2.1 r hx
    exact gfun (C := (mkC (lkCon []) (lkLp [(1200, 12, [0, 1, 0, 1], (lp1200 gk12_0))]))) (cl := []) (ll := [(1200, 12, [0, 1, 0, 1], (lp1200 gk12_0))]) (hX B _ _) (hF B _ _) trivial ⟨⟨fi12, b1200, fi12_eq, b1200_eq, Hk12_0⟩, trivial⟩ rfl rfl 60 (f := 12) (fi := fi12) fi12_eq (ct := (.seq .nil (.seq (.seq .nil (.sub (.loop 1200))) .nil))) (L := con12 (fun _ => none)) (x := ((a0, ()), ())) (krw h (by kernel_rfl))
  · intro gk12 gk12_0 mk12 mk12_0 a0 a1 r h
    have Hk12 : FnOKs (X B) Ce 12 (con12 gk12) := fun x r hx => mk12 x.1.1 r hx
    have Hk12_0 : LpOKs (X B) Ce fi12.n b1200 (lp1200 gk12_0) := fun x r hx => mk12_0 x.1.1 x.1.2.1 r hx
    have HL := Hk12_0
    exact gloop (C := (mkC (lkCon [(12, (con12 gk12)), (27, (con27 k27))]) (lkLp [(1200, 12, [0, 1, 0, 1], (lp1200 gk12_0))]))) (cl := [(12, (con12 gk12)), (27, (con27 k27))]) (ll := [(1200, 12, [0, 1, 0, 1], (lp1200 gk12_0))]) (hX B _ _) (hF B _ _) ⟨Hk12, ok_k27 B, trivial⟩ ⟨⟨fi12, b1200, fi12_eq, b1200_eq, Hk12_0⟩, trivial⟩ rfl rfl 60 (f := 12) (fi := fi12) fi12_eq (p := [0, 1, 0, 1]) b1200_eq (ct := .nil) (L := lp1200 gk12_0) HL (x := ((a0, (a1, ())), ())) (krw h (by kernel_rfl))
theorem ok_k12 (B : Nat) : FnOKs (X B) Ce 12 (con12 k12) := fun x r hx => (grp_k12 B).1 x.1.1 r hx
theorem ok_k12_0 (B : Nat) : LpOKs (X B) Ce fi12.n b1200 (lp1200 k12_0) := fun x r hx => (grp_k12 B).2 x.1.1 x.1.2.1 r hx
theorem grp_k13_0 (B : Nat) : (∀ a0 a1 a2 r, k13_0 a0 a1 a2 = some r → LoopOK1 (X B) Ce fi13.n b1300 (lp1300 (fun _ _ _ => none)) ((a0, (a1, (a2, ()))), ()) r) := by
  refine k13_0.partial_correctness (motive := fun a0 a1 a2 r => LoopOK1 (X B) Ce fi13.n b1300 (lp1300 (fun _ _ _ => none)) ((a0, (a1, (a2, ()))), ()) r) ?_
  · intro gk13_0 mk13_0 a0 a1 a2 r h
    have Hk13_0 : LpOKs (X B) Ce fi13.n b1300 (lp1300 gk13_0) := fun x r hx => mk13_0 x.1.1 x.1.2.1 x.1.2.2.1 r hx
    have HL := Hk13_0
    exact gloop (C := (mkC (lkCon []) (lkLp [(1300, 13, [0, 1, 0, 1], (lp1300 gk13_0))]))) (cl := []) (ll := [(1300, 13, [0, 1, 0, 1], (lp1300 gk13_0))]) (hX B _ _) (hF B _ _) trivial ⟨⟨fi13, b1300, fi13_eq, b1300_eq, Hk13_0⟩, trivial⟩ rfl rfl 60 (f := 13) (fi := fi13) fi13_eq (p := [0, 1, 0, 1]) b1300_eq (ct := .nil) (L := lp1300 gk13_0) HL (x := ((a0, (a1, (a2, ()))), ())) (krw h (by kernel_rfl))
theorem ok_k13_0 (B : Nat) : LpOKs (X B) Ce fi13.n b1300 (lp1300 k13_0) := fun x r hx => (grp_k13_0 B) x.1.1 x.1.2.1 x.1.2.2.1 r hx
theorem ok_k13 (B : Nat) : FnOKs (X B) Ce 13 (con13 k13) := by
  have h : ∀ a0 a1 r, k13 a0 a1 = some r → FnOK1 (X B) Ce 13 (con13 (fun _ _ => none)) ((a0, (a1, ())), ()) r := fun a0 a1 r h => gfun (C := (mkC (lkCon []) (lkLp [(1300, 13, [0, 1, 0, 1], (lp1300 k13_0))]))) (cl := []) (ll := [(1300, 13, [0, 1, 0, 1], (lp1300 k13_0))]) (hX B _ _) (hF B _ _) trivial ⟨⟨fi13, b1300, fi13_eq, b1300_eq, ok_k13_0 B⟩, trivial⟩ rfl rfl 60 (f := 13) (fi := fi13) fi13_eq (ct := (.seq .nil (.seq (.seq .nil (.sub (.loop 1300))) .nil))) (L := con13 (fun _ _ => none)) (x := ((a0, (a1, ())), ())) (krw h (by kernel_rfl))
  exact fun x r hx => h x.1.1 x.1.2.1 r hx
theorem grp_k32_0 (B : Nat) : (∀ a0 a1 a2 a3 r, k32_0 a0 a1 a2 a3 = some r → LoopOK1 (X B) Ce fi32.n b3200 (lp3200 (fun _ _ _ _ => none)) ((a0, (a1, (a2, (a3, ())))), ()) r) := by
  refine k32_0.partial_correctness (motive := fun a0 a1 a2 a3 r => LoopOK1 (X B) Ce fi32.n b3200 (lp3200 (fun _ _ _ _ => none)) ((a0, (a1, (a2, (a3, ())))), ()) r) ?_
  · intro gk32_0 mk32_0 a0 a1 a2 a3 r h
    have Hk32_0 : LpOKs (X B) Ce fi32.n b3200 (lp3200 gk32_0) := fun x r hx => mk32_0 x.1.1 x.1.2.1 x.1.2.2.1 x.1.2.2.2.1 r hx
    have HL := Hk32_0
    exact gloop (C := (mkC (lkCon []) (lkLp [(3200, 32, [0, 1, 0, 1, 1], (lp3200 gk32_0))]))) (cl := []) (ll := [(3200, 32, [0, 1, 0, 1, 1], (lp3200 gk32_0))]) (hX B _ _) (hF B _ _) trivial ⟨⟨fi32, b3200, fi32_eq, b3200_eq, Hk32_0⟩, trivial⟩ rfl rfl 60 (f := 32) (fi := fi32) fi32_eq (p := [0, 1, 0, 1, 1]) b3200_eq (ct := .nil) (L := lp3200 gk32_0) HL (x := ((a0, (a1, (a2, (a3, ())))), ())) (krw h (by kernel_rfl))
theorem ok_k32_0 (B : Nat) : LpOKs (X B) Ce fi32.n b3200 (lp3200 k32_0) := fun x r hx => (grp_k32_0 B) x.1.1 x.1.2.1 x.1.2.2.1 x.1.2.2.2.1 r hx
theorem ok_k32 (B : Nat) : FnOKs (X B) Ce 32 (con32 k32) := by
  have h : ∀ a0 a1 r, k32 a0 a1 = some r → FnOK1 (X B) Ce 32 (con32 (fun _ _ => none)) ((a0, (a1, ())), ()) r := fun a0 a1 r h => gfun (C := (mkC (lkCon []) (lkLp [(3200, 32, [0, 1, 0, 1, 1], (lp3200 k32_0))]))) (cl := []) (ll := [(3200, 32, [0, 1, 0, 1, 1], (lp3200 k32_0))]) (hX B _ _) (hF B _ _) trivial ⟨⟨fi32, b3200, fi32_eq, b3200_eq, ok_k32_0 B⟩, trivial⟩ rfl rfl 60 (f := 32) (fi := fi32) fi32_eq (ct := (.seq .nil (.seq .nil (.seq (.seq .nil (.sub (.loop 3200))) .nil)))) (L := con32 (fun _ _ => none)) (x := ((a0, (a1, ())), ())) (krw h (by kernel_rfl))
  exact fun x r hx => h x.1.1 x.1.2.1 r hx
theorem grp_k31 (B : Nat) : (∀ a0 a1 r, k31 a0 a1 = some r → FnOK1 (X B) Ce 31 (con31 (fun _ _ => none)) ((a0, (a1, ())), ()) r) ∧ (∀ a0 a1 a2 r, k31_0 a0 a1 a2 = some r → LoopOK1 (X B) Ce fi31.n b3100 (lp3100 (fun _ _ _ => none)) ((a0, (a1, (a2, ()))), ()) r) := by
  refine k31.mutual_partial_correctness (motive_1 := fun a0 a1 r => FnOK1 (X B) Ce 31 (con31 (fun _ _ => none)) ((a0, (a1, ())), ()) r) (motive_2 := fun a0 a1 a2 r => LoopOK1 (X B) Ce fi31.n b3100 (lp3100 (fun _ _ _ => none)) ((a0, (a1, (a2, ()))), ()) r) ?_ ?_
  · intro gk31_0 mk31_0 a0 a1 r h
    have Hk31_0 : LpOKs (X B) Ce fi31.n b3100 (lp3100 gk31_0) := fun x r hx => mk31_0 x.1.1 x.1.2.1 x.1.2.2.1 r hx
    exact gfun (C := (mkC (lkCon [(32, (con32 k32))]) (lkLp [(3100, 31, [0, 1, 0, 1, 1], (lp3100 gk31_0))]))) (cl := [(32, (con32 k32))]) (ll := [(3100, 31, [0, 1, 0, 1, 1], (lp3100 gk31_0))]) (hX B _ _) (hF B _ _) ⟨ok_k32 B, trivial⟩ ⟨⟨fi31, b3100, fi31_eq, b3100_eq, Hk31_0⟩, trivial⟩ rfl rfl 60 (f := 31) (fi := fi31) fi31_eq (ct := (.seq .nil (.seq .nil (.seq (.seq .nil (.sub (.loop 3100))) .nil)))) (L := con31 (fun _ _ => none)) (x := ((a0, (a1, ())), ())) (krw h (by kernel_rfl))
  · intro gk31 gk31_0 mk31 mk31_0 a0 a1 a2 r h
    have Hk31 : FnOKs (X B) Ce 31 (con31 gk31) := fun x r hx => mk31 x.1.1 x.1.2.1 r hx
    have Hk31_0 : LpOKs (X B) Ce fi31.n b3100 (lp3100 gk31_0) := fun x r hx => mk31_0 x.1.1 x.1.2.1 x.1.2.2.1 r hx
    have HL := Hk31_0
    exact gloop (C := (mkC (lkCon [(31, (con31 gk31))]) (lkLp [(3100, 31, [0, 1, 0, 1, 1], (lp3100 gk31_0))]))) (cl := [(31, (con31 gk31))]) (ll := [(3100, 31, [0, 1, 0, 1, 1], (lp3100 gk31_0))]) (hX B _ _) (hF B _ _) ⟨Hk31, trivial⟩ ⟨⟨fi31, b3100, fi31_eq, b3100_eq, Hk31_0⟩, trivial⟩ rfl rfl 60 (f := 31) (fi := fi31) fi31_eq (p := [0, 1, 0, 1, 1]) b3100_eq (ct := .nil) (L := lp3100 gk31_0) HL (x := ((a0, (a1, (a2, ()))), ())) (krw h (by kernel_rfl))
theorem ok_k31 (B : Nat) : FnOKs (X B) Ce 31 (con31 k31) := fun x r hx => (grp_k31 B).1 x.1.1 x.1.2.1 r hx
theorem ok_k31_0 (B : Nat) : LpOKs (X B) Ce fi31.n b3100 (lp3100 k31_0) := fun x r hx => (grp_k31 B).2 x.1.1 x.1.2.1 x.1.2.2.1 r hx
theorem grp_k19_0 (B : Nat) : (∀ a0 a1 a2 a3 a4 r, k19_0 a0 a1 a2 a3 a4 = some r → LoopOK1 (X B) Ce fi19.n b1900 (lp1900 (fun _ _ _ _ _ => none)) ((a0, (a1, (a2, (a3, (a4, ()))))), ()) r) := by
  refine k19_0.partial_correctness (motive := fun a0 a1 a2 a3 a4 r => LoopOK1 (X B) Ce fi19.n b1900 (lp1900 (fun _ _ _ _ _ => none)) ((a0, (a1, (a2, (a3, (a4, ()))))), ()) r) ?_
  · intro gk19_0 mk19_0 a0 a1 a2 a3 a4 r h
    have Hk19_0 : LpOKs (X B) Ce fi19.n b1900 (lp1900 gk19_0) := fun x r hx => mk19_0 x.1.1 x.1.2.1 x.1.2.2.1 x.1.2.2.2.1 x.1.2.2.2.2.1 r hx
    have HL := Hk19_0
    exact gloop (C := (mkC (lkCon [(12, (con12 k12)), (31, (con31 k31)), (32, (con32 k32))]) (lkLp [(1900, 19, [0, 1, 0, 1, 1, 1, 1], (lp1900 gk19_0))]))) (cl := [(12, (con12 k12)), (31, (con31 k31)), (32, (con32 k32))]) (ll := [(1900, 19, [0, 1, 0, 1, 1, 1, 1], (lp1900 gk19_0))]) (hX B _ _) (hF B _ _) ⟨ok_k12 B, ok_k31 B, ok_k32 B, trivial⟩ ⟨⟨fi19, b1900, fi19_eq, b1900_eq, Hk19_0⟩, trivial⟩ rfl rfl 60 (f := 19) (fi := fi19) fi19_eq (p := [0, 1, 0, 1, 1, 1, 1]) b1900_eq (ct := (.seq .nil (.seq (.sub (.seq (.join [] [] [(.normal, ⟨[(6, .bool)], [], []⟩)] .nil) .nil)) .nil))) (L := lp1900 gk19_0) HL (x := ((a0, (a1, (a2, (a3, (a4, ()))))), ())) (krw h (by kernel_rfl))
theorem ok_k19_0 (B : Nat) : LpOKs (X B) Ce fi19.n b1900 (lp1900 k19_0) := fun x r hx => (grp_k19_0 B) x.1.1 x.1.2.1 x.1.2.2.1 x.1.2.2.2.1 x.1.2.2.2.2.1 r hx
theorem grp_k19_1 (B : Nat) : (∀ a0 a1 a2 r, k19_1 a0 a1 a2 = some r → LoopOK1 (X B) Ce fi19.n b1901 (lp1901 (fun _ _ _ => none)) ((a0, (a1, (a2, ()))), ()) r) := by
  refine k19_1.partial_correctness (motive := fun a0 a1 a2 r => LoopOK1 (X B) Ce fi19.n b1901 (lp1901 (fun _ _ _ => none)) ((a0, (a1, (a2, ()))), ()) r) ?_
  · intro gk19_1 mk19_1 a0 a1 a2 r h
    have Hk19_1 : LpOKs (X B) Ce fi19.n b1901 (lp1901 gk19_1) := fun x r hx => mk19_1 x.1.1 x.1.2.1 x.1.2.2.1 r hx
    have HL := Hk19_1
    exact gloop (C := (mkC (lkCon [(32, (con32 k32))]) (lkLp [(1901, 19, [0, 1, 0, 1, 1, 1, 1, 1], (lp1901 gk19_1))]))) (cl := [(32, (con32 k32))]) (ll := [(1901, 19, [0, 1, 0, 1, 1, 1, 1, 1], (lp1901 gk19_1))]) (hX B _ _) (hF B _ _) ⟨ok_k32 B, trivial⟩ ⟨⟨fi19, b1901, fi19_eq, b1901_eq, Hk19_1⟩, trivial⟩ rfl rfl 60 (f := 19) (fi := fi19) fi19_eq (p := [0, 1, 0, 1, 1, 1, 1, 1]) b1901_eq (ct := .nil) (L := lp1901 gk19_1) HL (x := ((a0, (a1, (a2, ()))), ())) (krw h (by kernel_rfl))
theorem ok_k19_1 (B : Nat) : LpOKs (X B) Ce fi19.n b1901 (lp1901 k19_1) := fun x r hx => (grp_k19_1 B) x.1.1 x.1.2.1 x.1.2.2.1 r hx
theorem grp_k19_2 (B : Nat) : (∀ a0 a1 a2 r, k19_2 a0 a1 a2 = some r → LoopOK1 (X B) Ce fi19.n b1902 (lp1902 (fun _ _ _ => none)) ((a0, (a1, (a2, ()))), ()) r) := by
  refine k19_2.partial_correctness (motive := fun a0 a1 a2 r => LoopOK1 (X B) Ce fi19.n b1902 (lp1902 (fun _ _ _ => none)) ((a0, (a1, (a2, ()))), ()) r) ?_
  · intro gk19_2 mk19_2 a0 a1 a2 r h
    have Hk19_2 : LpOKs (X B) Ce fi19.n b1902 (lp1902 gk19_2) := fun x r hx => mk19_2 x.1.1 x.1.2.1 x.1.2.2.1 r hx
    have HL := Hk19_2
    exact gloop (C := (mkC (lkCon [(32, (con32 k32))]) (lkLp [(1902, 19, [0, 1, 0, 1, 1, 1, 1, 1, 1], (lp1902 gk19_2))]))) (cl := [(32, (con32 k32))]) (ll := [(1902, 19, [0, 1, 0, 1, 1, 1, 1, 1, 1], (lp1902 gk19_2))]) (hX B _ _) (hF B _ _) ⟨ok_k32 B, trivial⟩ ⟨⟨fi19, b1902, fi19_eq, b1902_eq, Hk19_2⟩, trivial⟩ rfl rfl 60 (f := 19) (fi := fi19) fi19_eq (p := [0, 1, 0, 1, 1, 1, 1, 1, 1]) b1902_eq (ct := .nil) (L := lp1902 gk19_2) HL (x := ((a0, (a1, (a2, ()))), ())) (krw h (by kernel_rfl))
theorem ok_k19_2 (B : Nat) : LpOKs (X B) Ce fi19.n b1902 (lp1902 k19_2) := fun x r hx => (grp_k19_2 B) x.1.1 x.1.2.1 x.1.2.2.1 r hx
theorem grp_k34 (B : Nat) : (∀ a0 a1 a2 r, k34 a0 a1 a2 = some r → FnOK1 (X B) Ce 34 (con34 (fun _ _ _ => none)) ((a0, (a1, (a2, ()))), ()) r) ∧ (∀ a0 a1 a2 a3 r, k34_0 a0 a1 a2 a3 = some r → LoopOK1 (X B) Ce fi34.n b3400 (lp3400 (fun _ _ _ _ => none)) ((a0, (a1, (a2, (a3, ())))), ()) r) := by
  refine k34.mutual_partial_correctness (motive_1 := fun a0 a1 a2 r => FnOK1 (X B) Ce 34 (con34 (fun _ _ _ => none)) ((a0, (a1, (a2, ()))), ()) r) (motive_2 := fun a0 a1 a2 a3 r => LoopOK1 (X B) Ce fi34.n b3400 (lp3400 (fun _ _ _ _ => none)) ((a0, (a1, (a2, (a3, ())))), ()) r) ?_ ?_
  · intro gk34_0 mk34_0 a0 a1 a2 r h
    have Hk34_0 : LpOKs (X B) Ce fi34.n b3400 (lp3400 gk34_0) := fun x r hx => mk34_0 x.1.1 x.1.2.1 x.1.2.2.1 x.1.2.2.2.1 r hx
    exact gfun (C := (mkC (lkCon [(13, (con13 k13)), (32, (con32 k32))]) (lkLp [(3400, 34, [0, 1, 0, 1], (lp3400 gk34_0))]))) (cl := [(13, (con13 k13)), (32, (con32 k32))]) (ll := [(3400, 34, [0, 1, 0, 1], (lp3400 gk34_0))]) (hX B _ _) (hF B _ _) ⟨ok_k13 B, ok_k32 B, trivial⟩ ⟨⟨fi34, b3400, fi34_eq, b3400_eq, Hk34_0⟩, trivial⟩ rfl rfl 60 (f := 34) (fi := fi34) fi34_eq (ct := (.seq .nil (.seq (.seq .nil (.sub (.loop 3400))) .nil))) (L := con34 (fun _ _ _ => none)) (x := ((a0, (a1, (a2, ()))), ())) (krw h (by kernel_rfl))
  · intro gk34 gk34_0 mk34 mk34_0 a0 a1 a2 a3 r h
    have Hk34 : FnOKs (X B) Ce 34 (con34 gk34) := fun x r hx => mk34 x.1.1 x.1.2.1 x.1.2.2.1 r hx
    have Hk34_0 : LpOKs (X B) Ce fi34.n b3400 (lp3400 gk34_0) := fun x r hx => mk34_0 x.1.1 x.1.2.1 x.1.2.2.1 x.1.2.2.2.1 r hx
    have HL := Hk34_0
    exact gloop (C := (mkC (lkCon [(34, (con34 gk34))]) (lkLp [(3400, 34, [0, 1, 0, 1], (lp3400 gk34_0))]))) (cl := [(34, (con34 gk34))]) (ll := [(3400, 34, [0, 1, 0, 1], (lp3400 gk34_0))]) (hX B _ _) (hF B _ _) ⟨Hk34, trivial⟩ ⟨⟨fi34, b3400, fi34_eq, b3400_eq, Hk34_0⟩, trivial⟩ rfl rfl 60 (f := 34) (fi := fi34) fi34_eq (p := [0, 1, 0, 1]) b3400_eq (ct := .nil) (L := lp3400 gk34_0) HL (x := ((a0, (a1, (a2, (a3, ())))), ())) (krw h (by kernel_rfl))
theorem ok_k34 (B : Nat) : FnOKs (X B) Ce 34 (con34 k34) := fun x r hx => (grp_k34 B).1 x.1.1 x.1.2.1 x.1.2.2.1 r hx
theorem ok_k34_0 (B : Nat) : LpOKs (X B) Ce fi34.n b3400 (lp3400 k34_0) := fun x r hx => (grp_k34 B).2 x.1.1 x.1.2.1 x.1.2.2.1 x.1.2.2.2.1 r hx
theorem grp_k33 (B : Nat) : (∀ a0 a1 a2 r, k33 a0 a1 a2 = some r → FnOK1 (X B) Ce 33 (con33 (fun _ _ _ => none)) ((a0, (a1, (a2, ()))), ()) r) ∧ (∀ a0 a1 a2 a3 r, k33_0 a0 a1 a2 a3 = some r → LoopOK1 (X B) Ce fi33.n b3300 (lp3300 (fun _ _ _ _ => none)) ((a0, (a1, (a2, (a3, ())))), ()) r) := by
  refine k33.mutual_partial_correctness (motive_1 := fun a0 a1 a2 r => FnOK1 (X B) Ce 33 (con33 (fun _ _ _ => none)) ((a0, (a1, (a2, ()))), ()) r) (motive_2 := fun a0 a1 a2 a3 r => LoopOK1 (X B) Ce fi33.n b3300 (lp3300 (fun _ _ _ _ => none)) ((a0, (a1, (a2, (a3, ())))), ()) r) ?_ ?_
  · intro gk33_0 mk33_0 a0 a1 a2 r h
    have Hk33_0 : LpOKs (X B) Ce fi33.n b3300 (lp3300 gk33_0) := fun x r hx => mk33_0 x.1.1 x.1.2.1 x.1.2.2.1 x.1.2.2.2.1 r hx
    exact gfun (C := (mkC (lkCon []) (lkLp [(3300, 33, [0, 1, 0, 1], (lp3300 gk33_0))]))) (cl := []) (ll := [(3300, 33, [0, 1, 0, 1], (lp3300 gk33_0))]) (hX B _ _) (hF B _ _) trivial ⟨⟨fi33, b3300, fi33_eq, b3300_eq, Hk33_0⟩, trivial⟩ rfl rfl 60 (f := 33) (fi := fi33) fi33_eq (ct := (.seq .nil (.seq (.seq .nil (.sub (.loop 3300))) .nil))) (L := con33 (fun _ _ _ => none)) (x := ((a0, (a1, (a2, ()))), ())) (krw h (by kernel_rfl))
  · intro gk33 gk33_0 mk33 mk33_0 a0 a1 a2 a3 r h
    have Hk33 : FnOKs (X B) Ce 33 (con33 gk33) := fun x r hx => mk33 x.1.1 x.1.2.1 x.1.2.2.1 r hx
    have Hk33_0 : LpOKs (X B) Ce fi33.n b3300 (lp3300 gk33_0) := fun x r hx => mk33_0 x.1.1 x.1.2.1 x.1.2.2.1 x.1.2.2.2.1 r hx
    have HL := Hk33_0
    exact gloop (C := (mkC (lkCon [(32, (con32 k32)), (33, (con33 gk33)), (34, (con34 k34))]) (lkLp [(3300, 33, [0, 1, 0, 1], (lp3300 gk33_0))]))) (cl := [(32, (con32 k32)), (33, (con33 gk33)), (34, (con34 k34))]) (ll := [(3300, 33, [0, 1, 0, 1], (lp3300 gk33_0))]) (hX B _ _) (hF B _ _) ⟨ok_k32 B, Hk33, ok_k34 B, trivial⟩ ⟨⟨fi33, b3300, fi33_eq, b3300_eq, Hk33_0⟩, trivial⟩ rfl rfl 60 (f := 33) (fi := fi33) fi33_eq (p := [0, 1, 0, 1]) b3300_eq (ct := (.seq .nil (.seq (.sub (.seq .nil (.seq .nil (.seq .nil (.seq (.seq (.join [] [] [(.normal, ⟨[(61, .bool)], [], []⟩)] .nil) .nil) .nil))))) .nil))) (L := lp3300 gk33_0) HL (x := ((a0, (a1, (a2, (a3, ())))), ())) (krw h (by kernel_rfl))
theorem ok_k33 (B : Nat) : FnOKs (X B) Ce 33 (con33 k33) := fun x r hx => (grp_k33 B).1 x.1.1 x.1.2.1 x.1.2.2.1 r hx
theorem ok_k33_0 (B : Nat) : LpOKs (X B) Ce fi33.n b3300 (lp3300 k33_0) := fun x r hx => (grp_k33 B).2 x.1.1 x.1.2.1 x.1.2.2.1 x.1.2.2.2.1 r hx
theorem ok_k19 (B : Nat) : FnOKs (X B) Ce 19 (con19 k19) := by
  have h : ∀ a0 a1 r, k19 a0 a1 = some r → FnOK1 (X B) Ce 19 (con19 (fun _ _ => none)) ((a0, (a1, ())), ()) r := fun a0 a1 r h => gfun (C := (mkC (lkCon [(12, (con12 k12)), (13, (con13 k13)), (31, (con31 k31)), (33, (con33 k33)), (34, (con34 k34))]) (lkLp [(1900, 19, [0, 1, 0, 1, 1, 1, 1], (lp1900 k19_0)), (1901, 19, [0, 1, 0, 1, 1, 1, 1, 1], (lp1901 k19_1)), (1902, 19, [0, 1, 0, 1, 1, 1, 1, 1, 1], (lp1902 k19_2))]))) (cl := [(12, (con12 k12)), (13, (con13 k13)), (31, (con31 k31)), (33, (con33 k33)), (34, (con34 k34))]) (ll := [(1900, 19, [0, 1, 0, 1, 1, 1, 1], (lp1900 k19_0)), (1901, 19, [0, 1, 0, 1, 1, 1, 1, 1], (lp1901 k19_1)), (1902, 19, [0, 1, 0, 1, 1, 1, 1, 1, 1], (lp1902 k19_2))]) (hX B _ _) (hF B _ _) ⟨ok_k12 B, ok_k13 B, ok_k31 B, ok_k33 B, ok_k34 B, trivial⟩ ⟨⟨fi19, b1900, fi19_eq, b1900_eq, ok_k19_0 B⟩, ⟨fi19, b1901, fi19_eq, b1901_eq, ok_k19_1 B⟩, ⟨fi19, b1902, fi19_eq, b1902_eq, ok_k19_2 B⟩, trivial⟩ rfl rfl 60 (f := 19) (fi := fi19) fi19_eq (ct := (.seq .nil (.seq .nil (.seq (.join [] [] [(.normal, ⟨[(6, .bool)], [], []⟩)] .nil) (.seq .nil (.seq (.seq .nil (.sub (.loop 1900))) (.seq (.seq .nil (.sub (.loop 1901))) (.seq (.seq .nil (.sub (.loop 1902))) .nil)))))))) (L := con19 (fun _ _ => none)) (x := ((a0, (a1, ())), ())) (krw h (by kernel_rfl))
  exact fun x r hx => h x.1.1 x.1.2.1 r hx
theorem grp_k8_0 (B : Nat) : (∀ a0 a1 r, k8_0 a0 a1 = some r → LoopOK1 (X B) Ce fi8.n b800 (lp800 (fun _ _ => none)) ((a0, (a1, ())), ()) r) := by
  refine k8_0.partial_correctness (motive := fun a0 a1 r => LoopOK1 (X B) Ce fi8.n b800 (lp800 (fun _ _ => none)) ((a0, (a1, ())), ()) r) ?_
  · intro gk8_0 mk8_0 a0 a1 r h
    have Hk8_0 : LpOKs (X B) Ce fi8.n b800 (lp800 gk8_0) := fun x r hx => mk8_0 x.1.1 x.1.2.1 r hx
    have HL := Hk8_0
    exact gloop (C := (mkC (lkCon [(19, (con19 k19))]) (lkLp [(800, 8, [0, 1, 0, 1, 1], (lp800 gk8_0))]))) (cl := [(19, (con19 k19))]) (ll := [(800, 8, [0, 1, 0, 1, 1], (lp800 gk8_0))]) (hX B _ _) (hF B _ _) ⟨ok_k19 B, trivial⟩ ⟨⟨fi8, b800, fi8_eq, b800_eq, Hk8_0⟩, trivial⟩ rfl rfl 60 (f := 8) (fi := fi8) fi8_eq (p := [0, 1, 0, 1, 1]) b800_eq (ct := .nil) (L := lp800 gk8_0) HL (x := ((a0, (a1, ())), ())) (krw h (by kernel_rfl))
theorem ok_k8_0 (B : Nat) : LpOKs (X B) Ce fi8.n b800 (lp800 k8_0) := fun x r hx => (grp_k8_0 B) x.1.1 x.1.2.1 r hx
theorem ok_k8 (B : Nat) : FnOKs (X B) Ce 8 (con8 k8) := by
  have h : ∀ a0 r, k8 a0 = some r → FnOK1 (X B) Ce 8 (con8 (fun _ => none)) ((a0, ()), ()) r := fun a0 r h => gfun (C := (mkC (lkCon [(18, (con18 k18))]) (lkLp [(800, 8, [0, 1, 0, 1, 1], (lp800 k8_0))]))) (cl := [(18, (con18 k18))]) (ll := [(800, 8, [0, 1, 0, 1, 1], (lp800 k8_0))]) (hX B _ _) (hF B _ _) ⟨ok_k18 B, trivial⟩ ⟨⟨fi8, b800, fi8_eq, b800_eq, ok_k8_0 B⟩, trivial⟩ rfl rfl 60 (f := 8) (fi := fi8) fi8_eq (ct := (.seq .nil (.seq .nil (.seq (.seq .nil (.sub (.loop 800))) (.seq .nil (.seq (.seq (.join [] [] [(.normal, ⟨[(40, .bool)], [], []⟩)] .nil) .nil) .nil)))))) (L := con8 (fun _ => none)) (x := ((a0, ()), ())) (krw h (by kernel_rfl))
  exact fun x r hx => h x.1.1 r hx
end Go.Lb.R
end
section
set_option maxRecDepth 1000000
set_option maxHeartbeats 0
namespace Go.Lb.R
open Go.Lb
open Go.Proofs
def con10 (k : (List GF) → Option ((GErr × Unit) × Unit)) : Con := ⟨⟨[(0, .sl .fn)], [], []⟩, [(.ret, ⟨[(1000, .err)], [], []⟩)], fun x => k x.1.1⟩
def lp1000 (k : (List GF) → Int → Int → (Mp Int) → Option ((Unit × ((Mp Int) × Unit)) ⊕ ((GErr × Unit) × ((Mp Int) × Unit)))) : Con := ⟨⟨[(3, .map 0), (13, .sl .fn), (14, .int .i64), (15, .int .i64)], [(0, .map .str .int)], []⟩, [(.exit 0, ⟨[], [(0, .map .str .int)], []⟩), (.ret, ⟨[(2, .err)], [(0, .map .str .int)], []⟩)], fun x => k x.1.2.1 x.1.2.2.1 x.1.2.2.2.1 x.2.1⟩
def con11 (k : GT → Option ((Bool × Unit) × Unit)) : Con := ⟨⟨[(0, .n .ty)], [], []⟩, [(.ret, ⟨[(1000, .bool)], [], []⟩)], fun x => k x.1.1⟩
def lp1100 (k : (List GT) → Int → Int → Bool → Option ((Unit × (Bool × Unit)) ⊕ ((Int × Unit) × (Bool × Unit)))) : Con := ⟨⟨[(0, .sl .ty), (1, .fn 25 [] [.ptr 0 0]), (7, .int .i64), (8, .int .i64)], [(0, .cells 4 (.bool))], []⟩, [(.exit 0, ⟨[], [(0, .cells 4 (.bool))], []⟩), (.ret, ⟨[(4, .int .i64)], [(0, .cells 4 (.bool))], []⟩)], fun x => k x.1.1 x.1.2.2.1 x.1.2.2.2.1 x.2.1⟩
def con22 (k : (List GF) → Option ((Bool × Unit) × Unit)) : Con := ⟨⟨[(0, .sl .fn)], [], []⟩, [(.ret, ⟨[(1000, .bool)], [], []⟩)], fun x => k x.1.1⟩
def lp2200 (k : (List GF) → Int → Int → Option ((Unit × ((Unit × Unit) × Unit)) ⊕ ((Int × Unit) × ((Unit × Unit) × Unit)))) : Con := ⟨⟨[(0, .sl .fn), (1, .fn 68 [] [.ptr 0 0]), (7, .int .i64), (8, .int .i64)], [(0, .cells 66 (.fn 38 [] []))], []⟩, [(.exit 0, ⟨[], [(0, .cells 66 (.fn 38 [] []))], []⟩), (.ret, ⟨[(4, .int .i64)], [(0, .cells 66 (.fn 38 [] []))], []⟩)], fun x => k x.1.1 x.1.2.2.1 x.1.2.2.2.1⟩
def con23 (k : GF → (Mp Int) → Option ((GErr × Unit) × ((Mp Int) × Unit))) : Con := ⟨⟨[(0, .n .fn), (1, .map 0)], [(0, .map .str .int)], []⟩, [(.ret, ⟨[(1000, .err)], [(0, .map .str .int)], []⟩)], fun x => k x.1.1 x.2.1⟩
def lp2300 (k : (List GT) → (List Str) → (List GP) → Int → Int → (Mp Bool) → Option (((List GT) × ((List Str) × Unit)) × ((Mp Bool) × Unit))) : Con := ⟨⟨[(5, .map 0), (6, .own .ty 1), (7, .own .str 2), (22, .sl .par), (23, .int .i64), (24, .int .i64)], [(0, .map .str .bool)], [(1, 4, 34), (2, 1, 9)]⟩, [(.exit 0, ⟨[(6, .own .ty 1), (7, .own .str 2)], [(0, .map .str .bool)], [(1, 4, 34), (2, 1, 9)]⟩)], fun x => k x.1.2.1 x.1.2.2.1 x.1.2.2.2.1 x.1.2.2.2.2.1 x.1.2.2.2.2.2.1 x.2.1⟩
def lp2301 (k : (List Str) → Bool → (List GT) → Int → Int → Option (((List Str) × (Bool × Unit)) × Unit)) : Con := ⟨⟨[(11, .own .str 0), (12, .bool), (46, .own .ty 1), (47, .int .i64), (48, .int .i64)], [], [(0, 1, 9), (1, 4, 34)]⟩, [(.exit 2, ⟨[(11, .own .str 0), (12, .bool)], [], [(0, 1, 9)]⟩)], fun x => k x.1.1 x.1.2.1 x.1.2.2.1 x.1.2.2.2.1 x.1.2.2.2.2.1⟩
def lp2302 (k : (List Str) → Int → Int → GF → Option ((Unit × ((Unit × (Unit × Unit)) × (GF × Unit))) ⊕ ((Int × Unit) × ((Unit × (Unit × Unit)) × (GF × Unit))))) : Con := ⟨⟨[(0, .own .str 2), (1, .fn 45 [] [.ptr 0 0]), (7, .int .i64), (8, .int .i64)], [(0, .cells 79 (.fn 39 [] [.ptr 1 0])), (1, .cells 42 (.n .fn))], [(2, 1, 9)]⟩, [(.exit 0, ⟨[], [(0, .cells 79 (.fn 39 [] [.ptr 1 0])), (1, .cells 42 (.n .fn))], []⟩), (.ret, ⟨[(4, .int .i64)], [(0, .cells 79 (.fn 39 [] [.ptr 1 0])), (1, .cells 42 (.n .fn))], []⟩)], fun x => k x.1.1 x.1.2.2.1 x.1.2.2.2.1 x.2.2.1⟩
def con26 (k : GT → Option ((Bool × Unit) × Unit)) : Con := ⟨⟨[(0, .n .ty)], [], []⟩, [(.ret, ⟨[(1000, .bool)], [], []⟩)], fun x => k x.1.1⟩
def lp2600 (k : (List GT) → Int → Int → Option ((Unit × Unit) ⊕ ((Int × Unit) × Unit))) : Con := ⟨⟨[(0, .sl .ty), (1, .fn 26 [] []), (7, .int .i64), (8, .int .i64)], [], []⟩, [(.exit 0, ⟨[], [], []⟩), (.ret, ⟨[(4, .int .i64)], [], []⟩)], fun x => k x.1.1 x.1.2.2.1 x.1.2.2.2.1⟩
def con36 (k : (List GF) → Option ((Int × Unit) × Unit)) : Con := ⟨⟨[(0, .sl .fn)], [], []⟩, [(.ret, ⟨[(1000, .int .i64)], [], []⟩)], fun x => k x.1.1⟩
def lp3600 (k : Int → (List GF) → Int → Int → Option ((Int × Unit) × Unit)) : Con := ⟨⟨[(1, .fn 66 [] []), (5, .int .i64), (8, .sl .fn), (9, .int .i64), (10, .int .i64)], [], []⟩, [(.exit 0, ⟨[(5, .int .i64)], [], []⟩)], fun x => k x.1.2.1 x.1.2.2.1 x.1.2.2.2.1 x.1.2.2.2.2.1⟩
def con38 (k : GF → Option ((Bool × Unit) × Unit)) : Con := ⟨⟨[(0, .n .fn)], [], []⟩, [(.ret, ⟨[(1000, .bool)], [], []⟩)], fun x => k x.1.1⟩
def lp3800 (k : (List Str) → Int → Int → Option ((Unit × ((Unit × Unit) × Unit)) ⊕ ((Int × Unit) × ((Unit × Unit) × Unit)))) : Con := ⟨⟨[(0, .sl .str), (1, .fn 107 [] [.ptr 0 0]), (7, .int .i64), (8, .int .i64)], [(0, .cells 79 (.fn 70 [] []))], []⟩, [(.exit 0, ⟨[], [(0, .cells 79 (.fn 70 [] []))], []⟩), (.ret, ⟨[(4, .int .i64)], [(0, .cells 79 (.fn 70 [] []))], []⟩)], fun x => k x.1.1 x.1.2.2.1 x.1.2.2.2.1⟩
def lp3801 (k : (List GP) → Int → Int → Option ((Unit × ((Unit × Unit) × Unit)) ⊕ ((Int × Unit) × ((Unit × Unit) × Unit)))) : Con := ⟨⟨[(0, .sl .par), (1, .fn 109 [] [.ptr 0 0]), (7, .int .i64), (8, .int .i64)], [(0, .cells 114 (.fn 69 [] []))], []⟩, [(.exit 0, ⟨[], [(0, .cells 114 (.fn 69 [] []))], []⟩), (.ret, ⟨[(4, .int .i64)], [(0, .cells 114 (.fn 69 [] []))], []⟩)], fun x => k x.1.1 x.1.2.2.1 x.1.2.2.2.1⟩
def lp3802 (k : (List GS) → Int → Int → Option ((Unit × ((Unit × Unit) × Unit)) ⊕ ((Int × Unit) × ((Unit × Unit) × Unit)))) : Con := ⟨⟨[(0, .sl .st), (1, .fn 111 [] [.ptr 0 0]), (7, .int .i64), (8, .int .i64)], [(0, .cells 117 (.fn 75 [] []))], []⟩, [(.exit 0, ⟨[], [(0, .cells 117 (.fn 75 [] []))], []⟩), (.ret, ⟨[(4, .int .i64)], [(0, .cells 117 (.fn 75 [] []))], []⟩)], fun x => k x.1.1 x.1.2.2.1 x.1.2.2.2.1⟩
def con40 (k : (List Str) → Str → Option ((Bool × Unit) × Unit)) : Con := ⟨⟨[(0, .sl .str), (1, .str)], [], []⟩, [(.ret, ⟨[(1000, .bool)], [], []⟩)], fun x => k x.1.1 x.1.2.1⟩
def con42 (k : GT → Option (((List Str) × Unit) × Unit)) : Con := ⟨⟨[(0, .n .ty)], [], []⟩, [(.ret, ⟨[(1000, .own .str 0)], [], [(0, 1, 9)]⟩)], fun x => k x.1.1⟩
def lp4200 (k : (List Str) → (List GT) → Int → Int → Option (((List Str) × Unit) × Unit)) : Con := ⟨⟨[(3, .own .str 0), (15, .sl .ty), (16, .int .i64), (17, .int .i64)], [], [(0, 1, 9)]⟩, [(.exit 0, ⟨[(3, .own .str 0)], [], [(0, 1, 9)]⟩)], fun x => k x.1.1 x.1.2.1 x.1.2.2.1 x.1.2.2.2.1⟩
def con43 (k : (List Str) → Option ((Bool × Unit) × Unit)) : Con := ⟨⟨[(0, .sl .str)], [], []⟩, [(.ret, ⟨[(1000, .bool)], [], []⟩)], fun x => k x.1.1⟩
def lp4300 (k : (List Str) → Int → Int → (Mp Bool) → Option ((Unit × ((Mp Bool) × Unit)) ⊕ ((Bool × Unit) × ((Mp Bool) × Unit)))) : Con := ⟨⟨[(3, .map 0), (7, .sl .str), (8, .int .i64), (9, .int .i64)], [(0, .map .str .bool)], []⟩, [(.exit 0, ⟨[], [(0, .map .str .bool)], []⟩), (.ret, ⟨[(2, .bool)], [(0, .map .str .bool)], []⟩)], fun x => k x.1.2.1 x.1.2.2.1 x.1.2.2.2.1 x.2.1⟩
def con46 (k : (List GS) → (Mp Bool) → (Mp Int) → Option ((Bool × Unit) × ((Mp Bool) × ((Mp Int) × Unit)))) : Con := ⟨⟨[(0, .map 0), (1, .sl .st), (2, .map 1)], [(0, .map .str .bool), (1, .map .str .int)], []⟩, [(.ret, ⟨[(1000, .bool)], [(0, .map .str .bool), (1, .map .str .int)], []⟩)], fun x => k x.1.2.1 x.2.1 x.2.2.1⟩
def lp4600 (k : (List GS) → Int → Int → (Mp Bool) → (Mp Int) → Option ((Unit × ((Mp Bool) × ((Mp Int) × Unit))) ⊕ ((Bool × Unit) × ((Mp Bool) × ((Mp Int) × Unit))))) : Con := ⟨⟨[(0, .map 0), (2, .map 1), (9, .sl .st), (10, .int .i64), (11, .int .i64)], [(0, .map .str .bool), (1, .map .str .int)], []⟩, [(.exit 0, ⟨[], [(0, .map .str .bool), (1, .map .str .int)], []⟩), (.ret, ⟨[(6, .bool)], [(0, .map .str .bool), (1, .map .str .int)], []⟩)], fun x => k x.1.2.2.1 x.1.2.2.2.1 x.1.2.2.2.2.1 x.2.1 x.2.2.1⟩
def con47 (k : GE → (Mp Bool) → (Mp Int) → Option ((Bool × Unit) × ((Mp Bool) × ((Mp Int) × Unit)))) : Con := ⟨⟨[(0, .map 0), (1, .n .ex), (2, .map 1)], [(0, .map .str .bool), (1, .map .str .int)], []⟩, [(.ret, ⟨[(1000, .bool)], [(0, .map .str .bool), (1, .map .str .int)], []⟩)], fun x => k x.1.2.1 x.2.1 x.2.2.1⟩
def lp4700 (k : (List GE) → Int → Int → (Mp Bool) → (Mp Int) → Option ((Unit × ((Mp Bool) × ((Mp Int) × Unit))) ⊕ ((Bool × Unit) × ((Mp Bool) × ((Mp Int) × Unit))))) : Con := ⟨⟨[(0, .map 0), (2, .map 1), (12, .sl .ex), (13, .int .i64), (14, .int .i64)], [(0, .map .str .bool), (1, .map .str .int)], []⟩, [(.exit 0, ⟨[], [(0, .map .str .bool), (1, .map .str .int)], []⟩), (.ret, ⟨[(6, .bool)], [(0, .map .str .bool), (1, .map .str .int)], []⟩)], fun x => k x.1.2.2.1 x.1.2.2.2.1 x.1.2.2.2.2.1 x.2.1 x.2.2.1⟩
def con66 (k : GF → Option ((Int × Unit) × Unit)) : Con := ⟨⟨[(0, .n .fn)], [], []⟩, [(.ret, ⟨[(1000, .int .i64)], [], []⟩)], fun x => k x.1.1⟩
def lp6600 (k : Int → (List GP) → Int → Int → Option ((Int × Unit) × Unit)) : Con := ⟨⟨[(1, .fn 98 [] []), (5, .int .i64), (8, .sl .par), (9, .int .i64), (10, .int .i64)], [], []⟩, [(.exit 0, ⟨[(5, .int .i64)], [], []⟩)], fun x => k x.1.2.1 x.1.2.2.1 x.1.2.2.2.1 x.1.2.2.2.2.1⟩
def lp6601 (k : Int → (List GS) → Int → Int → Option ((Int × Unit) × Unit)) : Con := ⟨⟨[(1, .fn 101 [] []), (5, .int .i64), (8, .sl .st), (9, .int .i64), (10, .int .i64)], [], []⟩, [(.exit 0, ⟨[(5, .int .i64)], [], []⟩)], fun x => k x.1.2.1 x.1.2.2.1 x.1.2.2.2.1 x.1.2.2.2.2.1⟩
def con70 (k : Str → Option ((Bool × Unit) × Unit)) : Con := ⟨⟨[(0, .str)], [], []⟩, [(.ret, ⟨[(1000, .bool)], [], []⟩)], fun x => k x.1.1⟩
def con71 (k : GT → Option ((Bool × Unit) × Unit)) : Con := ⟨⟨[(0, .n .ty)], [], []⟩, [(.ret, ⟨[(1000, .bool)], [], []⟩)], fun x => k x.1.1⟩
def lp7100 (k : (List GT) → Int → Int → Option ((Unit × ((Unit × Unit) × Unit)) ⊕ ((Int × Unit) × ((Unit × Unit) × Unit)))) : Con := ⟨⟨[(0, .sl .ty), (1, .fn 131 [] [.ptr 0 0]), (7, .int .i64), (8, .int .i64)], [(0, .cells 43 (.fn 71 [] []))], []⟩, [(.exit 0, ⟨[], [(0, .cells 43 (.fn 71 [] []))], []⟩), (.ret, ⟨[(4, .int .i64)], [(0, .cells 43 (.fn 71 [] []))], []⟩)], fun x => k x.1.1 x.1.2.2.1 x.1.2.2.2.1⟩
def con75 (k : GS → Option ((Bool × Unit) × Unit)) : Con := ⟨⟨[(0, .n .st)], [], []⟩, [(.ret, ⟨[(1000, .bool)], [], []⟩)], fun x => k x.1.1⟩
def lp7500 (k : (List GS) → Int → Int → Option ((Unit × ((Unit × Unit) × Unit)) ⊕ ((Int × Unit) × ((Unit × Unit) × Unit)))) : Con := ⟨⟨[(0, .sl .st), (1, .fn 111 [] [.ptr 0 0]), (7, .int .i64), (8, .int .i64)], [(0, .cells 117 (.fn 75 [] []))], []⟩, [(.exit 0, ⟨[], [(0, .cells 117 (.fn 75 [] []))], []⟩), (.ret, ⟨[(4, .int .i64)], [(0, .cells 117 (.fn 75 [] []))], []⟩)], fun x => k x.1.1 x.1.2.2.1 x.1.2.2.2.1⟩
def con76 (k : (List GS) → Option ((Int × Unit) × Unit)) : Con := ⟨⟨[(0, .sl .st)], [], []⟩, [(.ret, ⟨[(1000, .int .i64)], [], []⟩)], fun x => k x.1.1⟩
def lp7600 (k : Int → (List GS) → Int → Int → Option ((Int × Unit) × Unit)) : Con := ⟨⟨[(1, .fn 114 [] []), (5, .int .i64), (8, .sl .st), (9, .int .i64), (10, .int .i64)], [], []⟩, [(.exit 0, ⟨[(5, .int .i64)], [], []⟩)], fun x => k x.1.2.1 x.1.2.2.1 x.1.2.2.2.1 x.1.2.2.2.2.1⟩
def con77 (k : GE → Option ((Bool × Unit) × Unit)) : Con := ⟨⟨[(0, .n .ex)], [], []⟩, [(.ret, ⟨[(1000, .bool)], [], []⟩)], fun x => k x.1.1⟩
def lp7700 (k : (List GE) → Int → Int → Option ((Unit × ((Unit × Unit) × Unit)) ⊕ ((Int × Unit) × ((Unit × Unit) × Unit)))) : Con := ⟨⟨[(0, .sl .ex), (1, .fn 143 [] [.ptr 0 0]), (7, .int .i64), (8, .int .i64)], [(0, .cells 98 (.fn 77 [] []))], []⟩, [(.exit 0, ⟨[], [(0, .cells 98 (.fn 77 [] []))], []⟩), (.ret, ⟨[(4, .int .i64)], [(0, .cells 98 (.fn 77 [] []))], []⟩)], fun x => k x.1.1 x.1.2.2.1 x.1.2.2.2.1⟩
def con78 (k : (List Str) → Str → Option ((Int × Unit) × Unit)) : Con := ⟨⟨[(0, .sl .str), (1, .str)], [], []⟩, [(.ret, ⟨[(1000, .int .i64)], [], []⟩)], fun x => k x.1.1 x.1.2.1⟩
def lp7800 (k : (List Str) → Str → Int → Int → Option ((Unit × Unit) ⊕ ((Int × Unit) × Unit))) : Con := ⟨⟨[(0, .sl .str), (1, .str), (7, .int .i64), (8, .int .i64)], [], []⟩, [(.exit 0, ⟨[], [], []⟩), (.ret, ⟨[(4, .int .i64)], [], []⟩)], fun x => k x.1.1 x.1.2.1 x.1.2.2.1 x.1.2.2.2.1⟩
def con99 (k : GT → Option ((Int × Unit) × Unit)) : Con := ⟨⟨[(0, .n .ty)], [], []⟩, [(.ret, ⟨[(1000, .int .i64)], [], []⟩)], fun x => k x.1.1⟩
def lp9900 (k : Int → (List GT) → Int → Int → Option ((Int × Unit) × Unit)) : Con := ⟨⟨[(1, .fn 99 [] []), (5, .int .i64), (8, .sl .ty), (9, .int .i64), (10, .int .i64)], [], []⟩, [(.exit 0, ⟨[(5, .int .i64)], [], []⟩)], fun x => k x.1.2.1 x.1.2.2.1 x.1.2.2.2.1 x.1.2.2.2.2.1⟩
def con101 (k : GS → Option ((Int × Unit) × Unit)) : Con := ⟨⟨[(0, .n .st)], [], []⟩, [(.ret, ⟨[(1000, .int .i64)], [], []⟩)], fun x => k x.1.1⟩
def lp10100 (k : Int → (List GS) → Int → Int → Option ((Int × Unit) × Unit)) : Con := ⟨⟨[(1, .fn 101 [] []), (5, .int .i64), (8, .sl .st), (9, .int .i64), (10, .int .i64)], [], []⟩, [(.exit 0, ⟨[(5, .int .i64)], [], []⟩)], fun x => k x.1.2.1 x.1.2.2.1 x.1.2.2.2.1 x.1.2.2.2.2.1⟩
def con102 (k : GE → Option ((Int × Unit) × Unit)) : Con := ⟨⟨[(0, .n .ex)], [], []⟩, [(.ret, ⟨[(1000, .int .i64)], [], []⟩)], fun x => k x.1.1⟩
def lp10200 (k : GE → Int → (List GE) → Int → Int → Option ((Int × Unit) × Unit)) : Con := ⟨⟨[(1, .ro (.n .ex)), (3, .int .i64), (16, .sl .ex), (17, .int .i64), (18, .int .i64)], [], []⟩, [(.exit 0, ⟨[(3, .int .i64)], [], []⟩)], fun x => k x.1.1 x.1.2.1 x.1.2.2.1 x.1.2.2.2.1 x.1.2.2.2.2.1⟩
def con104 (k : Str → Option ((((List KTok) × (GErr × Unit)) × Unit) × Unit)) : Con := ⟨⟨[(0, .str)], [], []⟩, [(.ret, ⟨[(1000, .tuple [.own .tok 0, .err])], [], [(0, 3, 96)]⟩)], fun x => k x.1.1⟩
def lp10400 (k : Str → (List KTok) → Int → Option ((((List KTok) × Unit) × Unit) ⊕ ((Unit × (GErr × Unit)) × Unit))) : Con := ⟨⟨[(0, .str), (4, .own .tok 0), (5, .int .i64)], [], [(0, 3, 96)]⟩, [(.exit 0, ⟨[(4, .own .tok 0)], [], [(0, 3, 96)]⟩), (.ret, ⟨[(2, .lit 5), (3, .err)], [], []⟩)], fun x => k x.1.1 x.1.2.1 x.1.2.2.1⟩
def con105 (k : Option (((List Str) × Unit) × Unit)) : Con := ⟨⟨[], [], []⟩, [(.ret, ⟨[(1000, .sl .str)], [], []⟩)], fun x => k⟩
def con112 (k : GE → Option ((Bool × Unit) × Unit)) : Con := ⟨⟨[(0, .n .ex)], [], []⟩, [(.ret, ⟨[(1000, .bool)], [], []⟩)], fun x => k x.1.1⟩
def con113 (k : GE → Option ((Bool × Unit) × Unit)) : Con := ⟨⟨[(0, .n .ex)], [], []⟩, [(.ret, ⟨[(1000, .bool)], [], []⟩)], fun x => k x.1.1⟩
def con127 (k : GE → Int → Option ((Bool × Unit) × Unit)) : Con := ⟨⟨[(0, .n .ex), (1, .int .i64)], [], []⟩, [(.ret, ⟨[(1000, .bool)], [], []⟩)], fun x => k x.1.1 x.1.2.1⟩
def con128 (k : Str → Option ((Int × Unit) × Unit)) : Con := ⟨⟨[(0, .str)], [], []⟩, [(.ret, ⟨[(1000, .int .i64)], [], []⟩)], fun x => k x.1.1⟩
def lp12800 (k : (Str × Nat) → Option ((Unit × ((Str × Nat) × Unit)) ⊕ ((Int × Unit) × ((Str × Nat) × Unit)))) : Con := ⟨⟨[(1, .fn 148 [] []), (8, .ptr 0 0)], [(0, .iter)], []⟩, [(.exit 0, ⟨[], [(0, .iter)], []⟩), (.ret, ⟨[(4, .int .i64)], [(0, .iter)], []⟩)], fun x => k x.2.1⟩
def lp12801 (k : (Str × Nat) → Option ((Unit × ((Str × Nat) × Unit)) ⊕ ((Int × Unit) × ((Str × Nat) × Unit)))) : Con := ⟨⟨[(1, .fn 150 [] []), (8, .ptr 0 0)], [(0, .iter)], []⟩, [(.exit 0, ⟨[], [(0, .iter)], []⟩), (.ret, ⟨[(4, .int .i64)], [(0, .iter)], []⟩)], fun x => k x.2.1⟩
def con129 (k : Str → Option (((Int × (Int × Unit)) × Unit) × Unit)) : Con := ⟨⟨[(0, .str)], [], []⟩, [(.ret, ⟨[(1000, .tuple [.int .i64, .int .i64])], [], []⟩)], fun x => k x.1.1⟩
def lp12900 (k : (Str × Nat) → Option ((Unit × ((Str × Nat) × Unit)) ⊕ ((Int × Unit) × ((Str × Nat) × Unit)))) : Con := ⟨⟨[(1, .fn 153 [] []), (8, .ptr 0 0)], [(0, .iter)], []⟩, [(.exit 0, ⟨[], [(0, .iter)], []⟩), (.ret, ⟨[(4, .int .i64)], [(0, .iter)], []⟩)], fun x => k x.2.1⟩
def con137 (k : GE → Option ((Bool × Unit) × Unit)) : Con := ⟨⟨[(0, .n .ex)], [], []⟩, [(.ret, ⟨[(1000, .bool)], [], []⟩)], fun x => k x.1.1⟩
def con138 (k : GE → Option ((Bool × Unit) × Unit)) : Con := ⟨⟨[(0, .n .ex)], [], []⟩, [(.ret, ⟨[(1000, .bool)], [], []⟩)], fun x => k x.1.1⟩
def con140 (k : GE → Option ((Int × Unit) × Unit)) : Con := ⟨⟨[(0, .n .ex)], [], []⟩, [(.ret, ⟨[(1000, .int .i64)], [], []⟩)], fun x => k x.1.1⟩
def con149 (k : Str → Str → Option ((Bool × Unit) × Unit)) : Con := ⟨⟨[(0, .str), (1, .str)], [], []⟩, [(.ret, ⟨[(1000, .bool)], [], []⟩)], fun x => k x.1.1 x.1.2.1⟩
def con151 (k : Int → Option ((Bool × Unit) × Unit)) : Con := ⟨⟨[(0, .int .i32)], [], []⟩, [(.ret, ⟨[(1000, .bool)], [], []⟩)], fun x => k x.1.1⟩
def con152 (k : Str → Option ((Int × Unit) × Unit)) : Con := ⟨⟨[(0, .str)], [], []⟩, [(.ret, ⟨[(1000, .int .i64)], [], []⟩)], fun x => k x.1.1⟩
def lp15200 (k : (Str × Nat) → Option ((Unit × ((Str × Nat) × Unit)) ⊕ ((Int × Unit) × ((Str × Nat) × Unit)))) : Con := ⟨⟨[(1, .fn 161 [] []), (8, .ptr 0 0)], [(0, .iter)], []⟩, [(.exit 0, ⟨[], [(0, .iter)], []⟩), (.ret, ⟨[(4, .int .i64)], [(0, .iter)], []⟩)], fun x => k x.2.1⟩
def con153 (k : Int → Option ((Bool × Unit) × Unit)) : Con := ⟨⟨[(0, .int .i32)], [], []⟩, [(.ret, ⟨[(1000, .bool)], [], []⟩)], fun x => k x.1.1⟩
def con154 (k : Str → Int → Option ((Bool × Unit) × Unit)) : Con := ⟨⟨[(0, .str), (1, .int .i32)], [], []⟩, [(.ret, ⟨[(1000, .bool)], [], []⟩)], fun x => k x.1.1 x.1.2.1⟩
def con160 (k : Str → Str → Option ((Bool × Unit) × Unit)) : Con := ⟨⟨[(0, .str), (1, .str)], [], []⟩, [(.ret, ⟨[(1000, .bool)], [], []⟩)], fun x => k x.1.1 x.1.2.1⟩
def con162 (k : Str → Int → Option ((Int × Unit) × Unit)) : Con := ⟨⟨[(0, .str), (1, .int .i32)], [], []⟩, [(.ret, ⟨[(1000, .int .i64)], [], []⟩)], fun x => k x.1.1 x.1.2.1⟩
def lp16200 (k : (Str × Nat) → Option ((Unit × ((Str × Nat) × Unit)) ⊕ ((Int × Unit) × ((Str × Nat) × Unit)))) : Con := ⟨⟨[(175, .ptr 0 0)], [(0, .iter)], []⟩, [(.exit 9, ⟨[], [(0, .iter)], []⟩), (.ret, ⟨[(4, .int .i64)], [(0, .iter)], []⟩)], fun x => k x.2.1⟩
def lp16201 (k : Str → Str → Int → Int → Int → Option (Unit × Unit)) : Con := ⟨⟨[(0, .str), (7, .str), (8, .int .i64), (9, .int .i64), (12, .int .i64)], [], []⟩, [(.exit 3, ⟨[], [], []⟩)], fun x => k x.1.1 x.1.2.1 x.1.2.2.1 x.1.2.2.2.1 x.1.2.2.2.2.1⟩
def lp16202 (k : Str → Str → Int → Int → Option ((Unit × Unit) ⊕ ((Int × Unit) × Unit))) : Con := ⟨⟨[(0, .str), (7, .str), (8, .int .i64), (9, .int .i64)], [], []⟩, [(.exit 1, ⟨[], [], []⟩), (.ret, ⟨[(4, .int .i64)], [], []⟩)], fun x => k x.1.1 x.1.2.1 x.1.2.2.1 x.1.2.2.2.1⟩
noncomputable def fi10 : FI := (lkF XFl 10).getD ⟨0, [], .skip, ⟨[], [], []⟩⟩
theorem fi10_eq : lkF XFl 10 = some fi10 := by kernel_rfl
noncomputable def fi11 : FI := (lkF XFl 11).getD ⟨0, [], .skip, ⟨[], [], []⟩⟩
theorem fi11_eq : lkF XFl 11 = some fi11 := by kernel_rfl
noncomputable def fi22 : FI := (lkF XFl 22).getD ⟨0, [], .skip, ⟨[], [], []⟩⟩
theorem fi22_eq : lkF XFl 22 = some fi22 := by kernel_rfl
noncomputable def fi23 : FI := (lkF XFl 23).getD ⟨0, [], .skip, ⟨[], [], []⟩⟩
theorem fi23_eq : lkF XFl 23 = some fi23 := by kernel_rfl
noncomputable def fi26 : FI := (lkF XFl 26).getD ⟨0, [], .skip, ⟨[], [], []⟩⟩
theorem fi26_eq : lkF XFl 26 = some fi26 := by kernel_rfl
noncomputable def fi36 : FI := (lkF XFl 36).getD ⟨0, [], .skip, ⟨[], [], []⟩⟩
theorem fi36_eq : lkF XFl 36 = some fi36 := by kernel_rfl
noncomputable def fi38 : FI := (lkF XFl 38).getD ⟨0, [], .skip, ⟨[], [], []⟩⟩
theorem fi38_eq : lkF XFl 38 = some fi38 := by kernel_rfl
noncomputable def fi40 : FI := (lkF XFl 40).getD ⟨0, [], .skip, ⟨[], [], []⟩⟩
theorem fi40_eq : lkF XFl 40 = some fi40 := by kernel_rfl
noncomputable def fi42 : FI := (lkF XFl 42).getD ⟨0, [], .skip, ⟨[], [], []⟩⟩
theorem fi42_eq : lkF XFl 42 = some fi42 := by kernel_rfl
noncomputable def fi43 : FI := (lkF XFl 43).getD ⟨0, [], .skip, ⟨[], [], []⟩⟩
theorem fi43_eq : lkF XFl 43 = some fi43 := by kernel_rfl
noncomputable def fi46 : FI := (lkF XFl 46).getD ⟨0, [], .skip, ⟨[], [], []⟩⟩
theorem fi46_eq : lkF XFl 46 = some fi46 := by kernel_rfl
noncomputable def fi47 : FI := (lkF XFl 47).getD ⟨0, [], .skip, ⟨[], [], []⟩⟩
theorem fi47_eq : lkF XFl 47 = some fi47 := by kernel_rfl
noncomputable def fi48 : FI := (lkF XFl 48).getD ⟨0, [], .skip, ⟨[], [], []⟩⟩
theorem fi48_eq : lkF XFl 48 = some fi48 := by kernel_rfl
noncomputable def fi65 : FI := (lkF XFl 65).getD ⟨0, [], .skip, ⟨[], [], []⟩⟩
theorem fi65_eq : lkF XFl 65 = some fi65 := by kernel_rfl
noncomputable def fi66 : FI := (lkF XFl 66).getD ⟨0, [], .skip, ⟨[], [], []⟩⟩
theorem fi66_eq : lkF XFl 66 = some fi66 := by kernel_rfl
noncomputable def fi70 : FI := (lkF XFl 70).getD ⟨0, [], .skip, ⟨[], [], []⟩⟩
theorem fi70_eq : lkF XFl 70 = some fi70 := by kernel_rfl
noncomputable def fi71 : FI := (lkF XFl 71).getD ⟨0, [], .skip, ⟨[], [], []⟩⟩
theorem fi71_eq : lkF XFl 71 = some fi71 := by kernel_rfl
noncomputable def fi75 : FI := (lkF XFl 75).getD ⟨0, [], .skip, ⟨[], [], []⟩⟩
theorem fi75_eq : lkF XFl 75 = some fi75 := by kernel_rfl
noncomputable def fi76 : FI := (lkF XFl 76).getD ⟨0, [], .skip, ⟨[], [], []⟩⟩
theorem fi76_eq : lkF XFl 76 = some fi76 := by kernel_rfl
noncomputable def fi77 : FI := (lkF XFl 77).getD ⟨0, [], .skip, ⟨[], [], []⟩⟩
theorem fi77_eq : lkF XFl 77 = some fi77 := by kernel_rfl
noncomputable def fi78 : FI := (lkF XFl 78).getD ⟨0, [], .skip, ⟨[], [], []⟩⟩
theorem fi78_eq : lkF XFl 78 = some fi78 := by kernel_rfl
noncomputable def fi79 : FI := (lkF XFl 79).getD ⟨0, [], .skip, ⟨[], [], []⟩⟩
theorem fi79_eq : lkF XFl 79 = some fi79 := by kernel_rfl
noncomputable def fi97 : FI := (lkF XFl 97).getD ⟨0, [], .skip, ⟨[], [], []⟩⟩
theorem fi97_eq : lkF XFl 97 = some fi97 := by kernel_rfl
noncomputable def fi99 : FI := (lkF XFl 99).getD ⟨0, [], .skip, ⟨[], [], []⟩⟩
theorem fi99_eq : lkF XFl 99 = some fi99 := by kernel_rfl
noncomputable def fi100 : FI := (lkF XFl 100).getD ⟨0, [], .skip, ⟨[], [], []⟩⟩
theorem fi100_eq : lkF XFl 100 = some fi100 := by kernel_rfl
noncomputable def fi101 : FI := (lkF XFl 101).getD ⟨0, [], .skip, ⟨[], [], []⟩⟩
theorem fi101_eq : lkF XFl 101 = some fi101 := by kernel_rfl
noncomputable def fi102 : FI := (lkF XFl 102).getD ⟨0, [], .skip, ⟨[], [], []⟩⟩
theorem fi102_eq : lkF XFl 102 = some fi102 := by kernel_rfl
noncomputable def fi103 : FI := (lkF XFl 103).getD ⟨0, [], .skip, ⟨[], [], []⟩⟩
theorem fi103_eq : lkF XFl 103 = some fi103 := by kernel_rfl
noncomputable def fi104 : FI := (lkF XFl 104).getD ⟨0, [], .skip, ⟨[], [], []⟩⟩
theorem fi104_eq : lkF XFl 104 = some fi104 := by kernel_rfl
noncomputable def fi105 : FI := (lkF XFl 105).getD ⟨0, [], .skip, ⟨[], [], []⟩⟩
theorem fi105_eq : lkF XFl 105 = some fi105 := by kernel_rfl
noncomputable def fi112 : FI := (lkF XFl 112).getD ⟨0, [], .skip, ⟨[], [], []⟩⟩
theorem fi112_eq : lkF XFl 112 = some fi112 := by kernel_rfl
noncomputable def fi113 : FI := (lkF XFl 113).getD ⟨0, [], .skip, ⟨[], [], []⟩⟩
theorem fi113_eq : lkF XFl 113 = some fi113 := by kernel_rfl
noncomputable def fi126 : FI := (lkF XFl 126).getD ⟨0, [], .skip, ⟨[], [], []⟩⟩
theorem fi126_eq : lkF XFl 126 = some fi126 := by kernel_rfl
noncomputable def fi127 : FI := (lkF XFl 127).getD ⟨0, [], .skip, ⟨[], [], []⟩⟩
theorem fi127_eq : lkF XFl 127 = some fi127 := by kernel_rfl
noncomputable def fi128 : FI := (lkF XFl 128).getD ⟨0, [], .skip, ⟨[], [], []⟩⟩
theorem fi128_eq : lkF XFl 128 = some fi128 := by kernel_rfl
noncomputable def fi129 : FI := (lkF XFl 129).getD ⟨0, [], .skip, ⟨[], [], []⟩⟩
theorem fi129_eq : lkF XFl 129 = some fi129 := by kernel_rfl
noncomputable def fi132 : FI := (lkF XFl 132).getD ⟨0, [], .skip, ⟨[], [], []⟩⟩
theorem fi132_eq : lkF XFl 132 = some fi132 := by kernel_rfl
noncomputable def fi133 : FI := (lkF XFl 133).getD ⟨0, [], .skip, ⟨[], [], []⟩⟩
theorem fi133_eq : lkF XFl 133 = some fi133 := by kernel_rfl
noncomputable def fi137 : FI := (lkF XFl 137).getD ⟨0, [], .skip, ⟨[], [], []⟩⟩
theorem fi137_eq : lkF XFl 137 = some fi137 := by kernel_rfl
noncomputable def fi138 : FI := (lkF XFl 138).getD ⟨0, [], .skip, ⟨[], [], []⟩⟩
theorem fi138_eq : lkF XFl 138 = some fi138 := by kernel_rfl
noncomputable def fi140 : FI := (lkF XFl 140).getD ⟨0, [], .skip, ⟨[], [], []⟩⟩
theorem fi140_eq : lkF XFl 140 = some fi140 := by kernel_rfl
noncomputable def fi147 : FI := (lkF XFl 147).getD ⟨0, [], .skip, ⟨[], [], []⟩⟩
theorem fi147_eq : lkF XFl 147 = some fi147 := by kernel_rfl
noncomputable def fi149 : FI := (lkF XFl 149).getD ⟨0, [], .skip, ⟨[], [], []⟩⟩
theorem fi149_eq : lkF XFl 149 = some fi149 := by kernel_rfl
noncomputable def fi151 : FI := (lkF XFl 151).getD ⟨0, [], .skip, ⟨[], [], []⟩⟩
theorem fi151_eq : lkF XFl 151 = some fi151 := by kernel_rfl
noncomputable def fi152 : FI := (lkF XFl 152).getD ⟨0, [], .skip, ⟨[], [], []⟩⟩
theorem fi152_eq : lkF XFl 152 = some fi152 := by kernel_rfl
noncomputable def fi153 : FI := (lkF XFl 153).getD ⟨0, [], .skip, ⟨[], [], []⟩⟩
theorem fi153_eq : lkF XFl 153 = some fi153 := by kernel_rfl
noncomputable def fi154 : FI := (lkF XFl 154).getD ⟨0, [], .skip, ⟨[], [], []⟩⟩
theorem fi154_eq : lkF XFl 154 = some fi154 := by kernel_rfl
noncomputable def fi157 : FI := (lkF XFl 157).getD ⟨0, [], .skip, ⟨[], [], []⟩⟩
theorem fi157_eq : lkF XFl 157 = some fi157 := by kernel_rfl
noncomputable def fi160 : FI := (lkF XFl 160).getD ⟨0, [], .skip, ⟨[], [], []⟩⟩
theorem fi160_eq : lkF XFl 160 = some fi160 := by kernel_rfl
noncomputable def fi162 : FI := (lkF XFl 162).getD ⟨0, [], .skip, ⟨[], [], []⟩⟩
theorem fi162_eq : lkF XFl 162 = some fi162 := by kernel_rfl
noncomputable def b1000 : Code := match cAt fi10.body [0, 1, 0, 1, 1, 1] with | .loop b => b | _ => .skip
theorem b1000_eq : cAt fi10.body [0, 1, 0, 1, 1, 1] = .loop b1000 := by kernel_rfl
noncomputable def b1100 : Code := match cAt fi48.body [0, 1, 0, 1] with | .loop b => b | _ => .skip
theorem b1100_eq : cAt fi48.body [0, 1, 0, 1] = .loop b1100 := by kernel_rfl
noncomputable def b2200 : Code := match cAt fi103.body [0, 1, 0, 1] with | .loop b => b | _ => .skip
theorem b2200_eq : cAt fi103.body [0, 1, 0, 1] = .loop b2200 := by kernel_rfl
noncomputable def b2300 : Code := match cAt fi23.body [0, 1, 0, 1, 1, 1, 1] with | .loop b => b | _ => .skip
theorem b2300_eq : cAt fi23.body [0, 1, 0, 1, 1, 1, 1] = .loop b2300 := by kernel_rfl
noncomputable def b2301 : Code := match cAt fi23.body [0, 1, 0, 1, 1, 1, 1, 1, 1, 1, 1] with | .loop b => b | _ => .skip
theorem b2301_eq : cAt fi23.body [0, 1, 0, 1, 1, 1, 1, 1, 1, 1, 1] = .loop b2301 := by kernel_rfl
noncomputable def b2302 : Code := match cAt fi79.body [0, 1, 0, 1] with | .loop b => b | _ => .skip
theorem b2302_eq : cAt fi79.body [0, 1, 0, 1] = .loop b2302 := by kernel_rfl
noncomputable def b2600 : Code := match cAt fi48.body [0, 1, 0, 1] with | .loop b => b | _ => .skip
theorem b2600_eq : cAt fi48.body [0, 1, 0, 1] = .loop b2600 := by kernel_rfl
noncomputable def b3600 : Code := match cAt fi65.body [0, 1, 0, 1, 1] with | .loop b => b | _ => .skip
theorem b3600_eq : cAt fi65.body [0, 1, 0, 1, 1] = .loop b3600 := by kernel_rfl
noncomputable def b3800 : Code := match cAt fi79.body [0, 1, 0, 1] with | .loop b => b | _ => .skip
theorem b3800_eq : cAt fi79.body [0, 1, 0, 1] = .loop b3800 := by kernel_rfl
noncomputable def b3801 : Code := match cAt fi132.body [0, 1, 0, 1] with | .loop b => b | _ => .skip
theorem b3801_eq : cAt fi132.body [0, 1, 0, 1] = .loop b3801 := by kernel_rfl
noncomputable def b3802 : Code := match cAt fi133.body [0, 1, 0, 1] with | .loop b => b | _ => .skip
theorem b3802_eq : cAt fi133.body [0, 1, 0, 1] = .loop b3802 := by kernel_rfl
noncomputable def b4200 : Code := match cAt fi42.body [0, 1, 0, 1, 1, 1] with | .loop b => b | _ => .skip
theorem b4200_eq : cAt fi42.body [0, 1, 0, 1, 1, 1] = .loop b4200 := by kernel_rfl
noncomputable def b4300 : Code := match cAt fi43.body [0, 1, 0, 1, 1] with | .loop b => b | _ => .skip
theorem b4300_eq : cAt fi43.body [0, 1, 0, 1, 1] = .loop b4300 := by kernel_rfl
noncomputable def b4600 : Code := match cAt fi46.body [0, 1, 0, 1] with | .loop b => b | _ => .skip
theorem b4600_eq : cAt fi46.body [0, 1, 0, 1] = .loop b4600 := by kernel_rfl
noncomputable def b4700 : Code := match cAt fi47.body [0, 1, 0, 1] with | .loop b => b | _ => .skip
theorem b4700_eq : cAt fi47.body [0, 1, 0, 1] = .loop b4700 := by kernel_rfl
noncomputable def b6600 : Code := match cAt fi97.body [0, 1, 0, 1, 1] with | .loop b => b | _ => .skip
theorem b6600_eq : cAt fi97.body [0, 1, 0, 1, 1] = .loop b6600 := by kernel_rfl
noncomputable def b6601 : Code := match cAt fi100.body [0, 1, 0, 1, 1] with | .loop b => b | _ => .skip
theorem b6601_eq : cAt fi100.body [0, 1, 0, 1, 1] = .loop b6601 := by kernel_rfl
noncomputable def b7100 : Code := match cAt fi48.body [0, 1, 0, 1] with | .loop b => b | _ => .skip
theorem b7100_eq : cAt fi48.body [0, 1, 0, 1] = .loop b7100 := by kernel_rfl
noncomputable def b7500 : Code := match cAt fi133.body [0, 1, 0, 1] with | .loop b => b | _ => .skip
theorem b7500_eq : cAt fi133.body [0, 1, 0, 1] = .loop b7500 := by kernel_rfl
noncomputable def b7600 : Code := match cAt fi100.body [0, 1, 0, 1, 1] with | .loop b => b | _ => .skip
theorem b7600_eq : cAt fi100.body [0, 1, 0, 1, 1] = .loop b7600 := by kernel_rfl
noncomputable def b7700 : Code := match cAt fi157.body [0, 1, 0, 1] with | .loop b => b | _ => .skip
theorem b7700_eq : cAt fi157.body [0, 1, 0, 1] = .loop b7700 := by kernel_rfl
noncomputable def b7800 : Code := match cAt fi78.body [0, 1, 0, 1] with | .loop b => b | _ => .skip
theorem b7800_eq : cAt fi78.body [0, 1, 0, 1] = .loop b7800 := by kernel_rfl
noncomputable def b9900 : Code := match cAt fi126.body [0, 1, 0, 1, 1] with | .loop b => b | _ => .skip
theorem b9900_eq : cAt fi126.body [0, 1, 0, 1, 1] = .loop b9900 := by kernel_rfl
noncomputable def b10100 : Code := match cAt fi100.body [0, 1, 0, 1, 1] with | .loop b => b | _ => .skip
theorem b10100_eq : cAt fi100.body [0, 1, 0, 1, 1] = .loop b10100 := by kernel_rfl
noncomputable def b10200 : Code := match cAt fi102.body [0, 1, 0, 1, 1, 1] with | .loop b => b | _ => .skip
theorem b10200_eq : cAt fi102.body [0, 1, 0, 1, 1, 1] = .loop b10200 := by kernel_rfl
noncomputable def b10400 : Code := match cAt fi104.body [0, 1, 0, 1, 1, 1] with | .loop b => b | _ => .skip
theorem b10400_eq : cAt fi104.body [0, 1, 0, 1, 1, 1] = .loop b10400 := by kernel_rfl
noncomputable def b12800 : Code := match cAt fi147.body [0, 1, 0, 1] with | .loop b => b | _ => .skip
theorem b12800_eq : cAt fi147.body [0, 1, 0, 1] = .loop b12800 := by kernel_rfl
noncomputable def b12801 : Code := match cAt fi147.body [0, 1, 0, 1] with | .loop b => b | _ => .skip
theorem b12801_eq : cAt fi147.body [0, 1, 0, 1] = .loop b12801 := by kernel_rfl
noncomputable def b12900 : Code := match cAt fi147.body [0, 1, 0, 1] with | .loop b => b | _ => .skip
theorem b12900_eq : cAt fi147.body [0, 1, 0, 1] = .loop b12900 := by kernel_rfl
noncomputable def b15200 : Code := match cAt fi147.body [0, 1, 0, 1] with | .loop b => b | _ => .skip
theorem b15200_eq : cAt fi147.body [0, 1, 0, 1] = .loop b15200 := by kernel_rfl
noncomputable def b16200 : Code := match cAt fi162.body [0, 1, 0, 0, 1, 1, 1, 0, 1] with | .loop b => b | _ => .skip
theorem b16200_eq : cAt fi162.body [0, 1, 0, 0, 1, 1, 1, 0, 1] = .loop b16200 := by kernel_rfl
noncomputable def b16201 : Code := match cAt fi162.body [0, 1, 0, 1, 0, 0, 1, 0, 0, 0, 1, 1, 1, 1, 0, 1, 1, 1, 1, 1, 1, 0, 1] with | .loop b => b | _ => .skip
theorem b16201_eq : cAt fi162.body [0, 1, 0, 1, 0, 0, 1, 0, 0, 0, 1, 1, 1, 1, 0, 1, 1, 1, 1, 1, 1, 0, 1] = .loop b16201 := by kernel_rfl
noncomputable def b16202 : Code := match cAt fi162.body [0, 0, 1, 1, 1, 1, 0, 1, 1, 1, 1, 1, 1, 0, 1] with | .loop b => b | _ => .skip
theorem b16202_eq : cAt fi162.body [0, 0, 1, 1, 1, 1, 0, 1, 1, 1, 1, 1, 1, 0, 1] = .loop b16202 := by kernel_rfl
theorem grp_k23_0 (B : Nat) : (∀ a0 a1 a2 a3 a4 a5 r, k23_0 a0 a1 a2 a3 a4 a5 = some r → LoopOK1 (X B) Ce fi23.n b2300 (lp2300 (fun _ _ _ _ _ _ => none)) (((), (a0, (a1, (a2, (a3, (a4, ())))))), (a5, ())) r) := by
  refine k23_0.partial_correctness (motive := fun a0 a1 a2 a3 a4 a5 r => LoopOK1 (X B) Ce fi23.n b2300 (lp2300 (fun _ _ _ _ _ _ => none)) (((), (a0, (a1, (a2, (a3, (a4, ())))))), (a5, ())) r) ?_
  · intro gk23_0 mk23_0 a0 a1 a2 a3 a4 a5 r h
    have Hk23_0 : LpOKs (X B) Ce fi23.n b2300 (lp2300 gk23_0) := fun x r hx => mk23_0 x.1.2.1 x.1.2.2.1 x.1.2.2.2.1 x.1.2.2.2.2.1 x.1.2.2.2.2.2.1 x.2.1 r hx
    have HL := Hk23_0
    exact gloop (C := (mkC (lkCon []) (lkLp [(2300, 23, [0, 1, 0, 1, 1, 1, 1], (lp2300 gk23_0))]))) (cl := []) (ll := [(2300, 23, [0, 1, 0, 1, 1, 1, 1], (lp2300 gk23_0))]) (hX B _ _) (hF B _ _) trivial ⟨⟨fi23, b2300, fi23_eq, b2300_eq, Hk23_0⟩, trivial⟩ rfl rfl 60 (f := 23) (fi := fi23) fi23_eq (p := [0, 1, 0, 1, 1, 1, 1]) b2300_eq (ct := .nil) (L := lp2300 gk23_0) HL (x := (((), (a0, (a1, (a2, (a3, (a4, ())))))), (a5, ()))) (krw h (by kernel_rfl))
theorem ok_k23_0 (B : Nat) : LpOKs (X B) Ce fi23.n b2300 (lp2300 k23_0) := fun x r hx => (grp_k23_0 B) x.1.2.1 x.1.2.2.1 x.1.2.2.2.1 x.1.2.2.2.2.1 x.1.2.2.2.2.2.1 x.2.1 r hx
theorem grp_k26 (B : Nat) : (∀ a0 r, k26 a0 = some r → FnOK1 (X B) Ce 26 (con26 (fun _ => none)) ((a0, ()), ()) r) ∧ (∀ a0 a1 a2 r, k26_0 a0 a1 a2 = some r → LoopOK1 (X B) Ce fi48.n b2600 (lp2600 (fun _ _ _ => none)) ((a0, (((), ()), (a1, (a2, ())))), ()) r) := by
  refine k26.mutual_partial_correctness (motive_1 := fun a0 r => FnOK1 (X B) Ce 26 (con26 (fun _ => none)) ((a0, ()), ()) r) (motive_2 := fun a0 a1 a2 r => LoopOK1 (X B) Ce fi48.n b2600 (lp2600 (fun _ _ _ => none)) ((a0, (((), ()), (a1, (a2, ())))), ()) r) ?_ ?_
  · intro gk26_0 mk26_0 a0 r h
    have Hk26_0 : LpOKs (X B) Ce fi48.n b2600 (lp2600 gk26_0) := fun x r hx => mk26_0 x.1.1 x.1.2.2.1 x.1.2.2.2.1 r hx
    exact gfun (C := (mkC (lkCon []) (lkLp [(2600, 48, [0, 1, 0, 1], (lp2600 gk26_0))]))) (cl := []) (ll := [(2600, 48, [0, 1, 0, 1], (lp2600 gk26_0))]) (hX B _ _) (hF B _ _) trivial ⟨⟨fi48, b2600, fi48_eq, b2600_eq, Hk26_0⟩, trivial⟩ rfl rfl 60 (f := 26) (fi := fi26) fi26_eq (ct := (.seq .nil (.seq (.region [(6, (.seq .nil (.seq (.region [(2, (.seq .nil (.seq (.seq .nil (.sub (.loop 2600))) .nil)))]) .nil)))]) .nil))) (L := con26 (fun _ => none)) (x := ((a0, ()), ())) (krw h (by kernel_rfl))
  · intro gk26 gk26_0 mk26 mk26_0 a0 a1 a2 r h
    have Hk26 : FnOKs (X B) Ce 26 (con26 gk26) := fun x r hx => mk26 x.1.1 r hx
    have Hk26_0 : LpOKs (X B) Ce fi48.n b2600 (lp2600 gk26_0) := fun x r hx => mk26_0 x.1.1 x.1.2.2.1 x.1.2.2.2.1 r hx
    have HL := Hk26_0
    exact gloop (C := (mkC (lkCon [(26, (con26 gk26))]) (lkLp [(2600, 48, [0, 1, 0, 1], (lp2600 gk26_0))]))) (cl := [(26, (con26 gk26))]) (ll := [(2600, 48, [0, 1, 0, 1], (lp2600 gk26_0))]) (hX B _ _) (hF B _ _) ⟨Hk26, trivial⟩ ⟨⟨fi48, b2600, fi48_eq, b2600_eq, Hk26_0⟩, trivial⟩ rfl rfl 60 (f := 48) (fi := fi48) fi48_eq (p := [0, 1, 0, 1]) b2600_eq (ct := .nil) (L := lp2600 gk26_0) HL (x := ((a0, (((), ()), (a1, (a2, ())))), ())) (krw h (by kernel_rfl))
theorem ok_k26 (B : Nat) : FnOKs (X B) Ce 26 (con26 k26) := fun x r hx => (grp_k26 B).1 x.1.1 r hx
theorem ok_k26_0 (B : Nat) : LpOKs (X B) Ce fi48.n b2600 (lp2600 k26_0) := fun x r hx => (grp_k26 B).2 x.1.1 x.1.2.2.1 x.1.2.2.2.1 r hx
theorem grp_k11 (B : Nat) : (∀ a0 r, k11 a0 = some r → FnOK1 (X B) Ce 11 (con11 (fun _ => none)) ((a0, ()), ()) r) ∧ (∀ a0 a1 a2 a3 r, k11_0 a0 a1 a2 a3 = some r → LoopOK1 (X B) Ce fi48.n b1100 (lp1100 (fun _ _ _ _ => none)) ((a0, (((), ((), ())), (a1, (a2, ())))), (a3, ())) r) := by
  refine k11.mutual_partial_correctness (motive_1 := fun a0 r => FnOK1 (X B) Ce 11 (con11 (fun _ => none)) ((a0, ()), ()) r) (motive_2 := fun a0 a1 a2 a3 r => LoopOK1 (X B) Ce fi48.n b1100 (lp1100 (fun _ _ _ _ => none)) ((a0, (((), ((), ())), (a1, (a2, ())))), (a3, ())) r) ?_ ?_
  · intro gk11_0 mk11_0 a0 r h
    have Hk11_0 : LpOKs (X B) Ce fi48.n b1100 (lp1100 gk11_0) := fun x r hx => mk11_0 x.1.1 x.1.2.2.1 x.1.2.2.2.1 x.2.1 r hx
    exact gfun (C := (mkC (lkCon []) (lkLp [(1100, 48, [0, 1, 0, 1], (lp1100 gk11_0))]))) (cl := []) (ll := [(1100, 48, [0, 1, 0, 1], (lp1100 gk11_0))]) (hX B _ _) (hF B _ _) trivial ⟨⟨fi48, b1100, fi48_eq, b1100_eq, Hk11_0⟩, trivial⟩ rfl rfl 60 (f := 11) (fi := fi11) fi11_eq (ct := (.seq .nil (.seq .nil (.seq (.region [(3, (.seq .nil (.seq (.region [(2, (.seq .nil (.seq (.seq .nil (.sub (.loop 1100))) .nil)))]) .nil)))]) .nil)))) (L := con11 (fun _ => none)) (x := ((a0, ()), ())) (krw h (by kernel_rfl))
  · intro gk11 gk11_0 mk11 mk11_0 a0 a1 a2 a3 r h
    have Hk11 : FnOKs (X B) Ce 11 (con11 gk11) := fun x r hx => mk11 x.1.1 r hx
    have Hk11_0 : LpOKs (X B) Ce fi48.n b1100 (lp1100 gk11_0) := fun x r hx => mk11_0 x.1.1 x.1.2.2.1 x.1.2.2.2.1 x.2.1 r hx
    have HL := Hk11_0
    exact gloop (C := (mkC (lkCon [(11, (con11 gk11)), (26, (con26 k26))]) (lkLp [(1100, 48, [0, 1, 0, 1], (lp1100 gk11_0))]))) (cl := [(11, (con11 gk11)), (26, (con26 k26))]) (ll := [(1100, 48, [0, 1, 0, 1], (lp1100 gk11_0))]) (hX B _ _) (hF B _ _) ⟨Hk11, ok_k26 B, trivial⟩ ⟨⟨fi48, b1100, fi48_eq, b1100_eq, Hk11_0⟩, trivial⟩ rfl rfl 60 (f := 48) (fi := fi48) fi48_eq (p := [0, 1, 0, 1]) b1100_eq (ct := .nil) (L := lp1100 gk11_0) HL (x := ((a0, (((), ((), ())), (a1, (a2, ())))), (a3, ()))) (krw h (by kernel_rfl))
theorem ok_k11 (B : Nat) : FnOKs (X B) Ce 11 (con11 k11) := fun x r hx => (grp_k11 B).1 x.1.1 r hx
theorem ok_k11_0 (B : Nat) : LpOKs (X B) Ce fi48.n b1100 (lp1100 k11_0) := fun x r hx => (grp_k11 B).2 x.1.1 x.1.2.2.1 x.1.2.2.2.1 x.2.1 r hx
theorem grp_k42 (B : Nat) : (∀ a0 r, k42 a0 = some r → FnOK1 (X B) Ce 42 (con42 (fun _ => none)) ((a0, ()), ()) r) ∧ (∀ a0 a1 a2 a3 r, k42_0 a0 a1 a2 a3 = some r → LoopOK1 (X B) Ce fi42.n b4200 (lp4200 (fun _ _ _ _ => none)) ((a0, (a1, (a2, (a3, ())))), ()) r) := by
  refine k42.mutual_partial_correctness (motive_1 := fun a0 r => FnOK1 (X B) Ce 42 (con42 (fun _ => none)) ((a0, ()), ()) r) (motive_2 := fun a0 a1 a2 a3 r => LoopOK1 (X B) Ce fi42.n b4200 (lp4200 (fun _ _ _ _ => none)) ((a0, (a1, (a2, (a3, ())))), ()) r) ?_ ?_
  · intro gk42_0 mk42_0 a0 r h
    have Hk42_0 : LpOKs (X B) Ce fi42.n b4200 (lp4200 gk42_0) := fun x r hx => mk42_0 x.1.1 x.1.2.1 x.1.2.2.1 x.1.2.2.2.1 r hx
    exact gfun (C := (mkC (lkCon []) (lkLp [(4200, 42, [0, 1, 0, 1, 1, 1], (lp4200 gk42_0))]))) (cl := []) (ll := [(4200, 42, [0, 1, 0, 1, 1, 1], (lp4200 gk42_0))]) (hX B _ _) (hF B _ _) trivial ⟨⟨fi42, b4200, fi42_eq, b4200_eq, Hk42_0⟩, trivial⟩ rfl rfl 60 (f := 42) (fi := fi42) fi42_eq (ct := (.seq .nil (.seq .nil (.seq .nil (.seq (.seq .nil (.sub (.loop 4200))) .nil))))) (L := con42 (fun _ => none)) (x := ((a0, ()), ())) (krw h (by kernel_rfl))
  · intro gk42 gk42_0 mk42 mk42_0 a0 a1 a2 a3 r h
    have Hk42 : FnOKs (X B) Ce 42 (con42 gk42) := fun x r hx => mk42 x.1.1 r hx
    have Hk42_0 : LpOKs (X B) Ce fi42.n b4200 (lp4200 gk42_0) := fun x r hx => mk42_0 x.1.1 x.1.2.1 x.1.2.2.1 x.1.2.2.2.1 r hx
    have HL := Hk42_0
    exact gloop (C := (mkC (lkCon [(42, (con42 gk42))]) (lkLp [(4200, 42, [0, 1, 0, 1, 1, 1], (lp4200 gk42_0))]))) (cl := [(42, (con42 gk42))]) (ll := [(4200, 42, [0, 1, 0, 1, 1, 1], (lp4200 gk42_0))]) (hX B _ _) (hF B _ _) ⟨Hk42, trivial⟩ ⟨⟨fi42, b4200, fi42_eq, b4200_eq, Hk42_0⟩, trivial⟩ rfl rfl 60 (f := 42) (fi := fi42) fi42_eq (p := [0, 1, 0, 1, 1, 1]) b4200_eq (ct := .nil) (L := lp4200 gk42_0) HL (x := ((a0, (a1, (a2, (a3, ())))), ())) (krw h (by kernel_rfl))
theorem ok_k42 (B : Nat) : FnOKs (X B) Ce 42 (con42 k42) := fun x r hx => (grp_k42 B).1 x.1.1 r hx
theorem ok_k42_0 (B : Nat) : LpOKs (X B) Ce fi42.n b4200 (lp4200 k42_0) := fun x r hx => (grp_k42 B).2 x.1.1 x.1.2.1 x.1.2.2.1 x.1.2.2.2.1 r hx
theorem grp_k23_1 (B : Nat) : (∀ a0 a1 a2 a3 a4 r, k23_1 a0 a1 a2 a3 a4 = some r → LoopOK1 (X B) Ce fi23.n b2301 (lp2301 (fun _ _ _ _ _ => none)) ((a0, (a1, (a2, (a3, (a4, ()))))), ()) r) := by
  refine k23_1.partial_correctness (motive := fun a0 a1 a2 a3 a4 r => LoopOK1 (X B) Ce fi23.n b2301 (lp2301 (fun _ _ _ _ _ => none)) ((a0, (a1, (a2, (a3, (a4, ()))))), ()) r) ?_
  · intro gk23_1 mk23_1 a0 a1 a2 a3 a4 r h
    have Hk23_1 : LpOKs (X B) Ce fi23.n b2301 (lp2301 gk23_1) := fun x r hx => mk23_1 x.1.1 x.1.2.1 x.1.2.2.1 x.1.2.2.2.1 x.1.2.2.2.2.1 r hx
    have HL := Hk23_1
    exact gloop (C := (mkC (lkCon [(11, (con11 k11)), (42, (con42 k42))]) (lkLp [(2301, 23, [0, 1, 0, 1, 1, 1, 1, 1, 1, 1, 1], (lp2301 gk23_1))]))) (cl := [(11, (con11 k11)), (42, (con42 k42))]) (ll := [(2301, 23, [0, 1, 0, 1, 1, 1, 1, 1, 1, 1, 1], (lp2301 gk23_1))]) (hX B _ _) (hF B _ _) ⟨ok_k11 B, ok_k42 B, trivial⟩ ⟨⟨fi23, b2301, fi23_eq, b2301_eq, Hk23_1⟩, trivial⟩ rfl rfl 60 (f := 23) (fi := fi23) fi23_eq (p := [0, 1, 0, 1, 1, 1, 1, 1, 1, 1, 1]) b2301_eq (ct := .nil) (L := lp2301 gk23_1) HL (x := ((a0, (a1, (a2, (a3, (a4, ()))))), ())) (krw h (by kernel_rfl))
theorem ok_k23_1 (B : Nat) : LpOKs (X B) Ce fi23.n b2301 (lp2301 k23_1) := fun x r hx => (grp_k23_1 B) x.1.1 x.1.2.1 x.1.2.2.1 x.1.2.2.2.1 x.1.2.2.2.2.1 r hx
theorem grp_k78_0 (B : Nat) : (∀ a0 a1 a2 a3 r, k78_0 a0 a1 a2 a3 = some r → LoopOK1 (X B) Ce fi78.n b7800 (lp7800 (fun _ _ _ _ => none)) ((a0, (a1, (a2, (a3, ())))), ()) r) := by
  refine k78_0.partial_correctness (motive := fun a0 a1 a2 a3 r => LoopOK1 (X B) Ce fi78.n b7800 (lp7800 (fun _ _ _ _ => none)) ((a0, (a1, (a2, (a3, ())))), ()) r) ?_
  · intro gk78_0 mk78_0 a0 a1 a2 a3 r h
    have Hk78_0 : LpOKs (X B) Ce fi78.n b7800 (lp7800 gk78_0) := fun x r hx => mk78_0 x.1.1 x.1.2.1 x.1.2.2.1 x.1.2.2.2.1 r hx
    have HL := Hk78_0
    exact gloop (C := (mkC (lkCon []) (lkLp [(7800, 78, [0, 1, 0, 1], (lp7800 gk78_0))]))) (cl := []) (ll := [(7800, 78, [0, 1, 0, 1], (lp7800 gk78_0))]) (hX B _ _) (hF B _ _) trivial ⟨⟨fi78, b7800, fi78_eq, b7800_eq, Hk78_0⟩, trivial⟩ rfl rfl 60 (f := 78) (fi := fi78) fi78_eq (p := [0, 1, 0, 1]) b7800_eq (ct := .nil) (L := lp7800 gk78_0) HL (x := ((a0, (a1, (a2, (a3, ())))), ())) (krw h (by kernel_rfl))
theorem ok_k78_0 (B : Nat) : LpOKs (X B) Ce fi78.n b7800 (lp7800 k78_0) := fun x r hx => (grp_k78_0 B) x.1.1 x.1.2.1 x.1.2.2.1 x.1.2.2.2.1 r hx
theorem ok_k78 (B : Nat) : FnOKs (X B) Ce 78 (con78 k78) := by
  have h : ∀ a0 a1 r, k78 a0 a1 = some r → FnOK1 (X B) Ce 78 (con78 (fun _ _ => none)) ((a0, (a1, ())), ()) r := fun a0 a1 r h => gfun (C := (mkC (lkCon []) (lkLp [(7800, 78, [0, 1, 0, 1], (lp7800 k78_0))]))) (cl := []) (ll := [(7800, 78, [0, 1, 0, 1], (lp7800 k78_0))]) (hX B _ _) (hF B _ _) trivial ⟨⟨fi78, b7800, fi78_eq, b7800_eq, ok_k78_0 B⟩, trivial⟩ rfl rfl 60 (f := 78) (fi := fi78) fi78_eq (ct := (.seq .nil (.seq (.seq .nil (.sub (.loop 7800))) .nil))) (L := con78 (fun _ _ => none)) (x := ((a0, (a1, ())), ())) (krw h (by kernel_rfl))
  exact fun x r hx => h x.1.1 x.1.2.1 r hx
theorem ok_k40 (B : Nat) : FnOKs (X B) Ce 40 (con40 k40) := by
  have h : ∀ a0 a1 r, k40 a0 a1 = some r → FnOK1 (X B) Ce 40 (con40 (fun _ _ => none)) ((a0, (a1, ())), ()) r := fun a0 a1 r h => gfun (C := (mkC (lkCon [(78, (con78 k78))]) (lkLp []))) (cl := [(78, (con78 k78))]) (ll := []) (hX B _ _) (hF B _ _) ⟨ok_k78 B, trivial⟩ trivial rfl rfl 60 (f := 40) (fi := fi40) fi40_eq (ct := .nil) (L := con40 (fun _ _ => none)) (x := ((a0, (a1, ())), ())) (krw h (by kernel_rfl))
  exact fun x r hx => h x.1.1 x.1.2.1 r hx
theorem grp_k23_2 (B : Nat) : (∀ a0 a1 a2 a3 r, k23_2 a0 a1 a2 a3 = some r → LoopOK1 (X B) Ce fi79.n b2302 (lp2302 (fun _ _ _ _ => none)) ((a0, (((), ((), ())), (a1, (a2, ())))), (((), ((), ())), (a3, ()))) r) := by
  refine k23_2.partial_correctness (motive := fun a0 a1 a2 a3 r => LoopOK1 (X B) Ce fi79.n b2302 (lp2302 (fun _ _ _ _ => none)) ((a0, (((), ((), ())), (a1, (a2, ())))), (((), ((), ())), (a3, ()))) r) ?_
  · intro gk23_2 mk23_2 a0 a1 a2 a3 r h
    have Hk23_2 : LpOKs (X B) Ce fi79.n b2302 (lp2302 gk23_2) := fun x r hx => mk23_2 x.1.1 x.1.2.2.1 x.1.2.2.2.1 x.2.2.1 r hx
    have HL := Hk23_2
    exact gloop (C := (mkC (lkCon [(40, (con40 k40))]) (lkLp [(2302, 79, [0, 1, 0, 1], (lp2302 gk23_2))]))) (cl := [(40, (con40 k40))]) (ll := [(2302, 79, [0, 1, 0, 1], (lp2302 gk23_2))]) (hX B _ _) (hF B _ _) ⟨ok_k40 B, trivial⟩ ⟨⟨fi79, b2302, fi79_eq, b2302_eq, Hk23_2⟩, trivial⟩ rfl rfl 60 (f := 79) (fi := fi79) fi79_eq (p := [0, 1, 0, 1]) b2302_eq (ct := .nil) (L := lp2302 gk23_2) HL (x := ((a0, (((), ((), ())), (a1, (a2, ())))), (((), ((), ())), (a3, ())))) (krw h (by kernel_rfl))
theorem ok_k23_2 (B : Nat) : LpOKs (X B) Ce fi79.n b2302 (lp2302 k23_2) := fun x r hx => (grp_k23_2 B) x.1.1 x.1.2.2.1 x.1.2.2.2.1 x.2.2.1 r hx
theorem grp_k43_0 (B : Nat) : (∀ a0 a1 a2 a3 r, k43_0 a0 a1 a2 a3 = some r → LoopOK1 (X B) Ce fi43.n b4300 (lp4300 (fun _ _ _ _ => none)) (((), (a0, (a1, (a2, ())))), (a3, ())) r) := by
  refine k43_0.partial_correctness (motive := fun a0 a1 a2 a3 r => LoopOK1 (X B) Ce fi43.n b4300 (lp4300 (fun _ _ _ _ => none)) (((), (a0, (a1, (a2, ())))), (a3, ())) r) ?_
  · intro gk43_0 mk43_0 a0 a1 a2 a3 r h
    have Hk43_0 : LpOKs (X B) Ce fi43.n b4300 (lp4300 gk43_0) := fun x r hx => mk43_0 x.1.2.1 x.1.2.2.1 x.1.2.2.2.1 x.2.1 r hx
    have HL := Hk43_0
    exact gloop (C := (mkC (lkCon []) (lkLp [(4300, 43, [0, 1, 0, 1, 1], (lp4300 gk43_0))]))) (cl := []) (ll := [(4300, 43, [0, 1, 0, 1, 1], (lp4300 gk43_0))]) (hX B _ _) (hF B _ _) trivial ⟨⟨fi43, b4300, fi43_eq, b4300_eq, Hk43_0⟩, trivial⟩ rfl rfl 60 (f := 43) (fi := fi43) fi43_eq (p := [0, 1, 0, 1, 1]) b4300_eq (ct := .nil) (L := lp4300 gk43_0) HL (x := (((), (a0, (a1, (a2, ())))), (a3, ()))) (krw h (by kernel_rfl))
theorem ok_k43_0 (B : Nat) : LpOKs (X B) Ce fi43.n b4300 (lp4300 k43_0) := fun x r hx => (grp_k43_0 B) x.1.2.1 x.1.2.2.1 x.1.2.2.2.1 x.2.1 r hx
theorem ok_k43 (B : Nat) : FnOKs (X B) Ce 43 (con43 k43) := by
  have h : ∀ a0 r, k43 a0 = some r → FnOK1 (X B) Ce 43 (con43 (fun _ => none)) ((a0, ()), ()) r := fun a0 r h => gfun (C := (mkC (lkCon []) (lkLp [(4300, 43, [0, 1, 0, 1, 1], (lp4300 k43_0))]))) (cl := []) (ll := [(4300, 43, [0, 1, 0, 1, 1], (lp4300 k43_0))]) (hX B _ _) (hF B _ _) trivial ⟨⟨fi43, b4300, fi43_eq, b4300_eq, ok_k43_0 B⟩, trivial⟩ rfl rfl 60 (f := 43) (fi := fi43) fi43_eq (ct := (.seq .nil (.seq .nil (.seq (.seq .nil (.sub (.loop 4300))) .nil)))) (L := con43 (fun _ => none)) (x := ((a0, ()), ())) (krw h (by kernel_rfl))
  exact fun x r hx => h x.1.1 r hx
theorem grp_k47 (B : Nat) : (∀ a0 a1 a2 r, k47 a0 a1 a2 = some r → FnOK1 (X B) Ce 47 (con47 (fun _ _ _ => none)) (((), (a0, ((), ()))), (a1, (a2, ()))) r) ∧ (∀ a0 a1 a2 a3 a4 r, k47_0 a0 a1 a2 a3 a4 = some r → LoopOK1 (X B) Ce fi47.n b4700 (lp4700 (fun _ _ _ _ _ => none)) (((), ((), (a0, (a1, (a2, ()))))), (a3, (a4, ()))) r) := by
  refine k47.mutual_partial_correctness (motive_1 := fun a0 a1 a2 r => FnOK1 (X B) Ce 47 (con47 (fun _ _ _ => none)) (((), (a0, ((), ()))), (a1, (a2, ()))) r) (motive_2 := fun a0 a1 a2 a3 a4 r => LoopOK1 (X B) Ce fi47.n b4700 (lp4700 (fun _ _ _ _ _ => none)) (((), ((), (a0, (a1, (a2, ()))))), (a3, (a4, ()))) r) ?_ ?_
  · intro gk47_0 mk47_0 a0 a1 a2 r h
    have Hk47_0 : LpOKs (X B) Ce fi47.n b4700 (lp4700 gk47_0) := fun x r hx => mk47_0 x.1.2.2.1 x.1.2.2.2.1 x.1.2.2.2.2.1 x.2.1 x.2.2.1 r hx
    exact gfun (C := (mkC (lkCon []) (lkLp [(4700, 47, [0, 1, 0, 1], (lp4700 gk47_0))]))) (cl := []) (ll := [(4700, 47, [0, 1, 0, 1], (lp4700 gk47_0))]) (hX B _ _) (hF B _ _) trivial ⟨⟨fi47, b4700, fi47_eq, b4700_eq, Hk47_0⟩, trivial⟩ rfl rfl 60 (f := 47) (fi := fi47) fi47_eq (ct := (.seq .nil (.seq (.seq .nil (.sub (.loop 4700))) .nil))) (L := con47 (fun _ _ _ => none)) (x := (((), (a0, ((), ()))), (a1, (a2, ())))) (krw h (by kernel_rfl))
  · intro gk47 gk47_0 mk47 mk47_0 a0 a1 a2 a3 a4 r h
    have Hk47 : FnOKs (X B) Ce 47 (con47 gk47) := fun x r hx => mk47 x.1.2.1 x.2.1 x.2.2.1 r hx
    have Hk47_0 : LpOKs (X B) Ce fi47.n b4700 (lp4700 gk47_0) := fun x r hx => mk47_0 x.1.2.2.1 x.1.2.2.2.1 x.1.2.2.2.2.1 x.2.1 x.2.2.1 r hx
    have HL := Hk47_0
    exact gloop (C := (mkC (lkCon [(47, (con47 gk47))]) (lkLp [(4700, 47, [0, 1, 0, 1], (lp4700 gk47_0))]))) (cl := [(47, (con47 gk47))]) (ll := [(4700, 47, [0, 1, 0, 1], (lp4700 gk47_0))]) (hX B _ _) (hF B _ _) ⟨Hk47, trivial⟩ ⟨⟨fi47, b4700, fi47_eq, b4700_eq, Hk47_0⟩, trivial⟩ rfl rfl 60 (f := 47) (fi := fi47) fi47_eq (p := [0, 1, 0, 1]) b4700_eq (ct := .nil) (L := lp4700 gk47_0) HL (x := (((), ((), (a0, (a1, (a2, ()))))), (a3, (a4, ())))) (krw h (by kernel_rfl))
theorem ok_k47 (B : Nat) : FnOKs (X B) Ce 47 (con47 k47) := fun x r hx => (grp_k47 B).1 x.1.2.1 x.2.1 x.2.2.1 r hx
theorem ok_k47_0 (B : Nat) : LpOKs (X B) Ce fi47.n b4700 (lp4700 k47_0) := fun x r hx => (grp_k47 B).2 x.1.2.2.1 x.1.2.2.2.1 x.1.2.2.2.2.1 x.2.1 x.2.2.1 r hx
theorem grp_k46 (B : Nat) : (∀ a0 a1 a2 r, k46 a0 a1 a2 = some r → FnOK1 (X B) Ce 46 (con46 (fun _ _ _ => none)) (((), (a0, ((), ()))), (a1, (a2, ()))) r) ∧ (∀ a0 a1 a2 a3 a4 r, k46_0 a0 a1 a2 a3 a4 = some r → LoopOK1 (X B) Ce fi46.n b4600 (lp4600 (fun _ _ _ _ _ => none)) (((), ((), (a0, (a1, (a2, ()))))), (a3, (a4, ()))) r) := by
  refine k46.mutual_partial_correctness (motive_1 := fun a0 a1 a2 r => FnOK1 (X B) Ce 46 (con46 (fun _ _ _ => none)) (((), (a0, ((), ()))), (a1, (a2, ()))) r) (motive_2 := fun a0 a1 a2 a3 a4 r => LoopOK1 (X B) Ce fi46.n b4600 (lp4600 (fun _ _ _ _ _ => none)) (((), ((), (a0, (a1, (a2, ()))))), (a3, (a4, ()))) r) ?_ ?_
  · intro gk46_0 mk46_0 a0 a1 a2 r h
    have Hk46_0 : LpOKs (X B) Ce fi46.n b4600 (lp4600 gk46_0) := fun x r hx => mk46_0 x.1.2.2.1 x.1.2.2.2.1 x.1.2.2.2.2.1 x.2.1 x.2.2.1 r hx
    exact gfun (C := (mkC (lkCon [(80, innerCon)]) (lkLp [(4600, 46, [0, 1, 0, 1], (lp4600 gk46_0))]))) (cl := [(80, innerCon)]) (ll := [(4600, 46, [0, 1, 0, 1], (lp4600 gk46_0))]) (hX B _ _) (hF B _ _) ⟨inner_ok B _ _, trivial⟩ ⟨⟨fi46, b4600, fi46_eq, b4600_eq, Hk46_0⟩, trivial⟩ rfl rfl 60 (f := 46) (fi := fi46) fi46_eq (ct := (.seq .nil (.seq (.seq .nil (.sub (.loop 4600))) .nil))) (L := con46 (fun _ _ _ => none)) (x := (((), (a0, ((), ()))), (a1, (a2, ())))) (krw h (by kernel_rfl))
  · intro gk46 gk46_0 mk46 mk46_0 a0 a1 a2 a3 a4 r h
    have Hk46 : FnOKs (X B) Ce 46 (con46 gk46) := fun x r hx => mk46 x.1.2.1 x.2.1 x.2.2.1 r hx
    have Hk46_0 : LpOKs (X B) Ce fi46.n b4600 (lp4600 gk46_0) := fun x r hx => mk46_0 x.1.2.2.1 x.1.2.2.2.1 x.1.2.2.2.2.1 x.2.1 x.2.2.1 r hx
    have HL := Hk46_0
    exact gloop (C := (mkC (lkCon [(46, (con46 gk46)), (47, (con47 k47)), (80, innerCon)]) (lkLp [(4600, 46, [0, 1, 0, 1], (lp4600 gk46_0))]))) (cl := [(46, (con46 gk46)), (47, (con47 k47)), (80, innerCon)]) (ll := [(4600, 46, [0, 1, 0, 1], (lp4600 gk46_0))]) (hX B _ _) (hF B _ _) ⟨Hk46, ok_k47 B, inner_ok B _ _, trivial⟩ ⟨⟨fi46, b4600, fi46_eq, b4600_eq, Hk46_0⟩, trivial⟩ rfl rfl 60 (f := 46) (fi := fi46) fi46_eq (p := [0, 1, 0, 1]) b4600_eq (ct := (.seq .nil (.seq .nil (.seq (.sub (.seq .nil (.seq (.seq (.join [(0, 0), (1, 2)] [] [(.normal, ⟨[(33, .bool)], [(0, .map .str .bool), (1, .map .str .int)], []⟩)] .nil) .nil) (.seq (.seq (.join [(0, 0), (1, 2)] [] [(.normal, ⟨[(60, .bool)], [(0, .map .str .bool), (1, .map .str .int)], []⟩)] .nil) .nil) .nil)))) .nil)))) (L := lp4600 gk46_0) HL (x := (((), ((), (a0, (a1, (a2, ()))))), (a3, (a4, ())))) (krw h (by kernel_rfl))
theorem ok_k46 (B : Nat) : FnOKs (X B) Ce 46 (con46 k46) := fun x r hx => (grp_k46 B).1 x.1.2.1 x.2.1 x.2.2.1 r hx
theorem ok_k46_0 (B : Nat) : LpOKs (X B) Ce fi46.n b4600 (lp4600 k46_0) := fun x r hx => (grp_k46 B).2 x.1.2.2.1 x.1.2.2.2.1 x.1.2.2.2.2.1 x.2.1 x.2.2.1 r hx
theorem ok_k23 (B : Nat) : FnOKs (X B) Ce 23 (con23 k23) := by
  have h : ∀ a0 a1 r, k23 a0 a1 = some r → FnOK1 (X B) Ce 23 (con23 (fun _ _ => none)) ((a0, ((), ())), (a1, ())) r := fun a0 a1 r h => gfun (C := (mkC (lkCon [(41, cloneCon), (43, (con43 k43)), (46, (con46 k46)), (47, (con47 k47))]) (lkLp [(2300, 23, [0, 1, 0, 1, 1, 1, 1], (lp2300 k23_0)), (2301, 23, [0, 1, 0, 1, 1, 1, 1, 1, 1, 1, 1], (lp2301 k23_1)), (2302, 79, [0, 1, 0, 1], (lp2302 k23_2))]))) (cl := [(41, cloneCon), (43, (con43 k43)), (46, (con46 k46)), (47, (con47 k47))]) (ll := [(2300, 23, [0, 1, 0, 1, 1, 1, 1], (lp2300 k23_0)), (2301, 23, [0, 1, 0, 1, 1, 1, 1, 1, 1, 1, 1], (lp2301 k23_1)), (2302, 79, [0, 1, 0, 1], (lp2302 k23_2))]) (hX B _ _) (hF B _ _) ⟨clone_ok B _ _, ok_k43 B, ok_k46 B, ok_k47 B, trivial⟩ ⟨⟨fi23, b2300, fi23_eq, b2300_eq, ok_k23_0 B⟩, ⟨fi23, b2301, fi23_eq, b2301_eq, ok_k23_1 B⟩, ⟨fi79, b2302, fi79_eq, b2302_eq, ok_k23_2 B⟩, trivial⟩ rfl rfl 60 (f := 23) (fi := fi23) fi23_eq (ct := (.seq .nil (.seq .nil (.seq .nil (.seq .nil (.seq (.seq .nil (.sub (.loop 2300))) (.seq .nil (.seq .nil (.seq .nil (.seq (.seq .nil (.sub (.loop 2301))) (.seq .nil (.seq (.sub (.seq (.join [(0, 2), (1, 10)] [7, 11] [(.normal, ⟨[(69, .bool)], [(0, .cells 42 (.n .fn)), (1, .cells 79 (.fn 39 [] [.ptr 0 0]))], []⟩)] (.region [(15, (.seq .nil (.seq (.region [(2, (.seq .nil (.seq (.seq .nil (.sub (.loop 2302))) .nil)))]) .nil)))])) .nil)) .nil)))))))))))) (L := con23 (fun _ _ => none)) (x := ((a0, ((), ())), (a1, ()))) (krw h (by kernel_rfl))
  exact fun x r hx => h x.1.1 x.2.1 r hx
theorem grp_k10_0 (B : Nat) : (∀ a0 a1 a2 a3 r, k10_0 a0 a1 a2 a3 = some r → LoopOK1 (X B) Ce fi10.n b1000 (lp1000 (fun _ _ _ _ => none)) (((), (a0, (a1, (a2, ())))), (a3, ())) r) := by
  refine k10_0.partial_correctness (motive := fun a0 a1 a2 a3 r => LoopOK1 (X B) Ce fi10.n b1000 (lp1000 (fun _ _ _ _ => none)) (((), (a0, (a1, (a2, ())))), (a3, ())) r) ?_
  · intro gk10_0 mk10_0 a0 a1 a2 a3 r h
    have Hk10_0 : LpOKs (X B) Ce fi10.n b1000 (lp1000 gk10_0) := fun x r hx => mk10_0 x.1.2.1 x.1.2.2.1 x.1.2.2.2.1 x.2.1 r hx
    have HL := Hk10_0
    exact gloop (C := (mkC (lkCon [(23, (con23 k23))]) (lkLp [(1000, 10, [0, 1, 0, 1, 1, 1], (lp1000 gk10_0))]))) (cl := [(23, (con23 k23))]) (ll := [(1000, 10, [0, 1, 0, 1, 1, 1], (lp1000 gk10_0))]) (hX B _ _) (hF B _ _) ⟨ok_k23 B, trivial⟩ ⟨⟨fi10, b1000, fi10_eq, b1000_eq, Hk10_0⟩, trivial⟩ rfl rfl 60 (f := 10) (fi := fi10) fi10_eq (p := [0, 1, 0, 1, 1, 1]) b1000_eq (ct := .nil) (L := lp1000 gk10_0) HL (x := (((), (a0, (a1, (a2, ())))), (a3, ()))) (krw h (by kernel_rfl))
theorem ok_k10_0 (B : Nat) : LpOKs (X B) Ce fi10.n b1000 (lp1000 k10_0) := fun x r hx => (grp_k10_0 B) x.1.2.1 x.1.2.2.1 x.1.2.2.2.1 x.2.1 r hx
theorem grp_k128_0 (B : Nat) : (∀ a0 r, k128_0 a0 = some r → LoopOK1 (X B) Ce fi147.n b12800 (lp12800 (fun _ => none)) ((((), ()), ((), ())), (a0, ())) r) := by
  refine k128_0.partial_correctness (motive := fun a0 r => LoopOK1 (X B) Ce fi147.n b12800 (lp12800 (fun _ => none)) ((((), ()), ((), ())), (a0, ())) r) ?_
  · intro gk128_0 mk128_0 a0 r h
    have Hk128_0 : LpOKs (X B) Ce fi147.n b12800 (lp12800 gk128_0) := fun x r hx => mk128_0 x.2.1 r hx
    have HL := Hk128_0
    exact gloop (C := (mkC (lkCon []) (lkLp [(12800, 147, [0, 1, 0, 1], (lp12800 gk128_0))]))) (cl := []) (ll := [(12800, 147, [0, 1, 0, 1], (lp12800 gk128_0))]) (hX B _ _) (hF B _ _) trivial ⟨⟨fi147, b12800, fi147_eq, b12800_eq, Hk128_0⟩, trivial⟩ rfl rfl 60 (f := 147) (fi := fi147) fi147_eq (p := [0, 1, 0, 1]) b12800_eq (ct := .nil) (L := lp12800 gk128_0) HL (x := ((((), ()), ((), ())), (a0, ()))) (krw h (by kernel_rfl))
theorem ok_k128_0 (B : Nat) : LpOKs (X B) Ce fi147.n b12800 (lp12800 k128_0) := fun x r hx => (grp_k128_0 B) x.2.1 r hx
theorem grp_k128_1 (B : Nat) : (∀ a0 r, k128_1 a0 = some r → LoopOK1 (X B) Ce fi147.n b12801 (lp12801 (fun _ => none)) ((((), ()), ((), ())), (a0, ())) r) := by
  refine k128_1.partial_correctness (motive := fun a0 r => LoopOK1 (X B) Ce fi147.n b12801 (lp12801 (fun _ => none)) ((((), ()), ((), ())), (a0, ())) r) ?_
  · intro gk128_1 mk128_1 a0 r h
    have Hk128_1 : LpOKs (X B) Ce fi147.n b12801 (lp12801 gk128_1) := fun x r hx => mk128_1 x.2.1 r hx
    have HL := Hk128_1
    exact gloop (C := (mkC (lkCon []) (lkLp [(12801, 147, [0, 1, 0, 1], (lp12801 gk128_1))]))) (cl := []) (ll := [(12801, 147, [0, 1, 0, 1], (lp12801 gk128_1))]) (hX B _ _) (hF B _ _) trivial ⟨⟨fi147, b12801, fi147_eq, b12801_eq, Hk128_1⟩, trivial⟩ rfl rfl 60 (f := 147) (fi := fi147) fi147_eq (p := [0, 1, 0, 1]) b12801_eq (ct := .nil) (L := lp12801 gk128_1) HL (x := ((((), ()), ((), ())), (a0, ()))) (krw h (by kernel_rfl))
theorem ok_k128_1 (B : Nat) : LpOKs (X B) Ce fi147.n b12801 (lp12801 k128_1) := fun x r hx => (grp_k128_1 B) x.2.1 r hx
theorem ok_k160 (B : Nat) : FnOKs (X B) Ce 160 (con160 k160) := by
  have h : ∀ a0 a1 r, k160 a0 a1 = some r → FnOK1 (X B) Ce 160 (con160 (fun _ _ => none)) ((a0, (a1, ())), ()) r := fun a0 a1 r h => gfun (C := (mkC (lkCon []) (lkLp []))) (cl := []) (ll := []) (hX B _ _) (hF B _ _) trivial trivial rfl rfl 60 (f := 160) (fi := fi160) fi160_eq (ct := .nil) (L := con160 (fun _ _ => none)) (x := ((a0, (a1, ())), ())) (krw h (by kernel_rfl))
  exact fun x r hx => h x.1.1 x.1.2.1 r hx
theorem ok_k149 (B : Nat) : FnOKs (X B) Ce 149 (con149 k149) := by
  have h : ∀ a0 a1 r, k149 a0 a1 = some r → FnOK1 (X B) Ce 149 (con149 (fun _ _ => none)) ((a0, (a1, ())), ()) r := fun a0 a1 r h => gfun (C := (mkC (lkCon [(160, (con160 k160))]) (lkLp []))) (cl := [(160, (con160 k160))]) (ll := []) (hX B _ _) (hF B _ _) ⟨ok_k160 B, trivial⟩ trivial rfl rfl 60 (f := 149) (fi := fi149) fi149_eq (ct := .nil) (L := con149 (fun _ _ => none)) (x := ((a0, (a1, ())), ())) (krw h (by kernel_rfl))
  exact fun x r hx => h x.1.1 x.1.2.1 r hx
theorem ok_k128 (B : Nat) : FnOKs (X B) Ce 128 (con128 k128) := by
  have h : ∀ a0 r, k128 a0 = some r → FnOK1 (X B) Ce 128 (con128 (fun _ => none)) ((a0, ()), ()) r := fun a0 r h => gfun (C := (mkC (lkCon [(149, (con149 k149))]) (lkLp [(12800, 147, [0, 1, 0, 1], (lp12800 k128_0)), (12801, 147, [0, 1, 0, 1], (lp12801 k128_1))]))) (cl := [(149, (con149 k149))]) (ll := [(12800, 147, [0, 1, 0, 1], (lp12800 k128_0)), (12801, 147, [0, 1, 0, 1], (lp12801 k128_1))]) (hX B _ _) (hF B _ _) ⟨ok_k149 B, trivial⟩ ⟨⟨fi147, b12800, fi147_eq, b12800_eq, ok_k128_0 B⟩, ⟨fi147, b12801, fi147_eq, b12801_eq, ok_k128_1 B⟩, trivial⟩ rfl rfl 60 (f := 128) (fi := fi128) fi128_eq (ct := (.seq .nil (.seq (.region [(1, (.seq .nil (.seq (.seq .nil (.sub (.loop 12800))) .nil)))]) (.seq (.seq .nil (.seq (.region [(4, (.seq .nil (.seq (.seq .nil (.sub (.loop 12801))) .nil)))]) .nil)) .nil)))) (L := con128 (fun _ => none)) (x := ((a0, ()), ())) (krw h (by kernel_rfl))
  exact fun x r hx => h x.1.1 r hx
theorem ok_k153 (B : Nat) : FnOKs (X B) Ce 153 (con153 k153) := by
  have h : ∀ a0 r, k153 a0 = some r → FnOK1 (X B) Ce 153 (con153 (fun _ => none)) ((a0, ()), ()) r := fun a0 r h => gfun (C := (mkC (lkCon []) (lkLp []))) (cl := []) (ll := []) (hX B _ _) (hF B _ _) trivial trivial rfl rfl 60 (f := 153) (fi := fi153) fi153_eq (ct := .nil) (L := con153 (fun _ => none)) (x := ((a0, ()), ())) (krw h (by kernel_rfl))
  exact fun x r hx => h x.1.1 r hx
theorem grp_k129_0 (B : Nat) : (∀ a0 r, k129_0 a0 = some r → LoopOK1 (X B) Ce fi147.n b12900 (lp12900 (fun _ => none)) ((((), ()), ((), ())), (a0, ())) r) := by
  refine k129_0.partial_correctness (motive := fun a0 r => LoopOK1 (X B) Ce fi147.n b12900 (lp12900 (fun _ => none)) ((((), ()), ((), ())), (a0, ())) r) ?_
  · intro gk129_0 mk129_0 a0 r h
    have Hk129_0 : LpOKs (X B) Ce fi147.n b12900 (lp12900 gk129_0) := fun x r hx => mk129_0 x.2.1 r hx
    have HL := Hk129_0
    exact gloop (C := (mkC (lkCon [(153, (con153 k153))]) (lkLp [(12900, 147, [0, 1, 0, 1], (lp12900 gk129_0))]))) (cl := [(153, (con153 k153))]) (ll := [(12900, 147, [0, 1, 0, 1], (lp12900 gk129_0))]) (hX B _ _) (hF B _ _) ⟨ok_k153 B, trivial⟩ ⟨⟨fi147, b12900, fi147_eq, b12900_eq, Hk129_0⟩, trivial⟩ rfl rfl 60 (f := 147) (fi := fi147) fi147_eq (p := [0, 1, 0, 1]) b12900_eq (ct := .nil) (L := lp12900 gk129_0) HL (x := ((((), ()), ((), ())), (a0, ()))) (krw h (by kernel_rfl))
theorem ok_k129_0 (B : Nat) : LpOKs (X B) Ce fi147.n b12900 (lp12900 k129_0) := fun x r hx => (grp_k129_0 B) x.2.1 r hx
theorem ok_k151 (B : Nat) : FnOKs (X B) Ce 151 (con151 k151) := by
  have h : ∀ a0 r, k151 a0 = some r → FnOK1 (X B) Ce 151 (con151 (fun _ => none)) ((a0, ()), ()) r := fun a0 r h => gfun (C := (mkC (lkCon []) (lkLp []))) (cl := []) (ll := []) (hX B _ _) (hF B _ _) trivial trivial rfl rfl 60 (f := 151) (fi := fi151) fi151_eq (ct := .nil) (L := con151 (fun _ => none)) (x := ((a0, ()), ())) (krw h (by kernel_rfl))
  exact fun x r hx => h x.1.1 r hx
theorem grp_k152_0 (B : Nat) : (∀ a0 r, k152_0 a0 = some r → LoopOK1 (X B) Ce fi147.n b15200 (lp15200 (fun _ => none)) ((((), ()), ((), ())), (a0, ())) r) := by
  refine k152_0.partial_correctness (motive := fun a0 r => LoopOK1 (X B) Ce fi147.n b15200 (lp15200 (fun _ => none)) ((((), ()), ((), ())), (a0, ())) r) ?_
  · intro gk152_0 mk152_0 a0 r h
    have Hk152_0 : LpOKs (X B) Ce fi147.n b15200 (lp15200 gk152_0) := fun x r hx => mk152_0 x.2.1 r hx
    have HL := Hk152_0
    exact gloop (C := (mkC (lkCon [(151, (con151 k151)), (153, (con153 k153))]) (lkLp [(15200, 147, [0, 1, 0, 1], (lp15200 gk152_0))]))) (cl := [(151, (con151 k151)), (153, (con153 k153))]) (ll := [(15200, 147, [0, 1, 0, 1], (lp15200 gk152_0))]) (hX B _ _) (hF B _ _) ⟨ok_k151 B, ok_k153 B, trivial⟩ ⟨⟨fi147, b15200, fi147_eq, b15200_eq, Hk152_0⟩, trivial⟩ rfl rfl 60 (f := 147) (fi := fi147) fi147_eq (p := [0, 1, 0, 1]) b15200_eq (ct := .nil) (L := lp15200 gk152_0) HL (x := ((((), ()), ((), ())), (a0, ()))) (krw h (by kernel_rfl))
theorem ok_k152_0 (B : Nat) : LpOKs (X B) Ce fi147.n b15200 (lp15200 k152_0) := fun x r hx => (grp_k152_0 B) x.2.1 r hx
theorem ok_k152 (B : Nat) : FnOKs (X B) Ce 152 (con152 k152) := by
  have h : ∀ a0 r, k152 a0 = some r → FnOK1 (X B) Ce 152 (con152 (fun _ => none)) ((a0, ()), ()) r := fun a0 r h => gfun (C := (mkC (lkCon [(153, (con153 k153))]) (lkLp [(15200, 147, [0, 1, 0, 1], (lp15200 k152_0))]))) (cl := [(153, (con153 k153))]) (ll := [(15200, 147, [0, 1, 0, 1], (lp15200 k152_0))]) (hX B _ _) (hF B _ _) ⟨ok_k153 B, trivial⟩ ⟨⟨fi147, b15200, fi147_eq, b15200_eq, ok_k152_0 B⟩, trivial⟩ rfl rfl 60 (f := 152) (fi := fi152) fi152_eq (ct := (.seq .nil (.seq (.region [(1, (.seq .nil (.seq (.seq .nil (.sub (.loop 15200))) .nil)))]) .nil))) (L := con152 (fun _ => none)) (x := ((a0, ()), ())) (krw h (by kernel_rfl))
  exact fun x r hx => h x.1.1 r hx
theorem grp_k162_0 (B : Nat) : (∀ a0 r, k162_0 a0 = some r → LoopOK1 (X B) Ce fi162.n b16200 (lp16200 (fun _ => none)) (((), ()), (a0, ())) r) := by
  refine k162_0.partial_correctness (motive := fun a0 r => LoopOK1 (X B) Ce fi162.n b16200 (lp16200 (fun _ => none)) (((), ()), (a0, ())) r) ?_
  · intro gk162_0 mk162_0 a0 r h
    have Hk162_0 : LpOKs (X B) Ce fi162.n b16200 (lp16200 gk162_0) := fun x r hx => mk162_0 x.2.1 r hx
    have HL := Hk162_0
    exact gloop (C := (mkC (lkCon []) (lkLp [(16200, 162, [0, 1, 0, 0, 1, 1, 1, 0, 1], (lp16200 gk162_0))]))) (cl := []) (ll := [(16200, 162, [0, 1, 0, 0, 1, 1, 1, 0, 1], (lp16200 gk162_0))]) (hX B _ _) (hF B _ _) trivial ⟨⟨fi162, b16200, fi162_eq, b16200_eq, Hk162_0⟩, trivial⟩ rfl rfl 60 (f := 162) (fi := fi162) fi162_eq (p := [0, 1, 0, 0, 1, 1, 1, 0, 1]) b16200_eq (ct := .nil) (L := lp16200 gk162_0) HL (x := (((), ()), (a0, ()))) (krw h (by kernel_rfl))
theorem ok_k162_0 (B : Nat) : LpOKs (X B) Ce fi162.n b16200 (lp16200 k162_0) := fun x r hx => (grp_k162_0 B) x.2.1 r hx
theorem ok_k162 (B : Nat) : FnOKs (X B) Ce 162 (con162 k162) := by
  have h : ∀ a0 a1 r, k162 a0 a1 = some r → FnOK1 (X B) Ce 162 (con162 (fun _ _ => none)) ((a0, (a1, ())), ()) r := fun a0 a1 r h => gfun (C := (mkC (lkCon [(166, indexByteCon), (167, validRuneCon)]) (lkLp [(16200, 162, [0, 1, 0, 0, 1, 1, 1, 0, 1], (lp16200 k162_0))]))) (cl := [(166, indexByteCon), (167, validRuneCon)]) (ll := [(16200, 162, [0, 1, 0, 0, 1, 1, 1, 0, 1], (lp16200 k162_0))]) (hX B _ _) (hF B _ _) ⟨indexByte_ok B _ _, validRune_ok B _ _, trivial⟩ ⟨⟨fi162, b16200, fi162_eq, b16200_eq, ok_k162_0 B⟩, trivial⟩ rfl rfl 60 (f := 162) (fi := fi162) fi162_eq (ct := (.seq .nil (.sub (.seq (.join [] [] [(.normal, ⟨[(160, .bool)], [], []⟩)] .nil) (.seq .nil (.seq .nil (.seq (.seq (.seq .nil (.sub (.loop 16200))) .nil) (.seq .nil (.seq .nil (.sub (.seq .nil (.seq .nil (.seq .nil (.seq .nil (.seq (.sub (.loop 16202)) .nil))))))))))))))) (L := con162 (fun _ _ => none)) (x := ((a0, (a1, ())), ())) (krw h (by kernel_rfl))
  exact fun x r hx => h x.1.1 x.1.2.1 r hx
theorem ok_k154 (B : Nat) : FnOKs (X B) Ce 154 (con154 k154) := by
  have h : ∀ a0 a1 r, k154 a0 a1 = some r → FnOK1 (X B) Ce 154 (con154 (fun _ _ => none)) ((a0, (a1, ())), ()) r := fun a0 a1 r h => gfun (C := (mkC (lkCon [(162, (con162 k162))]) (lkLp []))) (cl := [(162, (con162 k162))]) (ll := []) (hX B _ _) (hF B _ _) ⟨ok_k162 B, trivial⟩ trivial rfl rfl 60 (f := 154) (fi := fi154) fi154_eq (ct := .nil) (L := con154 (fun _ _ => none)) (x := ((a0, (a1, ())), ())) (krw h (by kernel_rfl))
  exact fun x r hx => h x.1.1 x.1.2.1 r hx
theorem ok_k129 (B : Nat) : FnOKs (X B) Ce 129 (con129 k129) := by
  have h : ∀ a0 r, k129 a0 = some r → FnOK1 (X B) Ce 129 (con129 (fun _ => none)) ((a0, ()), ()) r := fun a0 r h => gfun (C := (mkC (lkCon [(149, (con149 k149)), (151, (con151 k151)), (152, (con152 k152)), (153, (con153 k153)), (154, (con154 k154))]) (lkLp [(12900, 147, [0, 1, 0, 1], (lp12900 k129_0))]))) (cl := [(149, (con149 k149)), (151, (con151 k151)), (152, (con152 k152)), (153, (con153 k153)), (154, (con154 k154))]) (ll := [(12900, 147, [0, 1, 0, 1], (lp12900 k129_0))]) (hX B _ _) (hF B _ _) ⟨ok_k149 B, ok_k151 B, ok_k152 B, ok_k153 B, ok_k154 B, trivial⟩ ⟨⟨fi147, b12900, fi147_eq, b12900_eq, ok_k129_0 B⟩, trivial⟩ rfl rfl 60 (f := 129) (fi := fi129) fi129_eq (ct := (.seq .nil (.seq (.seq .nil (.sub (.seq .nil (.seq .nil (.seq .nil (.seq (.seq (.region [(1, (.seq .nil (.seq (.seq .nil (.sub (.loop 12900))) .nil)))]) .nil) .nil)))))) .nil))) (L := con129 (fun _ => none)) (x := ((a0, ()), ())) (krw h (by kernel_rfl))
  exact fun x r hx => h x.1.1 r hx
theorem grp_k104_0 (B : Nat) : (∀ a0 a1 a2 r, k104_0 a0 a1 a2 = some r → LoopOK1 (X B) Ce fi104.n b10400 (lp10400 (fun _ _ _ => none)) ((a0, (a1, (a2, ()))), ()) r) := by
  refine k104_0.partial_correctness (motive := fun a0 a1 a2 r => LoopOK1 (X B) Ce fi104.n b10400 (lp10400 (fun _ _ _ => none)) ((a0, (a1, (a2, ()))), ()) r) ?_
  · intro gk104_0 mk104_0 a0 a1 a2 r h
    have Hk104_0 : LpOKs (X B) Ce fi104.n b10400 (lp10400 gk104_0) := fun x r hx => mk104_0 x.1.1 x.1.2.1 x.1.2.2.1 r hx
    have HL := Hk104_0
    exact gloop (C := (mkC (lkCon [(128, (con128 k128)), (129, (con129 k129))]) (lkLp [(10400, 104, [0, 1, 0, 1, 1, 1], (lp10400 gk104_0))]))) (cl := [(128, (con128 k128)), (129, (con129 k129))]) (ll := [(10400, 104, [0, 1, 0, 1, 1, 1], (lp10400 gk104_0))]) (hX B _ _) (hF B _ _) ⟨ok_k128 B, ok_k129 B, trivial⟩ ⟨⟨fi104, b10400, fi104_eq, b10400_eq, Hk104_0⟩, trivial⟩ rfl rfl 60 (f := 104) (fi := fi104) fi104_eq (p := [0, 1, 0, 1, 1, 1]) b10400_eq (ct := .nil) (L := lp10400 gk104_0) HL (x := ((a0, (a1, (a2, ()))), ())) (krw h (by kernel_rfl))
theorem ok_k104_0 (B : Nat) : LpOKs (X B) Ce fi104.n b10400 (lp10400 k104_0) := fun x r hx => (grp_k104_0 B) x.1.1 x.1.2.1 x.1.2.2.1 r hx
theorem ok_k104 (B : Nat) : FnOKs (X B) Ce 104 (con104 k104) := by
  have h : ∀ a0 r, k104 a0 = some r → FnOK1 (X B) Ce 104 (con104 (fun _ => none)) ((a0, ()), ()) r := fun a0 r h => gfun (C := (mkC (lkCon []) (lkLp [(10400, 104, [0, 1, 0, 1, 1, 1], (lp10400 k104_0))]))) (cl := []) (ll := [(10400, 104, [0, 1, 0, 1, 1, 1], (lp10400 k104_0))]) (hX B _ _) (hF B _ _) trivial ⟨⟨fi104, b10400, fi104_eq, b10400_eq, ok_k104_0 B⟩, trivial⟩ rfl rfl 60 (f := 104) (fi := fi104) fi104_eq (ct := (.seq .nil (.seq .nil (.seq .nil (.seq (.seq .nil (.sub (.loop 10400))) .nil))))) (L := con104 (fun _ => none)) (x := ((a0, ()), ())) (krw h (by kernel_rfl))
  exact fun x r hx => h x.1.1 r hx
theorem ok_k105 (B : Nat) : FnOKs (X B) Ce 105 (con105 k105) := by
  have h : ∀ r, k105 = some r → FnOK1 (X B) Ce 105 (con105 none) ((), ()) r := fun r h => gfun (C := (mkC (lkCon [(130, fieldsCon)]) (lkLp []))) (cl := [(130, fieldsCon)]) (ll := []) (hX B _ _) (hF B _ _) ⟨fields_ok B _ _, trivial⟩ trivial rfl rfl 60 (f := 105) (fi := fi105) fi105_eq (ct := .nil) (L := con105 none) (x := ((), ())) (krw h (by kernel_rfl))
  exact fun x r hx => h r hx
theorem ok_k70 (B : Nat) : FnOKs (X B) Ce 70 (con70 k70) := by
  have h : ∀ a0 r, k70 a0 = some r → FnOK1 (X B) Ce 70 (con70 (fun _ => none)) ((a0, ()), ()) r := fun a0 r h => gfun (C := (mkC (lkCon [(40, (con40 k40)), (104, (con104 k104)), (105, (con105 k105))]) (lkLp []))) (cl := [(40, (con40 k40)), (104, (con104 k104)), (105, (con105 k105))]) (ll := []) (hX B _ _) (hF B _ _) ⟨ok_k40 B, ok_k104 B, ok_k105 B, trivial⟩ trivial rfl rfl 60 (f := 70) (fi := fi70) fi70_eq (ct := .nil) (L := con70 (fun _ => none)) (x := ((a0, ()), ())) (krw h (by kernel_rfl))
  exact fun x r hx => h x.1.1 r hx
theorem grp_k38_0 (B : Nat) : (∀ a0 a1 a2 r, k38_0 a0 a1 a2 = some r → LoopOK1 (X B) Ce fi79.n b3800 (lp3800 (fun _ _ _ => none)) ((a0, (((), ((), ())), (a1, (a2, ())))), (((), ()), ())) r) := by
  refine k38_0.partial_correctness (motive := fun a0 a1 a2 r => LoopOK1 (X B) Ce fi79.n b3800 (lp3800 (fun _ _ _ => none)) ((a0, (((), ((), ())), (a1, (a2, ())))), (((), ()), ())) r) ?_
  · intro gk38_0 mk38_0 a0 a1 a2 r h
    have Hk38_0 : LpOKs (X B) Ce fi79.n b3800 (lp3800 gk38_0) := fun x r hx => mk38_0 x.1.1 x.1.2.2.1 x.1.2.2.2.1 r hx
    have HL := Hk38_0
    exact gloop (C := (mkC (lkCon [(70, (con70 k70))]) (lkLp [(3800, 79, [0, 1, 0, 1], (lp3800 gk38_0))]))) (cl := [(70, (con70 k70))]) (ll := [(3800, 79, [0, 1, 0, 1], (lp3800 gk38_0))]) (hX B _ _) (hF B _ _) ⟨ok_k70 B, trivial⟩ ⟨⟨fi79, b3800, fi79_eq, b3800_eq, Hk38_0⟩, trivial⟩ rfl rfl 60 (f := 79) (fi := fi79) fi79_eq (p := [0, 1, 0, 1]) b3800_eq (ct := .nil) (L := lp3800 gk38_0) HL (x := ((a0, (((), ((), ())), (a1, (a2, ())))), (((), ()), ()))) (krw h (by kernel_rfl))
theorem ok_k38_0 (B : Nat) : LpOKs (X B) Ce fi79.n b3800 (lp3800 k38_0) := fun x r hx => (grp_k38_0 B) x.1.1 x.1.2.2.1 x.1.2.2.2.1 r hx
theorem grp_k71 (B : Nat) : (∀ a0 r, k71 a0 = some r → FnOK1 (X B) Ce 71 (con71 (fun _ => none)) ((a0, ()), ()) r) ∧ (∀ a0 a1 a2 r, k71_0 a0 a1 a2 = some r → LoopOK1 (X B) Ce fi48.n b7100 (lp7100 (fun _ _ _ => none)) ((a0, (((), ((), ())), (a1, (a2, ())))), (((), ()), ())) r) := by
  refine k71.mutual_partial_correctness (motive_1 := fun a0 r => FnOK1 (X B) Ce 71 (con71 (fun _ => none)) ((a0, ()), ()) r) (motive_2 := fun a0 a1 a2 r => LoopOK1 (X B) Ce fi48.n b7100 (lp7100 (fun _ _ _ => none)) ((a0, (((), ((), ())), (a1, (a2, ())))), (((), ()), ())) r) ?_ ?_
  · intro gk71_0 mk71_0 a0 r h
    have Hk71_0 : LpOKs (X B) Ce fi48.n b7100 (lp7100 gk71_0) := fun x r hx => mk71_0 x.1.1 x.1.2.2.1 x.1.2.2.2.1 r hx
    exact gfun (C := (mkC (lkCon [(70, (con70 k70))]) (lkLp [(7100, 48, [0, 1, 0, 1], (lp7100 gk71_0))]))) (cl := [(70, (con70 k70))]) (ll := [(7100, 48, [0, 1, 0, 1], (lp7100 gk71_0))]) (hX B _ _) (hF B _ _) ⟨ok_k70 B, trivial⟩ ⟨⟨fi48, b7100, fi48_eq, b7100_eq, Hk71_0⟩, trivial⟩ rfl rfl 60 (f := 71) (fi := fi71) fi71_eq (ct := (.seq .nil (.seq (.seq (.join [] [] [(.normal, ⟨[(16, .bool)], [], []⟩)] .nil) .nil) (.seq .nil (.seq .nil (.seq (.region [(18, (.seq .nil (.seq (.region [(6, (.seq .nil (.seq (.region [(2, (.seq .nil (.seq (.seq .nil (.sub (.loop 7100))) .nil)))]) .nil)))]) .nil)))]) .nil)))))) (L := con71 (fun _ => none)) (x := ((a0, ()), ())) (krw h (by kernel_rfl))
  · intro gk71 gk71_0 mk71 mk71_0 a0 a1 a2 r h
    have Hk71 : FnOKs (X B) Ce 71 (con71 gk71) := fun x r hx => mk71 x.1.1 r hx
    have Hk71_0 : LpOKs (X B) Ce fi48.n b7100 (lp7100 gk71_0) := fun x r hx => mk71_0 x.1.1 x.1.2.2.1 x.1.2.2.2.1 r hx
    have HL := Hk71_0
    exact gloop (C := (mkC (lkCon [(71, (con71 gk71))]) (lkLp [(7100, 48, [0, 1, 0, 1], (lp7100 gk71_0))]))) (cl := [(71, (con71 gk71))]) (ll := [(7100, 48, [0, 1, 0, 1], (lp7100 gk71_0))]) (hX B _ _) (hF B _ _) ⟨Hk71, trivial⟩ ⟨⟨fi48, b7100, fi48_eq, b7100_eq, Hk71_0⟩, trivial⟩ rfl rfl 60 (f := 48) (fi := fi48) fi48_eq (p := [0, 1, 0, 1]) b7100_eq (ct := .nil) (L := lp7100 gk71_0) HL (x := ((a0, (((), ((), ())), (a1, (a2, ())))), (((), ()), ()))) (krw h (by kernel_rfl))
theorem ok_k71 (B : Nat) : FnOKs (X B) Ce 71 (con71 k71) := fun x r hx => (grp_k71 B).1 x.1.1 r hx
theorem ok_k71_0 (B : Nat) : LpOKs (X B) Ce fi48.n b7100 (lp7100 k71_0) := fun x r hx => (grp_k71 B).2 x.1.1 x.1.2.2.1 x.1.2.2.2.1 r hx
theorem grp_k38_1 (B : Nat) : (∀ a0 a1 a2 r, k38_1 a0 a1 a2 = some r → LoopOK1 (X B) Ce fi132.n b3801 (lp3801 (fun _ _ _ => none)) ((a0, (((), ((), ())), (a1, (a2, ())))), (((), ()), ())) r) := by
  refine k38_1.partial_correctness (motive := fun a0 a1 a2 r => LoopOK1 (X B) Ce fi132.n b3801 (lp3801 (fun _ _ _ => none)) ((a0, (((), ((), ())), (a1, (a2, ())))), (((), ()), ())) r) ?_
  · intro gk38_1 mk38_1 a0 a1 a2 r h
    have Hk38_1 : LpOKs (X B) Ce fi132.n b3801 (lp3801 gk38_1) := fun x r hx => mk38_1 x.1.1 x.1.2.2.1 x.1.2.2.2.1 r hx
    have HL := Hk38_1
    exact gloop (C := (mkC (lkCon [(70, (con70 k70)), (71, (con71 k71))]) (lkLp [(3801, 132, [0, 1, 0, 1], (lp3801 gk38_1))]))) (cl := [(70, (con70 k70)), (71, (con71 k71))]) (ll := [(3801, 132, [0, 1, 0, 1], (lp3801 gk38_1))]) (hX B _ _) (hF B _ _) ⟨ok_k70 B, ok_k71 B, trivial⟩ ⟨⟨fi132, b3801, fi132_eq, b3801_eq, Hk38_1⟩, trivial⟩ rfl rfl 60 (f := 132) (fi := fi132) fi132_eq (p := [0, 1, 0, 1]) b3801_eq (ct := .nil) (L := lp3801 gk38_1) HL (x := ((a0, (((), ((), ())), (a1, (a2, ())))), (((), ()), ()))) (krw h (by kernel_rfl))
theorem ok_k38_1 (B : Nat) : LpOKs (X B) Ce fi132.n b3801 (lp3801 k38_1) := fun x r hx => (grp_k38_1 B) x.1.1 x.1.2.2.1 x.1.2.2.2.1 r hx
theorem ok_k112 (B : Nat) : FnOKs (X B) Ce 112 (con112 k112) := by
  have h : ∀ a0 r, k112 a0 = some r → FnOK1 (X B) Ce 112 (con112 (fun _ => none)) ((a0, ()), ()) r := fun a0 r h => gfun (C := (mkC (lkCon []) (lkLp []))) (cl := []) (ll := []) (hX B _ _) (hF B _ _) trivial trivial rfl rfl 60 (f := 112) (fi := fi112) fi112_eq (ct := .nil) (L := con112 (fun _ => none)) (x := ((a0, ()), ())) (krw h (by kernel_rfl))
  exact fun x r hx => h x.1.1 r hx
theorem ok_k113 (B : Nat) : FnOKs (X B) Ce 113 (con113 k113) := by
  have h : ∀ a0 r, k113 a0 = some r → FnOK1 (X B) Ce 113 (con113 (fun _ => none)) ((a0, ()), ()) r := fun a0 r h => gfun (C := (mkC (lkCon []) (lkLp []))) (cl := []) (ll := []) (hX B _ _) (hF B _ _) trivial trivial rfl rfl 60 (f := 113) (fi := fi113) fi113_eq (ct := .nil) (L := con113 (fun _ => none)) (x := ((a0, ()), ())) (krw h (by kernel_rfl))
  exact fun x r hx => h x.1.1 r hx
theorem ok_k137 (B : Nat) : FnOKs (X B) Ce 137 (con137 k137) := by
  have h : ∀ a0 r, k137 a0 = some r → FnOK1 (X B) Ce 137 (con137 (fun _ => none)) ((a0, ()), ()) r := fun a0 r h => gfun (C := (mkC (lkCon [(113, (con113 k113))]) (lkLp []))) (cl := [(113, (con113 k113))]) (ll := []) (hX B _ _) (hF B _ _) ⟨ok_k113 B, trivial⟩ trivial rfl rfl 60 (f := 137) (fi := fi137) fi137_eq (ct := .nil) (L := con137 (fun _ => none)) (x := ((a0, ()), ())) (krw h (by kernel_rfl))
  exact fun x r hx => h x.1.1 r hx
theorem ok_k138 (B : Nat) : FnOKs (X B) Ce 138 (con138 k138) := by
  have h : ∀ a0 r, k138 a0 = some r → FnOK1 (X B) Ce 138 (con138 (fun _ => none)) ((a0, ()), ()) r := fun a0 r h => gfun (C := (mkC (lkCon []) (lkLp []))) (cl := []) (ll := []) (hX B _ _) (hF B _ _) trivial trivial rfl rfl 60 (f := 138) (fi := fi138) fi138_eq (ct := .nil) (L := con138 (fun _ => none)) (x := ((a0, ()), ())) (krw h (by kernel_rfl))
  exact fun x r hx => h x.1.1 r hx
theorem ok_k140 (B : Nat) : FnOKs (X B) Ce 140 (con140 k140) := by
  have h : ∀ a0 r, k140 a0 = some r → FnOK1 (X B) Ce 140 (con140 (fun _ => none)) ((a0, ()), ()) r := fun a0 r h => gfun (C := (mkC (lkCon []) (lkLp []))) (cl := []) (ll := []) (hX B _ _) (hF B _ _) trivial trivial rfl rfl 60 (f := 140) (fi := fi140) fi140_eq (ct := .nil) (L := con140 (fun _ => none)) (x := ((a0, ()), ())) (krw h (by kernel_rfl))
  exact fun x r hx => h x.1.1 r hx
theorem grp_k77 (B : Nat) : (∀ a0 r, k77 a0 = some r → FnOK1 (X B) Ce 77 (con77 (fun _ => none)) ((a0, ()), ()) r) ∧ (∀ a0 a1 a2 r, k77_0 a0 a1 a2 = some r → LoopOK1 (X B) Ce fi157.n b7700 (lp7700 (fun _ _ _ => none)) ((a0, (((), ((), ())), (a1, (a2, ())))), (((), ()), ())) r) := by
  refine k77.mutual_partial_correctness (motive_1 := fun a0 r => FnOK1 (X B) Ce 77 (con77 (fun _ => none)) ((a0, ()), ()) r) (motive_2 := fun a0 a1 a2 r => LoopOK1 (X B) Ce fi157.n b7700 (lp7700 (fun _ _ _ => none)) ((a0, (((), ((), ())), (a1, (a2, ())))), (((), ()), ())) r) ?_ ?_
  · intro gk77_0 mk77_0 a0 r h
    have Hk77_0 : LpOKs (X B) Ce fi157.n b7700 (lp7700 gk77_0) := fun x r hx => mk77_0 x.1.1 x.1.2.2.1 x.1.2.2.2.1 r hx
    exact gfun (C := (mkC (lkCon [(70, (con70 k70)), (137, (con137 k137)), (138, (con138 k138)), (140, (con140 k140))]) (lkLp [(7700, 157, [0, 1, 0, 1], (lp7700 gk77_0))]))) (cl := [(70, (con70 k70)), (137, (con137 k137)), (138, (con138 k138)), (140, (con140 k140))]) (ll := [(7700, 157, [0, 1, 0, 1], (lp7700 gk77_0))]) (hX B _ _) (hF B _ _) ⟨ok_k70 B, ok_k137 B, ok_k138 B, ok_k140 B, trivial⟩ ⟨⟨fi157, b7700, fi157_eq, b7700_eq, Hk77_0⟩, trivial⟩ rfl rfl 60 (f := 77) (fi := fi77) fi77_eq (ct := (.seq .nil (.seq (.seq (.join [] [] [(.normal, ⟨[(12, .bool)], [], []⟩)] .nil) .nil) (.seq .nil (.seq (.join [] [] [(.normal, ⟨[(4, .int .i64)], [], []⟩)] .nil) (.seq (.seq (.join [] [] [(.normal, ⟨[(59, .bool)], [], []⟩)] .nil) .nil) (.seq (.region [(7, (.seq .nil (.seq (.region [(6, (.seq .nil (.seq (.region [(2, (.seq .nil (.seq (.seq .nil (.sub (.loop 7700))) .nil)))]) .nil)))]) .nil)))]) .nil))))))) (L := con77 (fun _ => none)) (x := ((a0, ()), ())) (krw h (by kernel_rfl))
  · intro gk77 gk77_0 mk77 mk77_0 a0 a1 a2 r h
    have Hk77 : FnOKs (X B) Ce 77 (con77 gk77) := fun x r hx => mk77 x.1.1 r hx
    have Hk77_0 : LpOKs (X B) Ce fi157.n b7700 (lp7700 gk77_0) := fun x r hx => mk77_0 x.1.1 x.1.2.2.1 x.1.2.2.2.1 r hx
    have HL := Hk77_0
    exact gloop (C := (mkC (lkCon [(77, (con77 gk77))]) (lkLp [(7700, 157, [0, 1, 0, 1], (lp7700 gk77_0))]))) (cl := [(77, (con77 gk77))]) (ll := [(7700, 157, [0, 1, 0, 1], (lp7700 gk77_0))]) (hX B _ _) (hF B _ _) ⟨Hk77, trivial⟩ ⟨⟨fi157, b7700, fi157_eq, b7700_eq, Hk77_0⟩, trivial⟩ rfl rfl 60 (f := 157) (fi := fi157) fi157_eq (p := [0, 1, 0, 1]) b7700_eq (ct := .nil) (L := lp7700 gk77_0) HL (x := ((a0, (((), ((), ())), (a1, (a2, ())))), (((), ()), ()))) (krw h (by kernel_rfl))
theorem ok_k77 (B : Nat) : FnOKs (X B) Ce 77 (con77 k77) := fun x r hx => (grp_k77 B).1 x.1.1 r hx
theorem ok_k77_0 (B : Nat) : LpOKs (X B) Ce fi157.n b7700 (lp7700 k77_0) := fun x r hx => (grp_k77 B).2 x.1.1 x.1.2.2.1 x.1.2.2.2.1 r hx
theorem grp_k75 (B : Nat) : (∀ a0 r, k75 a0 = some r → FnOK1 (X B) Ce 75 (con75 (fun _ => none)) ((a0, ()), ()) r) ∧ (∀ a0 a1 a2 r, k75_0 a0 a1 a2 = some r → LoopOK1 (X B) Ce fi133.n b7500 (lp7500 (fun _ _ _ => none)) ((a0, (((), ((), ())), (a1, (a2, ())))), (((), ()), ())) r) := by
  refine k75.mutual_partial_correctness (motive_1 := fun a0 r => FnOK1 (X B) Ce 75 (con75 (fun _ => none)) ((a0, ()), ()) r) (motive_2 := fun a0 a1 a2 r => LoopOK1 (X B) Ce fi133.n b7500 (lp7500 (fun _ _ _ => none)) ((a0, (((), ((), ())), (a1, (a2, ())))), (((), ()), ())) r) ?_ ?_
  · intro gk75_0 mk75_0 a0 r h
    have Hk75_0 : LpOKs (X B) Ce fi133.n b7500 (lp7500 gk75_0) := fun x r hx => mk75_0 x.1.1 x.1.2.2.1 x.1.2.2.2.1 r hx
    exact gfun (C := (mkC (lkCon [(70, (con70 k70)), (77, (con77 k77)), (112, (con112 k112)), (113, (con113 k113))]) (lkLp [(7500, 133, [0, 1, 0, 1], (lp7500 gk75_0))]))) (cl := [(70, (con70 k70)), (77, (con77 k77)), (112, (con112 k112)), (113, (con113 k113))]) (ll := [(7500, 133, [0, 1, 0, 1], (lp7500 gk75_0))]) (hX B _ _) (hF B _ _) ⟨ok_k70 B, ok_k77 B, ok_k112 B, ok_k113 B, trivial⟩ ⟨⟨fi133, b7500, fi133_eq, b7500_eq, Hk75_0⟩, trivial⟩ rfl rfl 60 (f := 75) (fi := fi75) fi75_eq (ct := (.seq .nil (.seq .nil (.seq (.sub (.seq (.join [] [] [(.normal, ⟨[(15, .bool)], [], []⟩)] .nil) (.seq .nil (.seq (.join [] [] [(.normal, ⟨[(30, .bool)], [], []⟩)] .nil) (.seq .nil (.seq (.join [] [] [(.normal, ⟨[(45, .bool)], [], []⟩)] .nil) (.seq .nil (.seq (.join [] [] [(.normal, ⟨[(66, .bool)], [], []⟩)] .nil) .nil)))))))) (.seq (.region [(2, (.join [] [] [(.ret, ⟨[(4, .bool)], [], []⟩)] (.seq .nil (.seq (.region [(6, (.seq .nil (.seq (.region [(2, (.seq .nil (.seq (.seq .nil (.sub (.loop 7500))) .nil)))]) .nil)))]) .nil)))), (6, (.seq .nil (.seq (.region [(6, (.seq .nil (.seq (.region [(2, (.seq .nil (.seq (.seq .nil (.sub (.loop 7500))) .nil)))]) .nil)))]) .nil)))]) .nil))))) (L := con75 (fun _ => none)) (x := ((a0, ()), ())) (krw h (by kernel_rfl))
  · intro gk75 gk75_0 mk75 mk75_0 a0 a1 a2 r h
    have Hk75 : FnOKs (X B) Ce 75 (con75 gk75) := fun x r hx => mk75 x.1.1 r hx
    have Hk75_0 : LpOKs (X B) Ce fi133.n b7500 (lp7500 gk75_0) := fun x r hx => mk75_0 x.1.1 x.1.2.2.1 x.1.2.2.2.1 r hx
    have HL := Hk75_0
    exact gloop (C := (mkC (lkCon [(75, (con75 gk75))]) (lkLp [(7500, 133, [0, 1, 0, 1], (lp7500 gk75_0))]))) (cl := [(75, (con75 gk75))]) (ll := [(7500, 133, [0, 1, 0, 1], (lp7500 gk75_0))]) (hX B _ _) (hF B _ _) ⟨Hk75, trivial⟩ ⟨⟨fi133, b7500, fi133_eq, b7500_eq, Hk75_0⟩, trivial⟩ rfl rfl 60 (f := 133) (fi := fi133) fi133_eq (p := [0, 1, 0, 1]) b7500_eq (ct := .nil) (L := lp7500 gk75_0) HL (x := ((a0, (((), ((), ())), (a1, (a2, ())))), (((), ()), ()))) (krw h (by kernel_rfl))
theorem ok_k75 (B : Nat) : FnOKs (X B) Ce 75 (con75 k75) := fun x r hx => (grp_k75 B).1 x.1.1 r hx
theorem ok_k75_0 (B : Nat) : LpOKs (X B) Ce fi133.n b7500 (lp7500 k75_0) := fun x r hx => (grp_k75 B).2 x.1.1 x.1.2.2.1 x.1.2.2.2.1 r hx
theorem grp_k38_2 (B : Nat) : (∀ a0 a1 a2 r, k38_2 a0 a1 a2 = some r → LoopOK1 (X B) Ce fi133.n b3802 (lp3802 (fun _ _ _ => none)) ((a0, (((), ((), ())), (a1, (a2, ())))), (((), ()), ())) r) := by
  refine k38_2.partial_correctness (motive := fun a0 a1 a2 r => LoopOK1 (X B) Ce fi133.n b3802 (lp3802 (fun _ _ _ => none)) ((a0, (((), ((), ())), (a1, (a2, ())))), (((), ()), ())) r) ?_
  · intro gk38_2 mk38_2 a0 a1 a2 r h
    have Hk38_2 : LpOKs (X B) Ce fi133.n b3802 (lp3802 gk38_2) := fun x r hx => mk38_2 x.1.1 x.1.2.2.1 x.1.2.2.2.1 r hx
    have HL := Hk38_2
    exact gloop (C := (mkC (lkCon [(75, (con75 k75))]) (lkLp [(3802, 133, [0, 1, 0, 1], (lp3802 gk38_2))]))) (cl := [(75, (con75 k75))]) (ll := [(3802, 133, [0, 1, 0, 1], (lp3802 gk38_2))]) (hX B _ _) (hF B _ _) ⟨ok_k75 B, trivial⟩ ⟨⟨fi133, b3802, fi133_eq, b3802_eq, Hk38_2⟩, trivial⟩ rfl rfl 60 (f := 133) (fi := fi133) fi133_eq (p := [0, 1, 0, 1]) b3802_eq (ct := .nil) (L := lp3802 gk38_2) HL (x := ((a0, (((), ((), ())), (a1, (a2, ())))), (((), ()), ()))) (krw h (by kernel_rfl))
theorem ok_k38_2 (B : Nat) : LpOKs (X B) Ce fi133.n b3802 (lp3802 k38_2) := fun x r hx => (grp_k38_2 B) x.1.1 x.1.2.2.1 x.1.2.2.2.1 r hx
theorem grp_k76 (B : Nat) : (∀ a0 r, k76 a0 = some r → FnOK1 (X B) Ce 76 (con76 (fun _ => none)) ((a0, ()), ()) r) ∧ (∀ a0 a1 a2 a3 r, k76_0 a0 a1 a2 a3 = some r → LoopOK1 (X B) Ce fi100.n b7600 (lp7600 (fun _ _ _ _ => none)) ((((), ()), (a0, (a1, (a2, (a3, ()))))), ()) r) := by
  refine k76.mutual_partial_correctness (motive_1 := fun a0 r => FnOK1 (X B) Ce 76 (con76 (fun _ => none)) ((a0, ()), ()) r) (motive_2 := fun a0 a1 a2 a3 r => LoopOK1 (X B) Ce fi100.n b7600 (lp7600 (fun _ _ _ _ => none)) ((((), ()), (a0, (a1, (a2, (a3, ()))))), ()) r) ?_ ?_
  · intro gk76_0 mk76_0 a0 r h
    have Hk76_0 : LpOKs (X B) Ce fi100.n b7600 (lp7600 gk76_0) := fun x r hx => mk76_0 x.1.2.1 x.1.2.2.1 x.1.2.2.2.1 x.1.2.2.2.2.1 r hx
    exact gfun (C := (mkC (lkCon []) (lkLp [(7600, 100, [0, 1, 0, 1, 1], (lp7600 gk76_0))]))) (cl := []) (ll := [(7600, 100, [0, 1, 0, 1, 1], (lp7600 gk76_0))]) (hX B _ _) (hF B _ _) trivial ⟨⟨fi100, b7600, fi100_eq, b7600_eq, Hk76_0⟩, trivial⟩ rfl rfl 60 (f := 76) (fi := fi76) fi76_eq (ct := (.seq .nil (.seq (.region [(1, (.seq .nil (.seq .nil (.seq (.seq .nil (.sub (.loop 7600))) .nil))))]) .nil))) (L := con76 (fun _ => none)) (x := ((a0, ()), ())) (krw h (by kernel_rfl))
  · intro gk76 gk76_0 mk76 mk76_0 a0 a1 a2 a3 r h
    have Hk76 : FnOKs (X B) Ce 76 (con76 gk76) := fun x r hx => mk76 x.1.1 r hx
    have Hk76_0 : LpOKs (X B) Ce fi100.n b7600 (lp7600 gk76_0) := fun x r hx => mk76_0 x.1.2.1 x.1.2.2.1 x.1.2.2.2.1 x.1.2.2.2.2.1 r hx
    have HL := Hk76_0
    exact gloop (C := (mkC (lkCon [(76, (con76 gk76))]) (lkLp [(7600, 100, [0, 1, 0, 1, 1], (lp7600 gk76_0))]))) (cl := [(76, (con76 gk76))]) (ll := [(7600, 100, [0, 1, 0, 1, 1], (lp7600 gk76_0))]) (hX B _ _) (hF B _ _) ⟨Hk76, trivial⟩ ⟨⟨fi100, b7600, fi100_eq, b7600_eq, Hk76_0⟩, trivial⟩ rfl rfl 60 (f := 100) (fi := fi100) fi100_eq (p := [0, 1, 0, 1, 1]) b7600_eq (ct := .nil) (L := lp7600 gk76_0) HL (x := ((((), ()), (a0, (a1, (a2, (a3, ()))))), ())) (krw h (by kernel_rfl))
theorem ok_k76 (B : Nat) : FnOKs (X B) Ce 76 (con76 k76) := fun x r hx => (grp_k76 B).1 x.1.1 r hx
theorem ok_k76_0 (B : Nat) : LpOKs (X B) Ce fi100.n b7600 (lp7600 k76_0) := fun x r hx => (grp_k76 B).2 x.1.2.1 x.1.2.2.1 x.1.2.2.2.1 x.1.2.2.2.2.1 r hx
theorem ok_k38 (B : Nat) : FnOKs (X B) Ce 38 (con38 k38) := by
  have h : ∀ a0 r, k38 a0 = some r → FnOK1 (X B) Ce 38 (con38 (fun _ => none)) ((a0, ()), ()) r := fun a0 r h => gfun (C := (mkC (lkCon [(70, (con70 k70)), (71, (con71 k71)), (76, (con76 k76)), (77, (con77 k77))]) (lkLp [(3800, 79, [0, 1, 0, 1], (lp3800 k38_0)), (3801, 132, [0, 1, 0, 1], (lp3801 k38_1)), (3802, 133, [0, 1, 0, 1], (lp3802 k38_2))]))) (cl := [(70, (con70 k70)), (71, (con71 k71)), (76, (con76 k76)), (77, (con77 k77))]) (ll := [(3800, 79, [0, 1, 0, 1], (lp3800 k38_0)), (3801, 132, [0, 1, 0, 1], (lp3801 k38_1)), (3802, 133, [0, 1, 0, 1], (lp3802 k38_2))]) (hX B _ _) (hF B _ _) ⟨ok_k70 B, ok_k71 B, ok_k76 B, ok_k77 B, trivial⟩ ⟨⟨fi79, b3800, fi79_eq, b3800_eq, ok_k38_0 B⟩, ⟨fi132, b3801, fi132_eq, b3801_eq, ok_k38_1 B⟩, ⟨fi133, b3802, fi133_eq, b3802_eq, ok_k38_2 B⟩, trivial⟩ rfl rfl 60 (f := 38) (fi := fi38) fi38_eq (ct := (.seq .nil (.seq .nil (.seq (.region [(6, (.join [] [] [(.ret, ⟨[(4, .bool)], [], []⟩)] (.seq .nil (.seq (.region [(6, (.seq .nil (.seq (.region [(2, (.seq .nil (.seq (.seq .nil (.sub (.loop 3800))) .nil)))]) .nil)))]) .nil)))), (12, (.join [] [] [(.ret, ⟨[(4, .bool)], [], []⟩)] (.seq .nil (.seq (.region [(6, (.seq .nil (.seq (.region [(2, (.seq .nil (.seq (.seq .nil (.sub (.loop 3801))) .nil)))]) .nil)))]) .nil)))), (22, (.join [] [] [(.ret, ⟨[(4, .bool)], [], []⟩)] (.seq .nil (.seq (.region [(6, (.seq .nil (.seq (.region [(2, (.seq .nil (.seq (.seq .nil (.sub (.loop 3800))) .nil)))]) .nil)))]) .nil)))), (34, (.join [] [] [(.ret, ⟨[(4, .bool)], [], []⟩)] (.seq .nil (.seq (.region [(6, (.seq .nil (.seq (.region [(2, (.seq .nil (.seq (.seq .nil (.sub (.loop 3802))) .nil)))]) .nil)))]) .nil))))]) .nil)))) (L := con38 (fun _ => none)) (x := ((a0, ()), ())) (krw h (by kernel_rfl))
  exact fun x r hx => h x.1.1 r hx
theorem grp_k22_0 (B : Nat) : (∀ a0 a1 a2 r, k22_0 a0 a1 a2 = some r → LoopOK1 (X B) Ce fi103.n b2200 (lp2200 (fun _ _ _ => none)) ((a0, (((), ((), ())), (a1, (a2, ())))), (((), ()), ())) r) := by
  refine k22_0.partial_correctness (motive := fun a0 a1 a2 r => LoopOK1 (X B) Ce fi103.n b2200 (lp2200 (fun _ _ _ => none)) ((a0, (((), ((), ())), (a1, (a2, ())))), (((), ()), ())) r) ?_
  · intro gk22_0 mk22_0 a0 a1 a2 r h
    have Hk22_0 : LpOKs (X B) Ce fi103.n b2200 (lp2200 gk22_0) := fun x r hx => mk22_0 x.1.1 x.1.2.2.1 x.1.2.2.2.1 r hx
    have HL := Hk22_0
    exact gloop (C := (mkC (lkCon [(38, (con38 k38))]) (lkLp [(2200, 103, [0, 1, 0, 1], (lp2200 gk22_0))]))) (cl := [(38, (con38 k38))]) (ll := [(2200, 103, [0, 1, 0, 1], (lp2200 gk22_0))]) (hX B _ _) (hF B _ _) ⟨ok_k38 B, trivial⟩ ⟨⟨fi103, b2200, fi103_eq, b2200_eq, Hk22_0⟩, trivial⟩ rfl rfl 60 (f := 103) (fi := fi103) fi103_eq (p := [0, 1, 0, 1]) b2200_eq (ct := .nil) (L := lp2200 gk22_0) HL (x := ((a0, (((), ((), ())), (a1, (a2, ())))), (((), ()), ()))) (krw h (by kernel_rfl))
theorem ok_k22_0 (B : Nat) : LpOKs (X B) Ce fi103.n b2200 (lp2200 k22_0) := fun x r hx => (grp_k22_0 B) x.1.1 x.1.2.2.1 x.1.2.2.2.1 r hx
theorem ok_k127 (B : Nat) : FnOKs (X B) Ce 127 (con127 k127) := by
  have h : ∀ a0 a1 r, k127 a0 a1 = some r → FnOK1 (X B) Ce 127 (con127 (fun _ _ => none)) ((a0, (a1, ())), ()) r := fun a0 a1 r h => gfun (C := (mkC (lkCon [(140, (con140 k140))]) (lkLp []))) (cl := [(140, (con140 k140))]) (ll := []) (hX B _ _) (hF B _ _) ⟨ok_k140 B, trivial⟩ trivial rfl rfl 60 (f := 127) (fi := fi127) fi127_eq (ct := .nil) (L := con127 (fun _ _ => none)) (x := ((a0, (a1, ())), ())) (krw h (by kernel_rfl))
  exact fun x r hx => h x.1.1 x.1.2.1 r hx
theorem grp_k102 (B : Nat) : (∀ a0 r, k102 a0 = some r → FnOK1 (X B) Ce 102 (con102 (fun _ => none)) ((a0, ()), ()) r) ∧ (∀ a0 a1 a2 a3 a4 r, k102_0 a0 a1 a2 a3 a4 = some r → LoopOK1 (X B) Ce fi102.n b10200 (lp10200 (fun _ _ _ _ _ => none)) ((a0, (a1, (a2, (a3, (a4, ()))))), ()) r) := by
  refine k102.mutual_partial_correctness (motive_1 := fun a0 r => FnOK1 (X B) Ce 102 (con102 (fun _ => none)) ((a0, ()), ()) r) (motive_2 := fun a0 a1 a2 a3 a4 r => LoopOK1 (X B) Ce fi102.n b10200 (lp10200 (fun _ _ _ _ _ => none)) ((a0, (a1, (a2, (a3, (a4, ()))))), ()) r) ?_ ?_
  · intro gk102_0 mk102_0 a0 r h
    have Hk102_0 : LpOKs (X B) Ce fi102.n b10200 (lp10200 gk102_0) := fun x r hx => mk102_0 x.1.1 x.1.2.1 x.1.2.2.1 x.1.2.2.2.1 x.1.2.2.2.2.1 r hx
    exact gfun (C := (mkC (lkCon []) (lkLp [(10200, 102, [0, 1, 0, 1, 1, 1], (lp10200 gk102_0))]))) (cl := []) (ll := [(10200, 102, [0, 1, 0, 1, 1, 1], (lp10200 gk102_0))]) (hX B _ _) (hF B _ _) trivial ⟨⟨fi102, b10200, fi102_eq, b10200_eq, Hk102_0⟩, trivial⟩ rfl rfl 60 (f := 102) (fi := fi102) fi102_eq (ct := (.seq .nil (.seq .nil (.seq .nil (.seq (.seq .nil (.sub (.loop 10200))) .nil))))) (L := con102 (fun _ => none)) (x := ((a0, ()), ())) (krw h (by kernel_rfl))
  · intro gk102 gk102_0 mk102 mk102_0 a0 a1 a2 a3 a4 r h
    have Hk102 : FnOKs (X B) Ce 102 (con102 gk102) := fun x r hx => mk102 x.1.1 r hx
    have Hk102_0 : LpOKs (X B) Ce fi102.n b10200 (lp10200 gk102_0) := fun x r hx => mk102_0 x.1.1 x.1.2.1 x.1.2.2.1 x.1.2.2.2.1 x.1.2.2.2.2.1 r hx
    have HL := Hk102_0
    exact gloop (C := (mkC (lkCon [(102, (con102 gk102)), (127, (con127 k127))]) (lkLp [(10200, 102, [0, 1, 0, 1, 1, 1], (lp10200 gk102_0))]))) (cl := [(102, (con102 gk102)), (127, (con127 k127))]) (ll := [(10200, 102, [0, 1, 0, 1, 1, 1], (lp10200 gk102_0))]) (hX B _ _) (hF B _ _) ⟨Hk102, ok_k127 B, trivial⟩ ⟨⟨fi102, b10200, fi102_eq, b10200_eq, Hk102_0⟩, trivial⟩ rfl rfl 60 (f := 102) (fi := fi102) fi102_eq (p := [0, 1, 0, 1, 1, 1]) b10200_eq (ct := (.seq .nil (.seq .nil (.seq (.sub (.seq .nil (.seq .nil (.seq (.join [] [] [(.normal, ⟨[(6, .int .i64)], [], []⟩)] .nil) .nil)))) .nil)))) (L := lp10200 gk102_0) HL (x := ((a0, (a1, (a2, (a3, (a4, ()))))), ())) (krw h (by kernel_rfl))
theorem ok_k102 (B : Nat) : FnOKs (X B) Ce 102 (con102 k102) := fun x r hx => (grp_k102 B).1 x.1.1 r hx
theorem ok_k102_0 (B : Nat) : LpOKs (X B) Ce fi102.n b10200 (lp10200 k102_0) := fun x r hx => (grp_k102 B).2 x.1.1 x.1.2.1 x.1.2.2.1 x.1.2.2.2.1 x.1.2.2.2.2.1 r hx
theorem grp_k99 (B : Nat) : (∀ a0 r, k99 a0 = some r → FnOK1 (X B) Ce 99 (con99 (fun _ => none)) ((a0, ()), ()) r) ∧ (∀ a0 a1 a2 a3 r, k99_0 a0 a1 a2 a3 = some r → LoopOK1 (X B) Ce fi126.n b9900 (lp9900 (fun _ _ _ _ => none)) ((((), ()), (a0, (a1, (a2, (a3, ()))))), ()) r) := by
  refine k99.mutual_partial_correctness (motive_1 := fun a0 r => FnOK1 (X B) Ce 99 (con99 (fun _ => none)) ((a0, ()), ()) r) (motive_2 := fun a0 a1 a2 a3 r => LoopOK1 (X B) Ce fi126.n b9900 (lp9900 (fun _ _ _ _ => none)) ((((), ()), (a0, (a1, (a2, (a3, ()))))), ()) r) ?_ ?_
  · intro gk99_0 mk99_0 a0 r h
    have Hk99_0 : LpOKs (X B) Ce fi126.n b9900 (lp9900 gk99_0) := fun x r hx => mk99_0 x.1.2.1 x.1.2.2.1 x.1.2.2.2.1 x.1.2.2.2.2.1 r hx
    exact gfun (C := (mkC (lkCon []) (lkLp [(9900, 126, [0, 1, 0, 1, 1], (lp9900 gk99_0))]))) (cl := []) (ll := [(9900, 126, [0, 1, 0, 1, 1], (lp9900 gk99_0))]) (hX B _ _) (hF B _ _) trivial ⟨⟨fi126, b9900, fi126_eq, b9900_eq, Hk99_0⟩, trivial⟩ rfl rfl 60 (f := 99) (fi := fi99) fi99_eq (ct := (.seq .nil (.seq .nil (.seq (.region [(2, (.seq .nil (.seq .nil (.seq (.seq .nil (.sub (.loop 9900))) .nil))))]) .nil)))) (L := con99 (fun _ => none)) (x := ((a0, ()), ())) (krw h (by kernel_rfl))
  · intro gk99 gk99_0 mk99 mk99_0 a0 a1 a2 a3 r h
    have Hk99 : FnOKs (X B) Ce 99 (con99 gk99) := fun x r hx => mk99 x.1.1 r hx
    have Hk99_0 : LpOKs (X B) Ce fi126.n b9900 (lp9900 gk99_0) := fun x r hx => mk99_0 x.1.2.1 x.1.2.2.1 x.1.2.2.2.1 x.1.2.2.2.2.1 r hx
    have HL := Hk99_0
    exact gloop (C := (mkC (lkCon [(99, (con99 gk99))]) (lkLp [(9900, 126, [0, 1, 0, 1, 1], (lp9900 gk99_0))]))) (cl := [(99, (con99 gk99))]) (ll := [(9900, 126, [0, 1, 0, 1, 1], (lp9900 gk99_0))]) (hX B _ _) (hF B _ _) ⟨Hk99, trivial⟩ ⟨⟨fi126, b9900, fi126_eq, b9900_eq, Hk99_0⟩, trivial⟩ rfl rfl 60 (f := 126) (fi := fi126) fi126_eq (p := [0, 1, 0, 1, 1]) b9900_eq (ct := .nil) (L := lp9900 gk99_0) HL (x := ((((), ()), (a0, (a1, (a2, (a3, ()))))), ())) (krw h (by kernel_rfl))
theorem ok_k99 (B : Nat) : FnOKs (X B) Ce 99 (con99 k99) := fun x r hx => (grp_k99 B).1 x.1.1 r hx
theorem ok_k99_0 (B : Nat) : LpOKs (X B) Ce fi126.n b9900 (lp9900 k99_0) := fun x r hx => (grp_k99 B).2 x.1.2.1 x.1.2.2.1 x.1.2.2.2.1 x.1.2.2.2.2.1 r hx
theorem grp_k66_0 (B : Nat) : (∀ a0 a1 a2 a3 r, k66_0 a0 a1 a2 a3 = some r → LoopOK1 (X B) Ce fi97.n b6600 (lp6600 (fun _ _ _ _ => none)) ((((), ()), (a0, (a1, (a2, (a3, ()))))), ()) r) := by
  refine k66_0.partial_correctness (motive := fun a0 a1 a2 a3 r => LoopOK1 (X B) Ce fi97.n b6600 (lp6600 (fun _ _ _ _ => none)) ((((), ()), (a0, (a1, (a2, (a3, ()))))), ()) r) ?_
  · intro gk66_0 mk66_0 a0 a1 a2 a3 r h
    have Hk66_0 : LpOKs (X B) Ce fi97.n b6600 (lp6600 gk66_0) := fun x r hx => mk66_0 x.1.2.1 x.1.2.2.1 x.1.2.2.2.1 x.1.2.2.2.2.1 r hx
    have HL := Hk66_0
    exact gloop (C := (mkC (lkCon [(99, (con99 k99))]) (lkLp [(6600, 97, [0, 1, 0, 1, 1], (lp6600 gk66_0))]))) (cl := [(99, (con99 k99))]) (ll := [(6600, 97, [0, 1, 0, 1, 1], (lp6600 gk66_0))]) (hX B _ _) (hF B _ _) ⟨ok_k99 B, trivial⟩ ⟨⟨fi97, b6600, fi97_eq, b6600_eq, Hk66_0⟩, trivial⟩ rfl rfl 60 (f := 97) (fi := fi97) fi97_eq (p := [0, 1, 0, 1, 1]) b6600_eq (ct := .nil) (L := lp6600 gk66_0) HL (x := ((((), ()), (a0, (a1, (a2, (a3, ()))))), ())) (krw h (by kernel_rfl))
theorem ok_k66_0 (B : Nat) : LpOKs (X B) Ce fi97.n b6600 (lp6600 k66_0) := fun x r hx => (grp_k66_0 B) x.1.2.1 x.1.2.2.1 x.1.2.2.2.1 x.1.2.2.2.2.1 r hx
theorem grp_k101 (B : Nat) : (∀ a0 r, k101 a0 = some r → FnOK1 (X B) Ce 101 (con101 (fun _ => none)) ((a0, ()), ()) r) ∧ (∀ a0 a1 a2 a3 r, k101_0 a0 a1 a2 a3 = some r → LoopOK1 (X B) Ce fi100.n b10100 (lp10100 (fun _ _ _ _ => none)) ((((), ()), (a0, (a1, (a2, (a3, ()))))), ()) r) := by
  refine k101.mutual_partial_correctness (motive_1 := fun a0 r => FnOK1 (X B) Ce 101 (con101 (fun _ => none)) ((a0, ()), ()) r) (motive_2 := fun a0 a1 a2 a3 r => LoopOK1 (X B) Ce fi100.n b10100 (lp10100 (fun _ _ _ _ => none)) ((((), ()), (a0, (a1, (a2, (a3, ()))))), ()) r) ?_ ?_
  · intro gk101_0 mk101_0 a0 r h
    have Hk101_0 : LpOKs (X B) Ce fi100.n b10100 (lp10100 gk101_0) := fun x r hx => mk101_0 x.1.2.1 x.1.2.2.1 x.1.2.2.2.1 x.1.2.2.2.2.1 r hx
    exact gfun (C := (mkC (lkCon [(102, (con102 k102))]) (lkLp [(10100, 100, [0, 1, 0, 1, 1], (lp10100 gk101_0))]))) (cl := [(102, (con102 k102))]) (ll := [(10100, 100, [0, 1, 0, 1, 1], (lp10100 gk101_0))]) (hX B _ _) (hF B _ _) ⟨ok_k102 B, trivial⟩ ⟨⟨fi100, b10100, fi100_eq, b10100_eq, Hk101_0⟩, trivial⟩ rfl rfl 60 (f := 101) (fi := fi101) fi101_eq (ct := (.seq .nil (.seq .nil (.seq (.region [(3, (.seq .nil (.seq .nil (.seq (.seq .nil (.sub (.loop 10100))) .nil)))), (6, (.seq .nil (.seq .nil (.seq (.seq .nil (.sub (.loop 10100))) .nil))))]) .nil)))) (L := con101 (fun _ => none)) (x := ((a0, ()), ())) (krw h (by kernel_rfl))
  · intro gk101 gk101_0 mk101 mk101_0 a0 a1 a2 a3 r h
    have Hk101 : FnOKs (X B) Ce 101 (con101 gk101) := fun x r hx => mk101 x.1.1 r hx
    have Hk101_0 : LpOKs (X B) Ce fi100.n b10100 (lp10100 gk101_0) := fun x r hx => mk101_0 x.1.2.1 x.1.2.2.1 x.1.2.2.2.1 x.1.2.2.2.2.1 r hx
    have HL := Hk101_0
    exact gloop (C := (mkC (lkCon [(101, (con101 gk101))]) (lkLp [(10100, 100, [0, 1, 0, 1, 1], (lp10100 gk101_0))]))) (cl := [(101, (con101 gk101))]) (ll := [(10100, 100, [0, 1, 0, 1, 1], (lp10100 gk101_0))]) (hX B _ _) (hF B _ _) ⟨Hk101, trivial⟩ ⟨⟨fi100, b10100, fi100_eq, b10100_eq, Hk101_0⟩, trivial⟩ rfl rfl 60 (f := 100) (fi := fi100) fi100_eq (p := [0, 1, 0, 1, 1]) b10100_eq (ct := .nil) (L := lp10100 gk101_0) HL (x := ((((), ()), (a0, (a1, (a2, (a3, ()))))), ())) (krw h (by kernel_rfl))
theorem ok_k101 (B : Nat) : FnOKs (X B) Ce 101 (con101 k101) := fun x r hx => (grp_k101 B).1 x.1.1 r hx
theorem ok_k101_0 (B : Nat) : LpOKs (X B) Ce fi100.n b10100 (lp10100 k101_0) := fun x r hx => (grp_k101 B).2 x.1.2.1 x.1.2.2.1 x.1.2.2.2.1 x.1.2.2.2.2.1 r hx
theorem grp_k66_1 (B : Nat) : (∀ a0 a1 a2 a3 r, k66_1 a0 a1 a2 a3 = some r → LoopOK1 (X B) Ce fi100.n b6601 (lp6601 (fun _ _ _ _ => none)) ((((), ()), (a0, (a1, (a2, (a3, ()))))), ()) r) := by
  refine k66_1.partial_correctness (motive := fun a0 a1 a2 a3 r => LoopOK1 (X B) Ce fi100.n b6601 (lp6601 (fun _ _ _ _ => none)) ((((), ()), (a0, (a1, (a2, (a3, ()))))), ()) r) ?_
  · intro gk66_1 mk66_1 a0 a1 a2 a3 r h
    have Hk66_1 : LpOKs (X B) Ce fi100.n b6601 (lp6601 gk66_1) := fun x r hx => mk66_1 x.1.2.1 x.1.2.2.1 x.1.2.2.2.1 x.1.2.2.2.2.1 r hx
    have HL := Hk66_1
    exact gloop (C := (mkC (lkCon [(101, (con101 k101))]) (lkLp [(6601, 100, [0, 1, 0, 1, 1], (lp6601 gk66_1))]))) (cl := [(101, (con101 k101))]) (ll := [(6601, 100, [0, 1, 0, 1, 1], (lp6601 gk66_1))]) (hX B _ _) (hF B _ _) ⟨ok_k101 B, trivial⟩ ⟨⟨fi100, b6601, fi100_eq, b6601_eq, Hk66_1⟩, trivial⟩ rfl rfl 60 (f := 100) (fi := fi100) fi100_eq (p := [0, 1, 0, 1, 1]) b6601_eq (ct := .nil) (L := lp6601 gk66_1) HL (x := ((((), ()), (a0, (a1, (a2, (a3, ()))))), ())) (krw h (by kernel_rfl))
theorem ok_k66_1 (B : Nat) : LpOKs (X B) Ce fi100.n b6601 (lp6601 k66_1) := fun x r hx => (grp_k66_1 B) x.1.2.1 x.1.2.2.1 x.1.2.2.2.1 x.1.2.2.2.2.1 r hx
theorem ok_k66 (B : Nat) : FnOKs (X B) Ce 66 (con66 k66) := by
  have h : ∀ a0 r, k66 a0 = some r → FnOK1 (X B) Ce 66 (con66 (fun _ => none)) ((a0, ()), ()) r := fun a0 r h => gfun (C := (mkC (lkCon [(99, (con99 k99)), (102, (con102 k102))]) (lkLp [(6600, 97, [0, 1, 0, 1, 1], (lp6600 k66_0)), (6601, 100, [0, 1, 0, 1, 1], (lp6601 k66_1))]))) (cl := [(99, (con99 k99)), (102, (con102 k102))]) (ll := [(6600, 97, [0, 1, 0, 1, 1], (lp6600 k66_0)), (6601, 100, [0, 1, 0, 1, 1], (lp6601 k66_1))]) (hX B _ _) (hF B _ _) ⟨ok_k99 B, ok_k102 B, trivial⟩ ⟨⟨fi97, b6600, fi97_eq, b6600_eq, ok_k66_0 B⟩, ⟨fi100, b6601, fi100_eq, b6601_eq, ok_k66_1 B⟩, trivial⟩ rfl rfl 60 (f := 66) (fi := fi66) fi66_eq (ct := (.seq .nil (.seq (.region [(2, (.seq .nil (.seq .nil (.seq (.seq .nil (.sub (.loop 6600))) .nil))))]) (.seq (.region [(6, (.seq .nil (.seq .nil (.seq (.seq .nil (.sub (.loop 6601))) .nil))))]) .nil)))) (L := con66 (fun _ => none)) (x := ((a0, ()), ())) (krw h (by kernel_rfl))
  exact fun x r hx => h x.1.1 r hx
theorem grp_k36_0 (B : Nat) : (∀ a0 a1 a2 a3 r, k36_0 a0 a1 a2 a3 = some r → LoopOK1 (X B) Ce fi65.n b3600 (lp3600 (fun _ _ _ _ => none)) ((((), ()), (a0, (a1, (a2, (a3, ()))))), ()) r) := by
  refine k36_0.partial_correctness (motive := fun a0 a1 a2 a3 r => LoopOK1 (X B) Ce fi65.n b3600 (lp3600 (fun _ _ _ _ => none)) ((((), ()), (a0, (a1, (a2, (a3, ()))))), ()) r) ?_
  · intro gk36_0 mk36_0 a0 a1 a2 a3 r h
    have Hk36_0 : LpOKs (X B) Ce fi65.n b3600 (lp3600 gk36_0) := fun x r hx => mk36_0 x.1.2.1 x.1.2.2.1 x.1.2.2.2.1 x.1.2.2.2.2.1 r hx
    have HL := Hk36_0
    exact gloop (C := (mkC (lkCon [(66, (con66 k66))]) (lkLp [(3600, 65, [0, 1, 0, 1, 1], (lp3600 gk36_0))]))) (cl := [(66, (con66 k66))]) (ll := [(3600, 65, [0, 1, 0, 1, 1], (lp3600 gk36_0))]) (hX B _ _) (hF B _ _) ⟨ok_k66 B, trivial⟩ ⟨⟨fi65, b3600, fi65_eq, b3600_eq, Hk36_0⟩, trivial⟩ rfl rfl 60 (f := 65) (fi := fi65) fi65_eq (p := [0, 1, 0, 1, 1]) b3600_eq (ct := .nil) (L := lp3600 gk36_0) HL (x := ((((), ()), (a0, (a1, (a2, (a3, ()))))), ())) (krw h (by kernel_rfl))
theorem ok_k36_0 (B : Nat) : LpOKs (X B) Ce fi65.n b3600 (lp3600 k36_0) := fun x r hx => (grp_k36_0 B) x.1.2.1 x.1.2.2.1 x.1.2.2.2.1 x.1.2.2.2.2.1 r hx
theorem ok_k36 (B : Nat) : FnOKs (X B) Ce 36 (con36 k36) := by
  have h : ∀ a0 r, k36 a0 = some r → FnOK1 (X B) Ce 36 (con36 (fun _ => none)) ((a0, ()), ()) r := fun a0 r h => gfun (C := (mkC (lkCon []) (lkLp [(3600, 65, [0, 1, 0, 1, 1], (lp3600 k36_0))]))) (cl := []) (ll := [(3600, 65, [0, 1, 0, 1, 1], (lp3600 k36_0))]) (hX B _ _) (hF B _ _) trivial ⟨⟨fi65, b3600, fi65_eq, b3600_eq, ok_k36_0 B⟩, trivial⟩ rfl rfl 60 (f := 36) (fi := fi36) fi36_eq (ct := (.seq .nil (.seq (.region [(1, (.seq .nil (.seq .nil (.seq (.seq .nil (.sub (.loop 3600))) .nil))))]) .nil))) (L := con36 (fun _ => none)) (x := ((a0, ()), ())) (krw h (by kernel_rfl))
  exact fun x r hx => h x.1.1 r hx
theorem ok_k22 (B : Nat) : FnOKs (X B) Ce 22 (con22 k22) := by
  have h : ∀ a0 r, k22 a0 = some r → FnOK1 (X B) Ce 22 (con22 (fun _ => none)) ((a0, ()), ()) r := fun a0 r h => gfun (C := (mkC (lkCon [(36, (con36 k36))]) (lkLp [(2200, 103, [0, 1, 0, 1], (lp2200 k22_0))]))) (cl := [(36, (con36 k36))]) (ll := [(2200, 103, [0, 1, 0, 1], (lp2200 k22_0))]) (hX B _ _) (hF B _ _) ⟨ok_k36 B, trivial⟩ ⟨⟨fi103, b2200, fi103_eq, b2200_eq, ok_k22_0 B⟩, trivial⟩ rfl rfl 60 (f := 22) (fi := fi22) fi22_eq (ct := (.seq .nil (.seq (.region [(5, (.seq .nil (.seq (.region [(6, (.seq .nil (.seq (.region [(2, (.seq .nil (.seq (.seq .nil (.sub (.loop 2200))) .nil)))]) .nil)))]) .nil)))]) .nil))) (L := con22 (fun _ => none)) (x := ((a0, ()), ())) (krw h (by kernel_rfl))
  exact fun x r hx => h x.1.1 r hx
theorem ok_k10 (B : Nat) : FnOKs (X B) Ce 10 (con10 k10) := by
  have h : ∀ a0 r, k10 a0 = some r → FnOK1 (X B) Ce 10 (con10 (fun _ => none)) ((a0, ()), ()) r := fun a0 r h => gfun (C := (mkC (lkCon [(22, (con22 k22))]) (lkLp [(1000, 10, [0, 1, 0, 1, 1, 1], (lp1000 k10_0))]))) (cl := [(22, (con22 k22))]) (ll := [(1000, 10, [0, 1, 0, 1, 1, 1], (lp1000 k10_0))]) (hX B _ _) (hF B _ _) ⟨ok_k22 B, trivial⟩ ⟨⟨fi10, b1000, fi10_eq, b1000_eq, ok_k10_0 B⟩, trivial⟩ rfl rfl 60 (f := 10) (fi := fi10) fi10_eq (ct := (.seq .nil (.seq .nil (.seq .nil (.seq (.seq .nil (.sub (.loop 1000))) (.seq (.seq (.join [] [] [(.normal, ⟨[(49, .bool)], [], []⟩)] .nil) .nil) .nil)))))) (L := con10 (fun _ => none)) (x := ((a0, ()), ())) (krw h (by kernel_rfl))
  exact fun x r hx => h x.1.1 r hx
theorem grp_k162_1 (B : Nat) : (∀ a0 a1 a2 a3 a4 r, k162_1 a0 a1 a2 a3 a4 = some r → LoopOK1 (X B) Ce fi162.n b16201 (lp16201 (fun _ _ _ _ _ => none)) ((a0, (a1, (a2, (a3, (a4, ()))))), ()) r) := by
  refine k162_1.partial_correctness (motive := fun a0 a1 a2 a3 a4 r => LoopOK1 (X B) Ce fi162.n b16201 (lp16201 (fun _ _ _ _ _ => none)) ((a0, (a1, (a2, (a3, (a4, ()))))), ()) r) ?_
  · intro gk162_1 mk162_1 a0 a1 a2 a3 a4 r h
    have Hk162_1 : LpOKs (X B) Ce fi162.n b16201 (lp16201 gk162_1) := fun x r hx => mk162_1 x.1.1 x.1.2.1 x.1.2.2.1 x.1.2.2.2.1 x.1.2.2.2.2.1 r hx
    have HL := Hk162_1
    exact gloop (C := (mkC (lkCon []) (lkLp [(16201, 162, [0, 1, 0, 1, 0, 0, 1, 0, 0, 0, 1, 1, 1, 1, 0, 1, 1, 1, 1, 1, 1, 0, 1], (lp16201 gk162_1))]))) (cl := []) (ll := [(16201, 162, [0, 1, 0, 1, 0, 0, 1, 0, 0, 0, 1, 1, 1, 1, 0, 1, 1, 1, 1, 1, 1, 0, 1], (lp16201 gk162_1))]) (hX B _ _) (hF B _ _) trivial ⟨⟨fi162, b16201, fi162_eq, b16201_eq, Hk162_1⟩, trivial⟩ rfl rfl 60 (f := 162) (fi := fi162) fi162_eq (p := [0, 1, 0, 1, 0, 0, 1, 0, 0, 0, 1, 1, 1, 1, 0, 1, 1, 1, 1, 1, 1, 0, 1]) b16201_eq (ct := .nil) (L := lp16201 gk162_1) HL (x := ((a0, (a1, (a2, (a3, (a4, ()))))), ())) (krw h (by kernel_rfl))
theorem ok_k162_1 (B : Nat) : LpOKs (X B) Ce fi162.n b16201 (lp16201 k162_1) := fun x r hx => (grp_k162_1 B) x.1.1 x.1.2.1 x.1.2.2.1 x.1.2.2.2.1 x.1.2.2.2.2.1 r hx
theorem ok_k162_2 (B : Nat) : LpOKs (X B) Ce fi162.n b16202 (lp16202 k162_2) := by
  have HL : LpOKs (X B) Ce fi162.n b16202 (lp16202 (fun _ _ _ _ => none)) := fun x r hx => by cases hx
  have h : ∀ a0 a1 a2 a3 r, k162_2 a0 a1 a2 a3 = some r → LoopOK1 (X B) Ce fi162.n b16202 (lp16202 (fun _ _ _ _ => none)) ((a0, (a1, (a2, (a3, ())))), ()) r := fun a0 a1 a2 a3 r h => gloop (C := (mkC (lkCon [(166, indexByteCon)]) (lkLp [(16201, 162, [0, 1, 0, 1, 0, 0, 1, 0, 0, 0, 1, 1, 1, 1, 0, 1, 1, 1, 1, 1, 1, 0, 1], (lp16201 k162_1))]))) (cl := [(166, indexByteCon)]) (ll := [(16201, 162, [0, 1, 0, 1, 0, 0, 1, 0, 0, 0, 1, 1, 1, 1, 0, 1, 1, 1, 1, 1, 1, 0, 1], (lp16201 k162_1))]) (hX B _ _) (hF B _ _) ⟨indexByte_ok B _ _, trivial⟩ ⟨⟨fi162, b16201, fi162_eq, b16201_eq, ok_k162_1 B⟩, trivial⟩ rfl rfl 60 (f := 162) (fi := fi162) fi162_eq (p := [0, 0, 1, 1, 1, 1, 0, 1, 1, 1, 1, 1, 1, 0, 1]) b16202_eq (ct := (.seq .nil (.sub (.sub (.seq (.join [] [] [(.normal, ⟨[(9, .int .i64)], [], []⟩), (.ret, ⟨[(4, .int .i64)], [], []⟩)] .nil) (.seq (.seq .nil (.sub (.loop 16201))) .nil)))))) (L := lp16202 (fun _ _ _ _ => none)) HL (x := ((a0, (a1, (a2, (a3, ())))), ())) (krw h (by kernel_rfl))
  exact fun x r hx => h x.1.1 x.1.2.1 x.1.2.2.1 x.1.2.2.2.1 r hx
end Go.Lb.R
end
section
set_option maxRecDepth 1000000
set_option maxHeartbeats 0
namespace Go.Lb.R
open Go.Lb
open Go.Proofs
def con3 (k : (List GF) → Option ((Bool × Unit) × Unit)) : Con := ⟨⟨[(0, .sl .fn)], [], []⟩, [(.ret, ⟨[(1000, .bool)], [], []⟩)], fun x => k x.1.1⟩
def con4 (k : GT → Option ((Bool × Unit) × Unit)) : Con := ⟨⟨[(0, .n .ty)], [], []⟩, [(.ret, ⟨[(1000, .bool)], [], []⟩)], fun x => k x.1.1⟩
def con5 (k : (List GF) → Int → Option ((Bool × Unit) × Unit)) : Con := ⟨⟨[(0, .sl .fn), (1, .int .u16)], [], []⟩, [(.ret, ⟨[(1000, .bool)], [], []⟩)], fun x => k x.1.1 x.1.2.1⟩
def lp500 (k : (List GF) → Str → Option ((Str × Unit) × Unit)) : Con := ⟨⟨[(0, .sl .fn), (5, .str)], [], []⟩, [(.exit 0, ⟨[(5, .str)], [], []⟩)], fun x => k x.1.1 x.1.2.1⟩
def con9 (k : GErr → Int → Int → Option ((Bool × Unit) × Unit)) : Con := ⟨⟨[(0, .err), (1, .int .i64), (2, .int .i64)], [], []⟩, [(.ret, ⟨[(1000, .bool)], [], []⟩)], fun x => k x.1.1 x.1.2.1 x.1.2.2.1⟩
noncomputable def fi3 : FI := (lkF XFl 3).getD ⟨0, [], .skip, ⟨[], [], []⟩⟩
theorem fi3_eq : lkF XFl 3 = some fi3 := by kernel_rfl
noncomputable def fi4 : FI := (lkF XFl 4).getD ⟨0, [], .skip, ⟨[], [], []⟩⟩
theorem fi4_eq : lkF XFl 4 = some fi4 := by kernel_rfl
noncomputable def fi5 : FI := (lkF XFl 5).getD ⟨0, [], .skip, ⟨[], [], []⟩⟩
theorem fi5_eq : lkF XFl 5 = some fi5 := by kernel_rfl
noncomputable def fi9 : FI := (lkF XFl 9).getD ⟨0, [], .skip, ⟨[], [], []⟩⟩
theorem fi9_eq : lkF XFl 9 = some fi9 := by kernel_rfl
noncomputable def b500 : Code := match cAt fi5.body [0, 0, 1, 1, 1, 1] with | .loop b => b | _ => .skip
theorem b500_eq : cAt fi5.body [0, 0, 1, 1, 1, 1] = .loop b500 := by kernel_rfl
theorem ok_k9 (B : Nat) : FnOKs (X B) Ce 9 (con9 k9) := by
  have h : ∀ a0 a1 a2 r, k9 a0 a1 a2 = some r → FnOK1 (X B) Ce 9 (con9 (fun _ _ _ => none)) ((a0, (a1, (a2, ()))), ()) r := fun a0 a1 a2 r h => gfun (C := (mkC (lkCon [(20, codeCon), (21, faultCon)]) (lkLp []))) (cl := [(20, codeCon), (21, faultCon)]) (ll := []) (hX B _ _) (hF B _ _) ⟨code_ok B _ _, fault_ok B _ _, trivial⟩ trivial rfl rfl 60 (f := 9) (fi := fi9) fi9_eq (ct := .nil) (L := con9 (fun _ _ _ => none)) (x := ((a0, (a1, (a2, ()))), ())) (krw h (by kernel_rfl))
  exact fun x r hx => h x.1.1 x.1.2.1 x.1.2.2.1 r hx
theorem ok_k3 (B : Nat) : FnOKs (X B) Ce 3 (con3 k3) := by
  have h : ∀ a0 r, k3 a0 = some r → FnOK1 (X B) Ce 3 (con3 (fun _ => none)) ((a0, ()), ()) r := fun a0 r h => gfun (C := (mkC (lkCon [(6, awakeCon), (7, (con7 k7)), (8, (con8 k8)), (9, (con9 k9)), (10, (con10 k10))]) (lkLp []))) (cl := [(6, awakeCon), (7, (con7 k7)), (8, (con8 k8)), (9, (con9 k9)), (10, (con10 k10))]) (ll := []) (hX B _ _) (hF B _ _) ⟨awake_ok B _ _, ok_k7 B, ok_k8 B, ok_k9 B, ok_k10 B, trivial⟩ trivial rfl rfl 60 (f := 3) (fi := fi3) fi3_eq (ct := .nil) (L := con3 (fun _ => none)) (x := ((a0, ()), ())) (krw h (by kernel_rfl))
  exact fun x r hx => h x.1.1 r hx
theorem ok_k4 (B : Nat) : FnOKs (X B) Ce 4 (con4 k4) := by
  have h : ∀ a0 r, k4 a0 = some r → FnOK1 (X B) Ce 4 (con4 (fun _ => none)) ((a0, ()), ()) r := fun a0 r h => gfun (C := (mkC (lkCon [(6, awakeCon), (7, (con7 k7)), (11, (con11 k11)), (12, (con12 k12))]) (lkLp []))) (cl := [(6, awakeCon), (7, (con7 k7)), (11, (con11 k11)), (12, (con12 k12))]) (ll := []) (hX B _ _) (hF B _ _) ⟨awake_ok B _ _, ok_k7 B, ok_k11 B, ok_k12 B, trivial⟩ trivial rfl rfl 60 (f := 4) (fi := fi4) fi4_eq (ct := .nil) (L := con4 (fun _ => none)) (x := ((a0, ()), ())) (krw h (by kernel_rfl))
  exact fun x r hx => h x.1.1 r hx
theorem grp_k5_0 (B : Nat) : (∀ a0 a1 r, k5_0 a0 a1 = some r → LoopOK1 (X B) Ce fi5.n b500 (lp500 (fun _ _ => none)) ((a0, (a1, ())), ()) r) := by
  refine k5_0.partial_correctness (motive := fun a0 a1 r => LoopOK1 (X B) Ce fi5.n b500 (lp500 (fun _ _ => none)) ((a0, (a1, ())), ()) r) ?_
  · intro gk5_0 mk5_0 a0 a1 r h
    have Hk5_0 : LpOKs (X B) Ce fi5.n b500 (lp500 gk5_0) := fun x r hx => mk5_0 x.1.1 x.1.2.1 r hx
    have HL := Hk5_0
    exact gloop (C := (mkC (lkCon [(13, (con13 k13))]) (lkLp [(500, 5, [0, 0, 1, 1, 1, 1], (lp500 gk5_0))]))) (cl := [(13, (con13 k13))]) (ll := [(500, 5, [0, 0, 1, 1, 1, 1], (lp500 gk5_0))]) (hX B _ _) (hF B _ _) ⟨ok_k13 B, trivial⟩ ⟨⟨fi5, b500, fi5_eq, b500_eq, Hk5_0⟩, trivial⟩ rfl rfl 60 (f := 5) (fi := fi5) fi5_eq (p := [0, 0, 1, 1, 1, 1]) b500_eq (ct := .nil) (L := lp500 gk5_0) HL (x := ((a0, (a1, ())), ())) (krw h (by kernel_rfl))
theorem ok_k5_0 (B : Nat) : LpOKs (X B) Ce fi5.n b500 (lp500 k5_0) := fun x r hx => (grp_k5_0 B) x.1.1 x.1.2.1 r hx
theorem ok_k5 (B : Nat) : FnOKs (X B) Ce 5 (con5 k5) := by
  have h : ∀ a0 a1 r, k5 a0 a1 = some r → FnOK1 (X B) Ce 5 (con5 (fun _ _ => none)) ((a0, (a1, ())), ()) r := fun a0 a1 r h => gfun (C := (mkC (lkCon [(6, awakeCon), (7, (con7 k7)), (10, (con10 k10))]) (lkLp [(500, 5, [0, 0, 1, 1, 1, 1], (lp500 k5_0))]))) (cl := [(6, awakeCon), (7, (con7 k7)), (10, (con10 k10))]) (ll := [(500, 5, [0, 0, 1, 1, 1, 1], (lp500 k5_0))]) (hX B _ _) (hF B _ _) ⟨awake_ok B _ _, ok_k7 B, ok_k10 B, trivial⟩ ⟨⟨fi5, b500, fi5_eq, b500_eq, ok_k5_0 B⟩, trivial⟩ rfl rfl 60 (f := 5) (fi := fi5) fi5_eq (ct := (.seq .nil (.seq .nil (.seq (.seq (.join [] [] [(.normal, ⟨[(21, .bool)], [], []⟩)] .nil) .nil) (.seq .nil (.seq (.sub (.loop 500)) .nil)))))) (L := con5 (fun _ _ => none)) (x := ((a0, (a1, ())), ())) (krw h (by kernel_rfl))
  exact fun x r hx => h x.1.1 x.1.2.1 r hx
end Go.Lb.R
end
section
set_option maxRecDepth 1000000
namespace Go.Proofs.YtdnndjdlfpkjlaaGreatDoor
open Go.ChangeShapes Go.WideShapes Go.RowKit Go.Lb Go.Lb.R
abbrev laidL : List (String × DataW Unit) := [("errors.errorType", Rows.laid_errors_errorType), ("unicode.White_Space", Rows.laid_unicode_White_Space), ("strings.asciiSpace", Rows.laid_strings_asciiSpace)]
theorem own : ownKnob Tryz.prog.godebug = none := by kernel_rfl
theorem et : Tryz.prog.globalNamed "errors.errorType" = some 0 := by kernel_rfl
theorem rt : (Tryz.prog.cutTypes.find? (·.1 == "internal/reflectlite.rtype")).map (·.2) = some 129 := by kernel_rfl
theorem oneRow : ((List.range 227).filter fun t => Tryz.prog.rowNamed t [101, 114, 114, 111, 114]) = [29] := by kernel_rfl
theorem size : Tryz.prog.types.size = 227 := by kernel_rfl
theorem handle_of_laid {W : World} (h : laidMetH Tryz.prog laidL W) : W.var? Tryz.prog "errors.errorType" = some #[.iface 129 (.agg #[.pointer (some ⟨5, 29, none⟩)])] := by
  have h' : laidMet Tryz.prog [("unicode.White_Space", Rows.laid_unicode_White_Space), ("strings.asciiSpace", Rows.laid_strings_asciiSpace)] W ∧ handlesMet Tryz.prog [("errors.errorType", Rows.laid_errors_errorType)] W := h
  obtain ⟨name, u, ty, e1, e2, e3, e4, e5⟩ := h'.2 _ (List.mem_singleton.2 rfl)
  have en : name = [101, 114, 114, 111, 114] := (Option.some.inj e1).symm
  subst en
  obtain rfl := Option.some.inj (rt.symm.trans e2)
  have hm : ty ∈ (List.range 227).filter fun t => Tryz.prog.rowNamed t [101, 114, 114, 111, 114] := List.mem_filter.2 ⟨List.mem_range.2 (by rw [← size]; exact e3), e4⟩
  rw [oneRow] at hm
  obtain rfl := List.mem_singleton.1 hm
  have hh : typeHandle Tryz.prog 29 = .pointer (some ⟨5, 29, none⟩) := by kernel_rfl
  rw [hh] at e5
  exact e5
theorem space_of_laid {W : World} (h : laidMetH Tryz.prog laidL W) : Lib.TabIs Tryz.prog W "strings.asciiSpace" .u8 Lib.asciiSpaceTab := by
  have h' : laidMet Tryz.prog [("unicode.White_Space", Rows.laid_unicode_White_Space), ("strings.asciiSpace", Rows.laid_strings_asciiSpace)] W ∧ handlesMet Tryz.prog [("errors.errorType", Rows.laid_errors_errorType)] W := h
  have h2 : laidMet Tryz.prog (("strings.asciiSpace", Lib.tabData .u8 Lib.asciiSpaceTab) :: []) W := laidMet.filter (fun x => x.1 == "strings.asciiSpace") h'.1
  exact Lib.tabIs_of_head (g := 1) (t := 171) (e := 5) (n := 256) (by kernel_rfl) (by kernel_rfl) (by kernel_rfl) (by kernel_rfl) (by kernel_rfl) (by kernel_rfl) h2
noncomputable def laidWorld (os : Os) : World :=
  let w0 := World.holding Tryz.prog os ⟨#[], #[], []⟩
  let w1 := { w0 with heap := w0.heap.modify 0 fun
      | .cells _ t frozen => .cells #[.iface 129 (.agg #[.pointer (some ⟨5, 29, none⟩)])] t frozen
      | o => o }
  w1.layVars Tryz.prog [("unicode.White_Space", Rows.laid_unicode_White_Space), ("strings.asciiSpace", Rows.laid_strings_asciiSpace)]
theorem laidWorld_met (os : Os) (args : Array Value) : laidMetH Tryz.prog laidL ((laidWorld os).forCall (fun _ _ => 0) ⟨#[], args, []⟩).memory :=
  laidMetH_of_parts (laidMet_of_run' (l := [("unicode.White_Space", Rows.laid_unicode_White_Space), ("strings.asciiSpace", Rows.laid_strings_asciiSpace)]) 60 (by kernel_rfl) (by kernel_rfl)) (by kernel_rfl)
end Go.Proofs.YtdnndjdlfpkjlaaGreatDoor
end
section
set_option maxRecDepth 1000000
namespace Go.Proofs.YtdnndjdlfpkjlaaGreatDoor
open Go.ChangeShapes Go.WideShapes Go.RowKit Go.Lb Go.Lb.R
theorem grel_of_laid {W : World} (h : laidMetH Tryz.prog laidL W) : GRel W.heap.size (fzW W) W G0 := by
  intro g
  have h1 := handle_of_laid h
  have h2 : W.var? Tryz.prog "strings.asciiSpace" = some (Lib.asciiSpaceTab.map fun z => Value.int .u8 z).toArray := space_of_laid h
  have e2 : Tryz.prog.globalNamed "strings.asciiSpace" = some 1 := by kernel_rfl
  unfold World.var? at h1 h2
  rw [et] at h1
  rw [e2] at h2
  simp only [Option.bind_some] at h1 h2
  by_cases g1 : g = 1
  · subst g1
    show GRel1 W.heap.size (fzW W) W 1 (.agg (Lib.asciiSpaceTab.map (AV.int .u8)))
    split at h2
    · rename_i cs E fr hh
      injection h2 with h2
      subst h2
      refine ⟨(Array.getElem?_eq_some_iff.1 hh).1, _, _, _, hh, ?_⟩
      have : ∀ zs : List Int, RelL (fzW W) W (zs.map (AV.int .u8)) (zs.map fun z => Value.int .u8 z) := by
        intro zs
        induction zs with
        | nil => simp [RelL]
        | cons z zs ih =>
          simp only [List.map_cons, RelL]
          exact ⟨_, _, rfl, by simp only [Rel], ih⟩
      simpa using this Lib.asciiSpaceTab
    · cases h2
  · by_cases g0 : g = 0
    · subst g0
      show GRel1 W.heap.size (fzW W) W 0 (.agg [.iface 129 (.agg [.ptr 5 29])])
      split at h1
      · rename_i cs E fr hh
        injection h1 with h1
        subst h1
        refine ⟨(Array.getElem?_eq_some_iff.1 hh).1, _, _, _, hh, ?_⟩
        simp only [RelL]
        refine ⟨_, [], rfl, ?_, rfl⟩
        simp only [Rel]
        refine ⟨_, rfl, _, rfl, ?_⟩
        simp only [RelL]
        exact ⟨_, [], rfl, by simp only [Rel], rfl⟩
      · cases h1
    · have : G0 g = .junk := by unfold G0; rw [if_neg (by unfold gAscii; exact g1), if_neg g0]
      rw [this]
      show Rel _ _ _ _
      simp only [Rel]
section
variable {H : Type} {enc : TypeId × Value → H} {W : World} {spare : Nat → Bool} {held : Bool}
theorem len1 {α : Type} {l : List α} (h : l.length = 4) : ∃ a b c d, l = [a, b, c, d] := by
  match l, h with
  | [a, b, c, d], _ => exact ⟨a, b, c, d, rfl⟩
theorem okTs_of : ∀ {l : List GT}, (∀ x ∈ l, okT x) → okTs l
  | [], _ => by simp only [okTs]
  | t :: r, h => by simp only [okTs]; exact ⟨h t (by simp), okTs_of fun x hx => h x (by simp [hx])⟩
theorem rd_ty : ∀ (fuel : Nat) (cs : List Value) (d : DataW H) (ps : List MemPlace), DataW.trod enc Tryz.prog W 0 spare held fuel 34 cs = some (d, ps) → ∃ x : GT, okT x ∧ RelL (fzW W) W (Enc.enc x) cs := by
  intro fuel
  induction fuel using Nat.strongRecOn with
  | _ fuel ih =>
    intro cs d ps h
    cases fuel with
    | zero => unfold DataW.trod at h; cases h
    | succ fuel =>
      obtain ⟨hl, hf⟩ := rd_st Tryz.underlying34 h
      have c34 : Tryz.prog.cellsOf 34 = 4 := by kernel_rfl
      have c3 : Tryz.prog.cellsOf 3 = 1 := by kernel_rfl
      have c9 : Tryz.prog.cellsOf 9 = 1 := by kernel_rfl
      have c4 : Tryz.prog.cellsOf 4 = 1 := by kernel_rfl
      have c32 : Tryz.prog.cellsOf 32 = 1 := by kernel_rfl
      rw [c34] at hl
      obtain ⟨v0, v1, v2, v3, rfl⟩ := len1 hl
      simp only [List.forall_mem_cons, c3, c9, c4, c32, List.drop_succ_cons, List.drop_zero, List.take_succ_cons, List.take_zero] at hf
      obtain ⟨⟨y0, h0⟩, ⟨y1, h1⟩, ⟨y2, h2⟩, ⟨y3, h3⟩, _⟩ := hf
      obtain ⟨n, e0⟩ := rd_int Tryz.underlying3 h0
      obtain ⟨s, hs, e1⟩ := rd_str Tryz.underlying9 h1
      obtain ⟨b, e2⟩ := rd_bool Tryz.underlying4 h2
      injection e0 with e0 _
      injection e1 with e1 _
      injection e2 with e2 _
      subst e0; subst e1; subst e2
      cases fuel with
      | zero => unfold DataW.trod at h3; cases h3
      | succ fuel =>
        obtain ⟨l, hl1, hl2, hl3⟩ := rd_sl (α := GT) (ok := okT) (sz := 4) Tryz.underlying32 c34 rfl (by decide) (fun cs d ps h => ih fuel (by omega) cs d ps h) (d := y3.1) (ps := y3.2) h3
        refine ⟨.mk n s b l, by simp only [okT]; exact ⟨hs, hl1, okTs_of hl2⟩, ?_⟩
        show RelL (fzW W) W [.int .i64 n, .str s, .bool b, .sl l.length (encTs l) .shared] _
        simp only [RelL]
        refine ⟨_, _, rfl, by simp only [Rel], _, _, rfl, ?_, _, _, rfl, by simp only [Rel], _, _, rfl, hl3, rfl⟩
        simp only [Rel]
        exact ⟨trivial, by simpa only [MX] using hs⟩
end
theorem srel_start (W : World) : SRel W.heap.size (fzW W) (fun _ => none) W :=
  ⟨Nat.le_refl _, fun b o h => h, fun b k h => by cases h⟩
theorem keptBut_of_below {W W' : World} (h : Below W.heap.size W W') (may : MemPlace → Prop) : W.keptBut W' may := by
  refine ⟨h.os, h.output, fun i hi => ?_⟩
  rw [h.block i hi]
  cases hh : W.heap[i]? with
  | none => trivial
  | some o =>
    cases o <;> simp
theorem bool_call {B : Nat} {f : FuncId} {L : Con} {x : DenF L.f} {y : DenA L.al} (h : FnOK1 (X B) Ce f L x y) (hal : ∀ f' y', OutA L.al y .ret f' y' → ∀ t' h' h0 N', SR Ce.I N' (stF f' y') t' h' h0 → t' 1000 = .bool true) {W : World} (hB : B = W.heap.size) (hG : GRel B (fzW W) W G0) {cargs : Array Value} (hbl : L.f.bl = []) (hrw : L.f.rw = [])
    (hargs : RelL (fzW W) W (Val.encL Ce.I N00 ((stS L.f.sl x.1).map (·.2))) cargs.toList) (hok : ∀ i, okV N00 0 (lkV (stS L.f.sl x.1) i)) : Calls Tryz.prog f cargs W fun e W' => e = .returned (.bool true) ∧ Below W.heap.size W W' := by
  subst hB
  have hs : SR Ce.I N00 (stF L.f x) (fun i => (lkV (stS L.f.sl x.1) i).enc Ce.I N00) (fun _ => none) (fun _ => none) := by
    obtain ⟨xs, xb⟩ := x
    have hb : ∀ (bl : List (Nat × BSh)) (xb : DenBS bl), bl = [] → stB bl xb = [] := by intro bl xb e; subst e; rfl
    have hc : maxN (fnums L.f) = 0 := by simp [fnums, hbl, hrw, maxN]
    refine { heap := ⟨[], ?_, ?_, ?_⟩, okH := ?_, okF := fun e he => (by cases he), okR := ?_, slots := fun i _ => rfl, okA := ?_ }
    · show 0 = (stB L.f.bl xb).length
      rw [hb _ xb hbl]; rfl
    · intro i nm b hi
      have : (stB L.f.bl xb)[i]? = some (nm, b) := hi
      rw [hb _ xb hbl] at this
      simp at this
    · show HP _ _ [] ((L.f.rw).map (rowR N00))
      rw [hrw]
      exact HP.nil _
    · intro e he
      have : e ∈ stB L.f.bl xb := he
      rw [hb _ xb hbl] at this
      cases this
    · intro r hr
      have : r ∈ L.f.rw := hr
      rw [hrw] at this
      cases this
    · intro i
      show okV N00 (maxN (fnums L.f)) _
      rw [hc]
      exact hok i
  refine ((h N00 _ _ _ hs).2 (fzW W) W cargs (srel_start W) hG hargs).mono ?_
  rintro e W' ⟨r, h', fz', ⟨av, f', y', N', t', rfl, ho, _, _, hsr, hw⟩, hend, hsrel, hev⟩
  cases e with
  | returned c =>
    have hc := hw _ _ _ hend
    rw [hal f' y' ho t' h' _ N' hsr] at hc
    simp only [Rel] at hc
    subst hc
    exact ⟨rfl, hev.below⟩
  | _ => exact hend.elim
end Go.Proofs.YtdnndjdlfpkjlaaGreatDoor
end
section
set_option maxRecDepth 1000000
namespace Go.Proofs.YtdnndjdlfpkjlaaGreatDoor
open Go.ChangeShapes Go.WideShapes Go.RowKit Go.Lb Go.Lb.R
theorem laidOut : laidOutB Tryz.prog = true := by kernel_rfl
theorem whole_walk {W : World} (hL : laidMetH Tryz.prog laidL W) {x : GT} (hx : okT x) {cargs : Array Value} (hargs : RelL (fzW W) W [.agg (Enc.enc x)] cargs.toList) : Calls Tryz.prog 4 cargs W fun e W' => e = .returned (.bool true) ∧ Below W.heap.size W W' := by
  refine bool_call (B := W.heap.size) (L := con4 k4) (x := ((x, ()), ())) (y := ((true, ()), ())) (ok_k4 _ _ _ (k4_eq x hx)) ?_ rfl (grel_of_laid hL) rfl rfl hargs ?_
  · intro f' y' ho t' h' h0 N' hsr
    cases ho
    exact hsr.slots 1000 (by intro h; cases h)
  · intro i
    show okV N00 0 (lkV [(0, Val.n .ty x)] i)
    simp only [lkV]
    cases Nat.beq i 0 <;> simp only [cond_true, cond_false, okV]
set_option maxRecDepth 100000 in
theorem whole_lifted (os : Os) (started : os.Started) (H : Type) (enc : TypeId × Value → H) :
    ReturnsInHanded {} Tryz.checked os 4 .any (fun w args => (Rows.namesWholeSpec.pre enc Tryz.prog Tryz.f4 [] false w args ∧ laidMetH Tryz.prog laidL w) ∧ sizedMet enc Tryz.prog Tryz.f4 (OpenSpec.ofChange Rows.namesWholeSpec) false w args)
      (Rows.namesWholeSpec.post enc Tryz.prog Tryz.f4 false true false false) := by
  refine returnsInHanded_of_change_and (C := Tryz.checked) (X := fun w _ => laidMetH Tryz.prog laidL w) (fun _ _ _ hh h => h.of_heap hh) own started (by kernel_rfl) Tryz.func4
    (ChangeSpec.witness_shaped (enc := enc) (C := Tryz.checked) (os := os) (X := fun w _ => laidMetH Tryz.prog laidL w) false (laidWorld os) #[.agg #[.int .i64 0, .string ⟨#[]⟩, .bool false, .slice none 0 0]] 8 (World.layVars_os _ _ _) (World.shaped_of_RefB (by kernel_rfl) (by kernel_rfl)) (by kernel_rfl) (by kernel_rfl) (by kernel_rfl) (laidWorld_met os _)) ?_
  intro W base args ds gs before hval0 hW _ _ hL _
  have hval : ∀ (j : Nat) t v, Tryz.f4.params[j]? = some t → args[j]? = some v → Value.okWide Tryz.prog W .any base t v := hval0
  have hW' := hW
  have hlt := hW.lt
  obtain ⟨p, q, hA0, hV0, rfl, hfz, hnd⟩ := hW
  have hA : DataW.TrodAll enc Tryz.prog W 0 (fun _ => true) true Tryz.f4.params.toList args.toList ds p := hA0
  have hV : DataW.TrodVars enc Tryz.prog W (fun _ => true) [] gs q := hV0
  rw [Tryz.params4] at hA hval
  obtain ⟨v0, d0, rfl, rfl, h0⟩ := trodAll_one hA
  obtain ⟨rfl, rfl⟩ : gs = [] ∧ q = [] := by
    cases gs with
    | nil => exact ⟨rfl, hV⟩
    | cons g r => exact absurd hV (by intro h; cases h)
  obtain ⟨cs, rfl, hcs⟩ := okWide_struct Tryz.underlying34 (hval 0 34 v0 rfl rfl)
  obtain ⟨fuel, hf⟩ := h0
  obtain ⟨x, hx, hr⟩ := rd_ty fuel _ _ _ hf
  have hargs : RelL (fzW W) W [.agg (Enc.enc x)] [Value.agg cs] := by
    simp only [RelL]
    exact ⟨_, _, rfl, by simp only [Rel]; exact ⟨cs, rfl, hr⟩, rfl⟩
  refine (whole_walk hL hx (cargs := #[.agg cs]) hargs).mono fun e W' ⟨he, hb⟩ => ?_
  subst he
  have e1 : Rows.namesWholeSpec.fn H ([d0] ++ []) = { results := [.lit (.bool true)], args := [d0] } := by simp [Rows.namesWholeSpec]
  refine ⟨_, rfl, _, _, _, [], p, [], hW', ?_, ?_, ?_, keptBut_of_below hb _, fun h => by cases h⟩
  · rw [e1]; exact trodAll_mk1 (shut_bool Tryz.underlying4 true)
  · rw [e1]
    exact trodAll_mk1 (Below.trod laidOut (by kernel_rfl) (of_decide_eq_true (by kernel_rfl)) ⟨fuel, hf⟩ hb fun y hy => hlt y (by simp [hy]))
  · rw [e1]; rfl
theorem whole_holds : Rows.NamesWholeSaid :=
  OpenClaim.holds_of_wide 4 Tryz.f4 rfl rfl rfl rfl rfl rfl rfl ⟨rfl, rfl, rfl, rfl, rfl⟩ rfl rfl rfl rfl rfl (by kernel_rfl) Tryz.func4 (by kernel_rfl)
    (of_decide_eq_true (by kernel_rfl)) (by unfold Func.isWrapper; rw [if_neg (of_decide_eq_false (by kernel_rfl))]; exact ⟨rfl, rfl⟩)
    (fun os started H enc _ => whole_lifted os started H enc)
end Go.Proofs.YtdnndjdlfpkjlaaGreatDoor
end
section
set_option maxRecDepth 1000000
namespace Go.Proofs.YtdnndjdlfpkjlaaGreatDoor
open Go
theorem whole_card : Rows.NamesWholeCardSaid :=
  Claim7.holds_tied_plain_at .later [] [.handle, .listed, .data] true (true, "ad9f8ff3f070a0785f5199926dc55d8185094f2ee73c0a4e48d0eb99d5e75d8a") true
    whole_holds (fun _ h => by cases h) (by kernel_rfl) (fun _ h => by cases h) namesWhole_row_tie rfl ⟨rfl, rfl⟩ (by kernel_rfl) rfl
    (fun f fn hf hfn => by
      obtain rfl : f = 4 := Option.some.inj ((show Tryz.prog.funcNamed "lienbook/lienbooklaw04.NamesWhole" = some 4 by kernel_rfl).symm.trans hf) |>.symm
      obtain rfl : fn = Tryz.f4 := (Option.some.inj (Tryz.func4.symm.trans hfn)).symm
      exact ⟨by kernel_rfl, fun j t ht => by
        rw [Tryz.params4] at ht
        have h3 : t = 34 := by
          rcases j with _ | j
          · simpa using ht.symm
          · simp at ht
        subst h3
        exact (show Tryz.prog.wantsStandIn 34 = false by kernel_rfl)⟩)
    (by kernel_rfl)
end Go.Proofs.YtdnndjdlfpkjlaaGreatDoor
end
#print axioms Go.Proofs.YtdnndjdlfpkjlaaGreatDoor.whole_card
