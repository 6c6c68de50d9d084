/-
  Part 5 of 6. Of lienbooklaw04.NamesWhole: for every type that can be read as data the call returns true, and its argument reads as it did; the listed package variables hold what the program's text lays.
-/
import Derived.Test.YtdnndjdlfpkjlaaGreatDoorA4
import Derived.Shelf.Small.Utf8
import Derived.Shelf.Small.Strs
import Derived.Shelf.Strings.Search1
import Derived.Shelf.Strings.Fields
import Derived.Shelf.Unicode.Latin
import Derived.Shelf.Strings.Runes
import Derived.Shelf.Unicode.Is16White
import Derived.Shelf.Unicode.IsSpaceAny
import Derived.Shelf.Unicode.Is16WhiteD
import Derived.Shelf.Unicode.IsSpaceAnyD
import Derived.Shelf.Strings.FieldsAny
import Derived.Shelf.Strings.FieldsFuncAny
import Derived.Shelf.Unicode.Is16Any
import Derived.Shelf.Unicode.Is32Any
import Derived.Shelf.Unicode.ExclAny
import Derived.Test.YtdnndjdlfpkjlaaGreatDoorProg
import Derived.WalkKit
import Derived.LaidEql
import Derived.Stop.Asserts
import Derived.RowKitTokens
import Derived.ChangeReads
import Derived.DataReads
section
namespace Go.Proofs
open Go.Shelf
def Tryz.lays119_ren : Go.Shelf.Ren := ⟨fun | 119 => 167 | n => n, fun | 21 => 21 | 4 => 4 | n => n, fun | n => n⟩
theorem Tryz.lays119 : Go.Proofs.Lays.n119 Tryz.prog Tryz.lays119_ren := {
  mixed := by kernel_rfl
  f119 := Tryz.func167.trans (congrArg some (by kernel_rfl))
  t4 := Tryz.underlying4
  a4 := Tryz.isAgg4
  z4 := Tryz.sizeOf4
  v4 := Tryz.zeroValue4
  t21 := Tryz.underlying21
  a21 := Tryz.isAgg21
  z21 := Tryz.sizeOf21
  v21 := Tryz.zeroValue21 }
theorem Tryz.utf8_ValidRune (r : Int) (w : World) :
    Calls Tryz.prog 167 #[.int .i32 r] w fun e w' => e = .returned (.bool (Lib.validRune r)) ∧ w' = w := Any.utf8_ValidRune Tryz.lays119 r w
def Tryz.lays137_ren : Go.Shelf.Ren := ⟨fun | 137 => 166 | 217 => 172 | 266 => 173 | n => n, fun | 9 => 9 | 5 => 5 | 3 => 3 | n => n, fun | n => n⟩
theorem Tryz.lays137 : Go.Proofs.Lays.n137 Tryz.prog Tryz.lays137_ren := {
  mixed := by kernel_rfl
  f137 := Tryz.func166.trans (congrArg some (by kernel_rfl))
  f217 := Tryz.func172.trans (congrArg some (by kernel_rfl))
  f266 := Tryz.func173.trans (congrArg some (by kernel_rfl))
  t3 := Tryz.underlying3
  a3 := Tryz.isAgg3
  z3 := Tryz.sizeOf3
  v3 := Tryz.zeroValue3
  t5 := Tryz.underlying5
  a5 := Tryz.isAgg5
  z5 := Tryz.sizeOf5
  v5 := Tryz.zeroValue5
  t9 := Tryz.underlying9
  a9 := Tryz.isAgg9
  z9 := Tryz.sizeOf9
  v9 := Tryz.zeroValue9 }
open Go.RowKit in
theorem Tryz.strings_IndexByte (s : ByteArray) (c : Int) (w : World) :
    Calls Tryz.prog 166 #[.string s, .int .u8 c] w fun e w' => e = .returned (.int .i64 (Lib.indexByte s.data.toList c.toNat.toUInt8)) ∧ w' = w := Any.strings_IndexByte Tryz.lays137 s c w
def Tryz.lays217_ren : Go.Shelf.Ren := ⟨fun | 217 => 172 | 266 => 173 | n => n, fun | 9 => 9 | 5 => 5 | 3 => 3 | n => n, fun | n => n⟩
theorem Tryz.lays217 : Go.Proofs.Lays.n217 Tryz.prog Tryz.lays217_ren := {
  mixed := by kernel_rfl
  f217 := Tryz.func172.trans (congrArg some (by kernel_rfl))
  f266 := Tryz.func173.trans (congrArg some (by kernel_rfl))
  t3 := Tryz.underlying3
  a3 := Tryz.isAgg3
  z3 := Tryz.sizeOf3
  v3 := Tryz.zeroValue3
  t5 := Tryz.underlying5
  a5 := Tryz.isAgg5
  z5 := Tryz.sizeOf5
  v5 := Tryz.zeroValue5
  t9 := Tryz.underlying9
  a9 := Tryz.isAgg9
  z9 := Tryz.sizeOf9
  v9 := Tryz.zeroValue9 }
open Go.RowKit Go.Lib in
theorem Tryz.stringslite_IndexByte (s : ByteArray) (c : Int) (w : World) :
    Calls Tryz.prog 172 #[.string s, .int .u8 c] w fun e w' => e = .returned (.int .i64 (Lib.indexByte s.data.toList c.toNat.toUInt8)) ∧ w' = w := Any.stringslite_IndexByte Tryz.lays217 s c w
def Tryz.lays224_ren : Go.Shelf.Ren := ⟨fun | 224 => 168 | n => n, fun | 3 => 3 | n => n, fun | n => n⟩
theorem Tryz.lays224 : Go.Proofs.Lays.n224 Tryz.prog Tryz.lays224_ren := {
  mixed := by kernel_rfl
  f224 := Tryz.func168.trans (congrArg some (by kernel_rfl))
  t3 := Tryz.underlying3
  a3 := Tryz.isAgg3
  z3 := Tryz.sizeOf3
  v3 := Tryz.zeroValue3 }
open Go.RowKit Go.Lib in
theorem Tryz.bytealg_Cutover (n : Int) (h0 : 0 ≤ n) (h1 : n < 4611686018427387904) (w : World) :
    Calls Tryz.prog 168 #[.int .i64 n] w fun e w' => e = .returned (.int .i64 ((n + 16) / 8)) ∧ w' = w := Any.bytealg_Cutover Tryz.lays224 n h0 h1 w
def Tryz.lays157_ren : Go.Shelf.Ren := ⟨fun | 157 => 130 | 229 => 155 | 199 => 156 | 261 => 163 | 311 => 170 | 312 => 171 | n => n, fun | 9 => 9 | 31 => 35 | 3 => 3 | 5 => 5 | 4 => 4 | 119 => 171 | 0 => 0 | 40 => 168 | 152 => 176 | 21 => 21 | 154 => 178 | 51 => 179 | 141 => 181 | 196 => 191 | 193 => 188 | 198 => 193 | 49 => 44 | 194 => 189 | 201 => 196 | 226 => 198 | 46 => 186 | 227 => 199 | n => n, fun | 0 => 1 | 6 => 2 | n => n⟩
theorem Tryz.lays157 : Go.Proofs.Lays.n157 Tryz.prog Tryz.lays157_ren := {
  mixed := by kernel_rfl
  f157 := Tryz.func130.trans (congrArg some (by kernel_rfl))
  f199 := Tryz.func156.trans (congrArg some (by kernel_rfl))
  f229 := Tryz.func155.trans (congrArg some (by kernel_rfl))
  f261 := Tryz.func163.trans (congrArg some (by kernel_rfl))
  f311 := Tryz.func170.trans (congrArg some (by kernel_rfl))
  f312 := Tryz.func171.trans (congrArg some (by kernel_rfl))
  t0 := Tryz.underlying0
  a0 := Tryz.isAgg0
  z0 := Tryz.sizeOf0
  v0 := Tryz.zeroValue0
  t3 := Tryz.underlying3
  a3 := Tryz.isAgg3
  z3 := Tryz.sizeOf3
  v3 := Tryz.zeroValue3
  t4 := Tryz.underlying4
  a4 := Tryz.isAgg4
  z4 := Tryz.sizeOf4
  v4 := Tryz.zeroValue4
  t5 := Tryz.underlying5
  a5 := Tryz.isAgg5
  z5 := Tryz.sizeOf5
  v5 := Tryz.zeroValue5
  t9 := Tryz.underlying9
  a9 := Tryz.isAgg9
  z9 := Tryz.sizeOf9
  v9 := Tryz.zeroValue9
  t21 := Tryz.underlying21
  a21 := Tryz.isAgg21
  z21 := Tryz.sizeOf21
  v21 := Tryz.zeroValue21
  t31 := Tryz.underlying35
  a31 := Tryz.isAgg35
  z31 := Tryz.sizeOf35
  v31 := Tryz.zeroValue35
  t40 := Tryz.underlying168
  a40 := Tryz.isAgg168
  z40 := Tryz.sizeOf168
  v40 := Tryz.zeroValue168
  t46 := Tryz.underlying186
  a46 := Tryz.isAgg186
  z46 := Tryz.sizeOf186
  v46 := Tryz.zeroValue186
  t49 := Tryz.underlying44
  a49 := Tryz.isAgg44
  z49 := Tryz.sizeOf44
  v49 := Tryz.zeroValue44
  t51 := Tryz.underlying179
  a51 := Tryz.isAgg179
  z51 := Tryz.sizeOf179
  v51 := Tryz.zeroValue179
  t119 := Tryz.underlying171
  a119 := Tryz.isAgg171
  z119 := Tryz.sizeOf171
  t141 := Tryz.underlying181
  a141 := Tryz.isAgg181
  z141 := Tryz.sizeOf181
  v141 := Tryz.zeroValue181
  t152 := Tryz.underlying176
  a152 := Tryz.isAgg176
  z152 := Tryz.sizeOf176
  v152 := Tryz.zeroValue176
  t154 := Tryz.underlying178
  a154 := Tryz.isAgg178
  z154 := Tryz.sizeOf178
  v154 := Tryz.zeroValue178
  t193 := Tryz.underlying188
  a193 := Tryz.isAgg188
  z193 := Tryz.sizeOf188
  v193 := Tryz.zeroValue188
  t194 := Tryz.underlying189
  a194 := Tryz.isAgg189
  z194 := Tryz.sizeOf189
  v194 := Tryz.zeroValue189
  t196 := Tryz.underlying191
  a196 := Tryz.isAgg191
  z196 := Tryz.sizeOf191
  v196 := Tryz.zeroValue191
  t198 := Tryz.underlying193
  a198 := Tryz.isAgg193
  z198 := Tryz.sizeOf193
  v198 := Tryz.zeroValue193
  t201 := Tryz.underlying196
  a201 := Tryz.isAgg196
  z201 := Tryz.sizeOf196
  v201 := Tryz.zeroValue196
  t226 := Tryz.underlying198
  a226 := Tryz.isAgg198
  z226 := Tryz.sizeOf198
  v226 := Tryz.zeroValue198
  t227 := Tryz.underlying199
  a227 := Tryz.isAgg199
  z227 := Tryz.sizeOf199
  v227 := Tryz.zeroValue199
  g0 := by kernel_rfl
  g6 := by kernel_rfl }
open Go.RowKit Go.Lib in
theorem Tryz.strings_Fields (s : ByteArray) (w : World) (hs : s.size < 4294967281) (hascii : ∀ (j : Nat) b, s.data.toList[j]? = some b → b.toNat < 128) (htab : Lib.TabIs Tryz.prog w "strings.asciiSpace" .u8 Lib.asciiSpaceTab) :
    Calls Tryz.prog 130 #[.string s] w fun e w' =>
      e = .returned (.slice (some ⟨w.heap.size, 0, none⟩) (Lib.fields s.data.toList).length (Lib.fields s.data.toList).length) ∧ w' = w.alloc (.cells ((Lib.fields s.data.toList).map fun l => Value.string ⟨l.toArray⟩).toArray 9) := Any.strings_Fields Tryz.lays157 (by kernel_rfl) (by kernel_rfl) s w hs hascii htab
def Tryz.lays199_ren : Go.Shelf.Ren := ⟨fun | 199 => 156 | 261 => 163 | 311 => 170 | 312 => 171 | n => n, fun | 21 => 21 | 4 => 4 | 51 => 179 | 141 => 181 | 0 => 0 | 196 => 191 | 193 => 188 | 3 => 3 | 198 => 193 | 49 => 44 | 194 => 189 | 201 => 196 | 226 => 198 | 46 => 186 | 227 => 199 | n => n, fun | 6 => 2 | n => n⟩
theorem Tryz.lays199 : Go.Proofs.Lays.n199 Tryz.prog Tryz.lays199_ren := {
  mixed := by kernel_rfl
  f199 := Tryz.func156.trans (congrArg some (by kernel_rfl))
  f261 := Tryz.func163.trans (congrArg some (by kernel_rfl))
  f311 := Tryz.func170.trans (congrArg some (by kernel_rfl))
  f312 := Tryz.func171.trans (congrArg some (by kernel_rfl))
  t0 := Tryz.underlying0
  a0 := Tryz.isAgg0
  z0 := Tryz.sizeOf0
  v0 := Tryz.zeroValue0
  t3 := Tryz.underlying3
  a3 := Tryz.isAgg3
  z3 := Tryz.sizeOf3
  v3 := Tryz.zeroValue3
  t4 := Tryz.underlying4
  a4 := Tryz.isAgg4
  z4 := Tryz.sizeOf4
  v4 := Tryz.zeroValue4
  t21 := Tryz.underlying21
  a21 := Tryz.isAgg21
  z21 := Tryz.sizeOf21
  v21 := Tryz.zeroValue21
  t46 := Tryz.underlying186
  a46 := Tryz.isAgg186
  z46 := Tryz.sizeOf186
  v46 := Tryz.zeroValue186
  t49 := Tryz.underlying44
  a49 := Tryz.isAgg44
  z49 := Tryz.sizeOf44
  v49 := Tryz.zeroValue44
  t51 := Tryz.underlying179
  a51 := Tryz.isAgg179
  z51 := Tryz.sizeOf179
  v51 := Tryz.zeroValue179
  t141 := Tryz.underlying181
  a141 := Tryz.isAgg181
  z141 := Tryz.sizeOf181
  v141 := Tryz.zeroValue181
  t193 := Tryz.underlying188
  a193 := Tryz.isAgg188
  z193 := Tryz.sizeOf188
  v193 := Tryz.zeroValue188
  t194 := Tryz.underlying189
  a194 := Tryz.isAgg189
  z194 := Tryz.sizeOf189
  v194 := Tryz.zeroValue189
  t196 := Tryz.underlying191
  a196 := Tryz.isAgg191
  z196 := Tryz.sizeOf191
  v196 := Tryz.zeroValue191
  t198 := Tryz.underlying193
  a198 := Tryz.isAgg193
  z198 := Tryz.sizeOf193
  v198 := Tryz.zeroValue193
  t201 := Tryz.underlying196
  a201 := Tryz.isAgg196
  z201 := Tryz.sizeOf196
  v201 := Tryz.zeroValue196
  t226 := Tryz.underlying198
  a226 := Tryz.isAgg198
  z226 := Tryz.sizeOf198
  v226 := Tryz.zeroValue198
  t227 := Tryz.underlying199
  a227 := Tryz.isAgg199
  z227 := Tryz.sizeOf199
  v227 := Tryz.zeroValue199
  g6 := by kernel_rfl }
open Go.RowKit Go.Lib in
theorem Tryz.unicode_IsSpace (r : Int) (w : World) (h0 : 0 ≤ r) (h : r ≤ 255) :
    Calls Tryz.prog 156 #[.int .i32 r] w fun e w' => e = .returned (.bool (Lib.isSpaceL r)) ∧ w' = w := Any.unicode_IsSpace Tryz.lays199 r w h0 h
def Tryz.lays152_ren : Go.Shelf.Ren := ⟨fun | 152 => 162 | 137 => 166 | 119 => 167 | 224 => 168 | 225 => 169 | 217 => 172 | 266 => 173 | n => n, fun | 9 => 9 | 21 => 21 | 3 => 3 | 4 => 4 | 5 => 5 | 0 => 0 | 46 => 186 | n => n, fun | n => n⟩
theorem Tryz.lays152 : Go.Proofs.Lays.n152 Tryz.prog Tryz.lays152_ren := {
  mixed := by kernel_rfl
  f119 := Tryz.func167.trans (congrArg some (by kernel_rfl))
  f137 := Tryz.func166.trans (congrArg some (by kernel_rfl))
  f152 := Tryz.func162.trans (congrArg some (by kernel_rfl))
  f217 := Tryz.func172.trans (congrArg some (by kernel_rfl))
  f224 := Tryz.func168.trans (congrArg some (by kernel_rfl))
  f225 := Tryz.func169.trans (congrArg some (by kernel_rfl))
  f266 := Tryz.func173.trans (congrArg some (by kernel_rfl))
  t0 := Tryz.underlying0
  a0 := Tryz.isAgg0
  z0 := Tryz.sizeOf0
  v0 := Tryz.zeroValue0
  t3 := Tryz.underlying3
  a3 := Tryz.isAgg3
  z3 := Tryz.sizeOf3
  v3 := Tryz.zeroValue3
  t4 := Tryz.underlying4
  a4 := Tryz.isAgg4
  z4 := Tryz.sizeOf4
  v4 := Tryz.zeroValue4
  t5 := Tryz.underlying5
  a5 := Tryz.isAgg5
  z5 := Tryz.sizeOf5
  v5 := Tryz.zeroValue5
  t9 := Tryz.underlying9
  a9 := Tryz.isAgg9
  z9 := Tryz.sizeOf9
  v9 := Tryz.zeroValue9
  t21 := Tryz.underlying21
  a21 := Tryz.isAgg21
  z21 := Tryz.sizeOf21
  v21 := Tryz.zeroValue21
  t46 := Tryz.underlying186
  a46 := Tryz.isAgg186
  z46 := Tryz.sizeOf186
  v46 := Tryz.zeroValue186 }
open Go.RowKit Go.Lib in
theorem Tryz.strings_IndexRune_ascii (s : ByteArray) (r : Int) (w : World) (h0 : 0 ≤ r) (h1 : r < 128) :
    Calls Tryz.prog 162 #[.string s, .int .i32 r] w fun e w' => e = .returned (.int .i64 (Lib.indexByte s.data.toList r.toNat.toUInt8)) ∧ w' = w := Any.strings_IndexRune_ascii Tryz.lays152 s r w h0 h1
def Tryz.lays151_ren : Go.Shelf.Ren := ⟨fun | 151 => 154 | 152 => 162 | 137 => 166 | 119 => 167 | 224 => 168 | 225 => 169 | 217 => 172 | 266 => 173 | n => n, fun | 9 => 9 | 21 => 21 | 4 => 4 | 3 => 3 | 5 => 5 | 0 => 0 | 46 => 186 | n => n, fun | n => n⟩
theorem Tryz.lays151 : Go.Proofs.Lays.n151 Tryz.prog Tryz.lays151_ren := {
  mixed := by kernel_rfl
  f119 := Tryz.func167.trans (congrArg some (by kernel_rfl))
  f137 := Tryz.func166.trans (congrArg some (by kernel_rfl))
  f151 := Tryz.func154.trans (congrArg some (by kernel_rfl))
  f152 := Tryz.func162.trans (congrArg some (by kernel_rfl))
  f217 := Tryz.func172.trans (congrArg some (by kernel_rfl))
  f224 := Tryz.func168.trans (congrArg some (by kernel_rfl))
  f225 := Tryz.func169.trans (congrArg some (by kernel_rfl))
  f266 := Tryz.func173.trans (congrArg some (by kernel_rfl))
  t0 := Tryz.underlying0
  a0 := Tryz.isAgg0
  z0 := Tryz.sizeOf0
  v0 := Tryz.zeroValue0
  t3 := Tryz.underlying3
  a3 := Tryz.isAgg3
  z3 := Tryz.sizeOf3
  v3 := Tryz.zeroValue3
  t4 := Tryz.underlying4
  a4 := Tryz.isAgg4
  z4 := Tryz.sizeOf4
  v4 := Tryz.zeroValue4
  t5 := Tryz.underlying5
  a5 := Tryz.isAgg5
  z5 := Tryz.sizeOf5
  v5 := Tryz.zeroValue5
  t9 := Tryz.underlying9
  a9 := Tryz.isAgg9
  z9 := Tryz.sizeOf9
  v9 := Tryz.zeroValue9
  t21 := Tryz.underlying21
  a21 := Tryz.isAgg21
  z21 := Tryz.sizeOf21
  v21 := Tryz.zeroValue21
  t46 := Tryz.underlying186
  a46 := Tryz.isAgg186
  z46 := Tryz.sizeOf186
  v46 := Tryz.zeroValue186 }
open Go.RowKit Go.Lib in
theorem Tryz.strings_ContainsRune_ascii (s : ByteArray) (r : Int) (w : World) (h0 : 0 ≤ r) (h1 : r < 128) :
    Calls Tryz.prog 154 #[.string s, .int .i32 r] w fun e w' => e = .returned (.bool (decide (0 ≤ Lib.indexByte s.data.toList r.toNat.toUInt8))) ∧ w' = w := Any.strings_ContainsRune_ascii Tryz.lays151 s r w h0 h1
def Tryz.lays311_ren : Go.Shelf.Ren := ⟨fun | 311 => 170 | n => n, fun | 193 => 188 | 49 => 44 | 4 => 4 | 3 => 3 | 0 => 0 | 226 => 198 | 198 => 193 | 46 => 186 | n => n, fun | n => n⟩
theorem Tryz.lays311 : Go.Proofs.Lays.n311 Tryz.prog Tryz.lays311_ren := {
  mixed := by kernel_rfl
  f311 := Tryz.func170.trans (congrArg some (by kernel_rfl))
  t0 := Tryz.underlying0
  a0 := Tryz.isAgg0
  z0 := Tryz.sizeOf0
  v0 := Tryz.zeroValue0
  t3 := Tryz.underlying3
  a3 := Tryz.isAgg3
  z3 := Tryz.sizeOf3
  v3 := Tryz.zeroValue3
  t4 := Tryz.underlying4
  a4 := Tryz.isAgg4
  z4 := Tryz.sizeOf4
  v4 := Tryz.zeroValue4
  t46 := Tryz.underlying186
  a46 := Tryz.isAgg186
  z46 := Tryz.sizeOf186
  v46 := Tryz.zeroValue186
  t49 := Tryz.underlying44
  a49 := Tryz.isAgg44
  z49 := Tryz.sizeOf44
  v49 := Tryz.zeroValue44
  t193 := Tryz.underlying188
  a193 := Tryz.isAgg188
  z193 := Tryz.sizeOf188
  v193 := Tryz.zeroValue188
  t198 := Tryz.underlying193
  a198 := Tryz.isAgg193
  z198 := Tryz.sizeOf193
  v198 := Tryz.zeroValue193
  t226 := Tryz.underlying198
  a226 := Tryz.isAgg198
  z226 := Tryz.sizeOf198
  v226 := Tryz.zeroValue198 }
open Go.RowKit Go.Lib in
theorem Tryz.unicode_is16_white (R oR : Nat) (z : Nat) (w : World) (hz : z < 65536) (hz0 : 255 < z) (c6 : w.cell? ⟨R, oR + 6, none⟩ = some (.int .u16 160)) (c7 : w.cell? ⟨R, oR + 7, none⟩ = some (.int .u16 5760)) (c8 : w.cell? ⟨R, oR + 8, none⟩ = some (.int .u16 5600)) (c9 : w.cell? ⟨R, oR + 9, none⟩ = some (.int .u16 8192)) (c10 : w.cell? ⟨R, oR + 10, none⟩ = some (.int .u16 8202)) (c11 : w.cell? ⟨R, oR + 11, none⟩ = some (.int .u16 1)) (c12 : w.cell? ⟨R, oR + 12, none⟩ = some (.int .u16 8232)) (c13 : w.cell? ⟨R, oR + 13, none⟩ = some (.int .u16 8233)) (c14 : w.cell? ⟨R, oR + 14, none⟩ = some (.int .u16 1)) (c15 : w.cell? ⟨R, oR + 15, none⟩ = some (.int .u16 8239)) (c16 : w.cell? ⟨R, oR + 16, none⟩ = some (.int .u16 8287)) (c17 : w.cell? ⟨R, oR + 17, none⟩ = some (.int .u16 48)) (c18 : w.cell? ⟨R, oR + 18, none⟩ = some (.int .u16 12288)) (c19 : w.cell? ⟨R, oR + 19, none⟩ = some (.int .u16 12288)) (c20 : w.cell? ⟨R, oR + 20, none⟩ = some (.int .u16 1)) :
    Calls Tryz.prog 170 #[.slice (some ⟨R, oR + 6, none⟩) 5 5, .int .u16 z] w fun e w' => e = .returned (.bool (Lib.isSpaceR z)) ∧ Below w.heap.size w w' := Any.unicode_is16_white Tryz.lays311 R oR z w hz hz0 c6 c7 c8 c9 c10 c11 c12 c13 c14 c15 c16 c17 c18 c19 c20
def Tryz.lays261_ren : Go.Shelf.Ren := ⟨fun | 261 => 163 | 311 => 170 | 312 => 171 | n => n, fun | 141 => 181 | 21 => 21 | 4 => 4 | 0 => 0 | 196 => 191 | 193 => 188 | 3 => 3 | 51 => 179 | 198 => 193 | 49 => 44 | 194 => 189 | 201 => 196 | 226 => 198 | 46 => 186 | 227 => 199 | n => n, fun | n => n⟩
theorem Tryz.lays261 : Go.Proofs.Lays.n261 Tryz.prog Tryz.lays261_ren := {
  mixed := by kernel_rfl
  f261 := Tryz.func163.trans (congrArg some (by kernel_rfl))
  f311 := Tryz.func170.trans (congrArg some (by kernel_rfl))
  f312 := Tryz.func171.trans (congrArg some (by kernel_rfl))
  t0 := Tryz.underlying0
  a0 := Tryz.isAgg0
  z0 := Tryz.sizeOf0
  v0 := Tryz.zeroValue0
  t3 := Tryz.underlying3
  a3 := Tryz.isAgg3
  z3 := Tryz.sizeOf3
  v3 := Tryz.zeroValue3
  t4 := Tryz.underlying4
  a4 := Tryz.isAgg4
  z4 := Tryz.sizeOf4
  v4 := Tryz.zeroValue4
  t21 := Tryz.underlying21
  a21 := Tryz.isAgg21
  z21 := Tryz.sizeOf21
  v21 := Tryz.zeroValue21
  t46 := Tryz.underlying186
  a46 := Tryz.isAgg186
  z46 := Tryz.sizeOf186
  v46 := Tryz.zeroValue186
  t49 := Tryz.underlying44
  a49 := Tryz.isAgg44
  z49 := Tryz.sizeOf44
  v49 := Tryz.zeroValue44
  t51 := Tryz.underlying179
  a51 := Tryz.isAgg179
  z51 := Tryz.sizeOf179
  v51 := Tryz.zeroValue179
  t141 := Tryz.underlying181
  a141 := Tryz.isAgg181
  z141 := Tryz.sizeOf181
  v141 := Tryz.zeroValue181
  t193 := Tryz.underlying188
  a193 := Tryz.isAgg188
  z193 := Tryz.sizeOf188
  v193 := Tryz.zeroValue188
  t194 := Tryz.underlying189
  a194 := Tryz.isAgg189
  z194 := Tryz.sizeOf189
  v194 := Tryz.zeroValue189
  t196 := Tryz.underlying191
  a196 := Tryz.isAgg191
  z196 := Tryz.sizeOf191
  v196 := Tryz.zeroValue191
  t198 := Tryz.underlying193
  a198 := Tryz.isAgg193
  z198 := Tryz.sizeOf193
  v198 := Tryz.zeroValue193
  t201 := Tryz.underlying196
  a201 := Tryz.isAgg196
  z201 := Tryz.sizeOf196
  v201 := Tryz.zeroValue196
  t226 := Tryz.underlying198
  a226 := Tryz.isAgg198
  z226 := Tryz.sizeOf198
  v226 := Tryz.zeroValue198
  t227 := Tryz.underlying199
  a227 := Tryz.isAgg199
  z227 := Tryz.sizeOf199
  v227 := Tryz.zeroValue199 }
open Go.RowKit Go.Lib in
theorem Tryz.unicode_isExcludingLatin_white (T oT R oR : Nat) (r : Int) (w : World) (hlo : -2147483648 ≤ r) (hhi : r ≤ 2147483647) (hr : r < 0 ∨ 255 < r) (h2 : w.cell? ⟨T, oT, none⟩ = some (.slice (some ⟨R, oR, none⟩) 7 7)) (h3 : w.cell? ⟨T, oT + 1, none⟩ = some (.slice none 0 0)) (h4 : w.cell? ⟨T, oT + 2, none⟩ = some (.int .i64 2)) (h5 : ∀ i, i < 21 → w.cell? ⟨R, oR + i, none⟩ = some (.int .u16 (whiteT.getD i 0))) :
    Calls Tryz.prog 163 #[.pointer (some ⟨T, oT, none⟩), .int .i32 r] w fun e w' => e = .returned (.bool (Lib.isSpaceZ r)) ∧ Below w.heap.size w w' := Any.unicode_isExcludingLatin_white Tryz.lays261 T oT R oR r w hlo hhi hr h2 h3 h4 h5
open Go.RowKit Go.Lib in
theorem Tryz.unicode_IsSpace_any (r : Int) (w : World) (hlo : -2147483648 ≤ r) (hhi : r ≤ 2147483647) (hW : Lib.WhiteTab 2 w) :
    Calls Tryz.prog 156 #[.int .i32 r] w fun e w' => e = .returned (.bool (Lib.isSpaceZ r)) ∧ Below w.heap.size w w' := Any.unicode_IsSpace_any Tryz.lays199 r w hlo hhi hW
open Go.RowKit Go.Lib in
theorem Tryz.unicode_is16_white_d (R oR : Nat) (z : Nat) (w : World) (hz : z < 65536) (hz0 : 255 < z) (c6 : w.cell? ⟨R, oR + 6, none⟩ = some (.int .u16 160)) (c7 : w.cell? ⟨R, oR + 7, none⟩ = some (.int .u16 5760)) (c8 : w.cell? ⟨R, oR + 8, none⟩ = some (.int .u16 5600)) (c9 : w.cell? ⟨R, oR + 9, none⟩ = some (.int .u16 8192)) (c10 : w.cell? ⟨R, oR + 10, none⟩ = some (.int .u16 8202)) (c11 : w.cell? ⟨R, oR + 11, none⟩ = some (.int .u16 1)) (c12 : w.cell? ⟨R, oR + 12, none⟩ = some (.int .u16 8232)) (c13 : w.cell? ⟨R, oR + 13, none⟩ = some (.int .u16 8233)) (c14 : w.cell? ⟨R, oR + 14, none⟩ = some (.int .u16 1)) (c15 : w.cell? ⟨R, oR + 15, none⟩ = some (.int .u16 8239)) (c16 : w.cell? ⟨R, oR + 16, none⟩ = some (.int .u16 8287)) (c17 : w.cell? ⟨R, oR + 17, none⟩ = some (.int .u16 48)) (c18 : w.cell? ⟨R, oR + 18, none⟩ = some (.int .u16 12288)) (c19 : w.cell? ⟨R, oR + 19, none⟩ = some (.int .u16 12288)) (c20 : w.cell? ⟨R, oR + 20, none⟩ = some (.int .u16 1)) :
    Calls Tryz.prog 170 #[.slice (some ⟨R, oR + 6, none⟩) 5 5, .int .u16 z] w fun e w' => e = .returned (.bool (Lib.isSpaceR z)) ∧ ∃ q, w' = w.drewN q := Any.unicode_is16_white_d Tryz.lays311 R oR z w hz hz0 c6 c7 c8 c9 c10 c11 c12 c13 c14 c15 c16 c17 c18 c19 c20
open Go.RowKit Go.Lib in
theorem Tryz.unicode_isExcludingLatin_white_d (T oT R oR : Nat) (r : Int) (w : World) (hlo : -2147483648 ≤ r) (hhi : r ≤ 2147483647) (hr : r < 0 ∨ 255 < r) (h2 : w.cell? ⟨T, oT, none⟩ = some (.slice (some ⟨R, oR, none⟩) 7 7)) (h3 : w.cell? ⟨T, oT + 1, none⟩ = some (.slice none 0 0)) (h4 : w.cell? ⟨T, oT + 2, none⟩ = some (.int .i64 2)) (h5 : ∀ i, i < 21 → w.cell? ⟨R, oR + i, none⟩ = some (.int .u16 (whiteT.getD i 0))) :
    Calls Tryz.prog 163 #[.pointer (some ⟨T, oT, none⟩), .int .i32 r] w fun e w' => e = .returned (.bool (Lib.isSpaceZ r)) ∧ ∃ q, w' = w.drewN q := Any.unicode_isExcludingLatin_white_d Tryz.lays261 T oT R oR r w hlo hhi hr h2 h3 h4 h5
open Go.RowKit Go.Lib in
theorem Tryz.unicode_IsSpace_any_d (r : Int) (w : World) (hlo : -2147483648 ≤ r) (hhi : r ≤ 2147483647) (hW : Lib.WhiteTab 2 w) :
    Calls Tryz.prog 156 #[.int .i32 r] w fun e w' => e = .returned (.bool (Lib.isSpaceZ r)) ∧ ∃ q, w' = w.drewN q := Any.unicode_IsSpace_any_d Tryz.lays199 r w hlo hhi hW
open Go.RowKit Go.Lib in
theorem Tryz.strings_Fields_beyond (s : ByteArray) (w : World) (hs : s.size < 4294967281) (hhigh : ∃ (j : Nat) (b : UInt8), s.data.toList[j]? = some b ∧ 128 ≤ b.toNat) (hT : ∀ c : Nat, c < 256 → w.cell? ⟨1, c, none⟩ = some (.int .u8 (if Lib.isSp (UInt8.ofNat c) then 1 else 0))) (hW : Lib.WhiteTab 2 w) :
    Calls Tryz.prog 130 #[.string s] w fun e w' => ∃ A, e = .returned (.slice (some ⟨A, 0, none⟩) (Lib.goFieldsP Lib.isSpaceR s).length (Lib.goFieldsP Lib.isSpaceR s).length) ∧ w.heap.size ≤ A ∧
      w'.ownsRow w.heap.size 9 1 (.slice (some ⟨A, 0, none⟩) (Lib.goFieldsP Lib.isSpaceR s).length (Lib.goFieldsP Lib.isSpaceR s).length) (Lib.goFieldsP Lib.isSpaceR s).length ((Lib.goFieldsP Lib.isSpaceR s).map Value.string) ∧ Below w.heap.size w w' := Any.strings_Fields_beyond Tryz.lays157 (by kernel_rfl) (by kernel_rfl) s w hs hhigh hT hW
open Go.RowKit Go.Lib in
theorem Tryz.strings_Fields_any (s : ByteArray) (w : World) (hs : s.size < 4294967281) (htab : Lib.TabIs Tryz.prog w "strings.asciiSpace" .u8 Lib.asciiSpaceTab) (hW : Lib.WhiteTab 2 w) :
    Calls Tryz.prog 130 #[.string s] w fun e w' => ∃ A, e = .returned (.slice (some ⟨A, 0, none⟩) (Lib.fieldsD s.data.toList).length (Lib.fieldsD s.data.toList).length) ∧ w.heap.size ≤ A ∧
      w'.ownsRow w.heap.size 9 1 (.slice (some ⟨A, 0, none⟩) (Lib.fieldsD s.data.toList).length (Lib.fieldsD s.data.toList).length) (Lib.fieldsD s.data.toList).length ((Lib.fieldsD s.data.toList).map fun x => Value.string ⟨x.toArray⟩) ∧ Below w.heap.size w w' := Any.strings_Fields_any Tryz.lays157 (by kernel_rfl) (by kernel_rfl) (by kernel_rfl) s w hs htab hW
def Tryz.lays229_ren : Go.Shelf.Ren := ⟨fun | 229 => 155 | n => n, fun | 9 => 9 | 40 => 168 | 31 => 35 | 152 => 176 | 3 => 3 | 0 => 0 | 4 => 4 | 21 => 21 | 154 => 178 | n => n, fun | n => n⟩
theorem Tryz.lays229 : Go.Proofs.Lays.n229 Tryz.prog Tryz.lays229_ren := {
  mixed := by kernel_rfl
  f229 := Tryz.func155.trans (congrArg some (by kernel_rfl))
  t0 := Tryz.underlying0
  a0 := Tryz.isAgg0
  z0 := Tryz.sizeOf0
  v0 := Tryz.zeroValue0
  t3 := Tryz.underlying3
  a3 := Tryz.isAgg3
  z3 := Tryz.sizeOf3
  v3 := Tryz.zeroValue3
  t4 := Tryz.underlying4
  a4 := Tryz.isAgg4
  z4 := Tryz.sizeOf4
  v4 := Tryz.zeroValue4
  t9 := Tryz.underlying9
  a9 := Tryz.isAgg9
  z9 := Tryz.sizeOf9
  v9 := Tryz.zeroValue9
  t21 := Tryz.underlying21
  a21 := Tryz.isAgg21
  z21 := Tryz.sizeOf21
  v21 := Tryz.zeroValue21
  t31 := Tryz.underlying35
  a31 := Tryz.isAgg35
  z31 := Tryz.sizeOf35
  v31 := Tryz.zeroValue35
  t40 := Tryz.underlying168
  a40 := Tryz.isAgg168
  z40 := Tryz.sizeOf168
  v40 := Tryz.zeroValue168
  t152 := Tryz.underlying176
  a152 := Tryz.isAgg176
  z152 := Tryz.sizeOf176
  v152 := Tryz.zeroValue176
  t154 := Tryz.underlying178
  a154 := Tryz.isAgg178
  z154 := Tryz.sizeOf178
  v154 := Tryz.zeroValue178 }
open Go.RowKit Go.Lib in
theorem Tryz.strings_FieldsFunc_runes (g : Nat) (lb : Array Value) (eg : ∀ args w, (callFunc g args).run Tryz.prog w = .ok (.enter g args) w) (p : Nat → Bool) (s : ByteArray) (w : World) (hs : s.size ≤ 4294967296) (hp : PredAtRunes Tryz.prog g lb p w) :
    Calls Tryz.prog 155 #[.string s, .func (.func g) #[] lb] w fun e w' => ∃ A, e = .returned (.slice (some ⟨A, 0, none⟩) (Lib.goFieldsP p s).length (Lib.goFieldsP p s).length) ∧ w.heap.size ≤ A ∧
      w'.ownsRow w.heap.size 9 1 (.slice (some ⟨A, 0, none⟩) (Lib.goFieldsP p s).length (Lib.goFieldsP p s).length) (Lib.goFieldsP p s).length ((Lib.goFieldsP p s).map Value.string) ∧ Below w.heap.size w w' := Any.strings_FieldsFunc_runes Tryz.lays229 g lb eg p s w hs hp (by kernel_rfl) (by kernel_rfl)
open Go.RowKit Go.Lib in
theorem Tryz.strings_FieldsFunc (g : Nat) (lb : Array Value) (eg : ∀ args w, (callFunc g args).run Tryz.prog w = .ok (.enter g args) w) (p : Nat → Bool) (s : ByteArray) (w : World) (hs : s.size ≤ 4294967296) (hp : PredAt Tryz.prog g lb encR p w) :
    Calls Tryz.prog 155 #[.string s, .func (.func g) #[] lb] w fun e w' => ∃ A, e = .returned (.slice (some ⟨A, 0, none⟩) (Lib.goFieldsP p s).length (Lib.goFieldsP p s).length) ∧ w.heap.size ≤ A ∧
      w'.ownsRow w.heap.size 9 1 (.slice (some ⟨A, 0, none⟩) (Lib.goFieldsP p s).length (Lib.goFieldsP p s).length) (Lib.goFieldsP p s).length ((Lib.goFieldsP p s).map Value.string) ∧ Below w.heap.size w w' := Any.strings_FieldsFunc Tryz.lays229 g lb eg p s w hs hp (by kernel_rfl) (by kernel_rfl)
open Go.RowKit Go.Lib in
theorem Tryz.unicode_is16_any (T : Array Rg) (R oR cap : Nat) (z : Nat) (w : World) (hz : z < 65536) (hT : RgTab .u16 R oR T w) (hok : RgOk 65536 T) (hn : T.size ≤ 1000000000) :
    Calls Tryz.prog 170 #[.slice (some ⟨R, oR, none⟩) T.size cap, .int .u16 z] w fun e w' => e = .returned (.bool (is16Go T z)) ∧ ∃ q, w' = w.drewN q := Any.unicode_is16_any Tryz.lays311 T R oR cap z w hz hT hok hn
def Tryz.lays312_ren : Go.Shelf.Ren := ⟨fun | 312 => 171 | n => n, fun | 194 => 189 | 51 => 179 | 4 => 4 | 3 => 3 | 0 => 0 | 227 => 199 | 201 => 196 | 46 => 186 | n => n, fun | n => n⟩
theorem Tryz.lays312 : Go.Proofs.Lays.n312 Tryz.prog Tryz.lays312_ren := {
  mixed := by kernel_rfl
  f312 := Tryz.func171.trans (congrArg some (by kernel_rfl))
  t0 := Tryz.underlying0
  a0 := Tryz.isAgg0
  z0 := Tryz.sizeOf0
  v0 := Tryz.zeroValue0
  t3 := Tryz.underlying3
  a3 := Tryz.isAgg3
  z3 := Tryz.sizeOf3
  v3 := Tryz.zeroValue3
  t4 := Tryz.underlying4
  a4 := Tryz.isAgg4
  z4 := Tryz.sizeOf4
  v4 := Tryz.zeroValue4
  t46 := Tryz.underlying186
  a46 := Tryz.isAgg186
  z46 := Tryz.sizeOf186
  v46 := Tryz.zeroValue186
  t51 := Tryz.underlying179
  a51 := Tryz.isAgg179
  z51 := Tryz.sizeOf179
  v51 := Tryz.zeroValue179
  t194 := Tryz.underlying189
  a194 := Tryz.isAgg189
  z194 := Tryz.sizeOf189
  v194 := Tryz.zeroValue189
  t201 := Tryz.underlying196
  a201 := Tryz.isAgg196
  z201 := Tryz.sizeOf196
  v201 := Tryz.zeroValue196
  t227 := Tryz.underlying199
  a227 := Tryz.isAgg199
  z227 := Tryz.sizeOf199
  v227 := Tryz.zeroValue199 }
open Go.RowKit Go.Lib in
theorem Tryz.unicode_is32_any (T : Array Rg) (R oR cap : Nat) (z : Nat) (w : World) (hz : z < 4294967296) (hT : RgTab .u32 R oR T w) (hok : RgOk 4294967296 T) (hn : T.size ≤ 1000000000) :
    Calls Tryz.prog 171 #[.slice (some ⟨R, oR, none⟩) T.size cap, .int .u32 z] w fun e w' => e = .returned (.bool (is32Go T z)) ∧ Below w.heap.size w w' := Any.unicode_is32_any Tryz.lays312 T R oR cap z w hz hT hok hn
open Go.RowKit Go.Lib in
theorem Tryz.unicode_isExcludingLatin_any (Tb oT : Nat) (T : RTab) (r : Int) (w : World) (hlo : -2147483648 ≤ r) (hhi : r ≤ 2147483647) (hA : RTabAt Tb oT T w) (hok : RTabOk T) :
    Calls Tryz.prog 163 #[.pointer (some ⟨Tb, oT, none⟩), .int .i32 r] w fun e w' => e = .returned (.bool (exclGo T r)) ∧ Below w.heap.size w w' := Any.unicode_isExcludingLatin_any Tryz.lays261 Tb oT T r w hlo hhi hA hok
end Go.Proofs
end
section
set_option maxRecDepth 100000
namespace Go.Lb.R
open Go.Proofs Go.RowKit
theorem sh_str1 {fz : Fz} {w : World} {s : Str} {cargs : Array Value} (h : RelL fz w [ss s] cargs.toList) : cargs = #[.string ⟨s.toArray⟩] := by
  simp only [RelL, Rel] at h
  obtain ⟨c1, l1, h1, ⟨rfl, _⟩, rfl⟩ := h
  exact Array.toList_inj.1 (by simpa using h1)
theorem sh_str_int {fz : Fz} {w : World} {s : Str} {k : IntKind} {n : Int} {cargs : Array Value} (h : RelL fz w [ss s, .int k n] cargs.toList) : cargs = #[.string ⟨s.toArray⟩, .int k n] := by
  simp only [RelL, Rel] at h
  obtain ⟨c1, l1, h1, ⟨rfl, _⟩, c2, l2, rfl, rfl, rfl⟩ := h
  exact Array.toList_inj.1 (by simpa using h1)
theorem sh_int {fz : Fz} {w : World} {k : IntKind} {n : Int} {cargs : Array Value} (h : RelL fz w [.int k n] cargs.toList) : cargs = #[.int k n] := by
  simp only [RelL, Rel] at h
  obtain ⟨c1, l1, h1, rfl, rfl⟩ := h
  exact Array.toList_inj.1 (by simpa using h1)
theorem k_strings_IndexByte_ok (B : Nat) : ∀ (a0 : Str) (a1 : Int) (out : Int), k_strings_IndexByte a0 a1 = some out → Pure (X B) 166 [(ss a0), (ub a1)] (ii out) := by
  intro a0 a1 out hr
  obtain rfl := os hr
  refine pure_calls ⟨_, _, Tryz.func166, rfl, rfl⟩ fun fz w cargs hg hc => ?_
  rw [sh_str_int hc]
  exact ⟨_, Tryz.strings_IndexByte ⟨a0.toArray⟩ a1 w, by simp [Rel]⟩
theorem k_unicode_utf8_ValidRune_ok (B : Nat) : ∀ (a0 : Int) (out : Bool), k_unicode_utf8_ValidRune a0 = some out → Pure (X B) 167 [(ir a0)] (bb out) := by
  intro a0 out hr
  obtain rfl := os hr
  refine pure_calls ⟨_, _, Tryz.func167, rfl, rfl⟩ fun fz w cargs hg hc => ?_
  rw [sh_int hc]
  exact ⟨_, Tryz.utf8_ValidRune a0 w, by simp [Rel]⟩
theorem k_strings_Fields_ok (B : Nat) : ∀ (a0 : Str) (out : List Str), k_strings_Fields a0 = some out → Pure (X B) 130 [(ss a0)] (sN out) := by
  intro a0 out hr
  unfold k_strings_Fields at hr
  split at hr
  · rename_i hall
    split at hr
    · rename_i hb
      simp only [Bool.and_eq_true, decide_eq_true_eq, List.all_eq_true] at hall hb
      obtain rfl := os hr
      refine pure_calls_texts (E := 9) ⟨Nat.le_trans hb.2.1 (by decide), fun s hs => Nat.le_trans (hb.2.2 s hs) (by decide)⟩ ⟨_, _, Tryz.func130, rfl, rfl⟩ fun fz w cargs hg hc => ?_
      rw [sh_str1 hc]
      have ht : Lib.TabIs Tryz.prog w "strings.asciiSpace" .u8 Lib.asciiSpaceTab := tab_of_grel hg (g := gAscii) (by kernel_rfl) (by simp [X, G0])
      have := Tryz.strings_Fields ⟨a0.toArray⟩ w (by simpa [ByteArray.size] using hb.1) (by
        intro j b hj
        exact hall b (by simpa using List.mem_of_getElem? hj)) ht
      show Calls Tryz.prog _ _ _ _
      simpa using this
    · cases hr
  · cases hr
end Go.Lb.R
end
section
set_option maxRecDepth 100000
namespace Go.Lb.R
open Go.Proofs
open Go.Lb
def fieldsCon : Con := pureCon [(0, .str)] (.sl .str) fun x => k_strings_Fields x.1
def indexByteCon : Con := pureCon [(0, .str), (1, .int .u8)] (.int .i64) fun x => k_strings_IndexByte x.1 x.2.1
def validRuneCon : Con := pureCon [(0, .int .i32)] .bool fun x => k_unicode_utf8_ValidRune x.1
theorem fields_ok (B : Nat) (con : FuncId → Option Con) (lp : Nat → Option (FuncId × List Nat × Con)) : ∀ x y, fieldsCon.fn x = some y → FnOK1 (X B) (mkC con lp) 130 fieldsCon x y :=
  pure_fnok rfl rfl rfl rfl fun x y h => k_strings_Fields_ok B x.1 y h
theorem indexByte_ok (B : Nat) (con : FuncId → Option Con) (lp : Nat → Option (FuncId × List Nat × Con)) : ∀ x y, indexByteCon.fn x = some y → FnOK1 (X B) (mkC con lp) 166 indexByteCon x y :=
  pure_fnok rfl rfl rfl rfl fun x y h => k_strings_IndexByte_ok B x.1 x.2.1 y h
theorem validRune_ok (B : Nat) (con : FuncId → Option Con) (lp : Nat → Option (FuncId × List Nat × Con)) : ∀ x y, validRuneCon.fn x = some y → FnOK1 (X B) (mkC con lp) 167 validRuneCon x y :=
  pure_fnok rfl rfl rfl rfl fun x y h => k_unicode_utf8_ValidRune_ok B x.1 y h
end Go.Lb.R
end
section
namespace Go.Proofs.Tryz.AsP
open Go.RowKit Go.Extern.Stop Go.Stop Go.Extern Go.Proofs
abbrev hd (t : Nat) : Value := .pointer (some ⟨5, t, none⟩)
theorem valueOfC (t : Addr) (w : World) : (ReflectliteValue.unpack (.iface 73 (.pointer (some t)))).run Tryz.prog w = .ok (.agg #[hd 73, .pointer (some ⟨w.heap.size, 0, none⟩), .int .u64 150]) (w.alloc (.cells #[.pointer (some t)] 73)) := by kernel_rfl
theorem valueOfF (t : Addr) (w : World) : (ReflectliteValue.unpack (.iface 74 (.pointer (some t)))).run Tryz.prog w = .ok (.agg #[hd 74, .pointer (some ⟨w.heap.size, 0, none⟩), .int .u64 150]) (w.alloc (.cells #[.pointer (some t)] 74)) := by kernel_rfl
theorem typeC (a : Addr) (w : World) : (ReflectliteValue.methodAny (ReflectliteValue.valueError "reflectlite.Value.Type" 0) (fun t _ _ _ => ReflectliteType.toType t) #[.agg #[hd 73, .pointer (some a), .int .u64 150]]).run Tryz.prog w = .ok (.iface 129 (.agg #[hd 73])) w := by kernel_rfl
theorem typeF (a : Addr) (w : World) : (ReflectliteValue.methodAny (ReflectliteValue.valueError "reflectlite.Value.Type" 0) (fun t _ _ _ => ReflectliteType.toType t) #[.agg #[hd 74, .pointer (some a), .int .u64 150]]).run Tryz.prog w = .ok (.iface 129 (.agg #[hd 74])) w := by kernel_rfl
theorem methodKind (h : Value) (w : World) : (Go.method 327 129 (.agg #[h]) "Kind").run Tryz.prog w = .ok (188, h) w := by kernel_rfl
theorem methodElem (h : Value) (w : World) : (Go.method 327 129 (.agg #[h]) "Elem").run Tryz.prog w = .ok (200, .agg #[h]) w := by kernel_rfl
theorem methodImplements (h : Value) (w : World) : (Go.method 327 129 (.agg #[h]) "Implements").run Tryz.prog w = .ok (201, .agg #[h]) w := by kernel_rfl
theorem methodAssignableTo (h : Value) (w : World) : (Go.method 327 129 (.agg #[h]) "AssignableTo").run Tryz.prog w = .ok (198, .agg #[h]) w := by kernel_rfl
theorem kindPC (w : World) : ((ReflectliteType.abiMethod fun t => (fun a : Nat => Value.int IntKind.u8 (a : Int)) <$> Rtype.kind t) #[hd 73]).run Tryz.prog w = .ok (.int .u8 22) w := by kernel_rfl
theorem kindPF (w : World) : ((ReflectliteType.abiMethod fun t => (fun a : Nat => Value.int IntKind.u8 (a : Int)) <$> Rtype.kind t) #[hd 74]).run Tryz.prog w = .ok (.int .u8 22) w := by kernel_rfl
theorem kindCO (w : World) : ((ReflectliteType.abiMethod fun t => (fun a : Nat => Value.int IntKind.u8 (a : Int)) <$> Rtype.kind t) #[hd 55]).run Tryz.prog w = .ok (.int .u8 2) w := by kernel_rfl
theorem kindFA (w : World) : ((ReflectliteType.abiMethod fun t => (fun a : Nat => Value.int IntKind.u8 (a : Int)) <$> Rtype.kind t) #[hd 58]).run Tryz.prog w = .ok (.int .u8 22) w := by kernel_rfl
theorem rlm (z : Sem Value) (f : TypeId → Addr → Nat → Nat → Sem Value) (v : Value) :
    ReflectliteValue.method z f #[v] = (do match ← ReflectliteValue.parts v with | none => z | some (t, a, fl) => f t a fl (fl % 32)) := rfl
theorem partsPC (a : Addr) (w : World) : (ReflectliteValue.parts (.agg #[hd 73, .pointer (some a), .int .u64 150])).run Tryz.prog w = .ok (some (73, a, 150)) w := by kernel_rfl
theorem partsPF (a : Addr) (w : World) : (ReflectliteValue.parts (.agg #[hd 74, .pointer (some a), .int .u64 150])).run Tryz.prog w = .ok (some (74, a, 150)) w := by kernel_rfl
theorem isNilC (a p : Addr) (W : World) (ha : W.cell? a = some (.pointer (some p))) :
    (ReflectliteValue.method (ReflectliteValue.valueError "reflectlite.Value.IsNil" 0) ReflectliteValue.isNil #[.agg #[hd 73, .pointer (some a), .int .u64 150]]).run Tryz.prog W = .ok (.bool false) W := by
  rw [rlm]
  simp only [Sem.run_bind, partsPC, Result.andThen]
  simp [ReflectliteValue.isNil, loadVar, isAgg, underlying, Tryz.underlying73, ha, Result.andThen]
theorem isNilF (a p : Addr) (W : World) (ha : W.cell? a = some (.pointer (some p))) :
    (ReflectliteValue.method (ReflectliteValue.valueError "reflectlite.Value.IsNil" 0) ReflectliteValue.isNil #[.agg #[hd 74, .pointer (some a), .int .u64 150]]).run Tryz.prog W = .ok (.bool false) W := by
  rw [rlm]
  simp only [Sem.run_bind, partsPF, Result.andThen]
  simp [ReflectliteValue.isNil, loadVar, isAgg, underlying, Tryz.underlying74, ha, Result.andThen]
theorem elemC (w : World) : (ReflectliteType.method ReflectliteType.elem #[.agg #[hd 73]]).run Tryz.prog w = .ok (.iface 129 (.agg #[hd 55])) w := by kernel_rfl
theorem elemF (w : World) : (ReflectliteType.method ReflectliteType.elem #[.agg #[hd 74]]).run Tryz.prog w = .ok (.iface 129 (.agg #[hd 58])) w := by kernel_rfl
theorem implC (w : World) : (ReflectliteType.relation "Implements" ReflectliteType.implements_ #[.agg #[hd 55], .iface 129 (.agg #[hd 29])]).run Tryz.prog w = .ok (.bool true) w := by kernel_rfl
theorem implF (w : World) : (ReflectliteType.relation "Implements" ReflectliteType.implements_ #[.agg #[hd 58], .iface 129 (.agg #[hd 29])]).run Tryz.prog w = .ok (.bool true) w := by kernel_rfl
theorem typeOfC (v : Value) (w : World) : (ReflectliteType.typeOf #[.iface 55 v]).run Tryz.prog w = .ok (.iface 129 (.agg #[hd 55])) w := by kernel_rfl
theorem typeOfF (v : Value) (w : World) : (ReflectliteType.typeOf #[.iface 58 v]).run Tryz.prog w = .ok (.iface 129 (.agg #[hd 58])) w := by kernel_rfl
theorem asgCC (w : World) : (ReflectliteType.relation "AssignableTo" ReflectliteType.assignableTo #[.agg #[hd 55], .iface 129 (.agg #[hd 55])]).run Tryz.prog w = .ok (.bool true) w := by kernel_rfl
theorem asgFF (w : World) : (ReflectliteType.relation "AssignableTo" ReflectliteType.assignableTo #[.agg #[hd 58], .iface 129 (.agg #[hd 58])]).run Tryz.prog w = .ok (.bool true) w := by kernel_rfl
theorem asgCF (w : World) : (ReflectliteType.relation "AssignableTo" ReflectliteType.assignableTo #[.agg #[hd 55], .iface 129 (.agg #[hd 58])]).run Tryz.prog w = .ok (.bool false) w := by kernel_rfl
theorem asgFC (w : World) : (ReflectliteType.relation "AssignableTo" ReflectliteType.assignableTo #[.agg #[hd 58], .iface 129 (.agg #[hd 55])]).run Tryz.prog w = .ok (.bool false) w := by kernel_rfl
theorem valueOfCO (n : Int) (w : World) : (ReflectliteValue.unpack (.iface 55 (.int .i64 n))).run Tryz.prog w = .ok (.agg #[hd 55, .pointer (some ⟨w.heap.size, 0, none⟩), .int .u64 130]) (w.alloc (.cells #[.int .i64 n] 55)) := by kernel_rfl
theorem valueOfFA (e : Addr) (w : World) : (ReflectliteValue.unpack (.iface 58 (.pointer (some e)))).run Tryz.prog w = .ok (.agg #[hd 58, .pointer (some ⟨w.heap.size, 0, none⟩), .int .u64 150]) (w.alloc (.cells #[.pointer (some e)] 58)) := by kernel_rfl
theorem elemOfPC (w : World) : (Rtype.elem? 73).run Tryz.prog w = .ok (some 55) w := by kernel_rfl
theorem elemOfPF (w : World) : (Rtype.elem? 74).run Tryz.prog w = .ok (some 58) w := by kernel_rfl
theorem mkCO (p : Addr) (w : World) : (ReflectliteValue.mk 55 p ReflectliteValue.flagAddr).run Tryz.prog w = .ok (.agg #[hd 55, .pointer (some p), .int .u64 386]) w := by kernel_rfl
theorem mkFA (p : Addr) (w : World) : (ReflectliteValue.mk 58 p ReflectliteValue.flagAddr).run Tryz.prog w = .ok (.agg #[hd 58, .pointer (some p), .int .u64 406]) w := by kernel_rfl
theorem elemVC (a p : Addr) (W : World) (ha : W.cell? a = some (.pointer (some p))) :
    (ReflectliteValue.method (ReflectliteValue.valueError "reflectlite.Value.Elem" 0) ReflectliteValue.elem #[.agg #[hd 73, .pointer (some a), .int .u64 150]]).run Tryz.prog W = .ok (.agg #[hd 55, .pointer (some p), .int .u64 386]) W := by
  rw [rlm]
  simp only [Sem.run_bind, partsPC, Result.andThen]
  simp [ReflectliteValue.elem, loadVar, isAgg, underlying, Tryz.underlying73, ha, Result.andThen, elemOfPC, mkCO]
theorem elemVF (a p : Addr) (W : World) (ha : W.cell? a = some (.pointer (some p))) :
    (ReflectliteValue.method (ReflectliteValue.valueError "reflectlite.Value.Elem" 0) ReflectliteValue.elem #[.agg #[hd 74, .pointer (some a), .int .u64 150]]).run Tryz.prog W = .ok (.agg #[hd 58, .pointer (some p), .int .u64 406]) W := by
  rw [rlm]
  simp only [Sem.run_bind, partsPF, Result.andThen]
  simp [ReflectliteValue.elem, loadVar, isAgg, underlying, Tryz.underlying74, ha, Result.andThen, elemOfPF, mkFA]
theorem rls (v x : Value) : ReflectliteValue.set #[v, x] = (do
    let (some (dst, a, fl), some (src, b, _)) := (← ReflectliteValue.parts v, ← ReflectliteValue.parts x)
      | unsupported (.noEntry "extern/(internal/reflectlite.Value).Set.zeroValue")
    if fl / ReflectliteValue.flagAddr % 2 == 0 then unsupported (.noEntry "extern/(internal/reflectlite.Value).Set.unaddressable")
    let val ← loadVar src b
    if ← Rtype.directlyAssignable dst src then storeVar dst a val
    else if ← Rtype.implements dst src then
      if (← Rtype.kind src) == 20 then
        match val with
        | .nilIface => unsupported (.noEntry "extern/reflectlite: a nil value of one interface type handed on as a value of another")
        | _ => storeVar dst a val
      else storeVar dst a (.iface src val)
    else panicString ("reflectlite.Set: value of type " ++ (← Rtype.spelt src) ++ " is not assignable to type " ++ (← Rtype.spelt dst))
    pure (.tuple #[])) := rfl
theorem partsCOa (a : Addr) (w : World) : (ReflectliteValue.parts (.agg #[hd 55, .pointer (some a), .int .u64 386])).run Tryz.prog w = .ok (some (55, a, 386)) w := by kernel_rfl
theorem partsCO (a : Addr) (w : World) : (ReflectliteValue.parts (.agg #[hd 55, .pointer (some a), .int .u64 130])).run Tryz.prog w = .ok (some (55, a, 130)) w := by kernel_rfl
theorem partsFAa (a : Addr) (w : World) : (ReflectliteValue.parts (.agg #[hd 58, .pointer (some a), .int .u64 406])).run Tryz.prog w = .ok (some (58, a, 406)) w := by kernel_rfl
theorem partsFA (a : Addr) (w : World) : (ReflectliteValue.parts (.agg #[hd 58, .pointer (some a), .int .u64 150])).run Tryz.prog w = .ok (some (58, a, 150)) w := by kernel_rfl
theorem directCO (w : World) : (Rtype.directlyAssignable 55 55).run Tryz.prog w = .ok true w := by kernel_rfl
theorem directFA (w : World) : (Rtype.directlyAssignable 58 58).run Tryz.prog w = .ok true w := by kernel_rfl
theorem setCO (ta b : Addr) (n : Int) (old : Value) (W : World) (hb : W.cell? b = some (.int .i64 n)) (ht : W.cell? ta = some old) (hf : W.frozen? ta = false) :
    (ReflectliteValue.set #[.agg #[hd 55, .pointer (some ta), .int .u64 386], .agg #[hd 55, .pointer (some b), .int .u64 130]]).run Tryz.prog W = .ok (.tuple #[]) (W.setCell ta (.int .i64 n)) := by
  rw [rls]
  simp only [Sem.run_bind, partsCOa, partsCO, Result.andThen]
  simp [ReflectliteValue.flagAddr, loadVar, isAgg, underlying, Tryz.underlying55, hb, Result.andThen, directCO, storeVar, Value.cells, storeCells, Addr.add]
  rw [run_store Tryz.prog W ta _ _ (by rfl)]
  simp [ht, hf]
theorem setFA (ta b e : Addr) (old : Value) (W : World) (hb : W.cell? b = some (.pointer (some e))) (ht : W.cell? ta = some old) (hf : W.frozen? ta = false) :
    (ReflectliteValue.set #[.agg #[hd 58, .pointer (some ta), .int .u64 406], .agg #[hd 58, .pointer (some b), .int .u64 150]]).run Tryz.prog W = .ok (.tuple #[]) (W.setCell ta (.pointer (some e))) := by
  rw [rls]
  simp only [Sem.run_bind, partsFAa, partsFA, Result.andThen]
  simp [ReflectliteValue.flagAddr, loadVar, isAgg, underlying, Tryz.underlying58, hb, Result.andThen, directFA, storeVar, Value.cells, storeCells, Addr.add]
  rw [run_store Tryz.prog W ta _ _ (by rfl)]
  simp [ht, hf]
theorem noAsC (v : Value) (xT : TypeId) (w : World) : (Instr.typeAssert (.iface 55 v) xT 134 true).run Tryz.prog w = .ok (.tuple #[.nilIface, .bool false]) w := run_typeAssert_lacksB Tryz.underlying134 (by kernel_rfl) (by kernel_rfl) v xT w
theorem noAsF (v : Value) (xT : TypeId) (w : World) : (Instr.typeAssert (.iface 58 v) xT 134 true).run Tryz.prog w = .ok (.tuple #[.nilIface, .bool false]) w := run_typeAssert_lacksB Tryz.underlying134 (by kernel_rfl) (by kernel_rfl) v xT w
theorem noUnC (v : Value) (xT : TypeId) (w : World) : (Instr.typeAssert (.iface 55 v) xT 137 true).run Tryz.prog w = .ok (.tuple #[.nilIface, .bool false]) w := run_typeAssert_lacksB Tryz.underlying137 (by kernel_rfl) (by kernel_rfl) v xT w
theorem noUlC (v : Value) (xT : TypeId) (w : World) : (Instr.typeAssert (.iface 55 v) xT 139 true).run Tryz.prog w = .ok (.tuple #[.nilIface, .bool false]) w := run_typeAssert_lacksB Tryz.underlying139 (by kernel_rfl) (by kernel_rfl) v xT w
theorem unF (v : Value) (xT : TypeId) (w : World) : (Instr.typeAssert (.iface 58 v) xT 137 true).run Tryz.prog w = .ok (.tuple #[.iface 58 v, .bool true]) w := run_typeAssert_hasB Tryz.underlying137 (by kernel_rfl) v xT w
theorem methodUnwrap (h : Addr) (w : World) : (Go.method 327 58 (.pointer (some h)) "Unwrap").run Tryz.prog w = .ok (193, .pointer (some h)) w := by kernel_rfl
end Go.Proofs.Tryz.AsP
end
section
namespace Go.Proofs.Tryz.AsP
open Go.RowKit Go.Extern.Stop Go.Stop Go.Extern Go.Proofs
inductive Al (w : World) : World → Prop
  | refl : Al w w
  | step {w1 : World} (o : Obj) (h : Al w w1) : Al w (w1.alloc o)
abbrev vC (w : World) : Obj := .cells #[hd 73, .pointer (some ⟨w.heap.size, 0, none⟩), .int .u64 150] 103
abbrev vF (w : World) : Obj := .cells #[hd 74, .pointer (some ⟨w.heap.size, 0, none⟩), .int .u64 150] 103
set_option maxHeartbeats 4000000 in
theorem as_CC (n : Int) (t : Addr) (old : Value) (w : World) (hg : w.cell? ⟨0, 0, none⟩ = some (.iface 129 (.agg #[hd 29]))) (ht0 : w.cell? t = some old) (hf0 : w.frozen? t = false) :
    Calls Tryz.prog 35 #[.iface 55 (.int .i64 n), .iface 73 (.pointer (some t))] w fun ev w' => ev = .returned (.bool true) ∧ ∃ w1, Al w w1 ∧ w' = w1.setCell t (.int .i64 n) := by
  have h6 := @run_callFunc_extern Tryz.prog 61 _ (fun args => ReflectliteValue.unpack (args.getD 0 (.tuple #[]))) Tryz.func61 (by kernel_rfl) (by kernel_rfl) (by kernel_rfl) (by kernel_rfl)
  have h7 := @run_callFunc_extern Tryz.prog 62 _ (ReflectliteValue.methodAny (ReflectliteValue.valueError "reflectlite.Value.Type" 0) (fun t _ _ _ => ReflectliteType.toType t)) Tryz.func62 (by kernel_rfl) (by kernel_rfl) (by kernel_rfl) (by kernel_rfl)
  have h8 := @run_callFunc_extern Tryz.prog 63 _ (ReflectliteValue.method (ReflectliteValue.valueError "reflectlite.Value.IsNil" 0) ReflectliteValue.isNil) Tryz.func63 (by kernel_rfl) (by kernel_rfl) (by kernel_rfl) (by kernel_rfl)
  have h27 := @run_callFunc_extern Tryz.prog 188 _ (ReflectliteType.abiMethod fun t => do pure (.int .u8 (← Rtype.kind t))) Tryz.func188 (by kernel_rfl) (by kernel_rfl) (by kernel_rfl) (by kernel_rfl)
  have h37 := @run_callFunc_extern Tryz.prog 200 _ (ReflectliteType.method ReflectliteType.elem) Tryz.func200 (by kernel_rfl) (by kernel_rfl) (by kernel_rfl) (by kernel_rfl)
  have h38 := @run_callFunc_extern Tryz.prog 201 _ (ReflectliteType.relation "Implements" ReflectliteType.implements_) Tryz.func201 (by kernel_rfl) (by kernel_rfl) (by kernel_rfl) (by kernel_rfl)
  have h10 := @run_callFunc_extern Tryz.prog 94 _ ReflectliteType.typeOf Tryz.func94 (by kernel_rfl) (by kernel_rfl) (by kernel_rfl) (by kernel_rfl)
  have h35 := @run_callFunc_extern Tryz.prog 198 _ (ReflectliteType.relation "AssignableTo" ReflectliteType.assignableTo) Tryz.func198 (by kernel_rfl) (by kernel_rfl) (by kernel_rfl) (by kernel_rfl)
  have h11 := @run_callFunc_extern Tryz.prog 95 _ (ReflectliteValue.method (ReflectliteValue.valueError "reflectlite.Value.Elem" 0) ReflectliteValue.elem) Tryz.func95 (by kernel_rfl) (by kernel_rfl) (by kernel_rfl) (by kernel_rfl)
  have h12 := @run_callFunc_extern Tryz.prog 96 _ ReflectliteValue.set Tryz.func96 (by kernel_rfl) (by kernel_rfl) (by kernel_rfl) (by kernel_rfl)
  have tO := typeOfC
  have mA := methodAssignableTo
  have a25 := asgCC
  have v25 := valueOfCO
  have f6 := valueOfC
  have f7 := typeC
  have mK := methodKind
  have mE := methodElem
  have mI := methodImplements
  have k27 := kindPC
  have k25 := kindCO
  have e27 := elemC
  have i25 := implC
  have n8 := isNilC ⟨w.heap.size, 0, none⟩ t ((w.alloc (.cells #[.pointer (some t)] 73)).alloc (vC w)) (by simp)
  have hlt : 0 < w.heap.size := by
    rcases Nat.lt_or_ge 0 w.heap.size with h | h
    · exact h
    · simp [World.cell?, Array.getElem?_eq_none h] at hg
  have hg2 : ((w.alloc (.cells #[.pointer (some t)] 73)).alloc (vC w)).cell? ⟨0, 0, none⟩ = some (.iface 129 (.agg #[hd 29])) := by
    rw [World.cell?_alloc_lt _ _ ⟨0, 0, none⟩ (by simp <;> omega), World.cell?_alloc_lt _ _ ⟨0, 0, none⟩ hlt]; exact hg
  have htl : t.block < w.heap.size := by
    rcases Nat.lt_or_ge t.block w.heap.size with h | h
    · exact h
    · simp [World.cell?, Array.getElem?_eq_none h] at ht0
  have el := elemVC ⟨w.heap.size, 0, none⟩ t (((w.alloc (.cells #[.pointer (some t)] 73)).alloc (vC w)).alloc (vC w)) (by rw [World.cell?_alloc_lt _ _ ⟨w.heap.size, 0, none⟩ (by simp; omega)]; simp)
  have st := setCO t ⟨w.heap.size + 1 + 1 + 1, 0, none⟩ n old ((((w.alloc (.cells #[.pointer (some t)] 73)).alloc (vC w)).alloc (vC w)).alloc (.cells #[.int .i64 n] 55))
    (by rw [World.cell?_alloc_at _ _ _ _ (by simp)]; rfl)
    (by rw [World.cell?_alloc_lt _ _ t (by simp; omega), World.cell?_alloc_lt _ _ t (by simp; omega), World.cell?_alloc_lt _ _ t (by simp; omega), World.cell?_alloc_lt _ _ t htl]; exact ht0)
    (by rw [World.frozen?_alloc_old _ _ t (by simp; omega), World.frozen?_alloc_old _ _ t (by simp; omega), World.frozen?_alloc_old _ _ t (by simp; omega), World.frozen?_alloc_old _ _ t (Nat.ne_of_lt htl)]; exact hf0)
  go_enter Tryz.func35, Tryz.ntmps35
  go_wp2
  refine wp_loop_rounds 1 ?_
  rw [rounds_succ]
  go_wp2
  go_ret
  exact ⟨rfl, _, .step _ (.step _ (.step _ (.step _ .refl))), rfl⟩
end Go.Proofs.Tryz.AsP
end
section
namespace Go.Proofs.Tryz.AsP
open Go.RowKit Go.Extern.Stop Go.Stop Go.Extern Go.Proofs
set_option maxHeartbeats 4000000 in
theorem as_FF (e : Addr) (t : Addr) (old : Value) (w : World) (hg : w.cell? ⟨0, 0, none⟩ = some (.iface 129 (.agg #[hd 29]))) (ht0 : w.cell? t = some old) (hf0 : w.frozen? t = false) :
    Calls Tryz.prog 35 #[.iface 58 (.pointer (some e)), .iface 74 (.pointer (some t))] w fun ev w' => ev = .returned (.bool true) ∧ ∃ w1, Al w w1 ∧ w' = w1.setCell t (.pointer (some e)) := by
  have h6 := @run_callFunc_extern Tryz.prog 61 _ (fun args => ReflectliteValue.unpack (args.getD 0 (.tuple #[]))) Tryz.func61 (by kernel_rfl) (by kernel_rfl) (by kernel_rfl) (by kernel_rfl)
  have h7 := @run_callFunc_extern Tryz.prog 62 _ (ReflectliteValue.methodAny (ReflectliteValue.valueError "reflectlite.Value.Type" 0) (fun t _ _ _ => ReflectliteType.toType t)) Tryz.func62 (by kernel_rfl) (by kernel_rfl) (by kernel_rfl) (by kernel_rfl)
  have h8 := @run_callFunc_extern Tryz.prog 63 _ (ReflectliteValue.method (ReflectliteValue.valueError "reflectlite.Value.IsNil" 0) ReflectliteValue.isNil) Tryz.func63 (by kernel_rfl) (by kernel_rfl) (by kernel_rfl) (by kernel_rfl)
  have h27 := @run_callFunc_extern Tryz.prog 188 _ (ReflectliteType.abiMethod fun t => do pure (.int .u8 (← Rtype.kind t))) Tryz.func188 (by kernel_rfl) (by kernel_rfl) (by kernel_rfl) (by kernel_rfl)
  have h37 := @run_callFunc_extern Tryz.prog 200 _ (ReflectliteType.method ReflectliteType.elem) Tryz.func200 (by kernel_rfl) (by kernel_rfl) (by kernel_rfl) (by kernel_rfl)
  have h38 := @run_callFunc_extern Tryz.prog 201 _ (ReflectliteType.relation "Implements" ReflectliteType.implements_) Tryz.func201 (by kernel_rfl) (by kernel_rfl) (by kernel_rfl) (by kernel_rfl)
  have h10 := @run_callFunc_extern Tryz.prog 94 _ ReflectliteType.typeOf Tryz.func94 (by kernel_rfl) (by kernel_rfl) (by kernel_rfl) (by kernel_rfl)
  have h35 := @run_callFunc_extern Tryz.prog 198 _ (ReflectliteType.relation "AssignableTo" ReflectliteType.assignableTo) Tryz.func198 (by kernel_rfl) (by kernel_rfl) (by kernel_rfl) (by kernel_rfl)
  have h11 := @run_callFunc_extern Tryz.prog 95 _ (ReflectliteValue.method (ReflectliteValue.valueError "reflectlite.Value.Elem" 0) ReflectliteValue.elem) Tryz.func95 (by kernel_rfl) (by kernel_rfl) (by kernel_rfl) (by kernel_rfl)
  have h12 := @run_callFunc_extern Tryz.prog 96 _ ReflectliteValue.set Tryz.func96 (by kernel_rfl) (by kernel_rfl) (by kernel_rfl) (by kernel_rfl)
  have tO := typeOfF
  have mA := methodAssignableTo
  have a25 := asgFF
  have v25 := valueOfFA
  have f6 := valueOfF
  have f7 := typeF
  have mK := methodKind
  have mE := methodElem
  have mI := methodImplements
  have k27 := kindPF
  have k25 := kindFA
  have e27 := elemF
  have i25 := implF
  have n8 := isNilF ⟨w.heap.size, 0, none⟩ t ((w.alloc (.cells #[.pointer (some t)] 74)).alloc (vF w)) (by simp)
  have hlt : 0 < w.heap.size := by
    rcases Nat.lt_or_ge 0 w.heap.size with h | h
    · exact h
    · simp [World.cell?, Array.getElem?_eq_none h] at hg
  have hg2 : ((w.alloc (.cells #[.pointer (some t)] 74)).alloc (vF w)).cell? ⟨0, 0, none⟩ = some (.iface 129 (.agg #[hd 29])) := by
    rw [World.cell?_alloc_lt _ _ ⟨0, 0, none⟩ (by simp <;> omega), World.cell?_alloc_lt _ _ ⟨0, 0, none⟩ hlt]; exact hg
  have htl : t.block < w.heap.size := by
    rcases Nat.lt_or_ge t.block w.heap.size with h | h
    · exact h
    · simp [World.cell?, Array.getElem?_eq_none h] at ht0
  have el := elemVF ⟨w.heap.size, 0, none⟩ t (((w.alloc (.cells #[.pointer (some t)] 74)).alloc (vF w)).alloc (vF w)) (by rw [World.cell?_alloc_lt _ _ ⟨w.heap.size, 0, none⟩ (by simp; omega)]; simp)
  have st := setFA t ⟨w.heap.size + 1 + 1 + 1, 0, none⟩ e old ((((w.alloc (.cells #[.pointer (some t)] 74)).alloc (vF w)).alloc (vF w)).alloc (.cells #[.pointer (some e)] 58))
    (by rw [World.cell?_alloc_at _ _ _ _ (by simp)]; rfl)
    (by rw [World.cell?_alloc_lt _ _ t (by simp; omega), World.cell?_alloc_lt _ _ t (by simp; omega), World.cell?_alloc_lt _ _ t (by simp; omega), World.cell?_alloc_lt _ _ t htl]; exact ht0)
    (by rw [World.frozen?_alloc_old _ _ t (by simp; omega), World.frozen?_alloc_old _ _ t (by simp; omega), World.frozen?_alloc_old _ _ t (by simp; omega), World.frozen?_alloc_old _ _ t (Nat.ne_of_lt htl)]; exact hf0)
  go_enter Tryz.func35, Tryz.ntmps35
  go_wp2
  refine wp_loop_rounds 1 ?_
  rw [rounds_succ]
  go_wp2
  go_ret
  exact ⟨rfl, _, .step _ (.step _ (.step _ (.step _ .refl))), rfl⟩
set_option maxHeartbeats 4000000 in
theorem as_CF (n : Int) (t : Addr) (old : Value) (w : World) (hg : w.cell? ⟨0, 0, none⟩ = some (.iface 129 (.agg #[hd 29]))) (ht0 : w.cell? t = some old) (hf0 : w.frozen? t = false) :
    Calls Tryz.prog 35 #[.iface 55 (.int .i64 n), .iface 74 (.pointer (some t))] w fun ev w' => ev = .returned (.bool false) ∧ Al w w' := by
  have h6 := @run_callFunc_extern Tryz.prog 61 _ (fun args => ReflectliteValue.unpack (args.getD 0 (.tuple #[]))) Tryz.func61 (by kernel_rfl) (by kernel_rfl) (by kernel_rfl) (by kernel_rfl)
  have h7 := @run_callFunc_extern Tryz.prog 62 _ (ReflectliteValue.methodAny (ReflectliteValue.valueError "reflectlite.Value.Type" 0) (fun t _ _ _ => ReflectliteType.toType t)) Tryz.func62 (by kernel_rfl) (by kernel_rfl) (by kernel_rfl) (by kernel_rfl)
  have h8 := @run_callFunc_extern Tryz.prog 63 _ (ReflectliteValue.method (ReflectliteValue.valueError "reflectlite.Value.IsNil" 0) ReflectliteValue.isNil) Tryz.func63 (by kernel_rfl) (by kernel_rfl) (by kernel_rfl) (by kernel_rfl)
  have h27 := @run_callFunc_extern Tryz.prog 188 _ (ReflectliteType.abiMethod fun t => do pure (.int .u8 (← Rtype.kind t))) Tryz.func188 (by kernel_rfl) (by kernel_rfl) (by kernel_rfl) (by kernel_rfl)
  have h37 := @run_callFunc_extern Tryz.prog 200 _ (ReflectliteType.method ReflectliteType.elem) Tryz.func200 (by kernel_rfl) (by kernel_rfl) (by kernel_rfl) (by kernel_rfl)
  have h38 := @run_callFunc_extern Tryz.prog 201 _ (ReflectliteType.relation "Implements" ReflectliteType.implements_) Tryz.func201 (by kernel_rfl) (by kernel_rfl) (by kernel_rfl) (by kernel_rfl)
  have h10 := @run_callFunc_extern Tryz.prog 94 _ ReflectliteType.typeOf Tryz.func94 (by kernel_rfl) (by kernel_rfl) (by kernel_rfl) (by kernel_rfl)
  have h35 := @run_callFunc_extern Tryz.prog 198 _ (ReflectliteType.relation "AssignableTo" ReflectliteType.assignableTo) Tryz.func198 (by kernel_rfl) (by kernel_rfl) (by kernel_rfl) (by kernel_rfl)
  have h11 := @run_callFunc_extern Tryz.prog 95 _ (ReflectliteValue.method (ReflectliteValue.valueError "reflectlite.Value.Elem" 0) ReflectliteValue.elem) Tryz.func95 (by kernel_rfl) (by kernel_rfl) (by kernel_rfl) (by kernel_rfl)
  have h12 := @run_callFunc_extern Tryz.prog 96 _ ReflectliteValue.set Tryz.func96 (by kernel_rfl) (by kernel_rfl) (by kernel_rfl) (by kernel_rfl)
  have tO := typeOfC
  have mA := methodAssignableTo
  have nA := noAsC
  have nU := noUnC
  have nL := noUlC
  have a25 := asgCF
  have v25 := valueOfFA
  have f6 := valueOfF
  have f7 := typeF
  have mK := methodKind
  have mE := methodElem
  have mI := methodImplements
  have k27 := kindPF
  have k25 := kindFA
  have e27 := elemF
  have i25 := implF
  have n8 := isNilF ⟨w.heap.size, 0, none⟩ t ((w.alloc (.cells #[.pointer (some t)] 74)).alloc (vF w)) (by simp)
  have hlt : 0 < w.heap.size := by
    rcases Nat.lt_or_ge 0 w.heap.size with h | h
    · exact h
    · simp [World.cell?, Array.getElem?_eq_none h] at hg
  have hg2 : ((w.alloc (.cells #[.pointer (some t)] 74)).alloc (vF w)).cell? ⟨0, 0, none⟩ = some (.iface 129 (.agg #[hd 29])) := by
    rw [World.cell?_alloc_lt _ _ ⟨0, 0, none⟩ (by simp <;> omega), World.cell?_alloc_lt _ _ ⟨0, 0, none⟩ hlt]; exact hg
  have htl : t.block < w.heap.size := by
    rcases Nat.lt_or_ge t.block w.heap.size with h | h
    · exact h
    · simp [World.cell?, Array.getElem?_eq_none h] at ht0
  have el := elemVF ⟨w.heap.size, 0, none⟩ t (((w.alloc (.cells #[.pointer (some t)] 74)).alloc (vF w)).alloc (vF w)) (by rw [World.cell?_alloc_lt _ _ ⟨w.heap.size, 0, none⟩ (by simp; omega)]; simp)
  go_enter Tryz.func35, Tryz.ntmps35
  go_wp2
  refine wp_loop_rounds 1 ?_
  rw [rounds_succ]
  go_wp2
  go_ret
  exact ⟨rfl, .step _ (.step _ (.step _ .refl))⟩
end Go.Proofs.Tryz.AsP
end
section
namespace Go.Proofs.Tryz.AsP
open Go.RowKit Go.Extern.Stop Go.Stop Go.Extern Go.Proofs
set_option maxHeartbeats 4000000 in
theorem as_FC (b o : Nat) (n : Int) (t : Addr) (old : Value) (w : World) (hg : w.cell? ⟨0, 0, none⟩ = some (.iface 129 (.agg #[hd 29]))) (ht0 : w.cell? t = some old) (hf0 : w.frozen? t = false) (hp : w.cell? ⟨b, o + 1, none⟩ = some (.iface 55 (.int .i64 n))) :
    Calls Tryz.prog 35 #[.iface 58 (.pointer (some ⟨b, o, none⟩)), .iface 73 (.pointer (some t))] w fun ev w' => ev = .returned (.bool true) ∧ ∃ w1, Al w w1 ∧ w' = w1.setCell t (.int .i64 n) := by
  have h6 := @run_callFunc_extern Tryz.prog 61 _ (fun args => ReflectliteValue.unpack (args.getD 0 (.tuple #[]))) Tryz.func61 (by kernel_rfl) (by kernel_rfl) (by kernel_rfl) (by kernel_rfl)
  have h7 := @run_callFunc_extern Tryz.prog 62 _ (ReflectliteValue.methodAny (ReflectliteValue.valueError "reflectlite.Value.Type" 0) (fun t _ _ _ => ReflectliteType.toType t)) Tryz.func62 (by kernel_rfl) (by kernel_rfl) (by kernel_rfl) (by kernel_rfl)
  have h8 := @run_callFunc_extern Tryz.prog 63 _ (ReflectliteValue.method (ReflectliteValue.valueError "reflectlite.Value.IsNil" 0) ReflectliteValue.isNil) Tryz.func63 (by kernel_rfl) (by kernel_rfl) (by kernel_rfl) (by kernel_rfl)
  have h27 := @run_callFunc_extern Tryz.prog 188 _ (ReflectliteType.abiMethod fun t => do pure (.int .u8 (← Rtype.kind t))) Tryz.func188 (by kernel_rfl) (by kernel_rfl) (by kernel_rfl) (by kernel_rfl)
  have h37 := @run_callFunc_extern Tryz.prog 200 _ (ReflectliteType.method ReflectliteType.elem) Tryz.func200 (by kernel_rfl) (by kernel_rfl) (by kernel_rfl) (by kernel_rfl)
  have h38 := @run_callFunc_extern Tryz.prog 201 _ (ReflectliteType.relation "Implements" ReflectliteType.implements_) Tryz.func201 (by kernel_rfl) (by kernel_rfl) (by kernel_rfl) (by kernel_rfl)
  have h10 := @run_callFunc_extern Tryz.prog 94 _ ReflectliteType.typeOf Tryz.func94 (by kernel_rfl) (by kernel_rfl) (by kernel_rfl) (by kernel_rfl)
  have h35 := @run_callFunc_extern Tryz.prog 198 _ (ReflectliteType.relation "AssignableTo" ReflectliteType.assignableTo) Tryz.func198 (by kernel_rfl) (by kernel_rfl) (by kernel_rfl) (by kernel_rfl)
  have h11 := @run_callFunc_extern Tryz.prog 95 _ (ReflectliteValue.method (ReflectliteValue.valueError "reflectlite.Value.Elem" 0) ReflectliteValue.elem) Tryz.func95 (by kernel_rfl) (by kernel_rfl) (by kernel_rfl) (by kernel_rfl)
  have h12 := @run_callFunc_extern Tryz.prog 96 _ ReflectliteValue.set Tryz.func96 (by kernel_rfl) (by kernel_rfl) (by kernel_rfl) (by kernel_rfl)
  have tO := typeOfC
  have tO2 := typeOfF
  have a26 := asgFC
  have nA := noAsF
  have nU := unF
  have mU := methodUnwrap
  have mA := methodAssignableTo
  have a25 := asgCC
  have v25 := valueOfCO
  have f6 := valueOfC
  have f7 := typeC
  have mK := methodKind
  have mE := methodElem
  have mI := methodImplements
  have k27 := kindPC
  have k25 := kindCO
  have e27 := elemC
  have i25 := implC
  have n8 := isNilC ⟨w.heap.size, 0, none⟩ t ((w.alloc (.cells #[.pointer (some t)] 73)).alloc (vC w)) (by simp)
  have hlt : 0 < w.heap.size := by
    rcases Nat.lt_or_ge 0 w.heap.size with h | h
    · exact h
    · simp [World.cell?, Array.getElem?_eq_none h] at hg
  have hg2 : ((w.alloc (.cells #[.pointer (some t)] 73)).alloc (vC w)).cell? ⟨0, 0, none⟩ = some (.iface 129 (.agg #[hd 29])) := by
    rw [World.cell?_alloc_lt _ _ ⟨0, 0, none⟩ (by simp <;> omega), World.cell?_alloc_lt _ _ ⟨0, 0, none⟩ hlt]; exact hg
  have htl : t.block < w.heap.size := by
    rcases Nat.lt_or_ge t.block w.heap.size with h | h
    · exact h
    · simp [World.cell?, Array.getElem?_eq_none h] at ht0
  have hbl : b < w.heap.size := by
    rcases Nat.lt_or_ge b w.heap.size with h | h
    · exact h
    · simp [World.cell?, Array.getElem?_eq_none h] at hp
  have hp2 : (((w.alloc (.cells #[.pointer (some t)] 73)).alloc (vC w)).alloc (vC w)).cell? ⟨b, o + 1, none⟩ = some (.iface 55 (.int .i64 n)) := by
    rw [World.cell?_alloc_lt _ _ ⟨b, o + 1, none⟩ (by simp <;> omega), World.cell?_alloc_lt _ _ ⟨b, o + 1, none⟩ (by simp <;> omega), World.cell?_alloc_lt _ _ ⟨b, o + 1, none⟩ hbl]; exact hp
  have el := elemVC ⟨w.heap.size, 0, none⟩ t (((w.alloc (.cells #[.pointer (some t)] 73)).alloc (vC w)).alloc (vC w)) (by rw [World.cell?_alloc_lt _ _ ⟨w.heap.size, 0, none⟩ (by simp; omega)]; simp)
  have st := setCO t ⟨w.heap.size + 1 + 1 + 1, 0, none⟩ n old ((((w.alloc (.cells #[.pointer (some t)] 73)).alloc (vC w)).alloc (vC w)).alloc (.cells #[.int .i64 n] 55))
    (by rw [World.cell?_alloc_at _ _ _ _ (by simp)]; rfl)
    (by rw [World.cell?_alloc_lt _ _ t (by simp; omega), World.cell?_alloc_lt _ _ t (by simp; omega), World.cell?_alloc_lt _ _ t (by simp; omega), World.cell?_alloc_lt _ _ t htl]; exact ht0)
    (by rw [World.frozen?_alloc_old _ _ t (by simp; omega), World.frozen?_alloc_old _ _ t (by simp; omega), World.frozen?_alloc_old _ _ t (by simp; omega), World.frozen?_alloc_old _ _ t (Nat.ne_of_lt htl)]; exact hf0)
  go_enter Tryz.func35, Tryz.ntmps35
  go_wp2
  refine wp_loop_rounds 2 ?_
  rw [rounds_succ]
  go_wp2
  rw [rounds_succ]
  go_wp2
  go_ret
  exact ⟨rfl, _, .step _ (.step _ (.step _ (.step _ .refl))), rfl⟩
end Go.Proofs.Tryz.AsP
end
section
namespace Go.Lb
inductive Alc (w : World) : World → Prop
  | refl : Alc w w
  | step {w1 : World} (o : Obj) (h : Alc w w1) : Alc w (w1.alloc o)
theorem Alc.srel {B : Nat} {fz : Fz} {h : Heap} {w w1 : World} (ha : Alc w w1) (s : SRel B fz h w) : SRel B fz h w1 ∧ Evo B fz w fz w1 := by
  induction ha with
  | refl => exact ⟨s, Evo.refl _ _ _⟩
  | step o _ ih => exact ⟨srel_alloc ih.1 o, ih.2.trans (evo_alloc ih.1 o fz fun _ _ h => h)⟩
theorem acalls_hit {X : Cx} {f : FuncId} {args : List AV} {h : Heap} {b : Nat} {E : TypeId} {old new : AV} (he : Enters X.P f) (hb : h b = some (.cells [old] E))
    (hc : ∀ fz w (cargs : Array Value), SRel X.B fz h w → GRel X.B fz w X.G → RelL fz w args cargs.toList → ∀ c0, w.cell? ⟨b, 0, none⟩ = some c0 → w.frozen? ⟨b, 0, none⟩ = false →
      ∃ cn, Rel fz w new cn ∧ Calls X.P f cargs w fun e w' => e = .returned (.bool true) ∧ ∃ w1, Alc w w1 ∧ w' = w1.setCell ⟨b, 0, none⟩ cn) :
    ACalls X f args h fun e h' => e = .ret (.bool true) ∧ h' = hset h b (.cells [new] E) := by
  refine ⟨he, fun fz w cargs h1 h2 h3 => ?_⟩
  obtain ⟨hB, cs, hcs, hrl, hnf⟩ := h1.blk b _ hb
  have hsz : cs.size = 1 := by have := RelL.length hrl; simp at this; omega
  obtain ⟨c0, hc0⟩ : ∃ c0, cs = #[c0] := by
    refine ⟨cs[0], ?_⟩
    apply Array.ext
    · simp [hsz]
    · intro i h1 h2
      simp at h2
      subst h2
      rfl
  subst hc0
  obtain ⟨cn, hn, hcall⟩ := hc fz w cargs h1 h2 h3 c0 (by simp [World.cell?, hcs]) (by simp [World.frozen?, hcs])
  refine hcall.mono ?_
  rintro e w' ⟨rfl, w1, ha, rfl⟩
  obtain ⟨s1, e1⟩ := ha.srel h1
  obtain ⟨_, cs1, hcs1, hrl1, hnf1⟩ := s1.blk b _ hb
  have hsz1 : cs1.size = 1 := by have := RelL.length hrl1; simp at this; omega
  obtain ⟨c1, hc1⟩ : ∃ c0, cs1 = #[c0] := by
    refine ⟨cs1[0], ?_⟩
    apply Array.ext
    · simp [hsz1]
    · intro i h1 h2
      simp at h2
      subst h2
      rfl
  subst hc1
  have hlt : b < w1.heap.size := (Array.getElem?_eq_some_iff.1 hcs1).1
  have hw : w1.setCell ⟨b, 0, none⟩ cn = setRow w1 b (.cells #[cn] E (0, 0)) := by
    refine world_ext_heap (fun k => ?_) rfl rfl rfl rfl
    by_cases hk : k = b
    · subst hk
      rw [setCell_heap_at _ _ _ _ hcs1, setRow_heap_at _ _ _ hlt]
      rfl
    · rw [setCell_heap_ne _ _ _ _ hk, setRow_heap_ne _ _ _ hk]
  obtain ⟨e2, s2⟩ := srel_setRow (fz' := fz) (k' := .cells [new] E) s1 hb (.cells #[cn] E (0, 0)) (fun _ _ h => h) (fun _ _ h _ => h) (fun o ho => absurd ho (hnf1 o)) (fun o ho => absurd ho (hnf1 o)) (fun ev => by
    refine ⟨#[cn], setRow_heap_at _ _ _ hlt, ?_, hnf1⟩
    simp only [RelL]
    exact ⟨cn, [], rfl, Rel.mono (e1.trans ev) _ _ hn, rfl⟩)
  rw [hw]
  exact ⟨.ret (.bool true), _, fz, ⟨rfl, rfl⟩, by simp [EndRel, Rel], s2, e1.trans e2⟩
theorem acalls_miss {X : Cx} {f : FuncId} {args : List AV} {h : Heap} (he : Enters X.P f)
    (hc : ∀ fz w (cargs : Array Value), SRel X.B fz h w → GRel X.B fz w X.G → RelL fz w args cargs.toList → Calls X.P f cargs w fun e w' => e = .returned (.bool false) ∧ Alc w w') :
    ACalls X f args h fun e h' => e = .ret (.bool false) ∧ h' = h := by
  refine ⟨he, fun fz w cargs h1 h2 h3 => (hc fz w cargs h1 h2 h3).mono ?_⟩
  rintro e w' ⟨rfl, ha⟩
  obtain ⟨s1, e1⟩ := ha.srel h1
  exact ⟨.ret (.bool false), _, fz, ⟨rfl, rfl⟩, by simp [EndRel, Rel], s1, e1⟩
theorem cell_of_grel {B : Nat} {fz : Fz} {w : World} {G : Nat → AV} {g rt ng er : Nat} (hG : GRel B fz w G) (hv : G g = .agg [.iface rt (.agg [.ptr ng er])]) : w.cell? ⟨g, 0, none⟩ = some (.iface rt (.agg #[.pointer (some ⟨ng, er, none⟩)])) := by
  have h := hG g
  rw [hv] at h
  obtain ⟨_, cs, E, fr, h1, h2⟩ := h
  simp only [RelL] at h2
  obtain ⟨c, l, e1, h3, rfl⟩ := h2
  simp only [Rel] at h3
  obtain ⟨x, rfl, vs, rfl, h4⟩ := h3
  simp only [RelL] at h4
  obtain ⟨c2, l2, e2, h5, rfl⟩ := h4
  simp only [Rel] at h5
  subst h5
  have : vs = #[.pointer (some ⟨ng, er, none⟩)] := by
    apply Array.toList_inj.1
    simpa using e2
  subst this
  have : cs = #[.iface rt (.agg #[.pointer (some ⟨ng, er, none⟩)])] := by
    apply Array.toList_inj.1
    simpa using e1
  subst this
  simp [World.cell?, h1]
end Go.Lb
end
section
set_option maxRecDepth 100000
namespace Go.Lb.R
open Go.Proofs
open Go.Lb
open Go.Proofs.Tryz.AsP (as_CC as_FF as_CF as_FC)
theorem al_alc {w w' : World} (h : Go.Proofs.Tryz.AsP.Al w w') : Alc w w' := by
  induction h with
  | refl => exact .refl
  | step o _ ih => exact .step o ih
theorem asEnters : Enters Tryz.prog 35 := ⟨Tryz.f35, _, Tryz.func35, rfl, by kernel_rfl⟩
theorem et_cell {B : Nat} {fz : Fz} {w : World} (hG : GRel B fz w G0) : w.cell? ⟨0, 0, none⟩ = some (.iface 129 (.agg #[.pointer (some ⟨5, 29, none⟩)])) := cell_of_grel hG (by rfl)
theorem rel2 {fz : Fz} {w : World} {t1 t2 b : Nat} {v : AV} {cargs : Array Value} (h : RelL fz w [.iface t1 v, .iface t2 (.ptr b 0)] cargs.toList) : ∃ c, cargs = #[.iface t1 c, .iface t2 (.pointer (some ⟨b, 0, none⟩))] ∧ Rel fz w v c := by
  simp only [RelL, Rel] at h
  obtain ⟨c, l, e1, ⟨x, rfl, hx⟩, c2, l2, rfl, ⟨y, rfl, rfl⟩, rfl⟩ := h
  exact ⟨x, Array.toList_inj.1 (by simpa using e1), hx⟩
theorem asA_CC (B : Nat) (n : Int) {h : Heap} {b : Nat} {old : AV} {E : TypeId} (hb : h b = some (.cells [old] E)) : ACalls (X B) 35 [.iface 55 (.int .i64 n), .iface 73 (.ptr b 0)] h fun e h' => e = .ret (.bool true) ∧ h' = hset h b (.cells [.int .i64 n] E) :=
  acalls_hit asEnters hb fun fz w cargs h1 h2 h3 c0 hc0 hf0 => by
    obtain ⟨c, rfl, hc⟩ := rel2 h3
    simp only [Rel] at hc
    subst hc
    refine ⟨.int .i64 n, by simp only [Rel], (as_CC n ⟨b, 0, none⟩ c0 w (et_cell h2) hc0 hf0).mono ?_⟩
    rintro e w' ⟨rfl, w1, ha, rfl⟩
    exact ⟨rfl, w1, al_alc ha, rfl⟩
theorem asA_FC (B : Nat) (p n : Int) {h : Heap} {b : Nat} {old : AV} {E : TypeId} (hb : h b = some (.cells [old] E)) : ACalls (X B) 35 [aErr 55 58 (.fault p (.code n)), .iface 73 (.ptr b 0)] h fun e h' => e = .ret (.bool true) ∧ h' = hset h b (.cells [.int .i64 n] E) :=
  acalls_hit asEnters hb fun fz w cargs h1 h2 h3 c0 hc0 hf0 => by
    obtain ⟨c, rfl, hc⟩ := rel2 h3
    simp only [Rel] at hc
    obtain ⟨pb, po, rfl, hc⟩ := hc
    simp only [RelAt, aErr, Rel] at hc
    obtain ⟨_, ⟨c2, hc2, _, x, rfl, rfl⟩, _⟩ := hc
    refine ⟨.int .i64 n, by simp only [Rel], (as_FC pb po n ⟨b, 0, none⟩ c0 w (et_cell h2) hc0 hf0 hc2).mono ?_⟩
    rintro e w' ⟨rfl, w1, ha, rfl⟩
    exact ⟨rfl, w1, al_alc ha, rfl⟩
theorem asA_FF (B : Nat) (cs : List AV) {h : Heap} {b : Nat} {old : AV} {E : TypeId} (hb : h b = some (.cells [old] E)) : ACalls (X B) 35 [.iface 58 (.ro cs), .iface 74 (.ptr b 0)] h fun e h' => e = .ret (.bool true) ∧ h' = hset h b (.cells [.ro cs] E) :=
  acalls_hit asEnters hb fun fz w cargs h1 h2 h3 c0 hc0 hf0 => by
    obtain ⟨c, rfl, hc⟩ := rel2 h3
    have hc' := hc
    simp only [Rel] at hc
    obtain ⟨pb, po, rfl, hc⟩ := hc
    refine ⟨_, hc', (as_FF ⟨pb, po, none⟩ ⟨b, 0, none⟩ c0 w (et_cell h2) hc0 hf0).mono ?_⟩
    rintro e w' ⟨rfl, w1, ha, rfl⟩
    exact ⟨rfl, w1, al_alc ha, rfl⟩
theorem asA_CF (B : Nat) (n : Int) {h : Heap} {b : Nat} {old : AV} {E : TypeId} (hb : h b = some (.cells [old] E)) : ACalls (X B) 35 [.iface 55 (.int .i64 n), .iface 74 (.ptr b 0)] h fun e h' => e = .ret (.bool false) ∧ h' = h :=
  acalls_miss asEnters fun fz w cargs h1 h2 h3 => by
    obtain ⟨c, rfl, hc⟩ := rel2 h3
    simp only [Rel] at hc
    subst hc
    obtain ⟨_, cs, hcs, hrl, hnf⟩ := h1.blk b _ hb
    have hsz : cs.size = 1 := by have := RelL.length hrl; simp at this; omega
    refine (as_CF n ⟨b, 0, none⟩ cs[0] w (et_cell h2) (by simp [World.cell?, hcs, hsz]) (by simp [World.frozen?, hcs])).mono ?_
    rintro e w' ⟨rfl, ha⟩
    exact ⟨rfl, al_alc ha⟩
def codeI (n : Int) : Int := bif decide (n > 0) then n else -1
def codeF : GErr → Option Int
  | .nil => some 0
  | .code n => some (codeI n)
  | .fault _ (.code n) => some (codeI n)
  | _ => none
noncomputable def bC : Code := Tryz.f20.body.getD .skip
noncomputable def c0 : Array Oper := match bC with | .seq (.region _ o _) _ => o | _ => #[]
noncomputable def c1 : Array Oper := match bC with | .seq _ (.seq (.seq (.region _ o _) _) _) => o | _ => #[]
noncomputable def c2 : Array Oper := match bC with | .seq _ (.seq (.seq _ (.cond _ (.seq (.region _ o _) _) _)) _) => o | _ => #[]
noncomputable def c3 : Array Oper := match bC with | .seq _ (.seq _ (.seq (.region _ o _) _)) => o | _ => #[]
noncomputable def c4 : Array Oper := match bC with | .seq _ (.seq _ (.seq _ (.seq (.seq (.region _ o _) _) _))) => o | _ => #[]
noncomputable def c5 : Array Oper := match bC with | .seq _ (.seq _ (.seq _ (.seq (.seq _ (.cond _ (.seq (.region _ o _) _) _)) _))) => o | _ => #[]
noncomputable def c6 : Array Oper := match bC with | .seq _ (.seq _ (.seq _ (.seq _ (.seq (.region _ o _) _)))) => o | _ => #[]
theorem bC_eq : bC = .seq (.region 0 c0 false) (.seq (.seq (.region 1 c1 false) (.cond (.tmp 5) (.seq (.region 2 c2 false) .ret) .skip)) (.seq (.region 3 c3 false) (.seq (.seq (.region 4 c4 false) (.cond (.tmp 12) (.seq (.region 5 c5 false) .ret) .skip)) (.seq (.region 6 c6 false) .ret)))) := by kernel_rfl
theorem fC_ok : FIok' Tryz.prog 20 (fiOf Tryz.f20 ⟨[], [], []⟩) := ⟨_, by kernel_rfl, by kernel_rfl, by kernel_rfl, rfl, rfl⟩
theorem code_nil (B : Nat) : Pure (X B) 20 [.nilif] (.int .i64 0) := by
  obtain ⟨fn, f1, f2, f3, f4, f5⟩ := fC_ok.ex
  refine wf 14 f1 f2 f3 f4 f5 (by simp) fun h hP => ?_
  show WS (X B) 14 bC _ ⟨look [(0, AV.nilif)], h⟩
  rw [bC_eq]
  refine sr (rkE [] 1 [0] [(0, AV.nilif)] (nt ?_ (by decide)))
  refine ws_seq (sr (rkE [] 2 [0, 5] [(0, AV.nilif), (5, .bool true)] (nt ?_ (by decide))))
  refine ws_cond (t := true) rfl (fun _ => sr (rkE [] 1 [2] [(2, .int .i64 0)] (nt (ws_ret (t_ret (Go.Lb.re (.int .i64 0) (Weak.refl _) (Sub.refl _)))) (by decide)))) (fun e => by cases e)
theorem code_as (B : Nat) (t : TypeId) (v : AV) (n : Int) (hAs : ∀ (h : Heap) (b : Nat) (old : AV) (E : TypeId), h b = some (.cells [old] E) → ACalls (X B) 35 [.iface t v, .iface 73 (.ptr b 0)] h fun e h' => e = .ret (.bool true) ∧ h' = hset h b (.cells [.int .i64 n] E)) : Pure (X B) 20 [.iface t v] (.int .i64 (codeI n)) := by
  obtain ⟨fn, f1, f2, f3, f4, f5⟩ := fC_ok.ex
  refine wf 14 f1 f2 f3 f4 f5 (by simp) fun h hP => ?_
  show WS (X B) 14 bC _ ⟨look [(0, AV.iface t v)], h⟩
  rw [bC_eq]
  refine sr (rkE [] 1 [0] [(0, AV.iface t v)] (nt ?_ (by decide)))
  refine ws_seq (sr (rkE [] 2 [0, 5] [(0, AV.iface t v), (5, .bool false)] (nt ?_ (by decide))))
  refine ws_cond (t := false) rfl (fun e => by cases e) (fun _ => ws_skip (t_norm ?_))
  refine sr (rn [.int .i64 0] 55 (some 3) hP fun b h1 hP1 => nt ?_ (by decide))
  refine ws_seq (sr (rkE [] 2 [3, 6, 7] [(3, .ptr b 0), (6, AV.iface t v), (7, .iface 73 (.ptr b 0))] ?_))
  refine wso_acall XOK.ok (g := 35) (args := [.iface t v, .iface 73 (.ptr b 0)]) (d := some 8) (by kernel_rfl) (hAs h1 b (.int .i64 0) 55 (hP1.get 0 rfl)) (fun v' h' ⟨e1, e2⟩ => ?_) (fun v' h' ⟨e1, _⟩ => by cases e1)
  cases e1
  subst e2
  have hP2 := hP1.set 0 rfl (.cells [.int .i64 n] 55)
  refine rkE [] 1 [3, 9] [(3, .ptr b 0), (9, .bool true)] ?_
  refine rld (b := b) (vs := [.int .i64 n]) (E := 55) 0 ⟨.int .i64, 1, 8, .int .i64 0⟩ (some 10) (.int .i64 n) (hP2.get 0 rfl) ?_
  refine rkE [] 2 [3, 12] [(3, .ptr b 0), (12, .bool (decide (n > 0)))] (nt ?_ (by decide))
  refine ws_cond (t := decide (n > 0)) rfl (fun hn => ?_) (fun hn => ws_skip (t_norm ?_))
  · refine sr (rld (b := b) (vs := [.int .i64 n]) (E := 55) 0 ⟨.int .i64, 1, 8, .int .i64 0⟩ (some 13) (.int .i64 n) (hP2.get 0 rfl) ?_)
    refine rkE [] 1 [2] [(2, .int .i64 n)] (nt (ws_ret (t_ret ?_)) (by decide))
    have : codeI n = n := by unfold codeI; rw [hn]; rfl
    rw [this]
    exact Go.Lb.re (.int .i64 n) (Weak.refl _) hP2.sub
  · refine sr (rkE [] 1 [2] [(2, .int .i64 (-1))] (nt (ws_ret ?_) (by decide)))
    have : codeI n = -1 := by unfold codeI; rw [hn]; rfl
    rw [this]
    exact Go.Lb.re (.int .i64 (-1)) (Weak.refl _) hP2.sub
theorem code_pure (B : Nat) (e : GErr) (r : Int) (hr : codeF e = some r) : Pure (X B) 20 [aErr 55 58 e] (.int .i64 r) := by
  match e, hr with
  | .nil, hr => cases hr; exact code_nil B
  | .code n, hr => cases hr; exact code_as B 55 _ n fun h b old E hb => asA_CC B n hb
  | .fault p (.code n), hr => cases hr; exact code_as B 58 _ n fun h b old E hb => asA_FC B p n hb
def codeCon : Con := pureCon [(0, .err)] (.int .i64) fun x => codeF x.1
theorem code_ok (B : Nat) (con : FuncId → Option Con) (lp : Nat → Option (FuncId × List Nat × Con)) : ∀ x y, codeCon.fn x = some y → FnOK1 (X B) (mkC con lp) 20 codeCon x y :=
  pure_fnok rfl rfl rfl rfl fun x y h => code_pure B x.1 y h
def faultF (e : GErr) (code at_ : Int) : Option Bool :=
  bif decide (code = 0) then some e.isNil else
  match e with
  | .nil => some false
  | .code _ => some false
  | .fault p (.code n) => some (decide (codeI n = code) && decide (p = at_))
  | _ => none
noncomputable def bF : Code := Tryz.f21.body.getD .skip
noncomputable def d0 : Array Oper := match bF with | .seq (.region _ o _) _ => o | _ => #[]
noncomputable def d1 : Array Oper := match bF with | .seq _ (.seq (.region _ o _) _) => o | _ => #[]
noncomputable def d2 : Array Oper := match bF with | .seq _ (.seq _ (.seq (.seq (.region _ o _) _) _)) => o | _ => #[]
noncomputable def d3 : Array Oper := match bF with | .seq _ (.seq _ (.seq (.seq _ (.cond _ (.seq (.region _ o _) _) _)) _)) => o | _ => #[]
noncomputable def d4 : Array Oper := match bF with | .seq _ (.seq _ (.seq _ (.seq (.region _ o _) _))) => o | _ => #[]
theorem bF_eq : bF = .seq (.region 0 d0 false) (.seq (.region 1 d1 false) (.seq (.seq (.region 2 d2 false) (.cond (.tmp 9) (.seq (.region 3 d3 false) .ret) .skip)) (.seq (.region 4 d4 false) .ret))) := by kernel_rfl
theorem fF_ok : FIok' Tryz.prog 21 (fiOf Tryz.f21 ⟨[], [], []⟩) := ⟨_, by kernel_rfl, by kernel_rfl, by kernel_rfl, rfl, rfl⟩
theorem isNil_eq (B : Nat) {n : Nat} {ops : Array Oper} {k : Nat} {A : List (Nat × AV)} {h : Heap} {Q : AExit → St → Prop} (d : Option Tmp) (e : GErr) (hw : WSO (X B) n ops Q (k + 1) ⟨look (putA d (.bool e.isNil) A), h⟩) (hc : opAt (X B) n ops k A h = some (abinT (X B).T (X B).es .eql 29 (.tmp 10) (.const .nilIface) (aErr 55 58 e) .nilif, d) := by kernel_rfl) : WSO (X B) n ops Q k ⟨look A, h⟩ := by
  exact wso_aop XOK.ok hc (er_eql (xo := .tmp 10) (yo := .const .nilIface) ⟨.iface, 1, 16, .nilif⟩ (by kernel_rfl) rfl rfl e) hw
theorem fault_pure (B : Nat) (e : GErr) (code at_ : Int) (r : Bool) (hr : faultF e code at_ = some r) : Pure (X B) 21 [aErr 55 58 e, .int .i64 code, .int .i64 at_] (.bool r) := by
  obtain ⟨fn, f1, f2, f3, f4, f5⟩ := fF_ok.ex
  refine wf 33 f1 f2 f3 f4 f5 (by simp) fun h hP => ?_
  show WS (X B) 33 bF _ ⟨look [(0, aErr 55 58 e), (1, .int .i64 code), (2, .int .i64 at_)], h⟩
  rw [bF_eq]
  refine sr (rkE [] 1 [0, 1, 2] [(0, aErr 55 58 e), (1, .int .i64 code), (2, .int .i64 at_)] (nt ?_ (by decide)))
  refine sr (rn [.nilp] 58 (some 7) hP fun b h1 hP1 => nt ?_ (by decide))
  refine ws_seq (sr (rkE [] 2 [0, 1, 2, 7, 9] [(0, aErr 55 58 e), (1, .int .i64 code), (2, .int .i64 at_), (7, .ptr b 0), (9, .bool (decide (code = 0)))] (nt ?_ (by decide))))
  unfold faultF at hr
  refine ws_cond (t := decide (code = 0)) rfl (fun hn => ?_) (fun hn => ws_skip (t_norm ?_))
  · rw [hn] at hr
    simp only [cond_true, Option.some.injEq] at hr
    subst hr
    refine sr (rkE [] 1 [10] [(10, aErr 55 58 e)] (isNil_eq B (some 11) e (rkE [] 1 [6] [(6, .bool e.isNil)] (nt (ws_ret (t_ret ?_)) (by decide)))))
    exact Go.Lb.re (.bool e.isNil) (Weak.refl _) hP1.sub
  · rw [hn] at hr
    simp only [cond_false] at hr
    have miss : ∀ c : Int, codeF e = some c → decide (c = code) = false → r = false → WS (X B) 33 (.seq (.region 4 d4 false) .ret) (retPost (X B) [.tmp 6] (EndsIn (.bool r) h)) ⟨look [(0, aErr 55 58 e), (1, .int .i64 code), (2, .int .i64 at_), (7, .ptr b 0), (9, .bool (decide (code = 0)))], h1⟩ := by
      intro c hc1 hc2 hc3
      subst hc3
      refine sr (rkE [] 1 [0, 1, 2, 7, 12] [(0, aErr 55 58 e), (1, .int .i64 code), (2, .int .i64 at_), (7, .ptr b 0), (12, aErr 55 58 e)] ?_)
      refine rc (some 13) (code_pure B e c hc1) ?_
      refine rkE [] 2 [0, 2, 7, 15] [(0, aErr 55 58 e), (2, .int .i64 at_), (7, .ptr b 0), (15, .bool (decide (c = code)))] ?_
      rw [hc2]
      refine rkE [] 18 [6] [(6, .bool false)] (nt (ws_ret ?_) (by decide))
      exact Go.Lb.re (.bool false) (Weak.refl _) hP1.sub
    match e, hr with
    | .nil, hr =>
      cases hr
      refine miss 0 rfl ?_ rfl
      simp only [decide_eq_false_iff_not] at hn ⊢
      omega
    | .code n, hr =>
      cases hr
      cases hc : decide (codeI n = code) with
      | false => exact miss (codeI n) rfl hc rfl
      | true =>
        refine sr (rkE [] 1 [0, 1, 2, 7, 12] [(0, .iface 55 (.int .i64 n)), (1, .int .i64 code), (2, .int .i64 at_), (7, .ptr b 0), (12, .iface 55 (.int .i64 n))] ?_)
        refine rc (some 13) (code_pure B (.code n) (codeI n) rfl) ?_
        refine rkE [] 2 [0, 2, 7, 15] [(0, .iface 55 (.int .i64 n)), (2, .int .i64 at_), (7, .ptr b 0), (15, .bool (decide (codeI n = code)))] ?_
        rw [hc]
        refine rkE [] 3 [2, 7, 16, 17, 18] [(2, .int .i64 at_), (7, .ptr b 0), (16, .bool true), (17, .iface 55 (.int .i64 n)), (18, .iface 74 (.ptr b 0))] ?_
        refine wso_acall XOK.ok (g := 35) (args := [.iface 55 (.int .i64 n), .iface 74 (.ptr b 0)]) (d := some 19) (by kernel_rfl) (asA_CF B n (hP1.get 0 rfl)) (fun v' h' ⟨e1, e2⟩ => ?_) (fun v' h' ⟨e1, _⟩ => by cases e1)
        cases e1
        subst e2
        refine rkE [] 14 [6] [(6, .bool false)] (nt (ws_ret ?_) (by decide))
        exact Go.Lb.re (.bool false) (Weak.refl _) hP1.sub
    | .fault p (.code n), hr =>
      cases hr
      cases hc : decide (codeI n = code) with
      | false => have hm := miss (codeI n) rfl hc (by rw [hc]; rfl); rw [hc] at hm; exact hm
      | true =>
        refine sr (rkE [] 1 [0, 1, 2, 7, 12] [(0, aErr 55 58 (.fault p (.code n))), (1, .int .i64 code), (2, .int .i64 at_), (7, .ptr b 0), (12, aErr 55 58 (.fault p (.code n)))] ?_)
        refine rc (some 13) (code_pure B (.fault p (.code n)) (codeI n) rfl) ?_
        refine rkE [] 2 [0, 2, 7, 15] [(0, aErr 55 58 (.fault p (.code n))), (2, .int .i64 at_), (7, .ptr b 0), (15, .bool (decide (codeI n = code)))] ?_
        rw [hc]
        refine rkE [] 3 [2, 7, 16, 17, 18] [(2, .int .i64 at_), (7, .ptr b 0), (16, .bool true), (17, aErr 55 58 (.fault p (.code n))), (18, .iface 74 (.ptr b 0))] ?_
        refine wso_acall XOK.ok (g := 35) (args := [aErr 55 58 (.fault p (.code n)), .iface 74 (.ptr b 0)]) (d := some 19) (by kernel_rfl) (asA_FF B [.int .i64 p, aErr 55 58 (.code n)] (hP1.get 0 rfl)) (fun v' h' ⟨e1, e2⟩ => ?_) (fun v' h' ⟨e1, _⟩ => by cases e1)
        cases e1
        subst e2
        have hP2 := hP1.set 0 rfl (.cells [.ro [.int .i64 p, aErr 55 58 (.code n)]] 58)
        refine rkE [] 2 [2, 7, 21] [(2, .int .i64 at_), (7, .ptr b 0), (21, .bool true)] ?_
        refine rld (b := b) (vs := [.ro [.int .i64 p, aErr 55 58 (.code n)]]) (E := 58) 0 ⟨.ptr (60), 1, 8, .nilp⟩ (some 22) (.ro [.int .i64 p, aErr 55 58 (.code n)]) (hP2.get 0 rfl) ?_
        refine rkE [] 3 [2, 7, 25] [(2, .int .i64 at_), (7, .ptr b 0), (25, .bool true)] ?_
        refine rld (b := b) (vs := [.ro [.int .i64 p, aErr 55 58 (.code n)]]) (E := 58) 0 ⟨.ptr (60), 1, 8, .nilp⟩ (some 26) (.ro [.int .i64 p, aErr 55 58 (.code n)]) (hP2.get 0 rfl) ?_
        refine rkE [] 7 [6] [(6, .bool (decide (p = at_)))] (nt (ws_ret ?_) (by decide))
        exact Go.Lb.re (.bool (decide (p = at_))) (Weak.eq (by simp)) hP2.sub
def faultCon : Con := pureCon [(0, .err), (1, .int .i64), (2, .int .i64)] .bool fun x => faultF x.1 x.2.1 x.2.2.1
theorem fault_ok (B : Nat) (con : FuncId → Option Con) (lp : Nat → Option (FuncId × List Nat × Con)) : ∀ x y, faultCon.fn x = some y → FnOK1 (X B) (mkC con lp) 21 faultCon x y :=
  pure_fnok rfl rfl rfl rfl fun x y h => fault_pure B x.1 x.2.1 x.2.2.1 y h
end Go.Lb.R
end
section
namespace Go.Lb.R
open Go.Lb
def kh_fields (a : Str) : Option (((List Str) × Unit) × Unit) := fieldsCon.fn ((a, ()), ())
def kh_indexByte (a : Str) (b : Int) : Option ((Int × Unit) × Unit) := indexByteCon.fn ((a, (b, ())), ())
def kh_validRune (a : Int) : Option ((Bool × Unit) × Unit) := validRuneCon.fn ((a, ()), ())
def kh_clone (a : List Str) : Option (((List Str) × Unit) × Unit) := cloneCon.fn ((a, ()), ())
def kh_code (a : GErr) : Option ((Int × Unit) × Unit) := codeCon.fn ((a, ()), ())
def kh_fault (a : GErr) (b c : Int) : Option ((Bool × Unit) × Unit) := faultCon.fn ((a, (b, (c, ()))), ())
def kh_inner (l : List (Str × Bool)) : Option ((Unit × Unit) × (List (Str × Bool) × (List (Str × Bool) × Unit))) := innerCon.fn (((), ()), (l, ()))
def kh_awake : Option ((Bool × Unit) × Unit) := some ((true, ()), ())
end Go.Lb.R
end
section
set_option maxRecDepth 100000
namespace Go.Lb.R
open Go.Lb
mutual
def k15 (a0 : GT) : Option ((Int × Unit) × Unit) := ((k15_0 a0 (w64 (1 + w64 (Int.tdiv (↑(List.length (GT.life a0)) : Int) 100))) 0) >>= fun y0 => (some (((y0.1.1, ()), ()))))
  partial_fixpoint
def k15_0 (a0 : GT) (a1 : Int) (a2 : Int) : Option ((Int × Unit) × Unit) := (match ltI a2 (↑(List.length (GT.kids a0)) : Int) with | true => (match leI a1 400 with | true => ((idx (GT.kids a0) a2) >>= fun y0 => ((k15 y0) >>= fun y1 => (k15_0 a0 (w64 (a1 + y1.1.1)) (w64 (a2 + 1))))) | false => (some (((a1, ()), ())))) | false => (some (((a1, ()), ()))))
  partial_fixpoint
end
mutual
def k17 (a0 : GE) : Option ((Int × Unit) × Unit) := ((k17_0 a0 (w64 (1 + w64 (Int.tdiv (↑(List.length (GE.name a0)) : Int) 100))) 0) >>= fun y0 => (some (((y0.1.1, ()), ()))))
  partial_fixpoint
def k17_0 (a0 : GE) (a1 : Int) (a2 : Int) : Option ((Int × Unit) × Unit) := (match ltI a2 (↑(List.length (GE.kids a0)) : Int) with | true => (match leI a1 400 with | true => ((idx (GE.kids a0) a2) >>= fun y0 => ((k17 y0) >>= fun y1 => (k17_0 a0 (w64 (a1 + y1.1.1)) (w64 (a2 + 1))))) | false => (some (((a1, ()), ())))) | false => (some (((a1, ()), ()))))
  partial_fixpoint
end
mutual
def k16 (a0 : List GS) : Option ((Int × Unit) × Unit) := ((k16_0 a0 0 0) >>= fun y0 => (some (((y0.1.1, ()), ()))))
  partial_fixpoint
def k16_0 (a0 : List GS) (a1 : Int) (a2 : Int) : Option ((Int × Unit) × Unit) := ((match ltI a2 (↑(List.length a0) : Int) with | true => (some (((leI a1 400, ()), ()))) | false => (some (((false, ()), ())))) >>= fun y0 => (match y0.1.1 with | true => ((idx a0 a2) >>= fun y1 => ((idx a0 a2) >>= fun y2 => (((k17 (GS.place y2)) >>= fun y3 => (some (y3.1.1))) >>= fun y4 => ((idx a0 a2) >>= fun y5 => (((k17 (GS.expr y5)) >>= fun y6 => (some (y6.1.1))) >>= fun y7 => ((idx a0 a2) >>= fun y8 => (((k16 (GS.thn y8)) >>= fun y9 => (some (y9.1.1))) >>= fun y10 => ((idx a0 a2) >>= fun y11 => (((k16 (GS.els y11)) >>= fun y12 => (some (y12.1.1))) >>= fun y13 => (k16_0 a0 (w64 (w64 (w64 (w64 (w64 (w64 (a1 + 1) + w64 (Int.tdiv (↑(List.length (GS.name y1)) : Int) 100)) + y4) + y7) + y10) + y13)) (w64 (a2 + 1)))))))))))) | false => (some (((a1, ()), ())))))
  partial_fixpoint
end
def k7_0 (a0 : Int) (a1 : Int) (a2 : GF) : Option ((Int × Unit) × (GF × Unit)) := ((match ltI a1 (↑(List.length (GF.params a2)) : Int) with | true => (some (((leI a0 400, ()), ()))) | false => (some (((false, ()), ())))) >>= fun y0 => (match y0.1.1 with | true => ((idx (GF.params a2) a1) >>= fun y1 => ((idx (GF.params a2) a1) >>= fun y2 => (((k15 (GP.ty y2)) >>= fun y3 => (some (y3.1.1))) >>= fun y4 => (k7_0 (w64 (w64 (a0 + w64 (Int.tdiv (↑(List.length (GP.name y1)) : Int) 100)) + y4)) (w64 (a1 + 1)) (nf a2))))) | false => (some (((a0, ()), a2, ())))))
  partial_fixpoint
def k7_1 (a0 : Int) (a1 : Int) (a2 : GF) : Option ((Int × Unit) × (GF × Unit)) := (match ltI a1 (↑(List.length (GF.lives a2)) : Int) with | true => (match leI a0 400 with | true => ((idx (GF.lives a2) a1) >>= fun y0 => (k7_1 (w64 (a0 + w64 (Int.tdiv (↑(List.length y0) : Int) 100))) (w64 (a1 + 1)) (nf a2))) | false => (some (((a0, ()), a2, ())))) | false => (some (((a0, ()), a2, ()))))
  partial_fixpoint
def k7_2 (a0 : Int) (a1 : Int) (a2 : GF) : Option ((Int × Unit) × (GF × Unit)) := (match ltI a1 (↑(List.length (GF.outs a2)) : Int) with | true => (match leI a0 400 with | true => ((idx (GF.outs a2) a1) >>= fun y0 => (k7_2 (w64 (a0 + w64 (Int.tdiv (↑(List.length y0) : Int) 100))) (w64 (a1 + 1)) (nf a2))) | false => (some (((a0, ()), a2, ())))) | false => (some (((a0, ()), a2, ()))))
  partial_fixpoint
def k7_3 (a0 : List GF) (a1 : Int) (a2 : Int) : Option ((Int × Unit) × Unit) := ((match ltI a2 (↑(List.length a0) : Int) with | true => (some (((leI a1 400, ()), ()))) | false => (some (((false, ()), ())))) >>= fun y0 => (match y0.1.1 with | true => ((idx a0 a2) >>= fun y1 => (((k15 (GF.gives y1)) >>= fun y2 => (some (y2.1.1))) >>= fun y3 => (((k16 (GF.body y1)) >>= fun y4 => (some (y4.1.1))) >>= fun y5 => (((k17 (GF.value y1)) >>= fun y6 => (some (y6.1.1))) >>= fun y7 => ((k7_0 (w64 (w64 (w64 (w64 (w64 (w64 (w64 (a1 + 1) + w64 (Int.tdiv (↑(List.length (GF.name y1)) : Int) 100)) + (↑(List.length (GF.lives y1)) : Int)) + (↑(List.length (GF.outs y1)) : Int)) + y3) + y5) + y7)) 0 y1) >>= fun y8 => ((k7_1 (y8.1.1) 0 y8.2.1) >>= fun y9 => ((k7_2 (y9.1.1) 0 y9.2.1) >>= fun y10 => (k7_3 (nf a0) (y10.1.1) (w64 (a2 + 1)))))))))) | false => (some (((a1, ()), ())))))
  partial_fixpoint
def k7 (a0 : List GF) : Option ((Int × Unit) × Unit) := ((k7_3 a0 0 0) >>= fun y0 => (some (((y0.1.1, ()), ()))))
def k51_0 (a0 : Str) (a1 : List Str) (a2 : Int) : Option ((Unit × Unit) ⊕ ((Bool × Unit) × Unit)) := (match ltI a2 (↑(List.length a1) : Int) with | true => ((idx a1 a2) >>= fun y0 => (match eqS y0 a0 with | true => (some (Sum.inr ((false, ()), ()))) | false => (k51_0 (nf a0) (nf a1) (w64 (a2 + 1))))) | false => (some (Sum.inl ((), ()))))
  partial_fixpoint
def k117 (a0 : Int) : Option ((Bool × Unit) × Unit) := (match leI 97 a0 with | true => (match leI a0 122 with | true => (some (((true, ()), ()))) | false => (match leI 65 a0 with | true => (match leI a0 90 with | true => (some (((true, ()), ()))) | false => (some (((eqI a0 95, ()), ())))) | false => (some (((eqI a0 95, ()), ()))))) | false => (match leI 65 a0 with | true => (match leI a0 90 with | true => (some (((true, ()), ()))) | false => (some (((eqI a0 95, ()), ())))) | false => (some (((eqI a0 95, ()), ())))))
def k119 (a0 : Int) : Option ((Bool × Unit) × Unit) := (match leI 48 a0 with | true => (some (((leI a0 57, ()), ()))) | false => (some (((false, ()), ()))))
def k118_0 (a0 : Str) (a1 : Int) (a2 : Int) : Option ((Int × Unit) × Unit) := (match ltI a2 (↑(List.length a0) : Int) with | true => ((idxB a0 a2) >>= fun y0 => ((k117 y0) >>= fun y1 => (match y1.1.1 with | true => (k118_0 (nf a0) (nf a1) (w64 (a2 + 1))) | false => (match ltI a1 a2 with | true => ((idxB a0 a2) >>= fun y2 => ((k119 y2) >>= fun y3 => (match y3.1.1 with | true => (k118_0 (nf a0) (nf a1) (w64 (a2 + 1))) | false => (some (((a2, ()), ())))))) | false => (some (((a2, ()), ()))))))) | false => (some (((a2, ()), ()))))
  partial_fixpoint
def k118 (a0 : Str) (a1 : Int) : Option ((Int × Unit) × Unit) := ((k118_0 a0 a1 a1) >>= fun y0 => (match ltI 30 (w64 (y0.1.1 - a1)) with | true => (some (((a1, ()), ()))) | false => (some (((y0.1.1, ()), ())))))
def k89 (a0 : Str) : Option ((Bool × Unit) × Unit) := (match ltI 0 (↑(List.length a0) : Int) with | true => ((k118 a0 0) >>= fun y0 => (some (((eqI (y0.1.1) (↑(List.length a0) : Int), ()), ())))) | false => (some (((false, ()), ()))))
def k51 (a0 : Str) : Option ((Bool × Unit) × Unit) := ((k51_0 a0 [Array.toList (ByteArray.data { data := #[102, 110] }), Array.toList (ByteArray.data { data := #[108, 101, 116] }), Array.toList (ByteArray.data { data := #[105, 102] }), Array.toList (ByteArray.data { data := #[101, 108, 115, 101] }), Array.toList (ByteArray.data { data := #[114, 101, 112, 101, 97, 116] }), Array.toList (ByteArray.data { data := #[114, 101, 116] }), Array.toList (ByteArray.data { data := #[98, 111, 120] }), Array.toList (ByteArray.data { data := #[105, 110, 116] }), Array.toList (ByteArray.data { data := #[109, 117, 116] }), Array.toList (ByteArray.data { data := #[119, 104, 101, 114, 101] })] 0) >>= fun y0 => (match y0 with | .inl y1 => ((k89 a0) >>= fun y2 => (some (((y2.1.1, ()), ())))) | .inr y3 => (some (((y3.1.1, ()), ())))))
mutual
def k52 (a0 : GT) : Option ((Bool × Unit) × Unit) := ((k52_0 a0 0) >>= fun y0 => (match y0 with | .inl y1 => (match eqI (GT.kind a0) 4 with | true => (((k51 (GT.life a0)) >>= fun y2 => (match y2.1.1 with | true => (some (((eqI (↑(List.length (GT.kids a0)) : Int) 1, ()), ()))) | false => (some (((false, ()), ()))))) >>= fun y3 => (some (((y3.1.1, ()), ())))) | false => (match eqS (GT.life a0) (Array.toList (ByteArray.data { data := #[] })) with | true => (match not (GT.mu a0) with | true => (match eqI (GT.kind a0) 1 with | true => (match eqI (↑(List.length (GT.kids a0)) : Int) 0 with | true => (some (((true, ()), ()))) | false => (match eqI (GT.kind a0) 2 with | true => (match eqI (↑(List.length (GT.kids a0)) : Int) 1 with | true => (some (((true, ()), ()))) | false => (match eqI (GT.kind a0) 3 with | true => (match leI 2 (↑(List.length (GT.kids a0)) : Int) with | true => (some (((leI (↑(List.length (GT.kids a0)) : Int) 30, ()), ()))) | false => (some (((false, ()), ())))) | false => (some (((false, ()), ()))))) | false => (match eqI (GT.kind a0) 3 with | true => (match leI 2 (↑(List.length (GT.kids a0)) : Int) with | true => (some (((leI (↑(List.length (GT.kids a0)) : Int) 30, ()), ()))) | false => (some (((false, ()), ())))) | false => (some (((false, ()), ())))))) | false => (match eqI (GT.kind a0) 2 with | true => (match eqI (↑(List.length (GT.kids a0)) : Int) 1 with | true => (some (((true, ()), ()))) | false => (match eqI (GT.kind a0) 3 with | true => (match leI 2 (↑(List.length (GT.kids a0)) : Int) with | true => (some (((leI (↑(List.length (GT.kids a0)) : Int) 30, ()), ()))) | false => (some (((false, ()), ())))) | false => (some (((false, ()), ()))))) | false => (match eqI (GT.kind a0) 3 with | true => (match leI 2 (↑(List.length (GT.kids a0)) : Int) with | true => (some (((leI (↑(List.length (GT.kids a0)) : Int) 30, ()), ()))) | false => (some (((false, ()), ())))) | false => (some (((false, ()), ())))))) | false => (some (((false, ()), ())))) | false => (some (((false, ()), ()))))) | .inr y4 => (some (((y4.1.1, ()), ())))))
  partial_fixpoint
def k52_0 (a0 : GT) (a1 : Int) : Option ((Unit × Unit) ⊕ ((Bool × Unit) × Unit)) := (match ltI a1 (↑(List.length (GT.kids a0)) : Int) with | true => ((idx (GT.kids a0) a1) >>= fun y0 => ((k52 y0) >>= fun y1 => (match not (y1.1.1) with | true => (some (Sum.inr ((false, ()), ()))) | false => (k52_0 a0 (w64 (a1 + 1)))))) | false => (some (Sum.inl ((), ()))))
  partial_fixpoint
end
def k29_0 (a0 : GF) (a1 : Int) : Option ((Unit × Unit) ⊕ ((Bool × Unit) × Unit)) := (match ltI a1 (↑(List.length (GF.params a0)) : Int) with | true => ((idx (GF.params a0) a1) >>= fun y0 => ((k51 (GP.name y0)) >>= fun y1 => (match not (y1.1.1) with | true => (some (Sum.inr ((false, ()), ()))) | false => ((idx (GF.params a0) a1) >>= fun y2 => ((k52 (GP.ty y2)) >>= fun y3 => (match not (y3.1.1) with | true => (some (Sum.inr ((false, ()), ()))) | false => (k29_0 (nf a0) (w64 (a1 + 1))))))))) | false => (some (Sum.inl ((), ()))))
  partial_fixpoint
def k53_0 (a0 : List Str) (a1 : Int) : Option ((Unit × Unit) ⊕ ((Bool × Unit) × Unit)) := (match ltI a1 (↑(List.length a0) : Int) with | true => ((idx a0 a1) >>= fun y0 => ((k51 y0) >>= fun y1 => (match not (y1.1.1) with | true => (some (Sum.inr ((false, ()), ()))) | false => (k53_0 (nf a0) (w64 (a1 + 1)))))) | false => (some (Sum.inl ((), ()))))
  partial_fixpoint
def k53 (a0 : List Str) : Option ((Bool × Unit) × Unit) := ((k53_0 a0 0) >>= fun y0 => (match y0 with | .inl y1 => (some (((leI (↑(List.length a0) : Int) 30, ()), ()))) | .inr y2 => (some (((y2.1.1, ()), ())))))
def k125 (a0 : GE) : Option ((Bool × Unit) × Unit) := (match eqI (GE.kind a0) 0 with | true => (match eqI (GE.num a0) 0 with | true => (match eqS (GE.name a0) (Array.toList (ByteArray.data { data := #[] })) with | true => (match not (GE.mu a0) with | true => (some (((eqI (↑(List.length (GE.kids a0)) : Int) 0, ()), ()))) | false => (some (((false, ()), ())))) | false => (some (((false, ()), ())))) | false => (some (((false, ()), ())))) | false => (some (((false, ()), ()))))
def k91 (a0 : GE) : Option ((Bool × Unit) × Unit) := (match eqI (GE.kind a0) 2 with | true => (some (((true, ()), ()))) | false => (match eqI (GE.kind a0) 3 with | true => (some (((true, ()), ()))) | false => (some (((eqI (GE.kind a0) 4, ()), ())))))
def k92 (a0 : GE) : Option ((Int × Unit) × Unit) := (match eqI (GE.kind a0) 8 with | true => (match eqS (GE.name a0) (Array.toList (ByteArray.data { data := #[60] })) with | true => (match eqS (GE.name a0) (Array.toList (ByteArray.data { data := #[60] })) with | true => (some (((1, ()), ()))) | false => (match eqS (GE.name a0) (Array.toList (ByteArray.data { data := #[43] })) with | true => (match eqS (GE.name a0) (Array.toList (ByteArray.data { data := #[43] })) with | true => (some (((2, ()), ()))) | false => (match eqS (GE.name a0) (Array.toList (ByteArray.data { data := #[42] })) with | true => (match eqS (GE.name a0) (Array.toList (ByteArray.data { data := #[42] })) with | true => (some (((3, ()), ()))) | false => (some (((4, ()), ())))) | false => (match eqS (GE.name a0) (Array.toList (ByteArray.data { data := #[47] })) with | true => (some (((3, ()), ()))) | false => (some (((4, ()), ())))))) | false => (match eqS (GE.name a0) (Array.toList (ByteArray.data { data := #[45] })) with | true => (some (((2, ()), ()))) | false => (match eqS (GE.name a0) (Array.toList (ByteArray.data { data := #[42] })) with | true => (match eqS (GE.name a0) (Array.toList (ByteArray.data { data := #[42] })) with | true => (some (((3, ()), ()))) | false => (some (((4, ()), ())))) | false => (match eqS (GE.name a0) (Array.toList (ByteArray.data { data := #[47] })) with | true => (some (((3, ()), ()))) | false => (some (((4, ()), ())))))))) | false => (match eqS (GE.name a0) (Array.toList (ByteArray.data { data := #[61, 61] })) with | true => (some (((1, ()), ()))) | false => (match eqS (GE.name a0) (Array.toList (ByteArray.data { data := #[43] })) with | true => (match eqS (GE.name a0) (Array.toList (ByteArray.data { data := #[43] })) with | true => (some (((2, ()), ()))) | false => (match eqS (GE.name a0) (Array.toList (ByteArray.data { data := #[42] })) with | true => (match eqS (GE.name a0) (Array.toList (ByteArray.data { data := #[42] })) with | true => (some (((3, ()), ()))) | false => (some (((4, ()), ())))) | false => (match eqS (GE.name a0) (Array.toList (ByteArray.data { data := #[47] })) with | true => (some (((3, ()), ()))) | false => (some (((4, ()), ())))))) | false => (match eqS (GE.name a0) (Array.toList (ByteArray.data { data := #[45] })) with | true => (some (((2, ()), ()))) | false => (match eqS (GE.name a0) (Array.toList (ByteArray.data { data := #[42] })) with | true => (match eqS (GE.name a0) (Array.toList (ByteArray.data { data := #[42] })) with | true => (some (((3, ()), ()))) | false => (some (((4, ()), ())))) | false => (match eqS (GE.name a0) (Array.toList (ByteArray.data { data := #[47] })) with | true => (some (((3, ()), ()))) | false => (some (((4, ()), ()))))))))) | false => (some (((4, ()), ()))))
mutual
def k56 (a0 : GE) : Option ((Bool × Unit) × Unit) := ((k56_0 a0 0) >>= fun y0 => (match y0 with | .inl y1 => (match eqI (GE.kind a0) 1 with | true => (match leI 0 (GE.num a0) with | true => (match leI (GE.num a0) 999999999999999999 with | true => (match eqS (GE.name a0) (Array.toList (ByteArray.data { data := #[] })) with | true => (match not (GE.mu a0) with | true => (some (((eqI (↑(List.length (GE.kids a0)) : Int) 0, ()), ()))) | false => (some (((false, ()), ())))) | false => (some (((false, ()), ())))) | false => (some (((false, ()), ())))) | false => (some (((false, ()), ())))) | false => (match eqI (GE.kind a0) 2 with | true => (match eqI (GE.num a0) 0 with | true => ((k51 (GE.name a0)) >>= fun y2 => (match y2.1.1 with | true => (match not (GE.mu a0) with | true => (some (((eqI (↑(List.length (GE.kids a0)) : Int) 0, ()), ()))) | false => (some (((false, ()), ())))) | false => (some (((false, ()), ()))))) | false => (some (((false, ()), ())))) | false => (match eqI (GE.kind a0) 3 with | true => (match leI 0 (GE.num a0) with | true => (match ltI (GE.num a0) 30 with | true => (match eqS (GE.name a0) (Array.toList (ByteArray.data { data := #[] })) with | true => (match not (GE.mu a0) with | true => (match eqI (↑(List.length (GE.kids a0)) : Int) 1 with | true => ((idx (GE.kids a0) 0) >>= fun y3 => ((k91 y3) >>= fun y4 => (some (((y4.1.1, ()), ()))))) | false => (some (((false, ()), ())))) | false => (some (((false, ()), ())))) | false => (some (((false, ()), ())))) | false => (some (((false, ()), ())))) | false => (some (((false, ()), ())))) | false => (match eqI (GE.kind a0) 4 with | true => (match eqI (GE.num a0) 0 with | true => (match eqS (GE.name a0) (Array.toList (ByteArray.data { data := #[] })) with | true => (match not (GE.mu a0) with | true => (match eqI (↑(List.length (GE.kids a0)) : Int) 1 with | true => ((idx (GE.kids a0) 0) >>= fun y5 => ((k91 y5) >>= fun y6 => (some (((y6.1.1, ()), ()))))) | false => (some (((false, ()), ())))) | false => (some (((false, ()), ())))) | false => (some (((false, ()), ())))) | false => (some (((false, ()), ())))) | false => (match eqI (GE.kind a0) 5 with | true => (match eqI (GE.num a0) 0 with | true => (match eqS (GE.name a0) (Array.toList (ByteArray.data { data := #[] })) with | true => (match eqI (↑(List.length (GE.kids a0)) : Int) 1 with | true => ((idx (GE.kids a0) 0) >>= fun y7 => ((k91 y7) >>= fun y8 => (some (((y8.1.1, ()), ()))))) | false => (some (((false, ()), ())))) | false => (some (((false, ()), ())))) | false => (some (((false, ()), ())))) | false => (match eqI (GE.kind a0) 6 with | true => (match eqI (GE.num a0) 0 with | true => (match eqS (GE.name a0) (Array.toList (ByteArray.data { data := #[] })) with | true => (match not (GE.mu a0) with | true => (some (((eqI (↑(List.length (GE.kids a0)) : Int) 1, ()), ()))) | false => (some (((false, ()), ())))) | false => (some (((false, ()), ())))) | false => (some (((false, ()), ())))) | false => (match eqI (GE.kind a0) 7 with | true => (match eqI (GE.num a0) 0 with | true => (match eqS (GE.name a0) (Array.toList (ByteArray.data { data := #[] })) with | true => (match not (GE.mu a0) with | true => (match leI 2 (↑(List.length (GE.kids a0)) : Int) with | true => (some (((leI (↑(List.length (GE.kids a0)) : Int) 30, ()), ()))) | false => (some (((false, ()), ())))) | false => (some (((false, ()), ())))) | false => (some (((false, ()), ())))) | false => (some (((false, ()), ())))) | false => (match eqI (GE.kind a0) 8 with | true => (match eqI (GE.num a0) 0 with | true => (match not (GE.mu a0) with | true => (match eqI (↑(List.length (GE.kids a0)) : Int) 2 with | true => ((k92 a0) >>= fun y9 => (some (((ltI (y9.1.1) 4, ()), ())))) | false => (some (((false, ()), ())))) | false => (some (((false, ()), ())))) | false => (some (((false, ()), ())))) | false => (match eqI (GE.kind a0) 9 with | true => (match eqI (GE.num a0) 0 with | true => (match not (GE.mu a0) with | true => (match leI (↑(List.length (GE.kids a0)) : Int) 30 with | true => ((k51 (GE.name a0)) >>= fun y10 => (some (((y10.1.1, ()), ())))) | false => (some (((false, ()), ())))) | false => (some (((false, ()), ())))) | false => (some (((false, ()), ())))) | false => (some (((false, ()), ())))))))))))) | .inr y11 => (some (((y11.1.1, ()), ())))))
  partial_fixpoint
def k56_0 (a0 : GE) (a1 : Int) : Option ((Unit × Unit) ⊕ ((Bool × Unit) × Unit)) := (match ltI a1 (↑(List.length (GE.kids a0)) : Int) with | true => ((idx (GE.kids a0) a1) >>= fun y0 => ((k56 y0) >>= fun y1 => (match not (y1.1.1) with | true => (some (Sum.inr ((false, ()), ()))) | false => (k56_0 a0 (w64 (a1 + 1)))))) | false => (some (Sum.inl ((), ()))))
  partial_fixpoint
end
mutual
def k54 (a0 : List GS) : Option ((Bool × Unit) × Unit) := ((k54_0 a0 0) >>= fun y0 => (match y0 with | .inl y1 => (some (((leI (↑(List.length a0) : Int) 30, ()), ()))) | .inr y2 => (some (((y2.1.1, ()), ())))))
  partial_fixpoint
def k54_0 (a0 : List GS) (a1 : Int) : Option ((Unit × Unit) ⊕ ((Bool × Unit) × Unit)) := (match ltI a1 (↑(List.length a0) : Int) with | true => ((idx a0 a1) >>= fun y0 => ((k90 y0) >>= fun y1 => (match not (y1.1.1) with | true => (some (Sum.inr ((false, ()), ()))) | false => (k54_0 a0 (w64 (a1 + 1)))))) | false => (some (Sum.inl ((), ()))))
  partial_fixpoint
def k90 (a0 : GS) : Option ((Bool × Unit) × Unit) := (((k56 (GS.expr a0)) >>= fun y0 => (match not (y0.1.1) with | true => (some (((true, ()), ()))) | false => ((k54 (GS.thn a0)) >>= fun y1 => (match not (y1.1.1) with | true => (some (((true, ()), ()))) | false => ((k54 (GS.els a0)) >>= fun y2 => (some (((not (y2.1.1), ()), ())))))))) >>= fun y3 => (match y3.1.1 with | true => (some (((false, ()), ()))) | false => ((k125 (GS.place a0)) >>= fun y4 => (match eqI (GS.kind a0) 1 with | true => ((k51 (GS.name a0)) >>= fun y5 => (match y5.1.1 with | true => (match y4.1.1 with | true => (some (((eqI (w64 ((↑(List.length (GS.thn a0)) : Int) + (↑(List.length (GS.els a0)) : Int))) 0, ()), ()))) | false => (some (((false, ()), ())))) | false => (some (((false, ()), ()))))) | false => (match eqI (GS.kind a0) 2 with | true => (match eqS (GS.name a0) (Array.toList (ByteArray.data { data := #[] })) with | true => ((k91 (GS.place a0)) >>= fun y6 => (match y6.1.1 with | true => ((k56 (GS.place a0)) >>= fun y7 => (match y7.1.1 with | true => (some (((eqI (w64 ((↑(List.length (GS.thn a0)) : Int) + (↑(List.length (GS.els a0)) : Int))) 0, ()), ()))) | false => (some (((false, ()), ()))))) | false => (some (((false, ()), ()))))) | false => (some (((false, ()), ())))) | false => (match eqI (GS.kind a0) 3 with | true => (match eqS (GS.name a0) (Array.toList (ByteArray.data { data := #[] })) with | true => (some (((y4.1.1, ()), ()))) | false => (some (((false, ()), ())))) | false => (match eqI (GS.kind a0) 4 with | true => (match eqS (GS.name a0) (Array.toList (ByteArray.data { data := #[] })) with | true => (match y4.1.1 with | true => (some (((eqI (↑(List.length (GS.els a0)) : Int) 0, ()), ()))) | false => (some (((false, ()), ())))) | false => (some (((false, ()), ())))) | false => (some (((false, ()), ()))))))))))
  partial_fixpoint
end
def k57 (a0 : Int) (a1 : Int) : Option ((Int × Unit) × Unit) := (match ltI a1 a0 with | true => (some (((a0, ()), ()))) | false => (some (((a1, ()), ()))))
mutual
def k55 (a0 : List GS) : Option ((Int × Unit) × Unit) := ((k55_0 a0 0 0) >>= fun y0 => (some (((y0.1.1, ()), ()))))
  partial_fixpoint
def k55_0 (a0 : List GS) (a1 : Int) (a2 : Int) : Option ((Int × Unit) × Unit) := (match ltI a2 (↑(List.length a0) : Int) with | true => ((idx a0 a2) >>= fun y0 => (((k55 (GS.thn y0)) >>= fun y1 => (some (y1.1.1))) >>= fun y2 => ((idx a0 a2) >>= fun y3 => ((k55 (GS.els y3)) >>= fun y4 => ((k57 y2 (y4.1.1)) >>= fun y5 => ((idx a0 a2) >>= fun y6 => (match eqI (GS.kind y6) 4 with | true => ((k57 a1 (w64 (y5.1.1 + 1))) >>= fun y7 => (k55_0 a0 (y7.1.1) (w64 (a2 + 1)))) | false => ((k57 a1 (y5.1.1)) >>= fun y8 => (k55_0 a0 (y8.1.1) (w64 (a2 + 1))))))))))) | false => (some (((a1, ()), ()))))
  partial_fixpoint
end
def k29 (a0 : GF) : Option ((Bool × Unit) × Unit) := ((k29_0 a0 0) >>= fun y0 => (match y0 with | .inl y1 => ((k51 (GF.name a0)) >>= fun y2 => (match y2.1.1 with | true => ((k53 (GF.lives a0)) >>= fun y3 => (match y3.1.1 with | true => (match leI (↑(List.length (GF.params a0)) : Int) 30 with | true => ((k52 (GF.gives a0)) >>= fun y4 => (match y4.1.1 with | true => ((k53 (GF.outs a0)) >>= fun y5 => (match y5.1.1 with | true => (match eqI (Int.tmod (↑(List.length (GF.outs a0)) : Int) 2) 0 with | true => ((k54 (GF.body a0)) >>= fun y6 => (match y6.1.1 with | true => ((k55 (GF.body a0)) >>= fun y7 => (match leI (y7.1.1) 3 with | true => ((k56 (GF.value a0)) >>= fun y8 => (some (((y8.1.1, ()), ())))) | false => (some (((false, ()), ()))))) | false => (some (((false, ()), ()))))) | false => (some (((false, ()), ())))) | false => (some (((false, ()), ()))))) | false => (some (((false, ()), ()))))) | false => (some (((false, ()), ())))) | false => (some (((false, ()), ()))))) | false => (some (((false, ()), ()))))) | .inr y9 => (some (((y9.1.1, ()), ())))))
def k18_0 (a0 : List GF) (a1 : Int) : Option ((Unit × Unit) ⊕ ((Bool × Unit) × Unit)) := (match ltI a1 (↑(List.length a0) : Int) with | true => ((idx a0 a1) >>= fun y0 => ((k29 y0) >>= fun y1 => (match not (y1.1.1) with | true => (some (Sum.inr ((false, ()), ()))) | false => (k18_0 (nf a0) (w64 (a1 + 1)))))) | false => (some (Sum.inl ((), ()))))
  partial_fixpoint
mutual
def k58 (a0 : GT) : Option ((Int × Unit) × Unit) := (match ltI (GT.kind a0) 2 with | true => (some (((0, ()), ()))) | false => (match ltI 4 (GT.kind a0) with | true => (some (((0, ()), ()))) | false => ((k58_0 a0 0 0) >>= fun y0 => (some (((w64 (y0.1.1 + 1), ()), ()))))))
  partial_fixpoint
def k58_0 (a0 : GT) (a1 : Int) (a2 : Int) : Option ((Int × Unit) × Unit) := (match ltI a2 (↑(List.length (GT.kids a0)) : Int) with | true => ((idx (GT.kids a0) a2) >>= fun y0 => ((k58 y0) >>= fun y1 => ((k57 a1 (y1.1.1)) >>= fun y2 => (k58_0 a0 (y2.1.1) (w64 (a2 + 1)))))) | false => (some (((a1, ()), ()))))
  partial_fixpoint
end
def k30_0 (a0 : List GF) (a1 : Int) (a2 : Int) (a3 : Int) : Option ((Int × Unit) × Unit) := ((idx a0 a2) >>= fun y0 => (match ltI a3 (↑(List.length (GF.params y0)) : Int) with | true => ((idx a0 a2) >>= fun y1 => ((idx (GF.params y1) a3) >>= fun y2 => ((k58 (GP.ty y2)) >>= fun y3 => ((k57 a1 (y3.1.1)) >>= fun y4 => (k30_0 (nf a0) (y4.1.1) (nf a2) (w64 (a3 + 1))))))) | false => (some (((a1, ()), ())))))
  partial_fixpoint
def k93 (a0 : GE) (a1 : Int) : Option ((Bool × Unit) × Unit) := ((idx (GE.kids a0) a1) >>= fun y0 => ((k92 y0) >>= fun y1 => ((k92 a0) >>= fun y2 => (match eqI (y2.1.1) 1 with | true => (some (((eqI (y1.1.1) 1, ()), ()))) | false => ((k92 a0) >>= fun y3 => (match ltI (y1.1.1) (y3.1.1) with | true => (some (((true, ()), ()))) | false => (match eqI a1 1 with | true => ((k92 a0) >>= fun y4 => (some (((eqI (y1.1.1) (y4.1.1), ()), ())))) | false => (some (((false, ()), ()))))))))))
mutual
def k60 (a0 : GE) : Option ((Int × Unit) × Unit) := (match ltI (GE.kind a0) 3 with | true => (some (((0, ()), ()))) | false => (match ltI 9 (GE.kind a0) with | true => (some (((0, ()), ()))) | false => ((k60_0 a0 0 0) >>= fun y0 => (some (((w64 (y0.1.1 + 1), ()), ()))))))
  partial_fixpoint
def k60_0 (a0 : GE) (a1 : Int) (a2 : Int) : Option ((Int × Unit) × Unit) := (match ltI a2 (↑(List.length (GE.kids a0)) : Int) with | true => ((idx (GE.kids a0) a2) >>= fun y0 => ((k60 y0) >>= fun y1 => ((match eqI (GE.kind a0) 8 with | true => (match ltI a2 2 with | true => ((k93 a0 a2) >>= fun y2 => (some (((y2.1.1, ()), ())))) | false => (some (((false, ()), ())))) | false => (some (((false, ()), ())))) >>= fun y3 => (match y3.1.1 with | true => ((k57 a1 (w64 (y1.1.1 + 1))) >>= fun y4 => (k60_0 a0 (y4.1.1) (w64 (a2 + 1)))) | false => ((k57 a1 (y1.1.1)) >>= fun y5 => (k60_0 a0 (y5.1.1) (w64 (a2 + 1)))))))) | false => (some (((a1, ()), ()))))
  partial_fixpoint
end
mutual
def k59 (a0 : List GS) : Option ((Int × Unit) × Unit) := ((k59_0 a0 0 0) >>= fun y0 => (some (((y0.1.1, ()), ()))))
  partial_fixpoint
def k59_0 (a0 : List GS) (a1 : Int) (a2 : Int) : Option ((Int × Unit) × Unit) := (match ltI a2 (↑(List.length a0) : Int) with | true => ((idx a0 a2) >>= fun y0 => (((k60 (GS.place y0)) >>= fun y1 => (some (y1.1.1))) >>= fun y2 => ((idx a0 a2) >>= fun y3 => ((k60 (GS.expr y3)) >>= fun y4 => ((k57 y2 (y4.1.1)) >>= fun y5 => ((idx a0 a2) >>= fun y6 => (((k59 (GS.thn y6)) >>= fun y7 => (some (y7.1.1))) >>= fun y8 => ((idx a0 a2) >>= fun y9 => (((k59 (GS.els y9)) >>= fun y10 => (some (y10.1.1))) >>= fun y11 => (((k57 y8 y11) >>= fun y12 => (some (y12.1.1))) >>= fun y13 => (((k57 (y5.1.1) y13) >>= fun y14 => (some (y14.1.1))) >>= fun y15 => ((k57 a1 (w64 (1 + y15))) >>= fun y16 => (k59_0 a0 (y16.1.1) (w64 (a2 + 1))))))))))))))) | false => (some (((a1, ()), ()))))
  partial_fixpoint
end
def k30_1 (a0 : List GF) (a1 : Int) (a2 : Int) : Option ((Int × Unit) × Unit) := (match ltI a2 (↑(List.length a0) : Int) with | true => ((idx a0 a2) >>= fun y0 => (((k58 (GF.gives y0)) >>= fun y1 => (some (y1.1.1))) >>= fun y2 => ((idx a0 a2) >>= fun y3 => (((k59 (GF.body y3)) >>= fun y4 => (some (y4.1.1))) >>= fun y5 => ((idx a0 a2) >>= fun y6 => (((k60 (GF.value y6)) >>= fun y7 => (some (y7.1.1))) >>= fun y8 => (((k57 y5 y8) >>= fun y9 => (some (y9.1.1))) >>= fun y10 => (((k57 y2 y10) >>= fun y11 => (some (y11.1.1))) >>= fun y12 => ((k57 a1 y12) >>= fun y13 => ((k30_0 a0 (y13.1.1) a2 0) >>= fun y14 => (k30_1 (nf a0) (y14.1.1) (w64 (a2 + 1))))))))))))) | false => (some (((a1, ()), ()))))
  partial_fixpoint
def k30 (a0 : List GF) : Option ((Int × Unit) × Unit) := ((k30_1 a0 0 0) >>= fun y0 => (some (((y0.1.1, ()), ()))))
def k18 (a0 : List GF) : Option ((Bool × Unit) × Unit) := ((k18_0 a0 0) >>= fun y0 => (match y0 with | .inl y1 => (match leI (↑(List.length a0) : Int) 30 with | true => ((k30 a0) >>= fun y2 => (some (((leI (y2.1.1) 40, ()), ())))) | false => (some (((false, ()), ())))) | .inr y3 => (some (((y3.1.1, ()), ())))))
mutual
def k27 (a0 : GT) : Option ((Bool × Unit) × Unit) := ((k27_0 a0 (eqI (GT.kind a0) 4) 0) >>= fun y0 => (some (((y0.1.1, ()), ()))))
  partial_fixpoint
def k27_0 (a0 : GT) (a1 : Bool) (a2 : Int) : Option ((Bool × Unit) × Unit) := (match ltI a2 (↑(List.length (GT.kids a0)) : Int) with | true => (match a1 with | true => (k27_0 a0 true (w64 (a2 + 1))) | false => ((idx (GT.kids a0) a2) >>= fun y0 => ((k27 y0) >>= fun y1 => (k27_0 a0 (y1.1.1) (w64 (a2 + 1)))))) | false => (some (((a1, ()), ()))))
  partial_fixpoint
end
mutual
def k12 (a0 : GT) : Option ((Bool × Unit) × Unit) := ((k12_0 a0 0) >>= fun y0 => (match y0 with | .inl y1 => (some (((true, ()), ()))) | .inr y2 => (some (((y2.1.1, ()), ())))))
  partial_fixpoint
def k12_0 (a0 : GT) (a1 : Int) : Option ((Unit × Unit) ⊕ ((Bool × Unit) × Unit)) := (match ltI a1 (↑(List.length (GT.kids a0)) : Int) with | true => ((idx (GT.kids a0) a1) >>= fun y0 => ((k12 y0) >>= fun y1 => (match not (y1.1.1) with | true => (some (Sum.inr ((false, ()), ()))) | false => (match eqI (GT.kind a0) 2 with | true => ((idx (GT.kids a0) a1) >>= fun y2 => ((k27 y2) >>= fun y3 => (match y3.1.1 with | true => (some (Sum.inr ((false, ()), ()))) | false => (k12_0 a0 (w64 (a1 + 1)))))) | false => (match eqI (GT.kind a0) 4 with | true => ((idx (GT.kids a0) a1) >>= fun y4 => ((k27 y4) >>= fun y5 => (match y5.1.1 with | true => (some (Sum.inr ((false, ()), ()))) | false => (k12_0 a0 (w64 (a1 + 1)))))) | false => (k12_0 a0 (w64 (a1 + 1)))))))) | false => (some (Sum.inl ((), ()))))
  partial_fixpoint
end
def k13_0 (a0 : List GF) (a1 : Str) (a2 : Int) : Option ((Unit × Unit) ⊕ ((Int × Unit) × Unit)) := (match ltI a2 (↑(List.length a0) : Int) with | true => ((idx a0 a2) >>= fun y0 => (match eqS (GF.name y0) a1 with | true => (some (Sum.inr ((a2, ()), ()))) | false => (k13_0 (nf a0) (nf a1) (w64 (a2 + 1))))) | false => (some (Sum.inl ((), ()))))
  partial_fixpoint
def k13 (a0 : List GF) (a1 : Str) : Option ((Int × Unit) × Unit) := ((k13_0 a0 a1 0) >>= fun y0 => (match y0 with | .inl y1 => (some (((-1, ()), ()))) | .inr y2 => (some (((y2.1.1, ()), ())))))
def k32_0 (a0 : Str) (a1 : List Str) (a2 : Int) (a3 : Int) : Option ((Int × Unit) × Unit) := (match ltI a3 (↑(List.length a1) : Int) with | true => ((idx a1 a3) >>= fun y0 => (match eqS y0 a0 with | true => (k32_0 (nf a0) (nf a1) (w64 (a2 + 1)) (w64 (a3 + 1))) | false => (k32_0 (nf a0) (nf a1) a2 (w64 (a3 + 1))))) | false => (some (((a2, ()), ()))))
  partial_fixpoint
def k32 (a0 : Str) (a1 : List Str) : Option ((Int × Unit) × Unit) := ((k32_0 a0 a1 0 0) >>= fun y0 => (some (((y0.1.1, ()), ()))))
mutual
def k31 (a0 : GT) (a1 : List Str) : Option ((Bool × Unit) × Unit) := (match eqI (GT.kind a0) 4 with | true => ((k32 (GT.life a0) a1) >>= fun y0 => (match eqI (y0.1.1) 0 with | true => (some (((false, ()), ()))) | false => ((k31_0 (nf a1) (nf a0) 0) >>= fun y1 => (match y1 with | .inl y2 => (some (((true, ()), ()))) | .inr y3 => (some (((y3.1.1, ()), ()))))))) | false => ((k31_0 (nf a1) (nf a0) 0) >>= fun y4 => (match y4 with | .inl y5 => (some (((true, ()), ()))) | .inr y6 => (some (((y6.1.1, ()), ()))))))
  partial_fixpoint
def k31_0 (a0 : List Str) (a1 : GT) (a2 : Int) : Option ((Unit × Unit) ⊕ ((Bool × Unit) × Unit)) := (match ltI a2 (↑(List.length (GT.kids a1)) : Int) with | true => ((idx (GT.kids a1) a2) >>= fun y0 => ((k31 y0 (nf a0)) >>= fun y1 => (match not (y1.1.1) with | true => (some (Sum.inr ((false, ()), ()))) | false => (k31_0 (nf a0) (nf a1) (w64 (a2 + 1)))))) | false => (some (Sum.inl ((), ()))))
  partial_fixpoint
end
def k19_0 (a0 : GF) (a1 : List Str) (a2 : Bool) (a3 : Bool) (a4 : Int) : Option (((List Str) × (Bool × (Bool × Unit))) × Unit) := (match ltI a4 (↑(List.length (GF.params a0)) : Int) with | true => ((match a2 with | true => ((idx (GF.params a0) a4) >>= fun y0 => (((k32 (GP.name y0) a1) >>= fun y1 => (some (y1.1.1))) >>= fun y2 => (match eqI y2 0 with | true => ((idx (GF.params a0) a4) >>= fun y3 => ((k31 (GP.ty y3) (GF.lives a0)) >>= fun y4 => (some (((y4.1.1, ()), ()))))) | false => (some (((false, ()), ())))))) | false => (some (((false, ()), ())))) >>= fun y5 => (match a3 with | true => ((idx (GF.params a0) a4) >>= fun y6 => ((k12 (GP.ty y6)) >>= fun y7 => ((idx (GF.params a0) a4) >>= fun y8 => ((app 16 a1 [GP.name y8]) >>= fun y9 => (k19_0 (nf a0) y9 (y5.1.1) (y7.1.1) (w64 (a4 + 1))))))) | false => ((idx (GF.params a0) a4) >>= fun y10 => ((app 16 a1 [GP.name y10]) >>= fun y11 => (k19_0 (nf a0) y11 (y5.1.1) false (w64 (a4 + 1))))))) | false => (some (((a1, a2, a3, ()), ()))))
  partial_fixpoint
def k19_1 (a0 : GF) (a1 : Bool) (a2 : Int) : Option ((Bool × Unit) × Unit) := (match ltI a2 (↑(List.length (GF.lives a0)) : Int) with | true => (match a1 with | true => ((idx (GF.lives a0) a2) >>= fun y0 => ((k32 y0 (GF.lives a0)) >>= fun y1 => (k19_1 (nf a0) (eqI (y1.1.1) 1) (w64 (a2 + 1))))) | false => (k19_1 (nf a0) false (w64 (a2 + 1)))) | false => (some (((a1, ()), ()))))
  partial_fixpoint
def k19_2 (a0 : GF) (a1 : Bool) (a2 : Int) : Option ((Bool × Unit) × Unit) := (match ltI a2 (↑(List.length (GF.outs a0)) : Int) with | true => (match a1 with | true => ((idx (GF.outs a0) a2) >>= fun y0 => ((k32 y0 (GF.lives a0)) >>= fun y1 => (k19_2 (nf a0) (ltI 0 (y1.1.1)) (w64 (a2 + 1))))) | false => (k19_2 (nf a0) false (w64 (a2 + 1)))) | false => (some (((a1, ()), ()))))
  partial_fixpoint
mutual
def k34 (a0 : GE) (a1 : List Str) (a2 : List GF) : Option ((Bool × Unit) × Unit) := ((k34_0 (nf a1) (nf a2) (nf a0) 0) >>= fun y0 => (match y0 with | .inl y1 => (match eqI (GE.kind a0) 2 with | true => ((k32 (GE.name a0) a1) >>= fun y2 => (some (((ltI 0 (y2.1.1), ()), ())))) | false => (match eqI (GE.kind a0) 9 with | true => ((k13 a2 (GE.name a0)) >>= fun y3 => (match leI 0 (y3.1.1) with | true => ((idx a2 (y3.1.1)) >>= fun y4 => (some (((eqI (↑(List.length (GF.params y4)) : Int) (↑(List.length (GE.kids a0)) : Int), ()), ())))) | false => (some (((false, ()), ()))))) | false => (some (((true, ()), ()))))) | .inr y5 => (some (((y5.1.1, ()), ())))))
  partial_fixpoint
def k34_0 (a0 : List Str) (a1 : List GF) (a2 : GE) (a3 : Int) : Option ((Unit × Unit) ⊕ ((Bool × Unit) × Unit)) := (match ltI a3 (↑(List.length (GE.kids a2)) : Int) with | true => ((idx (GE.kids a2) a3) >>= fun y0 => ((k34 y0 (nf a0) (nf a1)) >>= fun y1 => (match not (y1.1.1) with | true => (some (Sum.inr ((false, ()), ()))) | false => (k34_0 (nf a0) (nf a1) (nf a2) (w64 (a3 + 1)))))) | false => (some (Sum.inl ((), ()))))
  partial_fixpoint
end
mutual
def k33 (a0 : List GS) (a1 : List Str) (a2 : List GF) : Option ((((List Str) × (Bool × Unit)) × Unit) × Unit) := ((k33_0 (nf a0) (nf a1) (nf a2) 0) >>= fun y0 => (match y0 with | .inl y1 => (some ((((y1.1.1, true, ()), ()), ()))) | .inr y2 => (some (((([], y2.1.2.1, ()), ()), ())))))
  partial_fixpoint
def k33_0 (a0 : List GS) (a1 : List Str) (a2 : List GF) (a3 : Int) : Option ((((List Str) × Unit) × Unit) ⊕ ((Unit × (Bool × Unit)) × Unit)) := (match ltI a3 (↑(List.length a0) : Int) with | true => ((idx a0 a3) >>= fun y0 => ((k33 (GS.thn y0) (nf a1) (nf a2)) >>= fun y1 => ((k33 (GS.els y0) (nf a1) (nf a2)) >>= fun y2 => (((k34 (GS.expr y0) a1 a2) >>= fun y3 => (match not (y3.1.1) with | true => (some (((true, ()), ()))) | false => ((k34 (GS.place y0) a1 a2) >>= fun y4 => (match not (y4.1.1) with | true => (some (((true, ()), ()))) | false => (match not (Prod.fst (Prod.snd (y1.1.1))) with | true => (some (((true, ()), ()))) | false => (some (((not (Prod.fst (Prod.snd (y2.1.1))), ()), ())))))))) >>= fun y5 => (match y5.1.1 with | true => (some (Sum.inr (((), false, ()), ()))) | false => (match eqI (GS.kind y0) 1 with | true => ((k32 (GS.name y0) a1) >>= fun y6 => (match ltI 0 (y6.1.1) with | true => (some (Sum.inr (((), false, ()), ()))) | false => ((app 16 [] a1) >>= fun y7 => ((app 16 y7 [GS.name y0]) >>= fun y8 => (k33_0 (nf a0) y8 (nf a2) (w64 (a3 + 1))))))) | false => (k33_0 (nf a0) (nf a1) (nf a2) (w64 (a3 + 1))))))))) | false => (some (Sum.inl ((a1, ()), ()))))
  partial_fixpoint
end
def k19 (a0 : GF) (a1 : List GF) : Option ((Int × Unit) × Unit) := (((k13 a1 (GF.name a0)) >>= fun y0 => (match ltI (y0.1.1) 0 with | true => ((k31 (GF.gives a0) (GF.lives a0)) >>= fun y1 => (some (((y1.1.1, ()), ())))) | false => (some (((false, ()), ()))))) >>= fun y2 => ((k12 (GF.gives a0)) >>= fun y3 => ((k19_0 a0 [] (y2.1.1) (y3.1.1) 0) >>= fun y4 => ((k19_1 a0 y4.1.2.1 0) >>= fun y5 => ((k19_2 a0 (y5.1.1) 0) >>= fun y6 => (match not (y6.1.1) with | true => (some (((4, ()), ()))) | false => (match not (Prod.fst (y4.1.2.2)) with | true => (some (((5, ()), ()))) | false => ((k33 (GF.body a0) (y4.1.1) a1) >>= fun y7 => (match not (Prod.fst (Prod.snd (y7.1.1))) with | true => (some (((4, ()), ()))) | false => ((k34 (GF.value a0) (Prod.fst (y7.1.1)) a1) >>= fun y8 => (match not (y8.1.1) with | true => (some (((4, ()), ()))) | false => (some (((0, ()), ()))))))))))))))
def k8_0 (a0 : List GF) (a1 : Int) : Option ((Unit × Unit) ⊕ ((Int × (Int × Unit)) × Unit)) := (match ltI a1 (↑(List.length a0) : Int) with | true => ((idx a0 a1) >>= fun y0 => ((subL a0 0 a1) >>= fun y1 => ((k19 y0 y1) >>= fun y2 => (match ltI 0 (y2.1.1) with | true => (some (Sum.inr ((y2.1.1, a1, ()), ()))) | false => (k8_0 (nf a0) (w64 (a1 + 1))))))) | false => (some (Sum.inl ((), ()))))
  partial_fixpoint
def k8 (a0 : List GF) : Option (((Int × (Int × Unit)) × Unit) × Unit) := ((k18 a0) >>= fun y0 => (match not (y0.1.1) with | true => (some ((((2, -1, ()), ()), ()))) | false => ((k8_0 a0 0) >>= fun y1 => (match y1 with | .inl y2 => ((match eqI (↑(List.length a0) : Int) 0 with | true => (some (((true, ()), ()))) | false => ((idx a0 (w64 ((↑(List.length a0) : Int) - 1))) >>= fun y3 => (some (((not (eqS (GF.name y3) (Array.toList (ByteArray.data { data := #[109, 97, 105, 110] }))), ()), ()))))) >>= fun y4 => (match y4.1.1 with | true => (some ((((4, (↑(List.length a0) : Int), ()), ()), ()))) | false => ((idx a0 (w64 ((↑(List.length a0) : Int) - 1))) >>= fun y5 => (match ltI 0 (↑(List.length (GF.lives y5)) : Int) with | true => (some ((((5, (↑(List.length a0) : Int), ()), ()), ()))) | false => ((idx a0 (w64 ((↑(List.length a0) : Int) - 1))) >>= fun y6 => (match ltI 0 (↑(List.length (GF.params y6)) : Int) with | true => (some ((((5, (↑(List.length a0) : Int), ()), ()), ()))) | false => ((idx a0 (w64 ((↑(List.length a0) : Int) - 1))) >>= fun y7 => (match not (eqI (GT.kind (GF.gives y7)) 1) with | true => (some ((((5, (↑(List.length a0) : Int), ()), ()), ()))) | false => (some ((((0, -1, ()), ()), ()))))))))))) | .inr y8 => (some ((((y8.1.1, y8.1.2.1, ()), ()), ())))))))
end Go.Lb.R
end
section
set_option maxRecDepth 100000
namespace Go.Lb.R
open Go.Lb
def k23_0 (a0 : List GT) (a1 : List Str) (a2 : List GP) (a3 : Int) (a4 : Int) (a5 : Mp Bool) : Option (((List GT) × ((List Str) × Unit)) × ((Mp Bool) × Unit)) := (match ltI a4 a3 with | true => ((idx a2 a4) >>= fun y0 => ((app 16 a1 [GP.name y0]) >>= fun y1 => ((app 56 a0 [GP.ty y0]) >>= fun y2 => (k23_0 y2 y1 (nf a2) (nf a3) (w64 (a4 + 1)) (mputL (GP.name y0) true a5))))) | false => (some (((a0, a1, ()), a5, ()))))
  partial_fixpoint
mutual
def k26 (a0 : GT) : Option ((Bool × Unit) × Unit) := (match eqI (GT.kind a0) 4 with | true => (some (((true, ()), ()))) | false => ((k26_0 (GT.kids a0) (↑(List.length (GT.kids a0)) : Int) 0) >>= fun y0 => (match y0 with | .inl y1 => (some (((leI 0 (-1), ()), ()))) | .inr y2 => (some (((leI 0 (y2.1.1), ()), ()))))))
  partial_fixpoint
def k26_0 (a0 : List GT) (a1 : Int) (a2 : Int) : Option ((Unit × Unit) ⊕ ((Int × Unit) × Unit)) := (match ltI a2 a1 with | true => ((idx a0 a2) >>= fun y0 => ((k26 y0) >>= fun y1 => (match y1.1.1 with | true => (some (Sum.inr ((a2, ()), ()))) | false => (k26_0 a0 a1 (w64 (a2 + 1)))))) | false => (some (Sum.inl ((), ()))))
  partial_fixpoint
end
mutual
def k11 (a0 : GT) : Option ((Bool × Unit) × Unit) := (match eqI (GT.kind a0) 2 with | true => ((k11_0 (GT.kids a0) (↑(List.length (GT.kids a0)) : Int) 0 true) >>= fun y0 => (match y0 with | .inl y1 => (some (((not (leI 0 (-1)), ()), ()))) | .inr y2 => (some (((not (leI 0 (y2.1.1)), ()), ()))))) | false => ((k11_0 (GT.kids a0) (↑(List.length (GT.kids a0)) : Int) 0 (eqI (GT.kind a0) 4)) >>= fun y3 => (match y3 with | .inl y4 => (some (((not (leI 0 (-1)), ()), ()))) | .inr y5 => (some (((not (leI 0 (y5.1.1)), ()), ()))))))
  partial_fixpoint
def k11_0 (a0 : List GT) (a1 : Int) (a2 : Int) (a3 : Bool) : Option ((Unit × (Bool × Unit)) ⊕ ((Int × Unit) × (Bool × Unit))) := (match ltI a2 a1 with | true => ((idx a0 a2) >>= fun y0 => ((k11 y0) >>= fun y1 => (match not (y1.1.1) with | true => (some (Sum.inr ((a2, ()), a3, ()))) | false => (match a3 with | true => ((k26 y0) >>= fun y2 => (match y2.1.1 with | true => (some (Sum.inr ((a2, ()), a3, ()))) | false => (k11_0 a0 a1 (w64 (a2 + 1)) a3))) | false => (k11_0 a0 a1 (w64 (a2 + 1)) a3))))) | false => (some (Sum.inl ((), a3, ()))))
  partial_fixpoint
end
mutual
def k42 (a0 : GT) : Option (((List Str) × Unit) × Unit) := (match eqI (GT.kind a0) 4 with | true => ((app 16 [] [GT.life a0]) >>= fun y0 => ((k42_0 y0 (GT.kids a0) (↑(List.length (GT.kids a0)) : Int) 0) >>= fun y1 => (some (((y1.1.1, ()), ()))))) | false => ((k42_0 [] (GT.kids a0) (↑(List.length (GT.kids a0)) : Int) 0) >>= fun y2 => (some (((y2.1.1, ()), ())))))
  partial_fixpoint
def k42_0 (a0 : List Str) (a1 : List GT) (a2 : Int) (a3 : Int) : Option (((List Str) × Unit) × Unit) := (match ltI a3 a2 with | true => ((idx a1 a3) >>= fun y0 => ((k42 y0) >>= fun y1 => ((app 16 a0 (y1.1.1)) >>= fun y2 => (k42_0 y2 a1 a2 (w64 (a3 + 1)))))) | false => (some (((a0, ()), ()))))
  partial_fixpoint
end
def k23_1 (a0 : List Str) (a1 : Bool) (a2 : List GT) (a3 : Int) (a4 : Int) : Option (((List Str) × (Bool × Unit)) × Unit) := (match ltI a4 a3 with | true => ((idx a2 a4) >>= fun y0 => ((k42 y0) >>= fun y1 => ((app 16 a0 (y1.1.1)) >>= fun y2 => (match a1 with | true => ((k11 y0) >>= fun y3 => (k23_1 y2 (y3.1.1) (nf a2) (nf a3) (w64 (a4 + 1)))) | false => (k23_1 y2 false (nf a2) (nf a3) (w64 (a4 + 1))))))) | false => (some (((a0, a1, ()), ()))))
  partial_fixpoint
def k78_0 (a0 : List Str) (a1 : Str) (a2 : Int) (a3 : Int) : Option ((Unit × Unit) ⊕ ((Int × Unit) × Unit)) := (match ltI a3 a2 with | true => ((idx a0 a3) >>= fun y0 => (match eqS a1 y0 with | true => (some (Sum.inr ((a3, ()), ()))) | false => (k78_0 (nf a0) (nf a1) (nf a2) (w64 (a3 + 1))))) | false => (some (Sum.inl ((), ()))))
  partial_fixpoint
def k78 (a0 : List Str) (a1 : Str) : Option ((Int × Unit) × Unit) := ((k78_0 a0 a1 (↑(List.length a0) : Int) 0) >>= fun y0 => (match y0 with | .inl y1 => (some (((-1, ()), ()))) | .inr y2 => (some (((y2.1.1, ()), ())))))
def k40 (a0 : List Str) (a1 : Str) : Option ((Bool × Unit) × Unit) := ((k78 a0 a1) >>= fun y0 => (some (((leI 0 (y0.1.1), ()), ()))))
def k23_2 (a0 : List Str) (a1 : Int) (a2 : Int) (a3 : GF) : Option ((Unit × ((Unit × (Unit × Unit)) × (GF × Unit))) ⊕ ((Int × Unit) × ((Unit × (Unit × Unit)) × (GF × Unit)))) := (match ltI a2 a1 with | true => ((idx a0 a2) >>= fun y0 => ((k40 (GF.lives a3) y0) >>= fun y1 => (match not (y1.1.1) with | true => (some (Sum.inr ((a2, ()), ((), (), ()), a3, ()))) | false => (k23_2 (nf a0) (nf a1) (w64 (a2 + 1)) (nf a3))))) | false => (some (Sum.inl ((), ((), (), ()), a3, ()))))
  partial_fixpoint
def k43_0 (a0 : List Str) (a1 : Int) (a2 : Int) (a3 : Mp Bool) : Option ((Unit × ((Mp Bool) × Unit)) ⊕ ((Bool × Unit) × ((Mp Bool) × Unit))) := (match ltI a2 a1 with | true => ((idx a0 a2) >>= fun y0 => (match mLook y0 a3 false with | true => (some (Sum.inr ((false, ()), a3, ()))) | false => (k43_0 (nf a0) (nf a1) (w64 (a2 + 1)) (mputL y0 true a3)))) | false => (some (Sum.inl ((), a3, ()))))
  partial_fixpoint
def k43 (a0 : List Str) : Option ((Bool × Unit) × Unit) := ((k43_0 a0 (↑(List.length a0) : Int) 0 []) >>= fun y0 => (match y0 with | .inl y1 => (some (((true, ()), ()))) | .inr y2 => (some (((y2.1.1, ()), ())))))
mutual
def k47 (a0 : GE) (a1 : Mp Bool) (a2 : Mp Int) : Option ((Bool × Unit) × ((Mp Bool) × ((Mp Int) × Unit))) := ((k47_0 (GE.kids a0) (↑(List.length (GE.kids a0)) : Int) 0 a1 a2) >>= fun y0 => (match y0 with | .inl y1 => (match eqI (GE.kind a0) 2 with | true => (some (((mLook (GE.name a0) y1.2.1 false, ()), y1.2.1, Prod.fst (y1.2.2), ()))) | false => (match eqI (GE.kind a0) 9 with | true => (match mHas (GE.name a0) (Prod.fst (y1.2.2)) with | true => (some (((eqI (mLook (GE.name a0) (Prod.fst (y1.2.2)) 0) (↑(List.length (GE.kids a0)) : Int), ()), y1.2.1, Prod.fst (y1.2.2), ()))) | false => (some (((false, ()), y1.2.1, Prod.fst (y1.2.2), ())))) | false => (some (((true, ()), y1.2.1, Prod.fst (y1.2.2), ()))))) | .inr y2 => (some (((y2.1.1, ()), y2.2.1, Prod.fst (y2.2.2), ())))))
  partial_fixpoint
def k47_0 (a0 : List GE) (a1 : Int) (a2 : Int) (a3 : Mp Bool) (a4 : Mp Int) : Option ((Unit × ((Mp Bool) × ((Mp Int) × Unit))) ⊕ ((Bool × Unit) × ((Mp Bool) × ((Mp Int) × Unit)))) := (match ltI a2 a1 with | true => ((idx a0 a2) >>= fun y0 => ((k47 y0 a3 a4) >>= fun y1 => (match not (y1.1.1) with | true => (some (Sum.inr ((false, ()), y1.2.1, Prod.fst (y1.2.2), ()))) | false => (k47_0 a0 a1 (w64 (a2 + 1)) y1.2.1 (Prod.fst (y1.2.2)))))) | false => (some (Sum.inl ((), a3, a4, ()))))
  partial_fixpoint
end
mutual
def k46 (a0 : List GS) (a1 : Mp Bool) (a2 : Mp Int) : Option ((Bool × Unit) × ((Mp Bool) × ((Mp Int) × Unit))) := ((k46_0 a0 (↑(List.length a0) : Int) 0 a1 a2) >>= fun y0 => (match y0 with | .inl y1 => (some (((true, ()), y1.2.1, Prod.fst (y1.2.2), ()))) | .inr y2 => (some (((y2.1.1, ()), y2.2.1, Prod.fst (y2.2.2), ())))))
  partial_fixpoint
def k46_0 (a0 : List GS) (a1 : Int) (a2 : Int) (a3 : Mp Bool) (a4 : Mp Int) : Option ((Unit × ((Mp Bool) × ((Mp Int) × Unit))) ⊕ ((Bool × Unit) × ((Mp Bool) × ((Mp Int) × Unit)))) := (match ltI a2 a1 with | true => ((idx a0 a2) >>= fun y0 => (((k47 (GS.expr y0) a3 a4) >>= fun y1 => (match not (y1.1.1) with | true => (some (((true, ()), y1.2.1, Prod.fst (y1.2.2), ()))) | false => (match eqI (GS.kind y0) 2 with | true => ((k47 (GS.place y0) y1.2.1 (Prod.fst (y1.2.2))) >>= fun y2 => (some (((not (y2.1.1), ()), y2.2.1, Prod.fst (y2.2.2), ())))) | false => (some (((false, ()), y1.2.1, Prod.fst (y1.2.2), ())))))) >>= fun y3 => (match y3.1.1 with | true => (some (Sum.inr ((false, ()), y3.2.1, Prod.fst (y3.2.2), ()))) | false => (((kh_inner y3.2.1) >>= fun y4 => ((k46 (GS.thn y0) (Prod.fst (y4.2.2)) (Prod.fst (y3.2.2))) >>= fun y5 => (match not (y5.1.1) with | true => (some (((true, ()), y4.2.1, Prod.fst (y5.2.2), ()))) | false => ((kh_inner y4.2.1) >>= fun y6 => ((k46 (GS.els y0) (Prod.fst (y6.2.2)) (Prod.fst (y5.2.2))) >>= fun y7 => (match not (y7.1.1) with | true => (some (((true, ()), y6.2.1, Prod.fst (y7.2.2), ()))) | false => (match eqI (GS.kind y0) 1 with | true => (some (((mLook (GS.name y0) y6.2.1 false, ()), y6.2.1, Prod.fst (y7.2.2), ()))) | false => (some (((false, ()), y6.2.1, Prod.fst (y7.2.2), ())))))))))) >>= fun y8 => (match y8.1.1 with | true => (some (Sum.inr ((false, ()), y8.2.1, Prod.fst (y8.2.2), ()))) | false => (match eqI (GS.kind y0) 1 with | true => (k46_0 a0 a1 (w64 (a2 + 1)) (mputL (GS.name y0) true y8.2.1) (Prod.fst (y8.2.2))) | false => (k46_0 a0 a1 (w64 (a2 + 1)) y8.2.1 (Prod.fst (y8.2.2))))))))) | false => (some (Sum.inl ((), a3, a4, ()))))
  partial_fixpoint
end
def k23 (a0 : GF) (a1 : Mp Int) : Option ((GErr × Unit) × ((Mp Int) × Unit)) := ((k23_0 [GF.gives a0] [] (GF.params a0) (↑(List.length (GF.params a0)) : Int) 0 []) >>= fun y0 => ((kh_clone (GF.outs a0)) >>= fun y1 => ((k23_1 (y1.1.1) true (y0.1.1) (↑(List.length (y0.1.1)) : Int) 0) >>= fun y2 => ((match mHas (GF.name a0) a1 with | true => (some (((true, ()), a0, ((), (), ()), ()))) | false => ((k43 (GF.lives a0)) >>= fun y3 => (match not (y3.1.1) with | true => (some (((true, ()), a0, ((), (), ()), ()))) | false => ((k43 y0.1.2.1) >>= fun y4 => (match not (y4.1.1) with | true => (some (((true, ()), a0, ((), (), ()), ()))) | false => ((k23_2 (y2.1.1) (↑(List.length (y2.1.1)) : Int) 0 a0) >>= fun y5 => (match y5 with | .inl y6 => (some (((leI 0 (-1), ()), Prod.fst (y6.2.2), ((), (), ()), ()))) | .inr y7 => (some (((leI 0 (y7.1.1), ()), Prod.fst (y7.2.2), ((), (), ()), ())))))))))) >>= fun y8 => (match y8.1.1 with | true => (some (((GErr.code 4, ()), a1, ()))) | false => (match not y2.1.2.1 with | true => (some (((GErr.code 5, ()), a1, ()))) | false => ((k46 (GF.body y8.2.1) y0.2.1 a1) >>= fun y9 => (match not (y9.1.1) with | true => (some (((GErr.code 4, ()), Prod.fst (y9.2.2), ()))) | false => ((k47 (GF.value y8.2.1) y9.2.1 (Prod.fst (y9.2.2))) >>= fun y10 => (match not (y10.1.1) with | true => (some (((GErr.code 4, ()), Prod.fst (y10.2.2), ()))) | false => (some (((GErr.nil, ()), Prod.fst (y10.2.2), ())))))))))))))
def k10_0 (a0 : List GF) (a1 : Int) (a2 : Int) (a3 : Mp Int) : Option ((Unit × ((Mp Int) × Unit)) ⊕ ((GErr × Unit) × ((Mp Int) × Unit))) := (match ltI a2 a1 with | true => ((idx a0 a2) >>= fun y0 => ((k23 y0 a3) >>= fun y1 => (match not (GErr.isNil (y1.1.1)) with | true => (some (Sum.inr ((GErr.fault a2 (y1.1.1), ()), y1.2.1, ()))) | false => (k10_0 (nf a0) (nf a1) (w64 (a2 + 1)) (mputL (GF.name y0) (↑(List.length (GF.params y0)) : Int) y1.2.1))))) | false => (some (Sum.inl ((), a3, ()))))
  partial_fixpoint
def k128_0 (a0 : Str × Nat) : Option ((Unit × ((Str × Nat) × Unit)) ⊕ ((Int × Unit) × ((Str × Nat) × Unit))) := (match ltN a0.2 (List.length a0.1) with | true => (match eqI (runeAt a0.1 a0.2) 32 with | true => (k128_0 (a0.1, a0.2 + runeW a0.1 a0.2)) | false => (match eqI (runeAt a0.1 a0.2) 9 with | true => (k128_0 (a0.1, a0.2 + runeW a0.1 a0.2)) | false => (match not (eqI (runeAt a0.1 a0.2) 10) with | true => (some (Sum.inr (((↑a0.2 : Int), ()), (a0.1, a0.2 + runeW a0.1 a0.2), ()))) | false => (k128_0 (a0.1, a0.2 + runeW a0.1 a0.2))))) | false => (some (Sum.inl ((), (a0.1, a0.2), ()))))
  partial_fixpoint
def k128_1 (a0 : Str × Nat) : Option ((Unit × ((Str × Nat) × Unit)) ⊕ ((Int × Unit) × ((Str × Nat) × Unit))) := (match ltN a0.2 (List.length a0.1) with | true => (match not (not (eqI (runeAt a0.1 a0.2) 10)) with | true => (some (Sum.inr (((↑a0.2 : Int), ()), (a0.1, a0.2 + runeW a0.1 a0.2), ()))) | false => (k128_1 (a0.1, a0.2 + runeW a0.1 a0.2))) | false => (some (Sum.inl ((), (a0.1, a0.2), ()))))
  partial_fixpoint
def k160 (a0 : Str) (a1 : Str) : Option ((Bool × Unit) × Unit) := (match leI (↑(List.length a1) : Int) (↑(List.length a0) : Int) with | true => ((subL a0 0 (↑(List.length a1) : Int)) >>= fun y0 => (some (((eqS y0 a1, ()), ())))) | false => (some (((false, ()), ()))))
def k149 (a0 : Str) (a1 : Str) : Option ((Bool × Unit) × Unit) := ((k160 a0 a1) >>= fun y0 => (some (((y0.1.1, ()), ()))))
def k128 (a0 : Str) : Option ((Int × Unit) × Unit) := ((k128_0 (a0, 0)) >>= fun y0 => (match y0 with | .inl y1 => ((subL a0 (↑(List.length a0) : Int) (↑(List.length a0) : Int)) >>= fun y2 => ((k149 y2 (Array.toList (ByteArray.data { data := #[47, 47] }))) >>= fun y3 => (match y3.1.1 with | true => ((subL a0 (↑(List.length a0) : Int) (↑(List.length a0) : Int)) >>= fun y4 => ((k128_1 (y4, 0)) >>= fun y5 => (match y5 with | .inl y6 => (some (((w64 ((↑(List.length a0) : Int) + (↑(List.length y4) : Int)), ()), ()))) | .inr y7 => (some (((w64 ((↑(List.length a0) : Int) + y7.1.1), ()), ())))))) | false => (some ((((↑(List.length a0) : Int), ()), ())))))) | .inr y8 => ((subL a0 (y8.1.1) (↑(List.length a0) : Int)) >>= fun y9 => ((k149 y9 (Array.toList (ByteArray.data { data := #[47, 47] }))) >>= fun y10 => (match y10.1.1 with | true => ((subL a0 (y8.1.1) (↑(List.length a0) : Int)) >>= fun y11 => ((k128_1 (y11, 0)) >>= fun y12 => (match y12 with | .inl y13 => (some (((w64 (y8.1.1 + (↑(List.length y11) : Int)), ()), ()))) | .inr y14 => (some (((w64 (y8.1.1 + y14.1.1), ()), ())))))) | false => (some (((y8.1.1, ()), ()))))))))
def k153 (a0 : Int) : Option ((Bool × Unit) × Unit) := (match leI 48 a0 with | true => (some (((leI a0 57, ()), ()))) | false => (some (((false, ()), ()))))
def k129_0 (a0 : Str × Nat) : Option ((Unit × ((Str × Nat) × Unit)) ⊕ ((Int × Unit) × ((Str × Nat) × Unit))) := (match ltN a0.2 (List.length a0.1) with | true => ((k153 (runeAt a0.1 a0.2)) >>= fun y0 => (match not (y0.1.1) with | true => (some (Sum.inr (((↑a0.2 : Int), ()), (a0.1, a0.2 + runeW a0.1 a0.2), ()))) | false => (k129_0 (a0.1, a0.2 + runeW a0.1 a0.2)))) | false => (some (Sum.inl ((), (a0.1, a0.2), ()))))
  partial_fixpoint
def k151 (a0 : Int) : Option ((Bool × Unit) × Unit) := (match eqI a0 95 with | true => (some (((true, ()), ()))) | false => (match leI 97 a0 with | true => (match leI a0 122 with | true => (some (((true, ()), ()))) | false => (match leI 65 a0 with | true => (some (((leI a0 90, ()), ()))) | false => (some (((false, ()), ()))))) | false => (match leI 65 a0 with | true => (some (((leI a0 90, ()), ()))) | false => (some (((false, ()), ()))))))
def k152_0 (a0 : Str × Nat) : Option ((Unit × ((Str × Nat) × Unit)) ⊕ ((Int × Unit) × ((Str × Nat) × Unit))) := (match ltN a0.2 (List.length a0.1) with | true => ((k151 (runeAt a0.1 a0.2)) >>= fun y0 => (match y0.1.1 with | true => (k152_0 (a0.1, a0.2 + runeW a0.1 a0.2)) | false => ((k153 (runeAt a0.1 a0.2)) >>= fun y1 => (match not (y1.1.1) with | true => (some (Sum.inr (((↑a0.2 : Int), ()), (a0.1, a0.2 + runeW a0.1 a0.2), ()))) | false => (k152_0 (a0.1, a0.2 + runeW a0.1 a0.2)))))) | false => (some (Sum.inl ((), (a0.1, a0.2), ()))))
  partial_fixpoint
def k152 (a0 : Str) : Option ((Int × Unit) × Unit) := ((k152_0 (a0, 0)) >>= fun y0 => (match y0 with | .inl y1 => (match eqI (↑(List.length a0) : Int) 0 with | true => (some (((0, ()), ()))) | false => ((idxB a0 0) >>= fun y2 => ((k153 (IntKind.wrap IntKind.i32 y2)) >>= fun y3 => (match y3.1.1 with | true => (some (((0, ()), ()))) | false => (match ltI 30 (↑(List.length a0) : Int) with | true => (some (((0, ()), ()))) | false => (some ((((↑(List.length a0) : Int), ()), ())))))))) | .inr y4 => (match eqI (y4.1.1) 0 with | true => (some (((0, ()), ()))) | false => ((idxB a0 0) >>= fun y5 => ((k153 (IntKind.wrap IntKind.i32 y5)) >>= fun y6 => (match y6.1.1 with | true => (some (((0, ()), ()))) | false => (match ltI 30 (y4.1.1) with | true => (some (((0, ()), ()))) | false => (some (((y4.1.1, ()), ()))))))))))
def k162_0 (a0 : Str × Nat) : Option ((Unit × ((Str × Nat) × Unit)) ⊕ ((Int × Unit) × ((Str × Nat) × Unit))) := (match ltN a0.2 (List.length a0.1) with | true => (match eqI (runeAt a0.1 a0.2) 65533 with | true => (some (Sum.inr (((↑a0.2 : Int), ()), (a0.1, a0.2 + runeW a0.1 a0.2), ()))) | false => (k162_0 (a0.1, a0.2 + runeW a0.1 a0.2))) | false => (some (Sum.inl ((), (a0.1, a0.2), ()))))
  partial_fixpoint
def k162 (a0 : Str) (a1 : Int) : Option ((Int × Unit) × Unit) := ((match leI 0 a1 with | true => (some (((ltI a1 128, ()), ()))) | false => (some (((false, ()), ())))) >>= fun y0 => (match y0.1.1 with | true => ((kh_indexByte a0 (IntKind.wrap IntKind.u8 a1)) >>= fun y1 => (some (((y1.1.1, ()), ())))) | false => (match eqI a1 65533 with | true => ((k162_0 (a0, 0)) >>= fun y2 => (match y2 with | .inl y3 => (some (((-1, ()), ()))) | .inr y4 => (some (((y4.1.1, ()), ()))))) | false => ((kh_validRune a1) >>= fun y5 => (match not (y5.1.1) with | true => (some (((-1, ()), ()))) | false => none)))))
def k154 (a0 : Str) (a1 : Int) : Option ((Bool × Unit) × Unit) := ((k162 a0 a1) >>= fun y0 => (some (((leI 0 (y0.1.1), ()), ()))))
def k129 (a0 : Str) : Option (((Int × (Int × Unit)) × Unit) × Unit) := ((idxB a0 0) >>= fun y0 => ((k151 (IntKind.wrap IntKind.i32 y0)) >>= fun y1 => (match y1.1.1 with | true => ((k152 a0) >>= fun y2 => (some ((((1, y2.1.1, ()), ()), ())))) | false => ((k153 (IntKind.wrap IntKind.i32 y0)) >>= fun y3 => (match y3.1.1 with | true => ((k129_0 (a0, 0)) >>= fun y4 => (match y4 with | .inl y5 => (match ltI 18 (↑(List.length a0) : Int) with | true => (some ((((2, 0, ()), ()), ()))) | false => (some ((((2, (↑(List.length a0) : Int), ()), ()), ())))) | .inr y6 => (match ltI 18 (y6.1.1) with | true => (some ((((2, 0, ()), ()), ()))) | false => (some ((((2, y6.1.1, ()), ()), ())))))) | false => (match eqI (IntKind.wrap IntKind.i32 y0) 39 with | true => ((subL a0 1 (↑(List.length a0) : Int)) >>= fun y7 => ((k152 y7) >>= fun y8 => (match ltI 0 (y8.1.1) with | true => (some ((((3, w64 (y8.1.1 + 1), ()), ()), ()))) | false => (some ((((3, y8.1.1, ()), ()), ())))))) | false => ((k149 a0 (Array.toList (ByteArray.data { data := #[45, 62] }))) >>= fun y9 => (match y9.1.1 with | true => (some ((((4, 2, ()), ()), ()))) | false => ((k149 a0 (Array.toList (ByteArray.data { data := #[61, 61] }))) >>= fun y10 => (match y10.1.1 with | true => (some ((((4, 2, ()), ()), ()))) | false => ((k154 (Array.toList (ByteArray.data { data := #[40, 41, 123, 125, 91, 93, 44, 59, 58, 46, 38, 42, 61, 43, 45, 47, 60] })) (IntKind.wrap IntKind.i32 y0)) >>= fun y11 => (match y11.1.1 with | true => (some ((((4, 1, ()), ()), ()))) | false => (some ((((0, 0, ()), ()), ())))))))))))))))
def k104_0 (a0 : Str) (a1 : List KTok) (a2 : Int) : Option ((((List KTok) × Unit) × Unit) ⊕ ((Unit × (GErr × Unit)) × Unit)) := (match ltI a2 (↑(List.length a0) : Int) with | true => ((subL a0 a2 (↑(List.length a0) : Int)) >>= fun y0 => ((k128 y0) >>= fun y1 => (match ltI 0 (y1.1.1) with | true => (k104_0 (nf a0) a1 (w64 (a2 + y1.1.1))) | false => ((subL a0 a2 (↑(List.length a0) : Int)) >>= fun y2 => ((k129 y2) >>= fun y3 => (match eqI (Prod.fst (Prod.snd (y3.1.1))) 0 with | true => (some (Sum.inr (((), GErr.fault a2 (GErr.code 1), ()), ()))) | false => ((subL a0 a2 (w64 (a2 + Prod.fst (Prod.snd (y3.1.1))))) >>= fun y4 => ((app 32 a1 [{ kind := Prod.fst (y3.1.1), pos := a2, text := y4 }]) >>= fun y5 => (k104_0 (nf a0) y5 (w64 (a2 + Prod.fst (Prod.snd (y3.1.1))))))))))))) | false => (some (Sum.inl ((a1, ()), ()))))
  partial_fixpoint
def k104 (a0 : Str) : Option ((((List KTok) × (GErr × Unit)) × Unit) × Unit) := (match ltI 20000 (↑(List.length a0) : Int) with | true => (some (((([], GErr.code 3, ()), ()), ()))) | false => ((k104_0 a0 [] 0) >>= fun y0 => (match y0 with | .inl y1 => (some ((((y1.1.1, GErr.nil, ()), ()), ()))) | .inr y2 => (some (((([], y2.1.2.1, ()), ()), ()))))))
def k105 : Option (((List Str) × Unit) × Unit) := ((kh_fields (Array.toList (ByteArray.data { data := #[102, 110, 32, 108, 101, 116, 32, 105, 102, 32, 101, 108, 115, 101, 32, 114, 101, 112, 101, 97, 116, 32, 114, 101, 116, 32, 98, 111, 120, 32, 105, 110, 116, 32, 109, 117, 116, 32, 119, 104, 101, 114, 101] }))) >>= fun y0 => (some (((y0.1.1, ()), ()))))
def k70 (a0 : Str) : Option ((Bool × Unit) × Unit) := ((k104 a0) >>= fun y0 => (match GErr.isNil (Prod.fst (Prod.snd (y0.1.1))) with | true => (match eqI (↑(List.length (Prod.fst (y0.1.1))) : Int) 1 with | true => ((idx (Prod.fst (y0.1.1)) 0) >>= fun y1 => (match eqTok y1 { kind := 1, pos := 0, text := a0 } with | true => ((k105) >>= fun y2 => ((k40 (y2.1.1) a0) >>= fun y3 => (some (((not (y3.1.1), ()), ()))))) | false => (some (((false, ()), ()))))) | false => (some (((false, ()), ())))) | false => (some (((false, ()), ())))))
def k38_0 (a0 : List Str) (a1 : Int) (a2 : Int) : Option ((Unit × ((Unit × Unit) × Unit)) ⊕ ((Int × Unit) × ((Unit × Unit) × Unit))) := (match ltI a2 a1 with | true => ((idx a0 a2) >>= fun y0 => ((k70 y0) >>= fun y1 => (match not (y1.1.1) with | true => (some (Sum.inr ((a2, ()), ((), ()), ()))) | false => (k38_0 (nf a0) (nf a1) (w64 (a2 + 1)))))) | false => (some (Sum.inl ((), ((), ()), ()))))
  partial_fixpoint
mutual
def k71 (a0 : GT) : Option ((Bool × Unit) × Unit) := ((match not (eqI (GT.kind a0) 4) with | true => (match not (eqS (GT.life a0) (Array.toList (ByteArray.data { data := #[] }))) with | true => (some (((true, ()), ()))) | false => (some (((GT.mu a0, ()), ())))) | false => (some (((false, ()), ())))) >>= fun y0 => (match y0.1.1 with | true => (some (((false, ()), ()))) | false => (match eqI (↑(List.length (GT.kids a0)) : Int) 1 with | true => ((k70 (GT.life a0)) >>= fun y1 => (match leI 1 (GT.kind a0) with | true => (match leI (GT.kind a0) 4 with | true => (match decide (w64 (GT.kind (Prod.fst (Prod.fst ((a0, ()), ()))) - 1) = (↑0 : Int)) with | true => (match eqI (↑(List.length (GT.kids a0)) : Int) 0 with | true => (match leI (↑(List.length (GT.kids a0)) : Int) 30 with | true => ((k71_0 (GT.kids a0) (↑(List.length (GT.kids a0)) : Int) 0) >>= fun y2 => (match y2 with | .inl y3 => (some (((not (leI 0 (-1)), ()), ()))) | .inr y4 => (some (((not (leI 0 (y4.1.1)), ()), ()))))) | false => (some (((false, ()), ())))) | false => (some (((false, ()), ())))) | false => (match decide (w64 (GT.kind (Prod.fst (Prod.fst ((a0, ()), ()))) - 1) = (↑(0 + 1) : Int)) with | true => (match eqI (↑(List.length (GT.kids a0)) : Int) 1 with | true => (match leI (↑(List.length (GT.kids a0)) : Int) 30 with | true => ((k71_0 (GT.kids a0) (↑(List.length (GT.kids a0)) : Int) 0) >>= fun y5 => (match y5 with | .inl y6 => (some (((not (leI 0 (-1)), ()), ()))) | .inr y7 => (some (((not (leI 0 (y7.1.1)), ()), ()))))) | false => (some (((false, ()), ())))) | false => (some (((false, ()), ())))) | false => (match decide (w64 (GT.kind (Prod.fst (Prod.fst ((a0, ()), ()))) - 1) = (↑(0 + 1 + 1) : Int)) with | true => (match leI 2 (↑(List.length (GT.kids a0)) : Int) with | true => (match leI (↑(List.length (GT.kids a0)) : Int) 30 with | true => ((k71_0 (GT.kids a0) (↑(List.length (GT.kids a0)) : Int) 0) >>= fun y8 => (match y8 with | .inl y9 => (some (((not (leI 0 (-1)), ()), ()))) | .inr y10 => (some (((not (leI 0 (y10.1.1)), ()), ()))))) | false => (some (((false, ()), ())))) | false => (some (((false, ()), ())))) | false => (match decide (w64 (GT.kind (Prod.fst (Prod.fst ((a0, ()), ()))) - 1) = (↑(0 + 1 + 1 + 1) : Int)) with | true => (match y1.1.1 with | true => (match leI (↑(List.length (GT.kids a0)) : Int) 30 with | true => ((k71_0 (GT.kids a0) (↑(List.length (GT.kids a0)) : Int) 0) >>= fun y11 => (match y11 with | .inl y12 => (some (((not (leI 0 (-1)), ()), ()))) | .inr y13 => (some (((not (leI 0 (y13.1.1)), ()), ()))))) | false => (some (((false, ()), ())))) | false => (some (((false, ()), ())))) | false => none)))) | false => (some (((false, ()), ())))) | false => (some (((false, ()), ()))))) | false => (match leI 1 (GT.kind a0) with | true => (match leI (GT.kind a0) 4 with | true => (match decide (w64 (GT.kind (Prod.fst (Prod.fst ((a0, ()), ()))) - 1) = (↑0 : Int)) with | true => (match eqI (↑(List.length (GT.kids a0)) : Int) 0 with | true => (match leI (↑(List.length (GT.kids a0)) : Int) 30 with | true => ((k71_0 (GT.kids a0) (↑(List.length (GT.kids a0)) : Int) 0) >>= fun y14 => (match y14 with | .inl y15 => (some (((not (leI 0 (-1)), ()), ()))) | .inr y16 => (some (((not (leI 0 (y16.1.1)), ()), ()))))) | false => (some (((false, ()), ())))) | false => (some (((false, ()), ())))) | false => (match decide (w64 (GT.kind (Prod.fst (Prod.fst ((a0, ()), ()))) - 1) = (↑(0 + 1) : Int)) with | true => (match eqI (↑(List.length (GT.kids a0)) : Int) 1 with | true => (match leI (↑(List.length (GT.kids a0)) : Int) 30 with | true => ((k71_0 (GT.kids a0) (↑(List.length (GT.kids a0)) : Int) 0) >>= fun y17 => (match y17 with | .inl y18 => (some (((not (leI 0 (-1)), ()), ()))) | .inr y19 => (some (((not (leI 0 (y19.1.1)), ()), ()))))) | false => (some (((false, ()), ())))) | false => (some (((false, ()), ())))) | false => (match decide (w64 (GT.kind (Prod.fst (Prod.fst ((a0, ()), ()))) - 1) = (↑(0 + 1 + 1) : Int)) with | true => (match leI 2 (↑(List.length (GT.kids a0)) : Int) with | true => (match leI (↑(List.length (GT.kids a0)) : Int) 30 with | true => ((k71_0 (GT.kids a0) (↑(List.length (GT.kids a0)) : Int) 0) >>= fun y20 => (match y20 with | .inl y21 => (some (((not (leI 0 (-1)), ()), ()))) | .inr y22 => (some (((not (leI 0 (y22.1.1)), ()), ()))))) | false => (some (((false, ()), ())))) | false => (some (((false, ()), ())))) | false => (match decide (w64 (GT.kind (Prod.fst (Prod.fst ((a0, ()), ()))) - 1) = (↑(0 + 1 + 1 + 1) : Int)) with | true => (some (((false, ()), ()))) | false => none)))) | false => (some (((false, ()), ())))) | false => (some (((false, ()), ())))))))
  partial_fixpoint
def k71_0 (a0 : List GT) (a1 : Int) (a2 : Int) : Option ((Unit × ((Unit × Unit) × Unit)) ⊕ ((Int × Unit) × ((Unit × Unit) × Unit))) := (match ltI a2 a1 with | true => ((idx a0 a2) >>= fun y0 => ((k71 y0) >>= fun y1 => (match not (y1.1.1) with | true => (some (Sum.inr ((a2, ()), ((), ()), ()))) | false => (k71_0 a0 a1 (w64 (a2 + 1)))))) | false => (some (Sum.inl ((), ((), ()), ()))))
  partial_fixpoint
end
def k38_1 (a0 : List GP) (a1 : Int) (a2 : Int) : Option ((Unit × ((Unit × Unit) × Unit)) ⊕ ((Int × Unit) × ((Unit × Unit) × Unit))) := (match ltI a2 a1 with | true => ((idx a0 a2) >>= fun y0 => ((k70 (GP.name y0)) >>= fun y1 => (match y1.1.1 with | true => ((k71 (GP.ty y0)) >>= fun y2 => (match not (y2.1.1) with | true => (some (Sum.inr ((a2, ()), ((), ()), ()))) | false => (k38_1 (nf a0) (nf a1) (w64 (a2 + 1))))) | false => (some (Sum.inr ((a2, ()), ((), ()), ())))))) | false => (some (Sum.inl ((), ((), ()), ()))))
  partial_fixpoint
def k112 (a0 : GE) : Option ((Bool × Unit) × Unit) := (match eqI (GE.kind a0) 0 with | true => (match eqI (GE.num a0) 0 with | true => (match eqS (GE.name a0) (Array.toList (ByteArray.data { data := #[] })) with | true => (match not (GE.mu a0) with | true => (some (((eqI (↑(List.length (GE.kids a0)) : Int) 0, ()), ()))) | false => (some (((false, ()), ())))) | false => (some (((false, ()), ())))) | false => (some (((false, ()), ())))) | false => (some (((false, ()), ()))))
def k113 (a0 : GE) : Option ((Bool × Unit) × Unit) := (match leI 2 (GE.kind a0) with | true => (some (((leI (GE.kind a0) 4, ()), ()))) | false => (some (((false, ()), ()))))
def k137 (a0 : GE) : Option ((Bool × Unit) × Unit) := ((idx (GE.kids a0) 0) >>= fun y0 => ((k113 y0) >>= fun y1 => (some (((y1.1.1, ()), ())))))
def k138 (a0 : GE) : Option ((Bool × Unit) × Unit) := (some (((true, ()), ())))
def k140 (a0 : GE) : Option ((Int × Unit) × Unit) := (match not (eqI (GE.kind a0) 8) with | true => (some (((4, ()), ()))) | false => (match eqS (GE.name a0) (Array.toList (ByteArray.data { data := #[60] })) with | true => (match eqS (GE.name a0) (Array.toList (ByteArray.data { data := #[60] })) with | true => (some (((1, ()), ()))) | false => (match eqS (GE.name a0) (Array.toList (ByteArray.data { data := #[43] })) with | true => (match eqS (GE.name a0) (Array.toList (ByteArray.data { data := #[43] })) with | true => (some (((2, ()), ()))) | false => (match eqS (GE.name a0) (Array.toList (ByteArray.data { data := #[42] })) with | true => (match eqS (GE.name a0) (Array.toList (ByteArray.data { data := #[42] })) with | true => (some (((3, ()), ()))) | false => (some (((4, ()), ())))) | false => (match eqS (GE.name a0) (Array.toList (ByteArray.data { data := #[47] })) with | true => (some (((3, ()), ()))) | false => (some (((4, ()), ())))))) | false => (match eqS (GE.name a0) (Array.toList (ByteArray.data { data := #[45] })) with | true => (some (((2, ()), ()))) | false => (match eqS (GE.name a0) (Array.toList (ByteArray.data { data := #[42] })) with | true => (match eqS (GE.name a0) (Array.toList (ByteArray.data { data := #[42] })) with | true => (some (((3, ()), ()))) | false => (some (((4, ()), ())))) | false => (match eqS (GE.name a0) (Array.toList (ByteArray.data { data := #[47] })) with | true => (some (((3, ()), ()))) | false => (some (((4, ()), ())))))))) | false => (match eqS (GE.name a0) (Array.toList (ByteArray.data { data := #[61, 61] })) with | true => (some (((1, ()), ()))) | false => (match eqS (GE.name a0) (Array.toList (ByteArray.data { data := #[43] })) with | true => (match eqS (GE.name a0) (Array.toList (ByteArray.data { data := #[43] })) with | true => (some (((2, ()), ()))) | false => (match eqS (GE.name a0) (Array.toList (ByteArray.data { data := #[42] })) with | true => (match eqS (GE.name a0) (Array.toList (ByteArray.data { data := #[42] })) with | true => (some (((3, ()), ()))) | false => (some (((4, ()), ())))) | false => (match eqS (GE.name a0) (Array.toList (ByteArray.data { data := #[47] })) with | true => (some (((3, ()), ()))) | false => (some (((4, ()), ())))))) | false => (match eqS (GE.name a0) (Array.toList (ByteArray.data { data := #[45] })) with | true => (some (((2, ()), ()))) | false => (match eqS (GE.name a0) (Array.toList (ByteArray.data { data := #[42] })) with | true => (match eqS (GE.name a0) (Array.toList (ByteArray.data { data := #[42] })) with | true => (some (((3, ()), ()))) | false => (some (((4, ()), ())))) | false => (match eqS (GE.name a0) (Array.toList (ByteArray.data { data := #[47] })) with | true => (some (((3, ()), ()))) | false => (some (((4, ()), ()))))))))))
mutual
def k77 (a0 : GE) : Option ((Bool × Unit) × Unit) := ((match ltI (GE.kind a0) 1 with | true => (some (((true, ()), ()))) | false => (some (((ltI 9 (GE.kind a0), ()), ())))) >>= fun y0 => (match y0.1.1 with | true => (some (((false, ()), ()))) | false => (match decide (w64 (GE.kind (Prod.fst (Prod.fst ((a0, ()), ()))) - 1) = (↑0 : Int)) with | true => ((some ((((↑(List.length (GE.kids a0)) : Int), ()), ()))) >>= fun y1 => ((match ltI (y1.1.1) 0 with | true => (some (((true, ()), ()))) | false => (match ltI 0 (y1.1.1) with | true => (some (((true, ()), ()))) | false => (match not (eqS (GE.name a0) (Array.toList (ByteArray.data { data := #[] }))) with | true => (some (((true, ()), ()))) | false => (some (((GE.mu a0, ()), ())))))) >>= fun y2 => (match y2.1.1 with | true => (some (((false, ()), ()))) | false => (match leI 0 (GE.num a0) with | true => (match ltI (GE.num a0) 1000000000000000000 with | true => (match leI (↑(List.length (GE.kids a0)) : Int) 30 with | true => ((k77_0 (GE.kids a0) (↑(List.length (GE.kids a0)) : Int) 0) >>= fun y3 => (match y3 with | .inl y4 => (some (((not (leI 0 (-1)), ()), ()))) | .inr y5 => (some (((not (leI 0 (y5.1.1)), ()), ()))))) | false => (some (((false, ()), ())))) | false => (some (((false, ()), ())))) | false => (some (((false, ()), ()))))))) | false => (match decide (w64 (GE.kind (Prod.fst (Prod.fst ((a0, ()), ()))) - 1) = (↑(0 + 1) : Int)) with | true => ((some ((((↑(List.length (GE.kids a0)) : Int), ()), ()))) >>= fun y6 => ((match ltI (y6.1.1) 0 with | true => (some (((true, ()), ()))) | false => (match ltI 0 (y6.1.1) with | true => (some (((true, ()), ()))) | false => (match not (eqI (GE.num a0) 0) with | true => (some (((true, ()), ()))) | false => (some (((GE.mu a0, ()), ())))))) >>= fun y7 => (match y7.1.1 with | true => (some (((false, ()), ()))) | false => ((k70 (GE.name a0)) >>= fun y8 => (match y8.1.1 with | true => (match leI (↑(List.length (GE.kids a0)) : Int) 30 with | true => ((k77_0 (GE.kids a0) (↑(List.length (GE.kids a0)) : Int) 0) >>= fun y9 => (match y9 with | .inl y10 => (some (((not (leI 0 (-1)), ()), ()))) | .inr y11 => (some (((not (leI 0 (y11.1.1)), ()), ()))))) | false => (some (((false, ()), ())))) | false => (some (((false, ()), ())))))))) | false => (match decide (w64 (GE.kind (Prod.fst (Prod.fst ((a0, ()), ()))) - 1) = (↑(0 + 1 + 1) : Int)) with | true => ((some ((((↑(List.length (GE.kids a0)) : Int), ()), ()))) >>= fun y12 => ((match ltI (y12.1.1) 1 with | true => (some (((true, ()), ()))) | false => (match ltI 1 (y12.1.1) with | true => (some (((true, ()), ()))) | false => (match not (eqS (GE.name a0) (Array.toList (ByteArray.data { data := #[] }))) with | true => (some (((true, ()), ()))) | false => (some (((GE.mu a0, ()), ())))))) >>= fun y13 => (match y13.1.1 with | true => (some (((false, ()), ()))) | false => ((k137 a0) >>= fun y14 => (match y14.1.1 with | true => (match leI 0 (GE.num a0) with | true => (match ltI (GE.num a0) 30 with | true => (match leI (↑(List.length (GE.kids a0)) : Int) 30 with | true => ((k77_0 (GE.kids a0) (↑(List.length (GE.kids a0)) : Int) 0) >>= fun y15 => (match y15 with | .inl y16 => (some (((not (leI 0 (-1)), ()), ()))) | .inr y17 => (some (((not (leI 0 (y17.1.1)), ()), ()))))) | false => (some (((false, ()), ())))) | false => (some (((false, ()), ())))) | false => (some (((false, ()), ())))) | false => (some (((false, ()), ())))))))) | false => (match decide (w64 (GE.kind (Prod.fst (Prod.fst ((a0, ()), ()))) - 1) = (↑(0 + 1 + 1 + 1) : Int)) with | true => ((some ((((↑(List.length (GE.kids a0)) : Int), ()), ()))) >>= fun y18 => ((match ltI (y18.1.1) 1 with | true => (some (((true, ()), ()))) | false => (match ltI 1 (y18.1.1) with | true => (some (((true, ()), ()))) | false => (match not (eqI (GE.num a0) 0) with | true => (some (((true, ()), ()))) | false => (match not (eqS (GE.name a0) (Array.toList (ByteArray.data { data := #[] }))) with | true => (some (((true, ()), ()))) | false => (some (((GE.mu a0, ()), ()))))))) >>= fun y19 => (match y19.1.1 with | true => (some (((false, ()), ()))) | false => ((k137 a0) >>= fun y20 => (match y20.1.1 with | true => (match leI (↑(List.length (GE.kids a0)) : Int) 30 with | true => ((k77_0 (GE.kids a0) (↑(List.length (GE.kids a0)) : Int) 0) >>= fun y21 => (match y21 with | .inl y22 => (some (((not (leI 0 (-1)), ()), ()))) | .inr y23 => (some (((not (leI 0 (y23.1.1)), ()), ()))))) | false => (some (((false, ()), ())))) | false => (some (((false, ()), ())))))))) | false => (match decide (w64 (GE.kind (Prod.fst (Prod.fst ((a0, ()), ()))) - 1) = (↑(0 + 1 + 1 + 1 + 1) : Int)) with | true => ((some ((((↑(List.length (GE.kids a0)) : Int), ()), ()))) >>= fun y24 => ((match ltI (y24.1.1) 1 with | true => (some (((true, ()), ()))) | false => (match ltI 1 (y24.1.1) with | true => (some (((true, ()), ()))) | false => (match not (eqI (GE.num a0) 0) with | true => (some (((true, ()), ()))) | false => (match not (eqS (GE.name a0) (Array.toList (ByteArray.data { data := #[] }))) with | true => (some (((true, ()), ()))) | false => (some (((false, ()), ()))))))) >>= fun y25 => (match y25.1.1 with | true => (some (((false, ()), ()))) | false => ((k137 a0) >>= fun y26 => (match y26.1.1 with | true => (match leI (↑(List.length (GE.kids a0)) : Int) 30 with | true => ((k77_0 (GE.kids a0) (↑(List.length (GE.kids a0)) : Int) 0) >>= fun y27 => (match y27 with | .inl y28 => (some (((not (leI 0 (-1)), ()), ()))) | .inr y29 => (some (((not (leI 0 (y29.1.1)), ()), ()))))) | false => (some (((false, ()), ())))) | false => (some (((false, ()), ())))))))) | false => (match decide (w64 (GE.kind (Prod.fst (Prod.fst ((a0, ()), ()))) - 1) = (↑(0 + 1 + 1 + 1 + 1 + 1) : Int)) with | true => ((some ((((↑(List.length (GE.kids a0)) : Int), ()), ()))) >>= fun y30 => ((match ltI (y30.1.1) 1 with | true => (some (((true, ()), ()))) | false => (match ltI 1 (y30.1.1) with | true => (some (((true, ()), ()))) | false => (match not (eqI (GE.num a0) 0) with | true => (some (((true, ()), ()))) | false => (match not (eqS (GE.name a0) (Array.toList (ByteArray.data { data := #[] }))) with | true => (some (((true, ()), ()))) | false => (some (((GE.mu a0, ()), ()))))))) >>= fun y31 => (match y31.1.1 with | true => (some (((false, ()), ()))) | false => ((k138 a0) >>= fun y32 => (match y32.1.1 with | true => (match leI (↑(List.length (GE.kids a0)) : Int) 30 with | true => ((k77_0 (GE.kids a0) (↑(List.length (GE.kids a0)) : Int) 0) >>= fun y33 => (match y33 with | .inl y34 => (some (((not (leI 0 (-1)), ()), ()))) | .inr y35 => (some (((not (leI 0 (y35.1.1)), ()), ()))))) | false => (some (((false, ()), ())))) | false => (some (((false, ()), ())))))))) | false => (match decide (w64 (GE.kind (Prod.fst (Prod.fst ((a0, ()), ()))) - 1) = (↑(0 + 1 + 1 + 1 + 1 + 1 + 1) : Int)) with | true => ((some ((((↑(List.length (GE.kids a0)) : Int), ()), ()))) >>= fun y36 => ((match ltI (y36.1.1) 2 with | true => (some (((true, ()), ()))) | false => (match ltI 30 (y36.1.1) with | true => (some (((true, ()), ()))) | false => (match not (eqI (GE.num a0) 0) with | true => (some (((true, ()), ()))) | false => (match not (eqS (GE.name a0) (Array.toList (ByteArray.data { data := #[] }))) with | true => (some (((true, ()), ()))) | false => (some (((GE.mu a0, ()), ()))))))) >>= fun y37 => (match y37.1.1 with | true => (some (((false, ()), ()))) | false => ((k138 a0) >>= fun y38 => (match y38.1.1 with | true => (match leI (↑(List.length (GE.kids a0)) : Int) 30 with | true => ((k77_0 (GE.kids a0) (↑(List.length (GE.kids a0)) : Int) 0) >>= fun y39 => (match y39 with | .inl y40 => (some (((not (leI 0 (-1)), ()), ()))) | .inr y41 => (some (((not (leI 0 (y41.1.1)), ()), ()))))) | false => (some (((false, ()), ())))) | false => (some (((false, ()), ())))))))) | false => (match decide (w64 (GE.kind (Prod.fst (Prod.fst ((a0, ()), ()))) - 1) = (↑(0 + 1 + 1 + 1 + 1 + 1 + 1 + 1) : Int)) with | true => ((some ((((↑(List.length (GE.kids a0)) : Int), ()), ()))) >>= fun y42 => ((match ltI (y42.1.1) 2 with | true => (some (((true, ()), ()))) | false => (match ltI 2 (y42.1.1) with | true => (some (((true, ()), ()))) | false => (match not (eqI (GE.num a0) 0) with | true => (some (((true, ()), ()))) | false => (some (((GE.mu a0, ()), ())))))) >>= fun y43 => (match y43.1.1 with | true => (some (((false, ()), ()))) | false => ((k140 a0) >>= fun y44 => (match ltI (y44.1.1) 4 with | true => (match leI (↑(List.length (GE.kids a0)) : Int) 30 with | true => ((k77_0 (GE.kids a0) (↑(List.length (GE.kids a0)) : Int) 0) >>= fun y45 => (match y45 with | .inl y46 => (some (((not (leI 0 (-1)), ()), ()))) | .inr y47 => (some (((not (leI 0 (y47.1.1)), ()), ()))))) | false => (some (((false, ()), ())))) | false => (some (((false, ()), ())))))))) | false => (match decide (w64 (GE.kind (Prod.fst (Prod.fst ((a0, ()), ()))) - 1) = (↑(0 + 1 + 1 + 1 + 1 + 1 + 1 + 1 + 1) : Int)) with | true => ((some ((((↑(List.length (GE.kids a0)) : Int), ()), ()))) >>= fun y48 => ((match ltI (y48.1.1) 0 with | true => (some (((true, ()), ()))) | false => (match ltI 30 (y48.1.1) with | true => (some (((true, ()), ()))) | false => (match not (eqI (GE.num a0) 0) with | true => (some (((true, ()), ()))) | false => (some (((GE.mu a0, ()), ())))))) >>= fun y49 => (match y49.1.1 with | true => (some (((false, ()), ()))) | false => ((k70 (GE.name a0)) >>= fun y50 => (match y50.1.1 with | true => (match leI (↑(List.length (GE.kids a0)) : Int) 30 with | true => ((k77_0 (GE.kids a0) (↑(List.length (GE.kids a0)) : Int) 0) >>= fun y51 => (match y51 with | .inl y52 => (some (((not (leI 0 (-1)), ()), ()))) | .inr y53 => (some (((not (leI 0 (y53.1.1)), ()), ()))))) | false => (some (((false, ()), ())))) | false => (some (((false, ()), ())))))))) | false => none)))))))))))
  partial_fixpoint
def k77_0 (a0 : List GE) (a1 : Int) (a2 : Int) : Option ((Unit × ((Unit × Unit) × Unit)) ⊕ ((Int × Unit) × ((Unit × Unit) × Unit))) := (match ltI a2 a1 with | true => ((idx a0 a2) >>= fun y0 => ((k77 y0) >>= fun y1 => (match not (y1.1.1) with | true => (some (Sum.inr ((a2, ()), ((), ()), ()))) | false => (k77_0 a0 a1 (w64 (a2 + 1)))))) | false => (some (Sum.inl ((), ((), ()), ()))))
  partial_fixpoint
end
mutual
def k75 (a0 : GS) : Option ((Bool × Unit) × Unit) := ((match ltI (GS.kind a0) 1 with | true => (some (((true, ()), ()))) | false => (match ltI 4 (GS.kind a0) with | true => (some (((true, ()), ()))) | false => ((k77 (GS.expr a0)) >>= fun y0 => (some (((not (y0.1.1), ()), ())))))) >>= fun y1 => (match y1.1.1 with | true => (some (((false, ()), ()))) | false => ((match not (eqB (eqI (GS.kind a0) 1) (not (eqS (GS.name a0) (Array.toList (ByteArray.data { data := #[] }))))) with | true => (some (((true, ()), ()))) | false => (match eqI (GS.kind a0) 1 with | true => ((k70 (GS.name a0)) >>= fun y2 => (some (((not (y2.1.1), ()), ())))) | false => (some (((false, ()), ()))))) >>= fun y3 => (match y3.1.1 with | true => (some (((false, ()), ()))) | false => (((k112 (GS.place a0)) >>= fun y4 => (match not (eqB (eqI (GS.kind a0) 2) (not (y4.1.1))) with | true => (some (((true, ()), ()))) | false => (match eqI (GS.kind a0) 2 with | true => ((k113 (GS.place a0)) >>= fun y5 => (match y5.1.1 with | true => ((k77 (GS.place a0)) >>= fun y6 => (some (((not (y6.1.1), ()), ())))) | false => (some (((not false, ()), ()))))) | false => (some (((false, ()), ())))))) >>= fun y7 => (match y7.1.1 with | true => (some (((false, ()), ()))) | false => ((match eqI (GS.kind a0) 1 with | true => (match ltI 0 (↑(List.length (GS.thn a0)) : Int) with | true => (some (((true, ()), ()))) | false => (match not (eqI (GS.kind a0) 3) with | true => (some (((ltI 0 (↑(List.length (GS.els a0)) : Int), ()), ()))) | false => (some (((false, ()), ()))))) | false => (match eqI (GS.kind a0) 2 with | true => (match ltI 0 (↑(List.length (GS.thn a0)) : Int) with | true => (some (((true, ()), ()))) | false => (match not (eqI (GS.kind a0) 3) with | true => (some (((ltI 0 (↑(List.length (GS.els a0)) : Int), ()), ()))) | false => (some (((false, ()), ()))))) | false => (match not (eqI (GS.kind a0) 3) with | true => (some (((ltI 0 (↑(List.length (GS.els a0)) : Int), ()), ()))) | false => (some (((false, ()), ())))))) >>= fun y8 => (match y8.1.1 with | true => (some (((false, ()), ()))) | false => ((match leI (↑(List.length (GS.thn a0)) : Int) 30 with | true => ((k75_0 (GS.thn a0) (↑(List.length (GS.thn a0)) : Int) 0) >>= fun y9 => (match y9 with | .inl y10 => (some (((not (leI 0 (-1)), ()), ()))) | .inr y11 => (some (((not (leI 0 (y11.1.1)), ()), ()))))) | false => (some (((false, ()), ())))) >>= fun y12 => (match y12.1.1 with | true => (match leI (↑(List.length (GS.els a0)) : Int) 30 with | true => ((k75_0 (GS.els a0) (↑(List.length (GS.els a0)) : Int) 0) >>= fun y13 => (match y13 with | .inl y14 => (some (((not (leI 0 (-1)), ()), ()))) | .inr y15 => (some (((not (leI 0 (y15.1.1)), ()), ()))))) | false => (some (((false, ()), ())))) | false => (some (((false, ()), ())))))))))))))
  partial_fixpoint
def k75_0 (a0 : List GS) (a1 : Int) (a2 : Int) : Option ((Unit × ((Unit × Unit) × Unit)) ⊕ ((Int × Unit) × ((Unit × Unit) × Unit))) := (match ltI a2 a1 with | true => ((idx a0 a2) >>= fun y0 => ((k75 y0) >>= fun y1 => (match not (y1.1.1) with | true => (some (Sum.inr ((a2, ()), ((), ()), ()))) | false => (k75_0 a0 a1 (w64 (a2 + 1)))))) | false => (some (Sum.inl ((), ((), ()), ()))))
  partial_fixpoint
end
def k38_2 (a0 : List GS) (a1 : Int) (a2 : Int) : Option ((Unit × ((Unit × Unit) × Unit)) ⊕ ((Int × Unit) × ((Unit × Unit) × Unit))) := (match ltI a2 a1 with | true => ((idx a0 a2) >>= fun y0 => ((k75 y0) >>= fun y1 => (match not (y1.1.1) with | true => (some (Sum.inr ((a2, ()), ((), ()), ()))) | false => (k38_2 (nf a0) (nf a1) (w64 (a2 + 1)))))) | false => (some (Sum.inl ((), ((), ()), ()))))
  partial_fixpoint
mutual
def k76 (a0 : List GS) : Option ((Int × Unit) × Unit) := ((k76_0 0 a0 (↑(List.length a0) : Int) 0) >>= fun y0 => (some (((y0.1.1, ()), ()))))
  partial_fixpoint
def k76_0 (a0 : Int) (a1 : List GS) (a2 : Int) (a3 : Int) : Option ((Int × Unit) × Unit) := (match ltI a3 a2 with | true => ((idx a1 a3) >>= fun y0 => (((k76 (GS.thn y0)) >>= fun y1 => (some (y1.1.1))) >>= fun y2 => ((k76 (GS.els y0)) >>= fun y3 => (match eqI (GS.kind y0) 4 with | true => (k76_0 (imax a0 (w64 (imax y2 (y3.1.1) + 1))) a1 a2 (w64 (a3 + 1))) | false => (k76_0 (imax a0 (imax y2 (y3.1.1))) a1 a2 (w64 (a3 + 1))))))) | false => (some (((a0, ()), ()))))
  partial_fixpoint
end
def k38 (a0 : GF) : Option ((Bool × Unit) × Unit) := ((k70 (GF.name a0)) >>= fun y0 => (match y0.1.1 with | true => ((match leI (↑(List.length (GF.lives a0)) : Int) 30 with | true => ((k38_0 (GF.lives a0) (↑(List.length (GF.lives a0)) : Int) 0) >>= fun y1 => (match y1 with | .inl y2 => (some (((not (leI 0 (-1)), ()), ()))) | .inr y3 => (some (((not (leI 0 (y3.1.1)), ()), ()))))) | false => (some (((false, ()), ())))) >>= fun y4 => (match y4.1.1 with | true => ((match leI (↑(List.length (GF.params a0)) : Int) 30 with | true => ((k38_1 (GF.params a0) (↑(List.length (GF.params a0)) : Int) 0) >>= fun y5 => (match y5 with | .inl y6 => (some (((not (leI 0 (-1)), ()), ()))) | .inr y7 => (some (((not (leI 0 (y7.1.1)), ()), ()))))) | false => (some (((false, ()), ())))) >>= fun y8 => (match y8.1.1 with | true => ((k71 (GF.gives a0)) >>= fun y9 => (match y9.1.1 with | true => ((match leI (↑(List.length (GF.outs a0)) : Int) 30 with | true => ((k38_0 (GF.outs a0) (↑(List.length (GF.outs a0)) : Int) 0) >>= fun y10 => (match y10 with | .inl y11 => (some (((not (leI 0 (-1)), ()), ()))) | .inr y12 => (some (((not (leI 0 (y12.1.1)), ()), ()))))) | false => (some (((false, ()), ())))) >>= fun y13 => (match y13.1.1 with | true => (match eqI (Int.tmod (↑(List.length (GF.outs a0)) : Int) 2) 0 with | true => ((match leI (↑(List.length (GF.body a0)) : Int) 30 with | true => ((k38_2 (GF.body a0) (↑(List.length (GF.body a0)) : Int) 0) >>= fun y14 => (match y14 with | .inl y15 => (some (((not (leI 0 (-1)), ()), ()))) | .inr y16 => (some (((not (leI 0 (y16.1.1)), ()), ()))))) | false => (some (((false, ()), ())))) >>= fun y17 => (match y17.1.1 with | true => ((k76 (GF.body a0)) >>= fun y18 => (match leI (y18.1.1) 3 with | true => ((k77 (GF.value a0)) >>= fun y19 => (some (((y19.1.1, ()), ())))) | false => (some (((false, ()), ()))))) | false => (some (((false, ()), ()))))) | false => (some (((false, ()), ())))) | false => (some (((false, ()), ()))))) | false => (some (((false, ()), ()))))) | false => (some (((false, ()), ()))))) | false => (some (((false, ()), ()))))) | false => (some (((false, ()), ())))))
def k22_0 (a0 : List GF) (a1 : Int) (a2 : Int) : Option ((Unit × ((Unit × Unit) × Unit)) ⊕ ((Int × Unit) × ((Unit × Unit) × Unit))) := (match ltI a2 a1 with | true => ((idx a0 a2) >>= fun y0 => ((k38 y0) >>= fun y1 => (match not (y1.1.1) with | true => (some (Sum.inr ((a2, ()), ((), ()), ()))) | false => (k22_0 (nf a0) (nf a1) (w64 (a2 + 1)))))) | false => (some (Sum.inl ((), ((), ()), ()))))
  partial_fixpoint
def k127 (a0 : GE) (a1 : Int) : Option ((Bool × Unit) × Unit) := (((k140 a0) >>= fun y0 => (some (y0.1.1))) >>= fun y1 => ((idx (GE.kids a0) a1) >>= fun y2 => ((k140 y2) >>= fun y3 => (match eqI y1 1 with | true => (match eqI (y3.1.1) 1 with | true => (some (((true, ()), ()))) | false => (match ltI (y3.1.1) (w64 (y1 + a1)) with | true => (some (((ltI 1 y1, ()), ()))) | false => (some (((false, ()), ()))))) | false => (match ltI (y3.1.1) (w64 (y1 + a1)) with | true => (some (((ltI 1 y1, ()), ()))) | false => (some (((false, ()), ()))))))))
mutual
def k102 (a0 : GE) : Option ((Int × Unit) × Unit) := (match ltI (GE.kind a0) 3 with | true => (some (((0, ()), ()))) | false => (match ltI 9 (GE.kind a0) with | true => (some (((0, ()), ()))) | false => ((k102_0 a0 0 (GE.kids a0) (↑(List.length (GE.kids a0)) : Int) 0) >>= fun y0 => (some (((w64 (y0.1.1 + 1), ()), ()))))))
  partial_fixpoint
def k102_0 (a0 : GE) (a1 : Int) (a2 : List GE) (a3 : Int) (a4 : Int) : Option ((Int × Unit) × Unit) := (match ltI a4 a3 with | true => ((idx a2 a4) >>= fun y0 => ((k102 y0) >>= fun y1 => ((match eqI (GE.kind a0) 8 with | true => (match ltI a4 2 with | true => ((k127 a0 a4) >>= fun y2 => (match y2.1.1 with | true => (some (((w64 (y1.1.1 + 1), ()), ()))) | false => (some (((y1.1.1, ()), ()))))) | false => (some (((y1.1.1, ()), ())))) | false => (some (((y1.1.1, ()), ())))) >>= fun y3 => (k102_0 a0 (imax a1 (y3.1.1)) a2 a3 (w64 (a4 + 1)))))) | false => (some (((a1, ()), ()))))
  partial_fixpoint
end
mutual
def k99 (a0 : GT) : Option ((Int × Unit) × Unit) := (match ltI (GT.kind a0) 2 with | true => (some (((0, ()), ()))) | false => (match ltI 4 (GT.kind a0) with | true => (some (((0, ()), ()))) | false => ((k99_0 0 (GT.kids a0) (↑(List.length (GT.kids a0)) : Int) 0) >>= fun y0 => (some (((w64 (1 + y0.1.1), ()), ()))))))
  partial_fixpoint
def k99_0 (a0 : Int) (a1 : List GT) (a2 : Int) (a3 : Int) : Option ((Int × Unit) × Unit) := (match ltI a3 a2 with | true => ((idx a1 a3) >>= fun y0 => ((k99 y0) >>= fun y1 => (k99_0 (imax a0 (y1.1.1)) a1 a2 (w64 (a3 + 1))))) | false => (some (((a0, ()), ()))))
  partial_fixpoint
end
def k66_0 (a0 : Int) (a1 : List GP) (a2 : Int) (a3 : Int) : Option ((Int × Unit) × Unit) := (match ltI a3 a2 with | true => ((idx a1 a3) >>= fun y0 => ((k99 (GP.ty y0)) >>= fun y1 => (k66_0 (imax a0 (y1.1.1)) (nf a1) (nf a2) (w64 (a3 + 1))))) | false => (some (((a0, ()), ()))))
  partial_fixpoint
mutual
def k101 (a0 : GS) : Option ((Int × Unit) × Unit) := (((k102 (GS.place a0)) >>= fun y0 => (some (y0.1.1))) >>= fun y1 => ((k102 (GS.expr a0)) >>= fun y2 => (((k101_0 0 (GS.thn a0) (↑(List.length (GS.thn a0)) : Int) 0) >>= fun y3 => (some (y3.1.1))) >>= fun y4 => (((k101_0 0 (GS.els a0) (↑(List.length (GS.els a0)) : Int) 0) >>= fun y5 => (some (y5.1.1))) >>= fun y6 => (some (((w64 (1 + imax (imax (imax y1 (y2.1.1)) y4) y6), ()), ())))))))
  partial_fixpoint
def k101_0 (a0 : Int) (a1 : List GS) (a2 : Int) (a3 : Int) : Option ((Int × Unit) × Unit) := (match ltI a3 a2 with | true => ((idx a1 a3) >>= fun y0 => ((k101 y0) >>= fun y1 => (k101_0 (imax a0 (y1.1.1)) a1 a2 (w64 (a3 + 1))))) | false => (some (((a0, ()), ()))))
  partial_fixpoint
end
def k66_1 (a0 : Int) (a1 : List GS) (a2 : Int) (a3 : Int) : Option ((Int × Unit) × Unit) := (match ltI a3 a2 with | true => ((idx a1 a3) >>= fun y0 => ((k101 y0) >>= fun y1 => (k66_1 (imax a0 (y1.1.1)) (nf a1) (nf a2) (w64 (a3 + 1))))) | false => (some (((a0, ()), ()))))
  partial_fixpoint
def k66 (a0 : GF) : Option ((Int × Unit) × Unit) := ((k66_0 0 (GF.params a0) (↑(List.length (GF.params a0)) : Int) 0) >>= fun y0 => (((k99 (GF.gives a0)) >>= fun y1 => (some (y1.1.1))) >>= fun y2 => (((k66_1 0 (GF.body a0) (↑(List.length (GF.body a0)) : Int) 0) >>= fun y3 => (some (y3.1.1))) >>= fun y4 => (((k102 (GF.value a0)) >>= fun y5 => (some (y5.1.1))) >>= fun y6 => (some (((imax (imax (imax (y0.1.1) y2) y4) y6, ()), ())))))))
def k36_0 (a0 : Int) (a1 : List GF) (a2 : Int) (a3 : Int) : Option ((Int × Unit) × Unit) := (match ltI a3 a2 with | true => ((idx a1 a3) >>= fun y0 => ((k66 y0) >>= fun y1 => (k36_0 (imax a0 (y1.1.1)) (nf a1) (nf a2) (w64 (a3 + 1))))) | false => (some (((a0, ()), ()))))
  partial_fixpoint
def k36 (a0 : List GF) : Option ((Int × Unit) × Unit) := ((k36_0 0 a0 (↑(List.length a0) : Int) 0) >>= fun y0 => (some (((y0.1.1, ()), ()))))
def k22 (a0 : List GF) : Option ((Bool × Unit) × Unit) := ((k36 a0) >>= fun y0 => (match leI (y0.1.1) 40 with | true => (match leI (↑(List.length a0) : Int) 30 with | true => ((k22_0 a0 (↑(List.length a0) : Int) 0) >>= fun y1 => (match y1 with | .inl y2 => (some (((not (leI 0 (-1)), ()), ()))) | .inr y3 => (some (((not (leI 0 (y3.1.1)), ()), ()))))) | false => (some (((false, ()), ())))) | false => (some (((false, ()), ())))))
def k10 (a0 : List GF) : Option ((GErr × Unit) × Unit) := ((k22 a0) >>= fun y0 => (match not (y0.1.1) with | true => (some (((GErr.code 2, ()), ()))) | false => ((k10_0 a0 (↑(List.length a0) : Int) 0 []) >>= fun y1 => (match y1 with | .inl y2 => ((match eqI (↑(List.length a0) : Int) 0 with | true => (some (((true, ()), ()))) | false => ((idx a0 (w64 ((↑(List.length a0) : Int) - 1))) >>= fun y3 => (some (((not (eqS (GF.name y3) (Array.toList (ByteArray.data { data := #[109, 97, 105, 110] }))), ()), ()))))) >>= fun y4 => (match y4.1.1 with | true => (some (((GErr.fault (↑(List.length a0) : Int) (GErr.code 4), ()), ()))) | false => ((idx a0 (w64 ((↑(List.length a0) : Int) - 1))) >>= fun y5 => (match ltI 0 (w64 ((↑(List.length (GF.lives y5)) : Int) + (↑(List.length (GF.params y5)) : Int))) with | true => (some (((GErr.fault (↑(List.length a0) : Int) (GErr.code 5), ()), ()))) | false => (match not (eqI (GT.kind (GF.gives y5)) 1) with | true => (some (((GErr.fault (↑(List.length a0) : Int) (GErr.code 5), ()), ()))) | false => (some (((GErr.nil, ()), ())))))))) | .inr y6 => (some (((y6.1.1, ()), ())))))))
def k162_1 (a0 : Str) (a1 : Str) (a2 : Int) (a3 : Int) (a4 : Int) : Option (Unit × Unit) := (match ltI a4 (↑(List.length a1) : Int) with | true => ((idxB a0 (w64 (a3 - a4))) >>= fun y0 => ((idxB a1 (w64 (a2 - a4))) >>= fun y1 => (match not (eqI y0 y1) with | true => none | false => (k162_1 (nf a0) (nf a1) (nf a2) (nf a3) (w64 (a4 + 1)))))) | false => (some (((), ()))))
  partial_fixpoint
def k162_2 (a0 : Str) (a1 : Str) (a2 : Int) (a3 : Int) : Option ((Unit × Unit) ⊕ ((Int × Unit) × Unit)) := (match ltI a3 (↑(List.length a0) : Int) with | true => (((idxB a0 a3) >>= fun y0 => ((idxB a1 a2) >>= fun y1 => (match not (eqI y0 y1) with | true => ((subL a0 (w64 (a3 + 1)) (↑(List.length a0) : Int)) >>= fun y2 => ((idxB a1 a2) >>= fun y3 => ((kh_indexByte y2 y3) >>= fun y4 => (match ltI (y4.1.1) 0 with | true => (some (Sum.inr ((-1, ()), ()))) | false => (some (Sum.inl ((w64 (a3 + w64 (y4.1.1 + 1)), ()), ()))))))) | false => (some (Sum.inl ((a3, ()), ())))))) >>= fun y5 => (match y5 with | .inl y6 => ((k162_1 a0 a1 a2 (y6.1.1) 1) >>= fun y7 => (some (Sum.inr ((w64 (y6.1.1 - a2), ()), ())))) | .inr y8 => (some (Sum.inr ((y8.1.1, ()), ()))))) | false => (some (Sum.inl ((), ()))))
end Go.Lb.R
end
section
set_option maxRecDepth 100000
namespace Go.Lb.R
open Go.Lb
def k9 (a0 : GErr) (a1 : Int) (a2 : Int) : Option ((Bool × Unit) × Unit) := (match ltI a2 0 with | true => ((kh_code a0) >>= fun y0 => (some (((eqI (y0.1.1) a1, ()), ())))) | false => ((kh_fault a0 a1 a2) >>= fun y1 => (some (((y1.1.1, ()), ())))))
def k3 (a0 : List GF) : Option ((Bool × Unit) × Unit) := ((kh_awake) >>= fun y0 => (match not (y0.1.1) with | true => (some (((false, ()), ()))) | false => ((k7 a0) >>= fun y1 => (match ltI 400 (y1.1.1) with | true => (some (((true, ()), ()))) | false => ((k8 a0) >>= fun y2 => ((k10 a0) >>= fun y3 => ((k9 (y3.1.1) (Prod.fst (y2.1.1)) (Prod.fst (Prod.snd (y2.1.1)))) >>= fun y4 => (some (((y4.1.1, ()), ()))))))))))
def k4 (a0 : GT) : Option ((Bool × Unit) × Unit) := ((kh_awake) >>= fun y0 => (match not (y0.1.1) with | true => (some (((false, ()), ()))) | false => ((k7 [{ name := [], lives := [], params := [], gives := a0, outs := [], body := [], value := GE.mk 0 0 [] false [] }]) >>= fun y1 => (match ltI 400 (y1.1.1) with | true => (some (((true, ()), ()))) | false => (((k11 a0) >>= fun y2 => (some (y2.1.1))) >>= fun y3 => ((k12 a0) >>= fun y4 => (some (((eqB y3 (y4.1.1), ()), ())))))))))
def k5_0 (a0 : List GF) (a1 : Str) : Option ((Str × Unit) × Unit) := ((k13 a0 a1) >>= fun y0 => (match leI 0 (y0.1.1) with | true => ((catS a1 (Array.toList (ByteArray.data { data := #[113] }))) >>= fun y1 => (k5_0 (nf a0) y1)) | false => (some (((a1, ()), ())))))
  partial_fixpoint
def k5 (a0 : List GF) (a1 : Int) : Option ((Bool × Unit) × Unit) := ((kh_awake) >>= fun y0 => (match not (y0.1.1) with | true => (some (((false, ()), ()))) | false => (((k7 a0) >>= fun y1 => (match ltI 400 (y1.1.1) with | true => (some (((true, ()), ()))) | false => (match ltI 29 (↑(List.length a0) : Int) with | true => (some (((true, ()), ()))) | false => ((k10 a0) >>= fun y2 => (some (((not (GErr.isNil (y2.1.1)), ()), ()))))))) >>= fun y3 => (match y3.1.1 with | true => (some (((true, ()), ()))) | false => ((k5_0 a0 (Array.toList (ByteArray.data { data := #[113] }))) >>= fun y4 => (match ltI 30 (↑(List.length (y4.1.1)) : Int) with | true => (some (((true, ()), ()))) | false => ((app 232 [{ name := y4.1.1, lives := [], params := [], gives := GT.mk 1 [] false [], outs := [], body := [], value := GE.mk 1 (w64 a1) [] false [] }] a0) >>= fun y5 => ((k10 y5) >>= fun y6 => (some (((GErr.isNil (y6.1.1), ()), ())))))))))))
end Go.Lb.R
end
section
namespace Go.Lb.R
open Go.Lb
abbrev MX : Nat := 9223372036854775807
theorem w64_nat {n : Nat} (h : n < 9223372036854775808) : w64 (n : Int) = n := by
  show IntKind.wrap .i64 (n : Int) = n
  unfold IntKind.wrap
  simp only [IntKind.bits, IntKind.signed]
  have h1 : (n : Int) % (2 ^ 64 : Int) = n := Int.emod_eq_of_lt (by omega) (by omega)
  simp only [h1]
  have h2 : ¬ ((n : Int) ≥ 2 ^ (64 - 1)) := by
    have : (2 : Int) ^ (64 - 1) = 9223372036854775808 := by decide
    omega
  simp only [h2, decide_false, Bool.and_false, Bool.false_eq_true, if_false]
theorem idx_nat {α : Type} {l : List α} {i : Nat} (h : i < l.length) : idx l (i : Int) = some l[i] := by
  unfold idx
  simp [h]
mutual
def okT : GT → Prop
  | .mk _ l _ ks => l.length ≤ MX ∧ ks.length ≤ MX ∧ okTs ks
def okTs : List GT → Prop
  | [] => True
  | t :: r => okT t ∧ okTs r
end
theorem okTs_mem : ∀ {l : List GT} {t : GT}, okTs l → t ∈ l → okT t
  | a :: l, t, h, ht => by
    simp only [okTs] at h
    rcases List.mem_cons.1 ht with rfl | ht
    · exact h.1
    · exact okTs_mem h.2 ht
theorem okT_kids {t : GT} (h : okT t) : t.kids.length ≤ MX ∧ ∀ k ∈ t.kids, okT k := by
  cases t
  simp only [okT] at h
  exact ⟨h.2.1, fun k hk => okTs_mem h.2.2 hk⟩
mutual
def refsTB : GT → Bool
  | .mk k _ _ ks => decide (k = 4) || refsTs ks
def refsTs : List GT → Bool
  | [] => false
  | t :: r => refsTB t || refsTs r
end
theorem refsTB_eq (t : GT) : refsTB t = (decide (t.kind = 4) || refsTs t.kids) := by cases t; simp only [refsTB]; rfl
mutual
def wholeT : GT → Bool
  | .mk k _ _ ks => wholeTs (decide (k = 2) || decide (k = 4)) ks
def wholeTs (b : Bool) : List GT → Bool
  | [] => true
  | t :: r => wholeT t && !(b && refsTB t) && wholeTs b r
end
theorem wholeT_eq (t : GT) : wholeT t = wholeTs (decide (t.kind = 2) || decide (t.kind = 4)) t.kids := by cases t; simp only [wholeT]; rfl
theorem drop_at {α : Type} {l : List α} {i : Nat} (h : i < l.length) : l.drop i = l[i] :: l.drop (i + 1) := List.drop_eq_getElem_cons h
theorem k26_loop (l : List GT) (hl : l.length ≤ MX) (IH : ∀ x ∈ l, k26 x = some ((refsTB x, ()), ())) : ∀ (d i : Nat), i + d = l.length →
    (refsTs (l.drop i) = true → ∃ j : Int, 0 ≤ j ∧ k26_0 l (l.length : Int) (i : Int) = some (Sum.inr ((j, ()), ()))) ∧ (refsTs (l.drop i) = false → k26_0 l (l.length : Int) (i : Int) = some (Sum.inl ((), ())))
  | 0, i, h => by
    have h1 : l.drop i = [] := List.drop_of_length_le (by omega)
    rw [h1]
    refine ⟨fun e => by simp [refsTs] at e, fun _ => ?_⟩
    rw [k26_0]
    have : ltI (i : Int) (l.length : Int) = false := by simp only [ltI, decide_eq_false_iff_not]; omega
    rw [this]
  | d + 1, i, h => by
    have hi : i < l.length := by omega
    obtain ⟨a1, a2⟩ := k26_loop l hl IH d (i + 1) (by omega)
    rw [drop_at hi]
    simp only [refsTs]
    rw [k26_0]
    have e1 : ltI (i : Int) (l.length : Int) = true := by simp only [ltI, decide_eq_true_eq]; omega
    rw [e1, idx_nat hi]
    simp only [Option.bind_eq_bind, Option.bind_some, IH _ (List.getElem_mem hi)]
    have e2 : w64 ((i : Int) + 1) = ((i + 1 : Nat) : Int) := by
      have := w64_nat (n := i + 1) (by simp only [MX] at hl; omega)
      simpa using this
    cases hr : refsTB l[i] with
    | true => exact ⟨fun _ => ⟨i, by omega, rfl⟩, fun e => by simp at e⟩
    | false =>
      simp only [Bool.false_or]
      rw [e2]
      exact ⟨a1, a2⟩
theorem k26_eq : ∀ (n : Nat) (t : GT), SizeOf.sizeOf t < n → okT t → k26 t = some ((refsTB t, ()), ())
  | 0, t, h, _ => by omega
  | n + 1, t, h, ho => by
    obtain ⟨h1, h2⟩ := okT_kids ho
    have IH : ∀ x ∈ t.kids, k26 x = some ((refsTB x, ()), ()) := fun x hx => k26_eq n x (by have := GT.kids_lt hx; omega) (h2 x hx)
    obtain ⟨a1, a2⟩ := k26_loop t.kids h1 IH t.kids.length 0 (by omega)
    rw [k26, refsTB_eq]
    cases hk : decide (t.kind = 4) with
    | true => simp only [eqI, hk, Bool.true_or]
    | false =>
      simp only [eqI, hk, Bool.false_or]
      simp only [List.drop_zero] at a1 a2
      cases hr : refsTs t.kids with
      | true =>
        obtain ⟨j, hj, e⟩ := a1 hr
        rw [show ((0 : Nat) : Int) = 0 from rfl] at e
        rw [e]
        simp only [Option.bind_eq_bind, Option.bind_some, leI]
        simp [hj]
      | false =>
        have e := a2 hr
        rw [show ((0 : Nat) : Int) = 0 from rfl] at e
        rw [e]
        rfl
theorem w64_succ {i n : Nat} (hl : n ≤ MX) (hi : i < n) : w64 ((i : Int) + 1) = ((i + 1 : Nat) : Int) := by
  have := w64_nat (n := i + 1) (by simp only [MX] at hl; omega)
  simpa using this
theorem ltI_true {i n : Nat} (h : i < n) : ltI (i : Int) (n : Int) = true := by simp only [ltI, decide_eq_true_eq]; omega
theorem ltI_false {i n : Nat} (h : ¬ i < n) : ltI (i : Int) (n : Int) = false := by simp only [ltI, decide_eq_false_iff_not]; omega
theorem k11_loop (b : Bool) (l : List GT) (hl : l.length ≤ MX) (ho : ∀ x ∈ l, okT x) (IH : ∀ x ∈ l, k11 x = some ((wholeT x, ()), ())) : ∀ (d i : Nat), i + d = l.length →
    (wholeTs b (l.drop i) = false → ∃ j : Int, 0 ≤ j ∧ k11_0 l (l.length : Int) (i : Int) b = some (Sum.inr ((j, ()), b, ()))) ∧ (wholeTs b (l.drop i) = true → k11_0 l (l.length : Int) (i : Int) b = some (Sum.inl ((), b, ())))
  | 0, i, h => by
    have h1 : l.drop i = [] := List.drop_of_length_le (by omega)
    rw [h1]
    refine ⟨fun e => by simp [wholeTs] at e, fun _ => ?_⟩
    rw [k11_0, ltI_false (by omega)]
  | d + 1, i, h => by
    have hi : i < l.length := by omega
    obtain ⟨a1, a2⟩ := k11_loop b l hl ho IH d (i + 1) (by omega)
    rw [drop_at hi]
    simp only [wholeTs]
    rw [k11_0, ltI_true hi, idx_nat hi]
    simp only [Option.bind_eq_bind, Option.bind_some, IH _ (List.getElem_mem hi), k26_eq _ l[i] (Nat.lt_succ_self _) (ho _ (List.getElem_mem hi)), w64_succ hl hi]
    cases hw : wholeT l[i] with
    | false => exact ⟨fun _ => ⟨i, by omega, rfl⟩, fun e => by simp at e⟩
    | true =>
      cases b with
      | false => simpa using ⟨a1, a2⟩
      | true =>
        cases hr : refsTB l[i] with
        | true => exact ⟨fun _ => ⟨i, by omega, rfl⟩, fun e => by simp at e⟩
        | false => simpa using ⟨a1, a2⟩
theorem k11_eq : ∀ (n : Nat) (t : GT), SizeOf.sizeOf t < n → okT t → k11 t = some ((wholeT t, ()), ())
  | 0, t, h, _ => by omega
  | n + 1, t, h, ho => by
    obtain ⟨h1, h2⟩ := okT_kids ho
    have IH : ∀ x ∈ t.kids, k11 x = some ((wholeT x, ()), ()) := fun x hx => k11_eq n x (by have := GT.kids_lt hx; omega) (h2 x hx)
    have fin : ∀ b : Bool, ((k11_0 (GT.kids t) (↑(List.length (GT.kids t)) : Int) 0 b) >>= fun y0 => (match y0 with | .inl y1 => (some (((not (leI 0 (-1)), ()), ()))) | .inr y2 => (some (((not (leI 0 (y2.1.1)), ()), ()))))) = some ((wholeTs b t.kids, ()), ()) := by
      intro b
      obtain ⟨a1, a2⟩ := k11_loop b t.kids h1 h2 IH t.kids.length 0 (by omega)
      simp only [List.drop_zero] at a1 a2
      cases hr : wholeTs b t.kids with
      | false =>
        obtain ⟨j, hj, e⟩ := a1 hr
        rw [show ((0 : Nat) : Int) = 0 from rfl] at e
        rw [e]
        simp only [Option.bind_eq_bind, Option.bind_some, leI]
        simp [hj]
      | true =>
        have e := a2 hr
        rw [show ((0 : Nat) : Int) = 0 from rfl] at e
        rw [e]
        rfl
    rw [k11, wholeT_eq]
    cases hk : decide (t.kind = 2) with
    | true => simp only [eqI, hk, Bool.true_or]; exact fin true
    | false => simp only [eqI, hk, Bool.false_or]; exact fin _
theorem k27_loop (t : GT) (hl : t.kids.length ≤ MX) (IH : ∀ x ∈ t.kids, k27 x = some ((refsTB x, ()), ())) : ∀ (d i : Nat) (b : Bool), i + d = t.kids.length → k27_0 t b (i : Int) = some ((b || refsTs (t.kids.drop i), ()), ())
  | 0, i, b, h => by
    have h1 : t.kids.drop i = [] := List.drop_of_length_le (by omega)
    rw [h1, k27_0.eq_def, ltI_false (by omega)]
    simp [refsTs]
  | d + 1, i, b, h => by
    have hi : i < t.kids.length := by omega
    rw [drop_at hi]
    simp only [refsTs]
    rw [k27_0.eq_def, ltI_true hi]
    simp only [w64_succ hl hi]
    cases b with
    | true => simp only; rw [k27_loop t hl IH d (i + 1) true (by omega)]; simp
    | false =>
      simp only [idx_nat hi, Option.bind_eq_bind, Option.bind_some, IH _ (List.getElem_mem hi)]
      rw [k27_loop t hl IH d (i + 1) _ (by omega)]
      simp
theorem k27_eq : ∀ (n : Nat) (t : GT), SizeOf.sizeOf t < n → okT t → k27 t = some ((refsTB t, ()), ())
  | 0, t, h, _ => by omega
  | n + 1, t, h, ho => by
    obtain ⟨h1, h2⟩ := okT_kids ho
    have IH : ∀ x ∈ t.kids, k27 x = some ((refsTB x, ()), ()) := fun x hx => k27_eq n x (by have := GT.kids_lt hx; omega) (h2 x hx)
    have e := k27_loop t h1 IH t.kids.length 0 (eqI t.kind 4) (by omega)
    rw [show ((0 : Nat) : Int) = 0 from rfl, List.drop_zero] at e
    rw [k27, e, refsTB_eq]
    rfl
theorem k12_loop (t : GT) (hl : t.kids.length ≤ MX) (ho : ∀ x ∈ t.kids, okT x) (IH : ∀ x ∈ t.kids, k12 x = some ((wholeT x, ()), ())) : ∀ (d i : Nat), i + d = t.kids.length →
    k12_0 t (i : Int) = some (bif wholeTs (decide (t.kind = 2) || decide (t.kind = 4)) (t.kids.drop i) then Sum.inl ((), ()) else Sum.inr ((false, ()), ()))
  | 0, i, h => by
    have h1 : t.kids.drop i = [] := List.drop_of_length_le (by omega)
    rw [h1, k12_0, ltI_false (by omega)]
    simp [wholeTs]
  | d + 1, i, h => by
    have hi : i < t.kids.length := by omega
    have ih := k12_loop t hl ho IH d (i + 1) (by omega)
    rw [drop_at hi]
    simp only [wholeTs]
    rw [k12_0, ltI_true hi]
    simp only [idx_nat hi, Option.bind_eq_bind, Option.bind_some, IH _ (List.getElem_mem hi), k27_eq _ t.kids[i] (Nat.lt_succ_self _) (ho _ (List.getElem_mem hi)), w64_succ hl hi, ih]
    cases hw : wholeT t.kids[i] with
    | false => rfl
    | true =>
      simp only [eqI, Bool.not_true]
      cases h2 : decide (t.kind = 2) <;> cases h4 : decide (t.kind = 4) <;> cases hr : refsTB t.kids[i] <;> simp
theorem k12_eq : ∀ (n : Nat) (t : GT), SizeOf.sizeOf t < n → okT t → k12 t = some ((wholeT t, ()), ())
  | 0, t, h, _ => by omega
  | n + 1, t, h, ho => by
    obtain ⟨h1, h2⟩ := okT_kids ho
    have IH : ∀ x ∈ t.kids, k12 x = some ((wholeT x, ()), ()) := fun x hx => k12_eq n x (by have := GT.kids_lt hx; omega) (h2 x hx)
    have e := k12_loop t h1 h2 IH t.kids.length 0 (by omega)
    rw [show ((0 : Nat) : Int) = 0 from rfl, List.drop_zero] at e
    rw [k12, e, wholeT_eq]
    cases wholeTs (decide (t.kind = 2) || decide (t.kind = 4)) t.kids <;> rfl
theorem k15_loop (t : GT) (hl : t.kids.length ≤ MX) (IH : ∀ x ∈ t.kids, ∃ n, k15 x = some ((n, ()), ())) : ∀ (d i : Nat) (a : Int), i + d = t.kids.length → ∃ n, k15_0 t a (i : Int) = some ((n, ()), ())
  | 0, i, a, h => by
    rw [k15_0, ltI_false (by omega)]
    exact ⟨_, rfl⟩
  | d + 1, i, a, h => by
    have hi : i < t.kids.length := by omega
    obtain ⟨n, hn⟩ := IH _ (List.getElem_mem hi)
    rw [k15_0, ltI_true hi]
    simp only [idx_nat hi, Option.bind_eq_bind, Option.bind_some, hn, w64_succ hl hi]
    cases leI a 400 with
    | true => exact k15_loop t hl IH d (i + 1) _ (by omega)
    | false => exact ⟨_, rfl⟩
theorem k15_some : ∀ (n : Nat) (t : GT), SizeOf.sizeOf t < n → okT t → ∃ m, k15 t = some ((m, ()), ())
  | 0, t, h, _ => by omega
  | n + 1, t, h, ho => by
    obtain ⟨h1, h2⟩ := okT_kids ho
    have IH : ∀ x ∈ t.kids, ∃ m, k15 x = some ((m, ()), ()) := fun x hx => k15_some n x (by have := GT.kids_lt hx; omega) (h2 x hx)
    rw [k15]
    obtain ⟨m, hm⟩ := k15_loop t h1 IH t.kids.length 0 (w64 (1 + w64 (Int.tdiv (↑(List.length (GT.life t)) : Int) 100))) (by omega)
    rw [show ((0 : Nat) : Int) = 0 from rfl] at hm
    rw [hm]
    exact ⟨_, rfl⟩
theorem k4_eq (t : GT) (ho : okT t) : k4 t = some ((true, ()), ()) := by
  obtain ⟨n1, e1⟩ := k15_some _ t (Nat.lt_succ_self _) ho
  have e2 : k16 [] = some ((0, ()), ()) := by
    rw [k16, k16_0]
    rfl
  have e3 : ∃ n, k17 (GE.mk 0 0 [] false []) = some ((n, ()), ()) := by
    rw [k17, k17_0]
    exact ⟨_, rfl⟩
  obtain ⟨n3, e3⟩ := e3
  have e7 : ∃ n, k7 [{ name := [], lives := [], params := [], gives := t, outs := [], body := [], value := GE.mk 0 0 [] false [] }] = some ((n, ()), ()) := by
    have hd : ∀ n : Int, ∃ m, k7_3 [{ name := [], lives := [], params := [], gives := t, outs := [], body := [], value := GE.mk 0 0 [] false [] }] n 1 = some ((m, ()), ()) := fun n => by
      rw [k7_3]
      exact ⟨_, rfl⟩
    have h0 : ∀ (a : Int) (f : GF), f.params = [] → k7_0 a 0 f = some ((a, ()), f, ()) := fun a f hf => by
      rw [k7_0, hf]
      rfl
    have h1 : ∀ (a : Int) (f : GF), f.lives = [] → k7_1 a 0 f = some ((a, ()), f, ()) := fun a f hf => by
      rw [k7_1, hf]
      rfl
    have h2 : ∀ (a : Int) (f : GF), f.outs = [] → k7_2 a 0 f = some ((a, ()), f, ()) := fun a f hf => by
      rw [k7_2, hf]
      rfl
    have hx : ∀ l : List GF, l = [{ name := [], lives := [], params := [], gives := t, outs := [], body := [], value := GE.mk 0 0 [] false [] }] → ∃ m, k7_3 l 0 0 = some ((m, ()), ()) := by
      intro l hl
      rw [k7_3, hl]
      have i0 : ltI 0 (([{ name := [], lives := [], params := [], gives := t, outs := [], body := [], value := GE.mk 0 0 [] false [] }] : List GF).length : Int) = true := rfl
      rw [i0]
      have i1 : leI 0 400 = true := by decide
      rw [i1]
      have i2 : idx ([{ name := [], lives := [], params := [], gives := t, outs := [], body := [], value := GE.mk 0 0 [] false [] }] : List GF) 0 = some { name := [], lives := [], params := [], gives := t, outs := [], body := [], value := GE.mk 0 0 [] false [] } := rfl
      simp only [Option.bind_eq_bind, Option.bind_some, i2, e1, e2, e3]
      rw [h0 _ _ rfl]
      simp only [Option.bind_some]
      rw [h1 _ _ rfl]
      simp only [Option.bind_some]
      rw [h2 _ _ rfl]
      simp only [Option.bind_some]
      have i3 : w64 (0 + 1) = 1 := by decide
      rw [i3]
      exact hd _
    obtain ⟨m, hm⟩ := hx _ rfl
    rw [k7, hm]
    exact ⟨_, rfl⟩
  obtain ⟨n7, e7⟩ := e7
  rw [k4]
  simp only [kh_awake, Option.bind_eq_bind, Option.bind_some, e7, k11_eq _ t (Nat.lt_succ_self _) ho, k12_eq _ t (Nat.lt_succ_self _) ho]
  cases ltI 400 n7 <;> simp [eqB]
end Go.Lb.R
end
section
namespace Go.Lb
def fzW (W : World) : Fz := fun b o => ∃ c, W.cell? ⟨b, o, none⟩ = some c
theorem mapM_all {α β : Type} {f : α → Option β} : ∀ {l : List α} {r : List β}, l.mapM f = some r → ∀ x ∈ l, ∃ y, f x = some y
  | [], _, _, x, hx => by cases hx
  | a :: l, r, h, x, hx => by
    simp only [List.mapM_cons, Option.bind_eq_bind, Option.bind_eq_some_iff] at h
    obtain ⟨y, h1, ys, h2, _⟩ := h
    rcases List.mem_cons.1 hx with rfl | hx
    · exact ⟨y, h1⟩
    · exact mapM_all h2 x hx
theorem RelAt.app {fz : Fz} {w : World} : ∀ {us vs : List AV} {b o : Nat}, RelAt fz w us b o → RelAt fz w vs b (o + us.length) → RelAt fz w (us ++ vs) b o
  | [], vs, b, o, _, h => by simpa using h
  | u :: us, vs, b, o, h1, h2 => by
    simp only [RelAt, List.cons_append] at h1 ⊢
    exact ⟨h1.1, RelAt.app h1.2 (by rw [show o + 1 + us.length = o + (u :: us).length by simp; omega]; exact h2)⟩
theorem relAt_cells {W : World} : ∀ {us : List AV} {cs : List Value} {b o : Nat}, RelL (fzW W) W us cs → (∀ j c, cs[j]? = some c → W.cell? ⟨b, o + j, none⟩ = some c) → RelAt (fzW W) W us b o
  | [], _, _, _, _, _ => by simp [RelAt]
  | u :: us, cs, b, o, h, hc => by
    simp only [RelL] at h
    obtain ⟨c, l, rfl, h1, h2⟩ := h
    simp only [RelAt]
    have h0 := hc 0 c rfl
    refine ⟨⟨c, by simpa using h0, ⟨c, by simpa using h0⟩, h1⟩, relAt_cells h2 fun j c' hj => ?_⟩
    have := hc (j + 1) c' (by simpa using hj)
    rw [show o + 1 + j = o + (j + 1) by omega]
    exact this
theorem add_none (b o n : Nat) : (⟨b, o, none⟩ : Addr).add n = ⟨b, o + n, none⟩ := by
  unfold Addr.add
  split
  · rename_i h; subst h; rfl
  · rfl
theorem spot_none {W : World} {a : Addr} {c : Value} (h : W.cell? a = some c) : a.spot = none := by
  unfold World.cell? at h
  split at h
  · cases hs : a.spot with
    | none => rfl
    | some q => rw [hs] at h; simp at h
  · cases h
section
variable {H : Type} {enc : TypeId × Value → H} {P : Program} {W : World} {spare : Nat → Bool} {held : Bool}
theorem rd_row {α : Type} [E : EncL α] {ok : α → Prop} {sz : Nat} {b o : Nat} (hsz : E.sz = sz) {good : Nat → Prop}
    (hg : ∀ i, good i → ∃ x : α, ok x ∧ RelAt (fzW W) W (E.enc x) b (o + i * sz)) : ∀ (k s : Nat), (∀ i, s ≤ i → i < s + k → good i) → ∃ l : List α, l.length = k ∧ (∀ x ∈ l, ok x) ∧ RelAt (fzW W) W (E.encs l) b (o + s * sz)
  | 0, s, _ => ⟨[], rfl, fun x hx => (by cases hx), by rw [E.flat]; simp [RelAt]⟩
  | k + 1, s, h => by
    obtain ⟨x, hx, hr⟩ := hg s (h s (Nat.le_refl _) (by omega))
    obtain ⟨l, h1, h2, h3⟩ := rd_row hsz hg k (s + 1) fun i h1 h2 => h i (by omega) (by omega)
    refine ⟨x :: l, by simp [h1], fun y hy => ?_, ?_⟩
    · rcases List.mem_cons.1 hy with rfl | hy
      · exact hx
      · exact h2 y hy
    · have : E.encs (x :: l) = E.enc x ++ E.encs l := by rw [E.flat, E.flat]; rfl
      rw [this]
      refine RelAt.app hr ?_
      rw [E.len, hsz, show o + s * sz + sz = o + (s + 1) * sz by rw [Nat.add_mul]; omega]
      exact h3
theorem rd_sl {α : Type} [E : EncL α] {ok : α → Prop} {e t : TypeId} {sz fuel : Nat} (ht : P.underlying t = some (.slice e)) (hsz : P.cellsOf e = sz) (hE : E.sz = sz) (h0 : 0 < sz)
    (hr : ∀ cs d ps, DataW.trod enc P W 0 spare held fuel e cs = some (d, ps) → ∃ x : α, ok x ∧ RelL (fzW W) W (E.enc x) cs)
    {v : Value} {d : DataW H} {ps : List MemPlace} (h : DataW.trod enc P W 0 spare held (fuel + 1) t [v] = some (d, ps)) : ∃ l : List α, l.length ≤ R.MX ∧ (∀ x ∈ l, ok x) ∧ Rel (fzW W) W (.sl l.length (E.encs l) .shared) v := by
  unfold DataW.trod at h
  rw [ht] at h
  split at h <;> rename_i hu hcs <;> first | (cases hu; done) | (cases hcs; done) | skip
  ·
    cases hcs
    refine ⟨[], by simp, fun x hx => (by cases hx), ?_⟩
    simp only [Rel]
    exact ⟨none, 0, rfl, by simp, by simp [maxLen], trivial, .inl ⟨rfl, by rw [E.flat]; rfl⟩⟩
  · rename_i a len cap
    injection hu with hu
    injection hu with hu
    subst hu
    injection hcs with hcs
    subst hcs
    split at h
    · rename_i hb
      obtain ⟨elems, he, _⟩ := Option.bind_eq_some_iff.1 h
      have hall := mapM_all he
      have hsp : 0 < len → a.spot = none := fun hlen => by
        obtain ⟨y, hy⟩ := hall 0 (List.mem_range.2 hlen)
        obtain ⟨cs, hc1, hc2⟩ := Option.bind_eq_some_iff.1 hy
        obtain ⟨_, hl, hcell⟩ := World.cells?_some hc1
        rw [hsz] at hl hcell
        have h00 := hcell 0 h0
        rw [List.getElem?_eq_getElem (by omega : 0 < cs.length)] at h00
        have e0 : ∀ x : Addr, x.add 0 = x := fun x => by unfold Addr.add; simp
        rw [Nat.zero_mul, e0, e0] at h00
        exact spot_none h00
      have hone : ∀ i, i < len → ∃ x : α, ok x ∧ RelAt (fzW W) W (E.enc x) a.block (a.off + i * sz) := by
        intro i hi
        obtain ⟨y, hy⟩ := hall i (List.mem_range.2 hi)
        obtain ⟨cs, hc1, hc2⟩ := Option.bind_eq_some_iff.1 hy
        obtain ⟨_, hl, hcell⟩ := World.cells?_some hc1
        rw [hsz] at hl hcell
        obtain ⟨x, hx, hrel⟩ := hr cs y.1 y.2 hc2
        refine ⟨x, hx, relAt_cells hrel fun j c hj => ?_⟩
        have hjl : j < sz := by
          have := (List.getElem?_eq_some_iff.1 hj).1
          omega
        have := hcell j hjl
        rw [hj] at this
        rw [← this]
        have hs := hsp (by omega)
        obtain ⟨ab, ao, asp⟩ := a
        simp only at hs
        subst hs
        rw [add_none, add_none]
      obtain ⟨l, h1, h2, h3⟩ := rd_row (E := E) (b := a.block) (o := a.off) hE (good := fun i => i < len) (fun i hi => by
        exact hone i hi) len 0 (fun i _ hi => by omega)
      refine ⟨l, by have := hb.2.2; have := hb.2.1; simp only [maxLen] at *; simp only [R.MX]; omega, h2, ?_⟩
      simp only [Rel]
      refine ⟨some a, cap, by rw [h1], by rw [h1]; exact hb.2.1, hb.2.2, trivial, ?_⟩
      cases hl : l with
      | nil => exact .inl ⟨rfl, by rw [E.flat]; rfl⟩
      | cons y l' =>
        have hlen : 0 < len := by rw [← h1, hl]; simp
        have hs := hsp hlen
        refine .inr ⟨a.block, a.off, by cases a; simp only at hs; rw [hs], ?_⟩
        rw [← hl]
        simpa using h3
    · cases h
  · cases h
theorem rd_st {t : TypeId} {fs : Array Field} {fuel : Nat} (ht : P.underlying t = some (.struct fs)) {cs : List Value} {d : DataW H} {ps : List MemPlace} (h : DataW.trod enc P W 0 spare held (fuel + 1) t cs = some (d, ps)) :
    cs.length = P.cellsOf t ∧ ∀ f ∈ fs.toList, ∃ y, DataW.trod enc P W 0 spare held fuel f.type ((cs.drop f.offset).take (P.cellsOf f.type)) = some y := by
  unfold DataW.trod at h
  rw [ht] at h
  have fin : (if cs.length = P.cellsOf t then (fs.toList.mapM fun f => DataW.trod enc P W 0 spare held fuel f.type ((cs.drop f.offset).take (P.cellsOf f.type))).map fun xs => ((.agg (xs.map (·.1)) : DataW H), xs.flatMap (·.2)) else none) = some (d, ps) → cs.length = P.cellsOf t ∧ ∀ f ∈ fs.toList, ∃ y, DataW.trod enc P W 0 spare held fuel f.type ((cs.drop f.offset).take (P.cellsOf f.type)) = some y := by
    intro h
    split at h
    · rename_i hl
      obtain ⟨xs, hx, _⟩ := Option.map_eq_some_iff.1 h
      exact ⟨hl, fun f hf => mapM_all hx f hf⟩
    · cases h
  split at h <;> rename_i hu hcs <;> first | (cases hu; done) | (cases hcs; done) | (cases h; done) | skip
  all_goals first | exact fin h | (injection hcs with hcs; injection hcs with hcs; subst hcs; exact fin h) | (injection hu with hu; injection hu with hu; subst hu; exact fin h)
theorem rd_int {t : TypeId} {k : IntKind} {fuel : Nat} (ht : P.underlying t = some (.int k)) {cs : List Value} {y : DataW H × List MemPlace} (h : DataW.trod enc P W 0 spare held fuel t cs = some y) : ∃ n, cs = [.int k n] := by
  cases fuel with
  | zero => unfold DataW.trod at h; cases h
  | succ fuel =>
    unfold DataW.trod at h
    rw [ht] at h
    split at h <;> simp_all
theorem rd_bool {t : TypeId} {fuel : Nat} (ht : P.underlying t = some .bool) {cs : List Value} {y : DataW H × List MemPlace} (h : DataW.trod enc P W 0 spare held fuel t cs = some y) : ∃ b, cs = [.bool b] := by
  cases fuel with
  | zero => unfold DataW.trod at h; cases h
  | succ fuel =>
    unfold DataW.trod at h
    rw [ht] at h
    split at h <;> simp_all
theorem rd_str {t : TypeId} {fuel : Nat} (ht : P.underlying t = some .string) {cs : List Value} {y : DataW H × List MemPlace} (h : DataW.trod enc P W 0 spare held fuel t cs = some y) : ∃ s : Str, s.length ≤ R.MX ∧ cs = [.string ⟨s.toArray⟩] := by
  cases fuel with
  | zero => unfold DataW.trod at h; cases h
  | succ fuel =>
    unfold DataW.trod at h
    rw [ht] at h
    split at h <;> rename_i hu hcs <;> first | (cases hu; done) | (cases hcs; done) | skip
    · split at h
      · rename_i hs
        refine ⟨hu.data.toList, ?_, (by cases hu; rfl)⟩
        have : hu.data.toList.length = hu.size := Array.length_toList
        simp only [maxLen] at hs
        simp only [R.MX]
        omega
      · cases h
    · cases h
end
end Go.Lb
end
section
set_option maxRecDepth 100000
set_option maxHeartbeats 0
namespace Go.Lb.R
open Go.Proofs
open Go.Lb
def conL : List (Nat × Con) := [(130, fieldsCon), (166, indexByteCon), (167, validRuneCon), (41, cloneCon), (80, innerCon), (20, codeCon), (21, faultCon)]
noncomputable def C0 : XC := mkC (lkCon conL) (fun _ => none)
theorem conL_ok (B : Nat) : AllC (X B) C0 conL := ⟨fields_ok B _ _, indexByte_ok B _ _, validRune_ok B _ _, clone_ok B _ _, inner_ok B _ _, code_ok B _ _, fault_ok B _ _, trivial⟩
def awakeCon : Con := pureCon [] .bool fun _ => some true
noncomputable def fi6 : FI := (lkF XFl 6).getD ⟨0, [], .skip, ⟨[], [], []⟩⟩
theorem fi6_eq : C0.fi 6 = some fi6 := by kernel_rfl
theorem awake_run : xfunc C0 (xcall C0 100) 6 fi6 .nil awakeCon ((), ()) = some ((true, ()), ()) := by kernel_rfl
theorem awake_ok (B : Nat) (con : FuncId → Option Con) (lp : Nat → Option (FuncId × List Nat × Con)) : FnOKs (X B) (mkC con lp) 6 awakeCon := fun x y hx => by
  have hx : some ((true, ()), ()) = some y := hx
  injection hx with hx
  subst hx
  exact fn_noloop (C := C0) (hX B _ _) (hF B _ _) (conL_ok B) rfl rfl 100 fi6_eq awake_run
end Go.Lb.R
end
