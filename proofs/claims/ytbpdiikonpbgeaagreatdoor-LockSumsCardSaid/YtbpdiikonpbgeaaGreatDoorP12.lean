/- For every input the law linchpinlaw33.LockSums answers true and leaves its arguments as they were; the package variables that the row lists hold what the program text lays. -/
import Derived.Carry
import Derived.ChangeArms
import Derived.ChangeSame
import Derived.Deep.DeepHandedRow
import Derived.Lib.CountLaws
import Derived.Lib.IndexMore
import Derived.Lib.ItoaNum
import Derived.Lib.Join
import Derived.Lib.LaidTab
import Derived.Lib.Split
import Derived.Lib.SplitLaws
import Derived.Lib.Strings
import Derived.OpenShut
import Derived.RowKit
import Derived.Shelf.LaysM
import Derived.Shelf.Small.Wraps
import Derived.Shelf.Strconv.Itoa0
import Derived.Shelf.Strconv.Itoa1
import Derived.Shelf.Strconv.Itoa2
import Derived.Shelf.Strconv.Itoa3
import Derived.Shelf.Strings.Builder1
import Derived.Shelf.Strings.Builder2
import Derived.Shelf.Strings.Count
import Derived.Shelf.Strings.Cut
import Derived.Shelf.Strings.OnBuilder
import Derived.Shelf.Strings.Prefix
import Derived.Shelf.Strings.Search1
import Derived.Shelf.Strings.Search2
import Derived.Shelf.Strings.Search3
import Derived.Shelf.Strings.Shaped
import Derived.Shelf.Strings.Split
import Derived.Shelf.Strings.SplitShaped
import Derived.Shelf.Unicode.DecodeSlow
import Derived.Test.YtbpdiikonpbgeaaGreatDoorCards
import Derived.Test.YtbpdiikonpbgeaaGreatDoorProg
import Derived.Test.YtbpdiikonpbgeaaGreatDoorTie
import Derived.WideKeyArgs
import Derived.WideShapes
import Derived.Test.YtbpdiikonpbgeaaGreatDoorP11
set_option linter.all false
section
namespace Go.Proofs
open Go.Shelf
def Tryz.lays156_ren : Go.Shelf.Ren := ⟨fun | 156 => 53 | 165 => 73 | 166 => 74 | 169 => 75 | 240 => 92 | 241 => 93 | 276 => 107 | 277 => 108 | n => n, fun | 31 => 51 | 9 => 9 | 3 => 3 | 4 => 4 | 0 => 0 | 20 => 20 | 72 => 112 | 76 => 116 | 70 => 110 | 37 => 40 | 75 => 115 | 127 => 128 | 164 => 131 | 5 => 5 | 80 => 68 | n => n, fun | n => n⟩
theorem Tryz.lays156 : Go.Proofs.Lays.n156 Tryz.prog Tryz.lays156_ren := {
  mixed := by kernel_rfl
  f156 := Tryz.func53.trans (congrArg some (by kernel_rfl))
  f165 := Tryz.func73.trans (congrArg some (by kernel_rfl))
  f166 := Tryz.func74.trans (congrArg some (by kernel_rfl))
  f169 := Tryz.func75.trans (congrArg some (by kernel_rfl))
  f240 := Tryz.func92.trans (congrArg some (by kernel_rfl))
  f241 := Tryz.func93.trans (congrArg some (by kernel_rfl))
  f276 := Tryz.func107.trans (congrArg some (by kernel_rfl))
  f277 := Tryz.func108.trans (congrArg some (by kernel_rfl))
  t0 := Tryz.underlying0
  a0 := Tryz.isAgg0
  z0 := Tryz.sizeOf0
  v0 := Tryz.zeroValue0
  t3 := Tryz.underlying3
  a3 := Tryz.isAgg3
  z3 := Tryz.sizeOf3
  v3 := Tryz.zeroValue3
  t4 := Tryz.underlying4
  a4 := Tryz.isAgg4
  z4 := Tryz.sizeOf4
  v4 := Tryz.zeroValue4
  t9 := Tryz.underlying9
  a9 := Tryz.isAgg9
  z9 := Tryz.sizeOf9
  v9 := Tryz.zeroValue9
  t20 := Tryz.underlying20
  a20 := Tryz.isAgg20
  z20 := Tryz.sizeOf20
  v20 := Tryz.zeroValue20
  t31 := Tryz.underlying51
  a31 := Tryz.isAgg51
  z31 := Tryz.sizeOf51
  v31 := Tryz.zeroValue51
  t37 := Tryz.underlying40
  a37 := Tryz.isAgg40
  z37 := Tryz.sizeOf40
  v37 := Tryz.zeroValue40
  t70 := Tryz.underlying110
  a70 := Tryz.isAgg110
  z70 := Tryz.sizeOf110
  v70 := Tryz.zeroValue110
  t72 := Tryz.underlying112
  a72 := Tryz.isAgg112
  z72 := Tryz.sizeOf112
  v72 := Tryz.zeroValue112
  t75 := Tryz.underlying115
  a75 := Tryz.isAgg115
  z75 := Tryz.sizeOf115
  v75 := Tryz.zeroValue115
  t76 := Tryz.underlying116
  a76 := Tryz.isAgg116
  z76 := Tryz.sizeOf116
  v76 := Tryz.zeroValue116
  t127 := Tryz.underlying128
  a127 := Tryz.isAgg128
  z127 := Tryz.sizeOf128
  v127 := Tryz.zeroValue128
  t164 := Tryz.underlying131
  a164 := Tryz.isAgg131
  z164 := Tryz.sizeOf131
  v164 := Tryz.zeroValue131 }
theorem Tryz.Builder_Extra_156 : Builder.Extra Tryz.prog Tryz.lays156_ren := {
  sizeBuilder := by kernel_rfl
  liesBuilder := by kernel_rfl
  t5 := Tryz.underlying5
  a5 := Tryz.isAgg5
  z5 := Tryz.sizeOf5
  v5 := Tryz.zeroValue5
  infoByte := by kernel_rfl
  cellsByte := by kernel_rfl
  sizeByte := by kernel_rfl
  neB5 := by decide }
open Go.RowKit in
/-- No element: the empty string; the world is as it was. (Whatever the slice's address and capacity: a nil slice too.) (LAID: no walk: one application.) -/
theorem Tryz.strings_Join_none (a : Option Addr) (c : Nat) (sep : ByteArray) (w : World) :
    Calls Tryz.prog 53 #[.slice a 0 c, .string sep] w fun e w' => e = .returned (.string ⟨#[]⟩) ∧ w' = w := Any.strings_Join_none Tryz.lays156 Tryz.Builder_Extra_156 a c sep w
open Go.RowKit in
/-- strings.Join: "Join concatenates the elements of its first argument to create a single string. The separator string sep is placed between elements in the resulting string.": HOWEVER MANY ELEMENTS. Below the heap's end the world is as it was. (LAID: no walk: one application.) -/
theorem Tryz.strings_Join (bk o c : Nat) (xs : List ByteArray) (sep : ByteArray) (w : World) (hcells : ∀ (j : Nat) x, xs[j]? = some x → w.cell? ⟨bk, o + j, none⟩ = some (.string x)) (hbk : bk < w.heap.size) (hN : xs.length ≤ 140737488355328) (hcap : xs.length ≤ c) (hlen : (Lib.join (xs.map (·.data.toList)) sep.data.toList).length ≤ 140737488355328) :
    Calls Tryz.prog 53 #[.slice (some ⟨bk, o, none⟩) xs.length c, .string sep] w fun e w' => e = .returned (.string ⟨(Lib.join (xs.map (·.data.toList)) sep.data.toList).toArray⟩) ∧ Below w.heap.size w w' := Any.strings_Join Tryz.lays156 Tryz.Builder_Extra_156 bk o c xs sep w hcells hbk hN hcap hlen
def Tryz.lays103_ren : Go.Shelf.Ren := ⟨fun | 103 => 38 | 210 => 62 | 206 => 79 | n => n, fun | 9 => 9 | 4 => 4 | 24 => 76 | 3 => 3 | n => n, fun | n => n⟩
theorem Tryz.lays103 : Go.Proofs.Lays.n103 Tryz.prog Tryz.lays103_ren := {
  mixed := by kernel_rfl
  f103 := Tryz.func38.trans (congrArg some (by kernel_rfl))
  f206 := Tryz.func79.trans (congrArg some (by kernel_rfl))
  f210 := Tryz.func62.trans (congrArg some (by kernel_rfl))
  t3 := Tryz.underlying3
  a3 := Tryz.isAgg3
  z3 := Tryz.sizeOf3
  v3 := Tryz.zeroValue3
  t4 := Tryz.underlying4
  a4 := Tryz.isAgg4
  z4 := Tryz.sizeOf4
  v4 := Tryz.zeroValue4
  t9 := Tryz.underlying9
  a9 := Tryz.isAgg9
  z9 := Tryz.sizeOf9
  v9 := Tryz.zeroValue9
  t24 := Tryz.underlying76
  a24 := Tryz.isAgg76
  z24 := Tryz.sizeOf76
  v24 := Tryz.zeroValue76 }
open Go.RowKit in
/-- strings.CutPrefix: "CutPrefix returns s without the provided leading prefix string and reports whether it found the prefix. If s doesn't start with prefix, CutPrefix returns s, false. If prefix is the empty string, CutPrefix returns s, true.": IT RETURNS '(Lib.trimPrefix s p, Lib.hasPrefix s p)'; the world is as it was. (LAID: no walk: one application.) -/
theorem Tryz.strings_CutPrefix (s p : ByteArray) (w : World) :
    Calls Tryz.prog 38 #[.string s, .string p] w fun e w' => e = .returned (.tuple #[.string ⟨(Lib.trimPrefix s.data.toList p.data.toList).toArray⟩, .bool (Lib.hasPrefix s.data.toList p.data.toList)]) ∧ w' = w := Any.strings_CutPrefix Tryz.lays103 s p w
def Tryz.laysM171_ren : Go.Shelf.Ren := ⟨fun | 171 => 91 | 243 => 106 | 246 => 115 | 283 => 118 | 284 => 119 | 285 => 120 | 286 => 121 | 129 => 123 | 317 => 122 | 318 => 124 | 319 => 125 | 320 => 126 | 337 => 127 | 338 => 128 | n => n, fun | 3 => 3 | 9 => 9 | 2 => 2 | 4 => 4 | 171 => 141 | 0 => 0 | 53 => 38 | 37 => 40 | 5 => 5 | 173 => 144 | 212 => 151 | 51 => 137 | 20 => 20 | 213 => 152 | 46 => 72 | 232 => 155 | 233 => 156 | n => n, fun | 17 => 3 | 18 => 4 | 19 => 5 | n => n⟩
theorem Tryz.laysM171 : Go.Proofs.LaysM.n171 Tryz.prog Tryz.laysM171_ren := {
  mixed := by kernel_rfl
  f129 := Tryz.func123.trans (congrArg some (by kernel_rfl))
  f171 := Tryz.func91.trans (congrArg some (by kernel_rfl))
  f243 := Tryz.func106.trans (congrArg some (by kernel_rfl))
  f246 := Tryz.func115.trans (congrArg some (by kernel_rfl))
  f283 := Tryz.func118.trans (congrArg some (by kernel_rfl))
  f284 := Tryz.func119.trans (congrArg some (by kernel_rfl))
  f285 := Tryz.func120.trans (congrArg some (by kernel_rfl))
  f286 := Tryz.func121.trans (congrArg some (by kernel_rfl))
  f317 := Tryz.func122.trans (congrArg some (by kernel_rfl))
  f318 := Tryz.func124.trans (congrArg some (by kernel_rfl))
  f319 := Tryz.func125.trans (congrArg some (by kernel_rfl))
  f320 := Tryz.func126.trans (congrArg some (by kernel_rfl))
  f337 := Tryz.func127.trans (congrArg some (by kernel_rfl))
  f338 := Tryz.func128.trans (congrArg some (by kernel_rfl))
  t0 := Tryz.underlying0
  a0 := Tryz.isAgg0
  z0 := Tryz.sizeOf0
  v0 := Tryz.zeroValue0
  t2 := Tryz.underlying2
  a2 := Tryz.isAgg2
  z2 := Tryz.sizeOf2
  v2 := Tryz.zeroValue2
  t3 := Tryz.underlying3
  a3 := Tryz.isAgg3
  z3 := Tryz.sizeOf3
  v3 := Tryz.zeroValue3
  t4 := Tryz.underlying4
  a4 := Tryz.isAgg4
  z4 := Tryz.sizeOf4
  v4 := Tryz.zeroValue4
  t5 := Tryz.underlying5
  a5 := Tryz.isAgg5
  z5 := Tryz.sizeOf5
  v5 := Tryz.zeroValue5
  t9 := Tryz.underlying9
  a9 := Tryz.isAgg9
  z9 := Tryz.sizeOf9
  v9 := Tryz.zeroValue9
  t20 := Tryz.underlying20
  a20 := Tryz.isAgg20
  z20 := Tryz.sizeOf20
  v20 := Tryz.zeroValue20
  t37 := Tryz.underlying40
  a37 := Tryz.isAgg40
  z37 := Tryz.sizeOf40
  v37 := Tryz.zeroValue40
  t46 := Tryz.underlying72
  a46 := Tryz.isAgg72
  z46 := Tryz.sizeOf72
  v46 := Tryz.zeroValue72
  t51 := Tryz.underlying137
  a51 := Tryz.isAgg137
  z51 := Tryz.sizeOf137
  v51 := Tryz.zeroValue137
  t53 := Tryz.underlying38
  a53 := Tryz.isAgg38
  z53 := Tryz.sizeOf38
  v53 := Tryz.zeroValue38
  t171 := Tryz.underlying141
  a171 := Tryz.isAgg141
  z171 := Tryz.sizeOf141
  v171 := Tryz.zeroValue141
  t173 := Tryz.underlying144
  a173 := Tryz.isAgg144
  z173 := Tryz.sizeOf144
  v173 := Tryz.zeroValue144
  t212 := Tryz.underlying151
  a212 := Tryz.isAgg151
  z212 := Tryz.sizeOf151
  v212 := Tryz.zeroValue151
  t213 := Tryz.underlying152
  a213 := Tryz.isAgg152
  z213 := Tryz.sizeOf152
  t232 := Tryz.underlying155
  a232 := Tryz.isAgg155
  z232 := Tryz.sizeOf155
  v232 := Tryz.zeroValue155
  t233 := Tryz.underlying156
  a233 := Tryz.isAgg156
  z233 := Tryz.sizeOf156
  v233 := Tryz.zeroValue156
  g17 := by kernel_rfl
  g18 := by kernel_rfl
  g19 := by kernel_rfl
  i0 := by kernel_rfl
  i2 := by kernel_rfl
  i3 := by kernel_rfl
  i4 := by kernel_rfl
  i5 := by kernel_rfl
  i9 := by kernel_rfl
  i20 := by kernel_rfl
  i37 := by kernel_rfl
  i46 := by kernel_rfl
  i51 := by kernel_rfl
  i53 := by kernel_rfl
  i171 := by kernel_rfl
  i173 := by kernel_rfl
  i212 := by kernel_rfl
  i232 := by kernel_rfl
  i233 := by kernel_rfl
  m17 := by kernel_rfl
  m18 := by kernel_rfl
  m19 := by kernel_rfl }
open Go.RowKit Go.Sort Go.Lib in
/-- strconv.Itoa: "Itoa is equivalent to FormatInt(int64(i), 10).": i's DECIMAL NUMERAL ('Lib.itoa': a '-' where i is negative, then the digits), FOR EVERY int. The world behind the call: the world before it, new blocks behind the heap (the library's 'var a [24]byte'), draws. (LAID: no walk: one application.) -/
theorem Tryz.strconv_Itoa (n : Int) (h0 : -9223372036854775808 ≤ n) (h1 : n ≤ 9223372036854775807) (w : World) (htab : Lib.TabIs Tryz.prog w "internal/strconv.uint64pow10" .u64 Lib.pow10Tab) :
    Calls Tryz.prog 91 #[.int .i64 n] w fun e w' => e = .returned (.string ⟨(Lib.itoa n).toArray⟩) ∧ ∃ k os, w' = grow (w.drewN k) os := Any.strconv_Itoa Tryz.laysM171 n h0 h1 w htab
def Tryz.lays144_ren : Go.Shelf.Ren := ⟨fun | 144 => 39 | 143 => 63 | 219 => 80 | 217 => 97 | 225 => 98 | 224 => 99 | 267 => 100 | 266 => 113 | 314 => 114 | n => n, fun | 9 => 9 | 4 => 4 | 3 => 3 | 5 => 5 | 46 => 72 | 146 => 138 | 51 => 137 | n => n, fun | 1 => 0 | n => n⟩
theorem Tryz.lays144 : Go.Proofs.Lays.n144 Tryz.prog Tryz.lays144_ren := {
  mixed := by kernel_rfl
  f143 := Tryz.func63.trans (congrArg some (by kernel_rfl))
  f144 := Tryz.func39.trans (congrArg some (by kernel_rfl))
  f217 := Tryz.func97.trans (congrArg some (by kernel_rfl))
  f219 := Tryz.func80.trans (congrArg some (by kernel_rfl))
  f224 := Tryz.func99.trans (congrArg some (by kernel_rfl))
  f225 := Tryz.func98.trans (congrArg some (by kernel_rfl))
  f266 := Tryz.func113.trans (congrArg some (by kernel_rfl))
  f267 := Tryz.func100.trans (congrArg some (by kernel_rfl))
  f314 := Tryz.func114.trans (congrArg some (by kernel_rfl))
  t3 := Tryz.underlying3
  a3 := Tryz.isAgg3
  z3 := Tryz.sizeOf3
  v3 := Tryz.zeroValue3
  t4 := Tryz.underlying4
  a4 := Tryz.isAgg4
  z4 := Tryz.sizeOf4
  v4 := Tryz.zeroValue4
  t5 := Tryz.underlying5
  a5 := Tryz.isAgg5
  z5 := Tryz.sizeOf5
  v5 := Tryz.zeroValue5
  t9 := Tryz.underlying9
  a9 := Tryz.isAgg9
  z9 := Tryz.sizeOf9
  v9 := Tryz.zeroValue9
  t46 := Tryz.underlying72
  a46 := Tryz.isAgg72
  z46 := Tryz.sizeOf72
  v46 := Tryz.zeroValue72
  t51 := Tryz.underlying137
  a51 := Tryz.isAgg137
  z51 := Tryz.sizeOf137
  v51 := Tryz.zeroValue137
  t146 := Tryz.underlying138
  a146 := Tryz.isAgg138
  z146 := Tryz.sizeOf138
  v146 := Tryz.zeroValue138
  g1 := by kernel_rfl }
open Go.RowKit Go.Lib in
/-- strings.Contains: "Contains reports whether substr is within s.": IT RETURNS 'Lib.contains s substr'; the world is as it was. (LAID: no walk: one application.) -/
theorem Tryz.strings_Contains (s sub : ByteArray) (m : Int) (w : World) (hs : s.size < 4294967281) (hm : w.cell? ⟨0, 0, none⟩ = some (.int .i64 m)) :
    Calls Tryz.prog 39 #[.string s, .string sub] w fun e w' => e = .returned (.bool (Lib.contains s.data.toList sub.data.toList)) ∧ w' = w := Any.strings_Contains Tryz.lays144 s sub m w hs hm
def Tryz.lays145_ren : Go.Shelf.Ren := ⟨fun | 145 => 59 | 220 => 77 | 219 => 80 | 217 => 97 | 225 => 98 | 224 => 99 | 267 => 100 | 266 => 113 | 314 => 114 | n => n, fun | 9 => 9 | 4 => 4 | 59 => 100 | 3 => 3 | 5 => 5 | 46 => 72 | 146 => 138 | 51 => 137 | n => n, fun | 1 => 0 | n => n⟩
theorem Tryz.lays145 : Go.Proofs.Lays.n145 Tryz.prog Tryz.lays145_ren := {
  mixed := by kernel_rfl
  f145 := Tryz.func59.trans (congrArg some (by kernel_rfl))
  f217 := Tryz.func97.trans (congrArg some (by kernel_rfl))
  f219 := Tryz.func80.trans (congrArg some (by kernel_rfl))
  f220 := Tryz.func77.trans (congrArg some (by kernel_rfl))
  f224 := Tryz.func99.trans (congrArg some (by kernel_rfl))
  f225 := Tryz.func98.trans (congrArg some (by kernel_rfl))
  f266 := Tryz.func113.trans (congrArg some (by kernel_rfl))
  f267 := Tryz.func100.trans (congrArg some (by kernel_rfl))
  f314 := Tryz.func114.trans (congrArg some (by kernel_rfl))
  t3 := Tryz.underlying3
  a3 := Tryz.isAgg3
  z3 := Tryz.sizeOf3
  v3 := Tryz.zeroValue3
  t4 := Tryz.underlying4
  a4 := Tryz.isAgg4
  z4 := Tryz.sizeOf4
  v4 := Tryz.zeroValue4
  t5 := Tryz.underlying5
  a5 := Tryz.isAgg5
  z5 := Tryz.sizeOf5
  v5 := Tryz.zeroValue5
  t9 := Tryz.underlying9
  a9 := Tryz.isAgg9
  z9 := Tryz.sizeOf9
  v9 := Tryz.zeroValue9
  t46 := Tryz.underlying72
  a46 := Tryz.isAgg72
  z46 := Tryz.sizeOf72
  v46 := Tryz.zeroValue72
  t51 := Tryz.underlying137
  a51 := Tryz.isAgg137
  z51 := Tryz.sizeOf137
  v51 := Tryz.zeroValue137
  t59 := Tryz.underlying100
  a59 := Tryz.isAgg100
  z59 := Tryz.sizeOf100
  v59 := Tryz.zeroValue100
  t146 := Tryz.underlying138
  a146 := Tryz.isAgg138
  z146 := Tryz.sizeOf138
  v146 := Tryz.zeroValue138
  g1 := by kernel_rfl }
open Go.RowKit Go.Lib in
/-- strings.Cut: "Cut slices s around the first instance of sep, returning the text before and after sep. The found result reports whether sep appears in s. If sep does not appear in s, cut returns s, "", false.": IT RETURNS 'Lib.cut s sep'; the world is as it was but for the count of draws. (LAID: no walk: one application.) -/
theorem Tryz.strings_Cut (s sep : ByteArray) (m : Int) (w : World) (hs : s.size < 4294967281) (hm : w.cell? ⟨0, 0, none⟩ = some (.int .i64 m)) :
    Calls Tryz.prog 59 #[.string s, .string sep] w fun e w' => e = .returned (.tuple #[.string ⟨(Lib.cut s.data.toList sep.data.toList).1.toArray⟩, .string ⟨(Lib.cut s.data.toList sep.data.toList).2.1.toArray⟩, .bool (Lib.cut s.data.toList sep.data.toList).2.2]) ∧ ∃ n, w' = w.drewN n := Any.strings_Cut Tryz.lays145 s sep m w hs hm
def Tryz.laysM144_ren : Go.Shelf.Ren := ⟨fun | 144 => 39 | 143 => 63 | 219 => 80 | 217 => 97 | 225 => 98 | 224 => 99 | 267 => 100 | 266 => 113 | 314 => 114 | n => n, fun | 9 => 9 | 4 => 4 | 3 => 3 | 5 => 5 | 46 => 72 | 146 => 138 | 51 => 137 | n => n, fun | 1 => 0 | n => n⟩
theorem Tryz.laysM144 : Go.Proofs.LaysM.n144 Tryz.prog Tryz.laysM144_ren := {
  mixed := by kernel_rfl
  f143 := Tryz.func63.trans (congrArg some (by kernel_rfl))
  f144 := Tryz.func39.trans (congrArg some (by kernel_rfl))
  f217 := Tryz.func97.trans (congrArg some (by kernel_rfl))
  f219 := Tryz.func80.trans (congrArg some (by kernel_rfl))
  f224 := Tryz.func99.trans (congrArg some (by kernel_rfl))
  f225 := Tryz.func98.trans (congrArg some (by kernel_rfl))
  f266 := Tryz.func113.trans (congrArg some (by kernel_rfl))
  f267 := Tryz.func100.trans (congrArg some (by kernel_rfl))
  f314 := Tryz.func114.trans (congrArg some (by kernel_rfl))
  t3 := Tryz.underlying3
  a3 := Tryz.isAgg3
  z3 := Tryz.sizeOf3
  v3 := Tryz.zeroValue3
  t4 := Tryz.underlying4
  a4 := Tryz.isAgg4
  z4 := Tryz.sizeOf4
  v4 := Tryz.zeroValue4
  t5 := Tryz.underlying5
  a5 := Tryz.isAgg5
  z5 := Tryz.sizeOf5
  v5 := Tryz.zeroValue5
  t9 := Tryz.underlying9
  a9 := Tryz.isAgg9
  z9 := Tryz.sizeOf9
  v9 := Tryz.zeroValue9
  t46 := Tryz.underlying72
  a46 := Tryz.isAgg72
  z46 := Tryz.sizeOf72
  v46 := Tryz.zeroValue72
  t51 := Tryz.underlying137
  a51 := Tryz.isAgg137
  z51 := Tryz.sizeOf137
  v51 := Tryz.zeroValue137
  t146 := Tryz.underlying138
  a146 := Tryz.isAgg138
  z146 := Tryz.sizeOf138
  v146 := Tryz.zeroValue138
  g1 := by kernel_rfl
  i3 := by kernel_rfl
  i4 := by kernel_rfl
  i5 := by kernel_rfl
  i9 := by kernel_rfl
  i46 := by kernel_rfl
  i51 := by kernel_rfl
  i146 := by kernel_rfl
  m1 := by kernel_rfl
  s1_3 := fun w h => Go.Proofs.cell_of_shapedOpen_int (zero := #[.int .i64 0]) (t := 3) h (of_decide_eq_true (by kernel_rfl)) (by kernel_rfl) rfl (by kernel_rfl) (by kernel_rfl) Tryz.underlying3 }
def Tryz.lays146_ren : Go.Shelf.Ren := ⟨fun | 146 => 60 | 221 => 78 | 268 => 95 | 138 => 96 | 143 => 63 | 195 => 110 | 197 => 111 | 218 => 112 | 219 => 80 | 260 => 117 | 217 => 97 | 225 => 98 | 224 => 99 | 267 => 100 | 266 => 113 | 314 => 114 | n => n, fun | 9 => 9 | 31 => 51 | 3 => 3 | 4 => 4 | 0 => 0 | 105 => 135 | 21 => 21 | 5 => 5 | 46 => 72 | 119 => 146 | 139 => 149 | 138 => 148 | 146 => 138 | 51 => 137 | n => n, fun | 1 => 0 | 3 => 1 | 4 => 2 | n => n⟩
theorem Tryz.lays146 : Go.Proofs.Lays.n146 Tryz.prog Tryz.lays146_ren := {
  mixed := by kernel_rfl
  f138 := Tryz.func96.trans (congrArg some (by kernel_rfl))
  f143 := Tryz.func63.trans (congrArg some (by kernel_rfl))
  f146 := Tryz.func60.trans (congrArg some (by kernel_rfl))
  f195 := Tryz.func110.trans (congrArg some (by kernel_rfl))
  f197 := Tryz.func111.trans (congrArg some (by kernel_rfl))
  f217 := Tryz.func97.trans (congrArg some (by kernel_rfl))
  f218 := Tryz.func112.trans (congrArg some (by kernel_rfl))
  f219 := Tryz.func80.trans (congrArg some (by kernel_rfl))
  f221 := Tryz.func78.trans (congrArg some (by kernel_rfl))
  f224 := Tryz.func99.trans (congrArg some (by kernel_rfl))
  f225 := Tryz.func98.trans (congrArg some (by kernel_rfl))
  f260 := Tryz.func117.trans (congrArg some (by kernel_rfl))
  f266 := Tryz.func113.trans (congrArg some (by kernel_rfl))
  f267 := Tryz.func100.trans (congrArg some (by kernel_rfl))
  f268 := Tryz.func95.trans (congrArg some (by kernel_rfl))
  f314 := Tryz.func114.trans (congrArg some (by kernel_rfl))
  t0 := Tryz.underlying0
  a0 := Tryz.isAgg0
  z0 := Tryz.sizeOf0
  v0 := Tryz.zeroValue0
  t3 := Tryz.underlying3
  a3 := Tryz.isAgg3
  z3 := Tryz.sizeOf3
  v3 := Tryz.zeroValue3
  t4 := Tryz.underlying4
  a4 := Tryz.isAgg4
  z4 := Tryz.sizeOf4
  v4 := Tryz.zeroValue4
  t5 := Tryz.underlying5
  a5 := Tryz.isAgg5
  z5 := Tryz.sizeOf5
  v5 := Tryz.zeroValue5
  t9 := Tryz.underlying9
  a9 := Tryz.isAgg9
  z9 := Tryz.sizeOf9
  v9 := Tryz.zeroValue9
  t21 := Tryz.underlying21
  a21 := Tryz.isAgg21
  z21 := Tryz.sizeOf21
  v21 := Tryz.zeroValue21
  t31 := Tryz.underlying51
  a31 := Tryz.isAgg51
  z31 := Tryz.sizeOf51
  v31 := Tryz.zeroValue51
  t46 := Tryz.underlying72
  a46 := Tryz.isAgg72
  z46 := Tryz.sizeOf72
  v46 := Tryz.zeroValue72
  t51 := Tryz.underlying137
  a51 := Tryz.isAgg137
  z51 := Tryz.sizeOf137
  v51 := Tryz.zeroValue137
  t105 := Tryz.underlying135
  a105 := Tryz.isAgg135
  z105 := Tryz.sizeOf135
  v105 := Tryz.zeroValue135
  t119 := Tryz.underlying146
  a119 := Tryz.isAgg146
  z119 := Tryz.sizeOf146
  t138 := Tryz.underlying148
  a138 := Tryz.isAgg148
  z138 := Tryz.sizeOf148
  v138 := Tryz.zeroValue148
  t139 := Tryz.underlying149
  a139 := Tryz.isAgg149
  z139 := Tryz.sizeOf149
  v139 := Tryz.zeroValue149
  t146 := Tryz.underlying138
  a146 := Tryz.isAgg138
  z146 := Tryz.sizeOf138
  v146 := Tryz.zeroValue138
  g1 := by kernel_rfl
  g3 := by kernel_rfl
  g4 := by kernel_rfl }
open Go.RowKit Go.Lib in
/-- strings.Split. (LAID: no walk: one application.) -/
theorem Tryz.strings_Split (s sep : ByteArray) (m : Int) (w : World) (hs : s.size < 4294967281) (hm : w.cell? ⟨0, 0, none⟩ = some (.int .i64 m)) (h1 : 1 ≤ sep.size) :
    Calls Tryz.prog 60 #[.string s, .string sep] w fun e w' =>
      e = .returned (.slice (some ⟨w.heap.size, 0, none⟩) (Lib.countB s sep + 1) (Lib.countB s sep + 1)) ∧ w' = w.alloc (.cells ((Lib.splitB sep 0 (Lib.countB s sep) s).map Value.string).toArray 9) := Any.strings_Split Tryz.lays146 (by kernel_rfl) s sep m w hs hm h1
end Go.Proofs
end
section
namespace Go.Abs
theorem pre1 (b c : UInt8) (r : Str) : ([b] : Str).isPrefixOf (c :: r) = (b == c) := by simp [List.isPrefixOf]
def ixO : Option Nat → Int
  | some k => (k : Int)
  | none => -1
theorem index1 : ∀ (s : Str) (b : UInt8), Lib.index s [b] = ixO (s.findIdx? (fun c => c == b))
  | [], b => rfl
  | c :: r, b => by
    unfold Lib.index
    rw [pre1, List.findIdx?_cons, index1 r b]
    by_cases h : c = b
    · subst h; simp [ixO]
    · have h1 : (b == c) = false := by simp [Ne.symm h]
      have h2 : (c == b) = false := by simp [h]
      simp only [h1, h2, Bool.false_eq_true, if_false]
      cases r.findIdx? (fun c => c == b) with
      | none => rfl
      | some k =>
        simp only [Option.map_some]
        rw [if_neg (by simp [ixO])]
        simp [ixO]
theorem cut_eq (s : Str) (b : UInt8) : Lib.cut s [b] = cutL s b := by
  unfold Lib.cut cutL
  rw [index1]
  cases s.findIdx? (fun c => c == b) with
  | none => simp [ixO]
  | some k => simp [ixO]
theorem contains_eq (s : Str) (b : UInt8) : Lib.contains s [b] = s.contains b := by
  unfold Lib.contains
  rw [index1]
  rw [Bool.eq_iff_iff]
  cases h : s.findIdx? (fun c => c == b) with
  | none =>
    have := List.findIdx?_eq_none_iff.1 h
    simp only [ixO, List.contains_iff_mem]
    constructor
    · intro h; exact absurd h (by decide)
    · intro hm; have := this b hm; simp at this
  | some k =>
    have h2 := List.findIdx?_eq_some_iff_getElem.1 h
    obtain ⟨h3, h4, _⟩ := h2
    simp only [ixO, List.contains_iff_mem]
    constructor
    · intro _; have : s[k] = b := by simpa using h4
      rw [← this]; exact List.getElem_mem _
    · intro _; exact decide_eq_true (Int.natCast_nonneg k)
theorem cutPre_eq (s p : Str) : (Lib.trimPrefix s p, Lib.hasPrefix s p) = cutPre s p := by
  unfold Lib.trimPrefix Lib.hasPrefix cutPre
  split <;> rename_i h
  · rw [h]
  · simp only [Bool.not_eq_true] at h; rw [h]
theorem joinS_eq (b : Str) : ∀ l, joinS b l = Lib.join l b
  | [] => rfl
  | [t] => (Lib.join_one t b).symm
  | t :: u :: r => by
    rw [joinS_cons _ _ _ (by simp), joinS_eq b (u :: r), Lib.join_cons, Lib.join_cons]
    simp [Lib.joinTail]
theorem decDigits_eq (n : Nat) : Lib.decDigits n = decN n := by
  induction n using Nat.strongRecOn with
  | _ n ih =>
    rw [Lib.decDigits]
    by_cases h : n < 10
    · rw [dif_pos h, decN_lt h]; rfl
    · rw [dif_neg h, decN_ge (by omega), ih (n / 10) (by omega)]; rfl
theorem itoa_eq {n : Int} (h : 0 ≤ n) : Lib.itoa n = decN n.toNat := by
  unfold Lib.itoa
  rw [if_neg (by omega), decDigits_eq]
theorem splitX_no (b : UInt8) : ∀ (s cur : Str), s.findIdx? (fun c => c == b) = none → splitX b.toNat s cur = [cur ++ s]
  | [], cur, _ => by simp [splitX]
  | c :: r, cur, h => by
    rw [List.findIdx?_cons] at h
    split at h
    · cases h
    · rename_i hc
      have hr : r.findIdx? (fun c => c == b) = none := by
        cases hq : r.findIdx? (fun c => c == b) with
        | none => rfl
        | some k => rw [hq] at h; cases h
      have hne : ¬ ((c.toNat : Int) = (b.toNat : Int)) := fun e => hc (by
        have : c.toNat = b.toNat := by omega
        simp [UInt8.toNat_inj.1 this])
      simp only [splitX, if_neg hne]
      rw [splitX_no b r (cur ++ [c]) hr]; simp
theorem splitX_hit (b : UInt8) : ∀ (s cur : Str) (k : Nat), s.findIdx? (fun c => c == b) = some k → splitX b.toNat s cur = (cur ++ s.take k) :: splitX b.toNat (s.drop (k + 1)) []
  | [], cur, k, h => by simp at h
  | c :: r, cur, k, h => by
    rw [List.findIdx?_cons] at h
    split at h
    · rename_i hc
      have hk : k = 0 := by simpa using h.symm
      subst hk
      have hcb : c = b := by simpa using hc
      subst hcb
      simp [splitX]
    · rename_i hc
      have hne : ¬ ((c.toNat : Int) = (b.toNat : Int)) := fun e => hc (by
        have : c.toNat = b.toNat := by omega
        simp [UInt8.toNat_inj.1 this])
      cases hq : r.findIdx? (fun c => c == b) with
      | none => rw [hq] at h; cases h
      | some j =>
        rw [hq] at h
        have hk : k = j + 1 := by simpa using h.symm
        subst hk
        simp only [splitX, if_neg hne]
        rw [splitX_hit b r (cur ++ [c]) j hq]; simp
theorem splitB_eq (b : UInt8) : ∀ (k : Nat) (s : ByteArray), Lib.countB s ⟨⟨[b]⟩⟩ = k → (Lib.splitB ⟨⟨[b]⟩⟩ 0 k s).map (fun t => t.data.toList) = splitL s.data.toList b.toNat := by
  intro k
  induction k with
  | zero =>
    intro s h
    rw [Lib.splitB_zero]
    have hi : Lib.indexB s ⟨⟨[b]⟩⟩ = ixO (s.data.toList.findIdx? (fun c => c == b)) := index1 _ b
    cases hq : s.data.toList.findIdx? (fun c => c == b) with
    | none => simp [splitL, splitX_no b _ [] hq]
    | some j =>
      rw [hq] at hi
      have := Lib.countB_hit s ⟨⟨[b]⟩⟩ j (Nat.le_refl 1) hi
      omega
  | succ k ih =>
    intro s h
    have hi : Lib.indexB s ⟨⟨[b]⟩⟩ = ixO (s.data.toList.findIdx? (fun c => c == b)) := index1 _ b
    cases hq : s.data.toList.findIdx? (fun c => c == b) with
    | none =>
      rw [hq] at hi
      have := Lib.countB_miss s ⟨⟨[b]⟩⟩ hi
      omega
    | some j =>
      rw [hq] at hi
      have h1 : 1 ≤ (⟨⟨[b]⟩⟩ : ByteArray).size := Nat.le_refl 1
      have hc := Lib.countB_hit s ⟨⟨[b]⟩⟩ j h1 hi
      rw [Lib.splitB_hit _ _ _ _ j hi]
      simp only [List.map_cons]
      rw [ih _ (by omega)]
      have e1 : (s.extract 0 (j + 0)).data.toList = s.data.toList.take j := by
        rw [Lib.extract_data]; simp
      have e2 : (s.extract (j + (⟨⟨[b]⟩⟩ : ByteArray).size) s.size).data.toList = s.data.toList.drop (j + 1) := by
        rw [Lib.extract_data]
        exact List.take_of_length_le (by rw [List.length_drop, Lib.size_eq]; exact Nat.le_refl _)
      rw [e1, e2]
      simp only [splitL]
      rw [splitX_hit b _ [] j hq]; simp
end Go.Abs
end
section
namespace Go.Abs
open Go.Proofs
def pow10G : Nat := 3
theorem pow10_named : Tryz.prog.globalNamed "internal/strconv.uint64pow10" = some pow10G := by kernel_rfl
instance tryzGlob : Glob where
  gd x := (x.I 0 ∧ ∃ m, x.w.cell? ⟨0, 0, none⟩ = some (.int .i64 m)) ∧ x.I pow10G ∧ Lib.TabIs Tryz.prog x.w "internal/strconv.uint64pow10" .u64 Lib.pow10Tab
  le x x' hI hk h := by
    obtain ⟨⟨h1, m, h2⟩, h3, h4⟩ := h
    refine ⟨⟨hI _ h1, m, cell_keep (hk _ h1) h2⟩, hI _ h3, ?_⟩
    unfold Lib.TabIs World.var? at h4 ⊢
    rw [pow10_named] at h4 ⊢
    simp only [Option.bind_some] at h4 ⊢
    rw [hk _ h3]; exact h4
/-- what the library does, as the table wants it -/
theorem does_call {fid : Nat} {x : X} {args : Array Value} {d : D} (hn : (Tryz.prog.funcs[fid]?).map (fun f => f.name == "runtime.NumGoroutine" || !f.body.isSome) = some false)
    (himm : ∀ b, x.I b → b < x.w.heap.size)
    (hc : Calls Tryz.prog fid args x.w fun e w' => ∃ v, e = .returned v ∧ Grow x.w w' ∧ ∃ I : Nat → Prop, (∀ b, x.I b → I b) ∧ (∀ b, I b → x.I b ∨ x.w.heap.size ≤ b ∧ b < w'.heap.size) ∧ RD nuY ⟨w', I, x.β⟩ v d) :
    Does Tryz.prog x (fun v x' => PStep x x' ∧ RD nuY x' v d) ((callFunc fid args).run Tryz.prog x.w) := by
  cases h : Tryz.prog.funcs[fid]? with
  | none => rw [h] at hn; cases hn
  | some fn =>
    rw [h] at hn
    have h2 : (fn.name == "runtime.NumGoroutine" || !fn.body.isSome) = false := Option.some.inj hn
    rw [Bool.or_eq_false_iff, Bool.not_eq_false'] at h2
    refine .inr ⟨fid, args, callFunc_enter h h2.1 h2.2 args x.w, Calls.mono hc fun e w' he => ?_⟩
    obtain ⟨v, rfl, hg, I, h3, h4, hr⟩ := he
    refine ⟨⟨w', I, x.β⟩, rfl, ⟨hg, h3, fun b hb => (h4 b hb).imp id And.left, fun b hb => ?_, rfl⟩, hr⟩
    rcases h4 b hb with h5 | h5
    · exact Nat.lt_of_lt_of_le (himm b h5) hg.size
    · exact h5.2
theorem grow_drewN (w : World) : ∀ n, Grow w (w.drewN n)
  | n => ⟨rfl, rfl, rfl, Nat.le_refl _, fun _ _ => rfl⟩
/-- where nothing new is frozen -/
theorem does_same {fid : Nat} {x : X} {args : Array Value} {d : D} {v : Value} (hn : (Tryz.prog.funcs[fid]?).map (fun f => f.name == "runtime.NumGoroutine" || !f.body.isSome) = some false)
    (himm : ∀ b, x.I b → b < x.w.heap.size) (hc : Calls Tryz.prog fid args x.w fun e w' => e = .returned v ∧ Grow x.w w') (hr : ∀ x', RD nuY x' v d) :
    Does Tryz.prog x (fun v x' => PStep x x' ∧ RD nuY x' v d) ((callFunc fid args).run Tryz.prog x.w) :=
  does_call hn himm (Calls.mono hc fun e w' ⟨h1, h2⟩ => ⟨v, h1, h2, x.I, fun _ h => h, fun _ h => .inl h, hr _⟩)
theorem str_arg {x : X} {v : Value} {s : Str} (h : RD nuY x v (.str s)) : v = .string ⟨⟨s⟩⟩ ∧ s.length ≤ maxLen := by
  cases h with
  | str s h => exact ⟨rfl, h⟩
theorem int_arg {x : X} {v : Value} {k : IntKind} {n : Int} (h : RD nuY x v (.int k n)) : v = .int k n := by
  cases h with
  | int k n => rfl
theorem args2 {args : Array Value} (h : args.size = 2) : args = #[args.getD 0 undef, args.getD 1 undef] := by
  obtain ⟨l⟩ := args
  match l, h with
  | [a, b], _ => rfl
theorem args1 {args : Array Value} (h : args.size = 1) : args = #[args.getD 0 undef] := by
  obtain ⟨l⟩ := args
  match l, h with
  | [a], _ => rfl
theorem E491 : Good Tryz.prog nuY (ctxY.under rankY 1 0) effY P491 V491 39 := by
  rintro ds ⟨s, b, rfl, hp⟩ hok x args hl hargs hnl himm ⟨⟨_, m, hm⟩, _⟩
  rw [V491_eq]
  obtain ⟨h0, hs⟩ := str_arg (hargs 0 (by simp))
  obtain ⟨h1, _⟩ := str_arg (hargs 1 (by simp))
  rw [args2 hl, h0, h1]
  refine does_same (by kernel_rfl) himm (Calls.mono (Tryz.strings_Contains ⟨⟨s⟩⟩ ⟨⟨[b]⟩⟩ m x.w (by show s.length < _; omega) hm) fun e w' ⟨h1, h2⟩ => ⟨h1, h2 ▸ Grow.refl _⟩) (fun x' => ?_)
  show RD nuY x' (.bool (Lib.contains s [b])) _
  rw [contains_eq]; exact .bool _
theorem rd_tup2 {x : X} {a b : Value} {d e : D} (h1 : RD nuY x a d) (h2 : RD nuY x b e) : RD nuY x (.tuple #[a, b]) (.tup [d, e]) := by
  refine .tup _ _ rfl fun i hi => ?_
  match i, hi with
  | 0, _ => exact h1
  | 1, _ => exact h2
theorem rd_tup3 {x : X} {a b c : Value} {d e f : D} (h1 : RD nuY x a d) (h2 : RD nuY x b e) (h3 : RD nuY x c f) : RD nuY x (.tuple #[a, b, c]) (.tup [d, e, f]) := by
  refine .tup _ _ rfl fun i hi => ?_
  match i, hi with
  | 0, _ => exact h1
  | 1, _ => exact h2
  | 2, _ => exact h3
theorem rd_str {x : X} (s : Str) (h : s.length ≤ 4294967296) : RD nuY x (.string ⟨s.toArray⟩) (.str s) := .str s (by simp only [maxLen]; omega)
theorem cutL_len2 (s : Str) (b : UInt8) : (cutL s b).2.1.length ≤ s.length := by
  unfold cutL; split <;> simp
theorem E487 : Good Tryz.prog nuY (ctxY.under rankY 1 0) effY P487 V487 59 := by
  rintro ds ⟨s, b, rfl, hp⟩ hok x args hl hargs hnl himm ⟨⟨_, m, hm⟩, _⟩
  rw [V487_eq]
  obtain ⟨h0, hs⟩ := str_arg (hargs 0 (by simp))
  obtain ⟨h1, _⟩ := str_arg (hargs 1 (by simp))
  rw [args2 hl, h0, h1]
  refine does_same (by kernel_rfl) himm (Calls.mono (Tryz.strings_Cut ⟨⟨s⟩⟩ ⟨⟨[b]⟩⟩ m x.w (by show s.length < _; omega) hm) fun e w' ⟨h1, n, h2⟩ => ⟨h1, h2 ▸ grow_drewN _ n⟩) (fun x' => ?_)
  have hc : Lib.cut (⟨⟨s⟩⟩ : ByteArray).data.toList (⟨⟨[b]⟩⟩ : ByteArray).data.toList = cutL s b := cut_eq s b
  rw [hc]
  have := (cutL_len s b).1
  have := cutL_len2 s b
  exact rd_tup3 (rd_str _ (by omega)) (rd_str _ (by omega)) (.bool _)
theorem E254 : Good Tryz.prog nuY (ctxY.under rankY 1 0) effY P254 V254 38 := by
  rintro ds ⟨s, p, rfl, hp, hp2⟩ hok x args hl hargs hnl himm _
  rw [V254_eq]
  obtain ⟨h0, hs⟩ := str_arg (hargs 0 (by simp))
  obtain ⟨h1, _⟩ := str_arg (hargs 1 (by simp))
  rw [args2 hl, h0, h1]
  refine does_same (by kernel_rfl) himm (Calls.mono (Tryz.strings_CutPrefix ⟨⟨s⟩⟩ ⟨⟨p⟩⟩ x.w) fun e w' ⟨h1, h2⟩ => ⟨h1, h2 ▸ Grow.refl _⟩) (fun x' => ?_)
  have hc : (Lib.trimPrefix s p, Lib.hasPrefix s p) = cutPre s p := cutPre_eq s p
  have := cutPre_len s p
  rw [← hc] at this ⊢
  have h9 : (Lib.trimPrefix s p).length ≤ s.length := this
  exact rd_tup2 (rd_str (Lib.trimPrefix s p) (by omega)) (.bool _)
theorem E336 : Good Tryz.prog nuY (ctxY.under rankY 1 0) effY P336 V336 91 := by
  rintro ds ⟨n, rfl, hp⟩ hok x args hl hargs hnl himm ⟨_, _, ht⟩
  rw [V336_eq]
  have h0 := int_arg (hargs 0 (by simp))
  rw [args1 hl, h0]
  refine does_same (by kernel_rfl) himm (Calls.mono (Tryz.strconv_Itoa n (by omega) (by omega) x.w ht) fun e w' ⟨h1, k, os, h2⟩ => ⟨h1, ?_⟩) (fun x' => ?_)
  · subst h2
    refine ⟨rfl, rfl, rfl, by simp [Sort.grow], fun b hb => ?_⟩
    show (x.w.heap ++ os)[b]? = x.w.heap[b]?
    rw [Array.getElem?_append, if_pos hb]
  · rw [itoa_eq hp.1]
    have := decN_len 4 n.toNat (by omega) (by omega)
    exact rd_str _ (by omega)
theorem E124 : Good Tryz.prog nuY (ctxY.under rankY 1 0) effY P124 V124 60 := by
  rintro ds ⟨s, b, rfl, hp⟩ hok x args hl hargs hnl himm ⟨⟨_, m, hm⟩, _⟩
  rw [V124_eq]
  obtain ⟨h0, hs⟩ := str_arg (hargs 0 (by simp))
  obtain ⟨h1, _⟩ := str_arg (hargs 1 (by simp))
  rw [args2 hl, h0, h1]
  have hlen := Lib.splitB_all ⟨⟨[b]⟩⟩ (Nat.le_refl 1) 0 _ (⟨⟨s⟩⟩ : ByteArray) rfl
  have heq := splitB_eq b _ (⟨⟨s⟩⟩ : ByteArray) rfl
  generalize hts : Lib.splitB ⟨⟨[b]⟩⟩ 0 (Lib.countB ⟨⟨s⟩⟩ ⟨⟨[b]⟩⟩) ⟨⟨s⟩⟩ = ts at hlen heq
  have hsl : (splitL s b.toNat).length = ts.length := by rw [← show ts.map (fun t => t.data.toList) = splitL s b.toNat from heq]; simp
  have hle := splitL_len s b.toNat
  refine does_call (by kernel_rfl) himm (Calls.mono (Tryz.strings_Split ⟨⟨s⟩⟩ ⟨⟨[b]⟩⟩ m x.w (by show s.length < _; omega) hm (Nat.le_refl 1)) fun e w' ⟨h1, h2⟩ => ?_)
  rw [← hlen] at h1
  rw [hts] at h2
  subst h2
  have hgrow : Grow x.w (x.w.alloc (.cells (ts.map Value.string).toArray 9)) := Grow.alloc _ _
  refine ⟨_, h1, hgrow, fun q => x.I q ∨ q = x.w.heap.size, fun _ h => .inl h, fun q hq => hq.imp id fun h => ⟨by omega, by rw [h]; show _ < (x.w.heap.push _).size; simp⟩, ?_⟩
  have hget : ∀ i, i < ts.length → ((splitL s b.toNat).map D.str).getD i .any = .str (ts.getD i default).data.toList := fun i hi => by
    rw [← show ts.map (fun t => t.data.toList) = splitL s b.toNat from heq]
    simp [hi]
  refine .sl _ x.w.heap.size 0 ts.length ts.length 1 _ (fun i _ => .string (ts.getD i default)) (by simp [hsl]) (.inr ⟨rfl, .inr rfl⟩) (Nat.le_refl _) (by simp only [maxLen]; omega) (fun i hi => by rw [hget i hi]; rfl) (fun i hi => by rw [hget i hi]; rfl) (fun i j hi hj => ?_) (fun i j hi hj => rfl) (fun i j hi hj => ?_)
  · obtain rfl : j = 0 := by omega
    have := heap_push_new x.w (.cells (ts.map Value.string).toArray 9)
    refine (cell_of_heap (c := (ts.map Value.string).toArray) (T := 9) (fr := (0, 0)) this (by simp; omega)).trans ?_
    simp [hi]
  · obtain rfl : j = 0 := by omega
    rw [hget i hi]
    show RD nuY _ (.string (ts.getD i default)) (.str (ts.getD i default).data.toList)
    generalize hq : ts.getD i default = q
    have hmem : q.data.toList ∈ splitL s b.toNat := by
      rw [← show ts.map (fun t => t.data.toList) = splitL s b.toNat from heq]
      refine List.mem_map.2 ⟨q, ?_, rfl⟩
      rw [← hq]; simp [hi]
    have := splitL_mem s b.toNat hmem
    obtain ⟨⟨ql⟩⟩ := q
    exact .str ql (by simp only at this; simp only [maxLen]; omega)
theorem joinS_len (sep : Str) (B : Nat) : ∀ l : List Str, (∀ t ∈ l, t.length ≤ B) → (joinS sep l).length ≤ l.length * (B + sep.length)
  | [], _ => by simp [joinS]
  | [t], h => by have := h t (.head _); simp only [joinS, List.length_cons, List.length_nil]; omega
  | t :: u :: r, h => by
    have h1 := h t (.head _)
    have h2 := joinS_len sep B (u :: r) fun x hx => h x (.tail _ hx)
    rw [joinS_cons _ _ _ (by simp)]
    rw [List.length_cons, Nat.succ_mul]
    simp only [List.length_append]
    omega
theorem E242 : Good Tryz.prog nuY (ctxY.under rankY 1 0) effY P242 V242 53 := by
  rintro ds ⟨l, sep, rfl, hp1, hp2, hp3⟩ hok x args hl hargs hnl himm _
  rw [V242_eq]
  have h0 := hargs 0 (by simp)
  obtain ⟨h1, _⟩ := str_arg (hargs 1 (by simp))
  rw [args2 hl, h1]
  have hj := joinS_len sep 2097200 l hp3
  have hj2 := Nat.mul_le_mul_right (2097200 + sep.length) hp1
  have hj3 : 1048600 * (2097200 + sep.length) ≤ 140737488355328 := by
    have := Nat.mul_le_mul_left 1048600 (show 2097200 + sep.length ≤ 2097204 by omega); omega
  have hjm : (joinS sep l).length ≤ 140737488355328 := by omega
  simp only [List.getD_cons_zero] at h0
  generalize args.getD 0 undef = v0 at h0 ⊢
  cases h0 with
  | sl a b off len cap k es c hlen ha hcap hm hk hn hc h1 h =>
    simp only [List.length_map] at hlen
    subst hlen
    rcases ha with he | ⟨rfl, hI⟩
    · have hnil : l = [] := by simpa using he
      subst hnil
      refine does_same (by kernel_rfl) himm (Calls.mono (Tryz.strings_Join_none a cap ⟨⟨sep⟩⟩ x.w) fun e w' ⟨h1, h2⟩ => ⟨h1, h2 ▸ Grow.refl _⟩) (fun x' => ?_)
      exact rd_str [] (by simp)
    · have hcell : ∀ i, (hi : i < l.length) → x.w.cell? ⟨b, off + i, none⟩ = some (.string ⟨⟨l[i]⟩⟩) := fun i hi => by
        have q1 := hc i 0 hi (by omega)
        have q2 := h i 0 hi (by omega)
        have e : ((l.map D.str).getD i .any).cells.getD 0 .any = .str l[i] := by simp [hi, D.cells]
        rw [e] at q2
        rw [(str_arg q2).1] at q1
        simpa using q1
      have e2 : (l.map fun t => (⟨⟨t⟩⟩ : ByteArray)).map (fun t => t.data.toList) = l := by rw [List.map_map]; exact List.map_id l
      have hjl : Lib.join ((l.map fun t => (⟨⟨t⟩⟩ : ByteArray)).map (fun t => t.data.toList)) (⟨⟨sep⟩⟩ : ByteArray).data.toList = joinS sep l := by rw [e2]; exact (joinS_eq sep l).symm
      have key := Tryz.strings_Join b off cap (l.map fun t => ⟨⟨t⟩⟩) ⟨⟨sep⟩⟩ x.w (fun j y hy => by
        rw [List.getElem?_map, Option.map_eq_some_iff] at hy
        obtain ⟨t, ht, rfl⟩ := hy
        obtain ⟨hlt, rfl⟩ := List.getElem?_eq_some_iff.1 ht
        exact hcell j hlt) (himm b hI) (by simp; omega) (by simpa using hcap) (by rw [hjl]; exact hjm)
      rw [hjl, List.length_map] at key
      refine does_same (by kernel_rfl) himm (Calls.mono key fun e w' ⟨h1, h2⟩ => ⟨h1, h2.os, h2.tape, h2.output, h2.size, h2.block⟩) (fun x' => ?_)
      exact .str _ (by simp only [maxLen]; omega)
end Go.Abs
end
section
namespace Go.Abs
section
variable [Glob]
theorem K25 : ((Go.Proofs.Tryz.prog).funcs[24]?).bind (compile (Go.Proofs.Tryz.prog) nuY effY) = some made_Place := by kernel_rfl
theorem N25 : ((Go.Proofs.Tryz.prog).funcs[24]?).map (fun f => f.name == "runtime.NumGoroutine") = some false := by kernel_rfl
theorem H25 : Good (Go.Proofs.Tryz.prog) nuY (ctxY.under rankY 1 0) effY P25 V25 24 := good_of mixY K25 N25 (by
  rintro ds ⟨v, n, rfl, hp0⟩
  refine ⟨rfl, ?_⟩
  rw [V25_eq]
  exact w25 (under_mono _ _ _ _ _ _)  v n hp0)
theorem K112 : ((Go.Proofs.Tryz.prog).funcs[25]?).bind (compile (Go.Proofs.Tryz.prog) nuY effY) = some made_Versions := by kernel_rfl
theorem N112 : ((Go.Proofs.Tryz.prog).funcs[25]?).map (fun f => f.name == "runtime.NumGoroutine") = some false := by kernel_rfl
theorem H112 : Good (Go.Proofs.Tryz.prog) nuY (ctxY.under rankY 1 0) effY P112 V112 25 := good_of mixY K112 N112 (by
  rintro ds rfl
  refine ⟨rfl, ?_⟩
  rw [V112_eq]
  exact w112 (under_mono _ _ _ _ _ _)  )
theorem K160 : ((Go.Proofs.Tryz.prog).funcs[9]?).bind (compile (Go.Proofs.Tryz.prog) nuY effY) = some made_Lock := by kernel_rfl
theorem N160 : ((Go.Proofs.Tryz.prog).funcs[9]?).map (fun f => f.name == "runtime.NumGoroutine") = some false := by kernel_rfl
theorem H160 : Good (Go.Proofs.Tryz.prog) nuY (ctxY.under rankY 3 0) effY P160 V160 9 := good_of mixY K160 N160 (by
  rintro ds ⟨ks, rfl⟩
  refine ⟨rfl, ?_⟩
  rw [V160_eq]
  exact w160 (under_mono _ _ _ _ _ _) (G25 (by decide)) (G29 (by decide)) (G109 (by decide)) (G111 (by decide)) (G112 (by decide)) ks)
theorem K217 : ((Go.Proofs.Tryz.prog).funcs[70]?).bind (compile (Go.Proofs.Tryz.prog) nuY effY) = some ref2_May := by kernel_rfl
theorem N217 : ((Go.Proofs.Tryz.prog).funcs[70]?).map (fun f => f.name == "runtime.NumGoroutine") = some false := by kernel_rfl
theorem H217 : Good (Go.Proofs.Tryz.prog) nuY (ctxY.under rankY 4 0) effY P217 V217 70 := good_of mixY K217 N217 (by
  rintro ds ⟨v, rfl, hp0⟩
  refine ⟨rfl, ?_⟩
  rw [V217_eq]
  exact w217 (under_mono _ _ _ _ _ _) (G455 (by decide)) (G456 (by decide)) v hp0)
theorem K311 : ((Go.Proofs.Tryz.prog).funcs[58]?).bind (compile (Go.Proofs.Tryz.prog) nuY effY) = some ref33_SameLine := by kernel_rfl
theorem N311 : ((Go.Proofs.Tryz.prog).funcs[58]?).map (fun f => f.name == "runtime.NumGoroutine") = some false := by kernel_rfl
theorem H311 : Good (Go.Proofs.Tryz.prog) nuY (ctxY.under rankY 1 0) effY P311 V311 58 := good_of mixY K311 N311 (by
  rintro ds ⟨a, b, rfl⟩
  refine ⟨rfl, ?_⟩
  rw [V311_eq]
  exact w311 (under_mono _ _ _ _ _ _)  a b)
theorem K349 : ((Go.Proofs.Tryz.prog).funcs[65]?).bind (compile (Go.Proofs.Tryz.prog) nuY effY) = some ident_Word := by kernel_rfl
theorem N349 : ((Go.Proofs.Tryz.prog).funcs[65]?).map (fun f => f.name == "runtime.NumGoroutine") = some false := by kernel_rfl
theorem H349 : Good (Go.Proofs.Tryz.prog) nuY (ctxY.under rankY 1 0) effY P349 V349 65 := good_of mixY K349 N349 (by
  rintro ds ⟨s, rfl⟩
  refine ⟨rfl, ?_⟩
  rw [V349_eq]
  exact w349 (under_mono _ _ _ _ _ _)  s)
theorem K451 : ((Go.Proofs.Tryz.prog).funcs[52]?).bind (compile (Go.Proofs.Tryz.prog) nuY effY) = some version_Print := by kernel_rfl
theorem N451 : ((Go.Proofs.Tryz.prog).funcs[52]?).map (fun f => f.name == "runtime.NumGoroutine") = some false := by kernel_rfl
theorem H451 : Good (Go.Proofs.Tryz.prog) nuY (ctxY.under rankY 5 0) effY P451 V451 52 := good_of mixY K451 N451 (by
  rintro ds ⟨v, rfl, hp0⟩
  refine ⟨rfl, ?_⟩
  rw [V451_eq]
  exact w451 (under_mono _ _ _ _ _ _) (G209 (by decide)) (G665 (by decide)) v hp0)
theorem K464 : ((Go.Proofs.Tryz.prog).funcs[35]?).bind (compile (Go.Proofs.Tryz.prog) nuY effY) = some ref9_turn := by kernel_rfl
theorem N464 : ((Go.Proofs.Tryz.prog).funcs[35]?).map (fun f => f.name == "runtime.NumGoroutine") = some false := by kernel_rfl
theorem H464 : Good (Go.Proofs.Tryz.prog) nuY (ctxY.under rankY 1 0) effY P464 V464 35 := good_of mixY K464 N464 (by
  rintro ds ⟨h, n, rfl, hp0⟩
  refine ⟨rfl, ?_⟩
  rw [V464_eq]
  exact w464 (under_mono _ _ _ _ _ _)  h n hp0)
theorem K528 : ((Go.Proofs.Tryz.prog).funcs[49]?).bind (compile (Go.Proofs.Tryz.prog) nuY effY) = some slices_IndexFunc := by kernel_rfl
theorem N528 : ((Go.Proofs.Tryz.prog).funcs[49]?).map (fun f => f.name == "runtime.NumGoroutine") = some false := by kernel_rfl
theorem H528 : Good (Go.Proofs.Tryz.prog) nuY (ctxY.under rankY 2 0) effY P528 V528 49 := good_of mixY K528 N528 (by
  rintro ds ⟨l, nm, rfl⟩
  refine ⟨rfl, ?_⟩
  rw [V528_eq]
  exact w528 (under_mono _ _ _ _ _ _) (G529 (by decide)) l nm)
theorem K548 : ((Go.Proofs.Tryz.prog).funcs[29]?).bind (compile (Go.Proofs.Tryz.prog) nuY effY) = some lock_dash := by kernel_rfl
theorem N548 : ((Go.Proofs.Tryz.prog).funcs[29]?).map (fun f => f.name == "runtime.NumGoroutine") = some false := by kernel_rfl
theorem H548 : Good (Go.Proofs.Tryz.prog) nuY (ctxY.under rankY 1 0) effY P548 V548 29 := good_of mixY K548 N548 (by
  rintro ds ⟨s, rfl⟩
  refine ⟨rfl, ?_⟩
  rw [V548_eq]
  exact w548 (under_mono _ _ _ _ _ _)  s)
theorem K554 : ((Go.Proofs.Tryz.prog).funcs[94]?).bind (compile (Go.Proofs.Tryz.prog) nuY effY) = some ref2_Numbers := by kernel_rfl
theorem N554 : ((Go.Proofs.Tryz.prog).funcs[94]?).map (fun f => f.name == "runtime.NumGoroutine") = some false := by kernel_rfl
theorem H554 : Good (Go.Proofs.Tryz.prog) nuY (ctxY.under rankY 3 0) effY P554 V554 94 := good_of mixY K554 N554 (by
  rintro ds ⟨v, rfl, hp0⟩
  refine ⟨rfl, ?_⟩
  rw [V554_eq]
  exact w554 (under_mono _ _ _ _ _ _) (G734 (by decide)) v hp0)
theorem K666 : ((Go.Proofs.Tryz.prog).funcs[103]?).bind (compile (Go.Proofs.Tryz.prog) nuY effY) = some ref2_tag := by kernel_rfl
theorem N666 : ((Go.Proofs.Tryz.prog).funcs[103]?).map (fun f => f.name == "runtime.NumGoroutine") = some false := by kernel_rfl
theorem H666 : Good (Go.Proofs.Tryz.prog) nuY (ctxY.under rankY 1 0) effY P666 V666 103 := good_of mixY K666 N666 (by
  rintro ds ⟨t, rfl⟩
  refine ⟨rfl, ?_⟩
  rw [V666_eq]
  exact w666 (under_mono _ _ _ _ _ _)  t)
theorem K734 : ((Go.Proofs.Tryz.prog).funcs[109]?).bind (compile (Go.Proofs.Tryz.prog) nuY effY) = some ref1_Digits := by kernel_rfl
theorem N734 : ((Go.Proofs.Tryz.prog).funcs[109]?).map (fun f => f.name == "runtime.NumGoroutine") = some false := by kernel_rfl
theorem H734 : Good (Go.Proofs.Tryz.prog) nuY (ctxY.under rankY 2 0) effY P734 V734 109 := good_of mixY K734 N734 (by
  rintro ds ⟨n, rfl, hp0⟩
  refine ⟨rfl, ?_⟩
  rw [V734_eq]
  exact w734 (under_mono _ _ _ _ _ _) (G882 (by decide)) n hp0)
theorem K1185 : ((Go.Proofs.Tryz.prog).funcs[20]?).bind (compile (Go.Proofs.Tryz.prog) nuY effY) = some law33_keeps := by kernel_rfl
theorem N1185 : ((Go.Proofs.Tryz.prog).funcs[20]?).map (fun f => f.name == "runtime.NumGoroutine") = some false := by kernel_rfl
theorem H1185 : Good (Go.Proofs.Tryz.prog) nuY (ctxY.under rankY 1 0) effY P1185 V1185 20 := good_of mixY K1185 N1185 (by
  rintro ds ⟨a, b, rfl⟩
  refine ⟨rfl, ?_⟩
  rw [V1185_eq]
  exact w1185 (under_mono _ _ _ _ _ _)  a b)
end
end Go.Abs
end
section
namespace Go.Abs
section
variable [Glob]
theorem K29 : ((Go.Proofs.Tryz.prog).funcs[26]?).bind (compile (Go.Proofs.Tryz.prog) nuY effY) = some made_Env := by kernel_rfl
theorem N29 : ((Go.Proofs.Tryz.prog).funcs[26]?).map (fun f => f.name == "runtime.NumGoroutine") = some false := by kernel_rfl
theorem H29 : Good (Go.Proofs.Tryz.prog) nuY (ctxY.under rankY 2 0) effY P29 V29 26 := good_of mixY K29 N29 (by
  rintro ds ⟨n, rfl⟩
  refine ⟨rfl, ?_⟩
  rw [V29_eq]
  exact w29 (under_mono _ _ _ _ _ _) (G25 (by decide)) n)
theorem K117 : ((Go.Proofs.Tryz.prog).funcs[12]?).bind (compile (Go.Proofs.Tryz.prog) nuY effY) = some ref33_Same := by kernel_rfl
theorem N117 : ((Go.Proofs.Tryz.prog).funcs[12]?).map (fun f => f.name == "runtime.NumGoroutine") = some false := by kernel_rfl
theorem H117 : Good (Go.Proofs.Tryz.prog) nuY (ctxY.under rankY 3 0) effY P117 V117 12 := good_of mixY K117 N117 (by
  rintro ds ⟨a, b, rfl⟩
  refine ⟨rfl, ?_⟩
  rw [V117_eq]
  exact w117 (under_mono _ _ _ _ _ _) (G310 (by decide)) a b)
theorem K189 : ((Go.Proofs.Tryz.prog).funcs[16]?).bind (compile (Go.Proofs.Tryz.prog) nuY effY) = some ref33_May := by kernel_rfl
theorem N189 : ((Go.Proofs.Tryz.prog).funcs[16]?).map (fun f => f.name == "runtime.NumGoroutine") = some false := by kernel_rfl
theorem H189 : Good (Go.Proofs.Tryz.prog) nuY (ctxY.under rankY 6 0) effY P189 V189 16 := good_of mixY K189 N189 (by
  rintro ds ⟨l, rfl, hp0⟩
  refine ⟨rfl, ?_⟩
  rw [V189_eq]
  exact w189 (under_mono _ _ _ _ _ _) (G144 (by decide)) (G418 (by decide)) l hp0)
theorem K220 : ((Go.Proofs.Tryz.prog).funcs[32]?).bind (compile (Go.Proofs.Tryz.prog) nuY effY) = some digest_Sum := by kernel_rfl
theorem N220 : ((Go.Proofs.Tryz.prog).funcs[32]?).map (fun f => f.name == "runtime.NumGoroutine") = some false := by kernel_rfl
theorem H220 : Good (Go.Proofs.Tryz.prog) nuY (ctxY.under rankY 2 0) effY P220 V220 32 := good_of mixY K220 N220 (by
  rintro ds ⟨s, rfl⟩
  refine ⟨rfl, ?_⟩
  rw [V220_eq]
  exact w220 (under_mono _ _ _ _ _ _) (G463 (by decide)) s)
theorem K312 : ((Go.Proofs.Tryz.prog).funcs[10]?).bind (compile (Go.Proofs.Tryz.prog) nuY effY) = some lock_Print := by kernel_rfl
theorem N312 : ((Go.Proofs.Tryz.prog).funcs[10]?).map (fun f => f.name == "runtime.NumGoroutine") = some false := by kernel_rfl
theorem H312 : Good (Go.Proofs.Tryz.prog) nuY (ctxY.under rankY 7 0) effY P312 V312 10 := good_of mixY K312 N312 (by
  rintro ds ⟨l, rfl, hp0⟩
  refine ⟨rfl, ?_⟩
  rw [V312_eq]
  exact w312 (under_mono _ _ _ _ _ _) (G220 (by decide)) (G315 (by decide)) (G497 (by decide)) (G548 (by decide)) (G549 (by decide)) l hp0)
theorem K357 : ((Go.Proofs.Tryz.prog).funcs[68]?).bind (compile (Go.Proofs.Tryz.prog) nuY effY) = some ref1_Word := by kernel_rfl
theorem N357 : ((Go.Proofs.Tryz.prog).funcs[68]?).map (fun f => f.name == "runtime.NumGoroutine") = some false := by kernel_rfl
theorem H357 : Good (Go.Proofs.Tryz.prog) nuY (ctxY.under rankY 2 0) effY P357 V357 68 := good_of mixY K357 N357 (by
  rintro ds ⟨s, rfl⟩
  refine ⟨rfl, ?_⟩
  rw [V357_eq]
  exact w357 (under_mono _ _ _ _ _ _) (G453 (by decide)) (G454 (by decide)) s)
theorem K453 : ((Go.Proofs.Tryz.prog).funcs[87]?).bind (compile (Go.Proofs.Tryz.prog) nuY effY) = some ref1_low := by kernel_rfl
theorem N453 : ((Go.Proofs.Tryz.prog).funcs[87]?).map (fun f => f.name == "runtime.NumGoroutine") = some false := by kernel_rfl
theorem H453 : Good (Go.Proofs.Tryz.prog) nuY (ctxY.under rankY 1 0) effY P453 V453 87 := good_of mixY K453 N453 (by
  rintro ds ⟨c, rfl⟩
  refine ⟨rfl, ?_⟩
  rw [V453_eq]
  exact w453 (under_mono _ _ _ _ _ _)  c)
theorem K466 : ((Go.Proofs.Tryz.prog).funcs[64]?).bind (compile (Go.Proofs.Tryz.prog) nuY effY) = some version_Parse := by kernel_rfl
theorem N466 : ((Go.Proofs.Tryz.prog).funcs[64]?).map (fun f => f.name == "runtime.NumGoroutine") = some false := by kernel_rfl
theorem H466 : Good (Go.Proofs.Tryz.prog) nuY (ctxY.under rankY 6 0) effY P466 V466 64 := good_of mixY K466 N466 (by
  rintro ds ⟨s, rfl, hp0⟩
  refine ⟨rfl, ?_⟩
  rw [V466_eq]
  exact w466 (under_mono _ _ _ _ _ _) (G209 (by decide)) (G451 (by decide)) (G533 (by decide)) (G658 (by decide)) (G675 (by decide)) s hp0)
theorem K529 : ((Go.Proofs.Tryz.prog).funcs[50]?).bind (compile (Go.Proofs.Tryz.prog) nuY effY) = some lock_Find_1 := by kernel_rfl
theorem N529 : ((Go.Proofs.Tryz.prog).funcs[50]?).map (fun f => f.name == "runtime.NumGoroutine") = some false := by kernel_rfl
theorem H529 : Good (Go.Proofs.Tryz.prog) nuY (ctxY.under rankY 1 0) effY P529 V529 50 := good_of mixY K529 N529 (by
  rintro ds ⟨x, nm, rfl⟩
  refine ⟨rfl, ?_⟩
  rw [V529_eq]
  exact w529 (under_mono _ _ _ _ _ _)  x nm)
theorem K549 : ((Go.Proofs.Tryz.prog).funcs[30]?).bind (compile (Go.Proofs.Tryz.prog) nuY effY) = some lock_line_text := by kernel_rfl
theorem N549 : ((Go.Proofs.Tryz.prog).funcs[30]?).map (fun f => f.name == "runtime.NumGoroutine") = some false := by kernel_rfl
theorem H549 : Good (Go.Proofs.Tryz.prog) nuY (ctxY.under rankY 6 0) effY P549 V549 30 := good_of mixY K549 N549 (by
  rintro ds ⟨x, rfl, hp0⟩
  refine ⟨rfl, ?_⟩
  rw [V549_eq]
  exact w549 (under_mono _ _ _ _ _ _) (G242 (by decide)) (G451 (by decide)) (G497 (by decide)) (G548 (by decide)) x hp0)
theorem K571 : ((Go.Proofs.Tryz.prog).funcs[11]?).bind (compile (Go.Proofs.Tryz.prog) nuY effY) = some ref33_Print := by kernel_rfl
theorem N571 : ((Go.Proofs.Tryz.prog).funcs[11]?).map (fun f => f.name == "runtime.NumGoroutine") = some false := by kernel_rfl
theorem H571 : Good (Go.Proofs.Tryz.prog) nuY (ctxY.under rankY 8 0) effY P571 V571 11 := good_of mixY K571 N571 (by
  rintro ds ⟨l, rfl, hp0⟩
  refine ⟨rfl, ?_⟩
  rw [V571_eq]
  exact w571 (under_mono _ _ _ _ _ _) (G189 (by decide)) (G743 (by decide)) l hp0)
theorem K667 : ((Go.Proofs.Tryz.prog).funcs[104]?).bind (compile (Go.Proofs.Tryz.prog) nuY effY) = some ref1_Number := by kernel_rfl
theorem N667 : ((Go.Proofs.Tryz.prog).funcs[104]?).map (fun f => f.name == "runtime.NumGoroutine") = some false := by kernel_rfl
theorem H667 : Good (Go.Proofs.Tryz.prog) nuY (ctxY.under rankY 2 0) effY P667 V667 104 := good_of mixY K667 N667 (by
  rintro ds ⟨s, rfl⟩
  refine ⟨rfl, ?_⟩
  rw [V667_eq]
  exact w667 (under_mono _ _ _ _ _ _) (G454 (by decide)) s)
theorem K743 : ((Go.Proofs.Tryz.prog).funcs[33]?).bind (compile (Go.Proofs.Tryz.prog) nuY effY) = some ref33_text := by kernel_rfl
theorem N743 : ((Go.Proofs.Tryz.prog).funcs[33]?).map (fun f => f.name == "runtime.NumGoroutine") = some false := by kernel_rfl
theorem H743 : Good (Go.Proofs.Tryz.prog) nuY (ctxY.under rankY 7 0) effY P743 V743 33 := good_of mixY K743 N743 (by
  rintro ds ⟨l, rfl, hp0⟩
  refine ⟨rfl, ?_⟩
  rw [V743_eq]
  exact w743 (under_mono _ _ _ _ _ _) (G221 (by decide)) (G313 (by decide)) (G894 (by decide)) (G895 (by decide)) l hp0)
theorem K1186 : ((Go.Proofs.Tryz.prog).funcs[3]?).bind (compile (Go.Proofs.Tryz.prog) nuY effY) = some law33_LockPrints := by kernel_rfl
theorem N1186 : ((Go.Proofs.Tryz.prog).funcs[3]?).map (fun f => f.name == "runtime.NumGoroutine") = some false := by kernel_rfl
theorem H1186 : Good (Go.Proofs.Tryz.prog) nuY (ctxY.under rankY 10 0) effY P1186 V1186 3 := good_of mixY K1186 N1186 (by
  rintro ds ⟨raw, ks, pa, pw, pb, rfl, hp0⟩
  refine ⟨rfl, ?_⟩
  rw [V1186_eq]
  exact w1186 (under_mono _ _ _ _ _ _) (G93 (by decide)) (G117 (by decide)) (G119 (by decide)) (G160 (by decide)) (G312 (by decide)) (G571 (by decide)) (G1184 (by decide)) raw ks pa pw pb hp0)
end
end Go.Abs
end
section
namespace Go.Abs
section
variable [Glob]
theorem K93 : ((Go.Proofs.Tryz.prog).funcs[8]?).bind (compile (Go.Proofs.Tryz.prog) nuY effY) = some made_BentLock := by kernel_rfl
theorem N93 : ((Go.Proofs.Tryz.prog).funcs[8]?).map (fun f => f.name == "runtime.NumGoroutine") = some false := by kernel_rfl
theorem H93 : Good (Go.Proofs.Tryz.prog) nuY (ctxY.under rankY 3 0) effY P93 V93 8 := good_of mixY K93 N93 (by
  rintro ds ⟨l, pa, pw, pb, rfl, hp0⟩
  refine ⟨rfl, ?_⟩
  rw [V93_eq]
  exact w93 (under_mono _ _ _ _ _ _) (G25 (by decide)) (G29 (by decide)) (G112 (by decide)) l pa pw pb hp0)
theorem K119 : ((Go.Proofs.Tryz.prog).funcs[7]?).bind (compile (Go.Proofs.Tryz.prog) nuY effY) = some law33_awake := by kernel_rfl
theorem N119 : ((Go.Proofs.Tryz.prog).funcs[7]?).map (fun f => f.name == "runtime.NumGoroutine") = some false := by kernel_rfl
theorem H119 : Good (Go.Proofs.Tryz.prog) nuY (ctxY.under rankY 9 0) effY P119 V119 7 := good_of mixY K119 N119 (by
  rintro ds rfl
  refine ⟨rfl, ?_⟩
  rw [V119_eq]
  exact w119 (under_mono _ _ _ _ _ _) (G221 (by decide)) (G294 (by decide)) (G309 (by decide)) (G312 (by decide)) (G313 (by decide)) (G314 (by decide)) (G315 (by decide)) )
theorem K190 : ((Go.Proofs.Tryz.prog).funcs[19]?).bind (compile (Go.Proofs.Tryz.prog) nuY effY) = some ref33_Find := by kernel_rfl
theorem N190 : ((Go.Proofs.Tryz.prog).funcs[19]?).map (fun f => f.name == "runtime.NumGoroutine") = some false := by kernel_rfl
theorem H190 : Good (Go.Proofs.Tryz.prog) nuY (ctxY.under rankY 1 0) effY P190 V190 19 := good_of mixY K190 N190 (by
  rintro ds ⟨l, nm, rfl⟩
  refine ⟨rfl, ?_⟩
  rw [V190_eq]
  exact w190 (under_mono _ _ _ _ _ _)  l nm)
theorem K221 : ((Go.Proofs.Tryz.prog).funcs[13]?).bind (compile (Go.Proofs.Tryz.prog) nuY effY) = some ref9_Sum := by kernel_rfl
theorem N221 : ((Go.Proofs.Tryz.prog).funcs[13]?).map (fun f => f.name == "runtime.NumGoroutine") = some false := by kernel_rfl
theorem H221 : Good (Go.Proofs.Tryz.prog) nuY (ctxY.under rankY 2 0) effY P221 V221 13 := good_of mixY K221 N221 (by
  rintro ds ⟨s, rfl⟩
  refine ⟨rfl, ?_⟩
  rw [V221_eq]
  exact w221 (under_mono _ _ _ _ _ _) (G464 (by decide)) s)
theorem K313 : ((Go.Proofs.Tryz.prog).funcs[23]?).bind (compile (Go.Proofs.Tryz.prog) nuY effY) = some ref9_Text := by kernel_rfl
theorem N313 : ((Go.Proofs.Tryz.prog).funcs[23]?).map (fun f => f.name == "runtime.NumGoroutine") = some false := by kernel_rfl
theorem H313 : Good (Go.Proofs.Tryz.prog) nuY (ctxY.under rankY 1 0) effY P313 V313 23 := good_of mixY K313 N313 (by
  rintro ds ⟨n, rfl⟩
  refine ⟨rfl, ?_⟩
  rw [V313_eq]
  exact w313 (under_mono _ _ _ _ _ _)  n)
theorem K418 : ((Go.Proofs.Tryz.prog).funcs[45]?).bind (compile (Go.Proofs.Tryz.prog) nuY effY) = some ref33_lineMay := by kernel_rfl
theorem N418 : ((Go.Proofs.Tryz.prog).funcs[45]?).map (fun f => f.name == "runtime.NumGoroutine") = some false := by kernel_rfl
theorem H418 : Good (Go.Proofs.Tryz.prog) nuY (ctxY.under rankY 5 0) effY P418 V418 45 := good_of mixY K418 N418 (by
  rintro ds ⟨x, rfl, hp0⟩
  refine ⟨rfl, ?_⟩
  rw [V418_eq]
  exact w418 (under_mono _ _ _ _ _ _) (G216 (by decide)) (G217 (by decide)) (G357 (by decide)) x hp0)
theorem K454 : ((Go.Proofs.Tryz.prog).funcs[88]?).bind (compile (Go.Proofs.Tryz.prog) nuY effY) = some ref1_digit := by kernel_rfl
theorem N454 : ((Go.Proofs.Tryz.prog).funcs[88]?).map (fun f => f.name == "runtime.NumGoroutine") = some false := by kernel_rfl
theorem H454 : Good (Go.Proofs.Tryz.prog) nuY (ctxY.under rankY 1 0) effY P454 V454 88 := good_of mixY K454 N454 (by
  rintro ds ⟨c, rfl⟩
  refine ⟨rfl, ?_⟩
  rw [V454_eq]
  exact w454 (under_mono _ _ _ _ _ _)  c)
theorem K470 : ((Go.Proofs.Tryz.prog).funcs[102]?).bind (compile (Go.Proofs.Tryz.prog) nuY effY) = some ref1_Split := by kernel_rfl
theorem N470 : ((Go.Proofs.Tryz.prog).funcs[102]?).map (fun f => f.name == "runtime.NumGoroutine") = some false := by kernel_rfl
theorem H470 : Good (Go.Proofs.Tryz.prog) nuY (ctxY.under rankY 1 0) effY P470 V470 102 := good_of mixY K470 N470 (by
  rintro ds ⟨s, b, rfl, hp0⟩
  refine ⟨rfl, ?_⟩
  rw [V470_eq]
  exact w470 (under_mono _ _ _ _ _ _)  s b hp0)
theorem K533 : ((Go.Proofs.Tryz.prog).funcs[82]?).bind (compile (Go.Proofs.Tryz.prog) nuY effY) = some ident_Split := by kernel_rfl
theorem N533 : ((Go.Proofs.Tryz.prog).funcs[82]?).map (fun f => f.name == "runtime.NumGoroutine") = some false := by kernel_rfl
theorem H533 : Good (Go.Proofs.Tryz.prog) nuY (ctxY.under rankY 1 0) effY P533 V533 82 := good_of mixY K533 N533 (by
  rintro ds ⟨s, b, rfl, hp0⟩
  refine ⟨rfl, ?_⟩
  rw [V533_eq]
  exact w533 (under_mono _ _ _ _ _ _)  s b hp0)
theorem K550 : ((Go.Proofs.Tryz.prog).funcs[46]?).bind (compile (Go.Proofs.Tryz.prog) nuY effY) = some slices_EqualFunc := by kernel_rfl
theorem N550 : ((Go.Proofs.Tryz.prog).funcs[46]?).map (fun f => f.name == "runtime.NumGoroutine") = some false := by kernel_rfl
theorem H550 : Good (Go.Proofs.Tryz.prog) nuY (ctxY.under rankY 4 0) effY P550 V550 46 := good_of mixY K550 N550 (by
  rintro ds ⟨a, b, rfl⟩
  refine ⟨rfl, ?_⟩
  rw [V550_eq]
  exact w550 (under_mono _ _ _ _ _ _) (G551 (by decide)) a b)
theorem K594 : ((Go.Proofs.Tryz.prog).funcs[22]?).bind (compile (Go.Proofs.Tryz.prog) nuY effY) = some ref33_Keeps := by kernel_rfl
theorem N594 : ((Go.Proofs.Tryz.prog).funcs[22]?).map (fun f => f.name == "runtime.NumGoroutine") = some false := by kernel_rfl
theorem H594 : Good (Go.Proofs.Tryz.prog) nuY (ctxY.under rankY 1 0) effY P594 V594 22 := good_of mixY K594 N594 (by
  rintro ds ⟨l, rfl, hp0⟩
  refine ⟨rfl, ?_⟩
  rw [V594_eq]
  exact w594 (under_mono _ _ _ _ _ _)  l hp0)
theorem K668 : ((Go.Proofs.Tryz.prog).funcs[105]?).bind (compile (Go.Proofs.Tryz.prog) nuY effY) = some ref2_Numeric := by kernel_rfl
theorem N668 : ((Go.Proofs.Tryz.prog).funcs[105]?).map (fun f => f.name == "runtime.NumGoroutine") = some false := by kernel_rfl
theorem H668 : Good (Go.Proofs.Tryz.prog) nuY (ctxY.under rankY 1 0) effY P668 V668 105 := good_of mixY K668 N668 (by
  rintro ds ⟨t, rfl⟩
  refine ⟨rfl, ?_⟩
  rw [V668_eq]
  exact w668 (under_mono _ _ _ _ _ _)  t)
theorem K882 : ((Go.Proofs.Tryz.prog).funcs[116]?).bind (compile (Go.Proofs.Tryz.prog) nuY effY) = some ref1_whole := by kernel_rfl
theorem N882 : ((Go.Proofs.Tryz.prog).funcs[116]?).map (fun f => f.name == "runtime.NumGoroutine") = some false := by kernel_rfl
theorem H882 : Good (Go.Proofs.Tryz.prog) nuY (ctxY.under rankY 1 0) effY P882 V882 116 := good_of mixY K882 N882 (by
  rintro ds ⟨n, rfl, hp0⟩
  refine ⟨rfl, ?_⟩
  rw [V882_eq]
  exact w882 (under_mono _ _ _ _ _ _)  n hp0)
theorem K1187 : ((Go.Proofs.Tryz.prog).funcs[4]?).bind (compile (Go.Proofs.Tryz.prog) nuY effY) = some law33_LockSums := by kernel_rfl
theorem N1187 : ((Go.Proofs.Tryz.prog).funcs[4]?).map (fun f => f.name == "runtime.NumGoroutine") = some false := by kernel_rfl
theorem H1187 : Good (Go.Proofs.Tryz.prog) nuY (ctxY.under rankY 10 0) effY P1187 V1187 4 := good_of mixY K1187 N1187 (by
  rintro ds ⟨ks, ls, rfl⟩
  refine ⟨rfl, ?_⟩
  rw [V1187_eq]
  exact w1187 (under_mono _ _ _ _ _ _) (G117 (by decide)) (G119 (by decide)) (G160 (by decide)) (G221 (by decide)) (G309 (by decide)) (G571 (by decide)) ks ls)
end
end Go.Abs
end
section
namespace Go.Abs
section
variable [Glob]
theorem K101 : ((Go.Proofs.Tryz.prog).funcs[21]?).bind (compile (Go.Proofs.Tryz.prog) nuY effY) = some lock_Keeps := by kernel_rfl
theorem N101 : ((Go.Proofs.Tryz.prog).funcs[21]?).map (fun f => f.name == "runtime.NumGoroutine") = some false := by kernel_rfl
theorem H101 : Good (Go.Proofs.Tryz.prog) nuY (ctxY.under rankY 1 0) effY P101 V101 21 := good_of mixY K101 N101 (by
  rintro ds ⟨l, rfl, hp0⟩
  refine ⟨rfl, ?_⟩
  rw [V101_eq]
  exact w101 (under_mono _ _ _ _ _ _)  l hp0)
theorem K138 : ((Go.Proofs.Tryz.prog).funcs[43]?).bind (compile (Go.Proofs.Tryz.prog) nuY effY) = some mark_EnvMay := by kernel_rfl
theorem N138 : ((Go.Proofs.Tryz.prog).funcs[43]?).map (fun f => f.name == "runtime.NumGoroutine") = some false := by kernel_rfl
theorem H138 : Good (Go.Proofs.Tryz.prog) nuY (ctxY.under rankY 2 0) effY P138 V138 43 := good_of mixY K138 N138 (by
  rintro ds ⟨e, rfl⟩
  refine ⟨rfl, ?_⟩
  rw [V138_eq]
  exact w138 (under_mono _ _ _ _ _ _) (G349 (by decide)) e)
theorem K208 : ((Go.Proofs.Tryz.prog).funcs[66]?).bind (compile (Go.Proofs.Tryz.prog) nuY effY) = some ident_Name := by kernel_rfl
theorem N208 : ((Go.Proofs.Tryz.prog).funcs[66]?).map (fun f => f.name == "runtime.NumGoroutine") = some false := by kernel_rfl
theorem H208 : Good (Go.Proofs.Tryz.prog) nuY (ctxY.under rankY 1 0) effY P208 V208 66 := good_of mixY K208 N208 (by
  rintro ds ⟨s, rfl⟩
  refine ⟨rfl, ?_⟩
  rw [V208_eq]
  exact w208 (under_mono _ _ _ _ _ _)  s)
theorem K294 : ((Go.Proofs.Tryz.prog).funcs[18]?).bind (compile (Go.Proofs.Tryz.prog) nuY effY) = some lock_Find := by kernel_rfl
theorem N294 : ((Go.Proofs.Tryz.prog).funcs[18]?).map (fun f => f.name == "runtime.NumGoroutine") = some false := by kernel_rfl
theorem H294 : Good (Go.Proofs.Tryz.prog) nuY (ctxY.under rankY 3 0) effY P294 V294 18 := good_of mixY K294 N294 (by
  rintro ds ⟨l, nm, rfl⟩
  refine ⟨rfl, ?_⟩
  rw [V294_eq]
  exact w294 (under_mono _ _ _ _ _ _) (G528 (by decide)) l nm)
theorem K314 : ((Go.Proofs.Tryz.prog).funcs[17]?).bind (compile (Go.Proofs.Tryz.prog) nuY effY) = some lock_Same := by kernel_rfl
theorem N314 : ((Go.Proofs.Tryz.prog).funcs[17]?).map (fun f => f.name == "runtime.NumGoroutine") = some false := by kernel_rfl
theorem H314 : Good (Go.Proofs.Tryz.prog) nuY (ctxY.under rankY 5 0) effY P314 V314 17 := good_of mixY K314 N314 (by
  rintro ds ⟨a, b, rfl⟩
  refine ⟨rfl, ?_⟩
  rw [V314_eq]
  exact w314 (under_mono _ _ _ _ _ _) (G550 (by decide)) a b)
theorem K440 : ((Go.Proofs.Tryz.prog).funcs[84]?).bind (compile (Go.Proofs.Tryz.prog) nuY effY) = some version_fits := by kernel_rfl
theorem N440 : ((Go.Proofs.Tryz.prog).funcs[84]?).map (fun f => f.name == "runtime.NumGoroutine") = some false := by kernel_rfl
theorem H440 : Good (Go.Proofs.Tryz.prog) nuY (ctxY.under rankY 1 0) effY P440 V440 84 := good_of mixY K440 N440 (by
  rintro ds ⟨n, rfl⟩
  refine ⟨rfl, ?_⟩
  rw [V440_eq]
  exact w440 (under_mono _ _ _ _ _ _)  n)
theorem K455 : ((Go.Proofs.Tryz.prog).funcs[89]?).bind (compile (Go.Proofs.Tryz.prog) nuY effY) = some ref2_num := by kernel_rfl
theorem N455 : ((Go.Proofs.Tryz.prog).funcs[89]?).map (fun f => f.name == "runtime.NumGoroutine") = some false := by kernel_rfl
theorem H455 : Good (Go.Proofs.Tryz.prog) nuY (ctxY.under rankY 1 0) effY P455 V455 89 := good_of mixY K455 N455 (by
  rintro ds ⟨n, rfl⟩
  refine ⟨rfl, ?_⟩
  rw [V455_eq]
  exact w455 (under_mono _ _ _ _ _ _)  n)
theorem K486 : ((Go.Proofs.Tryz.prog).funcs[71]?).bind (compile (Go.Proofs.Tryz.prog) nuY effY) = some slices_Equal := by kernel_rfl
theorem N486 : ((Go.Proofs.Tryz.prog).funcs[71]?).map (fun f => f.name == "runtime.NumGoroutine") = some false := by kernel_rfl
theorem H486 : Good (Go.Proofs.Tryz.prog) nuY (ctxY.under rankY 1 0) effY P486 V486 71 := good_of mixY K486 N486 (by
  rintro ds ⟨a, b, rfl⟩
  refine ⟨rfl, ?_⟩
  rw [V486_eq]
  exact w486 (under_mono _ _ _ _ _ _)  a b)
theorem K545 : ((Go.Proofs.Tryz.prog).funcs[36]?).bind (compile (Go.Proofs.Tryz.prog) nuY effY) = some lock_reader_next := by kernel_rfl
theorem N545 : ((Go.Proofs.Tryz.prog).funcs[36]?).map (fun f => f.name == "runtime.NumGoroutine") = some false := by kernel_rfl
theorem H545 : GoodF (Go.Proofs.Tryz.prog) nuY (ctxY.under rankY 2 0) effY P545 V545 S545 36 := goodF_of 3 mixY K545 N545 (by
  rintro d ds ⟨r, rfl, rfl, hp0, hp1, hp2⟩
  refine ⟨⟨rfl, rfl⟩, ?_⟩
  rw [V545_eq, S545_eq]
  exact w545 (under_mono _ _ _ _ _ _) (G487 (by decide)) r hp0 hp1 hp2)
theorem K551 : ((Go.Proofs.Tryz.prog).funcs[47]?).bind (compile (Go.Proofs.Tryz.prog) nuY effY) = some lock_Same_1 := by kernel_rfl
theorem N551 : ((Go.Proofs.Tryz.prog).funcs[47]?).map (fun f => f.name == "runtime.NumGoroutine") = some false := by kernel_rfl
theorem H551 : Good (Go.Proofs.Tryz.prog) nuY (ctxY.under rankY 3 0) effY P551 V551 47 := good_of mixY K551 N551 (by
  rintro ds ⟨a, b, rfl⟩
  refine ⟨rfl, ?_⟩
  rw [V551_eq]
  exact w551 (under_mono _ _ _ _ _ _) (G552 (by decide)) a b)
theorem K658 : ((Go.Proofs.Tryz.prog).funcs[83]?).bind (compile (Go.Proofs.Tryz.prog) nuY effY) = some ident_Number := by kernel_rfl
theorem N658 : ((Go.Proofs.Tryz.prog).funcs[83]?).map (fun f => f.name == "runtime.NumGoroutine") = some false := by kernel_rfl
theorem H658 : Good (Go.Proofs.Tryz.prog) nuY (ctxY.under rankY 1 0) effY P658 V658 83 := good_of mixY K658 N658 (by
  rintro ds ⟨s, rfl⟩
  refine ⟨rfl, ?_⟩
  rw [V658_eq]
  exact w658 (under_mono _ _ _ _ _ _)  s)
theorem K675 : ((Go.Proofs.Tryz.prog).funcs[81]?).bind (compile (Go.Proofs.Tryz.prog) nuY effY) = some version_behind := by kernel_rfl
theorem N675 : ((Go.Proofs.Tryz.prog).funcs[81]?).map (fun f => f.name == "runtime.NumGoroutine") = some false := by kernel_rfl
theorem H675 : Good (Go.Proofs.Tryz.prog) nuY (ctxY.under rankY 1 0) effY P675 V675 81 := good_of mixY K675 N675 (by
  rintro ds ⟨s, b, rfl⟩
  refine ⟨rfl, ?_⟩
  rw [V675_eq]
  exact w675 (under_mono _ _ _ _ _ _)  s b)
theorem K894 : ((Go.Proofs.Tryz.prog).funcs[56]?).bind (compile (Go.Proofs.Tryz.prog) nuY effY) = some ref33_dash := by kernel_rfl
theorem N894 : ((Go.Proofs.Tryz.prog).funcs[56]?).map (fun f => f.name == "runtime.NumGoroutine") = some false := by kernel_rfl
theorem H894 : Good (Go.Proofs.Tryz.prog) nuY (ctxY.under rankY 1 0) effY P894 V894 56 := good_of mixY K894 N894 (by
  rintro ds ⟨s, rfl⟩
  refine ⟨rfl, ?_⟩
  rw [V894_eq]
  exact w894 (under_mono _ _ _ _ _ _)  s)
theorem K1188 : ((Go.Proofs.Tryz.prog).funcs[5]?).bind (compile (Go.Proofs.Tryz.prog) nuY effY) = some law33_LockMay := by kernel_rfl
theorem N1188 : ((Go.Proofs.Tryz.prog).funcs[5]?).map (fun f => f.name == "runtime.NumGoroutine") = some false := by kernel_rfl
theorem H1188 : Good (Go.Proofs.Tryz.prog) nuY (ctxY.under rankY 10 0) effY P1188 V1188 5 := good_of mixY K1188 N1188 (by
  rintro ds ⟨raw, ks, pa, pw, pb, nm, rfl, hp0⟩
  refine ⟨rfl, ?_⟩
  rw [V1188_eq]
  exact w1188 (under_mono _ _ _ _ _ _) (G93 (by decide)) (G101 (by decide)) (G117 (by decide)) (G119 (by decide)) (G160 (by decide)) (G189 (by decide)) (G190 (by decide)) (G294 (by decide)) (G314 (by decide)) (G315 (by decide)) (G594 (by decide)) (G1184 (by decide)) (G1185 (by decide)) raw ks pa pw pb nm hp0)
end
end Go.Abs
end
section
namespace Go.Abs
section
variable [Glob]
theorem K109 : ((Go.Proofs.Tryz.prog).funcs[27]?).bind (compile (Go.Proofs.Tryz.prog) nuY effY) = some made_G_Next := by kernel_rfl
theorem N109 : ((Go.Proofs.Tryz.prog).funcs[27]?).map (fun f => f.name == "runtime.NumGoroutine") = some false := by kernel_rfl
theorem H109 : GoodF (Go.Proofs.Tryz.prog) nuY (ctxY.under rankY 2 0) effY P109 V109 S109 27 := goodF_of 2 mixY K109 N109 (by
  rintro d ds ⟨g, n, rfl, rfl, hp0, hp1⟩
  refine ⟨⟨rfl, rfl⟩, ?_⟩
  rw [V109_eq, S109_eq]
  exact w109 (under_mono _ _ _ _ _ _) (G25 (by decide)) (G159 (by decide)) g n hp0 hp1)
theorem K144 : ((Go.Proofs.Tryz.prog).funcs[44]?).bind (compile (Go.Proofs.Tryz.prog) nuY effY) = some ref10_EnvMay := by kernel_rfl
theorem N144 : ((Go.Proofs.Tryz.prog).funcs[44]?).map (fun f => f.name == "runtime.NumGoroutine") = some false := by kernel_rfl
theorem H144 : Good (Go.Proofs.Tryz.prog) nuY (ctxY.under rankY 3 0) effY P144 V144 44 := good_of mixY K144 N144 (by
  rintro ds ⟨e, rfl⟩
  refine ⟨rfl, ?_⟩
  rw [V144_eq]
  exact w144 (under_mono _ _ _ _ _ _) (G357 (by decide)) e)
theorem K209 : ((Go.Proofs.Tryz.prog).funcs[67]?).bind (compile (Go.Proofs.Tryz.prog) nuY effY) = some version_May := by kernel_rfl
theorem N209 : ((Go.Proofs.Tryz.prog).funcs[67]?).map (fun f => f.name == "runtime.NumGoroutine") = some false := by kernel_rfl
theorem H209 : Good (Go.Proofs.Tryz.prog) nuY (ctxY.under rankY 4 0) effY P209 V209 67 := good_of mixY K209 N209 (by
  rintro ds ⟨v, rfl, hp0⟩
  refine ⟨rfl, ?_⟩
  rw [V209_eq]
  exact w209 (under_mono _ _ _ _ _ _) (G440 (by decide)) (G441 (by decide)) (G442 (by decide)) v hp0)
theorem K309 : ((Go.Proofs.Tryz.prog).funcs[14]?).bind (compile (Go.Proofs.Tryz.prog) nuY effY) = some lock_Parse := by kernel_rfl
theorem N309 : ((Go.Proofs.Tryz.prog).funcs[14]?).map (fun f => f.name == "runtime.NumGoroutine") = some false := by kernel_rfl
theorem H309 : Good (Go.Proofs.Tryz.prog) nuY (ctxY.under rankY 8 0) effY P309 V309 14 := good_of mixY K309 N309 (by
  rintro ds ⟨s, rfl, hp0⟩
  refine ⟨rfl, ?_⟩
  rw [V309_eq]
  exact w309 (under_mono _ _ _ _ _ _) (G220 (by decide)) (G254 (by decide)) (G491 (by decide)) (G499 (by decide)) (G545 (by decide)) (G546 (by decide)) (G547 (by decide)) s hp0)
theorem K315 : ((Go.Proofs.Tryz.prog).funcs[15]?).bind (compile (Go.Proofs.Tryz.prog) nuY effY) = some lock_May := by kernel_rfl
theorem N315 : ((Go.Proofs.Tryz.prog).funcs[15]?).map (fun f => f.name == "runtime.NumGoroutine") = some false := by kernel_rfl
theorem H315 : Good (Go.Proofs.Tryz.prog) nuY (ctxY.under rankY 6 0) effY P315 V315 15 := good_of mixY K315 N315 (by
  rintro ds ⟨l, rfl, hp0⟩
  refine ⟨rfl, ?_⟩
  rw [V315_eq]
  exact w315 (under_mono _ _ _ _ _ _) (G138 (by decide)) (G553 (by decide)) l hp0)
theorem K441 : ((Go.Proofs.Tryz.prog).funcs[85]?).bind (compile (Go.Proofs.Tryz.prog) nuY effY) = some version_pre := by kernel_rfl
theorem N441 : ((Go.Proofs.Tryz.prog).funcs[85]?).map (fun f => f.name == "runtime.NumGoroutine") = some false := by kernel_rfl
theorem H441 : Good (Go.Proofs.Tryz.prog) nuY (ctxY.under rankY 3 0) effY P441 V441 85 := good_of mixY K441 N441 (by
  rintro ds ⟨s, rfl, hp0⟩
  refine ⟨rfl, ?_⟩
  rw [V441_eq]
  exact w441 (under_mono _ _ _ _ _ _) (G442 (by decide)) (G533 (by decide)) (G658 (by decide)) (G659 (by decide)) s hp0)
theorem K456 : ((Go.Proofs.Tryz.prog).funcs[90]?).bind (compile (Go.Proofs.Tryz.prog) nuY effY) = some ref2_tags := by kernel_rfl
theorem N456 : ((Go.Proofs.Tryz.prog).funcs[90]?).map (fun f => f.name == "runtime.NumGoroutine") = some false := by kernel_rfl
theorem H456 : Good (Go.Proofs.Tryz.prog) nuY (ctxY.under rankY 3 0) effY P456 V456 90 := good_of mixY K456 N456 (by
  rintro ds ⟨s, p, rfl, hp0⟩
  refine ⟨rfl, ?_⟩
  rw [V456_eq]
  exact w456 (under_mono _ _ _ _ _ _) (G470 (by decide)) (G666 (by decide)) (G667 (by decide)) (G668 (by decide)) s p hp0)
theorem K497 : ((Go.Proofs.Tryz.prog).funcs[31]?).bind (compile (Go.Proofs.Tryz.prog) nuY effY) = some digest_Text := by kernel_rfl
theorem N497 : ((Go.Proofs.Tryz.prog).funcs[31]?).map (fun f => f.name == "runtime.NumGoroutine") = some false := by kernel_rfl
theorem H497 : Good (Go.Proofs.Tryz.prog) nuY (ctxY.under rankY 2 0) effY P497 V497 31 := good_of mixY K497 N497 (by
  rintro ds ⟨n, rfl⟩
  refine ⟨rfl, ?_⟩
  rw [V497_eq]
  exact w497 (under_mono _ _ _ _ _ _) (G686 (by decide)) n)
theorem K546 : ((Go.Proofs.Tryz.prog).funcs[37]?).bind (compile (Go.Proofs.Tryz.prog) nuY effY) = some lock_platform := by kernel_rfl
theorem N546 : ((Go.Proofs.Tryz.prog).funcs[37]?).map (fun f => f.name == "runtime.NumGoroutine") = some false := by kernel_rfl
theorem H546 : Good (Go.Proofs.Tryz.prog) nuY (ctxY.under rankY 3 0) effY P546 V546 37 := good_of mixY K546 N546 (by
  rintro ds ⟨s, rfl, hp0⟩
  refine ⟨rfl, ?_⟩
  rw [V546_eq]
  exact w546 (under_mono _ _ _ _ _ _) (G124 (by decide)) (G138 (by decide)) (G733 (by decide)) s hp0)
theorem K552 : ((Go.Proofs.Tryz.prog).funcs[48]?).bind (compile (Go.Proofs.Tryz.prog) nuY effY) = some lock_line_same := by kernel_rfl
theorem N552 : ((Go.Proofs.Tryz.prog).funcs[48]?).map (fun f => f.name == "runtime.NumGoroutine") = some false := by kernel_rfl
theorem H552 : Good (Go.Proofs.Tryz.prog) nuY (ctxY.under rankY 2 0) effY P552 V552 48 := good_of mixY K552 N552 (by
  rintro ds ⟨a, b, rfl⟩
  refine ⟨rfl, ?_⟩
  rw [V552_eq]
  exact w552 (under_mono _ _ _ _ _ _) (G486 (by decide)) a b)
theorem K659 : ((Go.Proofs.Tryz.prog).funcs[101]?).bind (compile (Go.Proofs.Tryz.prog) nuY effY) = some version_numeric := by kernel_rfl
theorem N659 : ((Go.Proofs.Tryz.prog).funcs[101]?).map (fun f => f.name == "runtime.NumGoroutine") = some false := by kernel_rfl
theorem H659 : Good (Go.Proofs.Tryz.prog) nuY (ctxY.under rankY 1 0) effY P659 V659 101 := good_of mixY K659 N659 (by
  rintro ds ⟨t, rfl⟩
  refine ⟨rfl, ?_⟩
  rw [V659_eq]
  exact w659 (under_mono _ _ _ _ _ _)  t)
theorem K686 : ((Go.Proofs.Tryz.prog).funcs[54]?).bind (compile (Go.Proofs.Tryz.prog) nuY effY) = some digest_digit := by kernel_rfl
theorem N686 : ((Go.Proofs.Tryz.prog).funcs[54]?).map (fun f => f.name == "runtime.NumGoroutine") = some false := by kernel_rfl
theorem H686 : Good (Go.Proofs.Tryz.prog) nuY (ctxY.under rankY 1 0) effY P686 V686 54 := good_of mixY K686 N686 (by
  rintro ds ⟨k, rfl, hp0⟩
  refine ⟨rfl, ?_⟩
  rw [V686_eq]
  exact w686 (under_mono _ _ _ _ _ _)  k hp0)
theorem K895 : ((Go.Proofs.Tryz.prog).funcs[57]?).bind (compile (Go.Proofs.Tryz.prog) nuY effY) = some ref33_line := by kernel_rfl
theorem N895 : ((Go.Proofs.Tryz.prog).funcs[57]?).map (fun f => f.name == "runtime.NumGoroutine") = some false := by kernel_rfl
theorem H895 : Good (Go.Proofs.Tryz.prog) nuY (ctxY.under rankY 6 0) effY P895 V895 57 := good_of mixY K895 N895 (by
  rintro ds ⟨x, rfl, hp0⟩
  refine ⟨rfl, ?_⟩
  rw [V895_eq]
  exact w895 (under_mono _ _ _ _ _ _) (G313 (by decide)) (G316 (by decide)) (G894 (by decide)) x hp0)
end
end Go.Abs
end
section
namespace Go.Abs
section
variable [Glob]
theorem K111 : ((Go.Proofs.Tryz.prog).funcs[28]?).bind (compile (Go.Proofs.Tryz.prog) nuY effY) = some made_Names := by kernel_rfl
theorem N111 : ((Go.Proofs.Tryz.prog).funcs[28]?).map (fun f => f.name == "runtime.NumGoroutine") = some false := by kernel_rfl
theorem H111 : Good (Go.Proofs.Tryz.prog) nuY (ctxY.under rankY 1 0) effY P111 V111 28 := good_of mixY K111 N111 (by
  rintro ds rfl
  refine ⟨rfl, ?_⟩
  rw [V111_eq]
  exact w111 (under_mono _ _ _ _ _ _)  )
theorem K159 : ((Go.Proofs.Tryz.prog).funcs[51]?).bind (compile (Go.Proofs.Tryz.prog) nuY effY) = some made_At := by kernel_rfl
theorem N159 : ((Go.Proofs.Tryz.prog).funcs[51]?).map (fun f => f.name == "runtime.NumGoroutine") = some false := by kernel_rfl
theorem H159 : Good (Go.Proofs.Tryz.prog) nuY (ctxY.under rankY 1 0) effY P159 V159 51 := good_of mixY K159 N159 (by
  rintro ds ⟨l, i, rfl⟩
  refine ⟨rfl, ?_⟩
  rw [V159_eq]
  exact w159 (under_mono _ _ _ _ _ _)  l i)
theorem K216 : ((Go.Proofs.Tryz.prog).funcs[69]?).bind (compile (Go.Proofs.Tryz.prog) nuY effY) = some ref1_Name := by kernel_rfl
theorem N216 : ((Go.Proofs.Tryz.prog).funcs[69]?).map (fun f => f.name == "runtime.NumGoroutine") = some false := by kernel_rfl
theorem H216 : Good (Go.Proofs.Tryz.prog) nuY (ctxY.under rankY 2 0) effY P216 V216 69 := good_of mixY K216 N216 (by
  rintro ds ⟨s, rfl⟩
  refine ⟨rfl, ?_⟩
  rw [V216_eq]
  exact w216 (under_mono _ _ _ _ _ _) (G453 (by decide)) (G454 (by decide)) s)
theorem K310 : ((Go.Proofs.Tryz.prog).funcs[34]?).bind (compile (Go.Proofs.Tryz.prog) nuY effY) = some ref33_SameLines := by kernel_rfl
theorem N310 : ((Go.Proofs.Tryz.prog).funcs[34]?).map (fun f => f.name == "runtime.NumGoroutine") = some false := by kernel_rfl
theorem H310 : Good (Go.Proofs.Tryz.prog) nuY (ctxY.under rankY 2 0) effY P310 V310 34 := good_of mixY K310 N310 (by
  rintro ds ⟨a, b, rfl⟩
  refine ⟨rfl, ?_⟩
  rw [V310_eq]
  exact w310 (under_mono _ _ _ _ _ _) (G311 (by decide)) a b)
theorem K316 : ((Go.Proofs.Tryz.prog).funcs[76]?).bind (compile (Go.Proofs.Tryz.prog) nuY effY) = some ref2_Print := by kernel_rfl
theorem N316 : ((Go.Proofs.Tryz.prog).funcs[76]?).map (fun f => f.name == "runtime.NumGoroutine") = some false := by kernel_rfl
theorem H316 : Good (Go.Proofs.Tryz.prog) nuY (ctxY.under rankY 5 0) effY P316 V316 76 := good_of mixY K316 N316 (by
  rintro ds ⟨v, rfl, hp0⟩
  refine ⟨rfl, ?_⟩
  rw [V316_eq]
  exact w316 (under_mono _ _ _ _ _ _) (G217 (by decide)) (G554 (by decide)) v hp0)
theorem K442 : ((Go.Proofs.Tryz.prog).funcs[86]?).bind (compile (Go.Proofs.Tryz.prog) nuY effY) = some version_tags := by kernel_rfl
theorem N442 : ((Go.Proofs.Tryz.prog).funcs[86]?).map (fun f => f.name == "runtime.NumGoroutine") = some false := by kernel_rfl
theorem H442 : Good (Go.Proofs.Tryz.prog) nuY (ctxY.under rankY 2 0) effY P442 V442 86 := good_of mixY K442 N442 (by
  rintro ds ⟨s, rfl, hp0⟩
  refine ⟨rfl, ?_⟩
  rw [V442_eq]
  exact w442 (under_mono _ _ _ _ _ _) (G533 (by decide)) s hp0)
theorem K463 : ((Go.Proofs.Tryz.prog).funcs[55]?).bind (compile (Go.Proofs.Tryz.prog) nuY effY) = some math_bits_RotateLeft64 := by kernel_rfl
theorem N463 : ((Go.Proofs.Tryz.prog).funcs[55]?).map (fun f => f.name == "runtime.NumGoroutine") = some false := by kernel_rfl
theorem H463 : Good (Go.Proofs.Tryz.prog) nuY (ctxY.under rankY 1 0) effY P463 V463 55 := good_of mixY K463 N463 (by
  rintro ds ⟨h, k, rfl, hp0⟩
  refine ⟨rfl, ?_⟩
  rw [V463_eq]
  exact w463 (under_mono _ _ _ _ _ _)  h k hp0)
theorem K499 : ((Go.Proofs.Tryz.prog).funcs[40]?).bind (compile (Go.Proofs.Tryz.prog) nuY effY) = some digest_Read := by kernel_rfl
theorem N499 : ((Go.Proofs.Tryz.prog).funcs[40]?).map (fun f => f.name == "runtime.NumGoroutine") = some false := by kernel_rfl
theorem H499 : Good (Go.Proofs.Tryz.prog) nuY (ctxY.under rankY 1 0) effY P499 V499 40 := good_of mixY K499 N499 (by
  rintro ds ⟨s, rfl⟩
  refine ⟨rfl, ?_⟩
  rw [V499_eq]
  exact w499 (under_mono _ _ _ _ _ _)  s)
theorem K547 : ((Go.Proofs.Tryz.prog).funcs[41]?).bind (compile (Go.Proofs.Tryz.prog) nuY effY) = some lock_locked := by kernel_rfl
theorem N547 : ((Go.Proofs.Tryz.prog).funcs[41]?).map (fun f => f.name == "runtime.NumGoroutine") = some false := by kernel_rfl
theorem H547 : Good (Go.Proofs.Tryz.prog) nuY (ctxY.under rankY 7 0) effY P547 V547 41 := good_of mixY K547 N547 (by
  rintro ds ⟨t, rfl, hp0⟩
  refine ⟨rfl, ?_⟩
  rw [V547_eq]
  exact w547 (under_mono _ _ _ _ _ _) (G124 (by decide)) (G466 (by decide)) (G499 (by decide)) (G553 (by decide)) (G733 (by decide)) t hp0)
theorem K553 : ((Go.Proofs.Tryz.prog).funcs[42]?).bind (compile (Go.Proofs.Tryz.prog) nuY effY) = some lock_line_may := by kernel_rfl
theorem N553 : ((Go.Proofs.Tryz.prog).funcs[42]?).map (fun f => f.name == "runtime.NumGoroutine") = some false := by kernel_rfl
theorem H553 : Good (Go.Proofs.Tryz.prog) nuY (ctxY.under rankY 5 0) effY P553 V553 42 := good_of mixY K553 N553 (by
  rintro ds ⟨x, rfl, hp0⟩
  refine ⟨rfl, ?_⟩
  rw [V553_eq]
  exact w553 (under_mono _ _ _ _ _ _) (G208 (by decide)) (G209 (by decide)) (G349 (by decide)) x hp0)
theorem K665 : ((Go.Proofs.Tryz.prog).funcs[72]?).bind (compile (Go.Proofs.Tryz.prog) nuY effY) = some ident_Digits := by kernel_rfl
theorem N665 : ((Go.Proofs.Tryz.prog).funcs[72]?).map (fun f => f.name == "runtime.NumGoroutine") = some false := by kernel_rfl
theorem H665 : Good (Go.Proofs.Tryz.prog) nuY (ctxY.under rankY 2 0) effY P665 V665 72 := good_of mixY K665 N665 (by
  rintro ds ⟨n, rfl, hp0⟩
  refine ⟨rfl, ?_⟩
  rw [V665_eq]
  exact w665 (under_mono _ _ _ _ _ _) (G336 (by decide)) n hp0)
theorem K733 : ((Go.Proofs.Tryz.prog).funcs[61]?).bind (compile (Go.Proofs.Tryz.prog) nuY effY) = some lock_plain := by kernel_rfl
theorem N733 : ((Go.Proofs.Tryz.prog).funcs[61]?).map (fun f => f.name == "runtime.NumGoroutine") = some false := by kernel_rfl
theorem H733 : Good (Go.Proofs.Tryz.prog) nuY (ctxY.under rankY 1 0) effY P733 V733 61 := good_of mixY K733 N733 (by
  rintro ds ⟨s, rfl⟩
  refine ⟨rfl, ?_⟩
  rw [V733_eq]
  exact w733 (under_mono _ _ _ _ _ _)  s)
theorem K1184 : ((Go.Proofs.Tryz.prog).funcs[6]?).bind (compile (Go.Proofs.Tryz.prog) nuY effY) = some law33_few := by kernel_rfl
theorem N1184 : ((Go.Proofs.Tryz.prog).funcs[6]?).map (fun f => f.name == "runtime.NumGoroutine") = some false := by kernel_rfl
theorem H1184 : Good (Go.Proofs.Tryz.prog) nuY (ctxY.under rankY 1 0) effY P1184 V1184 6 := good_of mixY K1184 N1184 (by
  rintro ds ⟨l, rfl⟩
  refine ⟨rfl, ?_⟩
  rw [V1184_eq]
  exact w1184 (under_mono _ _ _ _ _ _)  l)
end
end Go.Abs
end
section
namespace Go.Abs
def Owes (p : Nat × Nat) : Prop := Good (Go.Proofs.Tryz.prog) nuY (ctxY.under rankY (rankY.key p.2) 0) effY (ctxY.pre p.2) (ctxY.val p.2) p.1
def AllG : List (Nat × Nat) → Prop
  | [] => True
  | p :: r => Owes p ∧ AllG r
theorem AllG.mem : ∀ {l : List (Nat × Nat)}, AllG l → ∀ p ∈ l, Owes p
  | p :: r, h, q, hq => by
    rcases List.mem_cons.1 hq with rfl | hq
    · exact h.1
    · exact h.2.mem q hq
theorem O1186 : Owes (3, 1186) := H1186
theorem O1187 : Owes (4, 1187) := H1187
theorem O1188 : Owes (5, 1188) := H1188
theorem O1184 : Owes (6, 1184) := H1184
theorem O119 : Owes (7, 119) := H119
theorem O93 : Owes (8, 93) := H93
theorem O160 : Owes (9, 160) := H160
theorem O312 : Owes (10, 312) := H312
theorem O571 : Owes (11, 571) := H571
theorem O117 : Owes (12, 117) := H117
theorem O221 : Owes (13, 221) := H221
theorem O309 : Owes (14, 309) := H309
theorem O315 : Owes (15, 315) := H315
theorem O189 : Owes (16, 189) := H189
theorem O314 : Owes (17, 314) := H314
theorem O294 : Owes (18, 294) := H294
theorem O190 : Owes (19, 190) := H190
theorem O1185 : Owes (20, 1185) := H1185
theorem O101 : Owes (21, 101) := H101
theorem O594 : Owes (22, 594) := H594
theorem O313 : Owes (23, 313) := H313
theorem O25 : Owes (24, 25) := H25
theorem O112 : Owes (25, 112) := H112
theorem O29 : Owes (26, 29) := H29
theorem O109 : Owes (27, 109) := fun ds h => h.elim
theorem O111 : Owes (28, 111) := H111
theorem O548 : Owes (29, 548) := H548
theorem O549 : Owes (30, 549) := H549
theorem O497 : Owes (31, 497) := H497
theorem O220 : Owes (32, 220) := H220
theorem O743 : Owes (33, 743) := H743
theorem O310 : Owes (34, 310) := H310
theorem O464 : Owes (35, 464) := H464
theorem O545 : Owes (36, 545) := fun ds h => h.elim
theorem O546 : Owes (37, 546) := H546
theorem O254 : Owes (38, 254) := E254
theorem O491 : Owes (39, 491) := E491
theorem O499 : Owes (40, 499) := H499
theorem O547 : Owes (41, 547) := H547
theorem O553 : Owes (42, 553) := H553
theorem O138 : Owes (43, 138) := H138
theorem O144 : Owes (44, 144) := H144
theorem O418 : Owes (45, 418) := H418
theorem O550 : Owes (46, 550) := H550
theorem O551 : Owes (47, 551) := H551
theorem O552 : Owes (48, 552) := H552
theorem O528 : Owes (49, 528) := H528
theorem O529 : Owes (50, 529) := H529
theorem O159 : Owes (51, 159) := H159
theorem O451 : Owes (52, 451) := H451
theorem O242 : Owes (53, 242) := E242
theorem O686 : Owes (54, 686) := H686
theorem O463 : Owes (55, 463) := H463
theorem O894 : Owes (56, 894) := H894
theorem O895 : Owes (57, 895) := H895
theorem O311 : Owes (58, 311) := H311
theorem O487 : Owes (59, 487) := E487
theorem O124 : Owes (60, 124) := E124
theorem O733 : Owes (61, 733) := H733
theorem O466 : Owes (64, 466) := H466
theorem O349 : Owes (65, 349) := H349
theorem O208 : Owes (66, 208) := H208
theorem O209 : Owes (67, 209) := H209
theorem O357 : Owes (68, 357) := H357
theorem O216 : Owes (69, 216) := H216
theorem O217 : Owes (70, 217) := H217
theorem O486 : Owes (71, 486) := H486
theorem O665 : Owes (72, 665) := H665
theorem O316 : Owes (76, 316) := H316
theorem O675 : Owes (81, 675) := H675
theorem O533 : Owes (82, 533) := H533
theorem O658 : Owes (83, 658) := H658
theorem O440 : Owes (84, 440) := H440
theorem O441 : Owes (85, 441) := H441
theorem O442 : Owes (86, 442) := H442
theorem O453 : Owes (87, 453) := H453
theorem O454 : Owes (88, 454) := H454
theorem O455 : Owes (89, 455) := H455
theorem O456 : Owes (90, 456) := H456
theorem O336 : Owes (91, 336) := E336
theorem O554 : Owes (94, 554) := H554
theorem O659 : Owes (101, 659) := H659
theorem O470 : Owes (102, 470) := H470
theorem O666 : Owes (103, 666) := H666
theorem O667 : Owes (104, 667) := H667
theorem O668 : Owes (105, 668) := H668
theorem O734 : Owes (109, 734) := H734
theorem O882 : Owes (116, 882) := H882
theorem allY : AllG nuY := ⟨O1186, O1187, O1188, O1184, O119, O93, O160, O312, O571, O117, O221, O309, O315, O189, O314, O294, O190, O1185, O101, O594, O313, O25, O112, O29, O109, O111, O548, O549, O497, O220, O743, O310, O464, O545, O546, O254, O491, O499, O547, O553, O138, O144, O418, O550, O551, O552, O528, O529, O159, O451, O242, O686, O463, O894, O895, O311, O487, O124, O733, O466, O349, O208, O209, O357, O216, O217, O486, O665, O316, O675, O533, O658, O440, O441, O442, O453, O454, O455, O456, O336, O554, O659, O470, O666, O667, O668, O734, O882, trivial⟩
theorem assoc_mem : ∀ {l : List (Nat × Nat)} {a b : Nat}, assoc? l a = some b → (a, b) ∈ l
  | [], _, _, h => by simp [assoc?] at h
  | (c, d) :: r, a, b, h => by
    simp only [assoc?] at h
    split at h
    · rename_i e; simp_all
    · exact .tail _ (assoc_mem h)
theorem effY_mem {n : Nat} (h : effY.contains (2 * n + 1) = true) : n = 109 ∨ n = 545 := by
  simp [effY] at h; omega
theorem okY : Ok (Go.Proofs.Tryz.prog) nuY effY ctxY := by
  refine ok_of rankY (fun fid n hn ds hp hok x args hl hargs hnl himm hgd => allY.mem (fid, n) (assoc_mem hn) ds hp hok x args hl hargs hnl himm hgd) (fun fid n hn hef d ds hp hok x f args l k hl h0 hargs hs hfl hd hnl => ?_) (fun fid n hn hef ds st K h => h.elim)
  have hm := assoc_mem hn
  rcases effY_mem hef with rfl | rfl
  · have : ∀ p ∈ nuY, p.2 = 109 → p.1 = 27 := by decide
    obtain rfl := this _ hm rfl
    exact H109 d ds hp hok x f args l k hl h0 hargs hs hfl hd hnl
  · have : ∀ p ∈ nuY, p.2 = 545 → p.1 = 36 := by decide
    obtain rfl := this _ hm rfl
    exact H545 d ds hp hok x f args l k hl h0 hargs hs hfl hd hnl
end Go.Abs
end
section
namespace Go.Abs
open Go.RowKit Go.ChangeShapes
theorem Grow.below {w w' : World} (h : Grow w w') : Below w.heap.size w w' := ⟨h.os, h.tape, h.output, h.size, h.old⟩
section
variable {H : Type} {enc : TypeId × Value → H} {P : Program}
theorem post_of_below {f : Func} {s : ChangeSpec} {apart fresh handsOn again : Bool} {W W' : World} {args : Array Value} {v : Value} {ds gs : List (DataW H)} {before pa pv : List MemPlace}
    (hW : DataW.Whole enc P f.params.toList s.vars apart W args.toList ds gs before)
    (hres : ∀ (b : Nat) (sp : Nat → Bool) (hd : Bool), DataW.TrodAll enc P W' b sp hd f.resultTypes.toList (v.resultList f.resultTypes.size) (s.fn H (ds ++ gs)).results [])
    (hargs : ∀ sp : Nat → Bool, (∀ p ∈ before, sp p.block = true) → DataW.TrodAll enc P W' 0 sp true f.params.toList args.toList (s.fn H (ds ++ gs)).args pa)
    (hvars : ∀ sp : Nat → Bool, (∀ p ∈ before, sp p.block = true) → DataW.TrodVars enc P W' sp s.vars (s.fn H (ds ++ gs)).vars pv)
    (hps : before = pa ++ pv) (hb : Below W.heap.size W W')
    (hok : ∀ (j : Nat) (t : TypeId) (r : Value), f.resultTypes[j]? = some t → (v.resultList f.resultTypes.size)[j]? = some r → Value.okWide P W' .any 0 t r) :
    s.post enc P f apart fresh handsOn again W args v W' := by
  have hold : ∀ p ∈ before, (fun b => decide (b < W.heap.size)) p.block = true := fun p hp => by simpa using hW.lt p hp
  refine ⟨ds, gs, before, [], pa, pv, hW, hres _ _ _, hargs _ hold, hvars _ hold, World.keptBut_mono (fun p hp => ⟨hp, ?_⟩) (hb.frame (· ∈ before)), fun _ => ?_⟩
  · rw [hps, List.mem_append] at hp
    exact Or.inr hp
  · have hlt := hW.lt
    obtain ⟨_, _, _, _, _, hz, hn⟩ := hW
    refine ⟨hok, _, _, ([] ++ pa) ++ pv, ⟨[] ++ pa, pv, trodAll_append (hargs _ (fun _ _ => rfl)) (hres _ _ _), hvars _ (fun _ _ => rfl), rfl, ?_, ?_⟩, ?_⟩
    · intro b off hp
      have hmem : MemPlace.cell b off ∈ before := by rw [hps]; simpa using hp
      have hq := hz b off hmem
      have hl : b < W.heap.size := hlt _ hmem
      simpa only [World.frozen?, hb.block b hl] using hq
    · intro ha
      have := hn ha
      rw [hps] at this
      simpa using this
    · intro p hp _
      rw [hps]
      simpa using hp
end
end Go.Abs
end
section
namespace Go.Abs
/-- leaves of types -/
inductive Lf
  | str
  | int (k : IntKind)
  | bool
  | sl (ag : Bool) (k : Nat) (cs : List Lf)
mutual
/-- a value that fits a leaf, of so much bulk -/
def fit : Lf → D → Nat → Prop
  | .str, d, n => ∃ s, d = .str s ∧ s.length + 1 ≤ n
  | .int k, d, n => (∃ m, d = .int k m ∧ (Lit.int k m).wf = true) ∧ 1 ≤ n
  | .bool, d, n => (∃ b, d = .bool b) ∧ 1 ≤ n
  | .sl ag k cs, d, n => ∃ es, d = .sl k es ∧ ∃ ns : List Nat, ns.length = es.length ∧ ns.sum + 1 ≤ n ∧ ∀ i, i < es.length → ∃ ds, es.getD i .any = (bif ag then .agg ds else ds.getD 0 .any) ∧ fitL cs ds (ns.getD i 0)
def fitL : List Lf → List D → Nat → Prop
  | [], ds, _ => ds = []
  | c :: r, ds, n => ∃ d ds' n1 n2, ds = d :: ds' ∧ n1 + n2 ≤ n ∧ fit c d n1 ∧ fitL r ds' n2
end
theorem fitL_len : ∀ {cs : List Lf} {ds : List D} {n : Nat}, fitL cs ds n → ds.length = cs.length
  | [], ds, n, h => by simp only [fitL] at h; simp [h]
  | c :: r, ds, n, h => by
    simp only [fitL] at h
    obtain ⟨d, ds', n1, n2, rfl, _, _, h2⟩ := h
    simp [fitL_len h2]
theorem fitL_append : ∀ {a b : List Lf} {da db : List D} {n m : Nat}, fitL a da n → fitL b db m → fitL (a ++ b) (da ++ db) (n + m)
  | [], b, da, db, n, m, h1, h2 => by
    simp only [fitL] at h1; subst h1
    simp only [List.nil_append]
    exact fitL_mono h2 (by omega)
  | c :: r, b, da, db, n, m, h1, h2 => by
    simp only [fitL] at h1
    obtain ⟨d, ds', n1, n2, rfl, h3, h4, h5⟩ := h1
    simp only [List.cons_append, fitL]
    exact ⟨d, ds' ++ db, n1, n2 + m, rfl, by omega, h4, fitL_append h5 h2⟩
where
  fitL_mono : ∀ {cs : List Lf} {ds : List D} {n m : Nat}, fitL cs ds n → n ≤ m → fitL cs ds m
  | [], _, _, _, h, _ => h
  | c :: r, ds, n, m, h, hm => by
    simp only [fitL] at h ⊢
    obtain ⟨d, ds', n1, n2, rfl, h3, h4, h5⟩ := h
    exact ⟨d, ds', n1, n2, rfl, by omega, h4, h5⟩
theorem fit_one {c : Lf} {d : D} {n : Nat} (h : fit c d n) : d.cells = [d] ∧ d.noLoc = true := by
  cases c <;> simp only [fit] at h
  · obtain ⟨s, rfl, _⟩ := h; exact ⟨rfl, rfl⟩
  · obtain ⟨⟨m, rfl, _⟩, _⟩ := h; exact ⟨rfl, rfl⟩
  · obtain ⟨⟨b, rfl⟩, _⟩ := h; exact ⟨rfl, rfl⟩
  · obtain ⟨es, rfl, _⟩ := h; exact ⟨rfl, rfl⟩
theorem fitL_noLoc : ∀ {cs : List Lf} {ds : List D} {n : Nat}, fitL cs ds n → noLocs ds = true
  | [], ds, n, h => by simp only [fitL] at h; subst h; rfl
  | c :: r, ds, n, h => by
    simp only [fitL] at h
    obtain ⟨d, ds', n1, n2, rfl, _, h1, h2⟩ := h
    simp only [noLocs, (fit_one h1).2, fitL_noLoc h2, Bool.and_self]
theorem addr_add2 (b o m j : Nat) : ((⟨b, o, none⟩ : Addr).add m).add j = ⟨b, o + m + j, none⟩ := by
  unfold Addr.add
  split <;> split <;> simp_all
section
variable {H : Type}
mutual
def dB : DataW H → Nat
  | .lit (.string s) => s.length + 1
  | .slice es _ => dBs es + 1
  | .agg ps => dBs ps
  | _ => 1
def dBs : List (DataW H) → Nat
  | [] => 0
  | d :: r => dB d + dBs r
end
theorem dBs_sum : ∀ ds : List (DataW H), dBs ds = (ds.map dB).sum
  | [] => rfl
  | d :: r => by simp only [dBs, List.map_cons, List.sum_cons, dBs_sum r]
end
def isAg (P : Program) (t : TypeId) : Bool := match P.underlying t with
  | some (.struct _) => true
  | some (.array _ _) => true
  | _ => false
def lfs (P : Program) (F : TypeId → Option (List Lf)) : List Field → Nat → Option (List Lf)
  | [], _ => some []
  | f :: r, off => match F f.type, lfs P F r (off + P.cellsOf f.type) with
    | some a, some b => if f.offset = off ∧ a.length = P.cellsOf f.type then some (a ++ b) else none
    | _, _ => none
/-- an array's element as a field -/
def arrF (e : TypeId) (off : Nat) : Field := { (default : Field) with type := e, offset := off }
def lfOf (P : Program) : Nat → TypeId → Option (List Lf)
  | 0, _ => none
  | n + 1, t => match P.underlying t with
    | some .bool => some [.bool]
    | some (.int k) => some [.int k]
    | some .string => some [.str]
    | some (.slice e) => match lfOf P n e with
      | some cs => if cs.length = P.cellsOf e ∧ 0 < cs.length ∧ (isAg P e = true ∨ cs.length = 1) then some [.sl (isAg P e) (P.cellsOf e) cs] else none
      | none => none
    | some (.struct fs) => match lfs P (lfOf P n) fs.toList 0 with
      | some a => if a.length = P.cellsOf t then some a else none
      | none => none
    | some (.array k e) => match lfs P (lfOf P n) ((List.range k).map fun i => arrF e (i * P.cellsOf e)) 0 with
      | some a => if a.length = P.cellsOf t then some a else none
      | none => none
    | _ => none
section
variable {H : Type} {enc : TypeId × Value → H} {P : Program} {ν : List (Nat × Nat)}
/-- the world, all that is in it never written -/
def xAll (W : World) : X := ⟨W, fun b => b < W.heap.size, fun _ => none⟩
/-- cells that read as abstract values -/
def Rds (ν : List (Nat × Nat)) (W : World) (cs : List Value) (a : List Lf) (n : Nat) : Prop :=
  cs.length = a.length ∧ ∃ ds : List D, fitL a ds n ∧ ∀ i, i < cs.length → RD ν (xAll W) (cs.getD i undef) (ds.getD i .any) ∧ (cs.getD i undef).oneCell' = true
theorem Rds.one {W : World} {v : Value} {c : Lf} {d : D} {n : Nat} (hf : fit c d n) (hr : RD ν (xAll W) v d) (h1 : v.oneCell' = true) : Rds ν W [v] [c] n :=
  ⟨rfl, [d], by simp only [fitL]; exact ⟨d, [], n, 0, rfl, by omega, hf, rfl⟩, fun i hi => by
    obtain rfl : i = 0 := by simpa using hi
    exact ⟨hr, h1⟩⟩
theorem lfs_rd {W : World} {F : TypeId → Option (List Lf)} {m : Nat} {sp : Nat → Bool} {held : Bool} {cs : List Value}
    (hF : ∀ t a cs (x : DataW H × List MemPlace), F t = some a → DataW.trod enc P W 0 sp held m t cs = some x → Rds ν W cs a (dB x.1)) :
    ∀ (r : List Field) (off : Nat) (a : List Lf) (xs : List (DataW H × List MemPlace)), lfs P F r off = some a → xs.length = r.length →
      (∀ (i : Nat) (f : Field), r[i]? = some f → DataW.trod enc P W 0 sp held m f.type ((cs.drop f.offset).take (P.cellsOf f.type)) = xs[i]?) → off + a.length ≤ cs.length →
      ∃ ds : List D, fitL a ds (dBs (xs.map (·.1))) ∧ ∀ i, i < a.length → RD ν (xAll W) (cs.getD (off + i) undef) (ds.getD i .any) ∧ (cs.getD (off + i) undef).oneCell' = true
  | [], off, a, xs, h, hl, _, _ => by
    simp only [lfs, Option.some.injEq] at h
    subst h
    exact ⟨[], rfl, fun i hi => by simp at hi⟩
  | f :: r, off, a, xs, h, hl, hx, hoff => by
    simp only [lfs] at h
    split at h
    · rename_i a1 a2 h1 h2
      split at h
      · rename_i hc
        simp only [Option.some.injEq] at h
        subst h
        match xs, hl with
        | x :: xs, hl =>
        have q := hx 0 f rfl
        simp only [List.getElem?_cons_zero] at q
        obtain ⟨l1, ds1, g1, g2⟩ := hF _ _ _ _ h1 q
        simp only [List.length_append] at hoff
        have hlen : ((cs.drop f.offset).take (P.cellsOf f.type)).length = a1.length := by rw [← l1]
        obtain ⟨ds2, g3, g4⟩ := lfs_rd hF r _ a2 xs h2 (by simpa using hl) (fun i f' hf => by simpa using hx (i + 1) f' (by simpa using hf)) (by omega)
        have hd1 := fitL_len g1
        refine ⟨ds1 ++ ds2, by simp only [List.map_cons, dBs]; exact fitL_append g1 g3, fun i hi => ?_⟩
        simp only [List.length_append] at hi
        by_cases hi1 : i < a1.length
        · have := g2 i (by omega)
          have e1 : (ds1 ++ ds2).getD i .any = ds1.getD i .any := by simp [List.getD, List.getElem?_append, hd1, hi1]
          have e2 : ((cs.drop f.offset).take (P.cellsOf f.type)).getD i undef = cs.getD (off + i) undef := by
            simp only [List.getD, List.getElem?_take, List.getElem?_drop, hc.1]
            rw [if_pos (by omega)]
          rw [e1, ← e2]; exact this
        · have := g4 (i - a1.length) (by omega)
          have e1 : (ds1 ++ ds2).getD i .any = ds2.getD (i - a1.length) .any := by simp [List.getD, List.getElem?_append, hd1, hi1]
          rw [e1, show off + i = off + P.cellsOf f.type + (i - a1.length) by omega]; exact this
      · cases h
    · cases h
theorem trod_rd {W : World} {sp : Nat → Bool} {held : Bool} : ∀ (fl : Nat) (t : TypeId) (a : List Lf) (fuel : Nat) (cs : List Value) (x : DataW H × List MemPlace),
    lfOf P fl t = some a → DataW.trod enc P W 0 sp held fuel t cs = some x → Rds ν W cs a (dB x.1)
  | 0, t, a, fuel, cs, x, h, _ => by simp [lfOf] at h
  | n + 1, t, a, fuel, cs, x, h, hx => by
    unfold lfOf at h
    split at h
    · rename_i ht
      simp only [Option.some.injEq] at h; subst h
      obtain ⟨b, rfl, rfl⟩ := DataW.trod_bool ht hx
      exact .one (by simp only [fit]; exact ⟨⟨b, rfl⟩, by simp [dB]⟩) (.bool b) rfl
    · rename_i k ht
      simp only [Option.some.injEq] at h; subst h
      obtain ⟨m, rfl, rfl, hw⟩ := DataW.trod_int ht hx
      exact .one (by simp only [fit]; exact ⟨⟨m, rfl, hw⟩, by simp [dB]⟩) (.int k m) rfl
    · rename_i ht
      simp only [Option.some.injEq] at h; subst h
      obtain ⟨s, rfl, rfl, hs⟩ := DataW.trod_string ht hx
      obtain ⟨⟨l⟩⟩ := s
      exact .one (d := .str l) (by simp only [fit]; exact ⟨l, rfl, by simp [dB]⟩) (.str l hs) rfl
    · rename_i e ht
      split at h
      · rename_i ce hce
        split at h
        · rename_i hk
          obtain ⟨hk1, hk0, hkag⟩ := hk
          simp only [Option.some.injEq] at h; subst h
          rcases DataW.trod_slice ht hx with ⟨rfl, rfl⟩ | ⟨ad, len, cap, elems, rest, m, rfl, rfl, rfl, hb, hlc, hcm, hel, hat, _, _⟩
          · refine .one (d := .sl (P.cellsOf e) []) (by simp only [fit]; exact ⟨[], rfl, [], rfl, by simp [dB], fun i hi => by simp at hi⟩) ?_ rfl
            exact .sl none 0 0 0 0 _ [] (fun _ _ => undef) rfl (.inl rfl) (Nat.le_refl _) (Nat.zero_le _) (fun i hi => by omega) (fun i hi => by omega) (fun i j hi => by omega) (fun i j hi => by omega) (fun i j hi => by omega)
          · have key : ∀ i, i < len → ∃ (csi : List Value) (dsi : List D), (csi.length = ce.length ∧ ∀ j, j < P.cellsOf e → W.cell? ((ad.add (i * P.cellsOf e)).add j) = csi[j]?) ∧ fitL ce dsi (dB (elems.getD i (.nil, [])).1) ∧
                ∀ j, j < csi.length → RD ν (xAll W) (csi.getD j undef) (dsi.getD j .any) ∧ (csi.getD j undef).oneCell' = true := by
              intro i hi
              have q := hat i hi
              have hgi : elems[i]? = some (elems.getD i (.nil, [])) := by simp [List.getD, show i < elems.length by omega]
              rw [hgi, Option.bind_eq_some_iff] at q
              obtain ⟨csi, q1, q2⟩ := q
              obtain ⟨l1, dsi, g1, g2⟩ := trod_rd n e ce m csi _ hce q2
              obtain ⟨_, _, q3⟩ := World.cells?_some q1
              exact ⟨csi, dsi, ⟨l1, q3⟩, g1, g2⟩
            let f : Nat → List Value × List D := fun i => if h : i < len then ((key i h).choose, (key i h).choose_spec.choose) else ([], [])
            have hf : ∀ i, i < len → ((f i).1.length = ce.length ∧ ∀ j, j < P.cellsOf e → W.cell? ((ad.add (i * P.cellsOf e)).add j) = (f i).1[j]?) ∧ fitL ce (f i).2 (dB (elems.getD i (.nil, [])).1) ∧
                ∀ j, j < (f i).1.length → RD ν (xAll W) ((f i).1.getD j undef) ((f i).2.getD j .any) ∧ ((f i).1.getD j undef).oneCell' = true := by
              intro i hi
              have e1 : f i = ((key i hi).choose, (key i hi).choose_spec.choose) := by simp [f, hi]
              rw [e1]
              exact (key i hi).choose_spec.choose_spec
            let es : List D := (List.range len).map fun i => bif isAg P e then .agg (f i).2 else (f i).2.getD 0 .any
            have hes : ∀ i, i < len → es.getD i .any = bif isAg P e then .agg (f i).2 else (f i).2.getD 0 .any := fun i hi => by simp [es, hi]
            have hcells : ∀ i, i < len → (es.getD i .any).cells = (f i).2 := fun i hi => by
              rw [hes i hi]
              cases hag : isAg P e with
              | true => rfl
              | false =>
                have h1 : ce.length = 1 := by
                  rcases hkag with h | h
                  · rw [hag] at h; cases h
                  · exact h
                match ce, h1 with
                | [c], _ =>
                have g := (hf i hi).2.1
                simp only [fitL] at g
                obtain ⟨d, ds', n1, n2, e1, _, g1, rfl⟩ := g
                rw [e1]
                exact (fit_one g1).1
            have hnl : ∀ i, i < len → (es.getD i .any).noLoc = true := fun i hi => by
              have g := fitL_noLoc (hf i hi).2.1
              rw [hes i hi]
              cases hag : isAg P e with
              | true => exact g
              | false =>
                show ((f i).2.getD 0 .any).noLoc = true
                match hq : (f i).2 with
                | [] => rfl
                | d :: r =>
                  rw [hq] at g
                  simp only [noLocs, Bool.and_eq_true] at g
                  exact g.1
            refine .one (d := .sl (P.cellsOf e) es) ?_ ?_ rfl
            · simp only [fit]
              refine ⟨es, rfl, elems.map fun q => dB q.1, by simp [es, hel], by simp only [dB, dBs_sum, List.map_map]; exact Nat.le_refl _, fun i hi => ?_⟩
              have hi' : i < len := by simpa [es] using hi
              refine ⟨(f i).2, hes i hi', ?_⟩
              have := (hf i hi').2.1
              have e2 : (elems.map fun q => dB q.1).getD i 0 = dB (elems.getD i (.nil, [])).1 := by simp [List.getD, show i < elems.length by omega]
              rw [e2]; exact this
            · have hfl : ∀ i, i < len → (f i).1.length = P.cellsOf e := fun i hi => by rw [(hf i hi).1.1, hk1]
              have hdl : ∀ i, i < len → (f i).2.length = P.cellsOf e := fun i hi => by rw [fitL_len (hf i hi).2.1, hk1]
              have hcell : ∀ i j, i < len → j < P.cellsOf e → W.cell? ((ad.add (i * P.cellsOf e)).add j) = some ((f i).1.getD j undef) := fun i j hi hj => by
                rw [(hf i hi).1.2 j hj]
                simp [List.getD, show j < (f i).1.length by rw [hfl i hi]; exact hj]
              have hsp : es = [] ∨ (ad.spot = none ∧ ad.block < W.heap.size) := by
                by_cases h0 : len = 0
                · left; simp [es, h0]
                · right
                  have h1 := hcell 0 0 (by omega) (by omega)
                  have e3 : (ad.add (0 * P.cellsOf e)).add 0 = ad := by simp [Addr.add]
                  rw [e3] at h1
                  refine ⟨World.cell?_spot h1, ?_⟩
                  unfold World.cell? at h1
                  split at h1
                  · rename_i h2
                    exact (Array.getElem?_eq_some_iff.mp h2).1
                  · cases h1
              obtain ⟨ab, ao, asp⟩ := ad
              refine .sl (some ⟨ab, ao, asp⟩) ab ao len cap _ es (fun i j => (f i).1.getD j undef) (by simp [es]) ?_ hlc hcm (fun i hi => by rw [hcells i hi, hdl i hi]) hnl ?_ ?_ ?_
              · rcases hsp with h | ⟨h, h2⟩
                · exact .inl h
                · obtain rfl : asp = none := h
                  exact .inr ⟨rfl, h2⟩
              · intro i j hi hj
                have h1 := hcell i j hi hj
                rcases hsp with h | ⟨h, h2⟩
                · have : es.length = 0 := by rw [h]; rfl
                  simp [es] at this; omega
                · obtain rfl : asp = none := h
                  rwa [addr_add2] at h1
              · intro i j hi hj
                exact ((hf i hi).2.2 j (by rw [hfl i hi]; exact hj)).2
              · intro i j hi hj
                rw [hcells i hi]
                exact ((hf i hi).2.2 j (by rw [hfl i hi]; exact hj)).1
        · cases h
      · cases h
    · rename_i fs ht
      split at h
      · rename_i b hb
        split at h
        · rename_i hlen
          simp only [Option.some.injEq] at h; subst h
          obtain ⟨xs, m, rfl, rfl, hcl, hxl, hat⟩ := DataW.trod_struct ht hx
          obtain ⟨ds, g1, g2⟩ := lfs_rd (W := W) (ν := ν) (sp := sp) (held := held) (enc := enc) (m := m) (cs := cs) (fun t a cs x h1 h2 => trod_rd n t a m cs x h1 h2) fs.toList 0 b xs hb (by simpa using hxl) (fun i f hf => hat i f (by simpa using hf)) (by omega)
          refine ⟨by omega, ds, by simpa only [dB] using g1, fun i hi => ?_⟩
          have := g2 i (by omega)
          rwa [Nat.zero_add] at this
        · cases h
      · cases h
    · rename_i k e ht
      split at h
      · rename_i b hb
        split at h
        · rename_i hlen
          simp only [Option.some.injEq] at h; subst h
          obtain ⟨xs, m, rfl, rfl, hcl, hxl, hat⟩ := DataW.trod_array ht hx
          obtain ⟨ds, g1, g2⟩ := lfs_rd (W := W) (ν := ν) (sp := sp) (held := held) (enc := enc) (m := m) (cs := cs) (fun t a cs x h1 h2 => trod_rd n t a m cs x h1 h2) _ 0 b xs hb (by simpa using hxl) (fun i f hf => by
            simp only [List.getElem?_map, Option.map_eq_some_iff] at hf
            obtain ⟨j, hj, rfl⟩ := hf
            have hi : i < k := by
              have := (List.getElem?_eq_some_iff.1 hj).1
              simpa using this
            obtain rfl : j = i := by simpa [hi] using hj.symm
            exact hat j hi) (by omega)
          refine ⟨by omega, ds, by simpa only [dB] using g1, fun i hi => ?_⟩
          have := g2 i (by omega)
          rwa [Nat.zero_add] at this
        · cases h
      · cases h
    · cases h
end
end Go.Abs
end
section
namespace Go.Abs
open Go.RowKit Go.ChangeShapes Go.WideShapes
/-- what an argument of a shape reads as -/
def argFit (sh : Bool × List Lf) (d : D) (n : Nat) : Prop := ∃ ds, fitL sh.2 ds n ∧ d = bif sh.1 then .agg ds else ds.getD 0 .any
def argsFit : List (Bool × List Lf) → List D → Nat → Prop
  | [], ds, _ => ds = []
  | s :: r, ds, n => ∃ d ds' n1 n2, ds = d :: ds' ∧ n1 + n2 ≤ n ∧ argFit s d n1 ∧ argsFit r ds' n2
def shapesOf (P : Program) (k : Nat) : List TypeId → Option (List (Bool × List Lf))
  | [] => some []
  | t :: r => match lfOf P k t, shapesOf P k r with
    | some a, some b => if isAg P t = true ∨ a.length = 1 then some ((isAg P t, a) :: b) else none
    | _, _ => none
section
variable {H : Type} {enc : TypeId × Value → H} {P : Program} {ν : List (Nat × Nat)}
theorem arg_rd {W : World} {sp : Nat → Bool} {held : Bool} {k base : Nat} {t : TypeId} {a : List Lf} {v : Value} {d : DataW H} {p : List MemPlace} {r : Reach}
    (ha : lfOf P k t = some a) (h1 : isAg P t = true ∨ a.length = 1) (hval : Value.okWide P W r base t v) (h : DataW.Trod enc P W 0 sp held t v d p) :
    ∃ e, argFit (isAg P t, a) e (dB d) ∧ e.noLoc = true ∧ RD ν (xAll W) v e := by
  obtain ⟨fuel, hf⟩ := h
  obtain ⟨hl, ds, g1, g2⟩ := trod_rd (ν := ν) k t a fuel v.cells.toList (d, p) ha hf
  have hdl := fitL_len g1
  have hnl := fitL_noLoc g1
  refine ⟨_, ⟨ds, g1, rfl⟩, ?_⟩
  cases hag : isAg P t with
  | true =>
    have : ∃ cs, v = .agg cs ∧ cs.size = P.cellsOf t := by
      match k, ha with
      | n + 1, ha =>
      unfold lfOf at ha
      unfold isAg at hag
      split at ha
      · simp_all
      · simp_all
      · simp_all
      · simp_all
      · rename_i fs ht; exact okWide_struct ht hval
      · rename_i m e ht
        simp only [Value.okWide, ht] at hval
        obtain ⟨cs, h1, h2, _⟩ := hval
        exact ⟨cs, h1, h2⟩
      · simp_all
    obtain ⟨cs, rfl, hcs⟩ := this
    refine ⟨hnl, ?_⟩
    have hl' : cs.size = a.length := by simpa [Value.cells] using hl
    have e : ∀ i, (Value.agg cs).cells.toList.getD i undef = cs.getD i undef := fun i => by
      simp only [Value.cells]
      by_cases hi : i < cs.size <;> simp [List.getD, Array.getD, hi]
    refine .agg cs ds (by omega) (fun i hi => ?_) fun i hi => ?_
    · rw [← e]; exact (g2 i (by simp only [Value.cells, Array.length_toList]; omega)).2
    · rw [← e]; exact (g2 i (by simp only [Value.cells, Array.length_toList]; omega)).1
  | false =>
    have h1 : a.length = 1 := by
      rcases h1 with h | h
      · rw [hag] at h; cases h
      · exact h
    have hv : v.cells.toList.getD 0 undef = v := by
      match k, ha with
      | n + 1, ha =>
      unfold lfOf at ha
      unfold isAg at hag
      split at ha
      · rename_i ht; obtain ⟨b, rfl⟩ := okWide_bool ht hval; rfl
      · rename_i k ht; obtain ⟨b, rfl⟩ := okWide_int ht hval; rfl
      · rename_i ht; obtain ⟨b, rfl⟩ := okWide_string ht hval; rfl
      · rename_i e ht; obtain ⟨b, c, f, rfl⟩ := okWide_slice ht hval; rfl
      · rename_i fs ht; rw [ht] at hag; cases hag
      · rename_i m e ht; rw [ht] at hag; cases hag
      · cases ha
    have g := g2 0 (by omega)
    rw [hv] at g
    refine ⟨?_, g.1⟩
    match ds, hdl with
    | [d0], _ => simpa [noLocs] using hnl
    | [], h => simp at h; omega
    | _ :: _ :: _, h => simp at h; omega
theorem args_rd {W : World} {sp : Nat → Bool} {held : Bool} {k base : Nat} {r : Reach} : ∀ (ts : List TypeId) (shs : List (Bool × List Lf)) (vs : List Value) (dws : List (DataW H)) (ps : List MemPlace),
    shapesOf P k ts = some shs → (∀ (j : Nat) t v, ts[j]? = some t → vs[j]? = some v → Value.okWide P W r base t v) → DataW.TrodAll enc P W 0 sp held ts vs dws ps →
    ∃ es : List D, argsFit shs es (dBs dws) ∧ es.length = vs.length ∧ dws.length = ts.length ∧ noLocs es = true ∧ ∀ i, i < es.length → RD ν (xAll W) (vs.getD i undef) (es.getD i .any)
  | [], shs, vs, dws, ps, hs, _, h => by
    simp only [shapesOf, Option.some.injEq] at hs
    subst hs
    obtain ⟨rfl, rfl, rfl⟩ := trodAll_nil h
    exact ⟨[], rfl, rfl, rfl, rfl, fun i hi => by simp at hi⟩
  | t :: ts, shs, vs, dws, ps, hs, hv, h => by
    simp only [shapesOf] at hs
    split at hs
    · rename_i a b h1 h2
      split at hs
      · rename_i hc
        simp only [Option.some.injEq] at hs
        subst hs
        obtain ⟨v, vs', d, ds', p, q, rfl, rfl, rfl, h3, h4⟩ := trodAll_cons h
        obtain ⟨e, g1, g2, g3⟩ := arg_rd (ν := ν) h1 hc (hv 0 t v rfl rfl) h3
        obtain ⟨es, k1, k2, k3, k4, k5⟩ := args_rd ts b vs' ds' q h2 (fun j t v h5 h6 => hv (j + 1) t v (by simpa using h5) (by simpa using h6)) h4
        refine ⟨e :: es, ⟨e, es, _, _, rfl, Nat.le_refl _, g1, k1⟩, by simp [k2], by simp [k3], by simp [noLocs, g2, k4], fun i hi => ?_⟩
        match i, hi with
        | 0, _ => exact g3
        | i + 1, hi => exact k5 i (by simpa using hi)
      · cases hs
    · cases hs
theorem trodAll_below {W W' : World} (hl : laidOutB P = true) (hb : Below W.heap.size W W') {sp' : Nat → Bool} : ∀ (ts : List TypeId) (vs : List Value) (dws : List (DataW H)) (ps : List MemPlace),
    (ts.all fun t => P.readableRec t && decide (t < P.types.size)) = true → (∀ x ∈ ps, x.block < W.heap.size) → (∀ x ∈ ps, sp' x.block = true) →
    DataW.TrodAll enc P W 0 (fun _ => true) true ts vs dws ps → DataW.TrodAll enc P W' 0 sp' true ts vs dws ps
  | [], vs, dws, ps, _, _, _, h => by
    obtain ⟨rfl, rfl, rfl⟩ := trodAll_nil h
    exact trodAll_mk0
  | t :: ts, vs, dws, ps, ht, hlt, hsp, h => by
    obtain ⟨v, vs', d, ds', p, q, rfl, rfl, rfl, h3, h4⟩ := trodAll_cons h
    simp only [List.all_cons, Bool.and_eq_true, decide_eq_true_eq] at ht
    refine trodAll_cons_mk (WideElems.Trod_stays hl ht.1.1 ht.1.2 h3 (fun x hx => hb.same (hlt x (by simp [hx]))) fun x hx => hsp x (by simp [hx])) ?_
    exact trodAll_below hl hb ts vs' ds' q ht.2 (fun x hx => hlt x (by simp [hx])) (fun x hx => hsp x (by simp [hx])) h4
/-- a law that answers true, by the context -/
theorem law_calls [Glob] {eff : List Nat} {Γ : Ctx} (hok : Ok P ν eff Γ) {fid n k base : Nat} {f : Func} {s : ChangeSpec} {tb : TypeId} {shs : List (Bool × List Lf)} {r : Reach}
    {W : World} {args : Array Value} {ds gs : List (DataW H)} {before : List MemPlace}
    (hf : P.funcs[fid]? = some f) (hnm : (f.name == "runtime.NumGoroutine") = false) (hbody : f.body.isSome = true) (hn : assoc? ν fid = some n)
    (hl : laidOutB P = true) (hts : (f.params.toList.all fun t => P.readableRec t && decide (t < P.types.size)) = true)
    (hsh : shapesOf P k f.params.toList = some shs) (hres : f.resultTypes = #[tb]) (htb : P.underlying tb = some .bool)
    (hvars : s.vars = []) (hfn : ∀ xs : List (DataW H), xs.length = f.params.toList.length → s.fn H xs = { results := [.lit (.bool true)], args := xs })
    (hgd : Glob.gd (xAll W)) (hpre : ∀ es, argsFit shs es (dBs ds) → Γ.pre n es) (hval : Γ.val n = fun _ => .bool true)
    (hargs : ∀ (j : Nat) t v, f.params[j]? = some t → args[j]? = some v → Value.okWide P W r base t v)
    (hW : DataW.Whole enc P f.params.toList s.vars false W args.toList ds gs before) :
    Calls P fid args W fun e W' => ∃ v, e = .returned v ∧ s.post enc P f false true false false W args v W' := by
  have hW' := hW
  obtain ⟨p, q, hA, hV, rfl, hz, hnd⟩ := hW
  rw [hvars] at hV
  obtain ⟨rfl, rfl⟩ := trodVars_none hV
  obtain ⟨es, h1, h2, h3, h4, h5⟩ := args_rd (ν := ν) f.params.toList shs args.toList ds p hsh (fun j t v e1 e2 => hargs j t v (by simpa using e1) (by simpa using e2)) hA
  have hsz : args.size = es.length := by simpa using h2.symm
  have hd := hok.pure fid n hn (xAll W) args es hsz (fun i hi => by
    have := h5 i hi
    have e : args.toList.getD i undef = args.getD i undef := by
      have hi' : i < args.size := by omega
      simp [List.getD, Array.getD, hi']
    rwa [e] at this) h4 (fun b hb => hb) hgd (hpre es h1)
  rw [callFunc_enter hf hnm hbody args] at hd
  rcases hd with ⟨v, x', hd | hd, _⟩ | ⟨f', args', hd, hc⟩
  · cases hd
  · cases hd.1
  · cases hd
    refine Calls.mono hc fun e W' he => ?_
    match e, he with
    | .returned v, he =>
      obtain ⟨x', rfl, hp, hr⟩ := he
      rw [hval] at hr
      obtain rfl : v = .bool true := by cases hr; rfl
      have hb : Below W.heap.size W x'.w := hp.grow.below
      have hlt := hW'.lt
      have e1 : s.fn H (ds ++ []) = { results := [.lit (.bool true)], args := ds } := by rw [List.append_nil]; exact hfn ds h3
      refine ⟨_, rfl, post_of_below (pa := p) (pv := []) hW' (fun b sp hd => ?_) (fun sp hsp => ?_) (fun sp hsp => ?_) rfl hb (ok_one hres rfl (okWide_bool_mk htb _))⟩
      · rw [e1, hres]
        exact trodAll_mk1 (shut_bool htb _)
      · rw [e1]
        exact trodAll_below hl hb _ _ _ _ hts (fun x hx => by simpa using hlt x (by simpa using hx)) (fun x hx => hsp x (by simpa using hx)) hA
      · rw [e1, hvars]; rfl
end
end Go.Abs
end
section
namespace Go.Abs
theorem fit_pos {c : Lf} {d : D} {n : Nat} (h : fit c d n) : 1 ≤ n := by
  cases c <;> simp only [fit] at h
  · obtain ⟨s, _, h⟩ := h; omega
  · exact h.2
  · exact h.2
  · obtain ⟨es, _, ns, _, h, _⟩ := h; omega
theorem fit_mono {c : Lf} {d : D} {n m : Nat} (h : fit c d n) (hm : n ≤ m) : fit c d m := by
  cases c <;> simp only [fit] at h ⊢
  · obtain ⟨s, h1, h⟩ := h; exact ⟨s, h1, by omega⟩
  · exact ⟨h.1, by omega⟩
  · exact ⟨h.1, by omega⟩
  · obtain ⟨es, h1, ns, h2, h3, h4⟩ := h; exact ⟨es, h1, ns, h2, by omega, h4⟩
theorem sum_get : ∀ (ns : List Nat) (i : Nat), i < ns.length → ns.getD i 0 ≤ ns.sum
  | a :: r, 0, _ => by simp
  | a :: r, i + 1, h => by
    have := sum_get r i (by simpa using h)
    simp only [List.getD_cons_succ, List.sum_cons]; omega
theorem sum_len : ∀ (ns : List Nat), (∀ i, i < ns.length → 1 ≤ ns.getD i 0) → ns.length ≤ ns.sum
  | [], _ => by simp
  | a :: r, h => by
    have h0 := h 0 (by simp)
    have := sum_len r fun i hi => h (i + 1) (by simpa using hi)
    simp only [List.getD_cons_zero] at h0
    simp only [List.length_cons, List.sum_cons]; omega
theorem sl_fit {α : Type} {q : α → D} {G : α → Prop} {ag : Bool} {k : Nat} {cs : List Lf} {d : D} {n : Nat} (hcs : cs ≠ [])
    (hd : ∀ ds m, m ≤ n → fitL cs ds m → ∃ x, (bif ag then D.agg ds else ds.getD 0 .any) = q x ∧ G x) (h : fit (.sl ag k cs) d n) :
    ∃ xs : List α, d = .sl k (xs.map q) ∧ xs.length + 1 ≤ n ∧ ∀ x ∈ xs, G x := by
  simp only [fit] at h
  obtain ⟨es, rfl, ns, hl, hs, he⟩ := h
  have hone : ∀ i, i < ns.length → 1 ≤ ns.getD i 0 := fun i hi => by
    obtain ⟨ds, _, h2⟩ := he i (by omega)
    match cs, hcs with
    | c :: r, _ =>
    simp only [fitL] at h2
    obtain ⟨d, ds', n1, n2, _, h3, h4, _⟩ := h2
    have := fit_pos h4; omega
  have hlen := sum_len ns hone
  have key : ∀ i, i < es.length → ∃ x, es.getD i .any = q x ∧ G x := fun i hi => by
    obtain ⟨ds, h1, h2⟩ := he i hi
    obtain ⟨x, h3, h4⟩ := hd ds _ (by have := sum_get ns i (by omega); omega) h2
    exact ⟨x, h1.trans h3, h4⟩
  have conv : ∀ es : List D, (∀ i, i < es.length → ∃ x, es.getD i .any = q x ∧ G x) → ∃ xs : List α, es = xs.map q ∧ ∀ x ∈ xs, G x := by
    intro es
    induction es with
    | nil => exact fun _ => ⟨[], rfl, fun x hx => by cases hx⟩
    | cons e r ih =>
      intro h
      obtain ⟨x, h1, h2⟩ := h 0 (by simp)
      obtain ⟨xs, h3, h4⟩ := ih fun i hi => by simpa using h (i + 1) (by simpa using hi)
      simp only [List.getD_cons_zero] at h1
      refine ⟨x :: xs, by rw [h3, h1]; rfl, fun y hy => ?_⟩
      rcases List.mem_cons.1 hy with rfl | hy
      · exact h2
      · exact h4 y hy
  obtain ⟨xs, rfl, hx⟩ := conv es key
  refine ⟨xs, rfl, ?_, hx⟩
  simp only [List.length_map] at hl
  omega
theorem ints_fit {k : IntKind} {d : D} {n : Nat} (h : fit (.sl false 1 [.int k]) d n) : ∃ xs : List Int, d = .sl 1 (xs.map (D.int k)) ∧ xs.length + 1 ≤ n ∧ ∀ x ∈ xs, True :=
  sl_fit (q := D.int k) (G := fun _ => True) (by simp) (fun ds m hm h => by
    simp only [fitL, fit] at h
    obtain ⟨d, ds', n1, n2, rfl, _, ⟨⟨x, rfl, _⟩, _⟩, rfl⟩ := h
    exact ⟨x, rfl, trivial⟩) h
theorem one_arg {c : Lf} {d : D} {n : Nat} (h : argFit (false, [c]) d n) : fit c d n := by
  obtain ⟨ds, h, rfl⟩ := h
  simp only [fitL] at h
  obtain ⟨d, _, n1, n2, rfl, h1, h2, rfl⟩ := h
  exact fit_mono h2 (by omega)
end Go.Abs
end
section
namespace Go.Proofs.YtbpdiikonpbgeaaGreatDoor
open Go.Abs Go.ChangeShapes Go.WideShapes Go.ChangeAt Go.RowKit Go.Proofs
theorem own : ownKnob Tryz.prog.godebug = none := by kernel_rfl
theorem laidOutP : laidOutB Tryz.prog = true := by kernel_rfl
theorem laidMet_tail {P : Program} {W : World} {y : String × DataW Unit} {l : List (String × DataW Unit)} (h : laidMet P (y :: l) W) : laidMet P l W := by
  obtain ⟨ps, ⟨g, t, cs, fuel, p, q, _, _, _, _, h1, rfl⟩, h2, h3⟩ := h
  refine ⟨q, h1, (List.nodup_append.1 h2).2.1, fun b off hm => h3 b off (by simp [hm])⟩
theorem lt_cell {W : World} {b : Nat} {o : Nat} {v : Value} (h : W.cell? ⟨b, o, none⟩ = some v) : b < W.heap.size := by
  unfold World.cell? at h
  split at h
  · rename_i h2
    exact (Array.getElem?_eq_some_iff.mp h2).1
  · cases h
theorem gd_of {W : World} (hL : laidMetH Tryz.prog Rows.lockMayRow.laid W) (hsh : W.ShapedOpen Tryz.prog) : Glob.gd (xAll W) := by
  have hL' : laidMet Tryz.prog Rows.lockMayRow.laid W := hL
  have htab : Lib.TabIs Tryz.prog W "internal/strconv.uint64pow10" .u64 Lib.pow10Tab :=
    Lib.tabIs_of_head (g := 3) (t := 151) (e := 38) (n := 20) (by kernel_rfl) (by kernel_rfl) (by kernel_rfl) (by kernel_rfl) (by kernel_rfl) (by kernel_rfl) (laidMet_tail (laidMet_tail hL'))
  obtain ⟨m, hm⟩ : ∃ m, W.cell? ⟨0, 0, none⟩ = some (.int .i64 m) := Tryz.laysM144.s1_3 W hsh
  have h3 := htab.cell pow10_named 0 (by decide)
  exact ⟨⟨lt_cell hm, m, hm⟩, lt_cell h3, htab⟩
mutual
def datCells {H : Type} : DataW H → List Value
  | .lit (.int k n) => [.int k n]
  | .agg ps => datAll ps
  | _ => []
def datAll {H : Type} : List (DataW H) → List Value
  | [] => []
  | d :: r => datCells d ++ datAll r
end
def put (d : DataW Unit) : Obj → Obj
  | .cells _ t frozen => .cells (datCells d).toArray t frozen
  | o => o
noncomputable def laidWorld (os : Os) : World :=
  { World.holding Tryz.prog os ⟨#[], #[], []⟩ with heap := (((((World.holding Tryz.prog os ⟨#[], #[], []⟩).heap.modify 1 (put Rows.laid_unicode_utf8_first)).modify 2 (put Rows.laid_unicode_utf8_acceptRanges)).modify 3 (put Rows.laid_internal_strconv_uint64pow10)).modify 4 (put Rows.laid_math_bits_deBruijn32tab)).modify 5 (put Rows.laid_math_bits_deBruijn64tab) }
end Go.Proofs.YtbpdiikonpbgeaaGreatDoor
end
section
namespace Go.Proofs.YtbpdiikonpbgeaaGreatDoor
open Go.Abs Go.ChangeShapes Go.WideShapes Go.ChangeAt Go.RowKit Go.Proofs
def args_lockSums : Array Value := #[.slice none 0 0, .slice none 0 0]
theorem laid_met_lockSums (os : Os) : laidMet Tryz.prog Rows.lockSumsRow.laid ((laidWorld os).forCall (fun _ _ => 0) ⟨#[], args_lockSums, []⟩).memory :=
  laidMet_of_run' 8 (by kernel_rfl) (by kernel_rfl)
theorem shapes_lockSums : shapesOf Tryz.prog 20 Tryz.f4.params.toList = some [(false, [.sl false 1 [.int .i64]]), (false, [.sl false 1 [.int .i64]])] := by kernel_rfl
theorem pre_lockSums {es : List D} {n : Nat} (h : argsFit [(false, [.sl false 1 [.int .i64]]), (false, [.sl false 1 [.int .i64]])] es n) : P1187 es := by
  obtain ⟨d1, _, n1, m1, rfl, a1, h1, d2, _, n2, m2, rfl, a2, h2, rfl⟩ := h
  obtain ⟨v1, rfl, k1⟩ := ints_fit (one_arg h1)
  obtain ⟨v2, rfl, k2⟩ := ints_fit (one_arg h2)
  exact ⟨v1, v2, rfl⟩
theorem reads_lockSums (os : Os) {H : Type} (enc : TypeId × Value → H) : ∃ places, DataW.whole enc Tryz.prog ((laidWorld os).forCall (fun _ _ => 0) ⟨#[], args_lockSums, []⟩).memory Tryz.f4.params.toList Rows.lockSumsSpec.vars false args_lockSums.toList 8 =
    some ([.nil, .nil], [], places) :=
  ⟨[], by kernel_rfl⟩
set_option maxRecDepth 100000 in
theorem lifted_lockSums (os : Os) (started : os.Started) (H : Type) (enc : TypeId × Value → H) (F : Stop.Interp) :
    ReturnsInHanded {} Tryz.checked os 4 .any ((OpenSpec.ofChange Rows.lockSumsSpec).preRow enc Tryz.prog Tryz.f4 Rows.lockSumsRow.domain false Rows.lockSumsRow.laid) (((OpenSpec.ofChange Rows.lockSumsSpec).at F).post enc Tryz.prog Tryz.f4 false true false false) := by
  obtain ⟨places, hx⟩ := reads_lockSums os enc
  refine returnsInHanded_of_row (C := Tryz.checked) (s := OpenSpec.ofChange Rows.lockSumsSpec) own started (by kernel_rfl) Tryz.func4
    (witness_row_at (enc := enc) (C := Tryz.checked) false (laidWorld os) args_lockSums rfl (by kernel_rfl) (by kernel_rfl) (by kernel_rfl)
      (OpenSpec.preRow_of_cond 8 hx (by kernel_rfl) (fun k hk => by cases hk) (by kernel_rfl) (laid_met_lockSums os))) ?_
  intro W base args ds gs before hval hW _ _ _ hL hsh _
  refine law_calls (n := 1187) (k := 20) (s := (OpenSpec.ofChange Rows.lockSumsSpec).at F) (tb := 4) okY Tryz.func4 (by kernel_rfl) (by kernel_rfl) (by kernel_rfl) laidOutP (by kernel_rfl) shapes_lockSums (by kernel_rfl) (by kernel_rfl) rfl (fun xs hx => ?_) (gd_of hL hsh)
    (fun es he => ?_) ?_ hval hW
  · match xs, hx with
    | [a, b], _ => rfl
  · exact pre_lockSums he
  · rfl
theorem said_lockSums : Rows.LockSumsSaid :=
  OpenClaim.holds_of_cond 4 Tryz.f4 rfl rfl rfl rfl rfl rfl rfl ⟨rfl, rfl, rfl, rfl, rfl⟩ rfl rfl rfl rfl rfl (by kernel_rfl) Tryz.func4 (by kernel_rfl)
    (of_decide_eq_true (by kernel_rfl)) (by unfold Func.isWrapper; first | (rw [if_pos (by decide +kernel)]; kernel_rfl) | (rw [if_neg (by decide +kernel)]; exact ⟨rfl, rfl⟩))
    (fun os started H enc _ F => by rw [OpenClaim.pre_eq_preRow]; exact lifted_lockSums os started H enc F)
theorem plain_lockSums (f : FuncId) (fn : Func) (hf : Tryz.pinned.checked.prog.funcNamed "linchpin/linchpinlaw33.LockSums" = some f) (hfn : Tryz.pinned.checked.prog.funcs[f]? = some fn) :
    false = Tryz.pinned.checked.prog.looks [] ∧ ∀ (j : Nat) t, fn.params[j]? = some t → Tryz.pinned.checked.prog.wantsStandIn t = false := by
  obtain rfl : f = 4 := Option.some.inj ((show Tryz.prog.funcNamed "linchpin/linchpinlaw33.LockSums" = some 4 by kernel_rfl).symm.trans hf) |>.symm
  obtain rfl : fn = Tryz.f4 := (Option.some.inj (Tryz.func4.symm.trans hfn)).symm
  refine ⟨by kernel_rfl, fun j t ht => ?_⟩
  have hall : (Tryz.f4.params.toList.all fun t => !Tryz.prog.wantsStandIn t) = true := by kernel_rfl
  have := List.all_eq_true.1 hall t (by simpa using Array.mem_of_getElem? ht)
  show Tryz.prog.wantsStandIn t = false
  simpa using this
theorem card_lockSums : Rows.LockSumsCardSaid :=
  Claim7.holds_tied_plain_at .later [] _ _ _ _ said_lockSums (fun _ h => by cases h) (by kernel_rfl) (fun _ h => by cases h) lockSums_row_tie rfl ⟨rfl, rfl⟩ (by kernel_rfl) rfl plain_lockSums (by kernel_rfl)
end Go.Proofs.YtbpdiikonpbgeaaGreatDoor
end
#print axioms Go.Proofs.YtbpdiikonpbgeaaGreatDoor.card_lockSums
