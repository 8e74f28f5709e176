/- A part of the proofs. -/
import Derived.Shelf.Strings.Builder1
import Derived.Shelf.Strings.Builder2
import Derived.Shelf.Strings.OnBuilder
import Derived.Shelf.Strings.Trim
import Derived.Shelf.Small.Utf8
import Derived.Shelf.Small.Strs
import Derived.Shelf.Small.Wraps
import Derived.Shelf.Strconv.Itoa0
import Derived.Shelf.Strconv.Itoa1
import Derived.Shelf.LaysM
import Derived.Shelf.Strconv.Itoa2
import Derived.Shelf.Strconv.Itoa3
import Derived.Shelf.Strings.Search1
import Derived.Shelf.Strings.Search2
import Derived.Shelf.Strings.Search3
import Derived.Shelf.Strings.Cut
import Derived.Shelf.Strings.Count
import Derived.Shelf.Strings.Shaped
import Derived.Shelf.Strings.Prefix
import Derived.Shelf.Strings.Split
import Derived.Shelf.Strings.SplitShaped
import Derived.Shelf.Strings.Runes
import Derived.Shelf.Strings.AsciiSet
import Derived.Shelf.Unicode.DecodeSlow
import Derived.Test.YtfeebkgpalkobaaGreatDoorProg
namespace Go.Proofs
open Go.Shelf
def Tryz.lays156_ren:Go.Shelf.Ren:=⟨fun | 156=>179 | 165=>201 | 166=>198 | 169=>180 | 240=>220 | 241=>222 | 276=>242 | 277=>244 | n=>n,fun | 31=>55 | 9=>9 | 3=>3 | 4=>4 | 0=>0 | 20=>20 | 72=>216 | 76=>236 | 70=>214 | 37=>176 | 75=>235 | 127=>241 | 164=>277 | 5=>5 | 80=>219 | n=>n,fun | n=>n⟩
theorem Tryz.lays156:Go.Proofs.Lays.n156 Tryz.prog Tryz.lays156_ren:={
 mixed:=by kernel_rfl
 f156:=Tryz.func179.trans (congrArg some (by kernel_rfl))
 f165:=Tryz.func201.trans (congrArg some (by kernel_rfl))
 f166:=Tryz.func198.trans (congrArg some (by kernel_rfl))
 f169:=Tryz.func180.trans (congrArg some (by kernel_rfl))
 f240:=Tryz.func220.trans (congrArg some (by kernel_rfl))
 f241:=Tryz.func222.trans (congrArg some (by kernel_rfl))
 f276:=Tryz.func242.trans (congrArg some (by kernel_rfl))
 f277:=Tryz.func244.trans (congrArg some (by kernel_rfl))
 t0:=Tryz.underlying0
 a0:=Tryz.isAgg0
 z0:=Tryz.sizeOf0
 v0:=Tryz.zeroValue0
 t3:=Tryz.underlying3
 a3:=Tryz.isAgg3
 z3:=Tryz.sizeOf3
 v3:=Tryz.zeroValue3
 t4:=Tryz.underlying4
 a4:=Tryz.isAgg4
 z4:=Tryz.sizeOf4
 v4:=Tryz.zeroValue4
 t9:=Tryz.underlying9
 a9:=Tryz.isAgg9
 z9:=Tryz.sizeOf9
 v9:=Tryz.zeroValue9
 t20:=Tryz.underlying20
 a20:=Tryz.isAgg20
 z20:=Tryz.sizeOf20
 v20:=Tryz.zeroValue20
 t31:=Tryz.underlying55
 a31:=Tryz.isAgg55
 z31:=Tryz.sizeOf55
 v31:=Tryz.zeroValue55
 t37:=Tryz.underlying176
 a37:=Tryz.isAgg176
 z37:=Tryz.sizeOf176
 v37:=Tryz.zeroValue176
 t70:=Tryz.underlying214
 a70:=Tryz.isAgg214
 z70:=Tryz.sizeOf214
 v70:=Tryz.zeroValue214
 t72:=Tryz.underlying216
 a72:=Tryz.isAgg216
 z72:=Tryz.sizeOf216
 v72:=Tryz.zeroValue216
 t75:=Tryz.underlying235
 a75:=Tryz.isAgg235
 z75:=Tryz.sizeOf235
 v75:=Tryz.zeroValue235
 t76:=Tryz.underlying236
 a76:=Tryz.isAgg236
 z76:=Tryz.sizeOf236
 v76:=Tryz.zeroValue236
 t127:=Tryz.underlying241
 a127:=Tryz.isAgg241
 z127:=Tryz.sizeOf241
 v127:=Tryz.zeroValue241
 t164:=Tryz.underlying277
 a164:=Tryz.isAgg277
 z164:=Tryz.sizeOf277
 v164:=Tryz.zeroValue277 }
theorem Tryz.Builder_Extra_156:Builder.Extra Tryz.prog Tryz.lays156_ren:={
 sizeBuilder:=by kernel_rfl
 liesBuilder:=by kernel_rfl
 t5:=Tryz.underlying5
 a5:=Tryz.isAgg5
 z5:=Tryz.sizeOf5
 v5:=Tryz.zeroValue5
 infoByte:=by kernel_rfl
 cellsByte:=by kernel_rfl
 sizeByte:=by kernel_rfl
 neB5:=by decide }
open Go.RowKit in
theorem Tryz.strings_Join_none (a:Option Addr)(c:Nat)(sep:ByteArray)(w:World) :
  Calls Tryz.prog 179 #[.slice a 0 c,.string sep] w fun e w'=>e = .returned (.string ⟨#[]⟩) ∧ w' = w:=Any.strings_Join_none Tryz.lays156 Tryz.Builder_Extra_156 a c sep w
open Go.RowKit in
theorem Tryz.strings_Join (bk o c:Nat)(xs:List ByteArray)(sep:ByteArray)(w:World)(hcells:∀ (j:Nat) x,xs[j]? = some x->w.cell? ⟨bk,o + j,none⟩ = some (.string x))(hbk:bk < w.heap.size)(hN:xs.length ≤ 140737488355328)(hcap:xs.length ≤ c)(hlen:(Lib.join (xs.map (·.data.toList)) sep.data.toList).length ≤ 140737488355328) :
  Calls Tryz.prog 179 #[.slice (some ⟨bk,o,none⟩) xs.length c,.string sep] w fun e w'=>e = .returned (.string ⟨(Lib.join (xs.map (·.data.toList)) sep.data.toList).toArray⟩) ∧ Below w.heap.size w w':=Any.strings_Join Tryz.lays156 Tryz.Builder_Extra_156 bk o c xs sep w hcells hbk hN hcap hlen
def Tryz.lays160_ren:Go.Shelf.Ren:=⟨fun | 160=>232 | 232=>257 | 231=>256 | 227=>258 | 234=>260 | 233=>259 | 236=>262 | 235=>261 | 228=>289 | 271=>292 | 151=>291 | 197=>290 | 120=>313 | 152=>312 | 260=>311 | 137=>322 | 119=>323 | 224=>298 | 225=>297 | 217=>296 | 266=>314 | n=>n,fun | 9=>9 | 4=>4 | 3=>3 | 5=>5 | 117=>289 | 116=>288 | 0=>0 | 124=>292 | 21=>21 | 105=>307 | 46=>94 | 119=>329 | 139=>332 | 138=>331 | n=>n,fun | 3=>3 | 4=>4 | n=>n⟩
theorem Tryz.lays160:Go.Proofs.Lays.n160 Tryz.prog Tryz.lays160_ren:={
 mixed:=by kernel_rfl
 f119:=Tryz.func323.trans (congrArg some (by kernel_rfl))
 f120:=Tryz.func313.trans (congrArg some (by kernel_rfl))
 f137:=Tryz.func322.trans (congrArg some (by kernel_rfl))
 f151:=Tryz.func291.trans (congrArg some (by kernel_rfl))
 f152:=Tryz.func312.trans (congrArg some (by kernel_rfl))
 f160:=Tryz.func232.trans (congrArg some (by kernel_rfl))
 f197:=Tryz.func290.trans (congrArg some (by kernel_rfl))
 f217:=Tryz.func296.trans (congrArg some (by kernel_rfl))
 f224:=Tryz.func298.trans (congrArg some (by kernel_rfl))
 f225:=Tryz.func297.trans (congrArg some (by kernel_rfl))
 f227:=Tryz.func258.trans (congrArg some (by kernel_rfl))
 f228:=Tryz.func289.trans (congrArg some (by kernel_rfl))
 f231:=Tryz.func256.trans (congrArg some (by kernel_rfl))
 f232:=Tryz.func257.trans (congrArg some (by kernel_rfl))
 f233:=Tryz.func259.trans (congrArg some (by kernel_rfl))
 f234:=Tryz.func260.trans (congrArg some (by kernel_rfl))
 f235:=Tryz.func261.trans (congrArg some (by kernel_rfl))
 f236:=Tryz.func262.trans (congrArg some (by kernel_rfl))
 f260:=Tryz.func311.trans (congrArg some (by kernel_rfl))
 f266:=Tryz.func314.trans (congrArg some (by kernel_rfl))
 f271:=Tryz.func292.trans (congrArg some (by kernel_rfl))
 t0:=Tryz.underlying0
 a0:=Tryz.isAgg0
 z0:=Tryz.sizeOf0
 v0:=Tryz.zeroValue0
 t3:=Tryz.underlying3
 a3:=Tryz.isAgg3
 z3:=Tryz.sizeOf3
 v3:=Tryz.zeroValue3
 t4:=Tryz.underlying4
 a4:=Tryz.isAgg4
 z4:=Tryz.sizeOf4
 v4:=Tryz.zeroValue4
 t5:=Tryz.underlying5
 a5:=Tryz.isAgg5
 z5:=Tryz.sizeOf5
 v5:=Tryz.zeroValue5
 t9:=Tryz.underlying9
 a9:=Tryz.isAgg9
 z9:=Tryz.sizeOf9
 v9:=Tryz.zeroValue9
 t21:=Tryz.underlying21
 a21:=Tryz.isAgg21
 z21:=Tryz.sizeOf21
 v21:=Tryz.zeroValue21
 t46:=Tryz.underlying94
 a46:=Tryz.isAgg94
 z46:=Tryz.sizeOf94
 v46:=Tryz.zeroValue94
 t105:=Tryz.underlying307
 a105:=Tryz.isAgg307
 z105:=Tryz.sizeOf307
 v105:=Tryz.zeroValue307
 t116:=Tryz.underlying288
 a116:=Tryz.isAgg288
 z116:=Tryz.sizeOf288
 t117:=Tryz.underlying289
 a117:=Tryz.isAgg289
 z117:=Tryz.sizeOf289
 v117:=Tryz.zeroValue289
 t119:=Tryz.underlying329
 a119:=Tryz.isAgg329
 z119:=Tryz.sizeOf329
 t124:=Tryz.underlying292
 a124:=Tryz.isAgg292
 z124:=Tryz.sizeOf292
 v124:=Tryz.zeroValue292
 t138:=Tryz.underlying331
 a138:=Tryz.isAgg331
 z138:=Tryz.sizeOf331
 v138:=Tryz.zeroValue331
 t139:=Tryz.underlying332
 a139:=Tryz.isAgg332
 z139:=Tryz.sizeOf332
 v139:=Tryz.zeroValue332
 g3:=by kernel_rfl
 g4:=by kernel_rfl }
open Go.RowKit in
theorem Tryz.strings_Trim_one (s:ByteArray)(c:UInt8)(hc:c.toNat < 128)(w:World)(hs:s.size ≤ 9223372036854775807) :
  Calls Tryz.prog 232 #[.string s,.string ⟨#[c]⟩] w fun e w'=>e = .returned (.string ⟨(Lib.trimB s.data.toList c).toArray⟩) ∧ (w' = w ∨ w' = w.drew):=Any.strings_Trim_one Tryz.lays160 s c hc w hs
def Tryz.lays103_ren:Go.Shelf.Ren:=⟨fun | 103=>217 | 210=>240 | 206=>274 | n=>n,fun | 9=>9 | 4=>4 | 24=>257 | 3=>3 | n=>n,fun | n=>n⟩
theorem Tryz.lays103:Go.Proofs.Lays.n103 Tryz.prog Tryz.lays103_ren:={
 mixed:=by kernel_rfl
 f103:=Tryz.func217.trans (congrArg some (by kernel_rfl))
 f206:=Tryz.func274.trans (congrArg some (by kernel_rfl))
 f210:=Tryz.func240.trans (congrArg some (by kernel_rfl))
 t3:=Tryz.underlying3
 a3:=Tryz.isAgg3
 z3:=Tryz.sizeOf3
 v3:=Tryz.zeroValue3
 t4:=Tryz.underlying4
 a4:=Tryz.isAgg4
 z4:=Tryz.sizeOf4
 v4:=Tryz.zeroValue4
 t9:=Tryz.underlying9
 a9:=Tryz.isAgg9
 z9:=Tryz.sizeOf9
 v9:=Tryz.zeroValue9
 t24:=Tryz.underlying257
 a24:=Tryz.isAgg257
 z24:=Tryz.sizeOf257
 v24:=Tryz.zeroValue257 }
open Go.RowKit in
theorem Tryz.strings_CutPrefix (s p:ByteArray)(w:World) :
  Calls Tryz.prog 217 #[.string s,.string p] w fun e w'=>e = .returned (.tuple #[.string ⟨(Lib.trimPrefix s.data.toList p.data.toList).toArray⟩,.bool (Lib.hasPrefix s.data.toList p.data.toList)]) ∧ w' = w:=Any.strings_CutPrefix Tryz.lays103 s p w
def Tryz.laysM171_ren:Go.Shelf.Ren:=⟨fun | 171=>221 | 243=>243 | 246=>276 | 283=>300 | 284=>301 | 285=>302 | 286=>303 | 129=>317 | 317=>316 | 318=>318 | 319=>319 | 320=>320 | 337=>324 | 338=>325 | n=>n,fun | 3=>3 | 9=>9 | 2=>2 | 4=>4 | 171=>312 | 0=>0 | 53=>54 | 37=>176 | 5=>5 | 173=>315 | 212=>326 | 51=>322 | 20=>20 | 213=>327 | 46=>94 | 232=>335 | 233=>336 | n=>n,fun | 17=>2 | 18=>5 | 19=>6 | n=>n⟩
theorem Tryz.laysM171:Go.Proofs.LaysM.n171 Tryz.prog Tryz.laysM171_ren:={
 mixed:=by kernel_rfl
 f129:=Tryz.func317.trans (congrArg some (by kernel_rfl))
 f171:=Tryz.func221.trans (congrArg some (by kernel_rfl))
 f243:=Tryz.func243.trans (congrArg some (by kernel_rfl))
 f246:=Tryz.func276.trans (congrArg some (by kernel_rfl))
 f283:=Tryz.func300.trans (congrArg some (by kernel_rfl))
 f284:=Tryz.func301.trans (congrArg some (by kernel_rfl))
 f285:=Tryz.func302.trans (congrArg some (by kernel_rfl))
 f286:=Tryz.func303.trans (congrArg some (by kernel_rfl))
 f317:=Tryz.func316.trans (congrArg some (by kernel_rfl))
 f318:=Tryz.func318.trans (congrArg some (by kernel_rfl))
 f319:=Tryz.func319.trans (congrArg some (by kernel_rfl))
 f320:=Tryz.func320.trans (congrArg some (by kernel_rfl))
 f337:=Tryz.func324.trans (congrArg some (by kernel_rfl))
 f338:=Tryz.func325.trans (congrArg some (by kernel_rfl))
 t0:=Tryz.underlying0
 a0:=Tryz.isAgg0
 z0:=Tryz.sizeOf0
 v0:=Tryz.zeroValue0
 t2:=Tryz.underlying2
 a2:=Tryz.isAgg2
 z2:=Tryz.sizeOf2
 v2:=Tryz.zeroValue2
 t3:=Tryz.underlying3
 a3:=Tryz.isAgg3
 z3:=Tryz.sizeOf3
 v3:=Tryz.zeroValue3
 t4:=Tryz.underlying4
 a4:=Tryz.isAgg4
 z4:=Tryz.sizeOf4
 v4:=Tryz.zeroValue4
 t5:=Tryz.underlying5
 a5:=Tryz.isAgg5
 z5:=Tryz.sizeOf5
 v5:=Tryz.zeroValue5
 t9:=Tryz.underlying9
 a9:=Tryz.isAgg9
 z9:=Tryz.sizeOf9
 v9:=Tryz.zeroValue9
 t20:=Tryz.underlying20
 a20:=Tryz.isAgg20
 z20:=Tryz.sizeOf20
 v20:=Tryz.zeroValue20
 t37:=Tryz.underlying176
 a37:=Tryz.isAgg176
 z37:=Tryz.sizeOf176
 v37:=Tryz.zeroValue176
 t46:=Tryz.underlying94
 a46:=Tryz.isAgg94
 z46:=Tryz.sizeOf94
 v46:=Tryz.zeroValue94
 t51:=Tryz.underlying322
 a51:=Tryz.isAgg322
 z51:=Tryz.sizeOf322
 v51:=Tryz.zeroValue322
 t53:=Tryz.underlying54
 a53:=Tryz.isAgg54
 z53:=Tryz.sizeOf54
 v53:=Tryz.zeroValue54
 t171:=Tryz.underlying312
 a171:=Tryz.isAgg312
 z171:=Tryz.sizeOf312
 v171:=Tryz.zeroValue312
 t173:=Tryz.underlying315
 a173:=Tryz.isAgg315
 z173:=Tryz.sizeOf315
 v173:=Tryz.zeroValue315
 t212:=Tryz.underlying326
 a212:=Tryz.isAgg326
 z212:=Tryz.sizeOf326
 v212:=Tryz.zeroValue326
 t213:=Tryz.underlying327
 a213:=Tryz.isAgg327
 z213:=Tryz.sizeOf327
 t232:=Tryz.underlying335
 a232:=Tryz.isAgg335
 z232:=Tryz.sizeOf335
 v232:=Tryz.zeroValue335
 t233:=Tryz.underlying336
 a233:=Tryz.isAgg336
 z233:=Tryz.sizeOf336
 v233:=Tryz.zeroValue336
 g17:=by kernel_rfl
 g18:=by kernel_rfl
 g19:=by kernel_rfl
 i0:=by kernel_rfl
 i2:=by kernel_rfl
 i3:=by kernel_rfl
 i4:=by kernel_rfl
 i5:=by kernel_rfl
 i9:=by kernel_rfl
 i20:=by kernel_rfl
 i37:=by kernel_rfl
 i46:=by kernel_rfl
 i51:=by kernel_rfl
 i53:=by kernel_rfl
 i171:=by kernel_rfl
 i173:=by kernel_rfl
 i212:=by kernel_rfl
 i232:=by kernel_rfl
 i233:=by kernel_rfl
 m17:=by kernel_rfl
 m18:=by kernel_rfl
 m19:=by kernel_rfl }
open Go.RowKit Go.Sort Go.Lib in
theorem Tryz.strconv_Itoa (n:Int)(h0:-9223372036854775808 ≤ n)(h1:n ≤ 9223372036854775807)(w:World)(htab:Lib.TabIs Tryz.prog w "internal/strconv.uint64pow10" .u64 Lib.pow10Tab) :
  Calls Tryz.prog 221 #[.int .i64 n] w fun e w'=>e = .returned (.string ⟨(Lib.itoa n).toArray⟩) ∧ ∃ k os,w' = grow (w.drewN k) os:=Any.strconv_Itoa Tryz.laysM171 n h0 h1 w htab
def Tryz.lays145_ren:Go.Shelf.Ren:=⟨fun | 145=>218 | 220=>241 | 219=>275 | 217=>296 | 225=>297 | 224=>298 | 267=>299 | 266=>314 | 314=>315 | n=>n,fun | 9=>9 | 4=>4 | 59=>259 | 3=>3 | 5=>5 | 46=>94 | 146=>323 | 51=>322 | n=>n,fun | 1=>1 | n=>n⟩
theorem Tryz.lays145:Go.Proofs.Lays.n145 Tryz.prog Tryz.lays145_ren:={
 mixed:=by kernel_rfl
 f145:=Tryz.func218.trans (congrArg some (by kernel_rfl))
 f217:=Tryz.func296.trans (congrArg some (by kernel_rfl))
 f219:=Tryz.func275.trans (congrArg some (by kernel_rfl))
 f220:=Tryz.func241.trans (congrArg some (by kernel_rfl))
 f224:=Tryz.func298.trans (congrArg some (by kernel_rfl))
 f225:=Tryz.func297.trans (congrArg some (by kernel_rfl))
 f266:=Tryz.func314.trans (congrArg some (by kernel_rfl))
 f267:=Tryz.func299.trans (congrArg some (by kernel_rfl))
 f314:=Tryz.func315.trans (congrArg some (by kernel_rfl))
 t3:=Tryz.underlying3
 a3:=Tryz.isAgg3
 z3:=Tryz.sizeOf3
 v3:=Tryz.zeroValue3
 t4:=Tryz.underlying4
 a4:=Tryz.isAgg4
 z4:=Tryz.sizeOf4
 v4:=Tryz.zeroValue4
 t5:=Tryz.underlying5
 a5:=Tryz.isAgg5
 z5:=Tryz.sizeOf5
 v5:=Tryz.zeroValue5
 t9:=Tryz.underlying9
 a9:=Tryz.isAgg9
 z9:=Tryz.sizeOf9
 v9:=Tryz.zeroValue9
 t46:=Tryz.underlying94
 a46:=Tryz.isAgg94
 z46:=Tryz.sizeOf94
 v46:=Tryz.zeroValue94
 t51:=Tryz.underlying322
 a51:=Tryz.isAgg322
 z51:=Tryz.sizeOf322
 v51:=Tryz.zeroValue322
 t59:=Tryz.underlying259
 a59:=Tryz.isAgg259
 z59:=Tryz.sizeOf259
 v59:=Tryz.zeroValue259
 t146:=Tryz.underlying323
 a146:=Tryz.isAgg323
 z146:=Tryz.sizeOf323
 v146:=Tryz.zeroValue323
 g1:=by kernel_rfl }
open Go.RowKit Go.Lib in
theorem Tryz.strings_Cut (s sep:ByteArray)(m:Int)(w:World)(hs:s.size < 4294967281)(hm:w.cell? ⟨1,0,none⟩ = some (.int .i64 m)) :
  Calls Tryz.prog 218 #[.string s,.string sep] w fun e w'=>e = .returned (.tuple #[.string ⟨(Lib.cut s.data.toList sep.data.toList).1.toArray⟩,.string ⟨(Lib.cut s.data.toList sep.data.toList).2.1.toArray⟩,.bool (Lib.cut s.data.toList sep.data.toList).2.2]) ∧ ∃ n,w' = w.drewN n:=Any.strings_Cut Tryz.lays145 s sep m w hs hm
def Tryz.lays146_ren:Go.Shelf.Ren:=⟨fun | 146=>213 | 221=>235 | 268=>265 | 138=>266 | 143=>267 | 195=>293 | 197=>290 | 218=>294 | 219=>275 | 260=>311 | 217=>296 | 225=>297 | 224=>298 | 267=>299 | 266=>314 | 314=>315 | n=>n,fun | 9=>9 | 31=>55 | 3=>3 | 4=>4 | 0=>0 | 105=>307 | 21=>21 | 5=>5 | 46=>94 | 119=>329 | 139=>332 | 138=>331 | 146=>323 | 51=>322 | n=>n,fun | 1=>1 | 3=>3 | 4=>4 | n=>n⟩
theorem Tryz.lays146:Go.Proofs.Lays.n146 Tryz.prog Tryz.lays146_ren:={
 mixed:=by kernel_rfl
 f138:=Tryz.func266.trans (congrArg some (by kernel_rfl))
 f143:=Tryz.func267.trans (congrArg some (by kernel_rfl))
 f146:=Tryz.func213.trans (congrArg some (by kernel_rfl))
 f195:=Tryz.func293.trans (congrArg some (by kernel_rfl))
 f197:=Tryz.func290.trans (congrArg some (by kernel_rfl))
 f217:=Tryz.func296.trans (congrArg some (by kernel_rfl))
 f218:=Tryz.func294.trans (congrArg some (by kernel_rfl))
 f219:=Tryz.func275.trans (congrArg some (by kernel_rfl))
 f221:=Tryz.func235.trans (congrArg some (by kernel_rfl))
 f224:=Tryz.func298.trans (congrArg some (by kernel_rfl))
 f225:=Tryz.func297.trans (congrArg some (by kernel_rfl))
 f260:=Tryz.func311.trans (congrArg some (by kernel_rfl))
 f266:=Tryz.func314.trans (congrArg some (by kernel_rfl))
 f267:=Tryz.func299.trans (congrArg some (by kernel_rfl))
 f268:=Tryz.func265.trans (congrArg some (by kernel_rfl))
 f314:=Tryz.func315.trans (congrArg some (by kernel_rfl))
 t0:=Tryz.underlying0
 a0:=Tryz.isAgg0
 z0:=Tryz.sizeOf0
 v0:=Tryz.zeroValue0
 t3:=Tryz.underlying3
 a3:=Tryz.isAgg3
 z3:=Tryz.sizeOf3
 v3:=Tryz.zeroValue3
 t4:=Tryz.underlying4
 a4:=Tryz.isAgg4
 z4:=Tryz.sizeOf4
 v4:=Tryz.zeroValue4
 t5:=Tryz.underlying5
 a5:=Tryz.isAgg5
 z5:=Tryz.sizeOf5
 v5:=Tryz.zeroValue5
 t9:=Tryz.underlying9
 a9:=Tryz.isAgg9
 z9:=Tryz.sizeOf9
 v9:=Tryz.zeroValue9
 t21:=Tryz.underlying21
 a21:=Tryz.isAgg21
 z21:=Tryz.sizeOf21
 v21:=Tryz.zeroValue21
 t31:=Tryz.underlying55
 a31:=Tryz.isAgg55
 z31:=Tryz.sizeOf55
 v31:=Tryz.zeroValue55
 t46:=Tryz.underlying94
 a46:=Tryz.isAgg94
 z46:=Tryz.sizeOf94
 v46:=Tryz.zeroValue94
 t51:=Tryz.underlying322
 a51:=Tryz.isAgg322
 z51:=Tryz.sizeOf322
 v51:=Tryz.zeroValue322
 t105:=Tryz.underlying307
 a105:=Tryz.isAgg307
 z105:=Tryz.sizeOf307
 v105:=Tryz.zeroValue307
 t119:=Tryz.underlying329
 a119:=Tryz.isAgg329
 z119:=Tryz.sizeOf329
 t138:=Tryz.underlying331
 a138:=Tryz.isAgg331
 z138:=Tryz.sizeOf331
 v138:=Tryz.zeroValue331
 t139:=Tryz.underlying332
 a139:=Tryz.isAgg332
 z139:=Tryz.sizeOf332
 v139:=Tryz.zeroValue332
 t146:=Tryz.underlying323
 a146:=Tryz.isAgg323
 z146:=Tryz.sizeOf323
 v146:=Tryz.zeroValue323
 g1:=by kernel_rfl
 g3:=by kernel_rfl
 g4:=by kernel_rfl }
open Go.RowKit Go.Lib in
theorem Tryz.strings_Split (s sep:ByteArray)(m:Int)(w:World)(hs:s.size < 4294967281)(hm:w.cell? ⟨1,0,none⟩ = some (.int .i64 m))(h1:1 ≤ sep.size) :
  Calls Tryz.prog 213 #[.string s,.string sep] w fun e w' =>
   e = .returned (.slice (some ⟨w.heap.size,0,none⟩) (Lib.countB s sep + 1) (Lib.countB s sep + 1)) ∧ w' = w.alloc (.cells ((Lib.splitB sep 0 (Lib.countB s sep) s).map Value.string).toArray 9):=Any.strings_Split Tryz.lays146 (by kernel_rfl) s sep m w hs hm h1
end Go.Proofs
