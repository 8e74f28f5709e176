/- A part of the proofs. -/
import Derived.Ground.Names2Prog
import Derived.KernelRfl
import Derived.Lib.CountLaws
import Derived.Lib.IndexMore
import Derived.Lib.ItoaNum
import Derived.Lib.Join
import Derived.Lib.Split
import Derived.Lib.SplitLaws
import Derived.Lib.Strings
import Derived.Lib.TrimByte
import Derived.Shelf.LaysM
import Derived.Shelf.Slices.SearchI
import Derived.Shelf.Small.Strs
import Derived.Shelf.Small.Utf8
import Derived.Shelf.Small.Wraps
import Derived.Shelf.Strconv.Itoa0
import Derived.Shelf.Strconv.Itoa1
import Derived.Shelf.Strconv.Itoa2
import Derived.Shelf.Strconv.Itoa3
import Derived.Shelf.Strings.AsciiSet
import Derived.Shelf.Strings.Builder1
import Derived.Shelf.Strings.Builder2
import Derived.Shelf.Strings.Count
import Derived.Shelf.Strings.Cut
import Derived.Shelf.Strings.OnBuilder
import Derived.Shelf.Strings.Prefix
import Derived.Shelf.Strings.Runes
import Derived.Shelf.Strings.Search1
import Derived.Shelf.Strings.Search2
import Derived.Shelf.Strings.Search3
import Derived.Shelf.Strings.Shaped
import Derived.Shelf.Strings.Split
import Derived.Shelf.Strings.SplitShaped
import Derived.Shelf.Strings.Trim
import Derived.Shelf.Unicode.DecodeAny
import Derived.Shelf.Unicode.DecodeLast
import Derived.Shelf.Unicode.DecodeSlow
import Derived.Test.YtkllcniplomebaaGreatDoorProg
import GoSem.ClaimGoes
import Derived.Test.YtkllcniplomebaaGreatDoorP23
set_option linter.all false
set_option maxRecDepth 60000
set_option maxHeartbeats 2000000
namespace Go.Proofs
open Go.Shelf
def Tryz.bldR:Go.Shelf.Ren:=⟨fun|166=>136|167=>310|169=>137|240=>183|276=>229|n=>n,fun|70=>245|9=>9|0=>0|72=>247|37=>67|3=>3|5=>5|4=>4|20=>20|75=>250|80=>120|164=>330|127=>298|n=>n,fun|n=>n⟩
def Tryz.Rz:Go.Proofs.Lays.n166 Tryz.prog Tryz.bldR:={
 mixed:=by kernel_rfl
 f166:=Tryz.func136.trans (congrArg some (by kernel_rfl))
 f240:=Tryz.func183.trans (congrArg some (by kernel_rfl))
 f276:=Tryz.func229.trans (congrArg some (by kernel_rfl))
 t0:=Tryz.underlying0
 a0:=Tryz.isAgg0
 z0:=Tryz.sizeOf0
 v0:=Tryz.zeroValue0
 t3:=Tryz.underlying3
 a3:=Tryz.isAgg3
 z3:=Tryz.sizeOf3
 v3:=Tryz.zeroValue3
 t4:=Tryz.underlying4
 a4:=Tryz.isAgg4
 z4:=Tryz.sizeOf4
 v4:=Tryz.zeroValue4
 t9:=Tryz.underlying9
 a9:=Tryz.isAgg9
 z9:=Tryz.sizeOf9
 v9:=Tryz.zeroValue9
 t20:=Tryz.underlying20
 a20:=Tryz.isAgg20
 z20:=Tryz.sizeOf20
 v20:=Tryz.zeroValue20
 t37:=Tryz.underlying67
 a37:=Tryz.isAgg67
 z37:=Tryz.sizeOf67
 v37:=Tryz.zeroValue67
 t70:=Tryz.underlying245
 a70:=Tryz.isAgg245
 z70:=Tryz.sizeOf245
 v70:=Tryz.zeroValue245
 t72:=Tryz.underlying247
 a72:=Tryz.isAgg247
 z72:=Tryz.sizeOf247
 v72:=Tryz.zeroValue247
 t75:=Tryz.underlying250
 a75:=Tryz.isAgg250
 z75:=Tryz.sizeOf250
 v75:=Tryz.zeroValue250
 t164:=Tryz.underlying330
 a164:=Tryz.isAgg330
 z164:=Tryz.sizeOf330
 v164:=Tryz.zeroValue330}
def Tryz.RA:Go.Proofs.Lays.n167 Tryz.prog Tryz.bldR:={
 mixed:=by kernel_rfl
 f167:=Tryz.func310.trans (congrArg some (by kernel_rfl))
 f240:=Tryz.func183.trans (congrArg some (by kernel_rfl))
 f276:=Tryz.func229.trans (congrArg some (by kernel_rfl))
 t0:=Tryz.underlying0
 a0:=Tryz.isAgg0
 z0:=Tryz.sizeOf0
 v0:=Tryz.zeroValue0
 t4:=Tryz.underlying4
 a4:=Tryz.isAgg4
 z4:=Tryz.sizeOf4
 v4:=Tryz.zeroValue4
 t5:=Tryz.underlying5
 a5:=Tryz.isAgg5
 z5:=Tryz.sizeOf5
 v5:=Tryz.zeroValue5
 t9:=Tryz.underlying9
 a9:=Tryz.isAgg9
 z9:=Tryz.sizeOf9
 v9:=Tryz.zeroValue9
 t20:=Tryz.underlying20
 a20:=Tryz.isAgg20
 z20:=Tryz.sizeOf20
 v20:=Tryz.zeroValue20
 t37:=Tryz.underlying67
 a37:=Tryz.isAgg67
 z37:=Tryz.sizeOf67
 v37:=Tryz.zeroValue67
 t70:=Tryz.underlying245
 a70:=Tryz.isAgg245
 z70:=Tryz.sizeOf245
 v70:=Tryz.zeroValue245
 t72:=Tryz.underlying247
 a72:=Tryz.isAgg247
 z72:=Tryz.sizeOf247
 v72:=Tryz.zeroValue247
 t75:=Tryz.underlying250
 a75:=Tryz.isAgg250
 z75:=Tryz.sizeOf250
 v75:=Tryz.zeroValue250
 t164:=Tryz.underlying330
 a164:=Tryz.isAgg330
 z164:=Tryz.sizeOf330
 v164:=Tryz.zeroValue330}
def Tryz.RB:Go.Proofs.Lays.n169 Tryz.prog Tryz.bldR:={
 mixed:=by kernel_rfl
 f169:=Tryz.func137.trans (congrArg some (by kernel_rfl))
 t0:=Tryz.underlying0
 a0:=Tryz.isAgg0
 z0:=Tryz.sizeOf0
 v0:=Tryz.zeroValue0
 t3:=Tryz.underlying3
 a3:=Tryz.isAgg3
 z3:=Tryz.sizeOf3
 v3:=Tryz.zeroValue3
 t9:=Tryz.underlying9
 a9:=Tryz.isAgg9
 z9:=Tryz.sizeOf9
 v9:=Tryz.zeroValue9
 t37:=Tryz.underlying67
 a37:=Tryz.isAgg67
 z37:=Tryz.sizeOf67
 v37:=Tryz.zeroValue67
 t70:=Tryz.underlying245
 a70:=Tryz.isAgg245
 z70:=Tryz.sizeOf245
 v70:=Tryz.zeroValue245
 t72:=Tryz.underlying247
 a72:=Tryz.isAgg247
 z72:=Tryz.sizeOf247
 v72:=Tryz.zeroValue247
 t127:=Tryz.underlying298
 a127:=Tryz.isAgg298
 z127:=Tryz.sizeOf298
 v127:=Tryz.zeroValue298}
def Tryz.bldX:Builder.Extra Tryz.prog Tryz.bldR:={
 sizeBuilder:=by kernel_rfl
 liesBuilder:=by kernel_rfl
 t5:=Tryz.underlying5
 a5:=Tryz.isAgg5
 z5:=Tryz.sizeOf5
 v5:=Tryz.zeroValue5
 infoByte:=by kernel_rfl
 cellsByte:=by kernel_rfl
 sizeByte:=by kernel_rfl
 neB5:=by decide}
end Go.Proofs
def c8 {α:Type}{a:Option α}{b c:α}(h:a=some b)(e:b=c:=by kernel_rfl):a=some c:=h.trans (congrArg some e)
namespace Go.Proofs
open Go.Shelf
def Tryz.lays156_ren:Go.Shelf.Ren:=⟨fun|156=>85|165=>135|166=>136|169=>137|240=>183|241=>184|276=>229|277=>230|n=>n,fun|31=>55|9=>9|3=>3|4=>4|0=>0|20=>20|72=>247|76=>251|70=>245|37=>67|75=>250|127=>298|164=>330|5=>5|80=>120|n=>n,fun|n=>n⟩
def Tryz.lays156:Go.Proofs.Lays.n156 Tryz.prog Tryz.lays156_ren:={
 mixed:=by kernel_rfl
 f156:=c8 Tryz.func85
 f165:=c8 Tryz.func135
 f166:=c8 Tryz.func136
 f169:=c8 Tryz.func137
 f240:=c8 Tryz.func183
 f241:=c8 Tryz.func184
 f276:=c8 Tryz.func229
 f277:=c8 Tryz.func230
 t0:=Tryz.underlying0
 a0:=Tryz.isAgg0
 z0:=Tryz.sizeOf0
 v0:=Tryz.zeroValue0
 t3:=Tryz.underlying3
 a3:=Tryz.isAgg3
 z3:=Tryz.sizeOf3
 v3:=Tryz.zeroValue3
 t4:=Tryz.underlying4
 a4:=Tryz.isAgg4
 z4:=Tryz.sizeOf4
 v4:=Tryz.zeroValue4
 t9:=Tryz.underlying9
 a9:=Tryz.isAgg9
 z9:=Tryz.sizeOf9
 v9:=Tryz.zeroValue9
 t20:=Tryz.underlying20
 a20:=Tryz.isAgg20
 z20:=Tryz.sizeOf20
 v20:=Tryz.zeroValue20
 t31:=Tryz.underlying55
 a31:=Tryz.isAgg55
 z31:=Tryz.sizeOf55
 v31:=Tryz.zeroValue55
 t37:=Tryz.underlying67
 a37:=Tryz.isAgg67
 z37:=Tryz.sizeOf67
 v37:=Tryz.zeroValue67
 t70:=Tryz.underlying245
 a70:=Tryz.isAgg245
 z70:=Tryz.sizeOf245
 v70:=Tryz.zeroValue245
 t72:=Tryz.underlying247
 a72:=Tryz.isAgg247
 z72:=Tryz.sizeOf247
 v72:=Tryz.zeroValue247
 t75:=Tryz.underlying250
 a75:=Tryz.isAgg250
 z75:=Tryz.sizeOf250
 v75:=Tryz.zeroValue250
 t76:=Tryz.underlying251
 a76:=Tryz.isAgg251
 z76:=Tryz.sizeOf251
 v76:=Tryz.zeroValue251
 t127:=Tryz.underlying298
 a127:=Tryz.isAgg298
 z127:=Tryz.sizeOf298
 v127:=Tryz.zeroValue298
 t164:=Tryz.underlying330
 a164:=Tryz.isAgg330
 z164:=Tryz.sizeOf330
 v164:=Tryz.zeroValue330}
def Tryz.Builder_Extra_156:Builder.Extra Tryz.prog Tryz.lays156_ren:={
 sizeBuilder:=by kernel_rfl
 liesBuilder:=by kernel_rfl
 t5:=Tryz.underlying5
 a5:=Tryz.isAgg5
 z5:=Tryz.sizeOf5
 v5:=Tryz.zeroValue5
 infoByte:=by kernel_rfl
 cellsByte:=by kernel_rfl
 sizeByte:=by kernel_rfl
 neB5:=by decide}
open Go.RowKit in
theorem Tryz.strings_Join_none (a:Option Addr)(c:Nat)(sep:ByteArray)(w:World):
  Calls Tryz.prog 85 #[.slice a 0 c,.string sep] w λe w'=>e=.returned (.string ⟨#[]⟩)∧w'=w:=Any.strings_Join_none Tryz.lays156 Tryz.Builder_Extra_156 a c sep w
open Go.RowKit in
theorem Tryz.strings_Join (bk o c:Nat)(xs:List ByteArray)(sep:ByteArray)(w:World)(hcells:∀(j:Nat) x,xs[j]? =some x→w.cell? ⟨bk,o+j,none⟩=some (.string x))(hbk:bk<w.heap.size)(hN:xs.length≤140737488355328)(hcap:xs.length≤c)(hlen:(Lib.join (xs.map (·.data.toList)) sep.data.toList).length≤140737488355328):
  Calls Tryz.prog 85 #[.slice (some ⟨bk,o,none⟩) xs.length c,.string sep] w λe w'=>e=.returned (.string ⟨(Lib.join (xs.map (·.data.toList)) sep.data.toList).toArray⟩)∧Below w.heap.size w w':=Any.strings_Join Tryz.lays156 Tryz.Builder_Extra_156 bk o c xs sep w hcells hbk hN hcap hlen
def Tryz.lays160_ren:Go.Shelf.Ren:=⟨fun|160=>354|232=>371|231=>370|227=>372|234=>374|233=>373|236=>376|235=>375|228=>390|271=>392|151=>391|197=>232|120=>395|152=>394|260=>276|137=>396|119=>397|224=>189|225=>188|217=>187|266=>234|n=>n,fun|9=>9|4=>4|3=>3|5=>5|117=>446|116=>445|0=>0|124=>449|21=>21|105=>334|46=>134|119=>397|139=>400|138=>399|n=>n,fun|3=>2|4=>3|n=>n⟩
def Tryz.lays160:Go.Proofs.Lays.n160 Tryz.prog Tryz.lays160_ren:={
 mixed:=by kernel_rfl
 f119:=c8 Tryz.func397
 f120:=c8 Tryz.func395
 f137:=c8 Tryz.func396
 f151:=c8 Tryz.func391
 f152:=c8 Tryz.func394
 f160:=c8 Tryz.func354
 f197:=c8 Tryz.func232
 f217:=c8 Tryz.func187
 f224:=c8 Tryz.func189
 f225:=c8 Tryz.func188
 f227:=c8 Tryz.func372
 f228:=c8 Tryz.func390
 f231:=c8 Tryz.func370
 f232:=c8 Tryz.func371
 f233:=c8 Tryz.func373
 f234:=c8 Tryz.func374
 f235:=c8 Tryz.func375
 f236:=c8 Tryz.func376
 f260:=c8 Tryz.func276
 f266:=c8 Tryz.func234
 f271:=c8 Tryz.func392
 t0:=Tryz.underlying0
 a0:=Tryz.isAgg0
 z0:=Tryz.sizeOf0
 v0:=Tryz.zeroValue0
 t3:=Tryz.underlying3
 a3:=Tryz.isAgg3
 z3:=Tryz.sizeOf3
 v3:=Tryz.zeroValue3
 t4:=Tryz.underlying4
 a4:=Tryz.isAgg4
 z4:=Tryz.sizeOf4
 v4:=Tryz.zeroValue4
 t5:=Tryz.underlying5
 a5:=Tryz.isAgg5
 z5:=Tryz.sizeOf5
 v5:=Tryz.zeroValue5
 t9:=Tryz.underlying9
 a9:=Tryz.isAgg9
 z9:=Tryz.sizeOf9
 v9:=Tryz.zeroValue9
 t21:=Tryz.underlying21
 a21:=Tryz.isAgg21
 z21:=Tryz.sizeOf21
 v21:=Tryz.zeroValue21
 t46:=Tryz.underlying134
 a46:=Tryz.isAgg134
 z46:=Tryz.sizeOf134
 v46:=Tryz.zeroValue134
 t105:=Tryz.underlying334
 a105:=Tryz.isAgg334
 z105:=Tryz.sizeOf334
 v105:=Tryz.zeroValue334
 t116:=Tryz.underlying445
 a116:=Tryz.isAgg445
 z116:=Tryz.sizeOf445
 t117:=Tryz.underlying446
 a117:=Tryz.isAgg446
 z117:=Tryz.sizeOf446
 v117:=Tryz.zeroValue446
 t119:=Tryz.underlying397
 a119:=Tryz.isAgg397
 z119:=Tryz.sizeOf397
 t124:=Tryz.underlying449
 a124:=Tryz.isAgg449
 z124:=Tryz.sizeOf449
 v124:=Tryz.zeroValue449
 t138:=Tryz.underlying399
 a138:=Tryz.isAgg399
 z138:=Tryz.sizeOf399
 v138:=Tryz.zeroValue399
 t139:=Tryz.underlying400
 a139:=Tryz.isAgg400
 z139:=Tryz.sizeOf400
 v139:=Tryz.zeroValue400
 g3:=by kernel_rfl
 g4:=by kernel_rfl}
open Go.RowKit in
theorem Tryz.strings_Trim_one (s:ByteArray)(c:UInt8)(hc:c.toNat<128)(w:World)(hs:s.size≤9223372036854775807):
  Calls Tryz.prog 354 #[.string s,.string ⟨#[c]⟩] w λe w'=>e=.returned (.string ⟨(Lib.trimB s.data.toList c).toArray⟩)∧(w'=w∨w'=w.drew):=Any.strings_Trim_one Tryz.lays160 s c hc w hs
def Tryz.lays103_ren:Go.Shelf.Ren:=⟨fun|103=>46|210=>91|206=>140|n=>n,fun|9=>9|4=>4|24=>124|3=>3|n=>n,fun|n=>n⟩
def Tryz.lays103:Go.Proofs.Lays.n103 Tryz.prog Tryz.lays103_ren:={
 mixed:=by kernel_rfl
 f103:=c8 Tryz.func46
 f206:=c8 Tryz.func140
 f210:=c8 Tryz.func91
 t3:=Tryz.underlying3
 a3:=Tryz.isAgg3
 z3:=Tryz.sizeOf3
 v3:=Tryz.zeroValue3
 t4:=Tryz.underlying4
 a4:=Tryz.isAgg4
 z4:=Tryz.sizeOf4
 v4:=Tryz.zeroValue4
 t9:=Tryz.underlying9
 a9:=Tryz.isAgg9
 z9:=Tryz.sizeOf9
 v9:=Tryz.zeroValue9
 t24:=Tryz.underlying124
 a24:=Tryz.isAgg124
 z24:=Tryz.sizeOf124
 v24:=Tryz.zeroValue124}
open Go.RowKit in
theorem Tryz.strings_CutPrefix (s p:ByteArray)(w:World):
  Calls Tryz.prog 46 #[.string s,.string p] w λe w'=>e=.returned (.tuple #[.string ⟨(Lib.trimPrefix s.data.toList p.data.toList).toArray⟩,.bool (Lib.hasPrefix s.data.toList p.data.toList)])∧w'=w:=Any.strings_CutPrefix Tryz.lays103 s p w
def Tryz.laysM171_ren:Go.Shelf.Ren:=⟨fun|171=>182|243=>228|246=>275|283=>312|284=>313|285=>314|286=>315|129=>338|317=>337|318=>339|319=>340|320=>341|337=>361|338=>362|n=>n,fun|3=>3|9=>9|2=>2|4=>4|171=>392|0=>0|53=>54|37=>67|5=>5|173=>395|212=>417|51=>336|20=>20|213=>418|46=>134|232=>451|233=>452|n=>n,fun|17=>4|18=>5|19=>6|n=>n⟩
def Tryz.laysM171:Go.Proofs.LaysM.n171 Tryz.prog Tryz.laysM171_ren:={
 mixed:=by kernel_rfl
 f129:=c8 Tryz.func338
 f171:=c8 Tryz.func182
 f243:=c8 Tryz.func228
 f246:=c8 Tryz.func275
 f283:=c8 Tryz.func312
 f284:=c8 Tryz.func313
 f285:=c8 Tryz.func314
 f286:=c8 Tryz.func315
 f317:=c8 Tryz.func337
 f318:=c8 Tryz.func339
 f319:=c8 Tryz.func340
 f320:=c8 Tryz.func341
 f337:=c8 Tryz.func361
 f338:=c8 Tryz.func362
 t0:=Tryz.underlying0
 a0:=Tryz.isAgg0
 z0:=Tryz.sizeOf0
 v0:=Tryz.zeroValue0
 t2:=Tryz.underlying2
 a2:=Tryz.isAgg2
 z2:=Tryz.sizeOf2
 v2:=Tryz.zeroValue2
 t3:=Tryz.underlying3
 a3:=Tryz.isAgg3
 z3:=Tryz.sizeOf3
 v3:=Tryz.zeroValue3
 t4:=Tryz.underlying4
 a4:=Tryz.isAgg4
 z4:=Tryz.sizeOf4
 v4:=Tryz.zeroValue4
 t5:=Tryz.underlying5
 a5:=Tryz.isAgg5
 z5:=Tryz.sizeOf5
 v5:=Tryz.zeroValue5
 t9:=Tryz.underlying9
 a9:=Tryz.isAgg9
 z9:=Tryz.sizeOf9
 v9:=Tryz.zeroValue9
 t20:=Tryz.underlying20
 a20:=Tryz.isAgg20
 z20:=Tryz.sizeOf20
 v20:=Tryz.zeroValue20
 t37:=Tryz.underlying67
 a37:=Tryz.isAgg67
 z37:=Tryz.sizeOf67
 v37:=Tryz.zeroValue67
 t46:=Tryz.underlying134
 a46:=Tryz.isAgg134
 z46:=Tryz.sizeOf134
 v46:=Tryz.zeroValue134
 t51:=Tryz.underlying336
 a51:=Tryz.isAgg336
 z51:=Tryz.sizeOf336
 v51:=Tryz.zeroValue336
 t53:=Tryz.underlying54
 a53:=Tryz.isAgg54
 z53:=Tryz.sizeOf54
 v53:=Tryz.zeroValue54
 t171:=Tryz.underlying392
 a171:=Tryz.isAgg392
 z171:=Tryz.sizeOf392
 v171:=Tryz.zeroValue392
 t173:=Tryz.underlying395
 a173:=Tryz.isAgg395
 z173:=Tryz.sizeOf395
 v173:=Tryz.zeroValue395
 t212:=Tryz.underlying417
 a212:=Tryz.isAgg417
 z212:=Tryz.sizeOf417
 v212:=Tryz.zeroValue417
 t213:=Tryz.underlying418
 a213:=Tryz.isAgg418
 z213:=Tryz.sizeOf418
 t232:=Tryz.underlying451
 a232:=Tryz.isAgg451
 z232:=Tryz.sizeOf451
 v232:=Tryz.zeroValue451
 t233:=Tryz.underlying452
 a233:=Tryz.isAgg452
 z233:=Tryz.sizeOf452
 v233:=Tryz.zeroValue452
 g17:=by kernel_rfl
 g18:=by kernel_rfl
 g19:=by kernel_rfl
 i0:=by kernel_rfl
 i2:=by kernel_rfl
 i3:=by kernel_rfl
 i4:=by kernel_rfl
 i5:=by kernel_rfl
 i9:=by kernel_rfl
 i20:=by kernel_rfl
 i37:=by kernel_rfl
 i46:=by kernel_rfl
 i51:=by kernel_rfl
 i53:=by kernel_rfl
 i171:=by kernel_rfl
 i173:=by kernel_rfl
 i212:=by kernel_rfl
 i232:=by kernel_rfl
 i233:=by kernel_rfl
 m17:=by kernel_rfl
 m18:=by kernel_rfl
 m19:=by kernel_rfl}
open Go.RowKit Go.Sort Go.Lib in
theorem Tryz.strconv_Itoa (n:Int)(h0:-9223372036854775808≤n)(h1:n≤9223372036854775807)(w:World)(htab:Lib.TabIs Tryz.prog w "internal/strconv.uint64pow10" .u64 Lib.pow10Tab):
  Calls Tryz.prog 182 #[.int .i64 n] w λe w'=>e=.returned (.string ⟨(Lib.itoa n).toArray⟩)∧∃k os,w'=grow (w.drewN k) os:=Any.strconv_Itoa Tryz.laysM171 n h0 h1 w htab
def Tryz.lays144_ren:Go.Shelf.Ren:=⟨fun|144=>47|143=>92|219=>141|217=>187|225=>188|224=>189|267=>190|266=>234|314=>235|n=>n,fun|9=>9|4=>4|3=>3|5=>5|46=>134|146=>337|51=>336|n=>n,fun|1=>0|n=>n⟩
def Tryz.lays144:Go.Proofs.Lays.n144 Tryz.prog Tryz.lays144_ren:={
 mixed:=by kernel_rfl
 f143:=c8 Tryz.func92
 f144:=c8 Tryz.func47
 f217:=c8 Tryz.func187
 f219:=c8 Tryz.func141
 f224:=c8 Tryz.func189
 f225:=c8 Tryz.func188
 f266:=c8 Tryz.func234
 f267:=c8 Tryz.func190
 f314:=c8 Tryz.func235
 t3:=Tryz.underlying3
 a3:=Tryz.isAgg3
 z3:=Tryz.sizeOf3
 v3:=Tryz.zeroValue3
 t4:=Tryz.underlying4
 a4:=Tryz.isAgg4
 z4:=Tryz.sizeOf4
 v4:=Tryz.zeroValue4
 t5:=Tryz.underlying5
 a5:=Tryz.isAgg5
 z5:=Tryz.sizeOf5
 v5:=Tryz.zeroValue5
 t9:=Tryz.underlying9
 a9:=Tryz.isAgg9
 z9:=Tryz.sizeOf9
 v9:=Tryz.zeroValue9
 t46:=Tryz.underlying134
 a46:=Tryz.isAgg134
 z46:=Tryz.sizeOf134
 v46:=Tryz.zeroValue134
 t51:=Tryz.underlying336
 a51:=Tryz.isAgg336
 z51:=Tryz.sizeOf336
 v51:=Tryz.zeroValue336
 t146:=Tryz.underlying337
 a146:=Tryz.isAgg337
 z146:=Tryz.sizeOf337
 v146:=Tryz.zeroValue337
 g1:=by kernel_rfl}
open Go.RowKit Go.Lib in
theorem Tryz.strings_Contains (s sub:ByteArray)(m:Int)(w:World)(hs:s.size<4294967281)(hm:w.cell? ⟨0,0,none⟩=some (.int .i64 m)):
  Calls Tryz.prog 47 #[.string s,.string sub] w λe w'=>e=.returned (.bool (Lib.contains s.data.toList sub.data.toList))∧w'=w:=Any.strings_Contains Tryz.lays144 s sub m w hs hm
def Tryz.lays145_ren:Go.Shelf.Ren:=⟨fun|145=>88|220=>138|219=>141|217=>187|225=>188|224=>189|267=>190|266=>234|314=>235|n=>n,fun|9=>9|4=>4|59=>192|3=>3|5=>5|46=>134|146=>337|51=>336|n=>n,fun|1=>0|n=>n⟩
def Tryz.lays145:Go.Proofs.Lays.n145 Tryz.prog Tryz.lays145_ren:={
 mixed:=by kernel_rfl
 f145:=c8 Tryz.func88
 f217:=c8 Tryz.func187
 f219:=c8 Tryz.func141
 f220:=c8 Tryz.func138
 f224:=c8 Tryz.func189
 f225:=c8 Tryz.func188
 f266:=c8 Tryz.func234
 f267:=c8 Tryz.func190
 f314:=c8 Tryz.func235
 t3:=Tryz.underlying3
 a3:=Tryz.isAgg3
 z3:=Tryz.sizeOf3
 v3:=Tryz.zeroValue3
 t4:=Tryz.underlying4
 a4:=Tryz.isAgg4
 z4:=Tryz.sizeOf4
 v4:=Tryz.zeroValue4
 t5:=Tryz.underlying5
 a5:=Tryz.isAgg5
 z5:=Tryz.sizeOf5
 v5:=Tryz.zeroValue5
 t9:=Tryz.underlying9
 a9:=Tryz.isAgg9
 z9:=Tryz.sizeOf9
 v9:=Tryz.zeroValue9
 t46:=Tryz.underlying134
 a46:=Tryz.isAgg134
 z46:=Tryz.sizeOf134
 v46:=Tryz.zeroValue134
 t51:=Tryz.underlying336
 a51:=Tryz.isAgg336
 z51:=Tryz.sizeOf336
 v51:=Tryz.zeroValue336
 t59:=Tryz.underlying192
 a59:=Tryz.isAgg192
 z59:=Tryz.sizeOf192
 v59:=Tryz.zeroValue192
 t146:=Tryz.underlying337
 a146:=Tryz.isAgg337
 z146:=Tryz.sizeOf337
 v146:=Tryz.zeroValue337
 g1:=by kernel_rfl}
open Go.RowKit Go.Lib in
theorem Tryz.strings_Cut (s sep:ByteArray)(m:Int)(w:World)(hs:s.size<4294967281)(hm:w.cell? ⟨0,0,none⟩=some (.int .i64 m)):
  Calls Tryz.prog 88 #[.string s,.string sep] w λe w'=>e=.returned (.tuple #[.string ⟨(Lib.cut s.data.toList sep.data.toList).1.toArray⟩,.string ⟨(Lib.cut s.data.toList sep.data.toList).2.1.toArray⟩,.bool (Lib.cut s.data.toList sep.data.toList).2.2])∧∃n,w'=w.drewN n:=Any.strings_Cut Tryz.lays145 s sep m w hs hm
def Tryz.lays146_ren:Go.Shelf.Ren:=⟨fun|146=>89|221=>139|268=>185|138=>186|143=>92|195=>231|197=>232|218=>233|219=>141|260=>276|217=>187|225=>188|224=>189|267=>190|266=>234|314=>235|n=>n,fun|9=>9|31=>55|3=>3|4=>4|0=>0|105=>334|21=>21|5=>5|46=>134|119=>397|139=>400|138=>399|146=>337|51=>336|n=>n,fun|1=>0|3=>2|4=>3|n=>n⟩
def Tryz.lays146:Go.Proofs.Lays.n146 Tryz.prog Tryz.lays146_ren:={
 mixed:=by kernel_rfl
 f138:=c8 Tryz.func186
 f143:=c8 Tryz.func92
 f146:=c8 Tryz.func89
 f195:=c8 Tryz.func231
 f197:=c8 Tryz.func232
 f217:=c8 Tryz.func187
 f218:=c8 Tryz.func233
 f219:=c8 Tryz.func141
 f221:=c8 Tryz.func139
 f224:=c8 Tryz.func189
 f225:=c8 Tryz.func188
 f260:=c8 Tryz.func276
 f266:=c8 Tryz.func234
 f267:=c8 Tryz.func190
 f268:=c8 Tryz.func185
 f314:=c8 Tryz.func235
 t0:=Tryz.underlying0
 a0:=Tryz.isAgg0
 z0:=Tryz.sizeOf0
 v0:=Tryz.zeroValue0
 t3:=Tryz.underlying3
 a3:=Tryz.isAgg3
 z3:=Tryz.sizeOf3
 v3:=Tryz.zeroValue3
 t4:=Tryz.underlying4
 a4:=Tryz.isAgg4
 z4:=Tryz.sizeOf4
 v4:=Tryz.zeroValue4
 t5:=Tryz.underlying5
 a5:=Tryz.isAgg5
 z5:=Tryz.sizeOf5
 v5:=Tryz.zeroValue5
 t9:=Tryz.underlying9
 a9:=Tryz.isAgg9
 z9:=Tryz.sizeOf9
 v9:=Tryz.zeroValue9
 t21:=Tryz.underlying21
 a21:=Tryz.isAgg21
 z21:=Tryz.sizeOf21
 v21:=Tryz.zeroValue21
 t31:=Tryz.underlying55
 a31:=Tryz.isAgg55
 z31:=Tryz.sizeOf55
 v31:=Tryz.zeroValue55
 t46:=Tryz.underlying134
 a46:=Tryz.isAgg134
 z46:=Tryz.sizeOf134
 v46:=Tryz.zeroValue134
 t51:=Tryz.underlying336
 a51:=Tryz.isAgg336
 z51:=Tryz.sizeOf336
 v51:=Tryz.zeroValue336
 t105:=Tryz.underlying334
 a105:=Tryz.isAgg334
 z105:=Tryz.sizeOf334
 v105:=Tryz.zeroValue334
 t119:=Tryz.underlying397
 a119:=Tryz.isAgg397
 z119:=Tryz.sizeOf397
 t138:=Tryz.underlying399
 a138:=Tryz.isAgg399
 z138:=Tryz.sizeOf399
 v138:=Tryz.zeroValue399
 t139:=Tryz.underlying400
 a139:=Tryz.isAgg400
 z139:=Tryz.sizeOf400
 v139:=Tryz.zeroValue400
 t146:=Tryz.underlying337
 a146:=Tryz.isAgg337
 z146:=Tryz.sizeOf337
 v146:=Tryz.zeroValue337
 g1:=by kernel_rfl
 g3:=by kernel_rfl
 g4:=by kernel_rfl}
open Go.RowKit Go.Lib in
theorem Tryz.strings_Split (s sep:ByteArray)(m:Int)(w:World)(hs:s.size<4294967281)(hm:w.cell? ⟨0,0,none⟩=some (.int .i64 m))(h1:1≤sep.size):
  Calls Tryz.prog 89 #[.string s,.string sep] w λe w'=>
   e=.returned (.slice (some ⟨w.heap.size,0,none⟩) (Lib.countB s sep+1) (Lib.countB s sep+1))∧w'=w.alloc (.cells ((Lib.splitB sep 0 (Lib.countB s sep) s).map Value.string).toArray 9):=Any.strings_Split Tryz.lays146 (by kernel_rfl) s sep m w hs hm h1
end Go.Proofs
namespace Go.Abs
variable{args:Array Value}{w:World}{x:X}{t:List UInt8}{U:TypeId}{b fid l:Nat}
def pre1 (b c:UInt8)(r:av):([b]:av).isPrefixOf (c::r)=(b==c):=by simp[List.isPrefixOf]
def ixO:Option Nat->Int
 |some k=>(k:Int)
 |none=>-1
theorem CZ:∀(s:av) (b:UInt8),Lib.index s [b]=ixO (s.findIdx? (λc=>c==b))
 |[],b=>rfl
 |c::r,b=>by
  unfold Lib.index;rw[pre1,List.findIdx?_cons,CZ r b];by_cases h:c=b
  .subst h;simp[ixO]
  .have h1:(b==c)=false:=by simp[Ne.symm h]
   have h2:(c==b)=false:=by simp[h]
   simp only[h1,h2,ib,a8];cases r.findIdx? (λc=>c==b)with
   |none=>rfl
   |some k=>
    grind [ixO]
theorem ah6 (s:av)(b:UInt8):Lib.cut s [b]=o9 s b:=by
 unfold Lib.cut o9
 grind [CZ,ixO]
theorem contains_eq (s:av)(b:UInt8):Lib.contains s [b]=s.contains b:=by
 unfold Lib.contains;rw[CZ];rw[Bool.eq_iff_iff];cases h:s.findIdx? (λc=>c==b)with
 |none=>
  grind [ixO]
 |some k=>
  grind [ixO]
theorem TW (s p:av):(Lib.trimPrefix s p,Lib.hasPrefix s p)=dp s p:=by
 unfold Lib.trimPrefix Lib.hasPrefix dp
 grind
def Ma (b:av):∀l,b6 b l=Lib.join l b
 |[]=>rfl
 |[t]=>(Lib.join_one t b).symm
 |t::u::r=>by
  rw[nX _ _ _ aF,Ma b (u::r),Lib.join_cons,Lib.join_cons];simp[Lib.joinTail]
def decDigits_eq (n:Nat):Lib.decDigits n=nO n:=by
 induction n using Nat.strongRecOn with
 |_ n ih=>
  rw[Lib.decDigits];by_cases h:n<10
  .rw[dif_pos h,BJ h];rfl
  .rw[dif_neg h,BI ae,ih (n/10) ae];rfl
def adP {n:Int}(h:0<=n):Lib.itoa n=nO n.toNat:=by
 unfold Lib.itoa;rw[ai ae,decDigits_eq]
def GM (b:UInt8):∀(s cur:av),s.findIdx? (λc=>c==b)=none->fD b.toNat s cur=[cur++s]
 |[],cur,_=>by simp[fD]
 |c::r,cur,h=>by
  rw[List.findIdx?_cons]at h;split at h
  .cases h
  .rename_i hc;have hr:r.findIdx? (λc=>c==b)=none:=by
    cases hq:r.findIdx? (λc=>c==b)with
    |none=>rfl
    |some k=>rw[hq]at h;cases h
   have hne:¬((c.toNat:Int)=(b.toNat:Int)):=λe=>hc (by
    have:c.toNat=b.toNat:=ae;simp[pB.1 this])
   simp only[fD,ai hne];rw[GM b r (cur++[c]) hr];simp
theorem Ei (b:UInt8):∀(s cur:av) (k:Nat),s.findIdx? (λc=>c==b)=some k->fD b.toNat s cur=(cur++s.take k)::fD b.toNat (s.drop (k+1)) []
 |[],cur,k,h=>by simp at h
 |c::r,cur,k,h=>by
  rw[List.findIdx?_cons]at h;split at h
  .grind [fD]
  .rename_i hc;have hne:¬((c.toNat:Int)=(b.toNat:Int)):=λe=>hc (by
    have:c.toNat=b.toNat:=ae;simp[pB.1 this])
   cases hq:r.findIdx? (λc=>c==b)with
   |none=>rw[hq]at h;cases h
   |some j=>
    rw[hq]at h;have hk:k=j+1:=by simpa using h.symm
    subst hk;simp only[fD,ai hne];rw[Ei b r (cur++[c]) j hq];simp
def Vy (b:UInt8):∀(k:Nat) (s:ByteArray),Lib.countB s ⟨⟨[b]⟩⟩=k->(Lib.splitB ⟨⟨[b]⟩⟩ 0 k s).map (λt=>t.data.toList)=aQ s.data.toList b.toNat:=by
 intro k;induction k with
 |zero=>
  intro s h;rw[Lib.splitB_zero];have hi:Lib.indexB s ⟨⟨[b]⟩⟩=ixO (s.data.toList.findIdx? (λc=>c==b)):=CZ _ b;cases hq:s.data.toList.findIdx? (λc=>c==b)with
  |none=>simp[aQ,GM b _ [] hq]
  |some j=>
   rw[hq]at hi;have:=Lib.countB_hit s ⟨⟨[b]⟩⟩ j (aT 1) hi;omega
 |succ k ih=>
  intro s h;have hi:Lib.indexB s ⟨⟨[b]⟩⟩=ixO (s.data.toList.findIdx? (λc=>c==b)):=CZ _ b;cases hq:s.data.toList.findIdx? (λc=>c==b)with
  |none=>
   rw[hq]at hi;have:=Lib.countB_miss s ⟨⟨[b]⟩⟩ hi;omega
  |some j=>
   rw[hq]at hi;have h1:1<=(⟨⟨[b]⟩⟩:ByteArray).size:=aT 1;have hc:=Lib.countB_hit s ⟨⟨[b]⟩⟩ j h1 hi;rw[Lib.splitB_hit _ _ _ _ j hi];simp only[List.map_cons];rw[ih _ ae];have e1:(s.extract 0 (j+0)).data.toList=s.data.toList.take j:=by
    rw[Lib.extract_data];simp
   have e2:(s.extract (j+(⟨⟨[b]⟩⟩:ByteArray).size) s.size).data.toList=s.data.toList.drop (j+1):=by
    rw[Lib.extract_data];exact fE (by rw[iQ,Lib.size_eq];exact aT _)
   rw[e1,e2];simp only[aQ];rw[Ei b _ [] j hq];simp
section
open Go.Proofs
theorem pre2 (c d:UInt8)(r:av):([124,124]:av).isPrefixOf (c::d::r)=(decide (c=124)&&decide (d=124)):=by
 grind
theorem GJ:∀(s cur:av),Lib.index s [124,124]=-1->jh s cur=[cur++s]
 |[],cur,_=>by simp[jh]
 |[c],cur,_=>rfl
 |c::d::r,cur,h=>by
  unfold Lib.index at h;rw[pre2]at h;by_cases h2:c=124/\d=124
  .simp[h2.1,h2.2]at h
  .have h3:(decide (c=124)&&decide (d=124))=false:=by rw[<-Bool.decide_and];exact bB h2
   rw[h3,ai aF]at h;have h4:Lib.index (d::r) [124,124]=-1:=by
    have:=Lib.index_ge (d::r) [124,124]
    grind
   rw[jh,ai h2,GJ (d::r) _ h4];simp
def GH:∀(s cur:av) (i:Nat),Lib.index s [124,124]=i->jh s cur=(cur++s.take i)::jh (s.drop (i+2)) []
 |[],cur,i,h=>by simp[Lib.index]at h
 |[c],cur,i,h=>by simp[Lib.index,List.isPrefixOf]at h
 |c::d::r,cur,i,h=>by
  unfold Lib.index at h;rw[pre2]at h;by_cases h2:c=124/\d=124
  .rw[h2.1,h2.2]at h;have hi:i=0:=by simp at h;omega
   subst hi;rw[jh,ak h2];simp
  .have h3:(decide (c=124)&&decide (d=124))=false:=by rw[<-Bool.decide_and];exact bB h2
   rw[h3,ai aF]at h;split at h
   .omega
   .obtain⟨j,rfl⟩:∃j,i=j+1:=⟨i-1,by
     have:=Lib.index_ge (d::r) [124,124];rename_i h5;have:Lib.index (d::r) [124,124]≠-1:=λe=>h5 (beq_iff_eq.2 e)
     omega⟩
    rw[jh,ai h2,GH (d::r) _ j ae];simp
theorem Vz:∀(k:Nat) (s:ByteArray),Lib.countB s ⟨⟨[124,124]⟩⟩=k->(Lib.splitB ⟨⟨[124,124]⟩⟩ 0 k s).map (λt=>t.data.toList)=jh s.data.toList []:=by
 intro k;induction k with
 |zero=>
  intro s h;rcases Lib.indexB_cases s ⟨⟨[124,124]⟩⟩with hi|⟨i,hi,_⟩
  .rw[Lib.splitB_zero]
   grind [GJ]
  .have:=Lib.countB_hit s ⟨⟨[124,124]⟩⟩ i a7 hi;omega
 |succ k ih=>
  intro s h;rcases Lib.indexB_cases s ⟨⟨[124,124]⟩⟩with hi|⟨i,hi,_⟩
  .rw[Lib.countB_miss _ _ hi]at h;omega
  .have hc:=Lib.countB_hit s ⟨⟨[124,124]⟩⟩ i a7 hi;rw[Lib.splitB_hit _ _ _ _ i hi,List.map_cons,ih _ ae,GH _ _ i (show Lib.index s.data.toList [124,124]=i from hi),Lib.extract_from_zero,Lib.extract_to_end];rfl
def GR {p:UInt8->Bool}:∀(l:av),∀x∈l.takeWhile p,p x=true
 |[],x,h=>by cases h
 |a::r,x,h=>by
  rw[List.takeWhile_cons]at h;split at h
  .rename_i ha;rcases bU.1 h with rfl|h
   .exact ha
   .exact GR r x h
  .cases h
theorem yO {p:UInt8->Bool}:∀(l:av),(∀x∈l,p x=true)->l.dropWhile p=[]
 |[],_=>rfl
 |a::r,h=>by
  rw[List.dropWhile_cons,ak (h a (.head _))];exact yO r λx hx=>h x (.tail _ hx)
def Ck:∀s,zZ s=s.dropWhile (· ==32)
 |[]=>rfl
 |c::r=>by
  unfold zZ;by_cases h:c=32
  .rw[ak h,Ck r];simp[h]
  .rw[ai h,List.dropWhile_cons,ai rA]
theorem WJ (s:av):Lib.trimB s 32=Cl s:=by
 unfold Lib.trimB Lib.trimLeftB Lib.trimRightB Cl;rw[Ck,Ck];generalize hp:(λc:UInt8=>c==32)=p;have hs:s=s.takeWhile p++s.dropWhile p:=(List.takeWhile_append_dropWhile).symm;generalize ha:s.takeWhile p=a at hs;generalize hm:s.dropWhile p=m at hs;have hall:∀x∈a,p x=true:=by rw[<-ha];exact GR s
 subst hs;rw[List.reverse_append,List.dropWhile_append];cases m with
 |nil=>
  grind [yO]
 |cons c r=>
  have hc:p c=false:=by
   have:=List.head_dropWhile_not p (l:=a++c::r) (by rw[hm];simp);simpa[hm]using this
  have hne:((c::r).reverse.dropWhile p)≠[]:=by
   rw[List.reverse_cons,List.dropWhile_append];split
   .simp[hc]
   .simp
  rw[ai (by simpa using hne),List.reverse_append,List.reverse_reverse,List.dropWhile_append,yO _ hall];simp only[List.isEmpty_nil,bo];rw[List.reverse_cons,List.dropWhile_append];split
  .simp[hc]
  .simp[hc]
def yG:∀s,(zZ s).length<=s.length
 |[]=>aT _
 |c::r=>by
  unfold zZ;split
  .have:=yG r;simp only[bH];omega
  .exact aT _
end
section
open Go.Proofs Go.Shelf Go.RowKit
section
variable [cI]{P:Program}
def mT (U:TypeId)(w:World)(v:Value)(s:List UInt8):Prop:=
 (v=.slice none 0 0/\s=[])\/∃g t c,v=.slice (some ⟨g,0,none⟩) s.length t/\w.heap[g]? =some (.cells c U (0,0))/\c.size=t/\t<=maxLen/\s.length<=t/\∀i,i<s.length->c.getD i undef=.int .u8 (s.getD i 0).toNat
def iu (s:List UInt8):List Value:=s.map λb=>Value.int .u8 b.toNat
def jd (s:List UInt8):(iu s).length=s.length:=by simp[iu]
theorem vC (s:List UInt8)(i:Nat)(h:i<s.length):(iu s).getD i undef=.int .u8 (s.getD i 0).toNat:=by simp[iu,List.getD,h]
def Cn (s:List UInt8):∀u∈iu s,u.oneCell'=true:=by
 intro u hu;obtain⟨b,_,rfl⟩:=ch.1 hu;rfl
theorem Sm {x y:List UInt8}{zs:Array Value}(i:Nat)(hi:i<(x++y).length):(((iu x++iu y).toArray++zs).getD i undef)=.int .u8 ((x++y).getD i 0).toNat:=by
 rw[<-bL]
 grind [cS,iu,vC]
def acq {t u ty:TypeId}{i:TypeInfo}(ht:P.underlying t=some (.slice U))(hi:P.info? U=some i)(hz:i.zero=some (.int .u8 0))(hs:i.size=1)(hby:i.bytes=1){v xv:Value}{s s2:List UInt8}(hv:mT U w v s)(h0:s2≠[])(hsrc:Go.Src P 1 u xv s2.length (iu s2) w)(hle:s.length+s2.length<=1099511627776):
  ∃g' t' w',(Builtin.append_ #[t,u] ty #[v,xv]).run P w=.ok (.slice (some ⟨g',0,none⟩) (s++s2).length t') w'/\mT U w' (.slice (some ⟨g',0,none⟩) (s++s2).length t') (s++s2)/\w.grownBy w' v.ownBlock/\(v.ownBlock=some g'\/w.heap.size<=g')/\g'<w'.heap.size:=by
 have hp:0<s2.length:=List.length_pos_iff.2 h0;have hm:maxLen=9223372036854775807:=rfl;rw[<-hs]at hsrc;rcases hv with⟨rfl,rfl⟩|⟨g,cap,c,rfl,hg,hcs,hcm,hle2,hc⟩
 .have hr:=run_append_grow_src (P:=P) w t u ty U i _ ht hi hz none 0 0 [] (by simp[Builtin.firstCells,loadCells,loadCellsFrom]) xv s2.length (iu s2) hsrc ae (by simp only[b7]at hle;omega) (by rw[hby];exact growslice_fits ae (by simp only[b7]at hle;omega));have hge:=grownCap_ge w (0+s2.length) 0 U;have hcm2:grownCap w (0+s2.length) 0 U<=maxLen:=grownCap_le_maxLen w (0+s2.length) 0 U (by simp only[b7]at hle;omega);simp only[cL,pA]at hr hge hcm2;refine⟨w.heap.size,_,_,hr,.inr ⟨w.heap.size,_,_,rfl,dV w.drew _, ?_,hcm2,hge,λj hj=>?_⟩,⟨rfl,rfl,rfl, ?_,λk hk _=>lU w.drew _ k hk⟩,.inr (aT _), ?_⟩
  .have hz1:(Value.int IntKind.u8 0).cells.size=1:=rfl;simp only[pA,Array.size_append,List.size_toArray,jd,size_zeroCells,hz1];omega
  .exact Sm (x:=[]) j hj
  .show w.heap.size<=(w.drew.heap.push _).size;rw[Array.size_push];exact Nat.le_succ _
  .show w.heap.size<(w.drew.heap.push _).size;rw[Array.size_push];exact Nat.lt_succ_self _
 .by_cases hroom:s.length+s2.length<=cap
  .have hr:=run_append_room_src (P:=P) w t u ty U i ht hi g 0 s.length cap xv s2.length (iu s2) hsrc hroom (λj hj=>by
    rw[hs,cell_of_heap hg (by rw[jd]at hj;omega)];rfl) (λj hj=>by simp[World.frozen?,hg])
   obtain⟨c',s1,s3,s4⟩:=lW g (iu s2) (0+s.length*i.size) w c U (0,0) hg (by rw[jd,hs];omega);obtain⟨f1,f2,f3,f4⟩:=kV g (iu s2) (0+s.length*i.size) w;have hlt:g<w.heap.size:=by
    rcases dZ g w.heap.size with h|h
    .exact h
    .simp[Array.getElem?_eq_none h]at hg
   refine⟨g,cap,_,by simpa using hr,.inr ⟨g,cap,c',aF,s1,ae,hcm,by rw[bV];exact hroom,λj hj=>?_⟩,⟨f1,f2,f3,ae,λk _ hk=>kW g _ _ _ k (λe=>hk (by simp[Value.ownBlock,e]))⟩,.inl rfl,ae⟩;rw[s4,jd,hs];rw[bV]at hj;by_cases hj2:j<s.length
   .rw[ai ae,hc j hj2,cS,ak hj2]
   .rw[ak ae,vC _ _ ae,cS,ai hj2];congr 4;omega
  .have hold:(Builtin.firstCells i.size s.length (.slice (some ⟨g,0,none⟩) s.length cap)).run P w.drew=.ok (iu s).toArray w.drew:=by
    refine run_firstCells_some w.drew i.size s.length _ s.length cap _ (by simp[jd,hs]) (λj u' hj=>?_);have hj2:j<s.length:=by
     have:=(List.getElem?_eq_some_iff.1 hj).1;rwa [jd]at this
    have hg':w.drew.heap[g]? =some (.cells c U (0,0)):=hg;rw[Addr.A9,cell_of_heap hg' ae,cL,hc j hj2,<-vC s j hj2];simp[List.getD,hj]
   have hr:=run_append_grow_src (P:=P) w t u ty U i _ ht hi hz (some ⟨g,0,none⟩) s.length cap (iu s) hold xv s2.length (iu s2) hsrc ae ae (by rw[hby];exact growslice_fits ae ae);have hge:=grownCap_ge w (s.length+s2.length) cap U;have hcm2:grownCap w (s.length+s2.length) cap U<=maxLen:=grownCap_le_maxLen w (s.length+s2.length) cap U ae;refine⟨w.heap.size,_,_,by simpa using hr,.inr ⟨w.heap.size,_,_,aF,dV w.drew _, ?_,hcm2,by simpa using hge,λj hj=>?_⟩,⟨rfl,rfl,rfl, ?_,λk hk _=>lU w.drew _ k hk⟩,.inr (aT _), ?_⟩
   .have hz1:(Value.int IntKind.u8 0).cells.size=1:=rfl;simp only[Array.size_append,List.size_toArray,bV,jd,size_zeroCells,hz1];omega
   .exact Sm j hj
   .show w.heap.size<=(w.drew.heap.push _).size;rw[Array.size_push];exact Nat.le_succ _
   .show w.heap.size<(w.drew.heap.push _).size;rw[Array.size_push];exact Nat.lt_succ_self _
def ED {ops:Array Oper}{rest:List Oper}{o:Oper}{a:Act}{Q:Exit->Act->World->Prop}(hgd:o.guard=none)(sl x:Operand)(t u:TypeId)(ho:o.op=.call {callee:=.builtin .append,args:=#[sl,x],argTypes:=#[t,u]}){i:TypeInfo}(ht:P.underlying t=some (.slice U))(hi:P.info? U=some i)(hz:i.zero=some (.int .u8 0))(hsz:i.size=1)(hby:i.bytes=1){v xv:Value}{s s2:List UInt8}(hs:a.eval sl=v)(hx:a.eval x=xv)(hv:mT U w v s)(h0:s2≠[])(hsrc:Go.Src P 1 u xv s2.length (iu s2) w)(hle:s.length+s2.length<=1099511627776)(h:∀g' t' w',mT U w' (.slice (some ⟨g',0,none⟩) (s++s2).length t') (s++s2)->w.grownBy w' v.ownBlock->(v.ownBlock=some g'\/w.heap.size<=g')->g'<w'.heap.size->wpList P ops Q rest (a.put o.dst (.slice (some ⟨g',0,none⟩) (s++s2).length t')) w'):wpList P ops Q (o::rest) a w:=by
 refine wpList_plain hgd λK hK=>?_
 obtain⟨g',t',w',hr,h2,h3,h4,h5⟩:=acq (P:=P) (ty:=o.type) ht hi hz hsz hby hv h0 hsrc hle;unfold Oper.wp execOp;simp only[ho,resolve,invoke,builtin,Sem.run_bind,Sem.run_pure,Result.andThen_ok,List.map_toArray,List.map_cons,List.map_nil,hs,hx,hr];exact hK _ _ (h g' t' w' h2 h3 h4 h5)
def O5 (w:World)(g n:Nat):(w.drew.freeze ⟨g,0,none⟩ n).os=w.os/\(w.drew.freeze ⟨g,0,none⟩ n).tape=w.tape/\(w.drew.freeze ⟨g,0,none⟩ n).output=w.output/\(w.drew.freeze ⟨g,0,none⟩ n).heap.size=w.heap.size/\∀k,k≠g->(w.drew.freeze ⟨g,0,none⟩ n).heap[k]? =w.heap[k]? :=by
 unfold World.freeze;split
 .exact⟨rfl,rfl,rfl,rfl,λ_ _=>rfl⟩
 .refine⟨rfl,rfl,rfl,aF,λk hk=>?_⟩;simp only[Array.getElem?_modify];rw[ai (λe=>hk e.symm)];rfl
def uH (b:Nat)(u:Bool)(v:Value)(T:TypeId):Obj:=.cells #[.pointer (if u=true then some ⟨b,0,none⟩else none),v] T (0,0)
variable {J:Ren}
def FL (L:Lays.n240 P J)(X:Builder.X72 P J){u:Bool}{v:Value}(h:w.heap[b]? =some (uH b u v (J.t 72))):
  Calls P (J.f 240) #[.pointer (some ⟨b,0,none⟩)] w λe w'=>e=.returned (.tuple #[])/\w'.heap[b]? =some (uH b true v (J.t 72))/\w.grownBy w' (some b):=by
 unfold uH at h;cases u with
 |true=>
  refine(Any.Builder_copyCheck_used L X b w (by rw[Lib.cell_of_heap h];rfl)).mono ?_;rintro e w' ⟨rfl,rfl⟩;exact⟨rfl,h,⟨rfl,rfl,rfl,aT _,λ_ _ _=>rfl⟩⟩
 |false=>
  refine(Any.Builder_copyCheck_fresh L X b w (by rw[Lib.cell_of_heap h];rfl) (by simp[World.shape?,h]) (Lib.frozen_of_heap h 0)).mono ?_;rintro e w' ⟨rfl,rfl⟩;exact⟨rfl,by simp[World.setCell,Array.getElem?_modify,h,uH],⟨rfl,rfl,rfl,by simp[World.setCell],λk _ hk=>Below.heap_setCell _ _ _ _ (λe=>hk (by simp[e]))⟩⟩
def Lq (T U:TypeId)(b:Nat)(g:Option Nat)(s:List UInt8)(w w':World):Prop:=
 ∃g' t',w'.heap[b]? =some (uH b true (.slice (some ⟨g',0,none⟩) s.length t') T)/\mT U w' (.slice (some ⟨g',0,none⟩) s.length t') s/\(g=some g'\/w.heap.size<=g')/\g'<w'.heap.size/\g'≠b/\
  w'.os=w.os/\w'.tape=w.tape/\w'.output=w.output/\w.heap.size<=w'.heap.size/\∀k,k<w.heap.size->k≠b->some k≠g->w'.heap[k]? =w.heap[k]?
def mT.pg {w':World}{v:Value}{s:List UInt8}(h:mT U w v s)(hk:∀g,v.ownBlock=some g->w'.heap[g]? =w.heap[g]?):mT U w' v s:=by
 rcases h with h|⟨g,t,c,rfl,hg,r⟩
 .exact .inl h
 .exact .inr ⟨g,t,c,rfl,(hk g rfl).trans hg,r⟩
theorem mT.lt {v:Value}{s:List UInt8}(h:mT U w v s){g:Nat}(hg:v.ownBlock=some g):g<w.heap.size/\∃c,w.heap[g]? =some (.cells c U (0,0)):=by
 rcases h with⟨rfl,_⟩|⟨g',t,c,rfl,hg',r⟩
 .cases hg
 .simp only[Value.ownBlock,aC]at hg
  grind
set_option maxHeartbeats 2000000 in
set_option maxRecDepth 100000 in
theorem Bb (L:Lays.n166 P J)(X:Builder.Extra P J){u:Bool}{v:Value}{s s2:List UInt8}(h:w.heap[b]? =some (uH b u v (J.t 72)))(hv:mT (J.t 5) w v s)(h0:s2≠[])(hm2:s2.length<=maxLen)(hle:s.length+s2.length<=1099511627776):
  Calls P (J.f 166) #[.pointer (some ⟨b,0,none⟩),.string ⟨⟨s2⟩⟩] w λe w'=>(∃r,e=.returned r)/\Lq (J.t 72) (J.t 5) b v.ownBlock (s++s2) w w':=by
 obtain⟨i0,hi,hz0,hz1,hz2⟩:=info_parts X.infoByte;have mixed:=L.mixed;have t72:=L.t72;have a72:=L.a72;have z72:=L.z72;have v72:=L.v72;have u72:=run_underlying L.t72;have t70:=L.t70;have a70:=L.a70;have z70:=L.z70;have v70:=L.v70;have u70:=run_underlying L.t70;have t37:=L.t37;have a37:=L.a37;have z37:=L.z37;have v37:=L.v37;have u37:=run_underlying L.t37;have t3:=L.t3;have a3:=L.a3;have z3:=L.z3;have v3:=L.v3;have u3:=run_underlying L.t3;have t9:=L.t9;have a9:=L.a9;have z9:=L.z9;have v9:=L.v9;have u9:=run_underlying L.t9;have t4:=L.t4;have a4:=L.a4;have z4:=L.z4;have v4:=L.v4;have u4:=run_underlying L.t4;have t164:=L.t164;have a164:=L.a164;have z164:=L.z164;have v164:=L.v164;have u164:=run_underlying L.t164;have t5:=X.t5;have a5:=X.a5;have z5:=X.z5;have v5:=X.v5;have u5:=run_underlying X.t5;have e240:∀args w,(callFunc (J.f 240) args).run P w=.ok (.enter (J.f 240) args) w:=enters_of L.f240 uN rfl
 have hne:∀g,v.ownBlock=some g->g≠b:=by
  rintro g hg rfl;obtain⟨_,c,hc⟩:=hv.lt hg;rw[h]at hc;simp only[uH,aC,Obj.cells.injEq]at hc;exact X.neB5 hc.2.1
 go_enter L.f166,Body.n166_ntmps J
 go_wp2_with (go_at_fn (J.f 240);refine(FL {L with} X.toX72 h).mono ?_)
 rintro e w1 ⟨rfl,h1,hb1⟩;have hv1:mT (J.t 5) w1 v s:=hv.pg λg hg=>hb1.block g (hv.lt hg).1 (λe=>hne g hg (bc e))
 have c0:w1.cell? ⟨b,0,none⟩=some (.pointer (some ⟨b,0,none⟩)):=by rw[Lib.cell_of_heap h1];rfl
 have c1:w1.cell? ⟨b,1,none⟩=some v:=by rw[Lib.cell_of_heap h1];rfl
 have hsrc:Go.Src P 1 (J.t 9) (.string ⟨⟨s2⟩⟩) s2.length (iu s2) w1:=⟨.inr L.t9,λ_=>rfl,firstCells_string _ _,firstCells_string _ _,by rw[jd,Nat.mul_one],Cn s2⟩;have key:=λops rest o a Q hgd ho hs hx h=>ED (P:=P) (ops:=ops) (rest:=rest) (o:=o) (a:=a) (Q:=Q) hgd (.tmp 12) (.tmp 13) (J.t 37) (J.t 9) ho L.t37 hi hz0 hz1 hz2 (v:=v) (xv:=.string ⟨⟨s2⟩⟩) hs hx hv1 h0 hsrc hle h
 go_wp2_with (at_builtin;refine key _ _ _ _ _ rfl rfl rfl rfl ?_)
 clear key;intro g' t' w2 hown' hgrow hg' hlt';have hlt:b<w1.heap.size:=by
  rcases dZ b w1.heap.size with h'|h'
  .exact h'
  .simp[Array.getElem?_eq_none h']at h1
 have pF:w2.heap[b]? =some (uH b true v (J.t 72)):=by
  rw[hgrow.block b hlt (λe=>hne b e.symm rfl)];exact h1
 have hgb:g'≠b:=by
  rcases hg' with h'|h'
  .exact hne g' h'
  .omega
 have d0:w2.cell? ⟨b,0,none⟩=some (.pointer (some ⟨b,0,none⟩)):=by rw[Lib.cell_of_heap pF];rfl
 have d1:w2.cell? ⟨b,1,none⟩=some v:=by rw[Lib.cell_of_heap pF];rfl
 have f1:w2.frozen? ⟨b,1,none⟩=false:=Lib.frozen_of_heap pF 1
 go_wp2
 go_ret2
 have hsz:=hb1.size;refine⟨⟨_,rfl⟩, ?_⟩;unfold Lq;simp only[bV]at hown'⊢;refine⟨g',t',by simp[World.setCell,Array.getElem?_modify,pF,uH],hown'.pg λg hg=>Below.heap_setCell w2 ⟨b,1,none⟩ _ g (λe=>hgb ((bc hg).trans e)),hg'.imp id (λh=>ae),by simpa[World.setCell]using hlt',hgb,hgrow.os.trans hb1.os,hgrow.tape.trans hb1.tape,hgrow.output.trans hb1.output,by have:=hgrow.size;simp[World.setCell];omega,λk hk h1' h2'=>?_⟩;rw[Below.heap_setCell w2 ⟨b,1,none⟩ _ k h1',hgrow.block k ae h2',hb1.block k hk (λe=>h1' (bc e))]
set_option maxHeartbeats 2000000 in
set_option maxRecDepth 100000 in
theorem Fa (L:Lays.n167 P J)(X:Builder.Extra P J){u:Bool}{v:Value}{s:List UInt8}{c:UInt8}(h:w.heap[b]? =some (uH b u v (J.t 72)))(hv:mT (J.t 5) w v s)(hle:s.length+1<=1099511627776):
  Calls P (J.f 167) #[.pointer (some ⟨b,0,none⟩),.int .u8 c.toNat] w λe w'=>(∃r,e=.returned r)/\Lq (J.t 72) (J.t 5) b v.ownBlock (s++[c]) w w':=by
 obtain⟨i0,hi,hz0,hz1,hz2⟩:=info_parts X.infoByte;have mixed:=L.mixed;have t72:=L.t72;have a72:=L.a72;have z72:=L.z72;have v72:=L.v72;have u72:=run_underlying L.t72;have t70:=L.t70;have a70:=L.a70;have z70:=L.z70;have v70:=L.v70;have u70:=run_underlying L.t70;have t37:=L.t37;have a37:=L.a37;have z37:=L.z37;have v37:=L.v37;have u37:=run_underlying L.t37;have t9:=L.t9;have a9:=L.a9;have z9:=L.z9;have v9:=L.v9;have u9:=run_underlying L.t9;have t4:=L.t4;have a4:=L.a4;have z4:=L.z4;have v4:=L.v4;have u4:=run_underlying L.t4;have t164:=L.t164;have a164:=L.a164;have z164:=L.z164;have v164:=L.v164;have u164:=run_underlying L.t164;have t5:=L.t5;have a5:=L.a5;have z5:=L.z5;have v5:=L.v5;have u5:=run_underlying L.t5;have e240:∀args w,(callFunc (J.f 240) args).run P w=.ok (.enter (J.f 240) args) w:=enters_of L.f240 uN rfl
 have hne:∀g,v.ownBlock=some g->g≠b:=by
  rintro g hg rfl;obtain⟨_,c,hc⟩:=hv.lt hg;rw[h]at hc;simp only[uH,aC,Obj.cells.injEq]at hc;exact X.neB5 hc.2.1
 go_enter L.f167,Body.n167_ntmps J
 go_wp2_with (go_at_fn (J.f 240);refine(FL {L with} X.toX72 h).mono ?_)
 rintro e w1 ⟨rfl,h1,hb1⟩;have hv1:mT (J.t 5) w1 v s:=hv.pg λg hg=>hb1.block g (hv.lt hg).1 (λe=>hne g hg (bc e))
 have c0:w1.cell? ⟨b,0,none⟩=some (.pointer (some ⟨b,0,none⟩)):=by rw[Lib.cell_of_heap h1];rfl
 have c1:w1.cell? ⟨b,1,none⟩=some v:=by rw[Lib.cell_of_heap h1];rfl
 have key:=λob ops rest o a Q sl x hgd ho hs hx hv2 hsrc h=>ED (P:=P) (w:=w1.alloc ob) (ops:=ops) (rest:=rest) (o:=o) (a:=a) (Q:=Q) hgd sl x (J.t 37) (J.t 37) ho L.t37 hi hz0 hz1 hz2 (v:=v) (xv:=.slice (some ⟨w1.heap.size,0,none⟩) 1 1) (s:=s) (s2:=[c]) hs hx hv2 (List.cons_ne_nil _ _) hsrc hle h
 go_wp2_with (at_builtin;refine key _ _ _ _ _ _ _ _ rfl rfl rfl rfl (hv1.pg λg hg=>Lib.alloc_old w1 _ g (hv1.lt hg).1) ?hs ?_)
 case hs=>
  refine Go.Src.ofSlice _ L.t37 ⟨w1.heap.size,0,none⟩ 1 1 _ rfl (λj u hj=>?_) (Cn [c])
  match j,hj with
  |0,hj=>simp[iu]at hj;subst hj;simp[Addr.add]
 clear key;intro g' t' w2 hown' hgrow hg' hlt';have hlt:b<w1.heap.size:=by
  rcases dZ b w1.heap.size with h'|h'
  .exact h'
  .simp[Array.getElem?_eq_none h']at h1
 have pF:w2.heap[b]? =some (uH b true v (J.t 72)):=by
  rw[hgrow.block b eJ (λe=>hne b e.symm rfl),Lib.alloc_old w1 _ b hlt];exact h1
 have hgb:g'≠b:=by
  rcases hg' with h'|h'
  .exact hne g' h'
  .omega
 have d0:w2.cell? ⟨b,0,none⟩=some (.pointer (some ⟨b,0,none⟩)):=by rw[Lib.cell_of_heap pF];rfl
 have d1:w2.cell? ⟨b,1,none⟩=some v:=by rw[Lib.cell_of_heap pF];rfl
 have f1:w2.frozen? ⟨b,1,none⟩=false:=Lib.frozen_of_heap pF 1
 go_wp2
 go_ret
 have hsz:=hb1.size;refine⟨⟨_,rfl⟩, ?_⟩;unfold Lq;simp only[bV]at hown'⊢;refine⟨g',t',by simp[World.setCell,Array.getElem?_modify,pF,uH],hown'.pg λg hg=>Below.heap_setCell w2 ⟨b,1,none⟩ _ g (λe=>hgb ((bc hg).trans e)),hg'.imp id (λh=>ae),by simpa[World.setCell]using hlt',hgb,hgrow.os.trans hb1.os,hgrow.tape.trans hb1.tape,hgrow.output.trans hb1.output,by have:=hgrow.size;simp at this;simp[World.setCell];omega,λk hk h1' h2'=>?_⟩;rw[Below.heap_setCell w2 ⟨b,1,none⟩ _ k h1',hgrow.block k eJ h2',Lib.alloc_old w1 _ k ae,hb1.block k hk (λe=>h1' (bc e))]
set_option maxHeartbeats 1000000 in
set_option maxRecDepth 100000 in
theorem ON (L:Lays.n169 P J)(X:Builder.Extra P J){g t:Nat}{u:Bool}{s:List UInt8}(h:w.heap[b]? =some (uH b u (.slice (some ⟨g,0,none⟩) s.length t) (J.t 72)))(hv:mT (J.t 5) w (.slice (some ⟨g,0,none⟩) s.length t) s)(h0:s≠[]):
  Calls P (J.f 169) #[.pointer (some ⟨b,0,none⟩)] w λe w'=>e=.returned (.string ⟨⟨s⟩⟩)/\w'.os=w.os/\w'.tape=w.tape/\w'.output=w.output/\w'.heap.size=w.heap.size/\∀k,k≠g->w'.heap[k]? =w.heap[k]? :=by
 have hl0:s.length≠0:=by simpa using h0
 obtain⟨c,hg,hcs,hcm,hle,hc⟩:∃c,w.heap[g]? =some (.cells c (J.t 5) (0,0))/\c.size=t/\t<=maxLen/\s.length<=t/\∀i,i<s.length->c.getD i undef=.int .u8 (s.getD i 0).toNat:=by
  rcases hv with⟨h1,_⟩|⟨g',t',c,h1,r⟩
  .cases h1
  .simp only[Value.slice.injEq,aC,Addr.mk.injEq]at h1;obtain⟨⟨rfl,_⟩,_,rfl⟩:=h1;exact⟨c,r⟩
 have c1:w.drew.cell? ⟨b,1,none⟩=some (.slice (some ⟨g,0,none⟩) s.length t):=by
  have:w.drew.heap[b]? =some (uH b u (.slice (some ⟨g,0,none⟩) s.length t) (J.t 72)):=h;rw[Lib.cell_of_heap this];rfl
 have hSD:(Builtin.unsafeSliceData_ #[(J.t 37)] (J.t 127) #[.slice (some ⟨g,0,none⟩) s.length t]).run P w.drew=.ok (.pointer (some ⟨g,0,none⟩)) w.drew:=
  Lib.run_unsafeSliceData_row _ _ _ _ _ _ ae
 have hUS:(Builtin.unsafeString_ #[(J.t 127),(J.t 3)] (J.t 9) #[.pointer (some ⟨g,0,none⟩),.int .i64 s.length]).run P w.drew=.ok (.string ⟨s.toArray⟩) (w.drew.freeze ⟨g,0,none⟩ s.length):=by
  refine Lib.run_unsafeString_row w.drew (J.t 127) (J.t 3) (J.t 9) (J.t 5) L.t127 X.cellsByte g c.size (by have hg':w.drew.heap[g]? =some (.cells c (J.t 5) (0,0)):=hg;simp[World.shape?,hg']) s h0 ae (by unfold maxLen at hcm;omega) ?_;intro j x hx;have hj:=(List.getElem?_eq_some_iff.1 hx).1;have hg':w.drew.heap[g]? =some (.cells c (J.t 5) (0,0)):=hg;rw[Addr.A9,cell_of_heap hg' ae,cL,hc j hj];simp[List.getD,hx]
 have mixed:=L.mixed;have t72:=L.t72;have a72:=L.a72;have z72:=L.z72;have v72:=L.v72;have u72:=run_underlying L.t72;have t70:=L.t70;have a70:=L.a70;have z70:=L.z70;have v70:=L.v70;have u70:=run_underlying L.t70;have t37:=L.t37;have a37:=L.a37;have z37:=L.z37;have v37:=L.v37;have u37:=run_underlying L.t37;have t127:=L.t127;have a127:=L.a127;have z127:=L.z127;have v127:=L.v127;have u127:=run_underlying L.t127;have t3:=L.t3;have a3:=L.a3;have z3:=L.z3;have v3:=L.v3;have u3:=run_underlying L.t3;have t9:=L.t9;have a9:=L.a9;have z9:=L.z9;have v9:=L.v9;have u9:=run_underlying L.t9;have t5:=X.t5;have a5:=X.a5;have z5:=X.z5;have v5:=X.v5;have u5:=run_underlying X.t5
 go_enter L.f169,Body.n169_ntmps J
 go_wp2
 go_region_o
 all_goals (go_wp2;go_ret;exact⟨rfl,O5 _ _ _⟩)
end
end
section
open Go.Proofs Go.Shelf Go.RowKit
section
variable [cI]{P:Program}{ν:List (Nat×Nat)}{bR:List Nat}{Y:Ctx}
def OM {m:List (Nat×bm)}{v:Value}(hs:fG ν x (look m))(hb:uO m l t)(hv:RD ν x v (.ptr l 2 0 0)):
  ∃b tot u w,v=.pointer (some ⟨b,0,none⟩)/\x.β l=some (b,0,tot)/\¬x.I b/\x.w.heap[b]? =some (uH b u w cI.tB)/\mT cI.tU x.w w t/\
   (w.ownBlock=none/\fX m l=m\/∃l2 g t2,w=.slice (some ⟨g,0,none⟩) t.length t2/\x.β l2=some (g,0,t2)/\¬x.I g/\look m l2=some (.row t)/\l2≠l/\fX m l=dd m l2):=by
 cases hv with
 |ptr _ _ _ _ b base tot at_ hβ hat=>
  rcases hb with⟨u,h1,rfl⟩|⟨l2,u,h1,h2⟩
  .obtain⟨o1,rfl,w,o2,_,rfl⟩:=hs.own l _ b base tot h1 hβ;simp only[Nat.zero_mul,Nat.add_zero]at hat;subst hat;exact⟨b,tot,u,_,rfl,hβ,o1,o2,.inl ⟨rfl,rfl⟩,.inl ⟨rfl,by simp only[fX,h1]⟩⟩
  .obtain⟨o1,rfl,w,o2,g,t2,rfl,o3,o4⟩:=hs.own l _ b base tot h1 hβ;simp only[Nat.zero_mul,Nat.add_zero]at hat;subst hat;obtain⟨p1,_,c,p2,p3,p4,p5,p6⟩:=hs.own l2 _ g 0 t2 h2 o4;have hne:l2≠l:=by rintro rfl;rw[h1]at h2;cases h2
   exact⟨b,tot,u,_,rfl,hβ,o1,o2,.inr ⟨g,t2,c,rfl,p2,p3,p4,p5,p6⟩,.inr ⟨l2,g,t2,rfl,o4,p1,h2,hne,by simp only[fX,h1]⟩⟩
def G2 {st:St}{s:List UInt8}{tot:Nat}{w:Value}{w':World}(hs:fG ν x (look st.m))(hf:fk st x)(hlive:look st.m l≠none)(hl:l<st.nx)(hβ:x.β l=some (b,0,tot))(hI:¬x.I b)(hrow:w.ownBlock=none/\fX st.m l=st.m\/∃l2 g t2,w=.slice (some ⟨g,0,none⟩) t.length t2/\x.β l2=some (g,0,t2)/\¬x.I g/\look st.m l2=some (.row t)/\l2≠l/\fX st.m l=dd st.m l2)(hw:Lq cI.tB cI.tU b w.ownBlock s x.w w'):
  ∃x':X,x'.w=w'/\Step x x'/\fG ν x' (look (se st.m l st.nx s))/\fk ⟨st.nx+1,se st.m l st.nx s⟩ x':=by
 obtain⟨g',t',h1,h2,h3,h4,h5,k1,k2,k3,k4,k5⟩:=hw;have hn:=hf.β st.nx (aT _)

 have hg:∀g,w.ownBlock=some g->∃l2 t2,x.β l2=some (g,0,t2)/\¬x.I g/\look st.m l2=some (.row t)/\l2≠l/\fX st.m l=dd st.m l2:=by
  intro g hg;rcases hrow with⟨h,_⟩|⟨l2,g0,t2,rfl,q⟩
  .rw[h]at hg;cases hg
  .obtain rfl:=bc hg;exact⟨l2,t2,q⟩
 have hlook:∀l' blk,l'≠l->look (fX st.m l) l'=some blk->look st.m l'=some blk/\∀g,w.ownBlock=some g->∀p,x.β l'=some p->p.1≠g:=by
  intro l' blk hl' hk;rcases hrow with⟨h,e⟩|⟨l2,g0,t2,rfl,q1,q2,q3,q4,e⟩
  .rw[e]at hk;exact⟨hk,λg hg=>by rw[h]at hg;cases hg⟩
  .rw[e,fm]at hk;split at hk
   .cases hk
   .rename_i hne;refine⟨hk,λg hg p hp e=>?_⟩;obtain rfl:=bc hg;obtain⟨b',base',tot'⟩:=p;simp only at e;subst e;exact hne (hs.inj l' l2 _ _ _ _ _ (by rw[hk];simp) (by rw[q3];simp) hp q1)
 have hbg:∀l' p,x.β l'=some p->p.1<x.w.heap.size:=λl' ⟨b',base',tot'⟩ hp=>hs.ef l' b' base' tot' hp
 have hkeep:∀k,k<x.w.heap.size->k≠b->some k≠w.ownBlock->w'.heap[k]? =x.w.heap[k]? :=k5
 let x':X:=⟨w',x.I,fe x.β st.nx (g',0,t')⟩
 have hst:Step x x':=by
  refine⟨k1,k2,k3,k4,λ_ h=>h,λk hk=>hkeep k (hs.imm k hk) (λe=>hI (e▸hk)) (λe=>?_),λl' p hp=>?_,λk hk hn'=>hkeep k hk (λe=>hn' l _ hβ e.symm) (λe=>?_),λ_ h=>.inl h,λl' p hp=>?_⟩
  .obtain⟨l2,t2,q1,q2,_⟩:=hg k e.symm;exact q2 hk
  .have:l'≠st.nx:=λe=>by rw[e,hn]at hp;cases hp
   simp[x',fe,this,hp]
  .obtain⟨l2,t2,q1,_⟩:=hg k e.symm;exact hn' l2 _ q1 rfl
  .by_cases e1:l'=st.nx
   .simp only[x',fe,e1,bo,aC]at hp;subst hp;rcases h3 with h3|h3
    .obtain⟨l2,t2,q1,_⟩:=hg g' h3;exact .inr (.inr ⟨l2,_,q1,rfl⟩)
    .exact .inr (.inl h3)
   .simp only[x',fe,e1,a8]at hp;exact .inl hp
 have hle:=hst.le;have hlm:∀l',look (se st.m l st.nx s) l'=if l'=st.nx then some (.row s)else if l'=l then some (.bld (some st.nx) s.length true)else look (fX st.m l) l':=by
  intro l';simp only[se,look];by_cases e:l'=st.nx
  .rw[ak e.symm,ak e]
  .rw[ai (λh=>e h.symm),ai e,bM]
 have hfr:∀l' p,l'≠st.nx->x.β l'=some p->l'≠l->look (fX st.m l) l'≠none->p.1≠g':=by
  intro l' p hl' hp hne hk e;cases hq:look (fX st.m l) l' with
  |none=>exact hk hq
  |some blk=>
   rcases h3 with h3|h3
   .exact(hlook l' blk hne hq).2 g' h3 p hp e
   .have:=hbg l' p hp;omega
 refine⟨x',rfl,hst,⟨λl' blk b' base' tot' e1 e2=>?_,λl1 l2 b' base1 tot1 base2 tot2 e1 e2 e3 e4=>?_,λk hk=>jj (hs.imm k hk) k4,λl' b' base' tot' e=>?_,rH hle hs.gd⟩,⟨λl' hl'=>?_,λl' hl'=>?_⟩⟩
 .rw[hlm]at e1;by_cases c1:l'=st.nx
  .rw[ak c1]at e1;simp only[x',fe,ak c1,aC,dw]at e2;obtain⟨rfl,rfl,rfl⟩:=e2;obtain rfl:=bc e1;refine⟨λh=>?_,rfl, ?_⟩
   .rcases h3 with h3|h3
    .obtain⟨l2,t2,_,q2,_⟩:=hg g' h3;exact q2 h
    .have:=hs.imm g' h;omega
   .rcases h2 with⟨h2,_⟩|⟨g2,t2,c,h2,r⟩
    .cases h2
    .simp only[Value.slice.injEq,aC,Addr.mk.injEq]at h2;obtain⟨⟨rfl,_⟩,_,rfl⟩:=h2;exact⟨c,r⟩
  .rw[ai c1]at e1;simp only[x',fe,ai c1]at e2;by_cases c2:l'=l
   .subst c2;rw[ak rfl]at e1;rw[hβ]at e2;simp only[aC,dw]at e2;obtain⟨rfl,rfl,rfl⟩:=e2;obtain rfl:=bc e1;refine⟨hI,rfl,_,h1,g',t',rfl, ?_,by simp[x',fe]⟩;rcases h2 with⟨h2,_⟩|⟨g2,t2,c,h2,_,_,_,r,_⟩
    .cases h2
    .simp only[Value.slice.injEq]at h2;obtain⟨_,_,rfl⟩:=h2;exact r
   .rw[ai c2]at e1;obtain⟨q1,q2⟩:=hlook l' blk c2 e1;obtain⟨o1,o2⟩:=hs.own l' blk b' base' tot' q1 e2;refine⟨o1,o2.mono hle (hkeep b' (hs.ef _ _ _ _ e2) (λe=>?_) (λe=>q2 b' e.symm _ e2 rfl))⟩;subst e;exact c2 (hs.inj l' l _ _ _ _ _ (by rw[q1];simp) hlive e2 hβ)
 .rw[hlm]at e1 e2;by_cases c1:l1=st.nx
  .by_cases c2:l2=st.nx
   .rw[c1,c2]
   .exfalso;rw[ai c2]at e2;simp only[x',fe,ak c1,aC,dw]at e3;simp only[x',fe,ai c2]at e4;obtain⟨rfl,_⟩:=e3;by_cases c3:l2=l
    .subst c3;rw[hβ]at e4;simp only[aC,dw]at e4;exact h5 e4.1.symm
    .rw[ai c3]at e2;exact hfr l2 _ c2 e4 c3 e2 rfl
  .rw[ai c1]at e1;simp only[x',fe,ai c1]at e3;by_cases c2:l2=st.nx
   .exfalso;simp only[x',fe,ak c2,aC,dw]at e4;obtain⟨rfl,_⟩:=e4;by_cases c3:l1=l
    .subst c3;rw[hβ]at e3;simp only[aC,dw]at e3;exact h5 e3.1.symm
    .rw[ai c3]at e1;exact hfr l1 _ c1 e3 c3 e1 rfl
   .rw[ai c2]at e2;simp only[x',fe,ai c2]at e4;have live:∀l',(if l'=l then some (bm.bld (some st.nx) s.length true)else look (fX st.m l) l')≠none->look st.m l'≠none:=by
     intro l' h;by_cases c:l'=l
     .rw[c];exact hlive
     .rw[ai c]at h;cases hq:look (fX st.m l) l' with
      |none=>exact absurd hq h
      |some blk=>rw[(hlook l' blk c hq).1];simp
    exact hs.inj l1 l2 b' base1 tot1 base2 tot2 (live l1 e1) (live l2 e2) e3 e4
 .by_cases c1:l'=st.nx
  .simp only[x',fe,ak c1,aC,dw]at e;obtain⟨rfl,_⟩:=e;exact h4
  .simp only[x',fe,ai c1]at e;exact jj (hs.ef _ _ _ _ e) k4
 .have hl':st.nx+1<=l':=hl';simp only[x',fe,ai (show ¬l'=st.nx by omega)];exact hf.β l' ae
 .show l'<st.nx+1;simp only[hlm]at hl';by_cases c1:l'=st.nx
  .omega
  .rw[ai c1]at hl';by_cases c2:l'=l
   .omega
   .rw[ai c2]at hl';cases hq:look (fX st.m l) l' with
    |none=>exact absurd hq hl'
    |some blk=>have:=hf.m l' (by rw[(hlook l' blk c2 hq).1];simp);omega
def uO.live {m:List (Nat×bm)}(h:uO m l t):look m l≠none:=by
 rcases h with⟨u,h,_⟩|⟨l2,u,h,_⟩<;>rw[h]<;>simp
variable {J:Ren}
def Wz (h:args.size=2):args=#[args.getD 0 undef,args.getD 1 undef]:=by
 apply Array.ext
 .simpa using h
 .intro i h1 h2
  match i,h1 with
  |0,h1=>simp[Array.getD,h1]
  |1,h1=>simp[Array.getD,h1]
  |i+2,h1=>omega
def ahP (h:args.size=1):args=#[args.getD 0 undef]:=by
 apply Array.ext
 .simpa using h
 .intro i h1 h2
  match i,h1 with
  |0,h1=>simp[Array.getD,h1]
  |i+1,h1=>omega
def adz (hB:cI.tB=J.t 72)(hU:cI.tU=J.t 5)(L:Lays.n166 P J)(X':Builder.Extra P J)(hen:∀args w,(callFunc (J.f 166) args).run P w=.ok (.enter (J.f 166) args) w):Wh P ν Y bR trWS (J.f 166):=by
 rintro ds st K ⟨s,l,t,rfl,hb,hl,h0,hle,hK⟩ hok x args hl2 hargs hs hf;obtain⟨b,tot,u,w,e0,hβ,hI,hh,hv,hrow⟩:=OM hs hb (hargs 0 aF);have h1:=hargs 1 aF;simp only[List.getD_cons_succ,iR]at h1;obtain⟨e1,hm⟩:=h1.jW;rw[hB]at hh;rw[hU]at hv;refine .inr ⟨J.f 166,args,hen args x.w, ?_⟩;rw[Wz (args:=args) (by simpa using hl2),e0,e1];refine(Bb L X' hh hv h0 hm hle).mono ?_;rintro e w' ⟨⟨r,rfl⟩,hw⟩;rw[<-hB,<-hU]at hw;obtain⟨x',q1,q2,q3,q4⟩:=G2 hs hf hb.live hl hβ hI hrow hw;exact⟨x',q1,.any,_,hK,q2,.any _,q3,q4⟩
def ady (hB:cI.tB=J.t 72)(hU:cI.tU=J.t 5)(L:Lays.n167 P J)(X':Builder.Extra P J)(hen:∀args w,(callFunc (J.f 167) args).run P w=.ok (.enter (J.f 167) args) w):Wh P ν Y bR trWB (J.f 167):=by
 rintro ds st K ⟨c,l,t,rfl,hb,hl,h0,hle,hK⟩ hok x args hl2 hargs hs hf;obtain⟨b,tot,u,w,e0,hβ,hI,hh,hv,hrow⟩:=OM hs hb (hargs 0 aF);have h1:=hargs 1 aF;simp only[List.getD_cons_succ,iR]at h1;have e1:=h1.dr;rw[hB]at hh;rw[hU]at hv;refine .inr ⟨J.f 167,args,hen args x.w, ?_⟩;rw[Wz (args:=args) (by simpa using hl2),e0,e1];refine(Fa L X' hh hv hle).mono ?_;rintro e w' ⟨⟨r,rfl⟩,hw⟩;rw[<-hB,<-hU]at hw;obtain⟨x',q1,q2,q3,q4⟩:=G2 hs hf hb.live hl hβ hI hrow hw;exact⟨x',q1,.any,_,hK,q2,.any _,q3,q4⟩
def adx (hB:cI.tB=J.t 72)(hU:cI.tU=J.t 5)(L:Lays.n169 P J)(X':Builder.Extra P J)(hen:∀args w,(callFunc (J.f 169) args).run P w=.ok (.enter (J.f 169) args) w):Wh P ν Y bR trBS (J.f 169):=by
 rintro ds st K ⟨l,t,rfl,hb,h0,hK⟩ hok x args hl2 hargs hs hf;obtain⟨b,tot,u,w,e0,hβ,hI,hh,hv,hrow⟩:=OM hs hb (hargs 0 aF);rcases hrow with⟨hn,_⟩|⟨l2,g,t2,rfl,q1,q2,q3,q4,q5⟩
 .exfalso;rcases hv with⟨_,h⟩|⟨g,t',c,rfl,_⟩
  .exact h0 h
  .cases hn
 rw[hB]at hh;rw[hU]at hv;have htm:t.length<=maxLen:=by
  rcases hv with⟨_,rfl⟩|⟨g',t',c,h1,_,_,h4,h5,_⟩
  .exact absurd rfl h0
  .omega
 refine .inr ⟨J.f 169,args,hen args x.w, ?_⟩;rw[ahP (args:=args) (by simpa using hl2),e0];refine(ON L X' hh hv h0).mono ?_;rintro e w' ⟨rfl,k1,k2,k3,k4,k5⟩;have hkeep:∀k,(∀l' p,look (dd (fX st.m l) l) l'≠none->x.β l'=some p->p.1=k->False)->True:=λ_ _=>trivial
 have hst:Step x ⟨w',x.I,x.β⟩:=⟨k1,k2,k3,Nat.le_of_eq k4.symm,λ_ h=>h,λk hk=>k5 k (λe=>q2 (e▸hk)),λ_ _ h=>h,λk hk hn=>k5 k (λe=>hn l2 _ q1 e.symm),λ_ h=>.inl h,λ_ _ h=>.inl h⟩;have hlm:∀l',look (dd (fX st.m l) l) l'=if l'=l then none else if l'=l2 then none else look st.m l':=λl'=>by rw[fm,q5,fm]
 refine⟨⟨w',x.I,x.β⟩,rfl,.str t,_,hK,hst,.str t htm,⟨λl' blk b' base' tot' e1 e2=>?_,λl1 l3 b' base1 tot1 base2 tot2 e1 e2 e3 e4=>?_,λk hk=>by show k<w'.heap.size;rw[k4];exact hs.imm k hk,λl' b' base' tot' e=>by show b'<w'.heap.size;rw[k4];exact hs.ef _ _ _ _ e,rH hst.le hs.gd⟩,⟨hf.β,λl' hl'=>?_⟩⟩
 .rw[hlm]at e1;split at e1
  .cases e1
  split at e1
  .cases e1
  rename_i c1 c2;obtain⟨o1,o2⟩:=hs.own l' blk b' base' tot' e1 e2;refine⟨o1,o2.mono hst.le (k5 b' (λe=>c2 ?_))⟩;subst e;exact hs.inj l' l2 _ _ _ _ _ (by rw[e1];simp) (by rw[q3];simp) e2 q1
 .have live:∀l',look (dd (fX st.m l) l) l'≠none->look st.m l'≠none:=by
   intro l' h;rw[hlm]at h;split at h
   .exact absurd rfl h
   split at h
   .exact absurd rfl h
   .exact h
  exact hs.inj l1 l3 b' base1 tot1 base2 tot2 (live l1 e1) (live l3 e2) e3 e4
 .simp only[hlm]at hl';split at hl'
  .exact absurd rfl hl'
  split at hl'
  .exact absurd rfl hl'
  .exact hf.m l' hl'
end
end
section
open Go.Proofs
def Zm:Nat:=4
def Az:Tryz.prog.globalNamed "internal/strconv.uint64pow10" =some Zm:=uN
def CG:Nat:=1
instance seatGlob:cI where
 tB:=247
 tU:=5
 gd x:=(x.I 0/\∃m,x.w.cell? ⟨0,0,none⟩=some (.int .i64 m))/\x.I Zm/\Lib.TabIs Tryz.prog x.w "internal/strconv.uint64pow10" .u64 Lib.pow10Tab/\x.I CG/\∀j,j<5->x.w.cell? ⟨CG,j,none⟩=some (zVv j)
 le x x' hI hk h:=by
  obtain⟨⟨h1,m,h2⟩,h3,h4,h5,h6⟩:=h;refine⟨⟨hI _ h1,m,iI (hk _ h1) h2⟩,hI _ h3, ?_,hI _ h5,λj hj=>iI (hk _ h5) (h6 j hj)⟩;unfold Lib.TabIs World.var? at h4⊢;rw[Az]at h4⊢;simp only[Option.bind_some]at h4⊢;rw[hk _ h3];exact h4
 gz g:=g=CG
 gzr x g h hg j hj:=by subst hg;exact h.2.2.2.2 j hj
def FO {d:D}(hn:(Tryz.prog.funcs[fid]?).map (λf=>f.name== "runtime.NumGoroutine" ||!f.body.isSome)=some false)(himm:∀b,x.I b->b<x.w.heap.size)(hc:Calls Tryz.prog fid args x.w λe w'=>∃v,e=.returned v/\ie x.w w'/\∃I:Nat->Prop,(∀b,x.I b->I b)/\(∀b,I b->x.I b\/x.w.heap.size<=b/\b<w'.heap.size)/\RD Av ⟨w',I,x.β⟩ v d):
  jJ Tryz.prog x (λv x'=>nL x x'/\RD Av x' v d) ((callFunc fid args).run Tryz.prog x.w):=by
 cases h:Tryz.prog.funcs[fid]? with
 |none=>rw[h]at hn;cases hn
 |some fn=>
  rw[h]at hn;have h2:(fn.name== "runtime.NumGoroutine" ||!fn.body.isSome)=false:=bc hn;rw[dX,cX]at h2;refine .inr ⟨fid,args,gR h h2.1 h2.2 args x.w,Calls.mono hc λe w' he=>?_⟩;obtain⟨v,rfl,hg,I,h3,h4,hr⟩:=he;refine⟨⟨w',I,x.β⟩,rfl,⟨hg,h3,λb hb=>(h4 b hb).imp id And.left,λb hb=>?_,rfl⟩,hr⟩;rcases h4 b hb with h5|h5
  .exact jj (himm b h5) hg.size
  .exact h5.2
def O9 (w:World):∀n,ie w (w.drewN n)
 |n=>⟨rfl,rfl,rfl,aT _,λ_ _=>rfl⟩
def lD {d:D}{v:Value}(hn:(Tryz.prog.funcs[fid]?).map (λf=>f.name== "runtime.NumGoroutine" ||!f.body.isSome)=some false)(himm:∀b,x.I b->b<x.w.heap.size)(hc:Calls Tryz.prog fid args x.w λe w'=>e=.returned v/\ie x.w w')(hr:∀x',RD Av x' v d):
  jJ Tryz.prog x (λv x'=>nL x x'/\RD Av x' v d) ((callFunc fid args).run Tryz.prog x.w):=
 FO hn himm (Calls.mono hc λe w' ⟨h1,h2⟩=>⟨v,h1,h2,x.I,λ_ h=>h,λ_ h=>.inl h,hr _⟩)
def iV {v:Value}{s:av}(h:RD Av x v (.str s)):v=.string ⟨⟨s⟩⟩/\s.length<=maxLen:=by
 cases h with
 |str s h=>exact⟨rfl,h⟩
def adK {v:Value}{k:IntKind}{n:Int}(h:RD Av x v (.int k n)):v=.int k n:=by
 cases h with
 |int k n=>rfl
def Cg (h:args.size=2):args=#[args.getD 0 undef,args.getD 1 undef]:=by
 obtain⟨l⟩:=args
 match l,h with
 |[a,b],_=>rfl
def args1 (h:args.size=1):args=#[args.getD 0 undef]:=by
 obtain⟨l⟩:=args
 match l,h with
 |[a],_=>rfl
def E491:Ow 47 491:=by
 refine aM rfl ?_;rintro s b hp hok x args hl hargs hnl himm ⟨⟨_,m,hm⟩,_⟩;obtain⟨h0,hs⟩:=iV (hargs 0 aF);obtain⟨h1,_⟩:=iV (hargs 1 aF);rw[Cg hl,h0,h1];refine lD uN himm (Calls.mono (Tryz.strings_Contains ⟨⟨s⟩⟩ ⟨⟨[b]⟩⟩ m x.w (by show s.length<_;omega) hm) λe w' ⟨h1,h2⟩=>⟨h1,h2▸ie.refl _⟩) (λx'=>?_);show RD Av x' (.bool (Lib.contains s [b])) _;rw[contains_eq];exact .bool _
def aeG {a b:Value}{d e:D}(h1:RD Av x a d)(h2:RD Av x b e):RD Av x (.tuple #[a,b]) (.tup [d,e]):=by
 refine .tup _ _ rfl λi hi=>?_
 match i,hi with
 |0,_=>exact h1
 |1,_=>exact h2
def aeH {a b c:Value}{d e f:D}(h1:RD Av x a d)(h2:RD Av x b e)(h3:RD Av x c f):RD Av x (.tuple #[a,b,c]) (.tup [d,e,f]):=by
 refine .tup _ _ rfl λi hi=>?_
 match i,hi with
 |0,_=>exact h1
 |1,_=>exact h2
 |2,_=>exact h3
def zu (s:av)(h:s.length<=4294967296):RD Av x (.string ⟨s.toArray⟩) (.str s):=.str s (by simp only[maxLen];omega)
def TV (s:av)(b:UInt8):(o9 s b).2.1.length<=s.length:=by
 unfold o9;split<;>simp
def E487:Ow 88 487:=by
 refine aM rfl ?_;rintro s b hp hok x args hl hargs hnl himm ⟨⟨_,m,hm⟩,_⟩;obtain⟨h0,hs⟩:=iV (hargs 0 aF);obtain⟨h1,_⟩:=iV (hargs 1 aF);rw[Cg hl,h0,h1];refine lD uN himm (Calls.mono (Tryz.strings_Cut ⟨⟨s⟩⟩ ⟨⟨[b]⟩⟩ m x.w (by show s.length<_;omega) hm) λe w' ⟨h1,n,h2⟩=>⟨h1,h2▸O9 _ n⟩) (λx'=>?_);have hc:Lib.cut (⟨⟨s⟩⟩:ByteArray).data.toList (⟨⟨[b]⟩⟩:ByteArray).data.toList=o9 s b:=ah6 s b;rw[hc];have:=(sj s b).1;have:=TV s b;exact aeH (zu _ ae) (zu _ ae) (.bool _)
def E254:Ow 46 254:=by
 refine aM rfl ?_;rintro s p hp hp2 hok x args hl hargs hnl himm _;obtain⟨h0,hs⟩:=iV (hargs 0 aF);obtain⟨h1,_⟩:=iV (hargs 1 aF);rw[Cg hl,h0,h1];refine lD uN himm (Calls.mono (Tryz.strings_CutPrefix ⟨⟨s⟩⟩ ⟨⟨p⟩⟩ x.w) λe w' ⟨h1,h2⟩=>⟨h1,h2▸ie.refl _⟩) (λx'=>?_);have hc:(Lib.trimPrefix s p,Lib.hasPrefix s p)=dp s p:=TW s p;have:=Cs s p;rw[<-hc]at this⊢;have h9:(Lib.trimPrefix s p).length<=s.length:=this;exact aeG (zu (Lib.trimPrefix s p) ae) (.bool _)
def E336:Ow 182 336:=by
 refine aM rfl ?_;rintro n hp hok x args hl hargs hnl himm ⟨_,_,ht,_⟩;have h0:=adK (hargs 0 aF);rw[args1 hl,h0];refine lD uN himm (Calls.mono (Tryz.strconv_Itoa n ae ae x.w ht) λe w' ⟨h1,k,os,h2⟩=>⟨h1, ?_⟩) (λx'=>?_)
 .subst h2;refine⟨rfl,rfl,rfl,by simp[Sort.grow],λb hb=>?_⟩;show(x.w.heap++os)[b]? =x.w.heap[b]?;rw[Array.getElem?_append,ak hb]
 .rw[adP hp.1];have:=gT 4 n.toNat ae ae;exact zu _ ae
def QK {ts:List ByteArray}{cap:Nat}{ty:TypeId}{L:List av}(hn:(Tryz.prog.funcs[fid]?).map (λf=>f.name== "runtime.NumGoroutine" ||!f.body.isSome)=some false)(himm:∀b,x.I b->b<x.w.heap.size)(hL:ts.map (λt=>t.data.toList)=L)(hcap:ts.length<=cap)(hm:cap<=maxLen)(hs:∀t∈L,t.length<=maxLen)(hc:Calls Tryz.prog fid args x.w λe w'=>e=.returned (.slice (some ⟨x.w.heap.size,0,none⟩) ts.length cap)/\w'=x.w.alloc (.cells (Lib.cellsOf ts cap) ty)):
  jJ Tryz.prog x (λv x'=>nL x x'/\RD Av x' v (.sl 1 (L.map D.str))) ((callFunc fid args).run Tryz.prog x.w):=by
 refine FO hn himm (Calls.mono hc λe w' ⟨h1,h2⟩=>?_);subst h2;refine⟨_,h1,ie.alloc _ _,λq=>x.I q\/q=x.w.heap.size,λ_ h=>.inl h,λq hq=>hq.imp id λh=>⟨ae,by rw[h];show _<(x.w.heap.push _).size;simp⟩, ?_⟩;have hsl:L.length=ts.length:=by rw[<-hL];simp
 have hget:∀i,i<ts.length->(L.map D.str).getD i .any=.str (ts.getD i default).data.toList:=λi hi=>by
  rw[<-hL];simp[hi]
 refine .sl _ x.w.heap.size 0 ts.length cap 1 _ (λi _=>.string (ts.getD i default)) (by simp[hsl]) (.inr ⟨rfl,.inr rfl⟩) hcap hm (λi hi=>by rw[hget i hi];rfl) (λi hi=>by rw[hget i hi];rfl) (λi j hi hj=>?_) (λi j hi hj=>rfl) (λi j hi hj=>?_)
 .obtain rfl:j=0:=ae;have:=dV x.w (.cells (Lib.cellsOf ts cap) ty);refine(cell_of_heap (c:=Lib.cellsOf ts cap) (T:=ty) (fr:=(0,0)) this (by rw[Lib.cellsOf_size hcap];omega)).trans ?_;have hi2:i<(ts.map Value.string).length:=by simpa using hi
  simp only[Lib.cellsOf];simp[hi,List.getElem?_append_left hi2]
 .obtain rfl:j=0:=ae;rw[hget i hi];show RD Av _ (.string (ts.getD i default)) (.str (ts.getD i default).data.toList);generalize hq:ts.getD i default=q;have hmem:q.data.toList∈L:=by
   rw[<-hL];refine ch.2 ⟨q, ?_,rfl⟩;rw[<-hq];simp[hi]
  have:=hs _ hmem;obtain⟨⟨ql⟩⟩:=q;exact .str ql this
def GN {s p:av}{m:Int}{L:List av}(hL:∀ts,ts=Lib.splitB ⟨⟨p⟩⟩ 0 (Lib.countB ⟨⟨s⟩⟩ ⟨⟨p⟩⟩) ⟨⟨s⟩⟩->ts.map (λt=>t.data.toList)=L)(himm:∀b,x.I b->b<x.w.heap.size)(h1:1<=p.length)(hs:s.length<=1048576)(hl:L.length<=1048577)(hb:∀t∈L,t.length<=1048576)(hm:x.w.cell? ⟨0,0,none⟩=some (.int .i64 m)):jJ Tryz.prog x (λv x'=>nL x x'/\RD Av x' v (.sl 1 (L.map D.str))) ((callFunc 89 #[.string ⟨⟨s⟩⟩,.string ⟨⟨p⟩⟩]).run Tryz.prog x.w):=by
 have h2:1<=(⟨⟨p⟩⟩:ByteArray).size:=h1;have hlen:=Lib.splitB_all ⟨⟨p⟩⟩ h2 0 _ (⟨⟨s⟩⟩:ByteArray) rfl;have hc:=Tryz.strings_Split ⟨⟨s⟩⟩ ⟨⟨p⟩⟩ m x.w (by show s.length<_;omega) hm h2;rw[<-hlen,<-Lib.cellsOf_full]at hc;have hL2:=hL _ rfl;have hle:(Lib.splitB ⟨⟨p⟩⟩ 0 (Lib.countB ⟨⟨s⟩⟩ ⟨⟨p⟩⟩) ⟨⟨s⟩⟩).length<=maxLen:=by
  have:L.length=(Lib.splitB ⟨⟨p⟩⟩ 0 (Lib.countB ⟨⟨s⟩⟩ ⟨⟨p⟩⟩) ⟨⟨s⟩⟩).length:=by rw[<-hL2];simp
  simp only[maxLen];omega
 exact QK uN himm hL2 (aT _) hle (λt ht=>by have:=hb t ht;simp only[maxLen];omega) hc
def zF:∀(s cur:av),(jh s cur).length<=s.length+1/\∀t∈jh s cur,t.length<=cur.length+s.length
 |[],cur=>by simp[jh]
 |[c],cur=>by simp[jh]
 |c::d::r,cur=>by
  unfold jh;split
  .obtain⟨h1,h2⟩:=zF r [];refine⟨uC,λt ht=>?_⟩;rcases bU.1 ht with rfl|ht
   .omega
   .have:=h2 t ht;simp only[bH,b7]at this⊢;omega
  .obtain⟨h1,h2⟩:=zF (d::r) (cur++[c]);refine⟨by simp only[bH]at h1⊢;omega,λt ht=>?_⟩;have:=h2 t ht;simp only[bV,bH,b7]at this⊢;omega
def E124:Ow 89 124:=by
 refine aM rfl ⟨?_, ?_⟩
 .rintro s b hp hok x args hl hargs hnl himm ⟨⟨_,m,hm⟩,_⟩;obtain⟨h0,hs⟩:=iV (hargs 0 aF);obtain⟨h1,_⟩:=iV (hargs 1 aF);rw[Cg hl,h0,h1];have:=og s b.toNat;exact GN (λts e=>by rw[e];exact Vy b _ (⟨⟨s⟩⟩:ByteArray) rfl) himm (aT 1) hp ae (λt ht=>dN (we s b.toNat ht) hp) hm
 .rintro s hp hok x args hl hargs hnl himm ⟨⟨_,m,hm⟩,_⟩;obtain⟨h0,hs⟩:=iV (hargs 0 aF);obtain⟨h1,_⟩:=iV (hargs 1 aF);rw[Cg hl,h0,h1];obtain⟨q1,q2⟩:=zF s [];exact GN (λts e=>by rw[e];exact Vz _ (⟨⟨s⟩⟩:ByteArray) rfl) himm a7 hp ae (λt ht=>by have:=q2 t ht;simp only[b7]at this;omega) hm
def E683:Ow 354 683:=by
 refine aM rfl ?_;rintro s b rfl hp hok x args hl hargs hnl himm _;obtain⟨h0,hs⟩:=iV (hargs 0 aF);obtain⟨h1,_⟩:=iV (hargs 1 aF);rw[Cg hl,h0,h1];refine lD uN himm (Calls.mono (Tryz.strings_Trim_one ⟨⟨s⟩⟩ 32 a7 x.w (by show s.length<=_;omega)) λe w' ⟨h1,h2⟩=>⟨h1, ?_⟩) (λx'=>?_)
 .rcases h2 with rfl|rfl
  .exact ie.refl _
  .exact⟨rfl,rfl,rfl,aT _,λ_ _=>rfl⟩
 .have:Lib.trimB (⟨⟨s⟩⟩:ByteArray).data.toList 32=Cl s:=WJ s;rw[this];have hb:(Cl s).length<=s.length:=by
   unfold Cl;have h1:=yG s;have h2:=yG (zZ s).reverse;simp only[List.length_reverse]at h2⊢;omega
  exact zu _ ae
def E489:Ow 136 489:=Bp rfl λds st K h hok=>adz rfl rfl Tryz.Rz Tryz.bldX (Go.Proofs.enters_of Tryz.Rz.f166 uN rfl) ds st K h hok
def E664:Ow 310 664:=Bp rfl λds st K h hok=>ady rfl rfl Tryz.RA Tryz.bldX (Go.Proofs.enters_of Tryz.RA.f167 uN rfl) ds st K h hok
def E452:Ow 137 452:=Bp rfl λds st K h hok=>adx rfl rfl Tryz.RB Tryz.bldX (Go.Proofs.enters_of Tryz.RB.f169 uN rfl) ds st K h hok
def C2 (sep:av)(B:Nat):∀l:List av,(∀t∈l,t.length<=B)->(b6 sep l).length<=l.length*(B+sep.length)
 |[],_=>by simp[b6]
 |[t],h=>by have:=h t (.head _);simp only[b6,bH,b7];omega
 |t::u::r,h=>by
  have h1:=h t (.head _);have h2:=C2 sep B (u::r) λx hx=>h x (.tail _ hx)
  rw[nX _ _ _ aF];rw[bH,Nat.succ_mul];simp only[bV];omega
def E242:Ow 85 242:=by
 refine aM rfl ?_;rintro l sep hp1 hp2 hp3 hok x args hl hargs hnl himm _;have h0:=hargs 0 aF;obtain⟨h1,_⟩:=iV (hargs 1 aF);rw[Cg hl,h1];have hj:=C2 sep 2097200 l hp3;have hj2:=fL (2097200+sep.length) hp1;have hj3:1048600*(2097200+sep.length)<=140737488355328:=by
  have:=Nat.mul_le_mul_left 1048600 (show 2097200+sep.length<=2097204 by omega);omega
 have hjm:(b6 sep l).length<=140737488355328:=ae;simp only[iR]at h0;generalize args.getD 0 undef=v0 at h0⊢;cases h0 with
 |sl a b off len cap k es c hlen ha hcap hm hk hn hc h1 h=>
  simp only[bh]at hlen;subst hlen;rcases ha with he|⟨rfl,hI⟩
  .have hnil:l=[]:=by simpa using he
   subst hnil;refine lD uN himm (Calls.mono (Tryz.strings_Join_none a cap ⟨⟨sep⟩⟩ x.w) λe w' ⟨h1,h2⟩=>⟨h1,h2▸ie.refl _⟩) (λx'=>?_);exact zu [] aF
  .have hcell:∀i,(hi:i<l.length)->x.w.cell? ⟨b,off+i,none⟩=some (.string ⟨⟨l[i]⟩⟩):=λi hi=>by
    have q1:=hc i 0 hi ae;have q2:=h i 0 hi ae;have e:((l.map D.str).getD i .any).cells.getD 0 .any=.str l[i]:=by simp[hi,D.cells]
    rw[e]at q2;rw[(iV q2).1]at q1;simpa using q1
   have e2:(l.map λt=>(⟨⟨t⟩⟩:ByteArray)).map (λt=>t.data.toList)=l:=by rw[List.map_map];exact List.map_id l
   have hjl:Lib.join ((l.map λt=>(⟨⟨t⟩⟩:ByteArray)).map (λt=>t.data.toList)) (⟨⟨sep⟩⟩:ByteArray).data.toList=b6 sep l:=by rw[e2];exact(Ma sep l).symm
   have key:=Tryz.strings_Join b off cap (l.map λt=>⟨⟨t⟩⟩) ⟨⟨sep⟩⟩ x.w (λj y hy=>by
    rw[List.getElem?_map,c7]at hy;obtain⟨t,ht,rfl⟩:=hy;obtain⟨hlt,rfl⟩:=List.getElem?_eq_some_iff.1 ht;exact hcell j hlt) (himm b hI) eJ (by simpa using hcap) (by rw[hjl];exact hjm)
   rw[hjl,bh]at key;refine lD uN himm (Calls.mono key λe w' ⟨h1,h2⟩=>⟨h1,h2.os,h2.tape,h2.output,h2.size,h2.block⟩) (λx'=>?_);exact .str _ (by simp only[maxLen];omega)
end
def hv (c:UInt8):Nat:=if bE c.toNat=true then c.toNat-48 else c.toNat-87
def Bh (s:av):Nat:=s.foldl (λn c=>n*16+hv c) 0
def ea.wf (x:ea):Prop:=0<=x.sum/\x.sum<18446744073709551616
def jE.wf (l:jE):=∀x∈l.lines,x.wf
def adw {P:Program}(h:P.funcs.all (λf=>!f.goes)=true)(f:FuncId):P.goes f=false:=by
 have h1:∀g:Nat,(P.funcs[g]?).any Func.goes=false:=λg=>by
  cases hg:P.funcs[g]? with
  |none=>rfl
  |some fn=>
   have hm:=Array.mem_of_getElem? hg;have:=Array.all_eq_true'.1 h fn hm;simpa using this
 have h2:P.funcs.any Func.goes=false:=by
  rw[Bool.eq_false_iff];intro e;obtain⟨x,hx,e⟩:=Array.any_eq_true'.1 e;have:=Array.all_eq_true'.1 h x hx;simp[e]at this
 unfold Program.goes;rw[h2,Bool.and_false,Bool.or_false];rw[Bool.eq_false_iff];intro e;obtain⟨x,_,e⟩:=List.any_eq_true.1 e;rw[h1]at e;cases e
def T8 {P:Program}{c:OpenClaim}(hs:c.start=.entering)(h:P.funcs.all (λf=>!f.goes)=true):false=c.goesBy P:=by
 unfold OpenClaim.goesBy Program.goesAt Program.goesFrom;rw[hs];cases P.funcNamed c.func<;>simp[adw h]
end Go.Abs
