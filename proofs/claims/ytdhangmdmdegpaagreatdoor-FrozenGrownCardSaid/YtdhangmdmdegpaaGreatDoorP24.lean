/- A part of the proofs. -/
import Derived.Ground.Names2Prog
import Derived.KernelRfl
import Derived.Lib.CountLaws
import Derived.Lib.IndexMore
import Derived.Lib.ItoaNum
import Derived.Lib.Join
import Derived.Lib.Split
import Derived.Lib.SplitLaws
import Derived.Lib.Strings
import Derived.Lib.TrimByte
import Derived.Shelf.LaysM
import Derived.Shelf.Slices.SearchI
import Derived.Shelf.Small.Strs
import Derived.Shelf.Small.Utf8
import Derived.Shelf.Small.Wraps
import Derived.Shelf.Strconv.Itoa0
import Derived.Shelf.Strconv.Itoa1
import Derived.Shelf.Strconv.Itoa2
import Derived.Shelf.Strconv.Itoa3
import Derived.Shelf.Strings.AsciiSet
import Derived.Shelf.Strings.Builder1
import Derived.Shelf.Strings.Builder2
import Derived.Shelf.Strings.Builder2Cap
import Derived.Shelf.Strings.BuilderF
import Derived.Shelf.Strings.BuilderK
import Derived.Shelf.Strings.Count
import Derived.Shelf.Strings.Cut
import Derived.Shelf.Strings.Explode
import Derived.Shelf.Strings.OnBuilder
import Derived.Shelf.Strings.Prefix
import Derived.Shelf.Strings.RuneCount
import Derived.Shelf.Strings.Runes
import Derived.Shelf.Strings.Search1
import Derived.Shelf.Strings.Search2
import Derived.Shelf.Strings.Search3
import Derived.Shelf.Strings.Shaped
import Derived.Shelf.Strings.Split
import Derived.Shelf.Strings.SplitShaped
import Derived.Shelf.Strings.Trim
import Derived.Shelf.Unicode.Decode
import Derived.Shelf.Unicode.DecodeAny
import Derived.Shelf.Unicode.DecodeLast
import Derived.Shelf.Unicode.DecodeSlow
import Derived.Shelf.Utf8.RuneCount
import Derived.Test.YtdhangmdmdegpaaGreatDoorProg
import GoSem.ClaimGoes
import Derived.Test.YtdhangmdmdegpaaGreatDoorP23
set_option linter.all false
set_option maxRecDepth 60000
set_option maxHeartbeats 2000000
namespace Go.Proofs
open Go.Shelf
def Tryz.bldR:Go.Shelf.Ren:=⟨fun|166=>294|167=>295|169=>265|240=>318|276=>340|n=>n,fun|70=>360|9=>9|0=>0|72=>362|37=>229|3=>3|5=>5|4=>4|20=>20|75=>382|80=>365|164=>418|127=>387|n=>n,fun|n=>n⟩
def Tryz.R6:Go.Proofs.Lays.n166 Tryz.prog Tryz.bldR:={
 mixed:=by kernel_rfl
 f166:=Tryz.func294.trans (congrArg some (by kernel_rfl))
 f240:=Tryz.func318.trans (congrArg some (by kernel_rfl))
 f276:=Tryz.func340.trans (congrArg some (by kernel_rfl))
 t0:=Tryz.underlying0
 a0:=Tryz.isAgg0
 z0:=Tryz.sizeOf0
 v0:=Tryz.zeroValue0
 t3:=Tryz.underlying3
 a3:=Tryz.isAgg3
 z3:=Tryz.sizeOf3
 v3:=Tryz.zeroValue3
 t4:=Tryz.underlying4
 a4:=Tryz.isAgg4
 z4:=Tryz.sizeOf4
 v4:=Tryz.zeroValue4
 t9:=Tryz.underlying9
 a9:=Tryz.isAgg9
 z9:=Tryz.sizeOf9
 v9:=Tryz.zeroValue9
 t20:=Tryz.underlying20
 a20:=Tryz.isAgg20
 z20:=Tryz.sizeOf20
 v20:=Tryz.zeroValue20
 t37:=Tryz.underlying229
 a37:=Tryz.isAgg229
 z37:=Tryz.sizeOf229
 v37:=Tryz.zeroValue229
 t70:=Tryz.underlying360
 a70:=Tryz.isAgg360
 z70:=Tryz.sizeOf360
 v70:=Tryz.zeroValue360
 t72:=Tryz.underlying362
 a72:=Tryz.isAgg362
 z72:=Tryz.sizeOf362
 v72:=Tryz.zeroValue362
 t75:=Tryz.underlying382
 a75:=Tryz.isAgg382
 z75:=Tryz.sizeOf382
 v75:=Tryz.zeroValue382
 t164:=Tryz.underlying418
 a164:=Tryz.isAgg418
 z164:=Tryz.sizeOf418
 v164:=Tryz.zeroValue418}
def Tryz.R7:Go.Proofs.Lays.n167 Tryz.prog Tryz.bldR:={
 mixed:=by kernel_rfl
 f167:=Tryz.func295.trans (congrArg some (by kernel_rfl))
 f240:=Tryz.func318.trans (congrArg some (by kernel_rfl))
 f276:=Tryz.func340.trans (congrArg some (by kernel_rfl))
 t0:=Tryz.underlying0
 a0:=Tryz.isAgg0
 z0:=Tryz.sizeOf0
 v0:=Tryz.zeroValue0
 t4:=Tryz.underlying4
 a4:=Tryz.isAgg4
 z4:=Tryz.sizeOf4
 v4:=Tryz.zeroValue4
 t5:=Tryz.underlying5
 a5:=Tryz.isAgg5
 z5:=Tryz.sizeOf5
 v5:=Tryz.zeroValue5
 t9:=Tryz.underlying9
 a9:=Tryz.isAgg9
 z9:=Tryz.sizeOf9
 v9:=Tryz.zeroValue9
 t20:=Tryz.underlying20
 a20:=Tryz.isAgg20
 z20:=Tryz.sizeOf20
 v20:=Tryz.zeroValue20
 t37:=Tryz.underlying229
 a37:=Tryz.isAgg229
 z37:=Tryz.sizeOf229
 v37:=Tryz.zeroValue229
 t70:=Tryz.underlying360
 a70:=Tryz.isAgg360
 z70:=Tryz.sizeOf360
 v70:=Tryz.zeroValue360
 t72:=Tryz.underlying362
 a72:=Tryz.isAgg362
 z72:=Tryz.sizeOf362
 v72:=Tryz.zeroValue362
 t75:=Tryz.underlying382
 a75:=Tryz.isAgg382
 z75:=Tryz.sizeOf382
 v75:=Tryz.zeroValue382
 t164:=Tryz.underlying418
 a164:=Tryz.isAgg418
 z164:=Tryz.sizeOf418
 v164:=Tryz.zeroValue418}
def Tryz.R8:Go.Proofs.Lays.n169 Tryz.prog Tryz.bldR:={
 mixed:=by kernel_rfl
 f169:=Tryz.func265.trans (congrArg some (by kernel_rfl))
 t0:=Tryz.underlying0
 a0:=Tryz.isAgg0
 z0:=Tryz.sizeOf0
 v0:=Tryz.zeroValue0
 t3:=Tryz.underlying3
 a3:=Tryz.isAgg3
 z3:=Tryz.sizeOf3
 v3:=Tryz.zeroValue3
 t9:=Tryz.underlying9
 a9:=Tryz.isAgg9
 z9:=Tryz.sizeOf9
 v9:=Tryz.zeroValue9
 t37:=Tryz.underlying229
 a37:=Tryz.isAgg229
 z37:=Tryz.sizeOf229
 v37:=Tryz.zeroValue229
 t70:=Tryz.underlying360
 a70:=Tryz.isAgg360
 z70:=Tryz.sizeOf360
 v70:=Tryz.zeroValue360
 t72:=Tryz.underlying362
 a72:=Tryz.isAgg362
 z72:=Tryz.sizeOf362
 v72:=Tryz.zeroValue362
 t127:=Tryz.underlying387
 a127:=Tryz.isAgg387
 z127:=Tryz.sizeOf387
 v127:=Tryz.zeroValue387}
def Tryz.bldX:Builder.Extra Tryz.prog Tryz.bldR:={
 sizeBuilder:=by kernel_rfl
 liesBuilder:=by kernel_rfl
 t5:=Tryz.underlying5
 a5:=Tryz.isAgg5
 z5:=Tryz.sizeOf5
 v5:=Tryz.zeroValue5
 infoByte:=by kernel_rfl
 cellsByte:=by kernel_rfl
 sizeByte:=by kernel_rfl
 neB5:=by decide}
end Go.Proofs
def dJ {α:Type}{a:Option α}{b c:α}(h:a=some b)(e:b=c:=by kernel_rfl):a=some c:=h.trans (congrArg some e)
namespace Go.Proofs
open Go.Shelf
def Tryz.lays156_ren:Go.Shelf.Ren:=⟨fun|156=>264|165=>297|166=>294|169=>265|240=>318|241=>320|276=>340|277=>342|n=>n,fun|31=>74|9=>9|3=>3|4=>4|0=>0|20=>20|72=>362|76=>383|70=>360|37=>229|75=>382|127=>387|164=>418|5=>5|80=>365|n=>n,fun|n=>n⟩
def Tryz.lays156:Go.Proofs.Lays.n156 Tryz.prog Tryz.lays156_ren:={
 mixed:=by kernel_rfl
 f156:=dJ Tryz.func264
 f165:=dJ Tryz.func297
 f166:=dJ Tryz.func294
 f169:=dJ Tryz.func265
 f240:=dJ Tryz.func318
 f241:=dJ Tryz.func320
 f276:=dJ Tryz.func340
 f277:=dJ Tryz.func342
 t0:=Tryz.underlying0
 a0:=Tryz.isAgg0
 z0:=Tryz.sizeOf0
 v0:=Tryz.zeroValue0
 t3:=Tryz.underlying3
 a3:=Tryz.isAgg3
 z3:=Tryz.sizeOf3
 v3:=Tryz.zeroValue3
 t4:=Tryz.underlying4
 a4:=Tryz.isAgg4
 z4:=Tryz.sizeOf4
 v4:=Tryz.zeroValue4
 t9:=Tryz.underlying9
 a9:=Tryz.isAgg9
 z9:=Tryz.sizeOf9
 v9:=Tryz.zeroValue9
 t20:=Tryz.underlying20
 a20:=Tryz.isAgg20
 z20:=Tryz.sizeOf20
 v20:=Tryz.zeroValue20
 t31:=Tryz.underlying74
 a31:=Tryz.isAgg74
 z31:=Tryz.sizeOf74
 v31:=Tryz.zeroValue74
 t37:=Tryz.underlying229
 a37:=Tryz.isAgg229
 z37:=Tryz.sizeOf229
 v37:=Tryz.zeroValue229
 t70:=Tryz.underlying360
 a70:=Tryz.isAgg360
 z70:=Tryz.sizeOf360
 v70:=Tryz.zeroValue360
 t72:=Tryz.underlying362
 a72:=Tryz.isAgg362
 z72:=Tryz.sizeOf362
 v72:=Tryz.zeroValue362
 t75:=Tryz.underlying382
 a75:=Tryz.isAgg382
 z75:=Tryz.sizeOf382
 v75:=Tryz.zeroValue382
 t76:=Tryz.underlying383
 a76:=Tryz.isAgg383
 z76:=Tryz.sizeOf383
 v76:=Tryz.zeroValue383
 t127:=Tryz.underlying387
 a127:=Tryz.isAgg387
 z127:=Tryz.sizeOf387
 v127:=Tryz.zeroValue387
 t164:=Tryz.underlying418
 a164:=Tryz.isAgg418
 z164:=Tryz.sizeOf418
 v164:=Tryz.zeroValue418}
def Tryz.Builder_Extra_156:Builder.Extra Tryz.prog Tryz.lays156_ren:={
 sizeBuilder:=by kernel_rfl
 liesBuilder:=by kernel_rfl
 t5:=Tryz.underlying5
 a5:=Tryz.isAgg5
 z5:=Tryz.sizeOf5
 v5:=Tryz.zeroValue5
 infoByte:=by kernel_rfl
 cellsByte:=by kernel_rfl
 sizeByte:=by kernel_rfl
 neB5:=by decide}
open Go.RowKit in
theorem Tryz.strings_Join_none (a:Option Addr)(c:Nat)(sep:ByteArray)(w:World):
  Calls Tryz.prog 264 #[.slice a 0 c,.string sep] w λe w'=>e=.returned (.string ⟨#[]⟩)∧w'=w:=Any.strings_Join_none Tryz.lays156 Tryz.Builder_Extra_156 a c sep w
open Go.RowKit in
theorem Tryz.strings_Join (bk o c:Nat)(xs:List ByteArray)(sep:ByteArray)(w:World)(hcells:∀(j:Nat) x,xs[j]? =some x→w.cell? ⟨bk,o+j,none⟩=some (.string x))(hbk:bk<w.heap.size)(hN:xs.length≤140737488355328)(hcap:xs.length≤c)(hlen:(Lib.join (xs.map (·.data.toList)) sep.data.toList).length≤140737488355328):
  Calls Tryz.prog 264 #[.slice (some ⟨bk,o,none⟩) xs.length c,.string sep] w λe w'=>e=.returned (.string ⟨(Lib.join (xs.map (·.data.toList)) sep.data.toList).toArray⟩)∧Below w.heap.size w w':=Any.strings_Join Tryz.lays156 Tryz.Builder_Extra_156 bk o c xs sep w hcells hbk hN hcap hlen
def Tryz.lays160_ren:Go.Shelf.Ren:=⟨fun|160=>330|232=>348|231=>347|227=>349|234=>351|233=>350|236=>353|235=>352|228=>370|271=>373|151=>372|197=>371|120=>387|152=>386|260=>385|137=>395|119=>396|224=>379|225=>378|217=>377|266=>388|n=>n,fun|9=>9|4=>4|3=>3|5=>5|117=>428|116=>427|0=>0|124=>431|21=>21|105=>435|46=>275|119=>453|139=>456|138=>455|n=>n,fun|3=>3|4=>4|n=>n⟩
def Tryz.lays160:Go.Proofs.Lays.n160 Tryz.prog Tryz.lays160_ren:={
 mixed:=by kernel_rfl
 f119:=dJ Tryz.func396
 f120:=dJ Tryz.func387
 f137:=dJ Tryz.func395
 f151:=dJ Tryz.func372
 f152:=dJ Tryz.func386
 f160:=dJ Tryz.func330
 f197:=dJ Tryz.func371
 f217:=dJ Tryz.func377
 f224:=dJ Tryz.func379
 f225:=dJ Tryz.func378
 f227:=dJ Tryz.func349
 f228:=dJ Tryz.func370
 f231:=dJ Tryz.func347
 f232:=dJ Tryz.func348
 f233:=dJ Tryz.func350
 f234:=dJ Tryz.func351
 f235:=dJ Tryz.func352
 f236:=dJ Tryz.func353
 f260:=dJ Tryz.func385
 f266:=dJ Tryz.func388
 f271:=dJ Tryz.func373
 t0:=Tryz.underlying0
 a0:=Tryz.isAgg0
 z0:=Tryz.sizeOf0
 v0:=Tryz.zeroValue0
 t3:=Tryz.underlying3
 a3:=Tryz.isAgg3
 z3:=Tryz.sizeOf3
 v3:=Tryz.zeroValue3
 t4:=Tryz.underlying4
 a4:=Tryz.isAgg4
 z4:=Tryz.sizeOf4
 v4:=Tryz.zeroValue4
 t5:=Tryz.underlying5
 a5:=Tryz.isAgg5
 z5:=Tryz.sizeOf5
 v5:=Tryz.zeroValue5
 t9:=Tryz.underlying9
 a9:=Tryz.isAgg9
 z9:=Tryz.sizeOf9
 v9:=Tryz.zeroValue9
 t21:=Tryz.underlying21
 a21:=Tryz.isAgg21
 z21:=Tryz.sizeOf21
 v21:=Tryz.zeroValue21
 t46:=Tryz.underlying275
 a46:=Tryz.isAgg275
 z46:=Tryz.sizeOf275
 v46:=Tryz.zeroValue275
 t105:=Tryz.underlying435
 a105:=Tryz.isAgg435
 z105:=Tryz.sizeOf435
 v105:=Tryz.zeroValue435
 t116:=Tryz.underlying427
 a116:=Tryz.isAgg427
 z116:=Tryz.sizeOf427
 t117:=Tryz.underlying428
 a117:=Tryz.isAgg428
 z117:=Tryz.sizeOf428
 v117:=Tryz.zeroValue428
 t119:=Tryz.underlying453
 a119:=Tryz.isAgg453
 z119:=Tryz.sizeOf453
 t124:=Tryz.underlying431
 a124:=Tryz.isAgg431
 z124:=Tryz.sizeOf431
 v124:=Tryz.zeroValue431
 t138:=Tryz.underlying455
 a138:=Tryz.isAgg455
 z138:=Tryz.sizeOf455
 v138:=Tryz.zeroValue455
 t139:=Tryz.underlying456
 a139:=Tryz.isAgg456
 z139:=Tryz.sizeOf456
 v139:=Tryz.zeroValue456
 g3:=by kernel_rfl
 g4:=by kernel_rfl}
open Go.RowKit in
theorem Tryz.strings_Trim_one (s:ByteArray)(c:UInt8)(hc:c.toNat<128)(w:World)(hs:s.size≤9223372036854775807):
  Calls Tryz.prog 330 #[.string s,.string ⟨#[c]⟩] w λe w'=>e=.returned (.string ⟨(Lib.trimB s.data.toList c).toArray⟩)∧(w'=w∨w'=w.drew):=Any.strings_Trim_one Tryz.lays160 s c hc w hs
def Tryz.lays103_ren:Go.Shelf.Ren:=⟨fun|103=>315|210=>338|206=>365|n=>n,fun|9=>9|4=>4|24=>401|3=>3|n=>n,fun|n=>n⟩
def Tryz.lays103:Go.Proofs.Lays.n103 Tryz.prog Tryz.lays103_ren:={
 mixed:=by kernel_rfl
 f103:=dJ Tryz.func315
 f206:=dJ Tryz.func365
 f210:=dJ Tryz.func338
 t3:=Tryz.underlying3
 a3:=Tryz.isAgg3
 z3:=Tryz.sizeOf3
 v3:=Tryz.zeroValue3
 t4:=Tryz.underlying4
 a4:=Tryz.isAgg4
 z4:=Tryz.sizeOf4
 v4:=Tryz.zeroValue4
 t9:=Tryz.underlying9
 a9:=Tryz.isAgg9
 z9:=Tryz.sizeOf9
 v9:=Tryz.zeroValue9
 t24:=Tryz.underlying401
 a24:=Tryz.isAgg401
 z24:=Tryz.sizeOf401
 v24:=Tryz.zeroValue401}
open Go.RowKit in
theorem Tryz.strings_CutPrefix (s p:ByteArray)(w:World):
  Calls Tryz.prog 315 #[.string s,.string p] w λe w'=>e=.returned (.tuple #[.string ⟨(Lib.trimPrefix s.data.toList p.data.toList).toArray⟩,.bool (Lib.hasPrefix s.data.toList p.data.toList)])∧w'=w:=Any.strings_CutPrefix Tryz.lays103 s p w
def Tryz.laysM171_ren:Go.Shelf.Ren:=⟨fun|171=>319|243=>341|246=>367|283=>381|284=>382|285=>383|286=>384|129=>391|317=>390|318=>392|319=>393|320=>394|337=>397|338=>398|n=>n,fun|3=>3|9=>9|2=>2|4=>4|171=>440|0=>0|53=>73|37=>229|5=>5|173=>443|212=>450|51=>446|20=>20|213=>451|46=>275|232=>459|233=>460|n=>n,fun|17=>2|18=>5|19=>6|n=>n⟩
def Tryz.laysM171:Go.Proofs.LaysM.n171 Tryz.prog Tryz.laysM171_ren:={
 mixed:=by kernel_rfl
 f129:=dJ Tryz.func391
 f171:=dJ Tryz.func319
 f243:=dJ Tryz.func341
 f246:=dJ Tryz.func367
 f283:=dJ Tryz.func381
 f284:=dJ Tryz.func382
 f285:=dJ Tryz.func383
 f286:=dJ Tryz.func384
 f317:=dJ Tryz.func390
 f318:=dJ Tryz.func392
 f319:=dJ Tryz.func393
 f320:=dJ Tryz.func394
 f337:=dJ Tryz.func397
 f338:=dJ Tryz.func398
 t0:=Tryz.underlying0
 a0:=Tryz.isAgg0
 z0:=Tryz.sizeOf0
 v0:=Tryz.zeroValue0
 t2:=Tryz.underlying2
 a2:=Tryz.isAgg2
 z2:=Tryz.sizeOf2
 v2:=Tryz.zeroValue2
 t3:=Tryz.underlying3
 a3:=Tryz.isAgg3
 z3:=Tryz.sizeOf3
 v3:=Tryz.zeroValue3
 t4:=Tryz.underlying4
 a4:=Tryz.isAgg4
 z4:=Tryz.sizeOf4
 v4:=Tryz.zeroValue4
 t5:=Tryz.underlying5
 a5:=Tryz.isAgg5
 z5:=Tryz.sizeOf5
 v5:=Tryz.zeroValue5
 t9:=Tryz.underlying9
 a9:=Tryz.isAgg9
 z9:=Tryz.sizeOf9
 v9:=Tryz.zeroValue9
 t20:=Tryz.underlying20
 a20:=Tryz.isAgg20
 z20:=Tryz.sizeOf20
 v20:=Tryz.zeroValue20
 t37:=Tryz.underlying229
 a37:=Tryz.isAgg229
 z37:=Tryz.sizeOf229
 v37:=Tryz.zeroValue229
 t46:=Tryz.underlying275
 a46:=Tryz.isAgg275
 z46:=Tryz.sizeOf275
 v46:=Tryz.zeroValue275
 t51:=Tryz.underlying446
 a51:=Tryz.isAgg446
 z51:=Tryz.sizeOf446
 v51:=Tryz.zeroValue446
 t53:=Tryz.underlying73
 a53:=Tryz.isAgg73
 z53:=Tryz.sizeOf73
 v53:=Tryz.zeroValue73
 t171:=Tryz.underlying440
 a171:=Tryz.isAgg440
 z171:=Tryz.sizeOf440
 v171:=Tryz.zeroValue440
 t173:=Tryz.underlying443
 a173:=Tryz.isAgg443
 z173:=Tryz.sizeOf443
 v173:=Tryz.zeroValue443
 t212:=Tryz.underlying450
 a212:=Tryz.isAgg450
 z212:=Tryz.sizeOf450
 v212:=Tryz.zeroValue450
 t213:=Tryz.underlying451
 a213:=Tryz.isAgg451
 z213:=Tryz.sizeOf451
 t232:=Tryz.underlying459
 a232:=Tryz.isAgg459
 z232:=Tryz.sizeOf459
 v232:=Tryz.zeroValue459
 t233:=Tryz.underlying460
 a233:=Tryz.isAgg460
 z233:=Tryz.sizeOf460
 v233:=Tryz.zeroValue460
 g17:=by kernel_rfl
 g18:=by kernel_rfl
 g19:=by kernel_rfl
 i0:=by kernel_rfl
 i2:=by kernel_rfl
 i3:=by kernel_rfl
 i4:=by kernel_rfl
 i5:=by kernel_rfl
 i9:=by kernel_rfl
 i20:=by kernel_rfl
 i37:=by kernel_rfl
 i46:=by kernel_rfl
 i51:=by kernel_rfl
 i53:=by kernel_rfl
 i171:=by kernel_rfl
 i173:=by kernel_rfl
 i212:=by kernel_rfl
 i232:=by kernel_rfl
 i233:=by kernel_rfl
 m17:=by kernel_rfl
 m18:=by kernel_rfl
 m19:=by kernel_rfl}
open Go.RowKit Go.Sort Go.Lib in
theorem Tryz.strconv_Itoa (n:Int)(h0:-9223372036854775808≤n)(h1:n≤9223372036854775807)(w:World)(htab:Lib.TabIs Tryz.prog w "internal/strconv.uint64pow10" .u64 Lib.pow10Tab):
  Calls Tryz.prog 319 #[.int .i64 n] w λe w'=>e=.returned (.string ⟨(Lib.itoa n).toArray⟩)∧∃k os,w'=grow (w.drewN k) os:=Any.strconv_Itoa Tryz.laysM171 n h0 h1 w htab
def Tryz.lays145_ren:Go.Shelf.Ren:=⟨fun|145=>316|220=>339|219=>366|217=>377|225=>378|224=>379|267=>380|266=>388|314=>389|n=>n,fun|9=>9|4=>4|59=>403|3=>3|5=>5|46=>275|146=>447|51=>446|n=>n,fun|1=>1|n=>n⟩
def Tryz.lays145:Go.Proofs.Lays.n145 Tryz.prog Tryz.lays145_ren:={
 mixed:=by kernel_rfl
 f145:=dJ Tryz.func316
 f217:=dJ Tryz.func377
 f219:=dJ Tryz.func366
 f220:=dJ Tryz.func339
 f224:=dJ Tryz.func379
 f225:=dJ Tryz.func378
 f266:=dJ Tryz.func388
 f267:=dJ Tryz.func380
 f314:=dJ Tryz.func389
 t3:=Tryz.underlying3
 a3:=Tryz.isAgg3
 z3:=Tryz.sizeOf3
 v3:=Tryz.zeroValue3
 t4:=Tryz.underlying4
 a4:=Tryz.isAgg4
 z4:=Tryz.sizeOf4
 v4:=Tryz.zeroValue4
 t5:=Tryz.underlying5
 a5:=Tryz.isAgg5
 z5:=Tryz.sizeOf5
 v5:=Tryz.zeroValue5
 t9:=Tryz.underlying9
 a9:=Tryz.isAgg9
 z9:=Tryz.sizeOf9
 v9:=Tryz.zeroValue9
 t46:=Tryz.underlying275
 a46:=Tryz.isAgg275
 z46:=Tryz.sizeOf275
 v46:=Tryz.zeroValue275
 t51:=Tryz.underlying446
 a51:=Tryz.isAgg446
 z51:=Tryz.sizeOf446
 v51:=Tryz.zeroValue446
 t59:=Tryz.underlying403
 a59:=Tryz.isAgg403
 z59:=Tryz.sizeOf403
 v59:=Tryz.zeroValue403
 t146:=Tryz.underlying447
 a146:=Tryz.isAgg447
 z146:=Tryz.sizeOf447
 v146:=Tryz.zeroValue447
 g1:=by kernel_rfl}
open Go.RowKit Go.Lib in
theorem Tryz.strings_Cut (s sep:ByteArray)(m:Int)(w:World)(hs:s.size<4294967281)(hm:w.cell? ⟨1,0,none⟩=some (.int .i64 m)):
  Calls Tryz.prog 316 #[.string s,.string sep] w λe w'=>e=.returned (.tuple #[.string ⟨(Lib.cut s.data.toList sep.data.toList).1.toArray⟩,.string ⟨(Lib.cut s.data.toList sep.data.toList).2.1.toArray⟩,.bool (Lib.cut s.data.toList sep.data.toList).2.2])∧∃n,w'=w.drewN n:=Any.strings_Cut Tryz.lays145 s sep m w hs hm
def Tryz.lays146_ren:Go.Shelf.Ren:=⟨fun|146=>311|221=>333|268=>356|138=>357|143=>358|195=>374|197=>371|218=>375|219=>366|260=>385|217=>377|225=>378|224=>379|267=>380|266=>388|314=>389|n=>n,fun|9=>9|31=>74|3=>3|4=>4|0=>0|105=>435|21=>21|5=>5|46=>275|119=>453|139=>456|138=>455|146=>447|51=>446|n=>n,fun|1=>1|3=>3|4=>4|n=>n⟩
def Tryz.lays146:Go.Proofs.Lays.n146 Tryz.prog Tryz.lays146_ren:={
 mixed:=by kernel_rfl
 f138:=dJ Tryz.func357
 f143:=dJ Tryz.func358
 f146:=dJ Tryz.func311
 f195:=dJ Tryz.func374
 f197:=dJ Tryz.func371
 f217:=dJ Tryz.func377
 f218:=dJ Tryz.func375
 f219:=dJ Tryz.func366
 f221:=dJ Tryz.func333
 f224:=dJ Tryz.func379
 f225:=dJ Tryz.func378
 f260:=dJ Tryz.func385
 f266:=dJ Tryz.func388
 f267:=dJ Tryz.func380
 f268:=dJ Tryz.func356
 f314:=dJ Tryz.func389
 t0:=Tryz.underlying0
 a0:=Tryz.isAgg0
 z0:=Tryz.sizeOf0
 v0:=Tryz.zeroValue0
 t3:=Tryz.underlying3
 a3:=Tryz.isAgg3
 z3:=Tryz.sizeOf3
 v3:=Tryz.zeroValue3
 t4:=Tryz.underlying4
 a4:=Tryz.isAgg4
 z4:=Tryz.sizeOf4
 v4:=Tryz.zeroValue4
 t5:=Tryz.underlying5
 a5:=Tryz.isAgg5
 z5:=Tryz.sizeOf5
 v5:=Tryz.zeroValue5
 t9:=Tryz.underlying9
 a9:=Tryz.isAgg9
 z9:=Tryz.sizeOf9
 v9:=Tryz.zeroValue9
 t21:=Tryz.underlying21
 a21:=Tryz.isAgg21
 z21:=Tryz.sizeOf21
 v21:=Tryz.zeroValue21
 t31:=Tryz.underlying74
 a31:=Tryz.isAgg74
 z31:=Tryz.sizeOf74
 v31:=Tryz.zeroValue74
 t46:=Tryz.underlying275
 a46:=Tryz.isAgg275
 z46:=Tryz.sizeOf275
 v46:=Tryz.zeroValue275
 t51:=Tryz.underlying446
 a51:=Tryz.isAgg446
 z51:=Tryz.sizeOf446
 v51:=Tryz.zeroValue446
 t105:=Tryz.underlying435
 a105:=Tryz.isAgg435
 z105:=Tryz.sizeOf435
 v105:=Tryz.zeroValue435
 t119:=Tryz.underlying453
 a119:=Tryz.isAgg453
 z119:=Tryz.sizeOf453
 t138:=Tryz.underlying455
 a138:=Tryz.isAgg455
 z138:=Tryz.sizeOf455
 v138:=Tryz.zeroValue455
 t139:=Tryz.underlying456
 a139:=Tryz.isAgg456
 z139:=Tryz.sizeOf456
 v139:=Tryz.zeroValue456
 t146:=Tryz.underlying447
 a146:=Tryz.isAgg447
 z146:=Tryz.sizeOf447
 v146:=Tryz.zeroValue447
 g1:=by kernel_rfl
 g3:=by kernel_rfl
 g4:=by kernel_rfl}
open Go.RowKit Go.Lib in
theorem Tryz.strings_Split (s sep:ByteArray)(m:Int)(w:World)(hs:s.size<4294967281)(hm:w.cell? ⟨1,0,none⟩=some (.int .i64 m))(h1:1≤sep.size):
  Calls Tryz.prog 311 #[.string s,.string sep] w λe w'=>
   e=.returned (.slice (some ⟨w.heap.size,0,none⟩) (Lib.countB s sep+1) (Lib.countB s sep+1))∧w'=w.alloc (.cells ((Lib.splitB sep 0 (Lib.countB s sep) s).map Value.string).toArray 9):=Any.strings_Split Tryz.lays146 (by kernel_rfl) s sep m w hs hm h1
end Go.Proofs
namespace Go.Abs
variable{args:Κ}{w:World}{x:X}{t:Ω}{U:TypeId}{b fid l:Nat}
def pre1 (b c:UInt8)(r:aw):([b]:aw).isPrefixOf (c::r)=(b==c):=by simp[List.isPrefixOf]
def ixO:Lad->Int
 |some k=>(k:Int)
 |none=>-1
theorem H6:∀(s:aw) (b:UInt8),Lib.index s [b]=ixO (s.findIdx? (λc=>c==b))
 |[],b=>rfl
 |c::r,b=>by
  unfold Lib.index;rw[pre1,List.findIdx?_cons,H6 r b];by_cases h:c=b
  .subst h;simp[ixO]
  .have h1:(b==c)=false:=by simp[Ne.symm h]
   have h2:(c==b)=false:=by simp[h]
   simp only[h1,h2,iL,ba];cases r.findIdx? (λc=>c==b)with
   |none=>rfl
   |some k=>
    grind [ixO]
theorem aiV (s:aw)(b:UInt8):Lib.cut s [b]=uX s b:=by
 unfold Lib.cut uX
 grind [H6,ixO]
theorem UJ (s p:aw):(Lib.trimPrefix s p,Lib.hasPrefix s p)=qU s p:=by
 unfold Lib.trimPrefix Lib.hasPrefix qU
 grind
def Mu (b:aw):∀l,cv b l=Lib.join l b
 |[]=>rfl
 |[t]=>(Lib.join_one t b).symm
 |t::u::r=>by
  rw[wm _ _ _ aJ,Mu b (u::r),Lib.join_cons,Lib.join_cons];simp[Lib.joinTail]
def decDigits_eq (n:Nat):Lib.decDigits n=og n:=by
 induction n using Nat.strongRecOn with
 |_ n ih=>
  rw[Lib.decDigits];by_cases h:n<10
  .rw[dif_pos h,B7 h];rfl
  .rw[dif_neg h,B6 ae,ih (n/10) ae];rfl
def aeE {n:Int}(h:0<=n):Lib.itoa n=og n.toNat:=by
 unfold Lib.itoa;rw[ah ae,decDigits_eq]
def Hb (b:UInt8):∀(s cur:aw),s.findIdx? (λc=>c==b)=none->fK b.toNat s cur=[cur++s]
 |[],cur,_=>by simp[fK]
 |c::r,cur,h=>by
  rw[List.findIdx?_cons]at h;split at h
  .cases h
  .rename_i hc;have hr:r.findIdx? (λc=>c==b)=none:=by
    cases hq:r.findIdx? (λc=>c==b)with
    |none=>rfl
    |some k=>rw[hq]at h;cases h
   have hne:¬((c.toNat:Int)=(b.toNat:Int)):=λe=>hc (by
    have:c.toNat=b.toNat:=ae;simp[pX.1 this])
   simp only[fK,ah hne];rw[Hb b r (cur++[c]) hr];simp
theorem EH (b:UInt8):∀(s cur:aw) (k:Nat),s.findIdx? (λc=>c==b)=some k->fK b.toNat s cur=(cur++s.take k)::fK b.toNat (s.drop (k+1)) []
 |[],cur,k,h=>by simp at h
 |c::r,cur,k,h=>by
  rw[List.findIdx?_cons]at h;split at h
  .grind [fK]
  .rename_i hc;have hne:¬((c.toNat:Int)=(b.toNat:Int)):=λe=>hc (by
    have:c.toNat=b.toNat:=ae;simp[pX.1 this])
   cases hq:r.findIdx? (λc=>c==b)with
   |none=>rw[hq]at h;cases h
   |some j=>
    rw[hq]at h;have hk:k=j+1:=by simpa using h.symm
    subst hk;simp only[fK,ah hne];rw[EH b r (cur++[c]) j hq];simp
def Wh (b:UInt8):∀(k:Nat) (s:ByteArray),Lib.countB s ⟨⟨[b]⟩⟩=k->(Lib.splitB ⟨⟨[b]⟩⟩ 0 k s).map (λt=>t.data.toList)=bh s.data.toList b.toNat:=by
 intro k;induction k with
 |zero=>
  intro s h;rw[Lib.splitB_zero];have hi:Lib.indexB s ⟨⟨[b]⟩⟩=ixO (s.data.toList.findIdx? (λc=>c==b)):=H6 _ b;cases hq:s.data.toList.findIdx? (λc=>c==b)with
  |none=>simp[bh,Hb b _ [] hq]
  |some j=>
   rw[hq]at hi;have:=Lib.countB_hit s ⟨⟨[b]⟩⟩ j (aR 1) hi;omega
 |succ k ih=>
  intro s h;have hi:Lib.indexB s ⟨⟨[b]⟩⟩=ixO (s.data.toList.findIdx? (λc=>c==b)):=H6 _ b;cases hq:s.data.toList.findIdx? (λc=>c==b)with
  |none=>
   rw[hq]at hi;have:=Lib.countB_miss s ⟨⟨[b]⟩⟩ hi;omega
  |some j=>
   rw[hq]at hi;have h1:1<=(⟨⟨[b]⟩⟩:ByteArray).size:=aR 1;have hc:=Lib.countB_hit s ⟨⟨[b]⟩⟩ j h1 hi;rw[Lib.splitB_hit _ _ _ _ j hi];simp only[List.map_cons];rw[ih _ ae];have e1:(s.extract 0 (j+0)).data.toList=s.data.toList.take j:=by
    rw[Lib.extract_data];simp
   have e2:(s.extract (j+(⟨⟨[b]⟩⟩:ByteArray).size) s.size).data.toList=s.data.toList.drop (j+1):=by
    rw[Lib.extract_data];exact gG (by rw[jS,Lib.size_eq];exact aR _)
   rw[e1,e2];simp only[bh];rw[EH b _ [] j hq];simp
section
open Go.Proofs
theorem pre2 (c d:UInt8)(r:aw):([124,124]:aw).isPrefixOf (c::d::r)=(decide (c=124)&&decide (d=124)):=by
 grind
theorem G8:∀(s cur:aw),Lib.index s [124,124]=-1->jq s cur=[cur++s]
 |[],cur,_=>by simp[jq]
 |[c],cur,_=>rfl
 |c::d::r,cur,h=>by
  unfold Lib.index at h;rw[pre2]at h;by_cases h2:c=124/\d=124
  .simp[h2.1,h2.2]at h
  .have h3:(decide (c=124)&&decide (d=124))=false:=by rw[<-Bool.decide_and];exact bA h2
   rw[h3,ah aJ]at h;have h4:Lib.index (d::r) [124,124]=-1:=by
    have:=Lib.index_ge (d::r) [124,124]
    grind
   rw[jq,ah h2,G8 (d::r) _ h4];simp
def G7:∀(s cur:aw) (i:Nat),Lib.index s [124,124]=i->jq s cur=(cur++s.take i)::jq (s.drop (i+2)) []
 |[],cur,i,h=>by simp[Lib.index]at h
 |[c],cur,i,h=>by simp[Lib.index,List.isPrefixOf]at h
 |c::d::r,cur,i,h=>by
  unfold Lib.index at h;rw[pre2]at h;by_cases h2:c=124/\d=124
  .rw[h2.1,h2.2]at h;have hi:i=0:=by simp at h;omega
   subst hi;rw[jq,ak h2];simp
  .have h3:(decide (c=124)&&decide (d=124))=false:=by rw[<-Bool.decide_and];exact bA h2
   rw[h3,ah aJ]at h;split at h
   .omega
   .obtain⟨j,rfl⟩:∃j,i=j+1:=⟨i-1,by
     have:=Lib.index_ge (d::r) [124,124];rename_i h5;have:Lib.index (d::r) [124,124]≠-1:=λe=>h5 (beq_iff_eq.2 e)
     omega⟩
    rw[jq,ah h2,G7 (d::r) _ j ae];simp
theorem Wi:∀(k:Nat) (s:ByteArray),Lib.countB s ⟨⟨[124,124]⟩⟩=k->(Lib.splitB ⟨⟨[124,124]⟩⟩ 0 k s).map (λt=>t.data.toList)=jq s.data.toList []:=by
 intro k;induction k with
 |zero=>
  intro s h;rcases Lib.indexB_cases s ⟨⟨[124,124]⟩⟩with hi|⟨i,hi,_⟩
  .rw[Lib.splitB_zero]
   grind [G8]
  .have:=Lib.countB_hit s ⟨⟨[124,124]⟩⟩ i aX hi;omega
 |succ k ih=>
  intro s h;rcases Lib.indexB_cases s ⟨⟨[124,124]⟩⟩with hi|⟨i,hi,_⟩
  .rw[Lib.countB_miss _ _ hi]at h;omega
  .have hc:=Lib.countB_hit s ⟨⟨[124,124]⟩⟩ i aX hi;rw[Lib.splitB_hit _ _ _ _ i hi,List.map_cons,ih _ ae,G7 _ _ i (show Lib.index s.data.toList [124,124]=i from hi),Lib.extract_from_zero,Lib.extract_to_end];rfl
def Hg {p:UInt8->Bool}:∀(l:aw),∀x∈l.takeWhile p,p x=true
 |[],x,h=>by cases h
 |a::r,x,h=>by
  rw[List.takeWhile_cons]at h;split at h
  .rename_i ha;rcases bH.1 h with rfl|h
   .exact ha
   .exact Hg r x h
  .cases h
theorem zb {p:UInt8->Bool}:∀(l:aw),(∀x∈l,p x=true)->l.dropWhile p=[]
 |[],_=>rfl
 |a::r,h=>by
  rw[List.dropWhile_cons,ak (h a (.head _))];exact zb r λx hx=>h x (.tail _ hx)
def CH:∀s,Ao s=s.dropWhile (· ==32)
 |[]=>rfl
 |c::r=>by
  unfold Ao;by_cases h:c=32
  .rw[ak h,CH r];simp[h]
  .rw[ah h,List.dropWhile_cons,ah rJ]
theorem Xq (s:aw):Lib.trimB s 32=CI s:=by
 unfold Lib.trimB Lib.trimLeftB Lib.trimRightB CI;rw[CH,CH];generalize hp:(λc:UInt8=>c==32)=p;have hs:s=s.takeWhile p++s.dropWhile p:=(List.takeWhile_append_dropWhile).symm;generalize ha:s.takeWhile p=a at hs;generalize hm:s.dropWhile p=m at hs;have hall:∀x∈a,p x=true:=by rw[<-ha];exact Hg s
 subst hs;rw[List.reverse_append,List.dropWhile_append];cases m with
 |nil=>
  grind [zb]
 |cons c r=>
  have hc:p c=false:=by
   have:=List.head_dropWhile_not p (l:=a++c::r) (by rw[hm];simp);simpa[hm]using this
  have hne:((c::r).reverse.dropWhile p)≠[]:=by
   rw[List.reverse_cons,List.dropWhile_append];split
   .simp[hc]
   .simp
  rw[ah (by simpa using hne),List.reverse_append,List.reverse_reverse,List.dropWhile_append,zb _ hall];simp only[List.isEmpty_nil,br];rw[List.reverse_cons,List.dropWhile_append];split
  .simp[hc]
  .simp[hc]
def y5:∀s,(Ao s).length<=s.length
 |[]=>aR _
 |c::r=>by
  unfold Ao;split
  .have:=y5 r;simp only[bJ];omega
  .exact aR _
end
section
open Go.Proofs Go.Shelf Go.RowKit
section
variable [cO]{P:Program}
def nb (U:TypeId)(w:World)(v:Value)(s:Ω):Prop:=
 (v=.slice none 0 0/\s=[])\/∃g t c,v=.slice (some ⟨g,0,none⟩) s.length t/\w.heap[g]? =some (.cells c U (0,0))/\c.size=t/\t<=maxLen/\s.length<=t/\∀i,i<s.length->c.getD i undef=.int .u8 (s.getD i 0).toNat
def iF (s:Ω):η:=s.map λb=>Value.int .u8 b.toNat
def ji (s:Ω):(iF s).length=s.length:=by simp[iF]
theorem vV (s:Ω)(i:Nat)(h:i<s.length):(iF s).getD i undef=.int .u8 (s.getD i 0).toNat:=by simp[iF,List.getD,h]
def CL (s:Ω):∀u∈iF s,u.oneCell'=true:=by
 intro u hu;obtain⟨b,_,rfl⟩:=bI.1 hu;rfl
theorem S5 {x y:Ω}{zs:Κ}(i:Nat)(hi:i<(x++y).length):(((iF x++iF y).toArray++zs).getD i undef)=.int .u8 ((x++y).getD i 0).toNat:=by
 rw[<-bT]
 grind [cY,iF,vV]
def adh {t u ty:TypeId}{i:TypeInfo}(ht:P.underlying t=some (.slice U))(hi:P.info? U=some i)(hz:i.zero=some (.int .u8 0))(hs:i.size=1)(hby:i.bytes=1){v xv:Value}{s s2:Ω}(hv:nb U w v s)(h0:s2≠[])(hsrc:Go.Src P 1 u xv s2.length (iF s2) w)(hle:s.length+s2.length<=1099511627776):
  ∃g' t' w',(Builtin.append_ #[t,u] ty #[v,xv]).run P w=.ok (.slice (some ⟨g',0,none⟩) (s++s2).length t') w'/\nb U w' (.slice (some ⟨g',0,none⟩) (s++s2).length t') (s++s2)/\w.grownBy w' v.ownBlock/\(v.ownBlock=some g'\/w.heap.size<=g')/\g'<w'.heap.size:=by
 have hp:0<s2.length:=List.length_pos_iff.2 h0;have hm:maxLen=9223372036854775807:=rfl;rw[<-hs]at hsrc;rcases hv with⟨rfl,rfl⟩|⟨g,cap,c,rfl,hg,hcs,hcm,hle2,hc⟩
 .have hr:=run_append_grow_src (P:=P) w t u ty U i _ ht hi hz none 0 0 [] (by simp[Builtin.firstCells,loadCells,loadCellsFrom]) xv s2.length (iF s2) hsrc ae (by simp only[cj]at hle;omega) (by rw[hby];exact growslice_fits ae (by simp only[cj]at hle;omega));have hge:=grownCap_ge w (0+s2.length) 0 U;have hcm2:grownCap w (0+s2.length) 0 U<=maxLen:=grownCap_le_maxLen w (0+s2.length) 0 U (by simp only[cj]at hle;omega);simp only[cG,rH]at hr hge hcm2;refine⟨w.heap.size,_,_,hr,.inr ⟨w.heap.size,_,_,rfl,ee w.drew _, ?_,hcm2,hge,λj hj=>?_⟩,⟨rfl,rfl,rfl, ?_,λk hk _=>mf w.drew _ k hk⟩,.inr (aR _), ?_⟩
  .have hz1:(Value.int IntKind.u8 0).cells.size=1:=rfl;simp only[rH,Array.size_append,List.size_toArray,ji,size_zeroCells,hz1];omega
  .exact S5 (x:=[]) j hj
  .show w.heap.size<=(w.drew.heap.push _).size;rw[Array.size_push];exact Nat.le_succ _
  .show w.heap.size<(w.drew.heap.push _).size;rw[Array.size_push];exact Nat.lt_succ_self _
 .by_cases hroom:s.length+s2.length<=cap
  .have hr:=run_append_room_src (P:=P) w t u ty U i ht hi g 0 s.length cap xv s2.length (iF s2) hsrc hroom (λj hj=>by
    rw[hs,cell_of_heap hg (by rw[ji]at hj;omega)];rfl) (λj hj=>by simp[World.frozen?,hg])
   obtain⟨c',s1,s3,s4⟩:=mi g (iF s2) (0+s.length*i.size) w c U (0,0) hg (by rw[ji,hs];omega);obtain⟨f1,f2,f3,f4⟩:=ll g (iF s2) (0+s.length*i.size) w;have hlt:g<w.heap.size:=by
    rcases dX g w.heap.size with h|h
    .exact h
    .simp[Array.getElem?_eq_none h]at hg
   refine⟨g,cap,_,by simpa using hr,.inr ⟨g,cap,c',aJ,s1,ae,hcm,by rw[cx];exact hroom,λj hj=>?_⟩,⟨f1,f2,f3,ae,λk _ hk=>lq g _ _ _ k (λe=>hk (by simp[Value.ownBlock,e]))⟩,.inl rfl,ae⟩;rw[s4,ji,hs];rw[cx]at hj;by_cases hj2:j<s.length
   .rw[ah ae,hc j hj2,cY,ak hj2]
   .rw[ak ae,vV _ _ ae,cY,ah hj2];congr 4;omega
  .have hold:(Builtin.firstCells i.size s.length (.slice (some ⟨g,0,none⟩) s.length cap)).run P w.drew=.ok (iF s).toArray w.drew:=by
    refine run_firstCells_some w.drew i.size s.length _ s.length cap _ (by simp[ji,hs]) (λj u' hj=>?_);have hj2:j<s.length:=by
     have:=(List.getElem?_eq_some_iff.1 hj).1;rwa [ji]at this
    have hg':w.drew.heap[g]? =some (.cells c U (0,0)):=hg;rw[Addr.Bq,cell_of_heap hg' ae,cG,hc j hj2,<-vV s j hj2];simp[List.getD,hj]
   have hr:=run_append_grow_src (P:=P) w t u ty U i _ ht hi hz (some ⟨g,0,none⟩) s.length cap (iF s) hold xv s2.length (iF s2) hsrc ae ae (by rw[hby];exact growslice_fits ae ae);have hge:=grownCap_ge w (s.length+s2.length) cap U;have hcm2:grownCap w (s.length+s2.length) cap U<=maxLen:=grownCap_le_maxLen w (s.length+s2.length) cap U ae;refine⟨w.heap.size,_,_,by simpa using hr,.inr ⟨w.heap.size,_,_,aJ,ee w.drew _, ?_,hcm2,by simpa using hge,λj hj=>?_⟩,⟨rfl,rfl,rfl, ?_,λk hk _=>mf w.drew _ k hk⟩,.inr (aR _), ?_⟩
   .have hz1:(Value.int IntKind.u8 0).cells.size=1:=rfl;simp only[Array.size_append,List.size_toArray,cx,ji,size_zeroCells,hz1];omega
   .exact S5 j hj
   .show w.heap.size<=(w.drew.heap.push _).size;rw[Array.size_push];exact Nat.le_succ _
   .show w.heap.size<(w.drew.heap.push _).size;rw[Array.size_push];exact Nat.lt_succ_self _
def E7 {ops:Array Oper}{rest:List Oper}{o:Oper}{a:Act}{Q:Ρ}(hgd:o.guard=none)(sl x:Operand)(t u:TypeId)(ho:o.op=.call {callee:=.builtin .append,args:=#[sl,x],argTypes:=#[t,u]}){i:TypeInfo}(ht:P.underlying t=some (.slice U))(hi:P.info? U=some i)(hz:i.zero=some (.int .u8 0))(hsz:i.size=1)(hby:i.bytes=1){v xv:Value}{s s2:Ω}(hs:a.eval sl=v)(hx:a.eval x=xv)(hv:nb U w v s)(h0:s2≠[])(hsrc:Go.Src P 1 u xv s2.length (iF s2) w)(hle:s.length+s2.length<=1099511627776)(h:∀g' t' w',nb U w' (.slice (some ⟨g',0,none⟩) (s++s2).length t') (s++s2)->w.grownBy w' v.ownBlock->(v.ownBlock=some g'\/w.heap.size<=g')->g'<w'.heap.size->wpList P ops Q rest (a.put o.dst (.slice (some ⟨g',0,none⟩) (s++s2).length t')) w'):wpList P ops Q (o::rest) a w:=by
 refine wpList_plain hgd λK hK=>?_
 obtain⟨g',t',w',hr,h2,h3,h4,h5⟩:=adh (P:=P) (ty:=o.type) ht hi hz hsz hby hv h0 hsrc hle;unfold Oper.wp execOp;simp only[ho,resolve,invoke,builtin,Sem.run_bind,Sem.run_pure,Result.andThen_ok,List.map_toArray,List.map_cons,List.map_nil,hs,hx,hr];exact hK _ _ (h g' t' w' h2 h3 h4 h5)
def Pw (w:World)(g n:Nat):(w.drew.freeze ⟨g,0,none⟩ n).os=w.os/\(w.drew.freeze ⟨g,0,none⟩ n).tape=w.tape/\(w.drew.freeze ⟨g,0,none⟩ n).output=w.output/\(w.drew.freeze ⟨g,0,none⟩ n).heap.size=w.heap.size/\∀k,k≠g->(w.drew.freeze ⟨g,0,none⟩ n).heap[k]? =w.heap[k]? :=by
 unfold World.freeze;split
 .exact⟨rfl,rfl,rfl,rfl,λ_ _=>rfl⟩
 .refine⟨rfl,rfl,rfl,aJ,λk hk=>?_⟩;simp only[Array.getElem?_modify];rw[ah (λe=>hk e.symm)];rfl
def uW (b:Nat)(u:Bool)(v:Value)(T:TypeId):Obj:=.cells #[.pointer (if u=true then some ⟨b,0,none⟩else none),v] T (0,0)
variable {J:Ren}
def Gc (L:Lays.n240 P J)(X:Builder.X72 P J){u:Bool}{v:Value}(h:w.heap[b]? =some (uW b u v (J.t 72))):
  Calls P (J.f 240) #[.pointer (some ⟨b,0,none⟩)] w λe w'=>e=.returned (.tuple #[])/\w'.heap[b]? =some (uW b true v (J.t 72))/\w.grownBy w' (some b):=by
 unfold uW at h;cases u with
 |true=>
  refine(Any.Builder_copyCheck_used L X b w (by rw[Lib.cell_of_heap h];rfl)).mono ?_;rintro e w' ⟨rfl,rfl⟩;exact⟨rfl,h,⟨rfl,rfl,rfl,aR _,λ_ _ _=>rfl⟩⟩
 |false=>
  refine(Any.Builder_copyCheck_fresh L X b w (by rw[Lib.cell_of_heap h];rfl) (by simp[World.shape?,h]) (Lib.frozen_of_heap h 0)).mono ?_;rintro e w' ⟨rfl,rfl⟩;exact⟨rfl,by simp[World.setCell,Array.getElem?_modify,h,uW],⟨rfl,rfl,rfl,by simp[World.setCell],λk _ hk=>Below.heap_setCell _ _ _ _ (λe=>hk (by simp[e]))⟩⟩
def LS (T U:TypeId)(b:Nat)(g:Lad)(s:Ω)(w w':World):Prop:=
 ∃g' t',w'.heap[b]? =some (uW b true (.slice (some ⟨g',0,none⟩) s.length t') T)/\nb U w' (.slice (some ⟨g',0,none⟩) s.length t') s/\(g=some g'\/w.heap.size<=g')/\g'<w'.heap.size/\g'≠b/\
  w'.os=w.os/\w'.tape=w.tape/\w'.output=w.output/\w.heap.size<=w'.heap.size/\∀k,k<w.heap.size->k≠b->some k≠g->w'.heap[k]? =w.heap[k]?
def nb.pM {w':World}{v:Value}{s:Ω}(h:nb U w v s)(hk:∀g,v.ownBlock=some g->w'.heap[g]? =w.heap[g]?):nb U w' v s:=by
 rcases h with h|⟨g,t,c,rfl,hg,r⟩
 .exact .inl h
 .exact .inr ⟨g,t,c,rfl,(hk g rfl).trans hg,r⟩
theorem nb.lt {v:Value}{s:Ω}(h:nb U w v s){g:Nat}(hg:v.ownBlock=some g):g<w.heap.size/\∃c,w.heap[g]? =some (.cells c U (0,0)):=by
 rcases h with⟨rfl,_⟩|⟨g',t,c,rfl,hg',r⟩
 .cases hg
 .simp only[Value.ownBlock,aG]at hg
  grind
set_option maxHeartbeats 2000000 in
set_option maxRecDepth 100000 in
theorem Bs (L:Lays.n166 P J)(X:Builder.Extra P J){u:Bool}{v:Value}{s s2:Ω}(h:w.heap[b]? =some (uW b u v (J.t 72)))(hv:nb (J.t 5) w v s)(h0:s2≠[])(hm2:s2.length<=maxLen)(hle:s.length+s2.length<=1099511627776):
  Calls P (J.f 166) #[.pointer (some ⟨b,0,none⟩),.string ⟨⟨s2⟩⟩] w λe w'=>(∃r,e=.returned r)/\LS (J.t 72) (J.t 5) b v.ownBlock (s++s2) w w':=by
 obtain⟨i0,hi,hz0,hz1,hz2⟩:=info_parts X.infoByte;have mixed:=L.mixed;have t72:=L.t72;have a72:=L.a72;have z72:=L.z72;have v72:=L.v72;have u72:=run_underlying L.t72;have t70:=L.t70;have a70:=L.a70;have z70:=L.z70;have v70:=L.v70;have u70:=run_underlying L.t70;have t37:=L.t37;have a37:=L.a37;have z37:=L.z37;have v37:=L.v37;have u37:=run_underlying L.t37;have t3:=L.t3;have a3:=L.a3;have z3:=L.z3;have v3:=L.v3;have u3:=run_underlying L.t3;have t9:=L.t9;have a9:=L.a9;have z9:=L.z9;have v9:=L.v9;have u9:=run_underlying L.t9;have t4:=L.t4;have a4:=L.a4;have z4:=L.z4;have v4:=L.v4;have u4:=run_underlying L.t4;have t164:=L.t164;have a164:=L.a164;have z164:=L.z164;have v164:=L.v164;have u164:=run_underlying L.t164;have t5:=X.t5;have a5:=X.a5;have z5:=X.z5;have v5:=X.v5;have u5:=run_underlying X.t5;have e240:∀args w,(callFunc (J.f 240) args).run P w=.ok (.enter (J.f 240) args) w:=enters_of L.f240 yT rfl
 have hne:∀g,v.ownBlock=some g->g≠b:=by
  rintro g hg rfl;obtain⟨_,c,hc⟩:=hv.lt hg;rw[h]at hc;simp only[uW,aG,Obj.cells.injEq]at hc;exact X.neB5 hc.2.1
 go_enter L.f166,Body.n166_ntmps J
 go_wp2_with (go_at_fn (J.f 240);refine(Gc {L with} X.toX72 h).mono ?_)
 rintro e w1 ⟨rfl,h1,hb1⟩;have hv1:nb (J.t 5) w1 v s:=hv.pM λg hg=>hb1.block g (hv.lt hg).1 (λe=>hne g hg (aZ e))
 have c0:w1.cell? ⟨b,0,none⟩=some (.pointer (some ⟨b,0,none⟩)):=by rw[Lib.cell_of_heap h1];rfl
 have c1:w1.cell? ⟨b,1,none⟩=some v:=by rw[Lib.cell_of_heap h1];rfl
 have hsrc:Go.Src P 1 (J.t 9) (.string ⟨⟨s2⟩⟩) s2.length (iF s2) w1:=⟨.inr L.t9,λ_=>rfl,firstCells_string _ _,firstCells_string _ _,by rw[ji,Nat.mul_one],CL s2⟩;have key:=λops rest o a Q hgd ho hs hx h=>E7 (P:=P) (ops:=ops) (rest:=rest) (o:=o) (a:=a) (Q:=Q) hgd (.tmp 12) (.tmp 13) (J.t 37) (J.t 9) ho L.t37 hi hz0 hz1 hz2 (v:=v) (xv:=.string ⟨⟨s2⟩⟩) hs hx hv1 h0 hsrc hle h
 go_wp2_with (at_builtin;refine key _ _ _ _ _ rfl rfl rfl rfl ?_)
 clear key;intro g' t' w2 hown' hgrow hg' hlt';have hlt:b<w1.heap.size:=by
  rcases dX b w1.heap.size with h'|h'
  .exact h'
  .simp[Array.getElem?_eq_none h']at h1
 have pw:w2.heap[b]? =some (uW b true v (J.t 72)):=by
  rw[hgrow.block b hlt (λe=>hne b e.symm rfl)];exact h1
 have hgb:g'≠b:=by
  rcases hg' with h'|h'
  .exact hne g' h'
  .omega
 have d0:w2.cell? ⟨b,0,none⟩=some (.pointer (some ⟨b,0,none⟩)):=by rw[Lib.cell_of_heap pw];rfl
 have d1:w2.cell? ⟨b,1,none⟩=some v:=by rw[Lib.cell_of_heap pw];rfl
 have f1:w2.frozen? ⟨b,1,none⟩=false:=Lib.frozen_of_heap pw 1
 go_wp2
 go_ret2
 have hsz:=hb1.size;refine⟨⟨_,rfl⟩, ?_⟩;unfold LS;simp only[cx]at hown'⊢;refine⟨g',t',by simp[World.setCell,Array.getElem?_modify,pw,uW],hown'.pM λg hg=>Below.heap_setCell w2 ⟨b,1,none⟩ _ g (λe=>hgb ((aZ hg).trans e)),hg'.imp id (λh=>ae),by simpa[World.setCell]using hlt',hgb,hgrow.os.trans hb1.os,hgrow.tape.trans hb1.tape,hgrow.output.trans hb1.output,by have:=hgrow.size;simp[World.setCell];omega,λk hk h1' h2'=>?_⟩;rw[Below.heap_setCell w2 ⟨b,1,none⟩ _ k h1',hgrow.block k ae h2',hb1.block k hk (λe=>h1' (aZ e))]
set_option maxHeartbeats 2000000 in
set_option maxRecDepth 100000 in
theorem FC (L:Lays.n167 P J)(X:Builder.Extra P J){u:Bool}{v:Value}{s:Ω}{c:UInt8}(h:w.heap[b]? =some (uW b u v (J.t 72)))(hv:nb (J.t 5) w v s)(hle:s.length+1<=1099511627776):
  Calls P (J.f 167) #[.pointer (some ⟨b,0,none⟩),.int .u8 c.toNat] w λe w'=>(∃r,e=.returned r)/\LS (J.t 72) (J.t 5) b v.ownBlock (s++[c]) w w':=by
 obtain⟨i0,hi,hz0,hz1,hz2⟩:=info_parts X.infoByte;have mixed:=L.mixed;have t72:=L.t72;have a72:=L.a72;have z72:=L.z72;have v72:=L.v72;have u72:=run_underlying L.t72;have t70:=L.t70;have a70:=L.a70;have z70:=L.z70;have v70:=L.v70;have u70:=run_underlying L.t70;have t37:=L.t37;have a37:=L.a37;have z37:=L.z37;have v37:=L.v37;have u37:=run_underlying L.t37;have t9:=L.t9;have a9:=L.a9;have z9:=L.z9;have v9:=L.v9;have u9:=run_underlying L.t9;have t4:=L.t4;have a4:=L.a4;have z4:=L.z4;have v4:=L.v4;have u4:=run_underlying L.t4;have t164:=L.t164;have a164:=L.a164;have z164:=L.z164;have v164:=L.v164;have u164:=run_underlying L.t164;have t5:=L.t5;have a5:=L.a5;have z5:=L.z5;have v5:=L.v5;have u5:=run_underlying L.t5;have e240:∀args w,(callFunc (J.f 240) args).run P w=.ok (.enter (J.f 240) args) w:=enters_of L.f240 yT rfl
 have hne:∀g,v.ownBlock=some g->g≠b:=by
  rintro g hg rfl;obtain⟨_,c,hc⟩:=hv.lt hg;rw[h]at hc;simp only[uW,aG,Obj.cells.injEq]at hc;exact X.neB5 hc.2.1
 go_enter L.f167,Body.n167_ntmps J
 go_wp2_with (go_at_fn (J.f 240);refine(Gc {L with} X.toX72 h).mono ?_)
 rintro e w1 ⟨rfl,h1,hb1⟩;have hv1:nb (J.t 5) w1 v s:=hv.pM λg hg=>hb1.block g (hv.lt hg).1 (λe=>hne g hg (aZ e))
 have c0:w1.cell? ⟨b,0,none⟩=some (.pointer (some ⟨b,0,none⟩)):=by rw[Lib.cell_of_heap h1];rfl
 have c1:w1.cell? ⟨b,1,none⟩=some v:=by rw[Lib.cell_of_heap h1];rfl
 have key:=λob ops rest o a Q sl x hgd ho hs hx hv2 hsrc h=>E7 (P:=P) (w:=w1.alloc ob) (ops:=ops) (rest:=rest) (o:=o) (a:=a) (Q:=Q) hgd sl x (J.t 37) (J.t 37) ho L.t37 hi hz0 hz1 hz2 (v:=v) (xv:=.slice (some ⟨w1.heap.size,0,none⟩) 1 1) (s:=s) (s2:=[c]) hs hx hv2 (List.cons_ne_nil _ _) hsrc hle h
 go_wp2_with (at_builtin;refine key _ _ _ _ _ _ _ _ rfl rfl rfl rfl (hv1.pM λg hg=>Lib.alloc_old w1 _ g (hv1.lt hg).1) ?hs ?_)
 case hs=>
  refine Go.Src.ofSlice _ L.t37 ⟨w1.heap.size,0,none⟩ 1 1 _ rfl (λj u hj=>?_) (CL [c])
  match j,hj with
  |0,hj=>simp[iF]at hj;subst hj;simp[Addr.add]
 clear key;intro g' t' w2 hown' hgrow hg' hlt';have hlt:b<w1.heap.size:=by
  rcases dX b w1.heap.size with h'|h'
  .exact h'
  .simp[Array.getElem?_eq_none h']at h1
 have pw:w2.heap[b]? =some (uW b true v (J.t 72)):=by
  rw[hgrow.block b fM (λe=>hne b e.symm rfl),Lib.alloc_old w1 _ b hlt];exact h1
 have hgb:g'≠b:=by
  rcases hg' with h'|h'
  .exact hne g' h'
  .omega
 have d0:w2.cell? ⟨b,0,none⟩=some (.pointer (some ⟨b,0,none⟩)):=by rw[Lib.cell_of_heap pw];rfl
 have d1:w2.cell? ⟨b,1,none⟩=some v:=by rw[Lib.cell_of_heap pw];rfl
 have f1:w2.frozen? ⟨b,1,none⟩=false:=Lib.frozen_of_heap pw 1
 go_wp2
 go_ret
 have hsz:=hb1.size;refine⟨⟨_,rfl⟩, ?_⟩;unfold LS;simp only[cx]at hown'⊢;refine⟨g',t',by simp[World.setCell,Array.getElem?_modify,pw,uW],hown'.pM λg hg=>Below.heap_setCell w2 ⟨b,1,none⟩ _ g (λe=>hgb ((aZ hg).trans e)),hg'.imp id (λh=>ae),by simpa[World.setCell]using hlt',hgb,hgrow.os.trans hb1.os,hgrow.tape.trans hb1.tape,hgrow.output.trans hb1.output,by have:=hgrow.size;simp at this;simp[World.setCell];omega,λk hk h1' h2'=>?_⟩;rw[Below.heap_setCell w2 ⟨b,1,none⟩ _ k h1',hgrow.block k fM h2',Lib.alloc_old w1 _ k ae,hb1.block k hk (λe=>h1' (aZ e))]
set_option maxHeartbeats 1000000 in
set_option maxRecDepth 100000 in
theorem Pf (L:Lays.n169 P J)(X:Builder.Extra P J){g t:Nat}{u:Bool}{s:Ω}(h:w.heap[b]? =some (uW b u (.slice (some ⟨g,0,none⟩) s.length t) (J.t 72)))(hv:nb (J.t 5) w (.slice (some ⟨g,0,none⟩) s.length t) s)(h0:s≠[]):
  Calls P (J.f 169) #[.pointer (some ⟨b,0,none⟩)] w λe w'=>e=.returned (.string ⟨⟨s⟩⟩)/\w'.os=w.os/\w'.tape=w.tape/\w'.output=w.output/\w'.heap.size=w.heap.size/\∀k,k≠g->w'.heap[k]? =w.heap[k]? :=by
 have hl0:s.length≠0:=by simpa using h0
 obtain⟨c,hg,hcs,hcm,hle,hc⟩:∃c,w.heap[g]? =some (.cells c (J.t 5) (0,0))/\c.size=t/\t<=maxLen/\s.length<=t/\∀i,i<s.length->c.getD i undef=.int .u8 (s.getD i 0).toNat:=by
  rcases hv with⟨h1,_⟩|⟨g',t',c,h1,r⟩
  .cases h1
  .simp only[Value.slice.injEq,aG,Addr.mk.injEq]at h1;obtain⟨⟨rfl,_⟩,_,rfl⟩:=h1;exact⟨c,r⟩
 have c1:w.drew.cell? ⟨b,1,none⟩=some (.slice (some ⟨g,0,none⟩) s.length t):=by
  have:w.drew.heap[b]? =some (uW b u (.slice (some ⟨g,0,none⟩) s.length t) (J.t 72)):=h;rw[Lib.cell_of_heap this];rfl
 have hSD:(Builtin.unsafeSliceData_ #[(J.t 37)] (J.t 127) #[.slice (some ⟨g,0,none⟩) s.length t]).run P w.drew=.ok (.pointer (some ⟨g,0,none⟩)) w.drew:=
  Lib.run_unsafeSliceData_row _ _ _ _ _ _ ae
 have hUS:(Builtin.unsafeString_ #[(J.t 127),(J.t 3)] (J.t 9) #[.pointer (some ⟨g,0,none⟩),.int .i64 s.length]).run P w.drew=.ok (.string ⟨s.toArray⟩) (w.drew.freeze ⟨g,0,none⟩ s.length):=by
  refine Lib.run_unsafeString_row w.drew (J.t 127) (J.t 3) (J.t 9) (J.t 5) L.t127 X.cellsByte g c.size (by have hg':w.drew.heap[g]? =some (.cells c (J.t 5) (0,0)):=hg;simp[World.shape?,hg']) s h0 ae (by unfold maxLen at hcm;omega) ?_;intro j x hx;have hj:=(List.getElem?_eq_some_iff.1 hx).1;have hg':w.drew.heap[g]? =some (.cells c (J.t 5) (0,0)):=hg;rw[Addr.Bq,cell_of_heap hg' ae,cG,hc j hj];simp[List.getD,hx]
 have mixed:=L.mixed;have t72:=L.t72;have a72:=L.a72;have z72:=L.z72;have v72:=L.v72;have u72:=run_underlying L.t72;have t70:=L.t70;have a70:=L.a70;have z70:=L.z70;have v70:=L.v70;have u70:=run_underlying L.t70;have t37:=L.t37;have a37:=L.a37;have z37:=L.z37;have v37:=L.v37;have u37:=run_underlying L.t37;have t127:=L.t127;have a127:=L.a127;have z127:=L.z127;have v127:=L.v127;have u127:=run_underlying L.t127;have t3:=L.t3;have a3:=L.a3;have z3:=L.z3;have v3:=L.v3;have u3:=run_underlying L.t3;have t9:=L.t9;have a9:=L.a9;have z9:=L.z9;have v9:=L.v9;have u9:=run_underlying L.t9;have t5:=X.t5;have a5:=X.a5;have z5:=X.z5;have v5:=X.v5;have u5:=run_underlying X.t5
 go_enter L.f169,Body.n169_ntmps J
 go_wp2
 go_region_o
 all_goals (go_wp2;go_ret;exact⟨rfl,Pw _ _ _⟩)
end
end
section
open Go.Proofs Go.Shelf Go.RowKit
section
variable [cO]{P:Program}{ν:Ξ}{bS:Ε}{Y:Ctx}
def Pe {m:Γ}{v:Value}(hs:fO ν x (look m))(hb:vi m l t)(hv:RD ν x v (.ptr l 2 0 0)):
  ∃b tot u w,v=.pointer (some ⟨b,0,none⟩)/\x.β l=some (b,0,tot)/\¬x.I b/\x.w.heap[b]? =some (uW b u w cO.tB)/\nb cO.tU x.w w t/\
   (w.ownBlock=none/\gC m l=m\/∃l2 g t2,w=.slice (some ⟨g,0,none⟩) t.length t2/\x.β l2=some (g,0,t2)/\¬x.I g/\look m l2=some (.row t)/\l2≠l/\gC m l=de m l2):=by
 cases hv with
 |ptr _ _ _ _ b base tot at_ hβ hat=>
  rcases hb with⟨u,h1,rfl⟩|⟨l2,u,h1,h2⟩
  .obtain⟨o1,rfl,w,o2,_,rfl⟩:=hs.own l _ b base tot h1 hβ;simp only[Nat.zero_mul,Nat.add_zero]at hat;subst hat;exact⟨b,tot,u,_,rfl,hβ,o1,o2,.inl ⟨rfl,rfl⟩,.inl ⟨rfl,by simp only[gC,h1]⟩⟩
  .obtain⟨o1,rfl,w,o2,g,t2,rfl,o3,o4⟩:=hs.own l _ b base tot h1 hβ;simp only[Nat.zero_mul,Nat.add_zero]at hat;subst hat;obtain⟨p1,_,c,p2,p3,p4,p5,p6⟩:=hs.own l2 _ g 0 t2 h2 o4;have hne:l2≠l:=by rintro rfl;rw[h1]at h2;cases h2
   exact⟨b,tot,u,_,rfl,hβ,o1,o2,.inr ⟨g,t2,c,rfl,p2,p3,p4,p5,p6⟩,.inr ⟨l2,g,t2,rfl,o4,p1,h2,hne,by simp only[gC,h1]⟩⟩
def Hr {st:St}{s:Ω}{tot:Nat}{w:Value}{w':World}(hs:fO ν x (look st.m))(hf:fE st x)(hlive:look st.m l≠none)(hl:l<st.nx)(hβ:x.β l=some (b,0,tot))(hI:¬x.I b)(hrow:w.ownBlock=none/\gC st.m l=st.m\/∃l2 g t2,w=.slice (some ⟨g,0,none⟩) t.length t2/\x.β l2=some (g,0,t2)/\¬x.I g/\look st.m l2=some (.row t)/\l2≠l/\gC st.m l=de st.m l2)(hw:LS cO.tB cO.tU b w.ownBlock s x.w w'):
  ∃x':X,x'.w=w'/\Step x x'/\fO ν x' (look (sk st.m l st.nx s))/\fE ⟨st.nx+1,sk st.m l st.nx s⟩ x':=by
 obtain⟨g',t',h1,h2,h3,h4,h5,k1,k2,k3,k4,k5⟩:=hw;have hn:=hf.β st.nx (aR _)

 have hg:∀g,w.ownBlock=some g->∃l2 t2,x.β l2=some (g,0,t2)/\¬x.I g/\look st.m l2=some (.row t)/\l2≠l/\gC st.m l=de st.m l2:=by
  intro g hg;rcases hrow with⟨h,_⟩|⟨l2,g0,t2,rfl,q⟩
  .rw[h]at hg;cases hg
  .obtain rfl:=aZ hg;exact⟨l2,t2,q⟩
 have hlook:∀l' blk,l'≠l->look (gC st.m l) l'=some blk->look st.m l'=some blk/\∀g,w.ownBlock=some g->∀p,x.β l'=some p->p.1≠g:=by
  intro l' blk hl' hk;rcases hrow with⟨h,e⟩|⟨l2,g0,t2,rfl,q1,q2,q3,q4,e⟩
  .rw[e]at hk;exact⟨hk,λg hg=>by rw[h]at hg;cases hg⟩
  .rw[e,fF]at hk;split at hk
   .cases hk
   .rename_i hne;refine⟨hk,λg hg p hp e=>?_⟩;obtain rfl:=aZ hg;obtain⟨b',base',tot'⟩:=p;simp only at e;subst e;exact hne (hs.inj l' l2 _ _ _ _ _ (by rw[hk];simp) (by rw[q3];simp) hp q1)
 have hbg:∀l' p,x.β l'=some p->p.1<x.w.heap.size:=λl' ⟨b',base',tot'⟩ hp=>hs.er l' b' base' tot' hp
 have hkeep:∀k,k<x.w.heap.size->k≠b->some k≠w.ownBlock->w'.heap[k]? =x.w.heap[k]? :=k5
 let x':X:=⟨w',x.I,fo x.β st.nx (g',0,t')⟩
 have hst:Step x x':=by
  refine⟨k1,k2,k3,k4,λ_ h=>h,λk hk=>hkeep k (hs.imm k hk) (λe=>hI (e▸hk)) (λe=>?_),λl' p hp=>?_,λk hk hn'=>hkeep k hk (λe=>hn' l _ hβ e.symm) (λe=>?_),λ_ h=>.inl h,λl' p hp=>?_⟩
  .obtain⟨l2,t2,q1,q2,_⟩:=hg k e.symm;exact q2 hk
  .have:l'≠st.nx:=λe=>by rw[e,hn]at hp;cases hp
   simp[x',fo,this,hp]
  .obtain⟨l2,t2,q1,_⟩:=hg k e.symm;exact hn' l2 _ q1 rfl
  .by_cases e1:l'=st.nx
   .simp only[x',fo,e1,br,aG]at hp;subst hp;rcases h3 with h3|h3
    .obtain⟨l2,t2,q1,_⟩:=hg g' h3;exact .inr (.inr ⟨l2,_,q1,rfl⟩)
    .exact .inr (.inl h3)
   .simp only[x',fo,e1,ba]at hp;exact .inl hp
 have hle:=hst.le;have hlm:∀l',look (sk st.m l st.nx s) l'=if l'=st.nx then some (.row s)else if l'=l then some (.bld (some st.nx) s.length true)else look (gC st.m l) l':=by
  intro l';simp only[sk,look];by_cases e:l'=st.nx
  .rw[ak e.symm,ak e]
  .rw[ah (λh=>e h.symm),ah e,bO]
 have hfr:∀l' p,l'≠st.nx->x.β l'=some p->l'≠l->look (gC st.m l) l'≠none->p.1≠g':=by
  intro l' p hl' hp hne hk e;cases hq:look (gC st.m l) l' with
  |none=>exact hk hq
  |some blk=>
   rcases h3 with h3|h3
   .exact(hlook l' blk hne hq).2 g' h3 p hp e
   .have:=hbg l' p hp;omega
 refine⟨x',rfl,hst,⟨λl' blk b' base' tot' e1 e2=>?_,λl1 l2 b' base1 tot1 base2 tot2 e1 e2 e3 e4=>?_,λk hk=>js (hs.imm k hk) k4,λl' b' base' tot' e=>?_,rQ hle hs.gd⟩,⟨λl' hl'=>?_,λl' hl'=>?_⟩⟩
 .rw[hlm]at e1;by_cases c1:l'=st.nx
  .rw[ak c1]at e1;simp only[x',fo,ak c1,aG,dm]at e2;obtain⟨rfl,rfl,rfl⟩:=e2;obtain rfl:=aZ e1;refine⟨λh=>?_,rfl, ?_⟩
   .rcases h3 with h3|h3
    .obtain⟨l2,t2,_,q2,_⟩:=hg g' h3;exact q2 h
    .have:=hs.imm g' h;omega
   .rcases h2 with⟨h2,_⟩|⟨g2,t2,c,h2,r⟩
    .cases h2
    .simp only[Value.slice.injEq,aG,Addr.mk.injEq]at h2;obtain⟨⟨rfl,_⟩,_,rfl⟩:=h2;exact⟨c,r⟩
  .rw[ah c1]at e1;simp only[x',fo,ah c1]at e2;by_cases c2:l'=l
   .subst c2;rw[ak rfl]at e1;rw[hβ]at e2;simp only[aG,dm]at e2;obtain⟨rfl,rfl,rfl⟩:=e2;obtain rfl:=aZ e1;refine⟨hI,rfl,_,h1,g',t',rfl, ?_,by simp[x',fo]⟩;rcases h2 with⟨h2,_⟩|⟨g2,t2,c,h2,_,_,_,r,_⟩
    .cases h2
    .simp only[Value.slice.injEq]at h2;obtain⟨_,_,rfl⟩:=h2;exact r
   .rw[ah c2]at e1;obtain⟨q1,q2⟩:=hlook l' blk c2 e1;obtain⟨o1,o2⟩:=hs.own l' blk b' base' tot' q1 e2;refine⟨o1,o2.mono hle (hkeep b' (hs.er _ _ _ _ e2) (λe=>?_) (λe=>q2 b' e.symm _ e2 rfl))⟩;subst e;exact c2 (hs.inj l' l _ _ _ _ _ (by rw[q1];simp) hlive e2 hβ)
 .rw[hlm]at e1 e2;by_cases c1:l1=st.nx
  .by_cases c2:l2=st.nx
   .rw[c1,c2]
   .exfalso;rw[ah c2]at e2;simp only[x',fo,ak c1,aG,dm]at e3;simp only[x',fo,ah c2]at e4;obtain⟨rfl,_⟩:=e3;by_cases c3:l2=l
    .subst c3;rw[hβ]at e4;simp only[aG,dm]at e4;exact h5 e4.1.symm
    .rw[ah c3]at e2;exact hfr l2 _ c2 e4 c3 e2 rfl
  .rw[ah c1]at e1;simp only[x',fo,ah c1]at e3;by_cases c2:l2=st.nx
   .exfalso;simp only[x',fo,ak c2,aG,dm]at e4;obtain⟨rfl,_⟩:=e4;by_cases c3:l1=l
    .subst c3;rw[hβ]at e3;simp only[aG,dm]at e3;exact h5 e3.1.symm
    .rw[ah c3]at e1;exact hfr l1 _ c1 e3 c3 e1 rfl
   .rw[ah c2]at e2;simp only[x',fo,ah c2]at e4;have live:∀l',(if l'=l then some (bo.bld (some st.nx) s.length true)else look (gC st.m l) l')≠none->look st.m l'≠none:=by
     intro l' h;by_cases c:l'=l
     .rw[c];exact hlive
     .rw[ah c]at h;cases hq:look (gC st.m l) l' with
      |none=>exact absurd hq h
      |some blk=>rw[(hlook l' blk c hq).1];simp
    exact hs.inj l1 l2 b' base1 tot1 base2 tot2 (live l1 e1) (live l2 e2) e3 e4
 .by_cases c1:l'=st.nx
  .simp only[x',fo,ak c1,aG,dm]at e;obtain⟨rfl,_⟩:=e;exact h4
  .simp only[x',fo,ah c1]at e;exact js (hs.er _ _ _ _ e) k4
 .have hl':st.nx+1<=l':=hl';simp only[x',fo,ah (show ¬l'=st.nx by omega)];exact hf.β l' ae
 .show l'<st.nx+1;simp only[hlm]at hl';by_cases c1:l'=st.nx
  .omega
  .rw[ah c1]at hl';by_cases c2:l'=l
   .omega
   .rw[ah c2]at hl';cases hq:look (gC st.m l) l' with
    |none=>exact absurd hq hl'
    |some blk=>have:=hf.m l' (by rw[(hlook l' blk c2 hq).1];simp);omega
def vi.live {m:Γ}(h:vi m l t):look m l≠none:=by
 rcases h with⟨u,h,_⟩|⟨l2,u,h,_⟩<;>rw[h]<;>simp
variable {J:Ren}
def Xm (h:args.size=2):args=#[args.getD 0 undef,args.getD 1 undef]:=by
 apply Array.ext
 .simpa using h
 .intro i h1 h2
  match i,h1 with
  |0,h1=>simp[Array.getD,h1]
  |1,h1=>simp[Array.getD,h1]
  |i+2,h1=>omega
def aiG (h:args.size=1):args=#[args.getD 0 undef]:=by
 apply Array.ext
 .simpa using h
 .intro i h1 h2
  match i,h1 with
  |0,h1=>simp[Array.getD,h1]
  |i+1,h1=>omega
def aen (hB:cO.tB=J.t 72)(hU:cO.tU=J.t 5)(L:Lays.n166 P J)(X':Builder.Extra P J)(hen:∀args w,(callFunc (J.f 166) args).run P w=.ok (.enter (J.f 166) args) w):W1 P ν Y bS trWS (J.f 166):=by
 rintro ds st K ⟨s,l,t,rfl,hb,hl,h0,hle,hK⟩ hok x args hl2 hargs hs hf;obtain⟨b,tot,u,w,e0,hβ,hI,hh,hv,hrow⟩:=Pe hs hb (hargs 0 aJ);have h1:=hargs 1 aJ;simp only[List.getD_cons_succ,iZ]at h1;obtain⟨e1,hm⟩:=h1.ke;rw[hB]at hh;rw[hU]at hv;refine .inr ⟨J.f 166,args,hen args x.w, ?_⟩;rw[Xm (args:=args) (by simpa using hl2),e0,e1];refine(Bs L X' hh hv h0 hm hle).mono ?_;rintro e w' ⟨⟨r,rfl⟩,hw⟩;rw[<-hB,<-hU]at hw;obtain⟨x',q1,q2,q3,q4⟩:=Hr hs hf hb.live hl hβ hI hrow hw;exact⟨x',q1,.any,_,hK,q2,.any _,q3,q4⟩
def aem (hB:cO.tB=J.t 72)(hU:cO.tU=J.t 5)(L:Lays.n167 P J)(X':Builder.Extra P J)(hen:∀args w,(callFunc (J.f 167) args).run P w=.ok (.enter (J.f 167) args) w):W1 P ν Y bS trWB (J.f 167):=by
 rintro ds st K ⟨c,l,t,rfl,hb,hl,h0,hle,hK⟩ hok x args hl2 hargs hs hf;obtain⟨b,tot,u,w,e0,hβ,hI,hh,hv,hrow⟩:=Pe hs hb (hargs 0 aJ);have h1:=hargs 1 aJ;simp only[List.getD_cons_succ,iZ]at h1;have e1:=h1.dz;rw[hB]at hh;rw[hU]at hv;refine .inr ⟨J.f 167,args,hen args x.w, ?_⟩;rw[Xm (args:=args) (by simpa using hl2),e0,e1];refine(FC L X' hh hv hle).mono ?_;rintro e w' ⟨⟨r,rfl⟩,hw⟩;rw[<-hB,<-hU]at hw;obtain⟨x',q1,q2,q3,q4⟩:=Hr hs hf hb.live hl hβ hI hrow hw;exact⟨x',q1,.any,_,hK,q2,.any _,q3,q4⟩
def ael (hB:cO.tB=J.t 72)(hU:cO.tU=J.t 5)(L:Lays.n169 P J)(X':Builder.Extra P J)(hen:∀args w,(callFunc (J.f 169) args).run P w=.ok (.enter (J.f 169) args) w):W1 P ν Y bS trBS (J.f 169):=by
 rintro ds st K ⟨l,t,rfl,hb,h0,hK⟩ hok x args hl2 hargs hs hf;obtain⟨b,tot,u,w,e0,hβ,hI,hh,hv,hrow⟩:=Pe hs hb (hargs 0 aJ);rcases hrow with⟨hn,_⟩|⟨l2,g,t2,rfl,q1,q2,q3,q4,q5⟩
 .exfalso;rcases hv with⟨_,h⟩|⟨g,t',c,rfl,_⟩
  .exact h0 h
  .cases hn
 rw[hB]at hh;rw[hU]at hv;have htm:t.length<=maxLen:=by
  rcases hv with⟨_,rfl⟩|⟨g',t',c,h1,_,_,h4,h5,_⟩
  .exact absurd rfl h0
  .omega
 refine .inr ⟨J.f 169,args,hen args x.w, ?_⟩;rw[aiG (args:=args) (by simpa using hl2),e0];refine(Pf L X' hh hv h0).mono ?_;rintro e w' ⟨rfl,k1,k2,k3,k4,k5⟩;have hkeep:∀k,(∀l' p,look (de (gC st.m l) l) l'≠none->x.β l'=some p->p.1=k->False)->True:=λ_ _=>trivial
 have hst:Step x ⟨w',x.I,x.β⟩:=⟨k1,k2,k3,Nat.le_of_eq k4.symm,λ_ h=>h,λk hk=>k5 k (λe=>q2 (e▸hk)),λ_ _ h=>h,λk hk hn=>k5 k (λe=>hn l2 _ q1 e.symm),λ_ h=>.inl h,λ_ _ h=>.inl h⟩;have hlm:∀l',look (de (gC st.m l) l) l'=if l'=l then none else if l'=l2 then none else look st.m l':=λl'=>by rw[fF,q5,fF]
 refine⟨⟨w',x.I,x.β⟩,rfl,.str t,_,hK,hst,.str t htm,⟨λl' blk b' base' tot' e1 e2=>?_,λl1 l3 b' base1 tot1 base2 tot2 e1 e2 e3 e4=>?_,λk hk=>by show k<w'.heap.size;rw[k4];exact hs.imm k hk,λl' b' base' tot' e=>by show b'<w'.heap.size;rw[k4];exact hs.er _ _ _ _ e,rQ hst.le hs.gd⟩,⟨hf.β,λl' hl'=>?_⟩⟩
 .rw[hlm]at e1;split at e1
  .cases e1
  split at e1
  .cases e1
  rename_i c1 c2;obtain⟨o1,o2⟩:=hs.own l' blk b' base' tot' e1 e2;refine⟨o1,o2.mono hst.le (k5 b' (λe=>c2 ?_))⟩;subst e;exact hs.inj l' l2 _ _ _ _ _ (by rw[e1];simp) (by rw[q3];simp) e2 q1
 .have live:∀l',look (de (gC st.m l) l) l'≠none->look st.m l'≠none:=by
   intro l' h;rw[hlm]at h;split at h
   .exact absurd rfl h
   split at h
   .exact absurd rfl h
   .exact h
  exact hs.inj l1 l3 b' base1 tot1 base2 tot2 (live l1 e1) (live l3 e2) e3 e4
 .simp only[hlm]at hl';split at hl'
  .exact absurd rfl hl'
  split at hl'
  .exact absurd rfl hl'
  .exact hf.m l' hl'
end
end
section
open Go.Proofs
def Z7:Nat:=2
def AP:Tryz.prog.globalNamed "internal/strconv.uint64pow10" =some Z7:=yT
def C2:Nat:=0
instance seatGlob:cO where
 tB:=362
 tU:=5
 gd x:=(x.I 1/\∃m,x.w.cell? ⟨1,0,none⟩=some (.int .i64 m))/\x.I Z7/\Lib.TabIs Tryz.prog x.w "internal/strconv.uint64pow10" .u64 Lib.pow10Tab/\x.I C2/\∀j,j<5->x.w.cell? ⟨C2,j,none⟩=some (zVv j)
 le x x' hI hk h:=by
  obtain⟨⟨h1,m,h2⟩,h3,h4,h5,h6⟩:=h;refine⟨⟨hI _ h1,m,iR (hk _ h1) h2⟩,hI _ h3, ?_,hI _ h5,λj hj=>iR (hk _ h5) (h6 j hj)⟩;unfold Lib.TabIs World.var? at h4⊢;rw[AP]at h4⊢;simp only[Option.bind_some]at h4⊢;rw[hk _ h3];exact h4
 gz g:=g=C2
 gzr x g h hg j hj:=by subst hg;exact h.2.2.2.2 j hj
def Gi {d:D}(hn:(Tryz.prog.funcs[fid]?).map (λf=>f.name== "runtime.NumGoroutine" ||!f.body.isSome)=some false)(himm:∀b,x.I b->b<x.w.heap.size)(hc:Calls Tryz.prog fid args x.w λe w'=>∃v,e=.returned v/\iE x.w w'/\∃I:Lab,(∀b,x.I b->I b)/\(∀b,I b->x.I b\/x.w.heap.size<=b/\b<w'.heap.size)/\RD BD ⟨w',I,x.β⟩ v d):
  jU Tryz.prog x (λv x'=>oa x x'/\RD BD x' v d) ((callFunc fid args).run Tryz.prog x.w):=by
 cases h:Tryz.prog.funcs[fid]? with
 |none=>rw[h]at hn;cases hn
 |some fn=>
  rw[h]at hn;have h2:(fn.name== "runtime.NumGoroutine" ||!fn.body.isSome)=false:=aZ hn;rw[eg,cF]at h2;refine .inr ⟨fid,args,ic h h2.1 h2.2 args x.w,Calls.mono hc λe w' he=>?_⟩;obtain⟨v,rfl,hg,I,h3,h4,hr⟩:=he;refine⟨⟨w',I,x.β⟩,rfl,⟨hg,h3,λb hb=>(h4 b hb).imp id And.left,λb hb=>?_,rfl⟩,hr⟩;rcases h4 b hb with h5|h5
  .exact js (himm b h5) hg.size
  .exact h5.2
def PB (w:World):∀n,iE w (w.drewN n)
 |n=>⟨rfl,rfl,rfl,aR _,λ_ _=>rfl⟩
def nW {d:D}{v:Value}(hn:(Tryz.prog.funcs[fid]?).map (λf=>f.name== "runtime.NumGoroutine" ||!f.body.isSome)=some false)(himm:∀b,x.I b->b<x.w.heap.size)(hc:Calls Tryz.prog fid args x.w λe w'=>e=.returned v/\iE x.w w')(hr:∀x',RD BD x' v d):
  jU Tryz.prog x (λv x'=>oa x x'/\RD BD x' v d) ((callFunc fid args).run Tryz.prog x.w):=
 Gi hn himm (Calls.mono hc λe w' ⟨h1,h2⟩=>⟨v,h1,h2,x.I,λ_ h=>h,λ_ h=>.inl h,hr _⟩)
def kd {v:Value}{s:aw}(h:RD BD x v (.str s)):v=.string ⟨⟨s⟩⟩/\s.length<=maxLen:=by
 cases h with
 |str s h=>exact⟨rfl,h⟩
def aez {v:Value}{k:IntKind}{n:Int}(h:RD BD x v (.int k n)):v=.int k n:=by
 cases h with
 |int k n=>rfl
def F7 (h:args.size=2):args=#[args.getD 0 undef,args.getD 1 undef]:=by
 obtain⟨l⟩:=args
 match l,h with
 |[a,b],_=>rfl
def args1 (h:args.size=1):args=#[args.getD 0 undef]:=by
 obtain⟨l⟩:=args
 match l,h with
 |[a],_=>rfl
def afr {a b:Value}{d e:D}(h1:RD BD x a d)(h2:RD BD x b e):RD BD x (.tuple #[a,b]) (.tup [d,e]):=by
 refine .tup _ _ rfl λi hi=>?_
 match i,hi with
 |0,_=>exact h1
 |1,_=>exact h2
def afs {a b c:Value}{d e f:D}(h1:RD BD x a d)(h2:RD BD x b e)(h3:RD BD x c f):RD BD x (.tuple #[a,b,c]) (.tup [d,e,f]):=by
 refine .tup _ _ rfl λi hi=>?_
 match i,hi with
 |0,_=>exact h1
 |1,_=>exact h2
 |2,_=>exact h3
def zO (s:aw)(h:s.length<=4294967296):RD BD x (.string ⟨s.toArray⟩) (.str s):=.str s (by simp only[maxLen];omega)
def UI (s:aw)(b:UInt8):(uX s b).2.1.length<=s.length:=by
 unfold uX;split<;>simp
def E487:Ow 316 487:=by
 refine aL rfl ?_;rintro s b hp hok x args hl hargs hnl himm ⟨⟨_,m,hm⟩,_⟩;obtain⟨h0,hs⟩:=kd (hargs 0 aJ);obtain⟨h1,_⟩:=kd (hargs 1 aJ);rw[F7 hl,h0,h1];refine nW yT himm (Calls.mono (Tryz.strings_Cut ⟨⟨s⟩⟩ ⟨⟨[b]⟩⟩ m x.w (by show s.length<_;omega) hm) λe w' ⟨h1,n,h2⟩=>⟨h1,h2▸PB _ n⟩) (λx'=>?_);have hc:Lib.cut (⟨⟨s⟩⟩:ByteArray).data.toList (⟨⟨[b]⟩⟩:ByteArray).data.toList=uX s b:=aiV s b;rw[hc];have:=(XJ s b).1;have:=UI s b;exact afs (zO _ ae) (zO _ ae) (.bool _)
def E254:Ow 315 254:=by
 refine aL rfl ?_;rintro s p hp hp2 hok x args hl hargs hnl himm _;obtain⟨h0,hs⟩:=kd (hargs 0 aJ);obtain⟨h1,_⟩:=kd (hargs 1 aJ);rw[F7 hl,h0,h1];refine nW yT himm (Calls.mono (Tryz.strings_CutPrefix ⟨⟨s⟩⟩ ⟨⟨p⟩⟩ x.w) λe w' ⟨h1,h2⟩=>⟨h1,h2▸iE.refl _⟩) (λx'=>?_);have hc:(Lib.trimPrefix s p,Lib.hasPrefix s p)=qU s p:=UJ s p;have:=Pq s p;rw[<-hc]at this⊢;have h9:(Lib.trimPrefix s p).length<=s.length:=this;exact afr (zO (Lib.trimPrefix s p) ae) (.bool _)
def E336:Ow 319 336:=by
 refine aL rfl ?_;rintro n hp hok x args hl hargs hnl himm ⟨_,_,ht,_⟩;have h0:=aez (hargs 0 aJ);rw[args1 hl,h0];refine nW yT himm (Calls.mono (Tryz.strconv_Itoa n ae ae x.w ht) λe w' ⟨h1,k,os,h2⟩=>⟨h1, ?_⟩) (λx'=>?_)
 .subst h2;refine⟨rfl,rfl,rfl,by simp[Sort.grow],λb hb=>?_⟩;show(x.w.heap++os)[b]? =x.w.heap[b]?;rw[Array.getElem?_append,ak hb]
 .rw[aeE hp.1];have:=ie 4 n.toNat ae ae;exact zO _ ae
def Rd {ts:List ByteArray}{cap:Nat}{ty:TypeId}{L:Ψ}(hn:(Tryz.prog.funcs[fid]?).map (λf=>f.name== "runtime.NumGoroutine" ||!f.body.isSome)=some false)(himm:∀b,x.I b->b<x.w.heap.size)(hL:ts.map (λt=>t.data.toList)=L)(hcap:ts.length<=cap)(hm:cap<=maxLen)(hs:∀t∈L,t.length<=maxLen)(hc:Calls Tryz.prog fid args x.w λe w'=>e=.returned (.slice (some ⟨x.w.heap.size,0,none⟩) ts.length cap)/\w'=x.w.alloc (.cells (Lib.cellsOf ts cap) ty)):
  jU Tryz.prog x (λv x'=>oa x x'/\RD BD x' v (.sl 1 (L.map D.str))) ((callFunc fid args).run Tryz.prog x.w):=by
 refine Gi hn himm (Calls.mono hc λe w' ⟨h1,h2⟩=>?_);subst h2;refine⟨_,h1,iE.alloc _ _,λq=>x.I q\/q=x.w.heap.size,λ_ h=>.inl h,λq hq=>hq.imp id λh=>⟨ae,by rw[h];show _<(x.w.heap.push _).size;simp⟩, ?_⟩;have hsl:L.length=ts.length:=by rw[<-hL];simp
 have hget:∀i,i<ts.length->(L.map D.str).getD i .any=.str (ts.getD i default).data.toList:=λi hi=>by
  rw[<-hL];simp[hi]
 refine .sl _ x.w.heap.size 0 ts.length cap 1 _ (λi _=>.string (ts.getD i default)) (by simp[hsl]) (.inr ⟨rfl,.inr rfl⟩) hcap hm (λi hi=>by rw[hget i hi];rfl) (λi hi=>by rw[hget i hi];rfl) (λi j hi hj=>?_) (λi j hi hj=>rfl) (λi j hi hj=>?_)
 .obtain rfl:j=0:=ae;have:=ee x.w (.cells (Lib.cellsOf ts cap) ty);refine(cell_of_heap (c:=Lib.cellsOf ts cap) (T:=ty) (fr:=(0,0)) this (by rw[Lib.cellsOf_size hcap];omega)).trans ?_;have hi2:i<(ts.map Value.string).length:=by simpa using hi
  simp only[Lib.cellsOf];simp[hi,List.getElem?_append_left hi2]
 .obtain rfl:j=0:=ae;rw[hget i hi];show RD BD _ (.string (ts.getD i default)) (.str (ts.getD i default).data.toList);generalize hq:ts.getD i default=q;have hmem:q.data.toList∈L:=by
   rw[<-hL];refine bI.2 ⟨q, ?_,rfl⟩;rw[<-hq];simp[hi]
  have:=hs _ hmem;obtain⟨⟨ql⟩⟩:=q;exact .str ql this
def Hc {s p:aw}{m:Int}{L:Ψ}(hL:∀ts,ts=Lib.splitB ⟨⟨p⟩⟩ 0 (Lib.countB ⟨⟨s⟩⟩ ⟨⟨p⟩⟩) ⟨⟨s⟩⟩->ts.map (λt=>t.data.toList)=L)(himm:∀b,x.I b->b<x.w.heap.size)(h1:1<=p.length)(hs:s.length<=1048576)(hl:L.length<=1048577)(hb:∀t∈L,t.length<=1048576)(hm:x.w.cell? ⟨1,0,none⟩=some (.int .i64 m)):jU Tryz.prog x (λv x'=>oa x x'/\RD BD x' v (.sl 1 (L.map D.str))) ((callFunc 311 #[.string ⟨⟨s⟩⟩,.string ⟨⟨p⟩⟩]).run Tryz.prog x.w):=by
 have h2:1<=(⟨⟨p⟩⟩:ByteArray).size:=h1;have hlen:=Lib.splitB_all ⟨⟨p⟩⟩ h2 0 _ (⟨⟨s⟩⟩:ByteArray) rfl;have hc:=Tryz.strings_Split ⟨⟨s⟩⟩ ⟨⟨p⟩⟩ m x.w (by show s.length<_;omega) hm h2;rw[<-hlen,<-Lib.cellsOf_full]at hc;have hL2:=hL _ rfl;have hle:(Lib.splitB ⟨⟨p⟩⟩ 0 (Lib.countB ⟨⟨s⟩⟩ ⟨⟨p⟩⟩) ⟨⟨s⟩⟩).length<=maxLen:=by
  have:L.length=(Lib.splitB ⟨⟨p⟩⟩ 0 (Lib.countB ⟨⟨s⟩⟩ ⟨⟨p⟩⟩) ⟨⟨s⟩⟩).length:=by rw[<-hL2];simp
  simp only[maxLen];omega
 exact Rd yT himm hL2 (aR _) hle (λt ht=>by have:=hb t ht;simp only[maxLen];omega) hc
def zY:∀(s cur:aw),(jq s cur).length<=s.length+1/\∀t∈jq s cur,t.length<=cur.length+s.length
 |[],cur=>by simp[jq]
 |[c],cur=>by simp[jq]
 |c::d::r,cur=>by
  unfold jq;split
  .obtain⟨h1,h2⟩:=zY r [];refine⟨uR,λt ht=>?_⟩;rcases bH.1 ht with rfl|ht
   .omega
   .have:=h2 t ht;simp only[bJ,cj]at this⊢;omega
  .obtain⟨h1,h2⟩:=zY (d::r) (cur++[c]);refine⟨by simp only[bJ]at h1⊢;omega,λt ht=>?_⟩;have:=h2 t ht;simp only[cx,bJ,cj]at this⊢;omega
def E124:Ow 311 124:=by
 refine aL rfl ⟨?_, ?_⟩
 .rintro s b hp hok x args hl hargs hnl himm ⟨⟨_,m,hm⟩,_⟩;obtain⟨h0,hs⟩:=kd (hargs 0 aJ);obtain⟨h1,_⟩:=kd (hargs 1 aJ);rw[F7 hl,h0,h1];have:=Rb s b.toNat;exact Hc (λts e=>by rw[e];exact Wh b _ (⟨⟨s⟩⟩:ByteArray) rfl) himm (aR 1) hp ae (λt ht=>fC (Rc s b.toNat ht) hp) hm
 .rintro s hp hok x args hl hargs hnl himm ⟨⟨_,m,hm⟩,_⟩;obtain⟨h0,hs⟩:=kd (hargs 0 aJ);obtain⟨h1,_⟩:=kd (hargs 1 aJ);rw[F7 hl,h0,h1];obtain⟨q1,q2⟩:=zY s [];exact Hc (λts e=>by rw[e];exact Wi _ (⟨⟨s⟩⟩:ByteArray) rfl) himm aX hp ae (λt ht=>by have:=q2 t ht;simp only[cj]at this;omega) hm
def E683:Ow 330 683:=by
 refine aL rfl ?_;rintro s b rfl hp hok x args hl hargs hnl himm _;obtain⟨h0,hs⟩:=kd (hargs 0 aJ);obtain⟨h1,_⟩:=kd (hargs 1 aJ);rw[F7 hl,h0,h1];refine nW yT himm (Calls.mono (Tryz.strings_Trim_one ⟨⟨s⟩⟩ 32 aX x.w (by show s.length<=_;omega)) λe w' ⟨h1,h2⟩=>⟨h1, ?_⟩) (λx'=>?_)
 .rcases h2 with rfl|rfl
  .exact iE.refl _
  .exact⟨rfl,rfl,rfl,aR _,λ_ _=>rfl⟩
 .have:Lib.trimB (⟨⟨s⟩⟩:ByteArray).data.toList 32=CI s:=Xq s;rw[this];have hb:(CI s).length<=s.length:=by
   unfold CI;have h1:=y5 s;have h2:=y5 (Ao s).reverse;simp only[List.length_reverse]at h2⊢;omega
  exact zO _ ae
def E489:Ow 294 489:=zH rfl λds st K h hok=>aen rfl rfl Tryz.R6 Tryz.bldX (Go.Proofs.enters_of Tryz.R6.f166 yT rfl) ds st K h hok
def E664:Ow 295 664:=zH rfl λds st K h hok=>aem rfl rfl Tryz.R7 Tryz.bldX (Go.Proofs.enters_of Tryz.R7.f167 yT rfl) ds st K h hok
def E452:Ow 265 452:=zH rfl λds st K h hok=>ael rfl rfl Tryz.R8 Tryz.bldX (Go.Proofs.enters_of Tryz.R8.f169 yT rfl) ds st K h hok
def Dr (sep:aw)(B:Nat):∀l:Ψ,(∀t∈l,t.length<=B)->(cv sep l).length<=l.length*(B+sep.length)
 |[],_=>by simp[cv]
 |[t],h=>by have:=h t (.head _);simp only[cv,bJ,cj];omega
 |t::u::r,h=>by
  have h1:=h t (.head _);have h2:=Dr sep B (u::r) λx hx=>h x (.tail _ hx)
  rw[wm _ _ _ aJ];rw[bJ,Nat.succ_mul];simp only[cx];omega
def E242:Ow 264 242:=by
 refine aL rfl ?_;rintro l sep hp1 hp2 hp3 hok x args hl hargs hnl himm _;have h0:=hargs 0 aJ;obtain⟨h1,_⟩:=kd (hargs 1 aJ);rw[F7 hl,h1];have hj:=Dr sep 2097200 l hp3;have hj2:=fU (2097200+sep.length) hp1;have hj3:1048600*(2097200+sep.length)<=140737488355328:=by
  have:=Nat.mul_le_mul_left 1048600 (show 2097200+sep.length<=2097204 by omega);omega
 have hjm:(cv sep l).length<=140737488355328:=ae;simp only[iZ]at h0;generalize args.getD 0 undef=v0 at h0⊢;cases h0 with
 |sl a b off len cap k es c hlen ha hcap hm hk hn hc h1 h=>
  simp only[bj]at hlen;subst hlen;rcases ha with he|⟨rfl,hI⟩
  .have hnil:l=[]:=by simpa using he
   subst hnil;refine nW yT himm (Calls.mono (Tryz.strings_Join_none a cap ⟨⟨sep⟩⟩ x.w) λe w' ⟨h1,h2⟩=>⟨h1,h2▸iE.refl _⟩) (λx'=>?_);exact zO [] aJ
  .have hcell:∀i,(hi:i<l.length)->x.w.cell? ⟨b,off+i,none⟩=some (.string ⟨⟨l[i]⟩⟩):=λi hi=>by
    have q1:=hc i 0 hi ae;have q2:=h i 0 hi ae;have e:((l.map D.str).getD i .any).cells.getD 0 .any=.str l[i]:=by simp[hi,D.cells]
    rw[e]at q2;rw[(kd q2).1]at q1;simpa using q1
   have e2:(l.map λt=>(⟨⟨t⟩⟩:ByteArray)).map (λt=>t.data.toList)=l:=by rw[List.map_map];exact List.map_id l
   have hjl:Lib.join ((l.map λt=>(⟨⟨t⟩⟩:ByteArray)).map (λt=>t.data.toList)) (⟨⟨sep⟩⟩:ByteArray).data.toList=cv sep l:=by rw[e2];exact(Mu sep l).symm
   have key:=Tryz.strings_Join b off cap (l.map λt=>⟨⟨t⟩⟩) ⟨⟨sep⟩⟩ x.w (λj y hy=>by
    rw[List.getElem?_map,df]at hy;obtain⟨t,ht,rfl⟩:=hy;obtain⟨hlt,rfl⟩:=List.getElem?_eq_some_iff.1 ht;exact hcell j hlt) (himm b hI) fM (by simpa using hcap) (by rw[hjl];exact hjm)
   rw[hjl,bj]at key;refine nW yT himm (Calls.mono key λe w' ⟨h1,h2⟩=>⟨h1,h2.os,h2.tape,h2.output,h2.size,h2.block⟩) (λx'=>?_);exact .str _ (by simp only[maxLen];omega)
end
def hv (c:UInt8):Nat:=if bM c.toNat=true then c.toNat-48 else c.toNat-87
def Bx (s:aw):Nat:=s.foldl (λn c=>n*16+hv c) 0
def dI.wf (x:dI):Prop:=0<=x.sum/\x.sum<18446744073709551616
def j8.wf (l:j8):=∀x∈l.lines,x.wf
def aek {P:Program}(h:P.funcs.all (λf=>!f.goes)=true)(f:FuncId):P.goes f=false:=by
 have h1:∀g:Nat,(P.funcs[g]?).any Func.goes=false:=λg=>by
  cases hg:P.funcs[g]? with
  |none=>rfl
  |some fn=>
   have hm:=Array.mem_of_getElem? hg;have:=Array.all_eq_true'.1 h fn hm;simpa using this
 have h2:P.funcs.any Func.goes=false:=by
  rw[Bool.eq_false_iff];intro e;obtain⟨x,hx,e⟩:=Array.any_eq_true'.1 e;have:=Array.all_eq_true'.1 h x hx;simp[e]at this
 unfold Program.goes;rw[h2,Bool.and_false,Bool.or_false];rw[Bool.eq_false_iff];intro e;obtain⟨x,_,e⟩:=List.any_eq_true.1 e;rw[h1]at e;cases e
def UU {P:Program}{c:OpenClaim}(hs:c.start=.entering)(h:P.funcs.all (λf=>!f.goes)=true):false=c.goesBy P:=by
 unfold OpenClaim.goesBy Program.goesAt Program.goesFrom;rw[hs];cases P.funcNamed c.func<;>simp[aek h]
end Go.Abs
