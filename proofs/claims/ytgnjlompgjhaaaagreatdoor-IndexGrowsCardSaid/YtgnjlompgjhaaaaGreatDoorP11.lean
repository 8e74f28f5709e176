/- A shelf that has got a record more prints what it printed, and that entry behind. -/
import Derived.Carry
import Derived.ChangeArms
import Derived.ChangeSame
import Derived.Deep.DeepHandedRow
import Derived.Ground.Names2Prog
import Derived.Ground.SlgnProg
import Derived.Lib.LaidTab
import Derived.OpenShut
import Derived.RowKit
import Derived.Shelf.LaysM
import Derived.Shelf.Slices.Clone
import Derived.Shelf.Slices.SearchI
import Derived.Shelf.Slices.Turned
import Derived.Shelf.SlicesE.Clone
import Derived.Shelf.Small.Strs
import Derived.Shelf.Small.Utf8
import Derived.Shelf.Small.Wraps
import Derived.Shelf.Strconv.Itoa0
import Derived.Shelf.Strconv.Itoa1
import Derived.Shelf.Strconv.Itoa2
import Derived.Shelf.Strconv.Itoa3
import Derived.Shelf.Strings.AsciiSet
import Derived.Shelf.Strings.Builder1
import Derived.Shelf.Strings.Builder2
import Derived.Shelf.Strings.Builder2Cap
import Derived.Shelf.Strings.BuilderF
import Derived.Shelf.Strings.BuilderK
import Derived.Shelf.Strings.Count
import Derived.Shelf.Strings.Cut
import Derived.Shelf.Strings.Explode
import Derived.Shelf.Strings.OnBuilder
import Derived.Shelf.Strings.Prefix
import Derived.Shelf.Strings.RuneCount
import Derived.Shelf.Strings.Runes
import Derived.Shelf.Strings.Search1
import Derived.Shelf.Strings.Search2
import Derived.Shelf.Strings.Search3
import Derived.Shelf.Strings.Shaped
import Derived.Shelf.Strings.Split
import Derived.Shelf.Strings.SplitShaped
import Derived.Shelf.Strings.Trim
import Derived.Shelf.Unicode.Decode
import Derived.Shelf.Unicode.DecodeAny
import Derived.Shelf.Unicode.DecodeLast
import Derived.Shelf.Unicode.DecodeSlow
import Derived.Shelf.Utf8.RuneCount
import Derived.Test.YtgnjlompgjhaaaaGreatDoorCards
import Derived.Test.YtgnjlompgjhaaaaGreatDoorProg
import Derived.Test.YtgnjlompgjhaaaaGreatDoorTie
import Derived.WideKeyArgs
import Derived.WideShapes
import Derived.Test.YtgnjlompgjhaaaaGreatDoorP10
set_option linter.all false
set_option maxRecDepth 4000
section
namespace Go.Proofs
open Go.Shelf
def Tryz.lays156_ren:Go.Shelf.Ren:=⟨fun|156=>35|165=>71|166=>21|169=>24|240=>55|241=>118|276=>93|277=>163|n=>n,fun|31=>68|9=>9|3=>3|4=>4|0=>0|20=>20|72=>60|76=>63|70=>58|37=>39|75=>62|127=>104|164=>146|5=>5|80=>67|n=>n,fun|n=>n⟩
def Tryz.lays156:Go.Proofs.Lays.n156 Tryz.prog Tryz.lays156_ren:={
 mixed:=by kernel_rfl
 f156:=cK Tryz.func35
 f165:=cK Tryz.func71
 f166:=cK Tryz.func21
 f169:=cK Tryz.func24
 f240:=cK Tryz.func55
 f241:=cK Tryz.func118
 f276:=cK Tryz.func93
 f277:=cK Tryz.func163
 t0:=Tryz.underlying0
 a0:=Tryz.isAgg0
 z0:=Tryz.sizeOf0
 v0:=Tryz.zeroValue0
 t3:=Tryz.underlying3
 a3:=Tryz.isAgg3
 z3:=Tryz.sizeOf3
 v3:=Tryz.zeroValue3
 t4:=Tryz.underlying4
 a4:=Tryz.isAgg4
 z4:=Tryz.sizeOf4
 v4:=Tryz.zeroValue4
 t9:=Tryz.underlying9
 a9:=Tryz.isAgg9
 z9:=Tryz.sizeOf9
 v9:=Tryz.zeroValue9
 t20:=Tryz.underlying20
 a20:=Tryz.isAgg20
 z20:=Tryz.sizeOf20
 v20:=Tryz.zeroValue20
 t31:=Tryz.underlying68
 a31:=Tryz.isAgg68
 z31:=Tryz.sizeOf68
 v31:=Tryz.zeroValue68
 t37:=Tryz.underlying39
 a37:=Tryz.isAgg39
 z37:=Tryz.sizeOf39
 v37:=Tryz.zeroValue39
 t70:=Tryz.underlying58
 a70:=Tryz.isAgg58
 z70:=Tryz.sizeOf58
 v70:=Tryz.zeroValue58
 t72:=Tryz.underlying60
 a72:=Tryz.isAgg60
 z72:=Tryz.sizeOf60
 v72:=Tryz.zeroValue60
 t75:=Tryz.underlying62
 a75:=Tryz.isAgg62
 z75:=Tryz.sizeOf62
 v75:=Tryz.zeroValue62
 t76:=Tryz.underlying63
 a76:=Tryz.isAgg63
 z76:=Tryz.sizeOf63
 v76:=Tryz.zeroValue63
 t127:=Tryz.underlying104
 a127:=Tryz.isAgg104
 z127:=Tryz.sizeOf104
 v127:=Tryz.zeroValue104
 t164:=Tryz.underlying146
 a164:=Tryz.isAgg146
 z164:=Tryz.sizeOf146
 v164:=Tryz.zeroValue146}
def Tryz.Builder_Extra_156:Builder.Extra Tryz.prog Tryz.lays156_ren:={
 sizeBuilder:=by kernel_rfl
 liesBuilder:=by kernel_rfl
 t5:=Tryz.underlying5
 a5:=Tryz.isAgg5
 z5:=Tryz.sizeOf5
 v5:=Tryz.zeroValue5
 infoByte:=by kernel_rfl
 cellsByte:=by kernel_rfl
 sizeByte:=by kernel_rfl
 neB5:=by decide}
open Go.RowKit in
theorem Tryz.strings_Join_none (a:Option Addr)(c:Nat)(sep:ByteArray)(w:World):
  Calls Tryz.prog 35 #[.slice a 0 c,.string sep] w fun e w'=>e=.returned (.string ⟨#[]⟩)∧w'=w:=Any.strings_Join_none Tryz.lays156 Tryz.Builder_Extra_156 a c sep w
open Go.RowKit in
theorem Tryz.strings_Join (bk o c:Nat)(xs:List ByteArray)(sep:ByteArray)(w:World)(hcells:∀(j:Nat) x,xs[j]? =some x→w.cell? ⟨bk,o+j,none⟩=some (.string x))(hbk:bk<w.heap.size)(hN:xs.length≤140737488355328)(hcap:xs.length≤c)(hlen:(Lib.join (xs.map (·.data.toList)) sep.data.toList).length≤140737488355328):
  Calls Tryz.prog 35 #[.slice (some ⟨bk,o,none⟩) xs.length c,.string sep] w fun e w'=>e=.returned (.string ⟨(Lib.join (xs.map (·.data.toList)) sep.data.toList).toArray⟩)∧Below w.heap.size w w':=Any.strings_Join Tryz.lays156 Tryz.Builder_Extra_156 bk o c xs sep w hcells hbk hN hcap hlen
def Tryz.lays160_ren:Go.Shelf.Ren:=⟨fun|160=>208|232=>231|231=>230|227=>232|234=>234|233=>233|236=>236|235=>235|228=>258|271=>260|151=>259|197=>196|120=>275|152=>274|260=>223|137=>286|119=>287|224=>200|225=>199|217=>198|266=>224|n=>n,fun|9=>9|4=>4|3=>3|5=>5|117=>247|116=>246|0=>0|124=>250|21=>21|105=>221|46=>105|119=>260|139=>263|138=>262|n=>n,fun|3=>1|4=>2|n=>n⟩
def Tryz.lays160:Go.Proofs.Lays.n160 Tryz.prog Tryz.lays160_ren:={
 mixed:=by kernel_rfl
 f119:=cK Tryz.func287
 f120:=cK Tryz.func275
 f137:=cK Tryz.func286
 f151:=cK Tryz.func259
 f152:=cK Tryz.func274
 f160:=cK Tryz.func208
 f197:=cK Tryz.func196
 f217:=cK Tryz.func198
 f224:=cK Tryz.func200
 f225:=cK Tryz.func199
 f227:=cK Tryz.func232
 f228:=cK Tryz.func258
 f231:=cK Tryz.func230
 f232:=cK Tryz.func231
 f233:=cK Tryz.func233
 f234:=cK Tryz.func234
 f235:=cK Tryz.func235
 f236:=cK Tryz.func236
 f260:=cK Tryz.func223
 f266:=cK Tryz.func224
 f271:=cK Tryz.func260
 t0:=Tryz.underlying0
 a0:=Tryz.isAgg0
 z0:=Tryz.sizeOf0
 v0:=Tryz.zeroValue0
 t3:=Tryz.underlying3
 a3:=Tryz.isAgg3
 z3:=Tryz.sizeOf3
 v3:=Tryz.zeroValue3
 t4:=Tryz.underlying4
 a4:=Tryz.isAgg4
 z4:=Tryz.sizeOf4
 v4:=Tryz.zeroValue4
 t5:=Tryz.underlying5
 a5:=Tryz.isAgg5
 z5:=Tryz.sizeOf5
 v5:=Tryz.zeroValue5
 t9:=Tryz.underlying9
 a9:=Tryz.isAgg9
 z9:=Tryz.sizeOf9
 v9:=Tryz.zeroValue9
 t21:=Tryz.underlying21
 a21:=Tryz.isAgg21
 z21:=Tryz.sizeOf21
 v21:=Tryz.zeroValue21
 t46:=Tryz.underlying105
 a46:=Tryz.isAgg105
 z46:=Tryz.sizeOf105
 v46:=Tryz.zeroValue105
 t105:=Tryz.underlying221
 a105:=Tryz.isAgg221
 z105:=Tryz.sizeOf221
 v105:=Tryz.zeroValue221
 t116:=Tryz.underlying246
 a116:=Tryz.isAgg246
 z116:=Tryz.sizeOf246
 t117:=Tryz.underlying247
 a117:=Tryz.isAgg247
 z117:=Tryz.sizeOf247
 v117:=Tryz.zeroValue247
 t119:=Tryz.underlying260
 a119:=Tryz.isAgg260
 z119:=Tryz.sizeOf260
 t124:=Tryz.underlying250
 a124:=Tryz.isAgg250
 z124:=Tryz.sizeOf250
 v124:=Tryz.zeroValue250
 t138:=Tryz.underlying262
 a138:=Tryz.isAgg262
 z138:=Tryz.sizeOf262
 v138:=Tryz.zeroValue262
 t139:=Tryz.underlying263
 a139:=Tryz.isAgg263
 z139:=Tryz.sizeOf263
 v139:=Tryz.zeroValue263
 g3:=by kernel_rfl
 g4:=by kernel_rfl}
open Go.RowKit in
theorem Tryz.strings_Trim_one (s:ByteArray)(c:UInt8)(hc:c.toNat<128)(w:World)(hs:s.size≤9223372036854775807):
  Calls Tryz.prog 208 #[.string s,.string ⟨#[c]⟩] w fun e w'=>e=.returned (.string ⟨(Lib.trimB s.data.toList c).toArray⟩)∧(w'=w∨w'=w.drew):=Any.strings_Trim_one Tryz.lays160 s c hc w hs
def Tryz.lays103_ren:Go.Shelf.Ren:=⟨fun|103=>30|210=>66|206=>112|n=>n,fun|9=>9|4=>4|24=>70|3=>3|n=>n,fun|n=>n⟩
def Tryz.lays103:Go.Proofs.Lays.n103 Tryz.prog Tryz.lays103_ren:={
 mixed:=by kernel_rfl
 f103:=cK Tryz.func30
 f206:=cK Tryz.func112
 f210:=cK Tryz.func66
 t3:=Tryz.underlying3
 a3:=Tryz.isAgg3
 z3:=Tryz.sizeOf3
 v3:=Tryz.zeroValue3
 t4:=Tryz.underlying4
 a4:=Tryz.isAgg4
 z4:=Tryz.sizeOf4
 v4:=Tryz.zeroValue4
 t9:=Tryz.underlying9
 a9:=Tryz.isAgg9
 z9:=Tryz.sizeOf9
 v9:=Tryz.zeroValue9
 t24:=Tryz.underlying70
 a24:=Tryz.isAgg70
 z24:=Tryz.sizeOf70
 v24:=Tryz.zeroValue70}
open Go.RowKit in
theorem Tryz.strings_CutPrefix (s p:ByteArray)(w:World):
  Calls Tryz.prog 30 #[.string s,.string p] w fun e w'=>e=.returned (.tuple #[.string ⟨(Lib.trimPrefix s.data.toList p.data.toList).toArray⟩,.bool (Lib.hasPrefix s.data.toList p.data.toList)])∧w'=w:=Any.strings_CutPrefix Tryz.lays103 s p w
def Tryz.lays104_ren:Go.Shelf.Ren:=⟨fun|104=>65|211=>111|207=>157|n=>n,fun|9=>9|4=>4|24=>70|3=>3|n=>n,fun|n=>n⟩
def Tryz.lays104:Go.Proofs.Lays.n104 Tryz.prog Tryz.lays104_ren:={
 mixed:=by kernel_rfl
 f104:=cK Tryz.func65
 f207:=cK Tryz.func157
 f211:=cK Tryz.func111
 t3:=Tryz.underlying3
 a3:=Tryz.isAgg3
 z3:=Tryz.sizeOf3
 v3:=Tryz.zeroValue3
 t4:=Tryz.underlying4
 a4:=Tryz.isAgg4
 z4:=Tryz.sizeOf4
 v4:=Tryz.zeroValue4
 t9:=Tryz.underlying9
 a9:=Tryz.isAgg9
 z9:=Tryz.sizeOf9
 v9:=Tryz.zeroValue9
 t24:=Tryz.underlying70
 a24:=Tryz.isAgg70
 z24:=Tryz.sizeOf70
 v24:=Tryz.zeroValue70}
open Go.RowKit in
theorem Tryz.strings_CutSuffix (s p:ByteArray)(w:World)(hs:s.size≤9223372036854775807):
  Calls Tryz.prog 65 #[.string s,.string p] w fun e w'=>e=.returned (.tuple #[.string ⟨(Lib.trimSuffix s.data.toList p.data.toList).toArray⟩,.bool (Lib.hasSuffix s.data.toList p.data.toList)])∧w'=w:=Any.strings_CutSuffix Tryz.lays104 s p w hs
def Tryz.laysM171_ren:Go.Shelf.Ren:=⟨fun|171=>183|243=>215|246=>245|283=>262|284=>263|285=>264|286=>265|129=>277|317=>276|318=>278|319=>279|320=>280|337=>288|338=>289|n=>n,fun|3=>3|9=>9|2=>2|4=>4|171=>265|0=>0|53=>52|37=>39|5=>5|173=>268|212=>275|51=>237|20=>20|213=>276|46=>105|232=>282|233=>283|n=>n,fun|17=>3|18=>4|19=>5|n=>n⟩
def Tryz.laysM171:Go.Proofs.LaysM.n171 Tryz.prog Tryz.laysM171_ren:={
 mixed:=by kernel_rfl
 f129:=cK Tryz.func277
 f171:=cK Tryz.func183
 f243:=cK Tryz.func215
 f246:=cK Tryz.func245
 f283:=cK Tryz.func262
 f284:=cK Tryz.func263
 f285:=cK Tryz.func264
 f286:=cK Tryz.func265
 f317:=cK Tryz.func276
 f318:=cK Tryz.func278
 f319:=cK Tryz.func279
 f320:=cK Tryz.func280
 f337:=cK Tryz.func288
 f338:=cK Tryz.func289
 t0:=Tryz.underlying0
 a0:=Tryz.isAgg0
 z0:=Tryz.sizeOf0
 v0:=Tryz.zeroValue0
 t2:=Tryz.underlying2
 a2:=Tryz.isAgg2
 z2:=Tryz.sizeOf2
 v2:=Tryz.zeroValue2
 t3:=Tryz.underlying3
 a3:=Tryz.isAgg3
 z3:=Tryz.sizeOf3
 v3:=Tryz.zeroValue3
 t4:=Tryz.underlying4
 a4:=Tryz.isAgg4
 z4:=Tryz.sizeOf4
 v4:=Tryz.zeroValue4
 t5:=Tryz.underlying5
 a5:=Tryz.isAgg5
 z5:=Tryz.sizeOf5
 v5:=Tryz.zeroValue5
 t9:=Tryz.underlying9
 a9:=Tryz.isAgg9
 z9:=Tryz.sizeOf9
 v9:=Tryz.zeroValue9
 t20:=Tryz.underlying20
 a20:=Tryz.isAgg20
 z20:=Tryz.sizeOf20
 v20:=Tryz.zeroValue20
 t37:=Tryz.underlying39
 a37:=Tryz.isAgg39
 z37:=Tryz.sizeOf39
 v37:=Tryz.zeroValue39
 t46:=Tryz.underlying105
 a46:=Tryz.isAgg105
 z46:=Tryz.sizeOf105
 v46:=Tryz.zeroValue105
 t51:=Tryz.underlying237
 a51:=Tryz.isAgg237
 z51:=Tryz.sizeOf237
 v51:=Tryz.zeroValue237
 t53:=Tryz.underlying52
 a53:=Tryz.isAgg52
 z53:=Tryz.sizeOf52
 v53:=Tryz.zeroValue52
 t171:=Tryz.underlying265
 a171:=Tryz.isAgg265
 z171:=Tryz.sizeOf265
 v171:=Tryz.zeroValue265
 t173:=Tryz.underlying268
 a173:=Tryz.isAgg268
 z173:=Tryz.sizeOf268
 v173:=Tryz.zeroValue268
 t212:=Tryz.underlying275
 a212:=Tryz.isAgg275
 z212:=Tryz.sizeOf275
 v212:=Tryz.zeroValue275
 t213:=Tryz.underlying276
 a213:=Tryz.isAgg276
 z213:=Tryz.sizeOf276
 t232:=Tryz.underlying282
 a232:=Tryz.isAgg282
 z232:=Tryz.sizeOf282
 v232:=Tryz.zeroValue282
 t233:=Tryz.underlying283
 a233:=Tryz.isAgg283
 z233:=Tryz.sizeOf283
 v233:=Tryz.zeroValue283
 g17:=by kernel_rfl
 g18:=by kernel_rfl
 g19:=by kernel_rfl
 i0:=by kernel_rfl
 i2:=by kernel_rfl
 i3:=by kernel_rfl
 i4:=by kernel_rfl
 i5:=by kernel_rfl
 i9:=by kernel_rfl
 i20:=by kernel_rfl
 i37:=by kernel_rfl
 i46:=by kernel_rfl
 i51:=by kernel_rfl
 i53:=by kernel_rfl
 i171:=by kernel_rfl
 i173:=by kernel_rfl
 i212:=by kernel_rfl
 i232:=by kernel_rfl
 i233:=by kernel_rfl
 m17:=by kernel_rfl
 m18:=by kernel_rfl
 m19:=by kernel_rfl}
open Go.RowKit Go.Sort Go.Lib in
theorem Tryz.strconv_Itoa (n:Int)(h0:-9223372036854775808≤n)(h1:n≤9223372036854775807)(w:World)(htab:Lib.TabIs Tryz.prog w "internal/strconv.uint64pow10" .u64 Lib.pow10Tab):
  Calls Tryz.prog 183 #[.int .i64 n] w fun e w'=>e=.returned (.string ⟨(Lib.itoa n).toArray⟩)∧∃k os,w'=grow (w.drewN k) os:=Any.strconv_Itoa Tryz.laysM171 n h0 h1 w htab
def Tryz.lays145_ren:Go.Shelf.Ren:=⟨fun|145=>69|220=>113|219=>158|217=>198|225=>199|224=>200|267=>201|266=>224|314=>225|n=>n,fun|9=>9|4=>4|59=>109|3=>3|5=>5|46=>105|146=>238|51=>237|n=>n,fun|1=>0|n=>n⟩
def Tryz.lays145:Go.Proofs.Lays.n145 Tryz.prog Tryz.lays145_ren:={
 mixed:=by kernel_rfl
 f145:=cK Tryz.func69
 f217:=cK Tryz.func198
 f219:=cK Tryz.func158
 f220:=cK Tryz.func113
 f224:=cK Tryz.func200
 f225:=cK Tryz.func199
 f266:=cK Tryz.func224
 f267:=cK Tryz.func201
 f314:=cK Tryz.func225
 t3:=Tryz.underlying3
 a3:=Tryz.isAgg3
 z3:=Tryz.sizeOf3
 v3:=Tryz.zeroValue3
 t4:=Tryz.underlying4
 a4:=Tryz.isAgg4
 z4:=Tryz.sizeOf4
 v4:=Tryz.zeroValue4
 t5:=Tryz.underlying5
 a5:=Tryz.isAgg5
 z5:=Tryz.sizeOf5
 v5:=Tryz.zeroValue5
 t9:=Tryz.underlying9
 a9:=Tryz.isAgg9
 z9:=Tryz.sizeOf9
 v9:=Tryz.zeroValue9
 t46:=Tryz.underlying105
 a46:=Tryz.isAgg105
 z46:=Tryz.sizeOf105
 v46:=Tryz.zeroValue105
 t51:=Tryz.underlying237
 a51:=Tryz.isAgg237
 z51:=Tryz.sizeOf237
 v51:=Tryz.zeroValue237
 t59:=Tryz.underlying109
 a59:=Tryz.isAgg109
 z59:=Tryz.sizeOf109
 v59:=Tryz.zeroValue109
 t146:=Tryz.underlying238
 a146:=Tryz.isAgg238
 z146:=Tryz.sizeOf238
 v146:=Tryz.zeroValue238
 g1:=by kernel_rfl}
open Go.RowKit Go.Lib in
theorem Tryz.strings_Cut (s sep:ByteArray)(m:Int)(w:World)(hs:s.size<4294967281)(hm:w.cell? ⟨0,0,none⟩=some (.int .i64 m)):
  Calls Tryz.prog 69 #[.string s,.string sep] w fun e w'=>e=.returned (.tuple #[.string ⟨(Lib.cut s.data.toList sep.data.toList).1.toArray⟩,.string ⟨(Lib.cut s.data.toList sep.data.toList).2.1.toArray⟩,.bool (Lib.cut s.data.toList sep.data.toList).2.2])∧∃n,w'=w.drewN n:=Any.strings_Cut Tryz.lays145 s sep m w hs hm
def Tryz.lays221_ren:Go.Shelf.Ren:=⟨fun|221=>110|268=>154|138=>155|143=>156|195=>195|197=>196|218=>197|219=>158|260=>223|217=>198|225=>199|224=>200|267=>201|266=>224|314=>225|n=>n,fun|9=>9|3=>3|31=>68|4=>4|0=>0|105=>221|21=>21|5=>5|46=>105|119=>260|139=>263|138=>262|146=>238|51=>237|n=>n,fun|1=>0|3=>1|4=>2|n=>n⟩
def Tryz.lays221:Go.Proofs.Lays.n221 Tryz.prog Tryz.lays221_ren:={
 mixed:=by kernel_rfl
 f138:=cK Tryz.func155
 f143:=cK Tryz.func156
 f195:=cK Tryz.func195
 f197:=cK Tryz.func196
 f217:=cK Tryz.func198
 f218:=cK Tryz.func197
 f219:=cK Tryz.func158
 f221:=cK Tryz.func110
 f224:=cK Tryz.func200
 f225:=cK Tryz.func199
 f260:=cK Tryz.func223
 f266:=cK Tryz.func224
 f267:=cK Tryz.func201
 f268:=cK Tryz.func154
 f314:=cK Tryz.func225
 t0:=Tryz.underlying0
 a0:=Tryz.isAgg0
 z0:=Tryz.sizeOf0
 v0:=Tryz.zeroValue0
 t3:=Tryz.underlying3
 a3:=Tryz.isAgg3
 z3:=Tryz.sizeOf3
 v3:=Tryz.zeroValue3
 t4:=Tryz.underlying4
 a4:=Tryz.isAgg4
 z4:=Tryz.sizeOf4
 v4:=Tryz.zeroValue4
 t5:=Tryz.underlying5
 a5:=Tryz.isAgg5
 z5:=Tryz.sizeOf5
 v5:=Tryz.zeroValue5
 t9:=Tryz.underlying9
 a9:=Tryz.isAgg9
 z9:=Tryz.sizeOf9
 v9:=Tryz.zeroValue9
 t21:=Tryz.underlying21
 a21:=Tryz.isAgg21
 z21:=Tryz.sizeOf21
 v21:=Tryz.zeroValue21
 t31:=Tryz.underlying68
 a31:=Tryz.isAgg68
 z31:=Tryz.sizeOf68
 v31:=Tryz.zeroValue68
 t46:=Tryz.underlying105
 a46:=Tryz.isAgg105
 z46:=Tryz.sizeOf105
 v46:=Tryz.zeroValue105
 t51:=Tryz.underlying237
 a51:=Tryz.isAgg237
 z51:=Tryz.sizeOf237
 v51:=Tryz.zeroValue237
 t105:=Tryz.underlying221
 a105:=Tryz.isAgg221
 z105:=Tryz.sizeOf221
 v105:=Tryz.zeroValue221
 t119:=Tryz.underlying260
 a119:=Tryz.isAgg260
 z119:=Tryz.sizeOf260
 t138:=Tryz.underlying262
 a138:=Tryz.isAgg262
 z138:=Tryz.sizeOf262
 v138:=Tryz.zeroValue262
 t139:=Tryz.underlying263
 a139:=Tryz.isAgg263
 z139:=Tryz.sizeOf263
 v139:=Tryz.zeroValue263
 t146:=Tryz.underlying238
 a146:=Tryz.isAgg238
 z146:=Tryz.sizeOf238
 v146:=Tryz.zeroValue238
 g1:=by kernel_rfl
 g3:=by kernel_rfl
 g4:=by kernel_rfl}
def Tryz.lays146_ren:Go.Shelf.Ren:=⟨fun|146=>67|221=>110|268=>154|138=>155|143=>156|195=>195|197=>196|218=>197|219=>158|260=>223|217=>198|225=>199|224=>200|267=>201|266=>224|314=>225|n=>n,fun|9=>9|31=>68|3=>3|4=>4|0=>0|105=>221|21=>21|5=>5|46=>105|119=>260|139=>263|138=>262|146=>238|51=>237|n=>n,fun|1=>0|3=>1|4=>2|n=>n⟩
def Tryz.lays146:Go.Proofs.Lays.n146 Tryz.prog Tryz.lays146_ren:={
 mixed:=by kernel_rfl
 f138:=cK Tryz.func155
 f143:=cK Tryz.func156
 f146:=cK Tryz.func67
 f195:=cK Tryz.func195
 f197:=cK Tryz.func196
 f217:=cK Tryz.func198
 f218:=cK Tryz.func197
 f219:=cK Tryz.func158
 f221:=cK Tryz.func110
 f224:=cK Tryz.func200
 f225:=cK Tryz.func199
 f260:=cK Tryz.func223
 f266:=cK Tryz.func224
 f267:=cK Tryz.func201
 f268:=cK Tryz.func154
 f314:=cK Tryz.func225
 t0:=Tryz.underlying0
 a0:=Tryz.isAgg0
 z0:=Tryz.sizeOf0
 v0:=Tryz.zeroValue0
 t3:=Tryz.underlying3
 a3:=Tryz.isAgg3
 z3:=Tryz.sizeOf3
 v3:=Tryz.zeroValue3
 t4:=Tryz.underlying4
 a4:=Tryz.isAgg4
 z4:=Tryz.sizeOf4
 v4:=Tryz.zeroValue4
 t5:=Tryz.underlying5
 a5:=Tryz.isAgg5
 z5:=Tryz.sizeOf5
 v5:=Tryz.zeroValue5
 t9:=Tryz.underlying9
 a9:=Tryz.isAgg9
 z9:=Tryz.sizeOf9
 v9:=Tryz.zeroValue9
 t21:=Tryz.underlying21
 a21:=Tryz.isAgg21
 z21:=Tryz.sizeOf21
 v21:=Tryz.zeroValue21
 t31:=Tryz.underlying68
 a31:=Tryz.isAgg68
 z31:=Tryz.sizeOf68
 v31:=Tryz.zeroValue68
 t46:=Tryz.underlying105
 a46:=Tryz.isAgg105
 z46:=Tryz.sizeOf105
 v46:=Tryz.zeroValue105
 t51:=Tryz.underlying237
 a51:=Tryz.isAgg237
 z51:=Tryz.sizeOf237
 v51:=Tryz.zeroValue237
 t105:=Tryz.underlying221
 a105:=Tryz.isAgg221
 z105:=Tryz.sizeOf221
 v105:=Tryz.zeroValue221
 t119:=Tryz.underlying260
 a119:=Tryz.isAgg260
 z119:=Tryz.sizeOf260
 t138:=Tryz.underlying262
 a138:=Tryz.isAgg262
 z138:=Tryz.sizeOf262
 v138:=Tryz.zeroValue262
 t139:=Tryz.underlying263
 a139:=Tryz.isAgg263
 z139:=Tryz.sizeOf263
 v139:=Tryz.zeroValue263
 t146:=Tryz.underlying238
 a146:=Tryz.isAgg238
 z146:=Tryz.sizeOf238
 v146:=Tryz.zeroValue238
 g1:=by kernel_rfl
 g3:=by kernel_rfl
 g4:=by kernel_rfl}
open Go.RowKit Go.Lib in
theorem Tryz.strings_Split (s sep:ByteArray)(m:Int)(w:World)(hs:s.size<4294967281)(hm:w.cell? ⟨0,0,none⟩=some (.int .i64 m))(h1:1≤sep.size):
  Calls Tryz.prog 67 #[.string s,.string sep] w fun e w'=>
   e=.returned (.slice (some ⟨w.heap.size,0,none⟩) (Lib.countB s sep+1) (Lib.countB s sep+1))∧w'=w.alloc (.cells ((Lib.splitB sep 0 (Lib.countB s sep) s).map Value.string).toArray 9):=Any.strings_Split Tryz.lays146 (by kernel_rfl) s sep m w hs hm h1
def Tryz.laysNm216_ren:Go.Shelf.Ren:=⟨fun|16=>86|n=>n,fun|24=>68|9=>9|4=>4|n=>n,fun|n=>n⟩
def Tryz.laysNm216:Go.Proofs.Lays2.n16 Tryz.prog Tryz.laysNm216_ren:={
 mixed:=by kernel_rfl
 f16:=cK Tryz.func86
 t4:=Tryz.underlying4
 a4:=Tryz.isAgg4
 z4:=Tryz.sizeOf4
 v4:=Tryz.zeroValue4
 t9:=Tryz.underlying9
 a9:=Tryz.isAgg9
 z9:=Tryz.sizeOf9
 v9:=Tryz.zeroValue9
 t24:=Tryz.underlying68
 a24:=Tryz.isAgg68
 z24:=Tryz.sizeOf68
 v24:=Tryz.zeroValue68
 i9:=by kernel_rfl}
open Go.RowKit Go.Lib in
theorem Tryz.slices_Clone_string (b off n c:Nat)(zs:List ByteArray)(w:World)(hz:n≤zs.length)(hbig:n*16≤140737488355328)(hc:∀j,j<zs.length→w.cell? ⟨b,off+j,none⟩=some (.string (zs.getD j ByteArray.empty))):
  Calls Tryz.prog 86 #[.slice (some ⟨b,off,none⟩) n c] w fun e w'=>∃v',e=.returned v'∧w'.ownsRow w.heap.size 9 1 v' n ((zs.take n).map (Value.string))∧v'≠.slice none 0 0∧Below w.heap.size w w':=Any.slices_Clone_string Tryz.laysNm216 b off n c zs w hz hbig hc
open Go.RowKit Go.Lib in
theorem Tryz.slices_Clone_string_nil (n c:Nat)(w:World):
  Calls Tryz.prog 86 #[.slice none n c] w fun e w'=>e=.returned (.slice none 0 0)∧w'=w:=Any.slices_Clone_string_nil Tryz.laysNm216 n c w
open Go.RowKit Go.Lib in
theorem Tryz.slices_Clone_string_zero (a:Addr)(c:Nat)(w:World):
  Calls Tryz.prog 86 #[.slice (some a) 0 c] w fun e w'=>∃v',e=.returned v'∧w'.ownsRow w.heap.size 9 1 v' 0 []∧v'≠.slice none 0 0∧Below w.heap.size w w':=Any.slices_Clone_string_zero Tryz.laysNm216 a c w
end Go.Proofs
end
namespace Go.Abs
def LP {s:au}(h:s.findIdx? (fun c=>c==10)=none):iP s=[s]:=by
 have hs:aq s 10=[s]:=by have:=rr 10 s [] h;simpa[aq]using this
 unfold iP S0 yM;rw[hs];rfl
def O6 {s:au}{j:Nat}(h:s.findIdx? (fun c=>c==10)=some j):iP s=s.take (j+1)::iP (s.drop (j+1)):=by
 have hs:aq s 10=s.take j::aq (s.drop (j+1)) 10:=by have:=ph 10 s [] j h;simpa[aq]using this
 obtain⟨h1,h2,_⟩:=List.findIdx?_eq_some_iff_getElem.1 h;have ht:s.take (j+1)=s.take j++[10]:=by
  rw[List.take_add_one,List.getElem?_eq_getElem h1]
  grind
 obtain⟨A,b,hb⟩:∃A b,aq (s.drop (j+1)) 10=A++[b]:=⟨_,_,(List.dropLast_concat_getLast (Bi _ _)).symm⟩
 grind [iP]
def Ng:∀(k:Nat) (s:ByteArray),Lib.countB s ⟨⟨[10]⟩⟩=k->(Lib.splitB ⟨⟨[10]⟩⟩ 1 k s).map (fun t=>t.data.toList)=iP s.data.toList:=by
 intro k;induction k with
 |zero=>
  intro s h;rw[Lib.splitB_zero];have hi:Lib.indexB s ⟨⟨[10]⟩⟩=SW (s.data.toList.findIdx? (fun c=>c==10)):=uG _ 10;cases hq:s.data.toList.findIdx? (fun c=>c==10)with
  |none=>rw[LP hq];rfl
  |some j=>
   rw[hq]at hi;have:=Lib.countB_hit s ⟨⟨[10]⟩⟩ j (aS 1) hi;omega
 |succ k ih=>
  intro s h;have hi:Lib.indexB s ⟨⟨[10]⟩⟩=SW (s.data.toList.findIdx? (fun c=>c==10)):=uG _ 10;cases hq:s.data.toList.findIdx? (fun c=>c==10)with
  |none=>
   rw[hq]at hi;have:=Lib.countB_miss s ⟨⟨[10]⟩⟩ hi;omega
  |some j=>
   rw[hq]at hi;have hc:=Lib.countB_hit s ⟨⟨[10]⟩⟩ j (aS 1) hi;have hl:(⟨⟨[10]⟩⟩:ByteArray).size=1:=rfl;rw[Lib.splitB_hit _ _ _ _ j hi,List.map_cons,ih _ ae,O6 hq,Lib.extract_from_zero,Lib.extract_to_end];rfl
def RO (s:au):(iP s).length<=s.length+1/\∀t∈iP s,t.length<=s.length+1:=by
 have hl:=eL s 10;have hp:=ff 10 s [];refine⟨?_,fun t h1=>?_⟩
 .unfold iP
  grind
 .unfold iP at h1;rcases List.mem_append.1 h1 with h2|h2
  .obtain⟨u,hu,rfl⟩:=dN.1 h2;have:=iI s 10 (qP hu);simp;omega
  grind [pg,aq]
def Mz (s:au):(Lib.trimSuffix s [10],Lib.hasSuffix s [10])=bP s:=by
 unfold Lib.trimSuffix Lib.hasSuffix bP;cases hq:s.getLast? with
 |none=>
  grind
 |some c=>
  obtain⟨r,rfl⟩:∃r,s=r++[c]:=by
   have hne:s≠[]:=by rintro rfl;cases hq
   refine⟨s.dropLast, ?_⟩;have:=List.dropLast_concat_getLast hne
   grind
  have e:([10]:au).isSuffixOf (r++[c])=decide (c=10):=by
   rw[Bool.eq_iff_iff,List.isSuffixOf_iff_suffix,aY];constructor
   .rintro⟨q,hq⟩
    grind
   .rintro rfl;exact⟨r,rfl⟩
  rw[e];by_cases h:c=10
  .subst h;simp
  .simp[h]
section
open Go.Proofs Go.Shelf Go.RowKit
section
variable [dt] {P:Program}
def lY (U:TypeId)(w:World)(v:Value)(s:List UInt8):Prop:=
 (v=.slice none 0 0/\s=[])\/∃g t c,v=.slice (some ⟨g,0,none⟩) s.length t/\w.heap[g]? =some (.cells c U (0,0))/\c.size=t/\t<=maxLen/\s.length<=t/\∀i,i<s.length->c.getD i undef=.int .u8 (s.getD i 0).toNat
def gM (s:List UInt8):List Value:=s.map fun b=>Value.int .u8 b.toNat
def iB (s:List UInt8):(gM s).length=s.length:=by simp[gM]
theorem sa (s:List UInt8)(i:Nat)(h:i<s.length):(gM s).getD i undef=.int .u8 (s.getD i 0).toNat:=by simp[gM,List.getD,h]
def ye (s:List UInt8):∀u∈gM s,u.oneCell'=true:=by
 intro u hu;obtain⟨b,_,rfl⟩:=dN.1 hu;rfl
def Ip {x y:List UInt8}{zs:Array Value}(i:Nat)(hi:i<(x++y).length):(((gM x++gM y).toArray++zs).getD i undef)=.int .u8 ((x++y).getD i 0).toNat:=by
 rw[<-b9]
 grind [cX,gM,sa]
def QM {U t u ty:TypeId}{i:TypeInfo}{w:World}(ht:P.underlying t=some (.slice U))(hi:P.info? U=some i)(hz:i.zero=some (.int .u8 0))(hs:i.size=1)(hby:i.bytes=1){v xv:Value}{s s2:List UInt8}
  (hv:lY U w v s) (h0:s2≠[]) (hsrc:Go.Src P 1 u xv s2.length (gM s2) w) (hle:s.length+s2.length<=1099511627776):
  ∃g' t' w',(Builtin.append_ #[t,u] ty #[v,xv]).run P w=.ok (.slice (some ⟨g',0,none⟩) (s++s2).length t') w'/\lY U w' (.slice (some ⟨g',0,none⟩) (s++s2).length t') (s++s2)/\w.grownBy w' v.ownBlock/\(v.ownBlock=some g'\/w.heap.size<=g')/\g'<w'.heap.size:=by
 have hp:0<s2.length:=List.length_pos_iff.2 h0;have hm:maxLen=9223372036854775807:=rfl;rw[<-hs]at hsrc;rcases hv with⟨rfl,rfl⟩|⟨g,cap,c,rfl,hg,hcs,hcm,hle2,hc⟩
 .have hr:=run_append_grow_src (P:=P) w t u ty U i _ ht hi hz none 0 0 [] (by simp[Builtin.firstCells,loadCells,loadCellsFrom]) xv s2.length (gM s2) hsrc ae (by simp only[aC]at hle;omega) (by rw[hby];exact growslice_fits ae (by simp only[aC]at hle;omega));have hge:=grownCap_ge w (0+s2.length) 0 U;have hcm2:grownCap w (0+s2.length) 0 U<=maxLen:=grownCap_le_maxLen w (0+s2.length) 0 U (by simp only[aC]at hle;omega);simp only[cd,eS]at hr hge hcm2;refine⟨w.heap.size,_,_,hr,.inr ⟨w.heap.size,_,_,rfl,ef w.drew _, ?_,hcm2,hge,fun j hj=>?_⟩,⟨rfl,rfl,rfl, ?_,fun k hk _=>k8 w.drew _ k hk⟩,.inr (aS _), ?_⟩
  .have hz1:(Value.int IntKind.u8 0).cells.size=1:=rfl;simp only[eS,Array.size_append,List.size_toArray,iB,size_zeroCells,hz1];omega
  .exact Ip (x:=[]) j hj
  .show w.heap.size<=(w.drew.heap.push _).size;rw[Array.size_push];exact Nat.le_succ _
  .show w.heap.size<(w.drew.heap.push _).size;rw[Array.size_push];exact Nat.lt_succ_self _
 .by_cases hroom:s.length+s2.length<=cap
  .have hr:=run_append_room_src (P:=P) w t u ty U i ht hi g 0 s.length cap xv s2.length (gM s2) hsrc hroom (fun j hj=>by
    rw[hs,cell_of_heap hg (by rw[iB]at hj;omega)];rfl) (fun j hj=>by simp[World.frozen?,hg])
   obtain⟨c',s1,s3,s4⟩:=lf g (gM s2) (0+s.length*i.size) w c U (0,0) hg (by rw[iB,hs];omega);obtain⟨f1,f2,f3,f4⟩:=kf g (gM s2) (0+s.length*i.size) w;have hlt:g<w.heap.size:=by
    rcases gz g w.heap.size with h|h
    .exact h
    .simp[Array.getElem?_eq_none h]at hg
   refine⟨g,cap,_,by simpa using hr,.inr ⟨g,cap,c',aQ,s1,ae,hcm,by rw[bJ];exact hroom,fun j hj=>?_⟩,⟨f1,f2,f3,ae,fun k _ hk=>kg g _ _ _ k (fun e=>hk (by simp[Value.ownBlock,e]))⟩,.inl rfl,ae⟩;rw[s4,iB,hs];rw[bJ]at hj;by_cases hj2:j<s.length
   .rw[ai ae,hc j hj2,cX,ax hj2]
   .rw[ax ae,sa _ _ ae,cX,ai hj2];congr 4;omega
  .have hold:(Builtin.firstCells i.size s.length (.slice (some ⟨g,0,none⟩) s.length cap)).run P w.drew=.ok (gM s).toArray w.drew:=by
    refine run_firstCells_some w.drew i.size s.length _ s.length cap _ (by simp[iB,hs]) (fun j u' hj=>?_);have hj2:j<s.length:=by
     have:=(List.getElem?_eq_some_iff.1 hj).1;rwa [iB]at this
    have hg':w.drew.heap[g]? =some (.cells c U (0,0)):=hg;rw[Addr.wo,cell_of_heap hg' ae,cd,hc j hj2,<-sa s j hj2];simp[List.getD,hj]
   have hr:=run_append_grow_src (P:=P) w t u ty U i _ ht hi hz (some ⟨g,0,none⟩) s.length cap (gM s) hold xv s2.length (gM s2) hsrc ae ae (by rw[hby];exact growslice_fits ae ae);have hge:=grownCap_ge w (s.length+s2.length) cap U;have hcm2:grownCap w (s.length+s2.length) cap U<=maxLen:=grownCap_le_maxLen w (s.length+s2.length) cap U ae;refine⟨w.heap.size,_,_,by simpa using hr,.inr ⟨w.heap.size,_,_,aQ,ef w.drew _, ?_,hcm2,by simpa using hge,fun j hj=>?_⟩,⟨rfl,rfl,rfl, ?_,fun k hk _=>k8 w.drew _ k hk⟩,.inr (aS _), ?_⟩
   .have hz1:(Value.int IntKind.u8 0).cells.size=1:=rfl;simp only[Array.size_append,List.size_toArray,bJ,iB,size_zeroCells,hz1];omega
   .exact Ip j hj
   .show w.heap.size<=(w.drew.heap.push _).size;rw[Array.size_push];exact Nat.le_succ _
   .show w.heap.size<(w.drew.heap.push _).size;rw[Array.size_push];exact Nat.lt_succ_self _
def zH {ops:Array Oper}{rest:List Oper}{o:Oper}{a:Act}{Q:Exit->Act->World->Prop}(hgd:o.guard=none)(sl x:Operand)(t u:TypeId)
  (ho:o.op=.call {callee:=.builtin .append,args:=#[sl,x],argTypes:=#[t,u]}) {U:TypeId} {i:TypeInfo} {w:World}
  (ht:P.underlying t=some (.slice U)) (hi:P.info? U=some i) (hz:i.zero=some (.int .u8 0)) (hsz:i.size=1) (hby:i.bytes=1) {v xv:Value} {s s2:List UInt8} (hs:a.eval sl=v) (hx:a.eval x=xv)
  (hv:lY U w v s) (h0:s2≠[]) (hsrc:Go.Src P 1 u xv s2.length (gM s2) w) (hle:s.length+s2.length<=1099511627776)
  (h:∀g' t' w',lY U w' (.slice (some ⟨g',0,none⟩) (s++s2).length t') (s++s2)->w.grownBy w' v.ownBlock->(v.ownBlock=some g'\/w.heap.size<=g')->g'<w'.heap.size->wpList P ops Q rest (a.put o.dst (.slice (some ⟨g',0,none⟩) (s++s2).length t')) w'):wpList P ops Q (o::rest) a w:=by
 refine wpList_plain hgd fun K hK=>?_
 obtain⟨g',t',w',hr,h2,h3,h4,h5⟩:=QM (P:=P) (ty:=o.type) ht hi hz hsz hby hv h0 hsrc hle;unfold Oper.wp execOp;simp only[ho,resolve,invoke,builtin,Sem.run_bind,Sem.run_pure,Result.andThen_ok,List.map_toArray,List.map_cons,List.map_nil,hs,hx,hr];exact hK _ _ (h g' t' w' h2 h3 h4 h5)
def Gi (w:World)(g n:Nat):(w.drew.freeze ⟨g,0,none⟩ n).os=w.os/\(w.drew.freeze ⟨g,0,none⟩ n).tape=w.tape/\(w.drew.freeze ⟨g,0,none⟩ n).output=w.output/\(w.drew.freeze ⟨g,0,none⟩ n).heap.size=w.heap.size/\∀k,k≠g->(w.drew.freeze ⟨g,0,none⟩ n).heap[k]? =w.heap[k]? :=by
 unfold World.freeze;split
 .exact⟨rfl,rfl,rfl,rfl,fun _ _=>rfl⟩
 .refine⟨rfl,rfl,rfl,aQ,fun k hk=>?_⟩;simp only[Array.getElem?_modify];rw[ai (fun e=>hk e.symm)];rfl
def rz (b:Nat)(u:Bool)(v:Value)(T:TypeId):Obj:=.cells #[.pointer (if u=true then some ⟨b,0,none⟩else none),v] T (0,0)
variable {J:Ren}
def Au (L:Lays.n240 P J)(X:Builder.X72 P J){b:Nat}{u:Bool}{v:Value}{w:World}(h:w.heap[b]? =some (rz b u v (J.t 72))):
  Calls P (J.f 240) #[.pointer (some ⟨b,0,none⟩)] w fun e w'=>e=.returned (.tuple #[])/\w'.heap[b]? =some (rz b true v (J.t 72))/\w.grownBy w' (some b):=by
 unfold rz at h;cases u with
 |true=>
  refine(Any.Builder_copyCheck_used L X b w (by rw[Lib.cell_of_heap h];rfl)).mono ?_;rintro e w' ⟨rfl,rfl⟩;exact⟨rfl,h,⟨rfl,rfl,rfl,aS _,fun _ _ _=>rfl⟩⟩
 |false=>
  refine(Any.Builder_copyCheck_fresh L X b w (by rw[Lib.cell_of_heap h];rfl) (by simp[World.shape?,h]) (Lib.frozen_of_heap h 0)).mono ?_;rintro e w' ⟨rfl,rfl⟩;exact⟨rfl,by simp[World.setCell,Array.getElem?_modify,h,rz],⟨rfl,rfl,rfl,by simp[World.setCell],fun k _ hk=>Below.heap_setCell _ _ _ _ (fun e=>hk (by simp[e]))⟩⟩
def Dk (T U:TypeId)(b:Nat)(g:Option Nat)(s:List UInt8)(w w':World):Prop:=
 ∃g' t',w'.heap[b]? =some (rz b true (.slice (some ⟨g',0,none⟩) s.length t') T)/\lY U w' (.slice (some ⟨g',0,none⟩) s.length t') s/\(g=some g'\/w.heap.size<=g')/\g'<w'.heap.size/\g'≠b/\
  w'.os=w.os/\w'.tape=w.tape/\w'.output=w.output/\w.heap.size<=w'.heap.size/\∀k,k<w.heap.size->k≠b->some k≠g->w'.heap[k]? =w.heap[k]?
def lY.ou {U:TypeId}{w w':World}{v:Value}{s:List UInt8}(h:lY U w v s)(hk:∀g,v.ownBlock=some g->w'.heap[g]? =w.heap[g]?):lY U w' v s:=by
 rcases h with h|⟨g,t,c,rfl,hg,r⟩
 .exact .inl h
 .exact .inr ⟨g,t,c,rfl,(hk g rfl).trans hg,r⟩
def lY.lt {U:TypeId}{w:World}{v:Value}{s:List UInt8}(h:lY U w v s){g:Nat}(hg:v.ownBlock=some g):g<w.heap.size/\∃c,w.heap[g]? =some (.cells c U (0,0)):=by
 rcases h with⟨rfl,_⟩|⟨g',t,c,rfl,hg',r⟩
 .cases hg
 .simp only[Value.ownBlock,aV]at hg
  grind
set_option maxHeartbeats 2000000 in
set_option maxRecDepth 100000 in
theorem wq (L:Lays.n166 P J)(X:Builder.Extra P J){b:Nat}{u:Bool}{v:Value}{s s2:List UInt8}{w:World}(h:w.heap[b]? =some (rz b u v (J.t 72)))(hv:lY (J.t 5) w v s)(h0:s2≠[])(hm2:s2.length<=maxLen)(hle:s.length+s2.length<=1099511627776):
  Calls P (J.f 166) #[.pointer (some ⟨b,0,none⟩),.string ⟨⟨s2⟩⟩] w fun e w'=>(∃r,e=.returned r)/\Dk (J.t 72) (J.t 5) b v.ownBlock (s++s2) w w':=by
 obtain⟨i0,hi,hz0,hz1,hz2⟩:=info_parts X.infoByte;have mixed:=L.mixed;have t72:=L.t72;have a72:=L.a72;have z72:=L.z72;have v72:=L.v72;have u72:=run_underlying L.t72;have t70:=L.t70;have a70:=L.a70;have z70:=L.z70;have v70:=L.v70;have u70:=run_underlying L.t70;have t37:=L.t37;have a37:=L.a37;have z37:=L.z37;have v37:=L.v37;have u37:=run_underlying L.t37;have t3:=L.t3;have a3:=L.a3;have z3:=L.z3;have v3:=L.v3;have u3:=run_underlying L.t3;have t9:=L.t9;have a9:=L.a9;have z9:=L.z9;have v9:=L.v9;have u9:=run_underlying L.t9;have t4:=L.t4;have a4:=L.a4;have z4:=L.z4;have v4:=L.v4;have u4:=run_underlying L.t4;have t164:=L.t164;have a164:=L.a164;have z164:=L.z164;have v164:=L.v164;have u164:=run_underlying L.t164;have t5:=X.t5;have a5:=X.a5;have z5:=X.z5;have v5:=X.v5;have u5:=run_underlying X.t5;have e240:∀args w,(callFunc (J.f 240) args).run P w=.ok (.enter (J.f 240) args) w:=enters_of L.f240 oI rfl
 have hne:∀g,v.ownBlock=some g->g≠b:=by
  rintro g hg rfl;obtain⟨_,c,hc⟩:=hv.lt hg;rw[h]at hc;simp only[rz,aV,Obj.cells.injEq]at hc;exact X.neB5 hc.2.1
 go_enter L.f166,Body.n166_ntmps J
 go_wp2_with (go_at_fn (J.f 240);refine(Au {L with} X.toX72 h).mono ?_)
 rintro e w1 ⟨rfl,h1,hb1⟩;have hv1:lY (J.t 5) w1 v s:=hv.ou fun g hg=>hb1.block g (hv.lt hg).1 (fun e=>hne g hg (bY e))
 have c0:w1.cell? ⟨b,0,none⟩=some (.pointer (some ⟨b,0,none⟩)):=by rw[Lib.cell_of_heap h1];rfl
 have c1:w1.cell? ⟨b,1,none⟩=some v:=by rw[Lib.cell_of_heap h1];rfl
 have hsrc:Go.Src P 1 (J.t 9) (.string ⟨⟨s2⟩⟩) s2.length (gM s2) w1:=⟨.inr L.t9,fun _=>rfl,firstCells_string _ _,firstCells_string _ _,by rw[iB,Nat.mul_one],ye s2⟩;have key:=fun ops rest o a Q hgd ho hs hx h=>zH (P:=P) (ops:=ops) (rest:=rest) (o:=o) (a:=a) (Q:=Q) hgd (.tmp 12) (.tmp 13) (J.t 37) (J.t 9) ho L.t37 hi hz0 hz1 hz2 (v:=v) (xv:=.string ⟨⟨s2⟩⟩) hs hx hv1 h0 hsrc hle h
 go_wp2_with (at_builtin;refine key _ _ _ _ _ rfl rfl rfl rfl ?_)
 clear key;intro g' t' w2 hown' hgrow hg' hlt';have hlt:b<w1.heap.size:=by
  rcases gz b w1.heap.size with h'|h'
  .exact h'
  .simp[Array.getElem?_eq_none h']at h1
 have gA:w2.heap[b]? =some (rz b true v (J.t 72)):=by
  rw[hgrow.block b hlt (fun e=>hne b e.symm rfl)];exact h1
 have hgb:g'≠b:=by
  rcases hg' with h'|h'
  .exact hne g' h'
  .omega
 have d0:w2.cell? ⟨b,0,none⟩=some (.pointer (some ⟨b,0,none⟩)):=by rw[Lib.cell_of_heap gA];rfl
 have d1:w2.cell? ⟨b,1,none⟩=some v:=by rw[Lib.cell_of_heap gA];rfl
 have f1:w2.frozen? ⟨b,1,none⟩=false:=Lib.frozen_of_heap gA 1
 go_wp2
 go_ret2
 have hsz:=hb1.size;refine⟨⟨_,rfl⟩, ?_⟩;unfold Dk;simp only[bJ]at hown'⊢;refine⟨g',t',by simp[World.setCell,Array.getElem?_modify,gA,rz],hown'.ou fun g hg=>Below.heap_setCell w2 ⟨b,1,none⟩ _ g (fun e=>hgb ((bY hg).trans e)),hg'.imp id (fun h=>ae),by simpa[World.setCell]using hlt',hgb,hgrow.os.trans hb1.os,hgrow.tape.trans hb1.tape,hgrow.output.trans hb1.output,by have:=hgrow.size;simp[World.setCell];omega,fun k hk h1' h2'=>?_⟩;rw[Below.heap_setCell w2 ⟨b,1,none⟩ _ k h1',hgrow.block k ae h2',hb1.block k hk (fun e=>h1' (bY e))]
set_option maxHeartbeats 2000000 in
set_option maxRecDepth 100000 in
theorem zQ (L:Lays.n167 P J)(X:Builder.Extra P J){b:Nat}{u:Bool}{v:Value}{s:List UInt8}{c:UInt8}{w:World}(h:w.heap[b]? =some (rz b u v (J.t 72)))(hv:lY (J.t 5) w v s)(hle:s.length+1<=1099511627776):
  Calls P (J.f 167) #[.pointer (some ⟨b,0,none⟩),.int .u8 c.toNat] w fun e w'=>(∃r,e=.returned r)/\Dk (J.t 72) (J.t 5) b v.ownBlock (s++[c]) w w':=by
 obtain⟨i0,hi,hz0,hz1,hz2⟩:=info_parts X.infoByte;have mixed:=L.mixed;have t72:=L.t72;have a72:=L.a72;have z72:=L.z72;have v72:=L.v72;have u72:=run_underlying L.t72;have t70:=L.t70;have a70:=L.a70;have z70:=L.z70;have v70:=L.v70;have u70:=run_underlying L.t70;have t37:=L.t37;have a37:=L.a37;have z37:=L.z37;have v37:=L.v37;have u37:=run_underlying L.t37;have t9:=L.t9;have a9:=L.a9;have z9:=L.z9;have v9:=L.v9;have u9:=run_underlying L.t9;have t4:=L.t4;have a4:=L.a4;have z4:=L.z4;have v4:=L.v4;have u4:=run_underlying L.t4;have t164:=L.t164;have a164:=L.a164;have z164:=L.z164;have v164:=L.v164;have u164:=run_underlying L.t164;have t5:=L.t5;have a5:=L.a5;have z5:=L.z5;have v5:=L.v5;have u5:=run_underlying L.t5;have e240:∀args w,(callFunc (J.f 240) args).run P w=.ok (.enter (J.f 240) args) w:=enters_of L.f240 oI rfl
 have hne:∀g,v.ownBlock=some g->g≠b:=by
  rintro g hg rfl;obtain⟨_,c,hc⟩:=hv.lt hg;rw[h]at hc;simp only[rz,aV,Obj.cells.injEq]at hc;exact X.neB5 hc.2.1
 go_enter L.f167,Body.n167_ntmps J
 go_wp2_with (go_at_fn (J.f 240);refine(Au {L with} X.toX72 h).mono ?_)
 rintro e w1 ⟨rfl,h1,hb1⟩;have hv1:lY (J.t 5) w1 v s:=hv.ou fun g hg=>hb1.block g (hv.lt hg).1 (fun e=>hne g hg (bY e))
 have c0:w1.cell? ⟨b,0,none⟩=some (.pointer (some ⟨b,0,none⟩)):=by rw[Lib.cell_of_heap h1];rfl
 have c1:w1.cell? ⟨b,1,none⟩=some v:=by rw[Lib.cell_of_heap h1];rfl
 have key:=fun ob ops rest o a Q sl x hgd ho hs hx hv2 hsrc h=>zH (P:=P) (w:=w1.alloc ob) (ops:=ops) (rest:=rest) (o:=o) (a:=a) (Q:=Q) hgd sl x (J.t 37) (J.t 37) ho L.t37 hi hz0 hz1 hz2 (v:=v) (xv:=.slice (some ⟨w1.heap.size,0,none⟩) 1 1) (s:=s) (s2:=[c]) hs hx hv2 (List.cons_ne_nil _ _) hsrc hle h
 go_wp2_with (at_builtin;refine key _ _ _ _ _ _ _ _ rfl rfl rfl rfl (hv1.ou fun g hg=>Lib.alloc_old w1 _ g (hv1.lt hg).1) ?hs ?_)
 case hs=>
  refine Go.Src.ofSlice _ L.t37 ⟨w1.heap.size,0,none⟩ 1 1 _ rfl (fun j u hj=>?_) (ye [c])
  match j,hj with
  |0,hj=>simp[gM]at hj;subst hj;simp[Addr.add]
 clear key;intro g' t' w2 hown' hgrow hg' hlt';have hlt:b<w1.heap.size:=by
  rcases gz b w1.heap.size with h'|h'
  .exact h'
  .simp[Array.getElem?_eq_none h']at h1
 have gA:w2.heap[b]? =some (rz b true v (J.t 72)):=by
  rw[hgrow.block b cA (fun e=>hne b e.symm rfl),Lib.alloc_old w1 _ b hlt];exact h1
 have hgb:g'≠b:=by
  rcases hg' with h'|h'
  .exact hne g' h'
  .omega
 have d0:w2.cell? ⟨b,0,none⟩=some (.pointer (some ⟨b,0,none⟩)):=by rw[Lib.cell_of_heap gA];rfl
 have d1:w2.cell? ⟨b,1,none⟩=some v:=by rw[Lib.cell_of_heap gA];rfl
 have f1:w2.frozen? ⟨b,1,none⟩=false:=Lib.frozen_of_heap gA 1
 go_wp2
 go_ret
 have hsz:=hb1.size;refine⟨⟨_,rfl⟩, ?_⟩;unfold Dk;simp only[bJ]at hown'⊢;refine⟨g',t',by simp[World.setCell,Array.getElem?_modify,gA,rz],hown'.ou fun g hg=>Below.heap_setCell w2 ⟨b,1,none⟩ _ g (fun e=>hgb ((bY hg).trans e)),hg'.imp id (fun h=>ae),by simpa[World.setCell]using hlt',hgb,hgrow.os.trans hb1.os,hgrow.tape.trans hb1.tape,hgrow.output.trans hb1.output,by have:=hgrow.size;simp at this;simp[World.setCell];omega,fun k hk h1' h2'=>?_⟩;rw[Below.heap_setCell w2 ⟨b,1,none⟩ _ k h1',hgrow.block k cA h2',Lib.alloc_old w1 _ k ae,hb1.block k hk (fun e=>h1' (bY e))]
set_option maxHeartbeats 1000000 in
set_option maxRecDepth 100000 in
theorem F3 (L:Lays.n169 P J)(X:Builder.Extra P J){b g t:Nat}{u:Bool}{s:List UInt8}{w:World}(h:w.heap[b]? =some (rz b u (.slice (some ⟨g,0,none⟩) s.length t) (J.t 72)))(hv:lY (J.t 5) w (.slice (some ⟨g,0,none⟩) s.length t) s)(h0:s≠[]):
  Calls P (J.f 169) #[.pointer (some ⟨b,0,none⟩)] w fun e w'=>e=.returned (.string ⟨⟨s⟩⟩)/\w'.os=w.os/\w'.tape=w.tape/\w'.output=w.output/\w'.heap.size=w.heap.size/\∀k,k≠g->w'.heap[k]? =w.heap[k]? :=by
 have hl0:s.length≠0:=by simpa using h0
 obtain⟨c,hg,hcs,hcm,hle,hc⟩:∃c,w.heap[g]? =some (.cells c (J.t 5) (0,0))/\c.size=t/\t<=maxLen/\s.length<=t/\∀i,i<s.length->c.getD i undef=.int .u8 (s.getD i 0).toNat:=by
  rcases hv with⟨h1,_⟩|⟨g',t',c,h1,r⟩
  .cases h1
  .simp only[Value.slice.injEq,aV,Addr.mk.injEq]at h1;obtain⟨⟨rfl,_⟩,_,rfl⟩:=h1;exact⟨c,r⟩
 have c1:w.drew.cell? ⟨b,1,none⟩=some (.slice (some ⟨g,0,none⟩) s.length t):=by
  have:w.drew.heap[b]? =some (rz b u (.slice (some ⟨g,0,none⟩) s.length t) (J.t 72)):=h;rw[Lib.cell_of_heap this];rfl
 have hSD:(Builtin.unsafeSliceData_ #[(J.t 37)] (J.t 127) #[.slice (some ⟨g,0,none⟩) s.length t]).run P w.drew=.ok (.pointer (some ⟨g,0,none⟩)) w.drew:=
  Lib.run_unsafeSliceData_row _ _ _ _ _ _ ae
 have hUS:(Builtin.unsafeString_ #[(J.t 127),(J.t 3)] (J.t 9) #[.pointer (some ⟨g,0,none⟩),.int .i64 s.length]).run P w.drew=.ok (.string ⟨s.toArray⟩) (w.drew.freeze ⟨g,0,none⟩ s.length):=by
  refine Lib.run_unsafeString_row w.drew (J.t 127) (J.t 3) (J.t 9) (J.t 5) L.t127 X.cellsByte g c.size (by have hg':w.drew.heap[g]? =some (.cells c (J.t 5) (0,0)):=hg;simp[World.shape?,hg']) s h0 ae (by unfold maxLen at hcm;omega) ?_;intro j x hx;have hj:=(List.getElem?_eq_some_iff.1 hx).1;have hg':w.drew.heap[g]? =some (.cells c (J.t 5) (0,0)):=hg;rw[Addr.wo,cell_of_heap hg' ae,cd,hc j hj];simp[List.getD,hx]
 have mixed:=L.mixed;have t72:=L.t72;have a72:=L.a72;have z72:=L.z72;have v72:=L.v72;have u72:=run_underlying L.t72;have t70:=L.t70;have a70:=L.a70;have z70:=L.z70;have v70:=L.v70;have u70:=run_underlying L.t70;have t37:=L.t37;have a37:=L.a37;have z37:=L.z37;have v37:=L.v37;have u37:=run_underlying L.t37;have t127:=L.t127;have a127:=L.a127;have z127:=L.z127;have v127:=L.v127;have u127:=run_underlying L.t127;have t3:=L.t3;have a3:=L.a3;have z3:=L.z3;have v3:=L.v3;have u3:=run_underlying L.t3;have t9:=L.t9;have a9:=L.a9;have z9:=L.z9;have v9:=L.v9;have u9:=run_underlying L.t9;have t5:=X.t5;have a5:=X.a5;have z5:=X.z5;have v5:=X.v5;have u5:=run_underlying X.t5
 go_enter L.f169,Body.n169_ntmps J
 go_wp2
 go_region_o
 all_goals (go_wp2;go_ret;exact⟨rfl,Gi _ _ _⟩)
end
end
section
open Go.Proofs Go.Shelf Go.RowKit
section
variable [dt] {P:Program} {ν:List (Nat×Nat)} {cJ:List Nat} {Y:Ctx} {x:X}
def F2 {m:List (Nat×bG)}{l:Nat}{t:List UInt8}{v:Value}(hs:fL ν x (look m))(hb:rO m l t)(hv:RD ν x v (.ptr l 2 0 0)):
  ∃b tot u w,v=.pointer (some ⟨b,0,none⟩)/\x.β l=some (b,0,tot)/\¬x.I b/\x.w.heap[b]? =some (rz b u w dt.tB)/\lY dt.tU x.w w t/\
   (w.ownBlock=none/\fu m l=m\/∃l2 g t2,w=.slice (some ⟨g,0,none⟩) t.length t2/\x.β l2=some (g,0,t2)/\¬x.I g/\look m l2=some (.row t)/\l2≠l/\fu m l=dy m l2):=by
 cases hv with
 |ptr _ _ _ _ b base tot at_ hβ hat=>
  rcases hb with⟨u,h1,rfl⟩|⟨l2,u,h1,h2⟩
  .obtain⟨o1,rfl,w,o2,_,rfl⟩:=hs.own l _ b base tot h1 hβ;simp only[Nat.zero_mul,Nat.add_zero]at hat;subst hat;exact⟨b,tot,u,_,rfl,hβ,o1,o2,.inl ⟨rfl,rfl⟩,.inl ⟨rfl,by simp only[fu,h1]⟩⟩
  .obtain⟨o1,rfl,w,o2,g,t2,rfl,o3,o4⟩:=hs.own l _ b base tot h1 hβ;simp only[Nat.zero_mul,Nat.add_zero]at hat;subst hat;obtain⟨p1,_,c,p2,p3,p4,p5,p6⟩:=hs.own l2 _ g 0 t2 h2 o4;have hne:l2≠l:=by rintro rfl;rw[h1]at h2;cases h2
   exact⟨b,tot,u,_,rfl,hβ,o1,o2,.inr ⟨g,t2,c,rfl,p2,p3,p4,p5,p6⟩,.inr ⟨l2,g,t2,rfl,o4,p1,h2,hne,by simp only[fu,h1]⟩⟩
def BF {st:St}{l:Nat}{t s:List UInt8}{b tot:Nat}{w:Value}{w':World}(hs:fL ν x (look st.m))(hf:fE st x)(hlive:look st.m l≠none)(hl:l<st.nx)
  (hβ:x.β l=some (b,0,tot)) (hI:¬x.I b)
  (hrow:w.ownBlock=none/\fu st.m l=st.m\/∃l2 g t2,w=.slice (some ⟨g,0,none⟩) t.length t2/\x.β l2=some (g,0,t2)/\¬x.I g/\look st.m l2=some (.row t)/\l2≠l/\fu st.m l=dy st.m l2)
  (hw:Dk dt.tB dt.tU b w.ownBlock s x.w w'):
  ∃x':X,x'.w=w'/\Step x x'/\fL ν x' (look (pQ st.m l st.nx s))/\fE ⟨st.nx+1,pQ st.m l st.nx s⟩ x':=by
 obtain⟨g',t',h1,h2,h3,h4,h5,k1,k2,k3,k4,k5⟩:=hw;have hn:=hf.β st.nx (aS _)

 have hg:∀g,w.ownBlock=some g->∃l2 t2,x.β l2=some (g,0,t2)/\¬x.I g/\look st.m l2=some (.row t)/\l2≠l/\fu st.m l=dy st.m l2:=by
  intro g hg;rcases hrow with⟨h,_⟩|⟨l2,g0,t2,rfl,q⟩
  .rw[h]at hg;cases hg
  .obtain rfl:=bY hg;exact⟨l2,t2,q⟩
 have hlook:∀l' blk,l'≠l->look (fu st.m l) l'=some blk->look st.m l'=some blk/\∀g,w.ownBlock=some g->∀p,x.β l'=some p->p.1≠g:=by
  intro l' blk hl' hk;rcases hrow with⟨h,e⟩|⟨l2,g0,t2,rfl,q1,q2,q3,q4,e⟩
  .rw[e]at hk;exact⟨hk,fun g hg=>by rw[h]at hg;cases hg⟩
  .rw[e,gh]at hk;split at hk
   .cases hk
   .rename_i hne;refine⟨hk,fun g hg p hp e=>?_⟩;obtain rfl:=bY hg;obtain⟨b',base',tot'⟩:=p;simp only at e;subst e;exact hne (hs.inj l' l2 _ _ _ _ _ (by rw[hk];simp) (by rw[q3];simp) hp q1)
 have hbg:∀l' p,x.β l'=some p->p.1<x.w.heap.size:=fun l' ⟨b',base',tot'⟩ hp=>hs.eC l' b' base' tot' hp
 have hkeep:∀k,k<x.w.heap.size->k≠b->some k≠w.ownBlock->w'.heap[k]? =x.w.heap[k]? :=k5
 let x':X:=⟨w',x.I,ee x.β st.nx (g',0,t')⟩
 have hst:Step x x':=by
  refine⟨k1,k2,k3,k4,fun _ h=>h,fun k hk=>hkeep k (hs.imm k hk) (fun e=>hI (e▸hk)) (fun e=>?_),fun l' p hp=>?_,fun k hk hn'=>hkeep k hk (fun e=>hn' l _ hβ e.symm) (fun e=>?_),fun _ h=>.inl h,fun l' p hp=>?_⟩
  .obtain⟨l2,t2,q1,q2,_⟩:=hg k e.symm;exact q2 hk
  .have:l'≠st.nx:=fun e=>by rw[e,hn]at hp;cases hp
   simp[x',ee,this,hp]
  .obtain⟨l2,t2,q1,_⟩:=hg k e.symm;exact hn' l2 _ q1 rfl
  .by_cases e1:l'=st.nx
   .simp only[x',ee,e1,bo,aV]at hp;subst hp;rcases h3 with h3|h3
    .obtain⟨l2,t2,q1,_⟩:=hg g' h3;exact .inr (.inr ⟨l2,_,q1,rfl⟩)
    .exact .inr (.inl h3)
   .simp only[x',ee,e1,br]at hp;exact .inl hp
 have hle:=hst.le;have hlm:∀l',look (pQ st.m l st.nx s) l'=if l'=st.nx then some (.row s)else if l'=l then some (.bld (some st.nx) s.length true)else look (fu st.m l) l':=by
  intro l';simp only[pQ,look];by_cases e:l'=st.nx
  .rw[ax e.symm,ax e]
  .rw[ai (fun h=>e h.symm),ai e,cy]
 have hfr:∀l' p,l'≠st.nx->x.β l'=some p->l'≠l->look (fu st.m l) l'≠none->p.1≠g':=by
  intro l' p hl' hp hne hk e;cases hq:look (fu st.m l) l' with
  |none=>exact hk hq
  |some blk=>
   rcases h3 with h3|h3
   .exact(hlook l' blk hne hq).2 g' h3 p hp e
   .have:=hbg l' p hp;omega
 refine⟨x',rfl,hst,⟨fun l' blk b' base' tot' e1 e2=>?_,fun l1 l2 b' base1 tot1 base2 tot2 e1 e2 e3 e4=>?_,fun k hk=>eF (hs.imm k hk) k4,fun l' b' base' tot' e=>?_,qb hle hs.gd⟩,⟨fun l' hl'=>?_,fun l' hl'=>?_⟩⟩
 .rw[hlm]at e1;by_cases c1:l'=st.nx
  .rw[ax c1]at e1;simp only[x',ee,ax c1,aV,eB]at e2;obtain⟨rfl,rfl,rfl⟩:=e2;obtain rfl:=bY e1;refine⟨fun h=>?_,rfl, ?_⟩
   .rcases h3 with h3|h3
    .obtain⟨l2,t2,_,q2,_⟩:=hg g' h3;exact q2 h
    .have:=hs.imm g' h;omega
   .rcases h2 with⟨h2,_⟩|⟨g2,t2,c,h2,r⟩
    .cases h2
    .simp only[Value.slice.injEq,aV,Addr.mk.injEq]at h2;obtain⟨⟨rfl,_⟩,_,rfl⟩:=h2;exact⟨c,r⟩
  .rw[ai c1]at e1;simp only[x',ee,ai c1]at e2;by_cases c2:l'=l
   .subst c2;rw[ax rfl]at e1;rw[hβ]at e2;simp only[aV,eB]at e2;obtain⟨rfl,rfl,rfl⟩:=e2;obtain rfl:=bY e1;refine⟨hI,rfl,_,h1,g',t',rfl, ?_,by simp[x',ee]⟩;rcases h2 with⟨h2,_⟩|⟨g2,t2,c,h2,_,_,_,r,_⟩
    .cases h2
    .simp only[Value.slice.injEq]at h2;obtain⟨_,_,rfl⟩:=h2;exact r
   .rw[ai c2]at e1;obtain⟨q1,q2⟩:=hlook l' blk c2 e1;obtain⟨o1,o2⟩:=hs.own l' blk b' base' tot' q1 e2;refine⟨o1,o2.mono hle (hkeep b' (hs.eC _ _ _ _ e2) (fun e=>?_) (fun e=>q2 b' e.symm _ e2 rfl))⟩;subst e;exact c2 (hs.inj l' l _ _ _ _ _ (by rw[q1];simp) hlive e2 hβ)
 .rw[hlm]at e1 e2;by_cases c1:l1=st.nx
  .by_cases c2:l2=st.nx
   .rw[c1,c2]
   .exfalso;rw[ai c2]at e2;simp only[x',ee,ax c1,aV,eB]at e3;simp only[x',ee,ai c2]at e4;obtain⟨rfl,_⟩:=e3;by_cases c3:l2=l
    .subst c3;rw[hβ]at e4;simp only[aV,eB]at e4;exact h5 e4.1.symm
    .rw[ai c3]at e2;exact hfr l2 _ c2 e4 c3 e2 rfl
  .rw[ai c1]at e1;simp only[x',ee,ai c1]at e3;by_cases c2:l2=st.nx
   .exfalso;simp only[x',ee,ax c2,aV,eB]at e4;obtain⟨rfl,_⟩:=e4;by_cases c3:l1=l
    .subst c3;rw[hβ]at e3;simp only[aV,eB]at e3;exact h5 e3.1.symm
    .rw[ai c3]at e1;exact hfr l1 _ c1 e3 c3 e1 rfl
   .rw[ai c2]at e2;simp only[x',ee,ai c2]at e4;have live:∀l',(if l'=l then some (bG.bld (some st.nx) s.length true)else look (fu st.m l) l')≠none->look st.m l'≠none:=by
     intro l' h;by_cases c:l'=l
     .rw[c];exact hlive
     .rw[ai c]at h;cases hq:look (fu st.m l) l' with
      |none=>exact absurd hq h
      |some blk=>rw[(hlook l' blk c hq).1];simp
    exact hs.inj l1 l2 b' base1 tot1 base2 tot2 (live l1 e1) (live l2 e2) e3 e4
 .by_cases c1:l'=st.nx
  .simp only[x',ee,ax c1,aV,eB]at e;obtain⟨rfl,_⟩:=e;exact h4
  .simp only[x',ee,ai c1]at e;exact eF (hs.eC _ _ _ _ e) k4
 .have hl':st.nx+1<=l':=hl';simp only[x',ee,ai (show ¬l'=st.nx by omega)];exact hf.β l' ae
 .show l'<st.nx+1;simp only[hlm]at hl';by_cases c1:l'=st.nx
  .omega
  .rw[ai c1]at hl';by_cases c2:l'=l
   .omega
   .rw[ai c2]at hl';cases hq:look (fu st.m l) l' with
    |none=>exact absurd hq hl'
    |some blk=>have:=hf.m l' (by rw[(hlook l' blk c2 hq).1];simp);omega
def rO.live {m:List (Nat×bG)}{l:Nat}{t:List UInt8}(h:rO m l t):look m l≠none:=by
 rcases h with⟨u,h,_⟩|⟨l2,u,h,_⟩<;>rw[h]<;>simp
variable {J:Ren}
def Nj {args:Array Value}(h:args.size=2):args=#[args.getD 0 undef,args.getD 1 undef]:=by
 apply Array.ext
 .simpa using h
 .intro i h1 h2
  match i,h1 with
  |0,h1=>simp[Array.getD,h1]
  |1,h1=>simp[Array.getD,h1]
  |i+2,h1=>omega
def Uq {args:Array Value}(h:args.size=1):args=#[args.getD 0 undef]:=by
 apply Array.ext
 .simpa using h
 .intro i h1 h2
  match i,h1 with
  |0,h1=>simp[Array.getD,h1]
  |i+1,h1=>omega
def Rg (hB:dt.tB=J.t 72)(hU:dt.tU=J.t 5)(L:Lays.n166 P J)(X':Builder.Extra P J)(hen:∀args w,(callFunc (J.f 166) args).run P w=.ok (.enter (J.f 166) args) w):Nb P ν Y cJ Zx (J.f 166):=by
 rintro ds st K ⟨s,l,t,rfl,hb,hl,h0,hle,hK⟩ hok x args hl2 hargs hs hf;obtain⟨b,tot,u,w,e0,hβ,hI,hh,hv,hrow⟩:=F2 hs hb (hargs 0 aQ);have h1:=hargs 1 aQ;simp only[List.getD_cons_succ,lX]at h1;obtain⟨e1,hm⟩:=h1.iq;rw[hB]at hh;rw[hU]at hv;refine .inr ⟨J.f 166,args,hen args x.w, ?_⟩;rw[Nj (args:=args) (by simpa using hl2),e0,e1];refine(wq L X' hh hv h0 hm hle).mono ?_;rintro e w' ⟨⟨r,rfl⟩,hw⟩;rw[<-hB,<-hU]at hw;obtain⟨x',q1,q2,q3,q4⟩:=BF hs hf hb.live hl hβ hI hrow hw;exact⟨x',q1,.any,_,hK,q2,.any _,q3,q4⟩
def Rf (hB:dt.tB=J.t 72)(hU:dt.tU=J.t 5)(L:Lays.n167 P J)(X':Builder.Extra P J)(hen:∀args w,(callFunc (J.f 167) args).run P w=.ok (.enter (J.f 167) args) w):Nb P ν Y cJ Zw (J.f 167):=by
 rintro ds st K ⟨c,l,t,rfl,hb,hl,h0,hle,hK⟩ hok x args hl2 hargs hs hf;obtain⟨b,tot,u,w,e0,hβ,hI,hh,hv,hrow⟩:=F2 hs hb (hargs 0 aQ);have h1:=hargs 1 aQ;simp only[List.getD_cons_succ,lX]at h1;have e1:=h1.dz;rw[hB]at hh;rw[hU]at hv;refine .inr ⟨J.f 167,args,hen args x.w, ?_⟩;rw[Nj (args:=args) (by simpa using hl2),e0,e1];refine(zQ L X' hh hv hle).mono ?_;rintro e w' ⟨⟨r,rfl⟩,hw⟩;rw[<-hB,<-hU]at hw;obtain⟨x',q1,q2,q3,q4⟩:=BF hs hf hb.live hl hβ hI hrow hw;exact⟨x',q1,.any,_,hK,q2,.any _,q3,q4⟩
def Re (hB:dt.tB=J.t 72)(hU:dt.tU=J.t 5)(L:Lays.n169 P J)(X':Builder.Extra P J)(hen:∀args w,(callFunc (J.f 169) args).run P w=.ok (.enter (J.f 169) args) w):Nb P ν Y cJ Zv (J.f 169):=by
 rintro ds st K ⟨l,t,rfl,hb,h0,hK⟩ hok x args hl2 hargs hs hf;obtain⟨b,tot,u,w,e0,hβ,hI,hh,hv,hrow⟩:=F2 hs hb (hargs 0 aQ);rcases hrow with⟨hn,_⟩|⟨l2,g,t2,rfl,q1,q2,q3,q4,q5⟩
 .exfalso;rcases hv with⟨_,h⟩|⟨g,t',c,rfl,_⟩
  .exact h0 h
  .cases hn
 rw[hB]at hh;rw[hU]at hv;have htm:t.length<=maxLen:=by
  rcases hv with⟨_,rfl⟩|⟨g',t',c,h1,_,_,h4,h5,_⟩
  .exact absurd rfl h0
  .omega
 refine .inr ⟨J.f 169,args,hen args x.w, ?_⟩;rw[Uq (args:=args) (by simpa using hl2),e0];refine(F3 L X' hh hv h0).mono ?_;rintro e w' ⟨rfl,k1,k2,k3,k4,k5⟩;have hkeep:∀k,(∀l' p,look (dy (fu st.m l) l) l'≠none->x.β l'=some p->p.1=k->False)->True:=fun _ _=>trivial
 have hst:Step x ⟨w',x.I,x.β⟩:=⟨k1,k2,k3,Nat.le_of_eq k4.symm,fun _ h=>h,fun k hk=>k5 k (fun e=>q2 (e▸hk)),fun _ _ h=>h,fun k hk hn=>k5 k (fun e=>hn l2 _ q1 e.symm),fun _ h=>.inl h,fun _ _ h=>.inl h⟩;have hlm:∀l',look (dy (fu st.m l) l) l'=if l'=l then none else if l'=l2 then none else look st.m l':=fun l'=>by rw[gh,q5,gh]
 refine⟨⟨w',x.I,x.β⟩,rfl,.str t,_,hK,hst,.str t htm,⟨fun l' blk b' base' tot' e1 e2=>?_,fun l1 l3 b' base1 tot1 base2 tot2 e1 e2 e3 e4=>?_,fun k hk=>by show k<w'.heap.size;rw[k4];exact hs.imm k hk,fun l' b' base' tot' e=>by show b'<w'.heap.size;rw[k4];exact hs.eC _ _ _ _ e,qb hst.le hs.gd⟩,⟨hf.β,fun l' hl'=>?_⟩⟩
 .rw[hlm]at e1;split at e1
  .cases e1
  split at e1
  .cases e1
  rename_i c1 c2;obtain⟨o1,o2⟩:=hs.own l' blk b' base' tot' e1 e2;refine⟨o1,o2.mono hst.le (k5 b' (fun e=>c2 ?_))⟩;subst e;exact hs.inj l' l2 _ _ _ _ _ (by rw[e1];simp) (by rw[q3];simp) e2 q1
 .have live:∀l',look (dy (fu st.m l) l) l'≠none->look st.m l'≠none:=by
   intro l' h;rw[hlm]at h;split at h
   .exact absurd rfl h
   split at h
   .exact absurd rfl h
   .exact h
  exact hs.inj l1 l3 b' base1 tot1 base2 tot2 (live l1 e1) (live l3 e2) e3 e4
 .simp only[hlm]at hl';split at hl'
  .exact absurd rfl hl'
  split at hl'
  .exact absurd rfl hl'
  .exact hf.m l' hl'
end
end
section
open Go.Proofs
def Pd:Nat:=3
def vV:Tryz.prog.globalNamed "internal/strconv.uint64pow10" =some Pd:=oI
instance Zt:dt where
 tB:=60
 tU:=5
 gd x:=(x.I 0/\∃m,x.w.cell? ⟨0,0,none⟩=some (.int .i64 m))/\x.I Pd/\Lib.TabIs Tryz.prog x.w "internal/strconv.uint64pow10" .u64 Lib.pow10Tab
 le x x' hI hk h:=by
  obtain⟨⟨h1,m,h2⟩,h3,h4⟩:=h;refine⟨⟨hI _ h1,m,n6 (hk _ h1) h2⟩,hI _ h3, ?_⟩;unfold Lib.TabIs World.var? at h4⊢;rw[vV]at h4⊢;simp only[Option.bind_some]at h4⊢;rw[hk _ h3];exact h4
def qZ {fid:Nat}{x:X}{args:Array Value}{d:D}(hn:(Tryz.prog.funcs[fid]?).map (fun f=>f.name== "runtime.NumGoroutine" ||!f.body.isSome)=some false)
  (himm:∀b,x.I b->b<x.w.heap.size)
  (hc:Calls Tryz.prog fid args x.w fun e w'=>∃v,e=.returned v/\fZ x.w w'/\∃I:Nat->Prop,(∀b,x.I b->I b)/\(∀b,I b->x.I b\/x.w.heap.size<=b/\b<w'.heap.size)/\RD wC ⟨w',I,x.β⟩ v d):
  jf Tryz.prog x (fun v x'=>mW x x'/\RD wC x' v d) ((callFunc fid args).run Tryz.prog x.w):=by
 cases h:Tryz.prog.funcs[fid]? with
 |none=>rw[h]at hn;cases hn
 |some fn=>
  rw[h]at hn;have h2:(fn.name== "runtime.NumGoroutine" ||!fn.body.isSome)=false:=bY hn;rw[dR,ct]at h2;refine .inr ⟨fid,args,jZ h h2.1 h2.2 args x.w,Calls.mono hc fun e w' he=>?_⟩;obtain⟨v,rfl,hg,I,h3,h4,hr⟩:=he;refine⟨⟨w',I,x.β⟩,rfl,⟨hg,h3,fun b hb=>(h4 b hb).imp id And.left,fun b hb=>?_,rfl⟩,hr⟩;rcases h4 b hb with h5|h5
  .exact eF (himm b h5) hg.size
  .exact h5.2
def Gk (w:World):∀n,fZ w (w.drewN n)
 |n=>⟨rfl,rfl,rfl,aS _,fun _ _=>rfl⟩
def jz {fid:Nat}{x:X}{args:Array Value}{d:D}{v:Value}(hn:(Tryz.prog.funcs[fid]?).map (fun f=>f.name== "runtime.NumGoroutine" ||!f.body.isSome)=some false)
  (himm:∀b,x.I b->b<x.w.heap.size) (hc:Calls Tryz.prog fid args x.w fun e w'=>e=.returned v/\fZ x.w w') (hr:∀x',RD wC x' v d):
  jf Tryz.prog x (fun v x'=>mW x x'/\RD wC x' v d) ((callFunc fid args).run Tryz.prog x.w):=
 qZ hn himm (Calls.mono hc fun e w' ⟨h1,h2⟩=>⟨v,h1,h2,x.I,fun _ h=>h,fun _ h=>.inl h,hr _⟩)
def fk {x:X}{v:Value}{s:au}(h:RD wC x v (.str s)):v=.string ⟨⟨s⟩⟩/\s.length<=maxLen:=by
 cases h with
 |str s h=>exact⟨rfl,h⟩
def Ca {x:X}{v:Value}{k:IntKind}{n:Int}(h:RD wC x v (.int k n)):v=.int k n:=by
 cases h with
 |int k n=>rfl
def x6 {args:Array Value}(h:args.size=2):args=#[args.getD 0 undef,args.getD 1 undef]:=by
 obtain⟨l⟩:=args
 match l,h with
 |[a,b],_=>rfl
def SJ {args:Array Value}(h:args.size=1):args=#[args.getD 0 undef]:=by
 obtain⟨l⟩:=args
 match l,h with
 |[a],_=>rfl
def IM {x:X}{a b:Value}{d e:D}(h1:RD wC x a d)(h2:RD wC x b e):RD wC x (.tuple #[a,b]) (.tup [d,e]):=by
 refine .tup _ _ rfl fun i hi=>?_
 match i,hi with
 |0,_=>exact h1
 |1,_=>exact h2
def RV {x:X}{a b c:Value}{d e f:D}(h1:RD wC x a d)(h2:RD wC x b e)(h3:RD wC x c f):RD wC x (.tuple #[a,b,c]) (.tup [d,e,f]):=by
 refine .tup _ _ rfl fun i hi=>?_
 match i,hi with
 |0,_=>exact h1
 |1,_=>exact h2
 |2,_=>exact h3
def sJ {x:X}(s:au)(h:s.length<=4294967296):RD wC x (.string ⟨s.toArray⟩) (.str s):=.str s (by simp only[maxLen];omega)
def KN (s:au)(b:UInt8):(gO s b).2.1.length<=s.length:=by
 unfold gO;split<;>simp
def E487:Ow 69 487:=by
 refine bn rfl ?_;rintro s b hp hok x args hl hargs hnl himm ⟨⟨_,m,hm⟩,_⟩;obtain⟨h0,hs⟩:=fk (hargs 0 aQ);obtain⟨h1,_⟩:=fk (hargs 1 aQ);rw[x6 hl,h0,h1];refine jz oI himm (Calls.mono (Tryz.strings_Cut ⟨⟨s⟩⟩ ⟨⟨[b]⟩⟩ m x.w (by show s.length<_;omega) hm) fun e w' ⟨h1,n,h2⟩=>⟨h1,h2▸Gk _ n⟩) (fun x'=>?_);have hc:Lib.cut (⟨⟨s⟩⟩:ByteArray).data.toList (⟨⟨[b]⟩⟩:ByteArray).data.toList=gO s b:=Ux s b;rw[hc];have:=(NF s b).1;have:=KN s b;exact RV (sJ _ ae) (sJ _ ae) (.bool _)
def E254:Ow 30 254:=by
 refine bn rfl ?_;rintro s p hp hp2 hok x args hl hargs hnl himm _;obtain⟨h0,hs⟩:=fk (hargs 0 aQ);obtain⟨h1,_⟩:=fk (hargs 1 aQ);rw[x6 hl,h0,h1];refine jz oI himm (Calls.mono (Tryz.strings_CutPrefix ⟨⟨s⟩⟩ ⟨⟨p⟩⟩ x.w) fun e w' ⟨h1,h2⟩=>⟨h1,h2▸fZ.refl _⟩) (fun x'=>?_);have hc:(Lib.trimPrefix s p,Lib.hasPrefix s p)=cQ s p:=KO s p;have:=F7 s p;rw[<-hc]at this⊢;have h9:(Lib.trimPrefix s p).length<=s.length:=this;exact IM (sJ (Lib.trimPrefix s p) ae) (.bool _)
def E336:Ow 183 336:=by
 refine bn rfl ?_;rintro n hp hok x args hl hargs hnl himm ⟨_,_,ht⟩;have h0:=Ca (hargs 0 aQ);rw[SJ hl,h0];refine jz oI himm (Calls.mono (Tryz.strconv_Itoa n ae ae x.w ht) fun e w' ⟨h1,k,os,h2⟩=>⟨h1, ?_⟩) (fun x'=>?_)
 .subst h2;refine⟨rfl,rfl,rfl,by simp[Sort.grow],fun b hb=>?_⟩;show(x.w.heap++os)[b]? =x.w.heap[b]?;rw[Array.getElem?_append,ax hb]
 .rw[Rs hp.1];have:=dU 4 n.toNat ae ae;exact sJ _ ae
def zx {fid:Nat}{x:X}{args:Array Value}{ts:List ByteArray}{cap:Nat}{ty:TypeId}{L:List au}(hn:(Tryz.prog.funcs[fid]?).map (fun f=>f.name== "runtime.NumGoroutine" ||!f.body.isSome)=some false)(himm:∀b,x.I b->b<x.w.heap.size)
  (hL:ts.map (fun t=>t.data.toList)=L) (hcap:ts.length<=cap) (hm:cap<=maxLen) (hs:∀t∈L,t.length<=maxLen)
  (hc:Calls Tryz.prog fid args x.w fun e w'=>e=.returned (.slice (some ⟨x.w.heap.size,0,none⟩) ts.length cap)/\w'=x.w.alloc (.cells (Lib.cellsOf ts cap) ty)):
  jf Tryz.prog x (fun v x'=>mW x x'/\RD wC x' v (.sl 1 (L.map D.str))) ((callFunc fid args).run Tryz.prog x.w):=by
 refine qZ hn himm (Calls.mono hc fun e w' ⟨h1,h2⟩=>?_);subst h2;refine⟨_,h1,fZ.alloc _ _,fun q=>x.I q\/q=x.w.heap.size,fun _ h=>.inl h,fun q hq=>hq.imp id fun h=>⟨ae,by rw[h];show _<(x.w.heap.push _).size;simp⟩, ?_⟩;have hsl:L.length=ts.length:=by rw[<-hL];simp
 have hget:∀i,i<ts.length->(L.map D.str).getD i .any=.str (ts.getD i default).data.toList:=fun i hi=>by
  rw[<-hL];simp[hi]
 refine .sl _ x.w.heap.size 0 ts.length cap 1 _ (fun i _=>.string (ts.getD i default)) (by simp[hsl]) (.inr ⟨rfl,.inr rfl⟩) hcap hm (fun i hi=>by rw[hget i hi];rfl) (fun i hi=>by rw[hget i hi];rfl) (fun i j hi hj=>?_) (fun i j hi hj=>rfl) (fun i j hi hj=>?_)
 .obtain rfl:j=0:=ae;have:=ef x.w (.cells (Lib.cellsOf ts cap) ty);refine(cell_of_heap (c:=Lib.cellsOf ts cap) (T:=ty) (fr:=(0,0)) this (by rw[Lib.cellsOf_size hcap];omega)).trans ?_;have hi2:i<(ts.map Value.string).length:=by simpa using hi
  simp only[Lib.cellsOf];simp[hi,List.getElem?_append_left hi2]
 .obtain rfl:j=0:=ae;rw[hget i hi];show RD wC _ (.string (ts.getD i default)) (.str (ts.getD i default).data.toList);generalize hq:ts.getD i default=q;have hmem:q.data.toList∈L:=by
   rw[<-hL];refine dN.2 ⟨q, ?_,rfl⟩;rw[<-hq];simp[hi]
  have:=hs _ hmem;obtain⟨⟨ql⟩⟩:=q;exact .str ql this
def Bl {x:X}{s p:au}{m:Int}{L:List au}(hL:∀ts,ts=Lib.splitB ⟨⟨p⟩⟩ 0 (Lib.countB ⟨⟨s⟩⟩ ⟨⟨p⟩⟩) ⟨⟨s⟩⟩->ts.map (fun t=>t.data.toList)=L)(himm:∀b,x.I b->b<x.w.heap.size)(h1:1<=p.length)(hs:s.length<=1048576)(hl:L.length<=1048577)(hb:∀t∈L,t.length<=1048576)
  (hm:x.w.cell? ⟨0,0,none⟩=some (.int .i64 m)):jf Tryz.prog x (fun v x'=>mW x x'/\RD wC x' v (.sl 1 (L.map D.str))) ((callFunc 67 #[.string ⟨⟨s⟩⟩,.string ⟨⟨p⟩⟩]).run Tryz.prog x.w):=by
 have h2:1<=(⟨⟨p⟩⟩:ByteArray).size:=h1;have hlen:=Lib.splitB_all ⟨⟨p⟩⟩ h2 0 _ (⟨⟨s⟩⟩:ByteArray) rfl;have hc:=Tryz.strings_Split ⟨⟨s⟩⟩ ⟨⟨p⟩⟩ m x.w (by show s.length<_;omega) hm h2;rw[<-hlen,<-Lib.cellsOf_full]at hc;have hL2:=hL _ rfl;have hle:(Lib.splitB ⟨⟨p⟩⟩ 0 (Lib.countB ⟨⟨s⟩⟩ ⟨⟨p⟩⟩) ⟨⟨s⟩⟩).length<=maxLen:=by
  have:L.length=(Lib.splitB ⟨⟨p⟩⟩ 0 (Lib.countB ⟨⟨s⟩⟩ ⟨⟨p⟩⟩) ⟨⟨s⟩⟩).length:=by rw[<-hL2];simp
  simp only[maxLen];omega
 exact zx oI himm hL2 (aS _) hle (fun t ht=>by have:=hb t ht;simp only[maxLen];omega) hc
def vk:∀(s cur:au),(aI s cur).length<=s.length+1/\∀t∈aI s cur,t.length<=cur.length+s.length
 |[],cur=>by simp[aI]
 |[c],cur=>by simp[aI]
 |c::d::r,cur=>by
  unfold aI;split
  .obtain⟨h1,h2⟩:=vk r [];refine⟨by simp only[az];omega,fun t ht=>?_⟩;rcases bZ.1 ht with rfl|ht
   .omega
   .have:=h2 t ht;simp only[az,aC]at this⊢;omega
  .obtain⟨h1,h2⟩:=vk (d::r) (cur++[c]);refine⟨by simp only[az]at h1⊢;omega,fun t ht=>?_⟩;have:=h2 t ht;simp only[bJ,az,aC]at this⊢;omega
def E124:Ow 67 124:=by
 refine bn rfl ⟨?_, ?_⟩
 .rintro s b hp hok x args hl hargs hnl himm ⟨⟨_,m,hm⟩,_⟩;obtain⟨h0,hs⟩:=fk (hargs 0 aQ);obtain⟨h1,_⟩:=fk (hargs 1 aQ);rw[x6 hl,h0,h1];have:=eL s b.toNat;exact Bl (fun ts e=>by rw[e];exact Mx b _ (⟨⟨s⟩⟩:ByteArray) rfl) himm (aS 1) hp ae (fun t ht=>cT (iI s b.toNat ht) hp) hm
 .rintro s hp hok x args hl hargs hnl himm ⟨⟨_,m,hm⟩,_⟩;obtain⟨h0,hs⟩:=fk (hargs 0 aQ);obtain⟨h1,_⟩:=fk (hargs 1 aQ);rw[x6 hl,h0,h1];obtain⟨q1,q2⟩:=vk s [];exact Bl (fun ts e=>by rw[e];exact My _ (⟨⟨s⟩⟩:ByteArray) rfl) himm aG hp ae (fun t ht=>by have:=q2 t ht;simp only[aC]at this;omega) hm
def YS {args:Array Value}(h:args.size=4):args=#[args.getD 0 undef,args.getD 1 undef,args.getD 2 undef,args.getD 3 undef]:=by
 obtain⟨l⟩:=args
 match l,h with
 |[a,b,c,d],_=>rfl
def E331:Ow 110 331:=by
 refine bn rfl ?_;rintro s hp hok x args hl hargs hnl himm ⟨⟨_,m,hm⟩,_⟩;obtain⟨h0,hs⟩:=fk (hargs 0 aQ);obtain⟨h1,_⟩:=fk (hargs 1 aQ);have h2:=Ca (hargs 2 aQ);have h3:=Ca (hargs 3 aQ);rw[YS hl,h0,h1,h2,h3];have hle:=Lib.countB_le ⟨⟨[10]⟩⟩ (aS 1) (⟨⟨s⟩⟩:ByteArray).size ⟨⟨s⟩⟩ (aS _);have hlen:=Lib.splitB_all ⟨⟨[10]⟩⟩ (aS 1) 1 _ (⟨⟨s⟩⟩:ByteArray) rfl;have hc:=Any.strings_genSplit Tryz.lays221 oI ⟨⟨s⟩⟩ ⟨⟨[10]⟩⟩ 1 (-1) (Lib.countB ⟨⟨s⟩⟩ ⟨⟨[10]⟩⟩+1) m x.w (by show s.length<_;omega) hm (aS 1) (aS 1) aG aG (by rw[ax aG];omega);rw[Nat.add_sub_cancel]at hc;obtain⟨q1,q2⟩:=RO s;have hL:=Ng _ (⟨⟨s⟩⟩:ByteArray) rfl;have hsz:(⟨⟨s⟩⟩:ByteArray).size=s.length:=rfl;exact zx oI himm hL ae (by simp only[maxLen];omega) (fun t ht=>by have:=q2 t ht;simp only[maxLen];omega) hc
def E244:Ow 65 244:=by
 refine bn rfl ?_;rintro s hp hok x args hl hargs hnl himm _;obtain⟨h0,hs⟩:=fk (hargs 0 aQ);obtain⟨h1,_⟩:=fk (hargs 1 aQ);rw[x6 hl,h0,h1];refine jz oI himm (Calls.mono (Tryz.strings_CutSuffix ⟨⟨s⟩⟩ ⟨⟨[10]⟩⟩ x.w (by show s.length<=_;omega)) fun e w' ⟨h1,h2⟩=>⟨h1,h2▸fZ.refl _⟩) (fun x'=>?_);have hc:(Lib.trimSuffix s [10],Lib.hasSuffix s [10])=bP s:=Mz s;have:=sU s;rw[<-hc]at this⊢;have h9:(Lib.trimSuffix s [10]).length<=s.length:=this;exact IM (sJ (Lib.trimSuffix s [10]) ae) (.bool _)
def E683:Ow 208 683:=by
 refine bn rfl ?_;rintro s b rfl hp hok x args hl hargs hnl himm _;obtain⟨h0,hs⟩:=fk (hargs 0 aQ);obtain⟨h1,_⟩:=fk (hargs 1 aQ);rw[x6 hl,h0,h1];refine jz oI himm (Calls.mono (Tryz.strings_Trim_one ⟨⟨s⟩⟩ 32 aG x.w (by show s.length<=_;omega)) fun e w' ⟨h1,h2⟩=>⟨h1, ?_⟩) (fun x'=>?_)
 .rcases h2 with rfl|rfl
  .exact fZ.refl _
  .exact⟨rfl,rfl,rfl,aS _,fun _ _=>rfl⟩
 .have:Lib.trimB (⟨⟨s⟩⟩:ByteArray).data.toList 32=dZ s:=Nu s;rw[this];have hb:(dZ s).length<=s.length:=by
   unfold dZ;have h1:=qR s;have h2:=qR (jV s).reverse;simp only[List.length_reverse]at h2⊢;omega
  exact sJ _ ae
def E469:Ow 86 469:=by
 refine bn rfl ?_;rintro l hp hok x args hl hargs hnl himm _;have h0:=hargs 0 aQ;rw[SJ hl];simp only[lX]at h0;generalize args.getD 0 undef=v0 at h0⊢;cases h0 with
 |sl a b off len cap k es c hlen ha hcap hm hk hn hc h1 h=>
  simp only[cb]at hlen;subst hlen;have fin:∀(e:Ending) (w':World) v' ty,e=.returned v'->w'.ownsRow x.w.heap.size ty 1 v' l.length (l.map fun t=>Value.string ⟨⟨t⟩⟩)->Go.RowKit.Below x.w.heap.size x.w w'->
    ∃v,e=.returned v/\fZ x.w w'/\∃I:Nat->Prop,(∀b,x.I b->I b)/\(∀b,I b->x.I b\/x.w.heap.size<=b/\b<w'.heap.size)/\RD wC ⟨w',I,x.β⟩ v (.sl 1 (l.map D.str)):=by
   rintro e w' v' ty rfl ⟨hxl,ho⟩ hB;refine⟨v',rfl,⟨hB.os,hB.tape,hB.output,hB.size,hB.block⟩, ?_⟩;rcases ho with⟨rfl,hl0⟩|⟨g,cap',cur,rfl,hg,hh,hle,hml,hcs,htk⟩
   .have:l=[]:=sW.1 hl0;subst this;exact⟨x.I,fun _ h=>h,fun _ h=>.inl h,.sl none 0 0 0 0 1 [] (fun _ _=>.nilIface) rfl (.inl rfl) (aS _) (by simp[maxLen]) (fun i hi=>ae) (fun i hi=>ae) (fun i j hi=>ae) (fun i j hi=>ae) (fun i j hi=>ae)⟩
   .have hgl:g<w'.heap.size:=(Array.getElem?_eq_some_iff.1 hh).1;have hgt:∀i (hi:i<l.length),((l.map D.str).getD i .any)=.str l[i]:=fun i hi=>by simp[hi]
    refine⟨fun q=>x.I q\/q=g,fun _ h=>.inl h,fun q hq=>hq.imp id fun h=>by subst h;exact⟨hg,hgl⟩, ?_⟩;refine .sl _ g 0 l.length cap' 1 _ (fun i _=>.string ⟨⟨l.getD i []⟩⟩) aQ (.inr ⟨rfl,.inr rfl⟩) hle hml (fun i hi=>by rw[hgt i hi];rfl) (fun i hi=>by rw[hgt i hi];rfl) (fun i j hi hj=>?_) (fun _ _ _ _=>rfl) (fun i j hi hj=>?_)
    .obtain rfl:j=0:=ae;refine(cell_of_heap (c:=cur) (T:=ty) (fr:=(0,0)) hh ae).trans ?_;have e1:cur.toList[i]? =some (.string ⟨⟨l.getD i []⟩⟩):=by
      have e2:(cur.toList.take (l.length*1))[i]? =(l.map fun t=>Value.string ⟨⟨t⟩⟩)[i]? :=by rw[htk]
      rw[List.getElem?_take,ax ae]at e2;rw[e2];simp[hi]
     have e3:cur[i]? =some (.string ⟨⟨l.getD i []⟩⟩):=by rw[<-e1];simp
     rw[show(0+i*1+0:Nat)=i by omega,Array.getD_eq_getD_getElem?,e3];rfl
    .obtain rfl:j=0:=ae;rw[hgt i hi];have q2:=h i 0 hi ae;rw[hgt i hi]at q2;obtain⟨_,q3⟩:=fk q2;have:l.getD i []=l[i]:=by simp[hi]
     rw[this];exact .str _ q3
  rcases ha with he|⟨rfl,hI⟩
  .have hnil:l=[]:=by simpa using he
   subst hnil;cases a with
   |none=>exact jz oI himm (Calls.mono (Tryz.slices_Clone_string_nil 0 cap x.w) fun e w' ⟨h1,h2⟩=>⟨h1,h2▸fZ.refl _⟩) (fun x'=>.sl none 0 0 0 0 1 [] (fun _ _=>.nilIface) rfl (.inl rfl) (aS _) (by simp[maxLen]) (fun i hi=>ae) (fun i hi=>ae) (fun i j hi=>ae) (fun i j hi=>ae) (fun i j hi=>ae))
   |some a=>exact qZ oI himm (Calls.mono (Tryz.slices_Clone_string_zero a cap x.w) fun e w' ⟨v',h1,h2,_,h3⟩=>fin e w' v' _ h1 h2 h3)
  .have hcell:∀i,(hi:i<l.length)->x.w.cell? ⟨b,off+i,none⟩=some (.string ⟨⟨l[i]⟩⟩):=fun i hi=>by
    have q1:=hc i 0 hi ae;have q2:=h i 0 hi ae;have e:((l.map D.str).getD i .any).cells.getD 0 .any=.str l[i]:=by simp[hi,D.cells]
    rw[e]at q2;rw[(fk q2).1]at q1;simpa using q1
   refine qZ oI himm (Calls.mono (Tryz.slices_Clone_string b off l.length cap (l.map fun t=>⟨⟨t⟩⟩) x.w aQ ae (fun j hj=>?_)) fun e w' ⟨v',h1,h2,_,h3⟩=>?_)
   .rw[cb]at hj;rw[hcell j hj];simp[hj]
   .have:((l.map fun t=>(⟨⟨t⟩⟩:ByteArray)).take l.length).map Value.string=l.map fun t=>Value.string ⟨⟨t⟩⟩:=by
     rw[dM aQ,List.map_map];rfl
    rw[this]at h2;exact fin e w' v' _ h1 h2 h3
def E489:Ow 21 489:=mB rfl fun ds st K h hok=>Rg rfl rfl Tryz.HL Tryz.Uu (Go.Proofs.enters_of Tryz.HL.f166 oI rfl) ds st K h hok
def E664:Ow 144 664:=mB rfl fun ds st K h hok=>Rf rfl rfl Tryz.HM Tryz.Uu (Go.Proofs.enters_of Tryz.HM.f167 oI rfl) ds st K h hok
def E452:Ow 24 452:=mB rfl fun ds st K h hok=>Re rfl rfl Tryz.HN Tryz.Uu (Go.Proofs.enters_of Tryz.HN.f169 oI rfl) ds st K h hok
def yE (sep:au)(B:Nat):∀l:List au,(∀t∈l,t.length<=B)->(aT sep l).length<=l.length*(B+sep.length)
 |[],_=>by simp[aT]
 |[t],h=>by have:=h t (.head _);simp only[aT,az,aC];omega
 |t::u::r,h=>by
  have h1:=h t (.head _);have h2:=yE sep B (u::r) fun x hx=>h x (.tail _ hx)
  rw[gS _ _ _ aQ];rw[az,Nat.succ_mul];simp only[bJ];omega
def E242:Ow 35 242:=by
 refine bn rfl ?_;rintro l sep hp1 hp2 hp3 hok x args hl hargs hnl himm _;have h0:=hargs 0 aQ;obtain⟨h1,_⟩:=fk (hargs 1 aQ);rw[x6 hl,h1];have hj:=yE sep 2097200 l hp3;have hj2:=eM (2097200+sep.length) hp1;have hj3:1048600*(2097200+sep.length)<=140737488355328:=by
  have:=Nat.mul_le_mul_left 1048600 (show 2097200+sep.length<=2097204 by omega);omega
 have hjm:(aT sep l).length<=140737488355328:=ae;simp only[lX]at h0;generalize args.getD 0 undef=v0 at h0⊢;cases h0 with
 |sl a b off len cap k es c hlen ha hcap hm hk hn hc h1 h=>
  simp only[cb]at hlen;subst hlen;rcases ha with he|⟨rfl,hI⟩
  .have hnil:l=[]:=by simpa using he
   subst hnil;refine jz oI himm (Calls.mono (Tryz.strings_Join_none a cap ⟨⟨sep⟩⟩ x.w) fun e w' ⟨h1,h2⟩=>⟨h1,h2▸fZ.refl _⟩) (fun x'=>?_);exact sJ [] aQ
  .have hcell:∀i,(hi:i<l.length)->x.w.cell? ⟨b,off+i,none⟩=some (.string ⟨⟨l[i]⟩⟩):=fun i hi=>by
    have q1:=hc i 0 hi ae;have q2:=h i 0 hi ae;have e:((l.map D.str).getD i .any).cells.getD 0 .any=.str l[i]:=by simp[hi,D.cells]
    rw[e]at q2;rw[(fk q2).1]at q1;simpa using q1
   have e2:(l.map fun t=>(⟨⟨t⟩⟩:ByteArray)).map (fun t=>t.data.toList)=l:=by rw[List.map_map];exact List.map_id l
   have hjl:Lib.join ((l.map fun t=>(⟨⟨t⟩⟩:ByteArray)).map (fun t=>t.data.toList)) (⟨⟨sep⟩⟩:ByteArray).data.toList=aT sep l:=by rw[e2];exact(DY sep l).symm
   have key:=Tryz.strings_Join b off cap (l.map fun t=>⟨⟨t⟩⟩) ⟨⟨sep⟩⟩ x.w (fun j y hy=>by
    rw[List.getElem?_map,dD]at hy;obtain⟨t,ht,rfl⟩:=hy;obtain⟨hlt,rfl⟩:=List.getElem?_eq_some_iff.1 ht;exact hcell j hlt) (himm b hI) cA (by simpa using hcap) (by rw[hjl];exact hjm)
   rw[hjl,cb]at key;refine jz oI himm (Calls.mono key fun e w' ⟨h1,h2⟩=>⟨h1,h2.os,h2.tape,h2.output,h2.size,h2.block⟩) (fun x'=>?_);exact .str _ (by simp only[maxLen];omega)
end
section
section
variable [dt]
def H70:Ow 56 70:=bn rfl fun r hp0=>aO ba ck rfl (w70 bd M7 M8 G210 XL XM G213 G214 XN r hp0)
def H79:Ow 19 79:=bn rfl fun l i own hp0 hp1=>aO ba ck rfl (w79 bd XP Kv G229 XQ XR G232 l i own hp0 hp1)
def H212:Ow 97 212:=bn rfl fun s=>aO ba ck rfl (w212 bd G445 G446 s)
def H218:Ow 106 218:=bn rfl fun r hp0=>aO ba ck rfl (w218 bd G457 G458 G459 G460 r hp0)
def H229:Ow 51 229:=bn rfl fun l i own hp0 hp1=>aO ba ck rfl (w229 bd Kv XR Ub G480 X0 l i own hp0 hp1)
def H251:Ow 11 251:=bn rfl fun s hp0=>aO ba ck rfl (w251 bd G72 XV XY X1 G497 s hp0)
def H349:Ow 137 349:=bn rfl fun s=>aO ba ck rfl (w349 bd s)
def H441:Ow 134 441:=bn rfl fun s hp0=>aO ba ck rfl (w441 bd XW QH Ue X6 s hp0)
def H447:Ow 141 447:=bn rfl fun l=>aO ba ck rfl (w447 bd l)
def H454:Ow 103 454:=bn rfl fun c=>aO ba ck rfl (w454 bd c)
def H460:Ow 152 460:=bn rfl fun r of hp0=>aO ba ck rfl (w460 bd Yd G673 G674 r of hp0)
def H478:Ow 17 478:=bn rfl fun v n hp0=>aO ba ck rfl (w478 bd v n hp0)
def H495:Ow 177 495:=bn rfl fun s hp0=>aO ba ck rfl (w495 bd T7 G682 G683 Ug G685 Yn s hp0)
def H511:Ow 47 511:=bn rfl fun l nm v hp0=>aO ba ck rfl (w511 bd G699 l nm v hp0)
def H534:Ow 123 534:=bn rfl fun a b=>aO ba ck rfl (w534 bd G516 X3 Ue X6 a b)
def H630:Ow 173 630:=bn rfl fun a b=>aO ba ck rfl (w630 bd a b)
def H662:Ow 181 662:=bn rfl fun l hp0=>aO ba ck rfl (w662 bd G811 l hp0)
def H669:Ow 187 669:=bn rfl fun r w al hp0=>aO ba ck rfl (w669 bd M9 X4 G812 r w al hp0)
def H676:Ow 130 676:=bn rfl fun c hp0=>aO ba ck rfl (w676 bd Na c hp0)
def H686:Ow 58 686:=bn rfl fun k hp0=>aO ba ck rfl (w686 bd k hp0)
def H715:Ow 48 715:=mB rfl fun s hp0 nx m K hK=>tL (dv:=fun j=>.agg [.str s.name,.own j 11 0 s.es.length]) ba ck rfl rfl (bH (fun _=>rfl) _) (fun j=>by simp[qA,nu,CJ,mC]) (fun _ _ h=>h) hK (w715 bd s Yg hp0)
def H808:Ow 211 808:=mB rfl ⟨fun w nd hp0 nx lp ln m K h1 h2 h3 h4 hK=>fD qo aG rfl (fun _=>rfl) ba ck rfl h1 h2 h3 h4 hK (ZS bd jY 809 pI 4 w nd Uj QI QJ hp0 yc aG aG (fun w2 nd2 hl hp=>Yi (aS _) w2 nd2 hp (by rw[m7 h1];exact(show 6*w2.length+2<6*w.length+3 by omega)))),fun w nd hp0 nx lp ln m K h1 h2 h3 h4 hK=>fD qo aG rfl (fun _=>rfl) ba ck rfl h1 h2 h3 h4 hK (ZS bd jq 949 kJ 3 w nd Uj QI QJ hp0 uw aG aG (fun w2 nd2 hl hp=>SD (aS _) w2 nd2 hp (by rw[m7 h1];exact(show 6*w2.length+0<6*w.length+1 by omega))))⟩
def H814:Ow 218 814:=bn rfl fun m=>aO ba ck rfl (w814 bd Yr Ys m)
def H862:Ow 84 862:=mB rfl fun l hp0 nx m K hK=>tL (dv:=fun j=>.own j 3 0 (l.map bS.D).length) ba ck rfl rfl (bH (fun _=>rfl) _) (fun j=>by simp[qA,CJ,mC]) (fun _ _ h=>h) (by rw[cb];exact hK) (w862 bd l hp0)
def H898:Ow 251 898:=bn rfl fun s=>aO ba ck rfl (w898 bd s)
def H947:Ow 240 947:=mB rfl fun w nd b nx lp ln m K h1 h2 h3 h4 hK=>uY qo aG rfl (fun _=>rfl) ba ck rfl h1 h2 h3 h4 hK (w947 bd w nd b Uj)
def H953:Ow 247 953:=bn rfl fun m=>aO ba ck rfl (w953 bd Ys XD m)
def Yv:Ow 272 1007:=bn rfl fun s=>aO ba ck rfl (ZB bd s)
def YB:Ow 269 1035:=bn rfl fun l hp0=>aO ba ck rfl (ZH bd XG l hp0)
def YH:Ow 284 1100:=bn rfl fun s b hp0=>aO ba ck rfl (ZN bd s b hp0)
def N76:Ow 34 76:=Vc rfl
def N256:Ow 33 256:=Vc rfl
def N257:Ow 36 257:=Vc rfl
end
end
section
section
variable [dt]
def H71:Ow 62 71:=bn rfl fun r hp0=>aO ba ck rfl (w71 bd M9 Na G218 XO r hp0)
def H85:Ow 10 85:=bn rfl (aO ba ck rfl (w85 bd XS Ym))
def H213:Ow 98 213:=bn rfl fun l hp0=>aO ba ck rfl (w213 bd Kw G447 XX G449 l hp0)
def H219:Ow 63 219:=bn rfl fun r hp0=>aO ba ck rfl (w219 bd T9 G316 G461 G462 r hp0)
def H230:Ow 52 230:=bn rfl fun l i hp0=>aO ba ck rfl (w230 bd Kv Uc l i hp0)
def H252:Ow 28 252:=bn rfl fun s hp0=>aO ba ck rfl (w252 bd G239 s hp0)
def H353:Ow 20 353:=bn rfl fun s hp0=>aO ba ck rfl (w353 bd G74 M7 X2 s hp0)
def H442:Ow 135 442:=bn rfl fun s hp0=>aO ba ck rfl (w442 bd QH s hp0)
def H448:Ow 142 448:=bn rfl fun s hp0=>aO ba ck rfl (w448 bd M7 XU Kw G487 s hp0)
def H455:Ow 147 455:=bn rfl fun n=>aO ba ck rfl (w455 bd n)
def H461:Ow 108 461:=bn rfl fun w hp0=>aO ba ck rfl (w461 bd T9 w hp0)
def H479:Ow 79 479:=bn rfl fun l i=>aO ba ck rfl (w479 bd l i)
def H496:Ow 178 496:=bn rfl fun r hp0=>aO ba ck rfl (w496 bd Ug r hp0)
def H516:Ow 166 516:=bn rfl fun a b=>aO ba ck rfl (w516 bd G704 a b)
def H538:Ow 18 538:=bn rfl fun s r hp0=>aO ba ck rfl (w538 bd G74 XV X2 G715 Yg s r hp0)
def H631:Ow 174 631:=bn rfl fun a b hp0=>aO ba ck rfl (w631 bd Ky Ud G783 a b hp0)
def H663:Ow 182 663:=bn rfl fun l nm=>aO ba ck rfl (w663 bd l nm)
def H670:Ow 188 670:=bn rfl fun s=>aO ba ck rfl (w670 bd G813 G814 s)
def H677:Ow 131 677:=mB rfl fun c hp0 nx m K hK=>MD rfl rfl ba ck rfl rfl hK (w677 bd c Yh hp0)
def H699:Ow 81 699:=bn rfl fun l nm v hp0=>aO ba ck rfl (w699 bd G700 l nm v hp0)
def H716:Ow 49 716:=bn rfl fun r hp0=>aO ba ck rfl (w716 bd G469 G577 G862 G863 G864 r hp0)
def H809:Ow 212 809:=mB rfl fun w nd hp0 nx lp ln m K h1 h2 h3 h4 hK=>fD qo aG rfl (fun _=>rfl) ba ck rfl h1 h2 h3 h4 hK (w809 bd w nd (SB (Nat.le_of_eq (m7 (c:=fun _=>2) h1).symm)) hp0)
def H815:Ow 221 815:=bn rfl fun l=>aO ba ck rfl (w815 bd l)
def H863:Ow 85 863:=mB rfl fun l hp0 nx m K hK=>tL (dv:=fun j=>.own j 4 0 (l.map cg.D).length) ba ck rfl rfl (bH (fun _=>rfl) _) (fun j=>by simp[qA,CJ,mC]) (fun _ _ h=>h) (by rw[cb];exact hK) (w863 bd l hp0)
def H899:Ow 252 899:=bn rfl fun r hp0=>aO ba ck rfl (w899 bd Ye r hp0)
def H948:Ow 241 948:=mB rfl fun x w nd b hp0 nx lp ln m K h1 h2 h3 h4 hK=>fD qo aG rfl (fun _=>rfl) ba ck rfl h1 h2 h3 h4 hK (w948 bd x w nd b hp0)
def H954:Ow 248 954:=bn rfl fun l hp0=>aO ba ck rfl (w954 bd XE l hp0)
def Yw:Ow 273 1008:=bn rfl fun l=>aO ba ck rfl (ZC bd Uf l)
def YC:Ow 270 1036:=bn rfl fun l i hp0=>aO ba ck rfl (ZI bd SA XH l i (T6 (aS _)) hp0)
def YI:Ow 290 1126:=mB rfl fun W w nd hp0 hp1 nx lp ln m K h1 h2 h3 h4 hK=>fD (sI _) aG rfl (fun _=>rfl) ba ck rfl h1 h2 h3 h4 hK (ZO bd W w nd Kx HD SA XJ hp0 hp1)
end
end
section
section
variable [dt]
def H72:Ow 22 72:=bn rfl fun r hp0=>aO ba ck rfl (w72 bd G70 XN r hp0)
def H208:Ow 31 208:=bn rfl fun s=>aO ba ck rfl (w208 bd s)
def H214:Ow 99 214:=bn rfl fun r s hp0=>aO ba ck rfl (w214 bd XX r s hp0)
def H220:Ow 80 220:=bn rfl fun s=>aO ba ck rfl (w220 bd G463 s)
def H231:Ow 53 231:=bn rfl fun l i hp0=>aO ba ck rfl (w231 bd Kv X0 l i hp0)
def H253:Ow 29 253:=bn rfl fun s hp0=>aO ba ck rfl (w253 bd G244 s hp0)
def H357:Ow 189 357:=bn rfl fun s=>aO ba ck rfl (w357 bd XZ Ua s)
def H443:Ow 136 443:=bn rfl fun r w al hp0=>aO ba ck rfl (w443 bd XL Kw r w al hp0)
def H449:Ow 143 449:=bn rfl fun l nm=>aO ba ck rfl (w449 bd G663 l nm)
def H456:Ow 148 456:=bn rfl fun s p hp0=>aO ba ck rfl (w456 bd Ky G666 Uf Yb s p hp0)
def H462:Ow 109 462:=bn rfl fun s hp0=>aO ba ck rfl (w462 bd s hp0)
def H480:Ow 89 480:=bn rfl fun l i own alone hp0 hp1=>aO ba ck rfl (w480 bd XP Kv XQ l i own alone hp0 hp1)
def H497:Ow 23 497:=bn rfl fun n=>aO ba ck rfl (w497 bd G686 n)
def H530:Ow 119 530:=bn rfl fun v=>aO ba ck rfl (w530 bd v)
def H554:Ow 153 554:=bn rfl fun v hp0=>aO ba ck rfl (w554 bd Yh v hp0)
def H658:Ow 162 658:=bn rfl fun s=>aO ba ck rfl (w658 bd s)
def H665:Ow 145 665:=bn rfl fun n hp0=>aO ba ck rfl (w665 bd G336 n hp0)
def H671:Ow 191 671:=bn rfl fun l of hp0=>aO ba ck rfl (w671 bd Yd Yj G816 l of hp0)
def H678:Ow 132 678:=bn rfl fun op=>aO ba ck rfl (w678 bd op)
def H700:Ow 82 700:=bn rfl fun x nm v hp0=>aO ba ck rfl (w700 bd G701 x nm v hp0)
def H734:Ow 176 734:=bn rfl fun n hp0=>aO ba ck rfl (w734 bd G882 n hp0)
def H810:Ow 213 810:=bn rfl fun l=>aO ba ck rfl (w810 bd Kw l)
def H816:Ow 222 816:=bn rfl fun l nm=>aO ba ck rfl (w816 bd G955 l nm)
def H864:Ow 88 864:=mB rfl fun l hp0 nx m K hK=>tL (dv:=fun j=>.own j 2 0 (l.map bW.D).length) ba ck rfl rfl (bH (fun _=>rfl) _) (fun j=>by simp[qA,CJ,mC]) (fun _ _ h=>h) (by rw[cb];exact hK) (w864 bd l hp0)
def H900:Ow 253 900:=bn rfl fun r hp0=>aO ba ck rfl (w900 bd Uc r hp0)
def H949:Ow 242 949:=mB rfl fun w nd hp0 nx lp ln m K h1 h2 h3 h4 hK=>fD qo aG rfl (fun _=>rfl) ba ck rfl h1 h2 h3 h4 hK (w949 bd w nd (X7 (Nat.le_of_eq (m7 (c:=fun _=>0) h1).symm)) QI QJ (SD (Nat.le_of_eq (m7 (c:=fun _=>0) h1).symm)) XC hp0)
def H955:Ow 255 955:=bn rfl fun l nm=>aO ba ck rfl (w955 bd l nm)
def Yx:Ow 261 1031:=mB rfl fun k w nd b hp0 nx lp ln m K h1 h2 h3 h4 hK=>fD qo aG rfl (fun _=>rfl) ba ck rfl h1 h2 h3 h4 hK (ZD bd k w nd b Kw QI QJ Yo hp0)
def YD:Ow 285 1079:=bn rfl fun s w=>aO ba ck rfl (ZJ bd s w)
def YJ:Ow 291 1141:=mB rfl fun W w nd b hp0 nx lp ln m K h1 h2 h3 h4 hK=>uY (sI _) aG rfl (fun _=>rfl) ba ck rfl h1 h2 h3 h4 hK (ZP bd W w nd b hp0)
end
end
section
section
variable [dt]
def H73:Ow 26 73:=bn rfl fun r hp0=>aO ba ck rfl (w73 bd G71 XO r hp0)
def H209:Ow 94 209:=bn rfl fun v hp0=>aO ba ck rfl (w209 bd G440 G441 XW v hp0)
def H215:Ow 57 215:=bn rfl fun r hp0=>aO ba ck rfl (w215 bd T8 G450 G451 XY r hp0)
def H221:Ow 104 221:=bn rfl fun s=>aO ba ck rfl (w221 bd G464 s)
def H232:Ow 54 232:=bn rfl fun l i r hp0 hp1=>aO ba ck rfl (w232 bd QG Ub G483 l i r hp0 hp1)
def H255:Ow 32 255:=bn rfl fun s hp0=>aO ba ck rfl (w255 bd T7 XT G499 s hp0)
def H358:Ow 25 358:=bn rfl fun s hp0=>aO ba ck rfl (w358 bd G75 M9 X5 s hp0)
def H444:Ow 138 444:=bn rfl fun s hp0=>aO ba ck rfl (w444 bd G495 G496 s hp0)
def H450:Ow 100 450:=mB rfl fun ws t l lw nx m K h1 h2 h3 h4 hp2 hK=>Lr ba ck rfl h1 h2 h3 h4 hK fun m0 hp0 hp1=>w450 bd ws t m0 T8 X1 G664 hp0 hp1 hp2
def H457:Ow 149 457:=bn rfl fun r n hp0=>aO ba ck rfl (w457 bd Kx G669 Yc r n hp0)
def H463:Ow 129 463:=bn rfl fun h k hp0=>aO ba ck rfl (w463 bd h k hp0)
def H481:Ow 90 481:=bn rfl fun n=>aO ba ck rfl (w481 bd QG n)
def H499:Ow 68 499:=bn rfl fun s=>aO ba ck rfl (w499 bd s)
def H531:Ow 120 531:=bn rfl fun l=>aO ba ck rfl (w531 bd l)
def H572:Ow 190 572:=bn rfl fun s hp0=>aO ba ck rfl (w572 bd G744 G745 s hp0)
def H659:Ow 165 659:=bn rfl fun t=>aO ba ck rfl (w659 bd t)
def H666:Ow 184 666:=bn rfl fun t=>aO ba ck rfl (w666 bd t)
def H672:Ow 192 672:=bn rfl fun s hp0=>aO ba ck rfl (w672 bd M9 Kx Ky s hp0)
def H682:Ow 207 682:=bn rfl fun s hp0=>aO ba ck rfl (w682 bd G819 s hp0)
def H701:Ow 83 701:=bn rfl fun a b hp0=>aO ba ck rfl (w701 bd M8 G295 a b hp0)
def H744:Ow 219 744:=bn rfl fun s hp0=>aO ba ck rfl (w744 bd Ky G896 G897 G898 Yl Ui s hp0)
def H811:Ow 214 811:=bn rfl fun l i hp0=>aO ba ck rfl (w811 bd Yo l i (SC (aS _)) (Yp (aS _)) hp0)
def H819:Ow 229 819:=bn rfl fun s hp0=>aO ba ck rfl (w819 bd QH Ue Uh Yk G956 Yt s hp0)
def H882:Ow 206 882:=bn rfl fun n hp0=>aO ba ck rfl (w882 bd n hp0)
def H901:Ow 254 901:=bn rfl fun r hp0=>aO ba ck rfl (w901 bd Yl Ui r hp0)
def H950:Ow 243 950:=bn rfl (aO ba ck rfl (w950 bd))
def H956:Ow 256 956:=bn rfl fun s w=>aO ba ck rfl (w956 bd s w)
def Yy:Ow 266 1032:=mB rfl fun W w nd hp0 hp1 nx lp ln m K h1 h2 h3 h4 hK=>fD (sI _) aG rfl (fun _=>rfl) ba ck rfl h1 h2 h3 h4 hK (ZE bd W w nd M5 HD (M6 (Nat.le_of_eq (sA (c:=fun _=>1) hp0.1 h1).symm)) hp0 hp1)
def YE:Ow 281 1097:=mB rfl fun W w nd hp0 hp1 nx lp ln m K h1 h2 h3 h4 hK=>fD (sI _) aG rfl (fun _=>rfl) ba ck rfl h1 h2 h3 h4 hK (ZK bd W w nd (Yq (Nat.le_of_eq (sA (c:=fun _=>0) hp0.1 h1).symm)) M5 HD (M6 (Nat.le_of_eq (sA (c:=fun _=>0) hp0.1 h1).symm)) XI hp0 hp1)
def YK:Ow 8 1200:=bn rfl fun l m=>aO ba ck rfl (ZQ bd G79 G85 XS G538 XK l m)
end
end
section
section
variable [dt]
def H74:Ow 46 74:=bn rfl fun r hp0=>aO ba ck rfl (w74 bd G72 G220 r hp0)
def H210:Ow 95 210:=bn rfl fun r n hp0=>aO ba ck rfl (w210 bd XM Kw G443 r n hp0)
def H216:Ow 59 216:=bn rfl fun s=>aO ba ck rfl (w216 bd XZ Ua s)
def H227:Ow 50 227:=bn rfl fun n=>aO ba ck rfl (w227 bd QG n)
def H239:Ow 64 239:=bn rfl fun s hp0=>aO ba ck rfl (w239 bd G331 s hp0)
def H295:Ow 72 295:=bn rfl fun a b hp0=>aO ba ck rfl (w295 bd M8 G530 G531 X3 QH G534 a b hp0)
def H424:Ow 126 424:=bn rfl fun a b hp0=>aO ba ck rfl (w424 bd Na Ud G631 a b hp0)
def H445:Ow 139 445:=bn rfl fun s=>aO ba ck rfl (w445 bd T7 G660 X8 s)
def H451:Ow 101 451:=bn rfl fun v hp0=>aO ba ck rfl (w451 bd M8 Ya v hp0)
def H458:Ow 150 458:=bn rfl fun r b hp0=>aO ba ck rfl (w458 bd M9 X4 Yc r b hp0)
def H464:Ow 146 464:=bn rfl fun h n hp0=>aO ba ck rfl (w464 bd h n hp0)
def H482:Ow 91 482:=bn rfl fun c hp0=>aO ba ck rfl (w482 bd T9 Ye G677 Yf c hp0)
def H501:Ow 76 501:=bn rfl fun a b hp0=>aO ba ck rfl (w501 bd Na G424 a b hp0)
def H532:Ow 121 532:=bn rfl fun a b=>aO ba ck rfl (w532 bd G714 a b)
def H577:Ow 87 577:=bn rfl fun l hp0=>aO ba ck rfl (w577 bd l hp0)
def H660:Ow 179 660:=mB rfl fun w nd hp0 nx lp ln m K h1 h2 h3 h4 hK=>fD qo aG rfl (fun _=>rfl) ba ck rfl h1 h2 h3 h4 hK (w660 bd w nd (SB (Nat.le_of_eq (m7 (c:=fun _=>4) h1).symm)) hp0)
def H667:Ow 185 667:=bn rfl fun s=>aO ba ck rfl (w667 bd Ua s)
def H673:Ow 193 673:=bn rfl fun r x=>aO ba ck rfl (w673 bd r x)
def H684:Ow 209 684:=bn rfl fun r hp0=>aO ba ck rfl (w684 bd T8 Uh Yk r hp0)
def H704:Ow 203 704:=bn rfl fun x=>aO ba ck rfl (w704 bd x)
def H745:Ow 220 745:=bn rfl fun r hp0=>aO ba ck rfl (w745 bd Ui G901 r hp0)
def H812:Ow 216 812:=bn rfl fun l al=>aO ba ck rfl (w812 bd Kx Yj l al)
def H827:Ow 237 827:=bn rfl fun c hp0=>aO ba ck rfl (w827 bd M8 c hp0)
def H896:Ow 249 896:=bn rfl fun s hp0=>aO ba ck rfl (w896 bd s hp0)
def H927:Ow 228 927:=bn rfl fun a b=>aO ba ck rfl (w927 bd a b)
def H951:Ow 244 951:=bn rfl fun l i b hp0=>aO ba ck rfl (w951 bd l i b (SC (aS _)) hp0)
def H957:Ow 257 957:=bn rfl fun op=>aO ba ck rfl (w957 bd op)
def Yz:Ow 267 1033:=mB rfl fun s W w nd b hp0 nx lp ln m K h1 h2 h3 h4 hK=>uY (sI _) aG rfl (fun _=>rfl) ba ck rfl h1 h2 h3 h4 hK (ZF bd s W w nd b hp0)
def YF:Ow 282 1098:=bn rfl fun n=>aO ba ck rfl (ZL bd Kx n)
def YL:Ow 16 1203:=bn rfl fun l i nm most hp0=>aO ba ck rfl (ZR bd G79 Kv G504 l i nm most hp0)
end
end
section
section
variable [dt]
def H75:Ow 60 75:=bn rfl fun r hp0=>aO ba ck rfl (w75 bd G73 G221 r hp0)
def H211:Ow 96 211:=bn rfl fun r name sZ hp0=>aO ba ck rfl (w211 bd M7 G444 r name sZ hp0)
def H217:Ow 105 217:=bn rfl fun v hp0=>aO ba ck rfl (w217 bd G455 G456 v hp0)
def H228:Ow 44 228:=bn rfl fun l i n hp0=>aO ba ck rfl (w228 bd QG Ub l i n hp0)
def H249:Ow 77 249:=bn rfl fun l x hp0=>aO ba ck rfl (w249 bd l x hp0)
def H316:Ow 107 316:=bn rfl fun v hp0=>aO ba ck rfl (w316 bd Na G554 v hp0)
def H440:Ow 133 440:=bn rfl fun n=>aO ba ck rfl (w440 bd n)
def H446:Ow 140 446:=bn rfl fun m=>aO ba ck rfl (w446 bd X8 X9 m)
def H453:Ow 102 453:=bn rfl fun c=>aO ba ck rfl (w453 bd c)
def H459:Ow 151 459:=bn rfl fun l hp0=>aO ba ck rfl (w459 bd Kx G671 l hp0)
def H470:Ow 73 470:=bn rfl fun s b hp0=>aO ba ck rfl (w470 bd s b hp0)
def H483:Ow 92 483:=bn rfl fun l s hp0=>aO ba ck rfl (w483 bd l s hp0)
def H504:Ow 45 504:=mB rfl fun s r hp0 nx m K hK1 hK2=>Pl ba ck rfl hK1 hK2 (w504 bd s r G75 G358 X5 hp0)
def H533:Ow 122 533:=bn rfl fun s b hp0=>aO ba ck rfl (w533 bd s b hp0)
def H580:Ow 61 580:=bn rfl fun l nm v hp0=>aO ba ck rfl (w580 bd G501 l nm v hp0)
def H661:Ow 180 661:=bn rfl fun m=>aO ba ck rfl (w661 bd X9 G810 m)
def H668:Ow 186 668:=bn rfl fun t=>aO ba ck rfl (w668 bd t)
def H674:Ow 194 674:=bn rfl fun r x=>aO ba ck rfl (w674 bd r x)
def H685:Ow 210 685:=bn rfl fun r hp0=>aO ba ck rfl (w685 bd Ug r hp0)
def H714:Ow 164 714:=bn rfl fun x=>aO ba ck rfl (w714 bd x)
def H783:Ow 205 783:=bn rfl fun a b=>aO ba ck rfl (w783 bd Ud Uf Yb G927 a b)
def H813:Ow 217 813:=bn rfl fun s=>aO ba ck rfl (w813 bd Ky G952 Yr s)
def H828:Ow 238 828:=bn rfl fun c hp0=>aO ba ck rfl (w828 bd Ya Uh Yt c hp0)
def H897:Ow 250 897:=bn rfl fun s hp0=>aO ba ck rfl (w897 bd Ky Uc Xz XA XB s hp0)
def H946:Ow 239 946:=bn rfl fun w es b=>aO ba ck rfl (w946 bd w es b)
def H952:Ow 246 952:=mB rfl fun W w nd hp0 hp1 nx lp ln m K h1 h2 h3 h4 hK=>fD (sI _) aG rfl (fun _=>rfl) ba ck rfl h1 h2 h3 h4 hK (w952 bd W w nd (T5 (Nat.le_of_eq (sA (c:=fun _=>2) hp0.1 h1).symm)) M5 HD hp0 hp1)
def Yu:Ow 271 1006:=bn rfl fun s=>aO ba ck rfl (ZA bd Yf XF s)
def YA:Ow 268 1034:=mB rfl fun x W w nd b hp0 nx lp ln m K h1 h2 h3 h4 hK=>fD (sI _) aG rfl (fun _=>rfl) ba ck rfl h1 h2 h3 h4 hK (ZG bd x W w nd b hp0)
def YG:Ow 283 1099:=bn rfl fun k hp0=>aO ba ck rfl (ZM bd k hp0)
def YM:Ow 13 86:=bn rfl fun s hp0 hp1=>aO ba ck rfl (ZT bd M7 G252 XT XU G255 s hp0 hp1)
end
end
def Qr:List (Nat×Nat)->Prop
 |[]=>True
 |p::r=>Ow p.1 p.2/\Qr r
def Qr.mem:∀{l:List (Nat×Nat)},Qr l->∀p∈l,Ow p.1 p.2
 |p::r,h,q,hq=>by
  rcases bZ.1 hq with rfl|hq
  .exact h.1
  .exact h.2.mem q hq
def allY:Qr wC:=⟨YK,H85,H251,YM,YL,H478,H538,H79,H353,E489,H72,H497,E452,H358,H73,H252,H253,E254,H208,H255,N256,N76,E242,N257,H228,H504,H74,H511,H715,H716,H227,H229,H230,H231,H232,H70,H215,H686,H216,H75,H580,H71,H219,H239,E244,E124,H499,E487,H295,H470,H501,H249,H479,H220,H699,H700,H701,H862,H863,E469,H577,H864,H480,H481,H482,H483,H209,H210,H211,H212,H213,H214,H450,H451,H453,H454,H221,H217,H218,H316,H461,H462,E331,H530,H531,H532,H533,H534,H424,H463,H676,H677,H678,H440,H441,H442,H443,H349,H444,H445,H446,H447,H448,H449,E664,H665,H464,H455,H456,H457,H458,H459,H460,H554,H658,H714,H659,H516,H630,H631,H734,H495,H496,H660,H661,H662,H663,E336,H666,H667,H668,H669,H670,H357,H572,H671,H672,H673,H674,H704,H783,H882,H682,E683,H684,H685,H808,H809,H810,H811,H812,H813,H814,H744,H745,H815,H816,H927,H819,H827,H828,H946,H947,H948,H949,H950,H951,H952,H953,H954,H896,H897,H898,H899,H900,H901,H955,H956,H957,Yx,Yy,Yz,YA,YB,YC,Yu,Yv,Yw,YE,YF,YG,YH,YD,YI,YJ,trivial⟩
def ug:∀{l:List (Nat×Nat)}{a b:Nat},eI l a=some b->(a,b)∈l
 |[],_,_,h=>by simp[eI]at h
 |(c,d)::r,a,b,h=>by
  simp only[eI]at h;split at h
  .rename_i e;simp_all
  .exact .tail _ (ug h)
def okY:Ok (Go.Proofs.Tryz.prog) wC NJ (zU aX):=okA (fun fid n hn=>(show ∀p∈wC,p.2<1000000 by decide+kernel) _ (ug hn)) (fun t ht=>by simp[NJ]at ht;show t=60;omega) fun fid n hn=>allY.mem (fid,n) (ug hn)
section
open Go.RowKit Go.ChangeShapes
def fZ.below {w w':World}(h:fZ w w'):Below w.heap.size w w':=⟨h.os,h.tape,h.output,h.size,h.old⟩
section
variable {H:Type} {enc:TypeId×Value->H} {P:Program}
def Ae {f:Func}{s:ChangeSpec}{apart fresh handsOn again:Bool}{W W':World}{args:Array Value}{v:Value}{ds gs:List (DataW H)}{before pa pv:List MemPlace}
  (hW:DataW.Whole enc P f.params.toList s.vars apart W args.toList ds gs before)
  (hres:∀(b:Nat) (sp:Nat->Bool) (hd:Bool),DataW.TrodAll enc P W' b sp hd f.resultTypes.toList (v.resultList f.resultTypes.size) (s.fn H (ds++gs)).results [])
  (hargs:∀sp:Nat->Bool,(∀p∈before,sp p.block=true)->DataW.TrodAll enc P W' 0 sp true f.params.toList args.toList (s.fn H (ds++gs)).args pa)
  (hvars:∀sp:Nat->Bool,(∀p∈before,sp p.block=true)->DataW.TrodVars enc P W' sp s.vars (s.fn H (ds++gs)).vars pv)
  (hps:before=pa++pv) (hb:Below W.heap.size W W')
  (hok:∀(j:Nat) (t:TypeId) (r:Value),f.resultTypes[j]? =some t->(v.resultList f.resultTypes.size)[j]? =some r->Value.okWide P W' .any 0 t r):
  s.post enc P f apart fresh handsOn again W args v W':=by
 have hold:∀p∈before,(fun b=>decide (b<W.heap.size)) p.block=true:=fun p hp=>by simpa using hW.lt p hp
 refine⟨ds,gs,before,[],pa,pv,hW,hres _ _ _,hargs _ hold,hvars _ hold,World.keptBut_mono (fun p hp=>⟨hp, ?_⟩) (hb.frame (· ∈before)),fun _=>?_⟩
 .rw[hps,List.mem_append]at hp;exact Or.inr hp
 .have hlt:=hW.lt;obtain⟨_,_,_,_,_,hz,hn⟩:=hW;refine⟨hok,_,_,([]++pa)++pv,⟨[]++pa,pv,trodAll_append (hargs _ (fun _ _=>rfl)) (hres _ _ _),hvars _ (fun _ _=>rfl),rfl, ?_, ?_⟩, ?_⟩
  .intro b off hp;have hmem:MemPlace.cell b off∈before:=by rw[hps];simpa using hp
   have hq:=hz b off hmem;have hl:b<W.heap.size:=hlt _ hmem;simpa only[World.frozen?,hb.block b hl]using hq
  .grind
  .intro p hp _;rw[hps];simpa using hp
end
end
section
inductive Lf
 |str
 |int (k:IntKind)
 |bool
 |sl (ag:Bool) (k:Nat) (cs:List Lf)
mutual
def fit:Lf->D->Nat->Prop
 | .str,d,n=>∃s,d=.str s/\s.length+1<=n
 | .int k,d,n=>(∃m,d=.int k m/\(Lit.int k m).wf=true)/\1<=n
 | .bool,d,n=>(∃b,d=.bool b)/\1<=n
 | .sl ag k cs,d,n=>∃es,d=.sl k es/\∃ns:List Nat,ns.length=es.length/\ns.sum+1<=n/\∀i,i<es.length->∃ds,es.getD i .any=(bif ag then .agg ds else ds.getD 0 .any)/\kv cs ds (ns.getD i 0)
def kv:List Lf->List D->Nat->Prop
 |[],ds,_=>ds=[]
 |c::r,ds,n=>∃d ds' n1 n2,ds=d::ds'/\n1+n2<=n/\fit c d n1/\kv r ds' n2
end
def tz:∀{cs:List Lf}{ds:List D}{n:Nat},kv cs ds n->ds.length=cs.length
 |[],ds,n,h=>by simp only[kv]at h;simp[h]
 |c::r,ds,n,h=>by
  simp only[kv]at h;obtain⟨d,ds',n1,n2,rfl,_,_,h2⟩:=h;simp[tz h2]
def vP:∀{a b:List Lf}{da db:List D}{n m:Nat},kv a da n->kv b db m->kv (a++b) (da++db) (n+m)
 |[],b,da,db,n,m,h1,h2=>by
  simp only[kv]at h1;subst h1;simp only[eS];exact fitL_mono h2 ae
 |c::r,b,da,db,n,m,h1,h2=>by
  simp only[kv]at h1;obtain⟨d,ds',n1,n2,rfl,h3,h4,h5⟩:=h1;simp only[eN,kv];exact⟨d,ds'++db,n1,n2+m,rfl,ae,h4,vP h5 h2⟩
where
 fitL_mono:∀{cs:List Lf} {ds:List D} {n m:Nat},kv cs ds n->n<=m->kv cs ds m
 |[],_,_,_,h,_=>h
 |c::r,ds,n,m,h,hm=>by
  simp only[kv]at h⊢;obtain⟨d,ds',n1,n2,rfl,h3,h4,h5⟩:=h;exact⟨d,ds',n1,n2,rfl,ae,h4,h5⟩
def HU {c:Lf}{d:D}{n:Nat}(h:fit c d n):d.cells=[d]/\d.bF=true:=by
 cases c<;>simp only[fit]at h
 .obtain⟨s,rfl,_⟩:=h;exact⟨rfl,rfl⟩
 .obtain⟨⟨m,rfl,_⟩,_⟩:=h;exact⟨rfl,rfl⟩
 .obtain⟨⟨b,rfl⟩,_⟩:=h;exact⟨rfl,rfl⟩
 .obtain⟨es,rfl,_⟩:=h;exact⟨rfl,rfl⟩
def sk:∀{cs:List Lf}{ds:List D}{n:Nat},kv cs ds n->bx ds=true
 |[],ds,n,h=>by simp only[kv]at h;subst h;rfl
 |c::r,ds,n,h=>by
  simp only[kv]at h;obtain⟨d,ds',n1,n2,rfl,_,h1,h2⟩:=h;simp only[bx,(HU h1).2,sk h2,Bool.and_self]
def KA (b o m j:Nat):((⟨b,o,none⟩:Addr).add m).add j=⟨b,o+m+j,none⟩:=by
 unfold Addr.add;split<;>split<;>simp_all
section
variable {H:Type}
mutual
def dB:DataW H->Nat
 | .lit (.string s)=>s.length+1
 | .slice es _=>QU es+1
 | .agg ps=>QU ps
 |_=>1
def QU:List (DataW H)->Nat
 |[]=>0
 |d::r=>dB d+QU r
end
def HP:∀ds:List (DataW H),QU ds=(ds.map dB).sum
 |[]=>rfl
 |d::r=>by simp only[QU,List.map_cons,List.sum_cons,HP r]
end
def uI (P:Program)(t:TypeId):Bool:=match P.underlying t with
 |some (.struct _)=>true
 |some (.array _ _)=>true
 |_=>false
def VW (P:Program)(F:TypeId->Option (List Lf)):List Field->Nat->Option (List Lf)
 |[],_=>some []
 |f::r,off=>match F f.type,VW P F r (off+P.cellsOf f.type)with
  |some a,some b=>if f.offset=off/\a.length=P.cellsOf f.type then some (a++b)else none
  |_,_=>none
def arrF (e:TypeId)(off:Nat):Field:={(default:Field)with type:=e,offset:=off}
def Ac (P:Program):Nat->TypeId->Option (List Lf)
 |0,_=>none
 |n+1,t=>match P.underlying t with
  |some .bool=>some [.bool]
  |some (.int k)=>some [.int k]
  |some .string=>some [.str]
  |some (.slice e)=>match Ac P n e with
   |some cs=>if cs.length=P.cellsOf e/\0<cs.length/\(uI P e=true\/cs.length=1)then some [.sl (uI P e) (P.cellsOf e) cs]else none
   |none=>none
  |some (.struct fs)=>match VW P (Ac P n) fs.toList 0 with
   |some a=>if a.length=P.cellsOf t then some a else none
   |none=>none
  |some (.array k e)=>match VW P (Ac P n) ((List.range k).map fun i=>arrF e (i*P.cellsOf e)) 0 with
   |some a=>if a.length=P.cellsOf t then some a else none
   |none=>none
  |_=>none
section
variable {H:Type} {enc:TypeId×Value->H} {P:Program} {ν:List (Nat×Nat)}
def wH (W:World):X:=⟨W,fun b=>b<W.heap.size,fun _=>none⟩
def Rds (ν:List (Nat×Nat))(W:World)(cs:List Value)(a:List Lf)(n:Nat):Prop:=
 cs.length=a.length/\∃ds:List D,kv a ds n/\∀i,i<cs.length->RD ν (wH W) (cs.getD i undef) (ds.getD i .any)/\(cs.getD i undef).oneCell'=true
def Rds.one {W:World}{v:Value}{c:Lf}{d:D}{n:Nat}(hf:fit c d n)(hr:RD ν (wH W) v d)(h1:v.oneCell'=true):Rds ν W [v] [c] n:=
 ⟨rfl,[d],by simp only[kv];exact⟨d,[],n,0,rfl,ae,hf,rfl⟩,fun i hi=>by
  obtain rfl:i=0:=by simpa using hi
  exact⟨hr,h1⟩⟩
def GC {W:World}{F:TypeId->Option (List Lf)}{m:Nat}{sp:Nat->Bool}{held:Bool}{cs:List Value}
  (hF:∀t a cs (x:DataW H×List MemPlace),F t=some a->DataW.trod enc P W 0 sp held m t cs=some x->Rds ν W cs a (dB x.1)):
  ∀(r:List Field) (off:Nat) (a:List Lf) (xs:List (DataW H×List MemPlace)),VW P F r off=some a->xs.length=r.length->
   (∀(i:Nat) (f:Field),r[i]? =some f->DataW.trod enc P W 0 sp held m f.type ((cs.drop f.offset).take (P.cellsOf f.type))=xs[i]?)->off+a.length<=cs.length->
   ∃ds:List D,kv a ds (QU (xs.map (·.1)))/\∀i,i<a.length->RD ν (wH W) (cs.getD (off+i) undef) (ds.getD i .any)/\(cs.getD (off+i) undef).oneCell'=true
 |[],off,a,xs,h,hl,_,_=>by
  simp only[VW,aV]at h;subst h;exact⟨[],rfl,fun i hi=>by simp at hi⟩
 |f::r,off,a,xs,h,hl,hx,hoff=>by
  simp only[VW]at h;split at h
  .rename_i a1 a2 h1 h2;split at h
   .rename_i hc;simp only[aV]at h;subst h
    match xs,hl with
    |x::xs,hl=>
    have q:=hx 0 f rfl;simp only[List.getElem?_cons_zero]at q;obtain⟨l1,ds1,g1,g2⟩:=hF _ _ _ _ h1 q;simp only[bJ]at hoff;have hlen:((cs.drop f.offset).take (P.cellsOf f.type)).length=a1.length:=by rw[<-l1]
    obtain⟨ds2,g3,g4⟩:=GC hF r _ a2 xs h2 (by simpa using hl) (fun i f' hf=>by simpa using hx (i+1) f' (by simpa using hf)) ae;have hd1:=tz g1;refine⟨ds1++ds2,by simp only[List.map_cons,QU];exact vP g1 g3,fun i hi=>?_⟩;simp only[bJ]at hi;by_cases hi1:i<a1.length
    .have:=g2 i ae;have e1:(ds1++ds2).getD i .any=ds1.getD i .any:=by simp[List.getD,List.getElem?_append,hd1,hi1]
     have e2:((cs.drop f.offset).take (P.cellsOf f.type)).getD i undef=cs.getD (off+i) undef:=by
      simp only[List.getD,List.getElem?_take,List.getElem?_drop,hc.1];rw[ax ae]
     rw[e1,<-e2];exact this
    .have:=g4 (i-a1.length) ae;have e1:(ds1++ds2).getD i .any=ds2.getD (i-a1.length) .any:=by simp[List.getD,List.getElem?_append,hd1,hi1]
     rw[e1,show off+i=off+P.cellsOf f.type+(i-a1.length)by omega];exact this
   .cases h
  .cases h
def xd {W:World}{sp:Nat->Bool}{held:Bool}:∀(fl:Nat) (t:TypeId) (a:List Lf) (fuel:Nat) (cs:List Value) (x:DataW H×List MemPlace),
  Ac P fl t=some a->DataW.trod enc P W 0 sp held fuel t cs=some x->Rds ν W cs a (dB x.1)
 |0,t,a,fuel,cs,x,h,_=>by simp[Ac]at h
 |n+1,t,a,fuel,cs,x,h,hx=>by
  unfold Ac at h;split at h
  .rename_i ht;simp only[aV]at h;subst h;obtain⟨b,rfl,rfl⟩:=DataW.trod_bool ht hx;exact .one (by simp only[fit];exact⟨⟨b,rfl⟩,by simp[dB]⟩) (.bool b) rfl
  .rename_i k ht;simp only[aV]at h;subst h;obtain⟨m,rfl,rfl,hw⟩:=DataW.trod_int ht hx;exact .one (by simp only[fit];exact⟨⟨m,rfl,hw⟩,by simp[dB]⟩) (.int k m) rfl
  .rename_i ht;simp only[aV]at h;subst h;obtain⟨s,rfl,rfl,hs⟩:=DataW.trod_string ht hx;obtain⟨⟨l⟩⟩:=s;exact .one (d:=.str l) (by simp only[fit];exact⟨l,rfl,by simp[dB]⟩) (.str l hs) rfl
  .rename_i e ht;split at h
   .rename_i ce hce;split at h
    .rename_i hk;obtain⟨hk1,hk0,hkag⟩:=hk;simp only[aV]at h;subst h;rcases DataW.trod_slice ht hx with⟨rfl,rfl⟩|⟨ad,len,cap,elems,rest,m,rfl,rfl,rfl,hb,hlc,hcm,hel,hat,_,_⟩
     .refine .one (d:=.sl (P.cellsOf e) []) (by simp only[fit];exact⟨[],rfl,[],rfl,by simp[dB],fun i hi=>by simp at hi⟩) ?_ rfl;exact .sl none 0 0 0 0 _ [] (fun _ _=>undef) rfl (.inl rfl) (aS _) (Nat.zero_le _) (fun i hi=>ae) (fun i hi=>ae) (fun i j hi=>ae) (fun i j hi=>ae) (fun i j hi=>ae)
     .have key:∀i,i<len->∃(csi:List Value) (dsi:List D),(csi.length=ce.length/\∀j,j<P.cellsOf e->W.cell? ((ad.add (i*P.cellsOf e)).add j)=csi[j]?)/\kv ce dsi (dB (elems.getD i (.nil,[])).1)/\
        ∀j,j<csi.length->RD ν (wH W) (csi.getD j undef) (dsi.getD j .any)/\(csi.getD j undef).oneCell'=true:=by
       intro i hi;have q:=hat i hi;have hgi:elems[i]? =some (elems.getD i (.nil,[])):=by simp[List.getD,show i<elems.length by omega]
       rw[hgi,Option.bind_eq_some_iff]at q;obtain⟨csi,q1,q2⟩:=q;obtain⟨l1,dsi,g1,g2⟩:=xd n e ce m csi _ hce q2;obtain⟨_,_,q3⟩:=World.cells?_some q1;exact⟨csi,dsi,⟨l1,q3⟩,g1,g2⟩
      let f:Nat->List Value×List D:=fun i=>if h:i<len then((key i h).choose,(key i h).choose_spec.choose)else([],[])
      have hf:∀i,i<len->((f i).1.length=ce.length/\∀j,j<P.cellsOf e->W.cell? ((ad.add (i*P.cellsOf e)).add j)=(f i).1[j]?)/\kv ce (f i).2 (dB (elems.getD i (.nil,[])).1)/\
        ∀j,j<(f i).1.length->RD ν (wH W) ((f i).1.getD j undef) ((f i).2.getD j .any)/\((f i).1.getD j undef).oneCell'=true:=by
       intro i hi;have e1:f i=((key i hi).choose,(key i hi).choose_spec.choose):=by simp[f,hi]
       rw[e1];exact(key i hi).choose_spec.choose_spec
      let es:List D:=(List.range len).map fun i=>bif uI P e then .agg (f i).2 else(f i).2.getD 0 .any
      have hes:∀i,i<len->es.getD i .any=bif uI P e then .agg (f i).2 else(f i).2.getD 0 .any:=fun i hi=>by simp[es,hi]
      have hcells:∀i,i<len->(es.getD i .any).cells=(f i).2:=fun i hi=>by
       rw[hes i hi];cases hag:uI P e with
       |true=>rfl
       |false=>
        have h1:ce.length=1:=by
         rcases hkag with h|h
         .rw[hag]at h;cases h
         .exact h
        match ce,h1 with
        |[c],_=>
        have g:=(hf i hi).2.1;simp only[kv]at g;obtain⟨d,ds',n1,n2,e1,_,g1,rfl⟩:=g;rw[e1];exact(HU g1).1
      have hnl:∀i,i<len->(es.getD i .any).bF=true:=fun i hi=>by
       have g:=sk (hf i hi).2.1;rw[hes i hi];cases hag:uI P e with
       |true=>exact g
       |false=>
        show((f i).2.getD 0 .any).bF=true
        match hq:(f i).2 with
        |[]=>rfl
        |d::r=>
         rw[hq]at g;simp only[bx,bp]at g;exact g.1
      refine .one (d:=.sl (P.cellsOf e) es) ?_ ?_ rfl
      .simp only[fit];refine⟨es,rfl,elems.map fun q=>dB q.1,by simp[es,hel],by simp only[dB,HP,List.map_map];exact aS _,fun i hi=>?_⟩;have hi':i<len:=by simpa[es]using hi
       refine⟨(f i).2,hes i hi', ?_⟩;have:=(hf i hi').2.1;have e2:(elems.map fun q=>dB q.1).getD i 0=dB (elems.getD i (.nil,[])).1:=by simp[List.getD,show i<elems.length by omega]
       rw[e2];exact this
      .have hfl:∀i,i<len->(f i).1.length=P.cellsOf e:=fun i hi=>by rw[(hf i hi).1.1,hk1]
       have hdl:∀i,i<len->(f i).2.length=P.cellsOf e:=fun i hi=>by rw[tz (hf i hi).2.1,hk1]
       have hcell:∀i j,i<len->j<P.cellsOf e->W.cell? ((ad.add (i*P.cellsOf e)).add j)=some ((f i).1.getD j undef):=fun i j hi hj=>by
        rw[(hf i hi).1.2 j hj];simp[List.getD,show j<(f i).1.length by rw[hfl i hi];exact hj]
       have hsp:es=[]\/(ad.spot=none/\ad.block<W.heap.size):=by
        by_cases h0:len=0
        .left;simp[es,h0]
        .right;have h1:=hcell 0 0 ae ae;have e3:(ad.add (0*P.cellsOf e)).add 0=ad:=by simp[Addr.add]
         rw[e3]at h1;refine⟨World.cell?_spot h1, ?_⟩;unfold World.cell? at h1;split at h1
         .rename_i h2;exact(Array.getElem?_eq_some_iff.mp h2).1
         .cases h1
       obtain⟨ab,ao,asp⟩:=ad;refine .sl (some ⟨ab,ao,asp⟩) ab ao len cap _ es (fun i j=>(f i).1.getD j undef) (by simp[es]) ?_ hlc hcm (fun i hi=>by rw[hcells i hi,hdl i hi]) hnl ?_ ?_ ?_
       .rcases hsp with h|⟨h,h2⟩
        .exact .inl h
        .obtain rfl:asp=none:=h;exact .inr ⟨rfl,h2⟩
       .intro i j hi hj;have h1:=hcell i j hi hj;rcases hsp with h|⟨h,h2⟩
        .have:es.length=0:=by rw[h];rfl
         simp[es]at this;omega
        .obtain rfl:asp=none:=h
         rwa [KA]at h1
       .intro i j hi hj;exact((hf i hi).2.2 j (by rw[hfl i hi];exact hj)).2
       .intro i j hi hj;rw[hcells i hi];exact((hf i hi).2.2 j (by rw[hfl i hi];exact hj)).1
    .cases h
   .cases h
  .rename_i fs ht;split at h
   .rename_i b hb;split at h
    .rename_i hlen;simp only[aV]at h;subst h;obtain⟨xs,m,rfl,rfl,hcl,hxl,hat⟩:=DataW.trod_struct ht hx;obtain⟨ds,g1,g2⟩:=GC (W:=W) (ν:=ν) (sp:=sp) (held:=held) (enc:=enc) (m:=m) (cs:=cs) (fun t a cs x h1 h2=>xd n t a m cs x h1 h2) fs.toList 0 b xs hb (by simpa using hxl) (fun i f hf=>hat i f (by simpa using hf)) ae;refine⟨ae,ds,by simpa only[dB]using g1,fun i hi=>?_⟩;have:=g2 i ae
     rwa [cd]at this
    .cases h
   .cases h
  .rename_i k e ht;split at h
   .rename_i b hb;split at h
    .rename_i hlen;simp only[aV]at h;subst h;obtain⟨xs,m,rfl,rfl,hcl,hxl,hat⟩:=DataW.trod_array ht hx;obtain⟨ds,g1,g2⟩:=GC (W:=W) (ν:=ν) (sp:=sp) (held:=held) (enc:=enc) (m:=m) (cs:=cs) (fun t a cs x h1 h2=>xd n t a m cs x h1 h2) _ 0 b xs hb (by simpa using hxl) (fun i f hf=>by
      simp only[List.getElem?_map,dD]at hf;obtain⟨j,hj,rfl⟩:=hf;have hi:i<k:=by
       have:=(List.getElem?_eq_some_iff.1 hj).1;simpa using this
      obtain rfl:j=i:=by simpa[hi]using hj.symm
      exact hat j hi) ae
     refine⟨ae,ds,by simpa only[dB]using g1,fun i hi=>?_⟩;have:=g2 i ae
     rwa [cd]at this
    .cases h
   .cases h
  .cases h
end
end
section
open Go.RowKit Go.ChangeShapes Go.WideShapes
def FV (sh:Bool×List Lf)(d:D)(n:Nat):Prop:=∃ds,kv sh.2 ds n/\d=bif sh.1 then .agg ds else ds.getD 0 .any
def wM:List (Bool×List Lf)->List D->Nat->Prop
 |[],ds,_=>ds=[]
 |s::r,ds,n=>∃d ds' n1 n2,ds=d::ds'/\n1+n2<=n/\FV s d n1/\wM r ds' n2
def oE (P:Program)(k:Nat):List TypeId->Option (List (Bool×List Lf))
 |[]=>some []
 |t::r=>match Ac P k t,oE P k r with
  |some a,some b=>if uI P t=true\/a.length=1 then some ((uI P t,a)::b)else none
  |_,_=>none
section
variable {H:Type} {enc:TypeId×Value->H} {P:Program} {ν:List (Nat×Nat)}
def Up {W:World}{sp:Nat->Bool}{held:Bool}{k base:Nat}{t:TypeId}{a:List Lf}{v:Value}{d:DataW H}{p:List MemPlace}{r:Reach}
  (ha:Ac P k t=some a) (h1:uI P t=true\/a.length=1) (nS:Value.okWide P W r base t v) (h:DataW.Trod enc P W 0 sp held t v d p):
  ∃e,FV (uI P t,a) e (dB d)/\e.bF=true/\RD ν (wH W) v e:=by
 obtain⟨fuel,hf⟩:=h;obtain⟨hl,ds,g1,g2⟩:=xd (ν:=ν) k t a fuel v.cells.toList (d,p) ha hf;have hdl:=tz g1;have hnl:=sk g1;refine⟨_,⟨ds,g1,rfl⟩, ?_⟩;cases hag:uI P t with
 |true=>
  have:∃cs,v=.agg cs/\cs.size=P.cellsOf t:=by
   match k,ha with
   |n+1,ha=>
   unfold Ac at ha;unfold uI at hag;split at ha
   .simp_all
   .simp_all
   .simp_all
   .simp_all
   .rename_i fs ht;exact okWide_struct ht nS
   .rename_i m e ht;simp only[Value.okWide,ht]at nS;obtain⟨cs,h1,h2,_⟩:=nS;exact⟨cs,h1,h2⟩
   .simp_all
  obtain⟨cs,rfl,hcs⟩:=this;refine⟨hnl, ?_⟩;have hl':cs.size=a.length:=by simpa[Value.cells]using hl
  have e:∀i,(Value.agg cs).cells.toList.getD i undef=cs.getD i undef:=fun i=>by
   simp only[Value.cells];by_cases hi:i<cs.size<;>simp[List.getD,Array.getD,hi]
  refine .agg cs ds ae (fun i hi=>?_) fun i hi=>?_
  .rw[<-e];exact(g2 i (by simp only[Value.cells,Array.length_toList];omega)).2
  .rw[<-e];exact(g2 i (by simp only[Value.cells,Array.length_toList];omega)).1
 |false=>
  have h1:a.length=1:=by
   rcases h1 with h|h
   .rw[hag]at h;cases h
   .exact h
  have hv:v.cells.toList.getD 0 undef=v:=by
   match k,ha with
   |n+1,ha=>
   unfold Ac at ha;unfold uI at hag;split at ha
   .rename_i ht;obtain⟨b,rfl⟩:=okWide_bool ht nS;rfl
   .rename_i k ht;obtain⟨b,rfl⟩:=okWide_int ht nS;rfl
   .rename_i ht;obtain⟨b,rfl⟩:=okWide_string ht nS;rfl
   .rename_i e ht;obtain⟨b,c,f,rfl⟩:=okWide_slice ht nS;rfl
   .rename_i fs ht;rw[ht]at hag;cases hag
   .rename_i m e ht;rw[ht]at hag;cases hag
   .cases ha
  have g:=g2 0 ae;rw[hv]at g;refine⟨?_,g.1⟩
  match ds,hdl with
  |[d0],_=>simpa[bx]using hnl
  |[],h=>simp at h;omega
  |_::_::_,h=>simp at h;omega
def HH {W:World}{sp:Nat->Bool}{held:Bool}{k base:Nat}{r:Reach}:∀(ts:List TypeId) (shs:List (Bool×List Lf)) (vs:List Value) (dws:List (DataW H)) (ps:List MemPlace),
  oE P k ts=some shs->(∀(j:Nat) t v,ts[j]? =some t->vs[j]? =some v->Value.okWide P W r base t v)->DataW.TrodAll enc P W 0 sp held ts vs dws ps->
  ∃es:List D,wM shs es (QU dws)/\es.length=vs.length/\dws.length=ts.length/\bx es=true/\∀i,i<es.length->RD ν (wH W) (vs.getD i undef) (es.getD i .any)
 |[],shs,vs,dws,ps,hs,_,h=>by
  simp only[oE,aV]at hs;subst hs;obtain⟨rfl,rfl,rfl⟩:=trodAll_nil h;exact⟨[],rfl,rfl,rfl,rfl,fun i hi=>by simp at hi⟩
 |t::ts,shs,vs,dws,ps,hs,hv,h=>by
  simp only[oE]at hs;split at hs
  .rename_i a b h1 h2;split at hs
   .rename_i hc;simp only[aV]at hs;subst hs;obtain⟨v,vs',d,ds',p,q,rfl,rfl,rfl,h3,h4⟩:=trodAll_cons h;obtain⟨e,g1,g2,g3⟩:=Up (ν:=ν) h1 hc (hv 0 t v rfl rfl) h3;obtain⟨es,k1,k2,k3,k4,k5⟩:=HH ts b vs' ds' q h2 (fun j t v h5 h6=>hv (j+1) t v (by simpa using h5) (by simpa using h6)) h4;refine⟨e::es,⟨e,es,_,_,rfl,aS _,g1,k1⟩,by simp[k2],by simp[k3],by simp[bx,g2,k4],fun i hi=>?_⟩
    match i,hi with
    |0,_=>exact g3
    |i+1,hi=>exact k5 i (by simpa using hi)
   .cases hs
  .cases hs
def r6 {W W':World}(hl:laidOutB P=true)(hb:Below W.heap.size W W'){sp':Nat->Bool}:∀(ts:List TypeId) (vs:List Value) (dws:List (DataW H)) (ps:List MemPlace),
  (ts.all fun t=>P.readableRec t&&decide (t<P.types.size))=true->(∀x∈ps,x.block<W.heap.size)->(∀x∈ps,sp' x.block=true)->
  DataW.TrodAll enc P W 0 (fun _=>true) true ts vs dws ps->DataW.TrodAll enc P W' 0 sp' true ts vs dws ps
 |[],vs,dws,ps,_,_,_,h=>by
  obtain⟨rfl,rfl,rfl⟩:=trodAll_nil h;exact trodAll_mk0
 |t::ts,vs,dws,ps,ht,hlt,hsp,h=>by
  obtain⟨v,vs',d,ds',p,q,rfl,rfl,rfl,h3,h4⟩:=trodAll_cons h;simp only[List.all_cons,bp,aY]at ht;refine trodAll_cons_mk (WideElems.Trod_stays hl ht.1.1 ht.1.2 h3 (fun x hx=>hb.same (hlt x (by simp[hx]))) fun x hx=>hsp x (by simp[hx])) ?_;exact r6 hl hb ts vs' ds' q ht.2 (fun x hx=>hlt x (by simp[hx])) (fun x hx=>hsp x (by simp[hx])) h4
end
end
def Q3 {c:Lf}{d:D}{n:Nat}(h:fit c d n):1<=n:=by
 cases c<;>simp only[fit]at h
 .obtain⟨s,_,h⟩:=h;omega
 .exact h.2
 .exact h.2
 grind
theorem NX {c:Lf}{d:D}{n m:Nat}(h:fit c d n)(hm:n<=m):fit c d m:=by
 cases c<;>simp only[fit]at h⊢
 .grind
 .exact⟨h.1,ae⟩
 .exact⟨h.1,ae⟩
 grind
theorem I3:∀(ns:List Nat) (i:Nat),i<ns.length->ns.getD i 0<=ns.sum
 |a::r,0,_=>aQ
 |a::r,i+1,h=>by
  have:=I3 r i (by simpa using h)
  grind
def I4:∀(ns:List Nat),(∀i,i<ns.length->1<=ns.getD i 0)->ns.length<=ns.sum
 |[],_=>aQ
 |a::r,h=>by
  have h0:=h 0 aQ;have:=I4 r fun i hi=>h (i+1) (by simpa using hi)
  grind
def VF {α:Type}{q:α->D}{G:α->Prop}{ag:Bool}{k:Nat}{cs:List Lf}{d:D}{n:Nat}(hcs:cs≠[])
  (hd:∀ds m,m<=n->kv cs ds m->∃x,(bif ag then D.agg ds else ds.getD 0 .any)=q x/\G x) (h:fit (.sl ag k cs) d n):
  ∃xs:List α,d=.sl k (xs.map q)/\xs.length+1<=n/\∀x∈xs,G x:=by
 simp only[fit]at h;obtain⟨es,rfl,ns,hl,hs,he⟩:=h;have hone:∀i,i<ns.length->1<=ns.getD i 0:=fun i hi=>by
  obtain⟨ds,_,h2⟩:=he i ae
  match cs,hcs with
  |c::r,_=>
  simp only[kv]at h2;obtain⟨d,ds',n1,n2,_,h3,h4,_⟩:=h2;have:=Q3 h4;omega
 have hlen:=I4 ns hone;have key:∀i,i<es.length->∃x,es.getD i .any=q x/\G x:=fun i hi=>by
  grind [I3]
 have conv:∀es:List D,(∀i,i<es.length->∃x,es.getD i .any=q x/\G x)->∃xs:List α,es=xs.map q/\∀x∈xs,G x:=by
  intro es;induction es with
  |nil=>exact fun _=>⟨[],rfl,fun x hx=>by cases hx⟩
  |cons e r ih=>
   intro h;obtain⟨x,h1,h2⟩:=h 0 aQ;obtain⟨xs,h3,h4⟩:=ih fun i hi=>by simpa using h (i+1) (by simpa using hi)
   simp only[lX]at h1;refine⟨x::xs,by rw[h3,h1];rfl,fun y hy=>?_⟩;rcases bZ.1 hy with rfl|hy
   .exact h2
   .exact h4 y hy
 obtain⟨xs,rfl,hx⟩:=conv es key
 refine⟨xs,rfl, ?_,hx⟩;simp only[cb]at hl;omega
def DU {k:IntKind}{d:D}{n:Nat}(h:fit (.sl false 1 [.int k]) d n):∃xs:List Int,d=.sl 1 (xs.map (D.int k))/\xs.length+1<=n/\∀x∈xs,True:=
 VF (q:=D.int k) (G:=fun _=>True) aQ (fun ds m hm h=>by
  simp only[kv,fit]at h;obtain⟨d,ds',n1,n2,rfl,_,⟨⟨x,rfl,_⟩,_⟩,rfl⟩:=h;exact⟨x,rfl,trivial⟩) h
def It {c:Lf}{d:D}{n:Nat}(h:FV (false,[c]) d n):fit c d n:=by
 obtain⟨ds,h,rfl⟩:=h
 grind [kv,NX]
section
open Go.RowKit Go.ChangeShapes Go.WideShapes
def ctxp {t:List (Nat×pM)}{n:Nat}{ds:List D}{d:D}(hD:Xx (lk t n nt).rel)(h:(lk t n nt).rel ds d):(zU t).pre n ds/\(zU t).val n ds=d:=⟨⟨d,h⟩,hD _ _ _ (oy ⟨d,h⟩) h⟩
section
variable {H:Type} {enc:TypeId×Value->H} {P:Program} {ν:List (Nat×Nat)}
def Gz [dt]{cJ:List Nat}{Y:Ctx}(hok:Ok P ν cJ Y){fid n k base:Nat}{f:Func}{s:ChangeSpec}{tb:TypeId}{shs:List (Bool×List Lf)}{r:Reach}
  {W:World} {args:Array Value} {ds gs:List (DataW H)} {before:List MemPlace}
  (hf:P.funcs[fid]? =some f) (hnm:(f.name== "runtime.NumGoroutine")=false) (hbody:f.body.isSome=true) (hn:eI ν fid=some n)
  (hl:laidOutB P=true) (hts:(f.params.toList.all fun t=>P.readableRec t&&decide (t<P.types.size))=true)
  (hsh:oE P k f.params.toList=some shs) (hres:f.resultTypes=#[tb]) (htb:P.underlying tb=some .bool)
  (hvars:s.vars=[]) (hfn:∀xs:List (DataW H),xs.length=f.params.toList.length->s.fn H xs={results:=[.lit (.bool true)],args:=xs})
  (hgd:dt.gd (wH W)) (hpre:∀es,wM shs es (QU ds)->(∀i,i<es.length->∃v,RD ν (wH W) v (es.getD i .any))->Y.pre n es/\Y.val n es=.bool true)
  (hargs:∀(j:Nat) t v,f.params[j]? =some t->args[j]? =some v->Value.okWide P W r base t v)
  (hW:DataW.Whole enc P f.params.toList s.vars false W args.toList ds gs before):
  Calls P fid args W fun e W'=>∃v,e=.returned v/\s.post enc P f false true false false W args v W':=by
 have hW':=hW;obtain⟨p,q,hA,hV,rfl,hz,hnd⟩:=hW;rw[hvars]at hV;obtain⟨rfl,rfl⟩:=trodVars_none hV;obtain⟨es,h1,h2,h3,h4,h5⟩:=HH (ν:=ν) f.params.toList shs args.toList ds p hsh (fun j t v e1 e2=>hargs j t v (by simpa using e1) (by simpa using e2)) hA;have hsz:args.size=es.length:=by simpa using h2.symm
 obtain⟨hp1,hp2⟩:=hpre es h1 fun i hi=>⟨_,h5 i hi⟩
 have hd:=hok.pure fid n hn (wH W) args es hsz (fun i hi=>by
  have:=h5 i hi;have e:args.toList.getD i undef=args.getD i undef:=by
   have hi':i<args.size:=ae;simp[List.getD,Array.getD,hi']
  rwa [e]at this) h4 (fun b hb=>hb) hgd hp1
 rw[jZ hf hnm hbody args]at hd;rcases hd with⟨v,x',hd|hd,_⟩|⟨f',args',hd,hc⟩
 .cases hd
 .cases hd.1
 .cases hd;refine Calls.mono hc fun e W' he=>?_
  match e,he with
  | .returned v,he=>
   obtain⟨x',rfl,hp,hr⟩:=he;rw[hp2]at hr;obtain rfl:v=.bool true:=by cases hr;rfl
   have hb:Below W.heap.size W x'.w:=hp.grow.below;have hlt:=hW'.lt;have e1:s.fn H (ds++[])={results:=[.lit (.bool true)],args:=ds}:=by rw[jy];exact hfn ds h3
   refine⟨_,rfl,Ae (pa:=p) (pv:=[]) hW' (fun b sp hd=>?_) (fun sp hsp=>?_) (fun sp hsp=>?_) rfl hb (ok_one hres rfl (okWide_bool_mk htb _))⟩
   .rw[e1,hres];exact trodAll_mk1 (shut_bool htb _)
   .rw[e1];exact r6 hl hb _ _ _ _ hts (fun x hx=>by simpa using hlt x (by simpa using hx)) (fun x hx=>hsp x (by simpa using hx)) hA
   .rw[e1,hvars];rfl
end
end
section
open Go.RowKit Go.ChangeShapes Go.WideShapes
end
end Go.Abs
section
namespace Go.Proofs.YtgnjlompgjhaaaaGreatDoor
open Go.Abs Go.ChangeShapes Go.WideShapes Go.ChangeAt Go.RowKit Go.Proofs
def own:ownKnob Tryz.prog.godebug=none:=by kernel_rfl
def On:laidOutB Tryz.prog=true:=by kernel_rfl
def tH {P:Program}{W:World}{y:String×DataW Unit}{l:List (String×DataW Unit)}(h:laidMet P (y::l) W):laidMet P l W:=by
 obtain⟨ps,⟨g,t,cs,fuel,p,q,_,_,_,_,h1,rfl⟩,h2,h3⟩:=h;refine⟨q,h1,(List.nodup_append.1 h2).2.1,fun b off hm=>h3 b off (by simp[hm])⟩
def Ii {W:World}{b:Nat}{o:Nat}{v:Value}(h:W.cell? ⟨b,o,none⟩=some v):b<W.heap.size:=by
 unfold World.cell? at h;split at h
 .rename_i h2;exact(Array.getElem?_eq_some_iff.mp h2).1
 .cases h
def YZ {W:World}(hL:laidMetH Tryz.prog Rows.indexGrowsRow.laid W)(hsh:W.ShapedOpen Tryz.prog):dt.gd (wH W):=by
 have hL':laidMet Tryz.prog Rows.indexGrowsRow.laid W:=hL;have htab:Lib.TabIs Tryz.prog W "internal/strconv.uint64pow10" .u64 Lib.pow10Tab:=
  Lib.tabIs_of_head (g:=3) (t:=275) (e:=52) (n:=20) (by kernel_rfl) (by kernel_rfl) (by kernel_rfl) (by kernel_rfl) (by kernel_rfl) (by kernel_rfl) (tH (tH hL'))
 obtain⟨m,hm⟩:∃m,W.cell? ⟨0,0,none⟩=some (.int .i64 m):=Go.Proofs.cell_of_shapedOpen_int (zero:=#[.int .i64 0]) (t:=3) hsh (of_decide_eq_true (by kernel_rfl)) (by kernel_rfl) rfl (by kernel_rfl) (by kernel_rfl) Tryz.underlying3
 have h3:=htab.cell vV 0 (by decide);exact⟨⟨Ii hm,m,hm⟩,Ii h3,htab⟩
mutual
def Ds {H:Type}:DataW H->List Value
 | .lit (.int k n)=>[.int k n]
 | .agg ps=>NI ps
 |_=>[]
def NI {H:Type}:List (DataW H)->List Value
 |[]=>[]
 |d::r=>Ds d++NI r
end
def put (d:DataW Unit):Obj->Obj
 | .cells _ t frozen=>.cells (Ds d).toArray t frozen
 |o=>o
noncomputable def uK (os:Os):World:=
 {World.holding Tryz.prog os ⟨#[],#[],[]⟩with heap:=(((((World.holding Tryz.prog os ⟨#[],#[],[]⟩).heap.modify 1 (put Rows.laid_unicode_utf8_first)).modify 2 (put Rows.laid_unicode_utf8_acceptRanges)).modify 3 (put Rows.laid_internal_strconv_uint64pow10)).modify 4 (put Rows.laid_math_bits_deBruijn32tab)).modify 5 (put Rows.laid_math_bits_deBruijn64tab)}
end Go.Proofs.YtgnjlompgjhaaaaGreatDoor
end
section
namespace Go.Proofs.YtgnjlompgjhaaaaGreatDoor
open Go.Abs Go.ChangeShapes Go.WideShapes Go.ChangeAt Go.RowKit Go.Proofs
def jl:Array Value:=#[.slice none 0 0,.slice none 0 0]
def rH (os:Os):laidMet Tryz.prog Rows.indexGrowsRow.laid ((uK os).forCall (fun _ _=>0) ⟨#[],jl,[]⟩).memory:=
 laidMet_of_run' 8 (by kernel_rfl) (by kernel_rfl)
def tV:oE Tryz.prog 20 Tryz.f8.params.toList=some [(false,[.sl false 1 [.int .i64]]),(false,[.sl false 1 [.int .i64]])]:=by kernel_rfl
def zb {W:World}{es:List D}{n:Nat}(h:wM [(false,[.sl false 1 [.int .i64]]),(false,[.sl false 1 [.int .i64]])] es n)(hr:∀i,i<es.length->∃v,RD wC (wH W) v (es.getD i .any)):(zU aX).pre 1200 es/\(zU aX).val 1200 es=.bool true:=by
 obtain⟨d1,_,n1,m1,rfl,a1,h1,d2,_,n2,m2,rfl,a2,h2,rfl⟩:=h;obtain⟨v1,rfl,k1⟩:=DU (It h1);obtain⟨v2,rfl,k2⟩:=DU (It h2);exact ctxp Xw fun T h=>h v1 v2
def vc (os:Os){H:Type}(enc:TypeId×Value->H):∃places,DataW.whole enc Tryz.prog ((uK os).forCall (fun _ _=>0) ⟨#[],jl,[]⟩).memory Tryz.f8.params.toList Rows.indexGrowsSpec.vars false jl.toList 8=
  some ([.nil,.nil],[],places):=
 ⟨[],by kernel_rfl⟩
set_option maxRecDepth 100000 in
theorem tI (os:Os)(started:os.Started)(H:Type)(enc:TypeId×Value->H)(F:Stop.Interp):
  ReturnsInHanded {} Tryz.checked os 8 .any ((OpenSpec.ofChange Rows.indexGrowsSpec).preRow enc Tryz.prog Tryz.f8 Rows.indexGrowsRow.domain false Rows.indexGrowsRow.laid) (((OpenSpec.ofChange Rows.indexGrowsSpec).at F).post enc Tryz.prog Tryz.f8 false true false false):=by
 obtain⟨places,hx⟩:=vc os enc;refine returnsInHanded_of_row (C:=Tryz.checked) (s:=OpenSpec.ofChange Rows.indexGrowsSpec) own started (by kernel_rfl) Tryz.func8
  (witness_row_at (enc:=enc) (C:=Tryz.checked) false (uK os) jl rfl (by kernel_rfl) (by kernel_rfl) (by kernel_rfl)
    (OpenSpec.preRow_of_cond 8 hx (by kernel_rfl) (fun k hk=>by cases hk) (by kernel_rfl) (rH os))) ?_
 intro W base args ds gs before nS hW _ _ _ hL hsh _;refine Gz (n:=1200) (k:=20) (s:=(OpenSpec.ofChange Rows.indexGrowsSpec).at F) (tb:=4) okY Tryz.func8 (by kernel_rfl) (by kernel_rfl) (by kernel_rfl) On (by kernel_rfl) tV (by kernel_rfl) (by kernel_rfl) rfl (fun xs hx=>?_) (YZ hL hsh)
  (fun es he hr=>zb he hr) nS hW
 match xs,hx with
 |[a,b],_=>rfl
def z6:Tryz.prog.inPlace 8=Rows.indexGrowsRow.inPlace:=by kernel_rfl
def z7:Tryz.prog.unfollowed 8=Rows.indexGrowsRow.unfollowed:=by kernel_rfl
def z8:Tryz.prog.recurses 8=Rows.indexGrowsRow.recurses:=by kernel_rfl
def Aa:Tryz.prog.varsNamed 8=Rows.indexGrowsRow.named:=by kernel_rfl
def tm:joinedFacts Tryz.prog 8 Tryz.f8 (OpenSpec.ofChange Rows.indexGrowsSpec).bare Rows.indexGrowsRow=true:=by
 unfold joinedFacts;rw[z6,z7,z8,Aa]
 kernel_rfl
def wE:Rows.IndexGrowsSaid:=
 OpenClaim.holds_of_cond 8 Tryz.f8 rfl rfl rfl rfl rfl rfl rfl ⟨rfl,rfl,rfl,rfl,rfl⟩ rfl rfl rfl rfl rfl (by kernel_rfl) Tryz.func8 tm
  (of_decide_eq_true (by kernel_rfl)) (by unfold Func.isWrapper;first|(rw[if_pos (by decide+kernel)];kernel_rfl)|(rw[if_neg (by decide+kernel)];exact⟨rfl,rfl⟩))
  (fun os started H enc _ F=>by rw[OpenClaim.pre_eq_preRow];exact tI os started H enc F)
def uW (f:FuncId)(fn:Func)(hf:Tryz.pinned.checked.prog.funcNamed "linchpin/linchpinlaw14.IndexGrows" =some f)(hfn:Tryz.pinned.checked.prog.funcs[f]? =some fn):
  false=Tryz.pinned.checked.prog.looks []/\∀(j:Nat) t,fn.params[j]? =some t->Tryz.pinned.checked.prog.wantsStandIn t=false:=by
 obtain rfl:f=8:=Option.some.inj ((show Tryz.prog.funcNamed "linchpin/linchpinlaw14.IndexGrows" =some 8 by kernel_rfl).symm.trans hf) |>.symm
 obtain rfl:fn=Tryz.f8:=(Option.some.inj (Tryz.func8.symm.trans hfn)).symm;refine⟨by kernel_rfl,fun j t ht=>?_⟩;have hall:(Tryz.f8.params.toList.all fun t=>!Tryz.prog.wantsStandIn t)=true:=by kernel_rfl
 have:=List.all_eq_true.1 hall t (by simpa using Array.mem_of_getElem? ht);show Tryz.prog.wantsStandIn t=false;simpa using this
theorem card_indexGrows:Rows.IndexGrowsCardSaid:=
 Claim7.holds_tied_plain_at .later [] _ _ _ _ wE (fun _ h=>by cases h) (by kernel_rfl) (fun _ h=>by cases h) indexGrows_row_tie rfl ⟨rfl,rfl⟩ (by kernel_rfl) rfl uW (by kernel_rfl)
end Go.Proofs.YtgnjlompgjhaaaaGreatDoor
end
#print axioms Go.Proofs.YtgnjlompgjhaaaaGreatDoor.card_indexGrows
