/- A part of the proofs of the statements: SHELF, LLib, LLibR, RBld, RBldS, NG, N2a, N2b, N2c, N2d, N2e, N2f, N3, LEnd, LRead, LClose, LFit, LFitR, NL. -/
import Derived.Carry
import Derived.ChangeArms
import Derived.ChangeSame
import Derived.Deep.DeepHandedRow
import Derived.Ground.Names2Prog
import Derived.Lib.CountLaws
import Derived.Lib.IndexMore
import Derived.Lib.ItoaNum
import Derived.Lib.Join
import Derived.Lib.LaidTab
import Derived.Lib.Split
import Derived.Lib.SplitLaws
import Derived.Lib.Strings
import Derived.Lib.TrimByte
import Derived.OpenShut
import Derived.RowKit
import Derived.Shelf.LaysM
import Derived.Shelf.Slices.Clone
import Derived.Shelf.Small.Strs
import Derived.Shelf.Small.Utf8
import Derived.Shelf.Small.Wraps
import Derived.Shelf.Strconv.Itoa0
import Derived.Shelf.Strconv.Itoa1
import Derived.Shelf.Strconv.Itoa2
import Derived.Shelf.Strconv.Itoa3
import Derived.Shelf.Strings.AsciiSet
import Derived.Shelf.Strings.Builder1
import Derived.Shelf.Strings.Builder2
import Derived.Shelf.Strings.Count
import Derived.Shelf.Strings.Cut
import Derived.Shelf.Strings.OnBuilder
import Derived.Shelf.Strings.Prefix
import Derived.Shelf.Strings.Runes
import Derived.Shelf.Strings.Search1
import Derived.Shelf.Strings.Search2
import Derived.Shelf.Strings.Search3
import Derived.Shelf.Strings.Shaped
import Derived.Shelf.Strings.Split
import Derived.Shelf.Strings.SplitShaped
import Derived.Shelf.Strings.Trim
import Derived.Shelf.Unicode.DecodeSlow
import Derived.Test.YtpdlhpamcaocgaaGreatDoorCards
import Derived.Test.YtpdlhpamcaocgaaGreatDoorProg
import Derived.Test.YtpdlhpamcaocgaaGreatDoorTie
import Derived.WideKeyArgs
import Derived.WideShapes
import Derived.Test.YtpdlhpamcaocgaaGreatDoorP09
set_option linter.all false
set_option maxRecDepth 4000
section
namespace Go.Proofs
open Go.Shelf
def Tryz.lays156_ren:Go.Shelf.Ren:=⟨fun|156=>95|165=>134|166=>131|169=>96|240=>164|241=>166|276=>197|277=>199|n=>n,fun|31=>55|9=>9|3=>3|4=>4|0=>0|20=>20|72=>133|76=>173|70=>131|37=>53|75=>172|127=>177|164=>215|5=>5|80=>99|n=>n,fun|n=>n⟩
def Tryz.lays156:Go.Proofs.Lays.n156 Tryz.prog Tryz.lays156_ren:={
 mixed:=by kernel_rfl
 f156:=Tryz.func95.trans (congrArg some (by kernel_rfl))
 f165:=Tryz.func134.trans (congrArg some (by kernel_rfl))
 f166:=Tryz.func131.trans (congrArg some (by kernel_rfl))
 f169:=Tryz.func96.trans (congrArg some (by kernel_rfl))
 f240:=Tryz.func164.trans (congrArg some (by kernel_rfl))
 f241:=Tryz.func166.trans (congrArg some (by kernel_rfl))
 f276:=Tryz.func197.trans (congrArg some (by kernel_rfl))
 f277:=Tryz.func199.trans (congrArg some (by kernel_rfl))
 t0:=Tryz.underlying0
 a0:=Tryz.isAgg0
 z0:=Tryz.sizeOf0
 v0:=Tryz.zeroValue0
 t3:=Tryz.underlying3
 a3:=Tryz.isAgg3
 z3:=Tryz.sizeOf3
 v3:=Tryz.zeroValue3
 t4:=Tryz.underlying4
 a4:=Tryz.isAgg4
 z4:=Tryz.sizeOf4
 v4:=Tryz.zeroValue4
 t9:=Tryz.underlying9
 a9:=Tryz.isAgg9
 z9:=Tryz.sizeOf9
 v9:=Tryz.zeroValue9
 t20:=Tryz.underlying20
 a20:=Tryz.isAgg20
 z20:=Tryz.sizeOf20
 v20:=Tryz.zeroValue20
 t31:=Tryz.underlying55
 a31:=Tryz.isAgg55
 z31:=Tryz.sizeOf55
 v31:=Tryz.zeroValue55
 t37:=Tryz.underlying53
 a37:=Tryz.isAgg53
 z37:=Tryz.sizeOf53
 v37:=Tryz.zeroValue53
 t70:=Tryz.underlying131
 a70:=Tryz.isAgg131
 z70:=Tryz.sizeOf131
 v70:=Tryz.zeroValue131
 t72:=Tryz.underlying133
 a72:=Tryz.isAgg133
 z72:=Tryz.sizeOf133
 v72:=Tryz.zeroValue133
 t75:=Tryz.underlying172
 a75:=Tryz.isAgg172
 z75:=Tryz.sizeOf172
 v75:=Tryz.zeroValue172
 t76:=Tryz.underlying173
 a76:=Tryz.isAgg173
 z76:=Tryz.sizeOf173
 v76:=Tryz.zeroValue173
 t127:=Tryz.underlying177
 a127:=Tryz.isAgg177
 z127:=Tryz.sizeOf177
 v127:=Tryz.zeroValue177
 t164:=Tryz.underlying215
 a164:=Tryz.isAgg215
 z164:=Tryz.sizeOf215
 v164:=Tryz.zeroValue215}
def Tryz.Builder_Extra_156:Builder.Extra Tryz.prog Tryz.lays156_ren:={
 sizeBuilder:=by kernel_rfl
 liesBuilder:=by kernel_rfl
 t5:=Tryz.underlying5
 a5:=Tryz.isAgg5
 z5:=Tryz.sizeOf5
 v5:=Tryz.zeroValue5
 infoByte:=by kernel_rfl
 cellsByte:=by kernel_rfl
 sizeByte:=by kernel_rfl
 neB5:=by decide}
open Go.RowKit in
theorem Tryz.strings_Join_none (a:Option Addr)(c:Nat)(sep:ByteArray)(w:World):
  Calls Tryz.prog 95 #[.slice a 0 c,.string sep] w fun e w'=>e=.returned (.string ⟨#[]⟩)∧w'=w:=Any.strings_Join_none Tryz.lays156 Tryz.Builder_Extra_156 a c sep w
open Go.RowKit in
theorem Tryz.strings_Join (bk o c:Nat)(xs:List ByteArray)(sep:ByteArray)(w:World)(hcells:∀(j:Nat) x,xs[j]? =some x→w.cell? ⟨bk,o+j,none⟩=some (.string x))(hbk:bk<w.heap.size)(hN:xs.length≤140737488355328)(hcap:xs.length≤c)(hlen:(Lib.join (xs.map (·.data.toList)) sep.data.toList).length≤140737488355328):
  Calls Tryz.prog 95 #[.slice (some ⟨bk,o,none⟩) xs.length c,.string sep] w fun e w'=>e=.returned (.string ⟨(Lib.join (xs.map (·.data.toList)) sep.data.toList).toArray⟩)∧Below w.heap.size w w':=Any.strings_Join Tryz.lays156 Tryz.Builder_Extra_156 bk o c xs sep w hcells hbk hN hcap hlen
def Tryz.lays160_ren:Go.Shelf.Ren:=⟨fun|160=>155|232=>182|231=>181|227=>183|234=>185|233=>184|236=>187|235=>186|228=>214|271=>216|151=>215|197=>147|120=>228|152=>227|260=>174|137=>238|119=>239|224=>177|225=>176|217=>175|266=>210|n=>n,fun|9=>9|4=>4|3=>3|5=>5|117=>205|116=>204|0=>0|124=>208|21=>21|105=>181|46=>89|119=>222|139=>225|138=>224|n=>n,fun|3=>1|4=>2|n=>n⟩
def Tryz.lays160:Go.Proofs.Lays.n160 Tryz.prog Tryz.lays160_ren:={
 mixed:=by kernel_rfl
 f119:=Tryz.func239.trans (congrArg some (by kernel_rfl))
 f120:=Tryz.func228.trans (congrArg some (by kernel_rfl))
 f137:=Tryz.func238.trans (congrArg some (by kernel_rfl))
 f151:=Tryz.func215.trans (congrArg some (by kernel_rfl))
 f152:=Tryz.func227.trans (congrArg some (by kernel_rfl))
 f160:=Tryz.func155.trans (congrArg some (by kernel_rfl))
 f197:=Tryz.func147.trans (congrArg some (by kernel_rfl))
 f217:=Tryz.func175.trans (congrArg some (by kernel_rfl))
 f224:=Tryz.func177.trans (congrArg some (by kernel_rfl))
 f225:=Tryz.func176.trans (congrArg some (by kernel_rfl))
 f227:=Tryz.func183.trans (congrArg some (by kernel_rfl))
 f228:=Tryz.func214.trans (congrArg some (by kernel_rfl))
 f231:=Tryz.func181.trans (congrArg some (by kernel_rfl))
 f232:=Tryz.func182.trans (congrArg some (by kernel_rfl))
 f233:=Tryz.func184.trans (congrArg some (by kernel_rfl))
 f234:=Tryz.func185.trans (congrArg some (by kernel_rfl))
 f235:=Tryz.func186.trans (congrArg some (by kernel_rfl))
 f236:=Tryz.func187.trans (congrArg some (by kernel_rfl))
 f260:=Tryz.func174.trans (congrArg some (by kernel_rfl))
 f266:=Tryz.func210.trans (congrArg some (by kernel_rfl))
 f271:=Tryz.func216.trans (congrArg some (by kernel_rfl))
 t0:=Tryz.underlying0
 a0:=Tryz.isAgg0
 z0:=Tryz.sizeOf0
 v0:=Tryz.zeroValue0
 t3:=Tryz.underlying3
 a3:=Tryz.isAgg3
 z3:=Tryz.sizeOf3
 v3:=Tryz.zeroValue3
 t4:=Tryz.underlying4
 a4:=Tryz.isAgg4
 z4:=Tryz.sizeOf4
 v4:=Tryz.zeroValue4
 t5:=Tryz.underlying5
 a5:=Tryz.isAgg5
 z5:=Tryz.sizeOf5
 v5:=Tryz.zeroValue5
 t9:=Tryz.underlying9
 a9:=Tryz.isAgg9
 z9:=Tryz.sizeOf9
 v9:=Tryz.zeroValue9
 t21:=Tryz.underlying21
 a21:=Tryz.isAgg21
 z21:=Tryz.sizeOf21
 v21:=Tryz.zeroValue21
 t46:=Tryz.underlying89
 a46:=Tryz.isAgg89
 z46:=Tryz.sizeOf89
 v46:=Tryz.zeroValue89
 t105:=Tryz.underlying181
 a105:=Tryz.isAgg181
 z105:=Tryz.sizeOf181
 v105:=Tryz.zeroValue181
 t116:=Tryz.underlying204
 a116:=Tryz.isAgg204
 z116:=Tryz.sizeOf204
 t117:=Tryz.underlying205
 a117:=Tryz.isAgg205
 z117:=Tryz.sizeOf205
 v117:=Tryz.zeroValue205
 t119:=Tryz.underlying222
 a119:=Tryz.isAgg222
 z119:=Tryz.sizeOf222
 t124:=Tryz.underlying208
 a124:=Tryz.isAgg208
 z124:=Tryz.sizeOf208
 v124:=Tryz.zeroValue208
 t138:=Tryz.underlying224
 a138:=Tryz.isAgg224
 z138:=Tryz.sizeOf224
 v138:=Tryz.zeroValue224
 t139:=Tryz.underlying225
 a139:=Tryz.isAgg225
 z139:=Tryz.sizeOf225
 v139:=Tryz.zeroValue225
 g3:=by kernel_rfl
 g4:=by kernel_rfl}
open Go.RowKit in
theorem Tryz.strings_Trim_one (s:ByteArray)(c:UInt8)(hc:c.toNat<128)(w:World)(hs:s.size≤9223372036854775807):
  Calls Tryz.prog 155 #[.string s,.string ⟨#[c]⟩] w fun e w'=>e=.returned (.string ⟨(Lib.trimB s.data.toList c).toArray⟩)∧(w'=w∨w'=w.drew):=Any.strings_Trim_one Tryz.lays160 s c hc w hs
def Tryz.lays103_ren:Go.Shelf.Ren:=⟨fun|103=>128|210=>162|206=>196|n=>n,fun|9=>9|4=>4|24=>166|3=>3|n=>n,fun|n=>n⟩
def Tryz.lays103:Go.Proofs.Lays.n103 Tryz.prog Tryz.lays103_ren:={
 mixed:=by kernel_rfl
 f103:=Tryz.func128.trans (congrArg some (by kernel_rfl))
 f206:=Tryz.func196.trans (congrArg some (by kernel_rfl))
 f210:=Tryz.func162.trans (congrArg some (by kernel_rfl))
 t3:=Tryz.underlying3
 a3:=Tryz.isAgg3
 z3:=Tryz.sizeOf3
 v3:=Tryz.zeroValue3
 t4:=Tryz.underlying4
 a4:=Tryz.isAgg4
 z4:=Tryz.sizeOf4
 v4:=Tryz.zeroValue4
 t9:=Tryz.underlying9
 a9:=Tryz.isAgg9
 z9:=Tryz.sizeOf9
 v9:=Tryz.zeroValue9
 t24:=Tryz.underlying166
 a24:=Tryz.isAgg166
 z24:=Tryz.sizeOf166
 v24:=Tryz.zeroValue166}
open Go.RowKit in
theorem Tryz.strings_CutPrefix (s p:ByteArray)(w:World):
  Calls Tryz.prog 128 #[.string s,.string p] w fun e w'=>e=.returned (.tuple #[.string ⟨(Lib.trimPrefix s.data.toList p.data.toList).toArray⟩,.bool (Lib.hasPrefix s.data.toList p.data.toList)])∧w'=w:=Any.strings_CutPrefix Tryz.lays103 s p w
def Tryz.laysM171_ren:Go.Shelf.Ren:=⟨fun|171=>165|243=>198|246=>218|283=>229|284=>230|285=>231|286=>232|129=>241|317=>240|318=>242|319=>243|320=>244|337=>246|338=>247|n=>n,fun|3=>3|9=>9|2=>2|4=>4|171=>235|0=>0|53=>49|37=>53|5=>5|173=>238|212=>244|51=>226|20=>20|213=>245|46=>89|232=>248|233=>249|n=>n,fun|17=>3|18=>4|19=>5|n=>n⟩
def Tryz.laysM171:Go.Proofs.LaysM.n171 Tryz.prog Tryz.laysM171_ren:={
 mixed:=by kernel_rfl
 f129:=Tryz.func241.trans (congrArg some (by kernel_rfl))
 f171:=Tryz.func165.trans (congrArg some (by kernel_rfl))
 f243:=Tryz.func198.trans (congrArg some (by kernel_rfl))
 f246:=Tryz.func218.trans (congrArg some (by kernel_rfl))
 f283:=Tryz.func229.trans (congrArg some (by kernel_rfl))
 f284:=Tryz.func230.trans (congrArg some (by kernel_rfl))
 f285:=Tryz.func231.trans (congrArg some (by kernel_rfl))
 f286:=Tryz.func232.trans (congrArg some (by kernel_rfl))
 f317:=Tryz.func240.trans (congrArg some (by kernel_rfl))
 f318:=Tryz.func242.trans (congrArg some (by kernel_rfl))
 f319:=Tryz.func243.trans (congrArg some (by kernel_rfl))
 f320:=Tryz.func244.trans (congrArg some (by kernel_rfl))
 f337:=Tryz.func246.trans (congrArg some (by kernel_rfl))
 f338:=Tryz.func247.trans (congrArg some (by kernel_rfl))
 t0:=Tryz.underlying0
 a0:=Tryz.isAgg0
 z0:=Tryz.sizeOf0
 v0:=Tryz.zeroValue0
 t2:=Tryz.underlying2
 a2:=Tryz.isAgg2
 z2:=Tryz.sizeOf2
 v2:=Tryz.zeroValue2
 t3:=Tryz.underlying3
 a3:=Tryz.isAgg3
 z3:=Tryz.sizeOf3
 v3:=Tryz.zeroValue3
 t4:=Tryz.underlying4
 a4:=Tryz.isAgg4
 z4:=Tryz.sizeOf4
 v4:=Tryz.zeroValue4
 t5:=Tryz.underlying5
 a5:=Tryz.isAgg5
 z5:=Tryz.sizeOf5
 v5:=Tryz.zeroValue5
 t9:=Tryz.underlying9
 a9:=Tryz.isAgg9
 z9:=Tryz.sizeOf9
 v9:=Tryz.zeroValue9
 t20:=Tryz.underlying20
 a20:=Tryz.isAgg20
 z20:=Tryz.sizeOf20
 v20:=Tryz.zeroValue20
 t37:=Tryz.underlying53
 a37:=Tryz.isAgg53
 z37:=Tryz.sizeOf53
 v37:=Tryz.zeroValue53
 t46:=Tryz.underlying89
 a46:=Tryz.isAgg89
 z46:=Tryz.sizeOf89
 v46:=Tryz.zeroValue89
 t51:=Tryz.underlying226
 a51:=Tryz.isAgg226
 z51:=Tryz.sizeOf226
 v51:=Tryz.zeroValue226
 t53:=Tryz.underlying49
 a53:=Tryz.isAgg49
 z53:=Tryz.sizeOf49
 v53:=Tryz.zeroValue49
 t171:=Tryz.underlying235
 a171:=Tryz.isAgg235
 z171:=Tryz.sizeOf235
 v171:=Tryz.zeroValue235
 t173:=Tryz.underlying238
 a173:=Tryz.isAgg238
 z173:=Tryz.sizeOf238
 v173:=Tryz.zeroValue238
 t212:=Tryz.underlying244
 a212:=Tryz.isAgg244
 z212:=Tryz.sizeOf244
 v212:=Tryz.zeroValue244
 t213:=Tryz.underlying245
 a213:=Tryz.isAgg245
 z213:=Tryz.sizeOf245
 t232:=Tryz.underlying248
 a232:=Tryz.isAgg248
 z232:=Tryz.sizeOf248
 v232:=Tryz.zeroValue248
 t233:=Tryz.underlying249
 a233:=Tryz.isAgg249
 z233:=Tryz.sizeOf249
 v233:=Tryz.zeroValue249
 g17:=by kernel_rfl
 g18:=by kernel_rfl
 g19:=by kernel_rfl
 i0:=by kernel_rfl
 i2:=by kernel_rfl
 i3:=by kernel_rfl
 i4:=by kernel_rfl
 i5:=by kernel_rfl
 i9:=by kernel_rfl
 i20:=by kernel_rfl
 i37:=by kernel_rfl
 i46:=by kernel_rfl
 i51:=by kernel_rfl
 i53:=by kernel_rfl
 i171:=by kernel_rfl
 i173:=by kernel_rfl
 i212:=by kernel_rfl
 i232:=by kernel_rfl
 i233:=by kernel_rfl
 m17:=by kernel_rfl
 m18:=by kernel_rfl
 m19:=by kernel_rfl}
open Go.RowKit Go.Sort Go.Lib in
theorem Tryz.strconv_Itoa (n:Int)(h0:-9223372036854775808≤n)(h1:n≤9223372036854775807)(w:World)(htab:Lib.TabIs Tryz.prog w "internal/strconv.uint64pow10" .u64 Lib.pow10Tab):
  Calls Tryz.prog 165 #[.int .i64 n] w fun e w'=>e=.returned (.string ⟨(Lib.itoa n).toArray⟩)∧∃k os,w'=grow (w.drewN k) os:=Any.strconv_Itoa Tryz.laysM171 n h0 h1 w htab
def Tryz.lays145_ren:Go.Shelf.Ren:=⟨fun|145=>129|220=>163|219=>149|217=>175|225=>176|224=>177|267=>178|266=>210|314=>211|n=>n,fun|9=>9|4=>4|59=>168|3=>3|5=>5|46=>89|146=>227|51=>226|n=>n,fun|1=>0|n=>n⟩
def Tryz.lays145:Go.Proofs.Lays.n145 Tryz.prog Tryz.lays145_ren:={
 mixed:=by kernel_rfl
 f145:=Tryz.func129.trans (congrArg some (by kernel_rfl))
 f217:=Tryz.func175.trans (congrArg some (by kernel_rfl))
 f219:=Tryz.func149.trans (congrArg some (by kernel_rfl))
 f220:=Tryz.func163.trans (congrArg some (by kernel_rfl))
 f224:=Tryz.func177.trans (congrArg some (by kernel_rfl))
 f225:=Tryz.func176.trans (congrArg some (by kernel_rfl))
 f266:=Tryz.func210.trans (congrArg some (by kernel_rfl))
 f267:=Tryz.func178.trans (congrArg some (by kernel_rfl))
 f314:=Tryz.func211.trans (congrArg some (by kernel_rfl))
 t3:=Tryz.underlying3
 a3:=Tryz.isAgg3
 z3:=Tryz.sizeOf3
 v3:=Tryz.zeroValue3
 t4:=Tryz.underlying4
 a4:=Tryz.isAgg4
 z4:=Tryz.sizeOf4
 v4:=Tryz.zeroValue4
 t5:=Tryz.underlying5
 a5:=Tryz.isAgg5
 z5:=Tryz.sizeOf5
 v5:=Tryz.zeroValue5
 t9:=Tryz.underlying9
 a9:=Tryz.isAgg9
 z9:=Tryz.sizeOf9
 v9:=Tryz.zeroValue9
 t46:=Tryz.underlying89
 a46:=Tryz.isAgg89
 z46:=Tryz.sizeOf89
 v46:=Tryz.zeroValue89
 t51:=Tryz.underlying226
 a51:=Tryz.isAgg226
 z51:=Tryz.sizeOf226
 v51:=Tryz.zeroValue226
 t59:=Tryz.underlying168
 a59:=Tryz.isAgg168
 z59:=Tryz.sizeOf168
 v59:=Tryz.zeroValue168
 t146:=Tryz.underlying227
 a146:=Tryz.isAgg227
 z146:=Tryz.sizeOf227
 v146:=Tryz.zeroValue227
 g1:=by kernel_rfl}
open Go.RowKit Go.Lib in
theorem Tryz.strings_Cut (s sep:ByteArray)(m:Int)(w:World)(hs:s.size<4294967281)(hm:w.cell? ⟨0,0,none⟩=some (.int .i64 m)):
  Calls Tryz.prog 129 #[.string s,.string sep] w fun e w'=>e=.returned (.tuple #[.string ⟨(Lib.cut s.data.toList sep.data.toList).1.toArray⟩,.string ⟨(Lib.cut s.data.toList sep.data.toList).2.1.toArray⟩,.bool (Lib.cut s.data.toList sep.data.toList).2.2])∧∃n,w'=w.drewN n:=Any.strings_Cut Tryz.lays145 s sep m w hs hm
def Tryz.laysM219_ren:Go.Shelf.Ren:=⟨fun|219=>149|217=>175|225=>176|224=>177|267=>178|266=>210|314=>211|n=>n,fun|9=>9|3=>3|4=>4|5=>5|46=>89|146=>227|51=>226|n=>n,fun|1=>0|n=>n⟩
def Tryz.laysM219:Go.Proofs.LaysM.n219 Tryz.prog Tryz.laysM219_ren:={
 mixed:=by kernel_rfl
 f217:=Tryz.func175.trans (congrArg some (by kernel_rfl))
 f219:=Tryz.func149.trans (congrArg some (by kernel_rfl))
 f224:=Tryz.func177.trans (congrArg some (by kernel_rfl))
 f225:=Tryz.func176.trans (congrArg some (by kernel_rfl))
 f266:=Tryz.func210.trans (congrArg some (by kernel_rfl))
 f267:=Tryz.func178.trans (congrArg some (by kernel_rfl))
 f314:=Tryz.func211.trans (congrArg some (by kernel_rfl))
 t3:=Tryz.underlying3
 a3:=Tryz.isAgg3
 z3:=Tryz.sizeOf3
 v3:=Tryz.zeroValue3
 t4:=Tryz.underlying4
 a4:=Tryz.isAgg4
 z4:=Tryz.sizeOf4
 v4:=Tryz.zeroValue4
 t5:=Tryz.underlying5
 a5:=Tryz.isAgg5
 z5:=Tryz.sizeOf5
 v5:=Tryz.zeroValue5
 t9:=Tryz.underlying9
 a9:=Tryz.isAgg9
 z9:=Tryz.sizeOf9
 v9:=Tryz.zeroValue9
 t46:=Tryz.underlying89
 a46:=Tryz.isAgg89
 z46:=Tryz.sizeOf89
 v46:=Tryz.zeroValue89
 t51:=Tryz.underlying226
 a51:=Tryz.isAgg226
 z51:=Tryz.sizeOf226
 v51:=Tryz.zeroValue226
 t146:=Tryz.underlying227
 a146:=Tryz.isAgg227
 z146:=Tryz.sizeOf227
 v146:=Tryz.zeroValue227
 g1:=by kernel_rfl
 i3:=by kernel_rfl
 i4:=by kernel_rfl
 i5:=by kernel_rfl
 i9:=by kernel_rfl
 i46:=by kernel_rfl
 i51:=by kernel_rfl
 i146:=by kernel_rfl
 m1:=by kernel_rfl
 s1_3:=fun w h=>Go.Proofs.cell_of_shapedOpen_int (zero:=#[.int .i64 0]) (t:=3) h (of_decide_eq_true (by kernel_rfl)) (by kernel_rfl) rfl (by kernel_rfl) (by kernel_rfl) Tryz.underlying3}
def Tryz.lays221_ren:Go.Shelf.Ren:=⟨fun|221=>60|268=>109|138=>110|143=>111|195=>146|197=>147|218=>148|219=>149|260=>174|217=>175|225=>176|224=>177|267=>178|266=>210|314=>211|n=>n,fun|9=>9|3=>3|31=>55|4=>4|0=>0|105=>181|21=>21|5=>5|46=>89|119=>222|139=>225|138=>224|146=>227|51=>226|n=>n,fun|1=>0|3=>1|4=>2|n=>n⟩
def Tryz.lays221:Go.Proofs.Lays.n221 Tryz.prog Tryz.lays221_ren:={
 mixed:=by kernel_rfl
 f138:=Tryz.func110.trans (congrArg some (by kernel_rfl))
 f143:=Tryz.func111.trans (congrArg some (by kernel_rfl))
 f195:=Tryz.func146.trans (congrArg some (by kernel_rfl))
 f197:=Tryz.func147.trans (congrArg some (by kernel_rfl))
 f217:=Tryz.func175.trans (congrArg some (by kernel_rfl))
 f218:=Tryz.func148.trans (congrArg some (by kernel_rfl))
 f219:=Tryz.func149.trans (congrArg some (by kernel_rfl))
 f221:=Tryz.func60.trans (congrArg some (by kernel_rfl))
 f224:=Tryz.func177.trans (congrArg some (by kernel_rfl))
 f225:=Tryz.func176.trans (congrArg some (by kernel_rfl))
 f260:=Tryz.func174.trans (congrArg some (by kernel_rfl))
 f266:=Tryz.func210.trans (congrArg some (by kernel_rfl))
 f267:=Tryz.func178.trans (congrArg some (by kernel_rfl))
 f268:=Tryz.func109.trans (congrArg some (by kernel_rfl))
 f314:=Tryz.func211.trans (congrArg some (by kernel_rfl))
 t0:=Tryz.underlying0
 a0:=Tryz.isAgg0
 z0:=Tryz.sizeOf0
 v0:=Tryz.zeroValue0
 t3:=Tryz.underlying3
 a3:=Tryz.isAgg3
 z3:=Tryz.sizeOf3
 v3:=Tryz.zeroValue3
 t4:=Tryz.underlying4
 a4:=Tryz.isAgg4
 z4:=Tryz.sizeOf4
 v4:=Tryz.zeroValue4
 t5:=Tryz.underlying5
 a5:=Tryz.isAgg5
 z5:=Tryz.sizeOf5
 v5:=Tryz.zeroValue5
 t9:=Tryz.underlying9
 a9:=Tryz.isAgg9
 z9:=Tryz.sizeOf9
 v9:=Tryz.zeroValue9
 t21:=Tryz.underlying21
 a21:=Tryz.isAgg21
 z21:=Tryz.sizeOf21
 v21:=Tryz.zeroValue21
 t31:=Tryz.underlying55
 a31:=Tryz.isAgg55
 z31:=Tryz.sizeOf55
 v31:=Tryz.zeroValue55
 t46:=Tryz.underlying89
 a46:=Tryz.isAgg89
 z46:=Tryz.sizeOf89
 v46:=Tryz.zeroValue89
 t51:=Tryz.underlying226
 a51:=Tryz.isAgg226
 z51:=Tryz.sizeOf226
 v51:=Tryz.zeroValue226
 t105:=Tryz.underlying181
 a105:=Tryz.isAgg181
 z105:=Tryz.sizeOf181
 v105:=Tryz.zeroValue181
 t119:=Tryz.underlying222
 a119:=Tryz.isAgg222
 z119:=Tryz.sizeOf222
 t138:=Tryz.underlying224
 a138:=Tryz.isAgg224
 z138:=Tryz.sizeOf224
 v138:=Tryz.zeroValue224
 t139:=Tryz.underlying225
 a139:=Tryz.isAgg225
 z139:=Tryz.sizeOf225
 v139:=Tryz.zeroValue225
 t146:=Tryz.underlying227
 a146:=Tryz.isAgg227
 z146:=Tryz.sizeOf227
 v146:=Tryz.zeroValue227
 g1:=by kernel_rfl
 g3:=by kernel_rfl
 g4:=by kernel_rfl}
open Go.RowKit Go.Lib in
theorem Tryz.strings_genSplit (s sep:ByteArray)(sv:Nat)(n:Int)(N:Nat)(m:Int)(w:World)(hs:s.size<4294967281)(hm:w.cell? ⟨0,0,none⟩=some (.int .i64 m))(h1:1≤sep.size)(hsv:sv≤sep.size)(hn0:n≠0)(hn63:n≤9223372036854775807)(hN:(N:Int)=min (if n<0 then(Lib.countB s sep:Int)+1 else n) ((s.size:Int)+1)):
  Calls Tryz.prog 60 #[.string s,.string sep,.int .i64 sv,.int .i64 n] w fun e w'=>
   e=.returned (.slice (some ⟨w.heap.size,0,none⟩) (Lib.splitB sep sv (N-1) s).length N)∧w'=w.alloc (.cells (Lib.cellsOf (Lib.splitB sep sv (N-1) s) N) 9):=Any.strings_genSplit Tryz.lays221 (by kernel_rfl) s sep sv n N m w hs hm h1 hsv hn0 hn63 hN
def Tryz.lays146_ren:Go.Shelf.Ren:=⟨fun|146=>28|221=>60|268=>109|138=>110|143=>111|195=>146|197=>147|218=>148|219=>149|260=>174|217=>175|225=>176|224=>177|267=>178|266=>210|314=>211|n=>n,fun|9=>9|31=>55|3=>3|4=>4|0=>0|105=>181|21=>21|5=>5|46=>89|119=>222|139=>225|138=>224|146=>227|51=>226|n=>n,fun|1=>0|3=>1|4=>2|n=>n⟩
def Tryz.lays146:Go.Proofs.Lays.n146 Tryz.prog Tryz.lays146_ren:={
 mixed:=by kernel_rfl
 f138:=Tryz.func110.trans (congrArg some (by kernel_rfl))
 f143:=Tryz.func111.trans (congrArg some (by kernel_rfl))
 f146:=Tryz.func28.trans (congrArg some (by kernel_rfl))
 f195:=Tryz.func146.trans (congrArg some (by kernel_rfl))
 f197:=Tryz.func147.trans (congrArg some (by kernel_rfl))
 f217:=Tryz.func175.trans (congrArg some (by kernel_rfl))
 f218:=Tryz.func148.trans (congrArg some (by kernel_rfl))
 f219:=Tryz.func149.trans (congrArg some (by kernel_rfl))
 f221:=Tryz.func60.trans (congrArg some (by kernel_rfl))
 f224:=Tryz.func177.trans (congrArg some (by kernel_rfl))
 f225:=Tryz.func176.trans (congrArg some (by kernel_rfl))
 f260:=Tryz.func174.trans (congrArg some (by kernel_rfl))
 f266:=Tryz.func210.trans (congrArg some (by kernel_rfl))
 f267:=Tryz.func178.trans (congrArg some (by kernel_rfl))
 f268:=Tryz.func109.trans (congrArg some (by kernel_rfl))
 f314:=Tryz.func211.trans (congrArg some (by kernel_rfl))
 t0:=Tryz.underlying0
 a0:=Tryz.isAgg0
 z0:=Tryz.sizeOf0
 v0:=Tryz.zeroValue0
 t3:=Tryz.underlying3
 a3:=Tryz.isAgg3
 z3:=Tryz.sizeOf3
 v3:=Tryz.zeroValue3
 t4:=Tryz.underlying4
 a4:=Tryz.isAgg4
 z4:=Tryz.sizeOf4
 v4:=Tryz.zeroValue4
 t5:=Tryz.underlying5
 a5:=Tryz.isAgg5
 z5:=Tryz.sizeOf5
 v5:=Tryz.zeroValue5
 t9:=Tryz.underlying9
 a9:=Tryz.isAgg9
 z9:=Tryz.sizeOf9
 v9:=Tryz.zeroValue9
 t21:=Tryz.underlying21
 a21:=Tryz.isAgg21
 z21:=Tryz.sizeOf21
 v21:=Tryz.zeroValue21
 t31:=Tryz.underlying55
 a31:=Tryz.isAgg55
 z31:=Tryz.sizeOf55
 v31:=Tryz.zeroValue55
 t46:=Tryz.underlying89
 a46:=Tryz.isAgg89
 z46:=Tryz.sizeOf89
 v46:=Tryz.zeroValue89
 t51:=Tryz.underlying226
 a51:=Tryz.isAgg226
 z51:=Tryz.sizeOf226
 v51:=Tryz.zeroValue226
 t105:=Tryz.underlying181
 a105:=Tryz.isAgg181
 z105:=Tryz.sizeOf181
 v105:=Tryz.zeroValue181
 t119:=Tryz.underlying222
 a119:=Tryz.isAgg222
 z119:=Tryz.sizeOf222
 t138:=Tryz.underlying224
 a138:=Tryz.isAgg224
 z138:=Tryz.sizeOf224
 v138:=Tryz.zeroValue224
 t139:=Tryz.underlying225
 a139:=Tryz.isAgg225
 z139:=Tryz.sizeOf225
 v139:=Tryz.zeroValue225
 t146:=Tryz.underlying227
 a146:=Tryz.isAgg227
 z146:=Tryz.sizeOf227
 v146:=Tryz.zeroValue227
 g1:=by kernel_rfl
 g3:=by kernel_rfl
 g4:=by kernel_rfl}
open Go.RowKit Go.Lib in
theorem Tryz.strings_Split (s sep:ByteArray)(m:Int)(w:World)(hs:s.size<4294967281)(hm:w.cell? ⟨0,0,none⟩=some (.int .i64 m))(h1:1≤sep.size):
  Calls Tryz.prog 28 #[.string s,.string sep] w fun e w'=>
   e=.returned (.slice (some ⟨w.heap.size,0,none⟩) (Lib.countB s sep+1) (Lib.countB s sep+1))∧w'=w.alloc (.cells ((Lib.splitB sep 0 (Lib.countB s sep) s).map Value.string).toArray 9):=Any.strings_Split Tryz.lays146 (by kernel_rfl) s sep m w hs hm h1
def Tryz.lays147_ren:Go.Shelf.Ren:=⟨fun|147=>112|221=>60|268=>109|138=>110|143=>111|195=>146|197=>147|218=>148|219=>149|260=>174|217=>175|225=>176|224=>177|267=>178|266=>210|314=>211|n=>n,fun|9=>9|3=>3|31=>55|4=>4|0=>0|105=>181|21=>21|5=>5|46=>89|119=>222|139=>225|138=>224|146=>227|51=>226|n=>n,fun|1=>0|3=>1|4=>2|n=>n⟩
def Tryz.lays147:Go.Proofs.Lays.n147 Tryz.prog Tryz.lays147_ren:={
 mixed:=by kernel_rfl
 f138:=Tryz.func110.trans (congrArg some (by kernel_rfl))
 f143:=Tryz.func111.trans (congrArg some (by kernel_rfl))
 f147:=Tryz.func112.trans (congrArg some (by kernel_rfl))
 f195:=Tryz.func146.trans (congrArg some (by kernel_rfl))
 f197:=Tryz.func147.trans (congrArg some (by kernel_rfl))
 f217:=Tryz.func175.trans (congrArg some (by kernel_rfl))
 f218:=Tryz.func148.trans (congrArg some (by kernel_rfl))
 f219:=Tryz.func149.trans (congrArg some (by kernel_rfl))
 f221:=Tryz.func60.trans (congrArg some (by kernel_rfl))
 f224:=Tryz.func177.trans (congrArg some (by kernel_rfl))
 f225:=Tryz.func176.trans (congrArg some (by kernel_rfl))
 f260:=Tryz.func174.trans (congrArg some (by kernel_rfl))
 f266:=Tryz.func210.trans (congrArg some (by kernel_rfl))
 f267:=Tryz.func178.trans (congrArg some (by kernel_rfl))
 f268:=Tryz.func109.trans (congrArg some (by kernel_rfl))
 f314:=Tryz.func211.trans (congrArg some (by kernel_rfl))
 t0:=Tryz.underlying0
 a0:=Tryz.isAgg0
 z0:=Tryz.sizeOf0
 v0:=Tryz.zeroValue0
 t3:=Tryz.underlying3
 a3:=Tryz.isAgg3
 z3:=Tryz.sizeOf3
 v3:=Tryz.zeroValue3
 t4:=Tryz.underlying4
 a4:=Tryz.isAgg4
 z4:=Tryz.sizeOf4
 v4:=Tryz.zeroValue4
 t5:=Tryz.underlying5
 a5:=Tryz.isAgg5
 z5:=Tryz.sizeOf5
 v5:=Tryz.zeroValue5
 t9:=Tryz.underlying9
 a9:=Tryz.isAgg9
 z9:=Tryz.sizeOf9
 v9:=Tryz.zeroValue9
 t21:=Tryz.underlying21
 a21:=Tryz.isAgg21
 z21:=Tryz.sizeOf21
 v21:=Tryz.zeroValue21
 t31:=Tryz.underlying55
 a31:=Tryz.isAgg55
 z31:=Tryz.sizeOf55
 v31:=Tryz.zeroValue55
 t46:=Tryz.underlying89
 a46:=Tryz.isAgg89
 z46:=Tryz.sizeOf89
 v46:=Tryz.zeroValue89
 t51:=Tryz.underlying226
 a51:=Tryz.isAgg226
 z51:=Tryz.sizeOf226
 v51:=Tryz.zeroValue226
 t105:=Tryz.underlying181
 a105:=Tryz.isAgg181
 z105:=Tryz.sizeOf181
 v105:=Tryz.zeroValue181
 t119:=Tryz.underlying222
 a119:=Tryz.isAgg222
 z119:=Tryz.sizeOf222
 t138:=Tryz.underlying224
 a138:=Tryz.isAgg224
 z138:=Tryz.sizeOf224
 v138:=Tryz.zeroValue224
 t139:=Tryz.underlying225
 a139:=Tryz.isAgg225
 z139:=Tryz.sizeOf225
 v139:=Tryz.zeroValue225
 t146:=Tryz.underlying227
 a146:=Tryz.isAgg227
 z146:=Tryz.sizeOf227
 v146:=Tryz.zeroValue227
 g1:=by kernel_rfl
 g3:=by kernel_rfl
 g4:=by kernel_rfl}
open Go.RowKit Go.Lib in
theorem Tryz.strings_SplitN (s sep:ByteArray)(n:Nat)(m:Int)(w:World)(hs:s.size<4294967281)(hm:w.cell? ⟨0,0,none⟩=some (.int .i64 m))(h1:1≤sep.size)(hn:1≤n)(hn63:n≤9223372036854775807):
  Calls Tryz.prog 112 #[.string s,.string sep,.int .i64 n] w fun e w'=>
   e=.returned (.slice (some ⟨w.heap.size,0,none⟩) (Lib.splitB sep 0 (min n (s.size+1) -1) s).length (min n (s.size+1)))∧w'=w.alloc (.cells (Lib.cellsOf (Lib.splitB sep 0 (min n (s.size+1) -1) s) (min n (s.size+1))) 9):=Any.strings_SplitN Tryz.lays147 (by kernel_rfl) s sep n m w hs hm h1 hn hn63
def Tryz.laysNm216_ren:Go.Shelf.Ren:=⟨fun|16=>65|n=>n,fun|24=>55|9=>9|4=>4|n=>n,fun|n=>n⟩
def Tryz.laysNm216:Go.Proofs.Lays2.n16 Tryz.prog Tryz.laysNm216_ren:={
 mixed:=by kernel_rfl
 f16:=Tryz.func65.trans (congrArg some (by kernel_rfl))
 t4:=Tryz.underlying4
 a4:=Tryz.isAgg4
 z4:=Tryz.sizeOf4
 v4:=Tryz.zeroValue4
 t9:=Tryz.underlying9
 a9:=Tryz.isAgg9
 z9:=Tryz.sizeOf9
 v9:=Tryz.zeroValue9
 t24:=Tryz.underlying55
 a24:=Tryz.isAgg55
 z24:=Tryz.sizeOf55
 v24:=Tryz.zeroValue55
 i9:=by kernel_rfl}
open Go.RowKit Go.Lib in
theorem Tryz.slices_Clone_string (b off n c:Nat)(zs:List ByteArray)(w:World)(hz:n≤zs.length)(hbig:n*16≤140737488355328)(hc:∀j,j<zs.length→w.cell? ⟨b,off+j,none⟩=some (.string (zs.getD j ByteArray.empty))):
  Calls Tryz.prog 65 #[.slice (some ⟨b,off,none⟩) n c] w fun e w'=>∃v',e=.returned v'∧w'.ownsRow w.heap.size 9 1 v' n ((zs.take n).map (Value.string))∧v'≠.slice none 0 0∧Below w.heap.size w w':=Any.slices_Clone_string Tryz.laysNm216 b off n c zs w hz hbig hc
open Go.RowKit Go.Lib in
theorem Tryz.slices_Clone_string_nil (n c:Nat)(w:World):
  Calls Tryz.prog 65 #[.slice none n c] w fun e w'=>e=.returned (.slice none 0 0)∧w'=w:=Any.slices_Clone_string_nil Tryz.laysNm216 n c w
open Go.RowKit Go.Lib in
theorem Tryz.slices_Clone_string_zero (a:Addr)(c:Nat)(w:World):
  Calls Tryz.prog 65 #[.slice (some a) 0 c] w fun e w'=>∃v',e=.returned v'∧w'.ownsRow w.heap.size 9 1 v' 0 []∧v'≠.slice none 0 0∧Below w.heap.size w w':=Any.slices_Clone_string_zero Tryz.laysNm216 a c w
end Go.Proofs
end
namespace Go.Abs
def pre1 (b c:UInt8)(r:ah):([b]:ah).isPrefixOf (c::r)=(b==c):=by simp[List.isPrefixOf]
def JB:Option Nat→Int
 |some k=>(k:Int)
 |none=>-1
def ua:∀(s:ah)(b:UInt8),Lib.index s [b]=JB (s.findIdx? (fun c=>c==b))
 |[],b=>rfl
 |c::r,b=>by
  unfold Lib.index;rw[pre1,List.findIdx?_cons,ua r b];by_cases h:c=b
  ·subst h;simp[JB]
  ·have h1:(b==c)=false:=by simp[Ne.symm h]
   have h2:(c==b)=false:=by simp[h]
   simp only[h1,h2,Bool.false_eq_true,if_false];cases r.findIdx? (fun c=>c==b)with
   |none=>rfl
   |some k=>
    simp only[Option.map_some];rw[if_neg (by simp[JB])];simp[JB]
def Ky (s:ah)(b:UInt8):Lib.cut s [b]=ea s b:=by
 unfold Lib.cut ea;rw[ua];cases s.findIdx? (fun c=>c==b)with
 |none=>simp[JB]
 |some k=>simp[JB]
def CX (s p:ah):(Lib.trimPrefix s p,Lib.hasPrefix s p)=cZ s p:=by
 unfold Lib.trimPrefix Lib.hasPrefix cZ;split<;>rename_i h
 ·rw[h]
 ·simp only[Bool.not_eq_true]at h;rw[h]
def za (b:ah):∀l,aF b l=Lib.join l b
 |[]=>rfl
 |[t]=>(Lib.join_one t b).symm
 |t::u::r=>by
  rw[dJ _ _ _ (by simp),za b (u::r),Lib.join_cons,Lib.join_cons];simp[Lib.joinTail]
def decDigits_eq (n:Nat):Lib.decDigits n=bQ n:=by
 induction n using Nat.strongRecOn with
 |_ n ih=>
  rw[Lib.decDigits];by_cases h:n<10
  ·rw[dif_pos h,jz h];rfl
  ·rw[dif_neg h,ke (by omega),ih (n/10) (by omega)];rfl
def Ii {n:Int}(h:0≤n):Lib.itoa n=bQ n.toNat:=by
 unfold Lib.itoa;rw[if_neg (by omega),decDigits_eq]
def rm (b:UInt8):∀(s cur:ah),s.findIdx? (fun c=>c==b)=none→bd b.toNat s cur=[cur++s]
 |[],cur,_=>by simp[bd]
 |c::r,cur,h=>by
  rw[List.findIdx?_cons]at h;split at h
  ·cases h
  ·rename_i hc;have hr:r.findIdx? (fun c=>c==b)=none:=by
    cases hq:r.findIdx? (fun c=>c==b)with
    |none=>rfl
    |some k=>rw[hq]at h;cases h
   have hne:¬((c.toNat:Int)=(b.toNat:Int)):=fun e=>hc (by
    have:c.toNat=b.toNat:=by omega
    simp[UInt8.toNat_inj.1 this])
   simp only[bd,if_neg hne];rw[rm b r (cur++[c]) hr];simp
def o9 (b:UInt8):∀(s cur:ah)(k:Nat),s.findIdx? (fun c=>c==b)=some k→bd b.toNat s cur=(cur++s.take k)::bd b.toNat (s.drop (k+1)) []
 |[],cur,k,h=>by simp at h
 |c::r,cur,k,h=>by
  rw[List.findIdx?_cons]at h;split at h
  ·rename_i hc;have hk:k=0:=by simpa using h.symm
   subst hk;have hcb:c=b:=by simpa using hc
   subst hcb;simp[bd]
  ·rename_i hc;have hne:¬((c.toNat:Int)=(b.toNat:Int)):=fun e=>hc (by
    have:c.toNat=b.toNat:=by omega
    simp[UInt8.toNat_inj.1 this])
   cases hq:r.findIdx? (fun c=>c==b)with
   |none=>rw[hq]at h;cases h
   |some j=>
    rw[hq]at h;have hk:k=j+1:=by simpa using h.symm
    subst hk;simp only[bd,if_neg hne];rw[o9 b r (cur++[c]) j hq];simp
def wF (b:UInt8):∀(k:Nat)(s:ByteArray),Lib.countB s ⟨⟨[b]⟩⟩=k→(Lib.splitB ⟨⟨[b]⟩⟩ 0 k s).map (fun t=>t.data.toList)=ai s.data.toList b.toNat:=by
 intro k;induction k with
 |zero=>
  intro s h;rw[Lib.splitB_zero];have hi:Lib.indexB s ⟨⟨[b]⟩⟩=JB (s.data.toList.findIdx? (fun c=>c==b)):=ua _ b;cases hq:s.data.toList.findIdx? (fun c=>c==b)with
  |none=>simp[ai,rm b _ [] hq]
  |some j=>
   rw[hq]at hi;have:=Lib.countB_hit s ⟨⟨[b]⟩⟩ j (Nat.le_refl 1) hi;omega
 |succ k ih=>
  intro s h;have hi:Lib.indexB s ⟨⟨[b]⟩⟩=JB (s.data.toList.findIdx? (fun c=>c==b)):=ua _ b;cases hq:s.data.toList.findIdx? (fun c=>c==b)with
  |none=>
   rw[hq]at hi;have:=Lib.countB_miss s ⟨⟨[b]⟩⟩ hi;omega
  |some j=>
   rw[hq]at hi;have h1:1≤(⟨⟨[b]⟩⟩:ByteArray).size:=Nat.le_refl 1;have hc:=Lib.countB_hit s ⟨⟨[b]⟩⟩ j h1 hi;rw[Lib.splitB_hit _ _ _ _ j hi];simp only[List.map_cons];rw[ih _ (by omega)];have e1:(s.extract 0 (j+0)).data.toList=s.data.toList.take j:=by
    rw[Lib.extract_data];simp
   have e2:(s.extract (j+(⟨⟨[b]⟩⟩:ByteArray).size) s.size).data.toList=s.data.toList.drop (j+1):=by
    rw[Lib.extract_data];exact List.take_of_length_le (by rw[List.length_drop,Lib.size_eq];exact Nat.le_refl _)
   rw[e1,e2];simp only[ai];rw[o9 b _ [] j hq];simp
end Go.Abs
section
namespace Go.Abs
open Go.Proofs
def zP (sep:ah)(k:Nat)(s:ah)(h:Lib.index s sep=-1):Lib.splitK sep 0 k s=[s]:=by
 cases k with
 |zero=>rfl
 |succ k=>unfold Lib.splitK;rw[if_pos (beq_iff_eq.2 h)]
def Br (sep:ah)(k:Nat)(s:ah)(i:Nat)(h:Lib.index s sep=i):Lib.splitK sep 0 (k+1) s=s.take i::Lib.splitK sep 0 k (s.drop (i+sep.length)):=by
 have hm:¬(Lib.index s sep==-1)=true:=fun e=>by have:=beq_iff_eq.1 e;omega
 have e:(Lib.index s sep).toNat=i:=by omega
 rw[Lib.splitK,if_neg hm,e];rfl
def jC (b:UInt8):∀(s cur:ah),aF [b] (bd b.toNat s cur)=cur++s
 |[],cur=>by simp[bd,aF]
 |c::r,cur=>by
  unfold bd;split
  ·rename_i h;have hc:c=b:=by
    have:c.toNat=b.toNat:=by omega
    exact UInt8.toNat_inj.1 this
   have hne:bd b.toNat r []≠[]:=nU r b.toNat;rw[dJ _ _ _ hne,jC b r [],hc];simp
  ·rw[jC b r (cur++[c])];simp
def CW (a:ah){l:List ah}(k:Nat)(hl:l≠[]):mH (k+2) (a::l)=a::mH (k+1) l:=by
 unfold mH;by_cases h:l.length≤k+1
 ·rw[if_pos h,if_pos (by simp only[List.length_cons];omega)]
 ·rw[if_neg h,if_neg (by simp only[List.length_cons];omega)];simp
def D9:∀(k:Nat)(s:ah),Lib.splitK [32] 0 k s=mH (k+1) (ai s 32):=by
 intro k;induction k with
 |zero=>
  intro s;have hj:aF [32] (ai s 32)=s:=by
   have:=jC 32 s [];simpa[ai]using this
  unfold mH;split
  ·rename_i h;show [s]=_;have hne:ai s 32≠[]:=nU _ _
   match hq:ai s 32,hne,h with
   |[t],_,_=>rw[hq]at hj;rw[←hj];rfl
   |_::_::_,_,h=>simp at h
  ·simp only[Nat.zero_add,Nat.sub_self,List.take_zero,List.drop_zero,List.nil_append,hj];rfl
 |succ k ih=>
  intro s;have hi:=ua s 32;cases hq:s.findIdx? (fun c=>c==32)with
  |none=>
   rw[hq]at hi;have hs:ai s 32=[s]:=by have:=rm 32 s [] hq;simpa[ai]using this
   rw[zP _ _ _ hi,hs];rfl
  |some j=>
   rw[hq]at hi;have hs:ai s 32=s.take j::ai (s.drop (j+1)) 32:=by have:=o9 32 s [] j hq;simpa[ai]using this
   rw[Br _ _ _ j hi,hs,CW _ _ (nU _ _),ih];rfl
def By (n:Nat)(h:1≤n)(s:ah):Lib.splitK [32] 0 (min n (s.length+1) -1) s=gQ (n:Int) s:=by
 have hl:=cQ s 32;rw[D9];unfold gQ;rw[if_neg (by omega),Int.toNat_natCast];by_cases hn:n≤s.length+1
 ·rw[show min n (s.length+1) -1+1=n by omega]
 ·rw[show min n (s.length+1) -1+1=s.length+1 by omega];unfold mH;rw[if_pos hl,if_pos (by omega)]
def NT (c d:UInt8)(r:ah):([124,124]:ah).isPrefixOf (c::d::r)=(decide (c=124)&&decide (d=124)):=by
 have e:∀x:UInt8,((124:UInt8)==x)=decide (x=124):=fun x=>by
  by_cases h:x=124
  ·subst h;rfl
  ·rw[decide_eq_false h];exact beq_eq_false_iff_ne.2 (Ne.symm h)
 simp only[List.isPrefixOf,Bool.and_true,e]
def wH:∀(s cur:ah),Lib.index s [124,124]=-1→aL s cur=[cur++s]
 |[],cur,_=>by simp[aL]
 |[c],cur,_=>rfl
 |c::d::r,cur,h=>by
  unfold Lib.index at h;rw[NT]at h;by_cases h2:c=124∧d=124
  ·simp[h2.1,h2.2]at h
  ·have h3:(decide (c=124)&&decide (d=124))=false:=by rw[←Bool.decide_and];exact decide_eq_false h2
   rw[h3,if_neg (by simp)]at h;have h4:Lib.index (d::r) [124,124]=-1:=by
    have:=Lib.index_ge (d::r) [124,124];split at h
    ·rename_i h5;exact beq_iff_eq.1 h5
    ·omega
   rw[aL,if_neg h2,wH (d::r) _ h4];simp
def wG:∀(s cur:ah)(i:Nat),Lib.index s [124,124]=i→aL s cur=(cur++s.take i)::aL (s.drop (i+2)) []
 |[],cur,i,h=>by simp[Lib.index]at h
 |[c],cur,i,h=>by simp[Lib.index,List.isPrefixOf]at h
 |c::d::r,cur,i,h=>by
  unfold Lib.index at h;rw[NT]at h;by_cases h2:c=124∧d=124
  ·rw[h2.1,h2.2]at h;have hi:i=0:=by simp at h;omega
   subst hi;rw[aL,if_pos h2];simp
  ·have h3:(decide (c=124)&&decide (d=124))=false:=by rw[←Bool.decide_and];exact decide_eq_false h2
   rw[h3,if_neg (by simp)]at h;split at h
   ·omega
   ·obtain⟨j,rfl⟩:∃j,i=j+1:=⟨i-1,by
     have:=Lib.index_ge (d::r) [124,124];rename_i h5;have:Lib.index (d::r) [124,124]≠-1:=fun e=>h5 (beq_iff_eq.2 e)
     omega⟩
    rw[aL,if_neg h2,wG (d::r) _ j (by omega)];simp
def D8:∀(k:Nat)(s:ByteArray),Lib.countB s ⟨⟨[124,124]⟩⟩=k→(Lib.splitB ⟨⟨[124,124]⟩⟩ 0 k s).map (fun t=>t.data.toList)=aL s.data.toList []:=by
 intro k;induction k with
 |zero=>
  intro s h;rcases Lib.indexB_cases s ⟨⟨[124,124]⟩⟩with hi|⟨i,hi,_⟩
  ·rw[Lib.splitB_zero];rw[wH _ _ (show Lib.index s.data.toList [124,124]=-1 from hi)];rfl
  ·have:=Lib.countB_hit s ⟨⟨[124,124]⟩⟩ i (by decide) hi;omega
 |succ k ih=>
  intro s h;rcases Lib.indexB_cases s ⟨⟨[124,124]⟩⟩with hi|⟨i,hi,_⟩
  ·rw[Lib.countB_miss _ _ hi]at h;omega
  ·have hc:=Lib.countB_hit s ⟨⟨[124,124]⟩⟩ i (by decide) hi;rw[Lib.splitB_hit _ _ _ _ i hi,List.map_cons,ih _ (by omega),wG _ _ i (show Lib.index s.data.toList [124,124]=i from hi),Lib.extract_from_zero,Lib.extract_to_end];rfl
def wP {p:UInt8→Bool}:∀(l:ah),∀x∈l.takeWhile p,p x=true
 |[],x,h=>by cases h
 |a::r,x,h=>by
  rw[List.takeWhile_cons]at h;split at h
  ·rename_i ha;rcases List.mem_cons.1 h with rfl|h
   ·exact ha
   ·exact wP r x h
  ·cases h
def qE {p:UInt8→Bool}:∀(l:ah),(∀x∈l,p x=true)→l.dropWhile p=[]
 |[],_=>rfl
 |a::r,h=>by
  rw[List.dropWhile_cons,if_pos (h a (.head _))];exact qE r fun x hx=>h x (.tail _ hx)
def tq:∀s,pz s=s.dropWhile (· ==32)
 |[]=>rfl
 |c::r=>by
  unfold pz;by_cases h:c=32
  ·rw[if_pos h,tq r];simp[h]
  ·rw[if_neg h,List.dropWhile_cons,if_neg (by simpa using h)]
def EP (s:ah):Lib.trimB s 32=er s:=by
 unfold Lib.trimB Lib.trimLeftB Lib.trimRightB er;rw[tq,tq];generalize hp:(fun c:UInt8=>c==32)=p;have hs:s=s.takeWhile p++s.dropWhile p:=(List.takeWhile_append_dropWhile).symm;generalize ha:s.takeWhile p=a at hs;generalize hm:s.dropWhile p=m at hs;have hall:∀x∈a,p x=true:=by rw[←ha];exact wP s
 subst hs;rw[List.reverse_append,List.dropWhile_append];cases m with
 |nil=>
  simp only[List.reverse_nil,List.dropWhile_nil,List.isEmpty_nil,if_true];rw[qE a.reverse (fun x hx=>hall x (List.mem_reverse.1 hx))];rfl
 |cons c r=>
  have hc:p c=false:=by
   have:=List.head_dropWhile_not p (l:=a++c::r) (by rw[hm];simp);simpa[hm]using this
  have hne:((c::r).reverse.dropWhile p)≠[]:=by
   rw[List.reverse_cons,List.dropWhile_append];split
   ·simp[hc]
   ·simp
  rw[if_neg (by simpa using hne),List.reverse_append,List.reverse_reverse,List.dropWhile_append,qE _ hall];simp only[List.isEmpty_nil,if_true];rw[List.reverse_cons,List.dropWhile_append];split
  ·simp[hc]
  ·simp[hc]
end Go.Abs
namespace Go.Proofs
open Go.Shelf Go.RowKit Go.Lib
set_option maxHeartbeats 1000000 in
/--strings.SplitN into all -/
theorem Bt {P:Program}{ρ:Ren}(L:Lays.n147 P ρ)(hi9:(P.info? (ρ.t 9)).map (fun i=>(i.zero,i.size,i.bytes))=some (some (.string ByteArray.empty),1,16))(s sep:ByteArray)(m:Int)(w:World)
  (hs:s.size<4294967281) (hm:w.cell? ⟨(ρ.g 1),0,none⟩=some (.int .i64 m)) (h1:1≤sep.size):
  Calls P (ρ.f 147) #[.string s,.string sep,.int .i64 (-1)] w fun e w'=>
   e=.returned (.slice (some ⟨w.heap.size,0,none⟩) (Lib.splitB sep 0 (Lib.countB s sep) s).length (Lib.countB s sep+1))∧w'=w.alloc (.cells (Lib.cellsOf (Lib.splitB sep 0 (Lib.countB s sep) s) (Lib.countB s sep+1)) (ρ.t 9)):=by
 have hle:=Lib.countB_le sep h1 s.size s (Nat.le_refl _);have c:=Any.strings_genSplit {L with} hi9 s sep 0 (-1) (Lib.countB s sep+1) m w hs hm h1 (Nat.zero_le _) (by decide) (by decide) (by rw[if_pos (by decide)];omega);rw[Nat.add_sub_cancel]at c;have t3:=L.t3;have t9:=L.t9;have t31:=L.t31;have a3:=L.a3;have a9:=L.a9;have a31:=L.a31;have z3:=L.z3;have v3:=L.v3;have z9:=L.z9;have v9:=L.v9;have z31:=L.z31;have v31:=L.v31;have e221:∀args w,(callFunc (ρ.f 221) args).run P w=.ok (.enter (ρ.f 221) args) w:=enters_of L.f221 (by kernel_rfl) rfl
 go_enter L.f147,Body.n147_ntmps ρ
 go_wp2_with (go_at_fn (ρ.f 221);refine c.mono ?_;rintro e w' ⟨rfl,hw⟩;rw[hw])
 go_ret
 exact⟨rfl,rfl⟩
end Go.Proofs
end
section
namespace Go.Abs
open Go.Proofs Go.Shelf Go.RowKit
section
variable [bU] {P:Program}
def jq (U:TypeId)(w:World)(v:Value)(s:List UInt8):Prop:=
 (v=.slice none 0 0∧s=[])∨∃g t c,v=.slice (some ⟨g,0,none⟩) s.length t∧w.heap[g]? =some (.cells c U (0,0))∧c.size=t∧t≤maxLen∧s.length≤t∧∀i,i<s.length→c.getD i undef=.int .u8 (s.getD i 0).toNat
def di (s:List UInt8):List Value:=s.map fun b=>Value.int .u8 b.toNat
def eH (s:List UInt8):(di s).length=s.length:=by simp[di]
def oz (s:List UInt8)(i:Nat)(h:i<s.length):(di s).getD i undef=.int .u8 (s.getD i 0).toNat:=by simp[di,List.getD,h]
def tx (s:List UInt8):∀u∈di s,u.oneCell'=true:=by
 intro u hu;obtain⟨b,_,rfl⟩:=List.mem_map.1 hu;rfl
def B8 {x y:List UInt8}{zs:Array Value}(i:Nat)(hi:i<(x++y).length):(((di x++di y).toArray++zs).getD i undef)=.int .u8 ((x++y).getD i 0).toNat:=by
 rw[←aZ];simp only[Array.toList_append];rw[bI,if_pos (by simpa[di]using hi)];have:di x++di y=di (x++y):=by simp[di]
 rw[this,oz _ _ hi]
def Hy {U t u ty:TypeId}{i:TypeInfo}{w:World}(ht:P.underlying t=some (.slice U))(hi:P.info? U=some i)(hz:i.zero=some (.int .u8 0))(hs:i.size=1)(hby:i.bytes=1){v xv:Value}{s s2:List UInt8}
  (hv:jq U w v s) (h0:s2≠[]) (hsrc:Go.Src P 1 u xv s2.length (di s2) w) (hle:s.length+s2.length≤1099511627776):
  ∃g' t' w',(Builtin.append_ #[t,u] ty #[v,xv]).run P w=.ok (.slice (some ⟨g',0,none⟩) (s++s2).length t') w'∧jq U w' (.slice (some ⟨g',0,none⟩) (s++s2).length t') (s++s2)∧w.grownBy w' v.ownBlock∧(v.ownBlock=some g'∨w.heap.size≤g')∧g'<w'.heap.size:=by
 have hp:0<s2.length:=List.length_pos_iff.2 h0;have hm:maxLen=9223372036854775807:=rfl;rw[←hs]at hsrc;rcases hv with⟨rfl,rfl⟩|⟨g,cap,c,rfl,hg,hcs,hcm,hle2,hc⟩
 ·have hr:=run_append_grow_src (P:=P) w t u ty U i _ ht hi hz none 0 0 [] (by simp[Builtin.firstCells,loadCells,loadCellsFrom]) xv s2.length (di s2) hsrc (by omega) (by simp only[List.length_nil]at hle;omega) (by rw[hby];exact growslice_fits (by omega) (by simp only[List.length_nil]at hle;omega));have hge:=grownCap_ge w (0+s2.length) 0 U;have hcm2:grownCap w (0+s2.length) 0 U≤maxLen:=grownCap_le_maxLen w (0+s2.length) 0 U (by simp only[List.length_nil]at hle;omega);simp only[Nat.zero_add,List.nil_append]at hr hge hcm2;refine⟨w.heap.size,_,_,hr,.inr ⟨w.heap.size,_,_,rfl,cF w.drew _, ?_,hcm2,hge,fun j hj=>?_⟩,⟨rfl,rfl,rfl, ?_,fun k hk _=>iJ w.drew _ k hk⟩,.inr (Nat.le_refl _), ?_⟩
  ·have hz1:(Value.int IntKind.u8 0).cells.size=1:=rfl;simp only[List.nil_append,Array.size_append,List.size_toArray,eH,size_zeroCells,hz1];omega
  ·exact B8 (x:=[]) j hj
  ·show w.heap.size≤(w.drew.heap.push _).size;rw[Array.size_push];exact Nat.le_succ _
  ·show w.heap.size<(w.drew.heap.push _).size;rw[Array.size_push];exact Nat.lt_succ_self _
 ·by_cases hroom:s.length+s2.length≤cap
  ·have hr:=run_append_room_src (P:=P) w t u ty U i ht hi g 0 s.length cap xv s2.length (di s2) hsrc hroom (fun j hj=>by
    rw[hs,cell_of_heap hg (by rw[eH]at hj;omega)];rfl) (fun j hj=>by simp[World.frozen?,hg])
   obtain⟨c',s1,s3,s4⟩:=iL g (di s2) (0+s.length*i.size) w c U (0,0) hg (by rw[eH,hs];omega);obtain⟨f1,f2,f3,f4⟩:=gN g (di s2) (0+s.length*i.size) w;have hlt:g<w.heap.size:=by
    rcases Nat.lt_or_ge g w.heap.size with h|h
    ·exact h
    ·simp[Array.getElem?_eq_none h]at hg
   refine⟨g,cap,_,by simpa using hr,.inr ⟨g,cap,c',by simp,s1,by omega,hcm,by rw[List.length_append];exact hroom,fun j hj=>?_⟩,⟨f1,f2,f3,by omega,fun k _ hk=>gO g _ _ _ k (fun e=>hk (by simp[Value.ownBlock,e]))⟩,.inl rfl,by omega⟩;rw[s4,eH,hs];rw[List.length_append]at hj;by_cases hj2:j<s.length
   ·rw[if_neg (by omega),hc j hj2,bI,if_pos hj2]
   ·rw[if_pos (by omega),oz _ _ (by omega),bI,if_neg hj2];congr 4;omega
  ·have hold:(Builtin.firstCells i.size s.length (.slice (some ⟨g,0,none⟩) s.length cap)).run P w.drew=.ok (di s).toArray w.drew:=by
    refine run_firstCells_some w.drew i.size s.length _ s.length cap _ (by simp[eH,hs]) (fun j u' hj=>?_);have hj2:j<s.length:=by
     have:=(List.getElem?_eq_some_iff.1 hj).1;rwa [eH]at this
    have hg':w.drew.heap[g]? =some (.cells c U (0,0)):=hg;rw[Addr.sf,cell_of_heap hg' (by omega),Nat.zero_add,hc j hj2,←oz s j hj2];simp[List.getD,hj]
   have hr:=run_append_grow_src (P:=P) w t u ty U i _ ht hi hz (some ⟨g,0,none⟩) s.length cap (di s) hold xv s2.length (di s2) hsrc (by omega) (by omega) (by rw[hby];exact growslice_fits (by omega) (by omega));have hge:=grownCap_ge w (s.length+s2.length) cap U;have hcm2:grownCap w (s.length+s2.length) cap U≤maxLen:=grownCap_le_maxLen w (s.length+s2.length) cap U (by omega);refine⟨w.heap.size,_,_,by simpa using hr,.inr ⟨w.heap.size,_,_,by simp,cF w.drew _, ?_,hcm2,by simpa using hge,fun j hj=>?_⟩,⟨rfl,rfl,rfl, ?_,fun k hk _=>iJ w.drew _ k hk⟩,.inr (Nat.le_refl _), ?_⟩
   ·have hz1:(Value.int IntKind.u8 0).cells.size=1:=rfl;simp only[Array.size_append,List.size_toArray,List.length_append,eH,size_zeroCells,hz1];omega
   ·exact B8 j hj
   ·show w.heap.size≤(w.drew.heap.push _).size;rw[Array.size_push];exact Nat.le_succ _
   ·show w.heap.size<(w.drew.heap.push _).size;rw[Array.size_push];exact Nat.lt_succ_self _
def uZ {ops:Array Oper}{rest:List Oper}{o:Oper}{a:Act}{Q:Exit→Act→World→Prop}(hgd:o.guard=none)(sl x:Operand)(t u:TypeId)
  (ho:o.op=.call {callee:=.builtin .append,args:=#[sl,x],argTypes:=#[t,u]}) {U:TypeId} {i:TypeInfo} {w:World}
  (ht:P.underlying t=some (.slice U)) (hi:P.info? U=some i) (hz:i.zero=some (.int .u8 0)) (hsz:i.size=1) (hby:i.bytes=1) {v xv:Value} {s s2:List UInt8} (hs:a.eval sl=v) (hx:a.eval x=xv)
  (hv:jq U w v s) (h0:s2≠[]) (hsrc:Go.Src P 1 u xv s2.length (di s2) w) (hle:s.length+s2.length≤1099511627776)
  (h:∀g' t' w',jq U w' (.slice (some ⟨g',0,none⟩) (s++s2).length t') (s++s2)→w.grownBy w' v.ownBlock→(v.ownBlock=some g'∨w.heap.size≤g')→g'<w'.heap.size→wpList P ops Q rest (a.put o.dst (.slice (some ⟨g',0,none⟩) (s++s2).length t')) w'):wpList P ops Q (o::rest) a w:=by
 refine wpList_plain hgd fun K hK=>?_
 obtain⟨g',t',w',hr,h2,h3,h4,h5⟩:=Hy (P:=P) (ty:=o.type) ht hi hz hsz hby hv h0 hsrc hle;unfold Oper.wp execOp;simp only[ho,resolve,invoke,builtin,Sem.run_bind,Sem.run_pure,Result.andThen_ok,List.map_toArray,List.map_cons,List.map_nil,hs,hx,hr];exact hK _ _ (h g' t' w' h2 h3 h4 h5)
def AN (w:World)(g n:Nat):(w.drew.freeze ⟨g,0,none⟩ n).os=w.os∧(w.drew.freeze ⟨g,0,none⟩ n).tape=w.tape∧(w.drew.freeze ⟨g,0,none⟩ n).output=w.output∧(w.drew.freeze ⟨g,0,none⟩ n).heap.size=w.heap.size∧∀k,k≠g→(w.drew.freeze ⟨g,0,none⟩ n).heap[k]? =w.heap[k]? :=by
 unfold World.freeze;split
 ·exact⟨rfl,rfl,rfl,rfl,fun _ _=>rfl⟩
 ·refine⟨rfl,rfl,rfl,by simp,fun k hk=>?_⟩;simp only[Array.getElem?_modify];rw[if_neg (fun e=>hk e.symm)];rfl
def n5 (b:Nat)(u:Bool)(v:Value)(T:TypeId):Obj:=.cells #[.pointer (if u=true then some ⟨b,0,none⟩else none),v] T (0,0)
variable {ρ:Ren}
def vM (L:Lays.n240 P ρ)(X:Builder.X72 P ρ){b:Nat}{u:Bool}{v:Value}{w:World}(h:w.heap[b]? =some (n5 b u v (ρ.t 72))):
  Calls P (ρ.f 240) #[.pointer (some ⟨b,0,none⟩)] w fun e w'=>e=.returned (.tuple #[])∧w'.heap[b]? =some (n5 b true v (ρ.t 72))∧w.grownBy w' (some b):=by
 unfold n5 at h;cases u with
 |true=>
  refine(Any.Builder_copyCheck_used L X b w (by rw[Lib.cell_of_heap h];rfl)).mono ?_;rintro e w' ⟨rfl,rfl⟩;exact⟨rfl,h,⟨rfl,rfl,rfl,Nat.le_refl _,fun _ _ _=>rfl⟩⟩
 |false=>
  refine(Any.Builder_copyCheck_fresh L X b w (by rw[Lib.cell_of_heap h];rfl) (by simp[World.shape?,h]) (Lib.frozen_of_heap h 0)).mono ?_;rintro e w' ⟨rfl,rfl⟩;exact⟨rfl,by simp[World.setCell,Array.getElem?_modify,h,n5],⟨rfl,rfl,rfl,by simp[World.setCell],fun k _ hk=>Below.heap_setCell _ _ _ _ (fun e=>hk (by simp[e]))⟩⟩
def yu (T U:TypeId)(b:Nat)(g:Option Nat)(s:List UInt8)(w w':World):Prop:=
 ∃g' t',w'.heap[b]? =some (n5 b true (.slice (some ⟨g',0,none⟩) s.length t') T)∧jq U w' (.slice (some ⟨g',0,none⟩) s.length t') s∧(g=some g'∨w.heap.size≤g')∧g'<w'.heap.size∧g'≠b∧
  w'.os=w.os∧w'.tape=w.tape∧w'.output=w.output∧w.heap.size≤w'.heap.size∧∀k,k<w.heap.size→k≠b→some k≠g→w'.heap[k]? =w.heap[k]?
def jq.lJ {U:TypeId}{w w':World}{v:Value}{s:List UInt8}(h:jq U w v s)(hk:∀g,v.ownBlock=some g→w'.heap[g]? =w.heap[g]?):jq U w' v s:=by
 rcases h with h|⟨g,t,c,rfl,hg,r⟩
 ·exact .inl h
 ·exact .inr ⟨g,t,c,rfl,(hk g rfl).trans hg,r⟩
def jq.lt {U:TypeId}{w:World}{v:Value}{s:List UInt8}(h:jq U w v s){g:Nat}(hg:v.ownBlock=some g):g<w.heap.size∧∃c,w.heap[g]? =some (.cells c U (0,0)):=by
 rcases h with⟨rfl,_⟩|⟨g',t,c,rfl,hg',r⟩
 ·cases hg
 ·simp only[Value.ownBlock,Option.some.injEq]at hg;subst hg;refine⟨?_,c,hg'⟩;rcases Nat.lt_or_ge g' w.heap.size with h|h
  ·exact h
  ·simp[Array.getElem?_eq_none h]at hg'
set_option maxHeartbeats 2000000 in
set_option maxRecDepth 100000 in
theorem sg (L:Lays.n166 P ρ)(X:Builder.Extra P ρ){b:Nat}{u:Bool}{v:Value}{s s2:List UInt8}{w:World}(h:w.heap[b]? =some (n5 b u v (ρ.t 72)))(hv:jq (ρ.t 5) w v s)(h0:s2≠[])(hm2:s2.length≤maxLen)(hle:s.length+s2.length≤1099511627776):
  Calls P (ρ.f 166) #[.pointer (some ⟨b,0,none⟩),.string ⟨⟨s2⟩⟩] w fun e w'=>(∃r,e=.returned r)∧yu (ρ.t 72) (ρ.t 5) b v.ownBlock (s++s2) w w':=by
 obtain⟨i0,hi,hz0,hz1,hz2⟩:=info_parts X.infoByte;have mixed:=L.mixed;have t72:=L.t72;have a72:=L.a72;have z72:=L.z72;have v72:=L.v72;have u72:=run_underlying L.t72;have t70:=L.t70;have a70:=L.a70;have z70:=L.z70;have v70:=L.v70;have u70:=run_underlying L.t70;have t37:=L.t37;have a37:=L.a37;have z37:=L.z37;have v37:=L.v37;have u37:=run_underlying L.t37;have t3:=L.t3;have a3:=L.a3;have z3:=L.z3;have v3:=L.v3;have u3:=run_underlying L.t3;have t9:=L.t9;have a9:=L.a9;have z9:=L.z9;have v9:=L.v9;have u9:=run_underlying L.t9;have t4:=L.t4;have a4:=L.a4;have z4:=L.z4;have v4:=L.v4;have u4:=run_underlying L.t4;have t164:=L.t164;have a164:=L.a164;have z164:=L.z164;have v164:=L.v164;have u164:=run_underlying L.t164;have t5:=X.t5;have a5:=X.a5;have z5:=X.z5;have v5:=X.v5;have u5:=run_underlying X.t5;have e240:∀args w,(callFunc (ρ.f 240) args).run P w=.ok (.enter (ρ.f 240) args) w:=enters_of L.f240 (by kernel_rfl) rfl
 have hne:∀g,v.ownBlock=some g→g≠b:=by
  rintro g hg rfl;obtain⟨_,c,hc⟩:=hv.lt hg;rw[h]at hc;simp only[n5,Option.some.injEq,Obj.cells.injEq]at hc;exact X.neB5 hc.2.1
 go_enter L.f166,Body.n166_ntmps ρ
 go_wp2_with (go_at_fn (ρ.f 240);refine(vM {L with} X.toX72 h).mono ?_)
 rintro e w1 ⟨rfl,h1,hb1⟩;have hv1:jq (ρ.t 5) w1 v s:=hv.lJ fun g hg=>hb1.block g (hv.lt hg).1 (fun e=>hne g hg (Option.some.inj e))
 have c0:w1.cell? ⟨b,0,none⟩=some (.pointer (some ⟨b,0,none⟩)):=by rw[Lib.cell_of_heap h1];rfl
 have c1:w1.cell? ⟨b,1,none⟩=some v:=by rw[Lib.cell_of_heap h1];rfl
 have hsrc:Go.Src P 1 (ρ.t 9) (.string ⟨⟨s2⟩⟩) s2.length (di s2) w1:=⟨.inr L.t9,fun _=>rfl,firstCells_string _ _,firstCells_string _ _,by rw[eH,Nat.mul_one],tx s2⟩;have key:=fun ops rest o a Q hgd ho hs hx h=>uZ (P:=P) (ops:=ops) (rest:=rest) (o:=o) (a:=a) (Q:=Q) hgd (.tmp 12) (.tmp 13) (ρ.t 37) (ρ.t 9) ho L.t37 hi hz0 hz1 hz2 (v:=v) (xv:=.string ⟨⟨s2⟩⟩) hs hx hv1 h0 hsrc hle h
 go_wp2_with (at_builtin;refine key _ _ _ _ _ rfl rfl rfl rfl ?_)
 clear key;intro g' t' w2 hown' hgrow hg' hlt';have hlt:b<w1.heap.size:=by
  rcases Nat.lt_or_ge b w1.heap.size with h'|h'
  ·exact h'
  ·simp[Array.getElem?_eq_none h']at h1
 have je:w2.heap[b]? =some (n5 b true v (ρ.t 72)):=by
  rw[hgrow.block b hlt (fun e=>hne b e.symm rfl)];exact h1
 have hgb:g'≠b:=by
  rcases hg' with h'|h'
  ·exact hne g' h'
  ·omega
 have d0:w2.cell? ⟨b,0,none⟩=some (.pointer (some ⟨b,0,none⟩)):=by rw[Lib.cell_of_heap je];rfl
 have d1:w2.cell? ⟨b,1,none⟩=some v:=by rw[Lib.cell_of_heap je];rfl
 have f1:w2.frozen? ⟨b,1,none⟩=false:=Lib.frozen_of_heap je 1
 go_wp2
 go_ret2
 have hsz:=hb1.size;refine⟨⟨_,rfl⟩, ?_⟩;unfold yu;simp only[List.length_append]at hown'⊢;refine⟨g',t',by simp[World.setCell,Array.getElem?_modify,je,n5],hown'.lJ fun g hg=>Below.heap_setCell w2 ⟨b,1,none⟩ _ g (fun e=>hgb ((Option.some.inj hg).trans e)),hg'.imp id (fun h=>by omega),by simpa[World.setCell]using hlt',hgb,hgrow.os.trans hb1.os,hgrow.tape.trans hb1.tape,hgrow.output.trans hb1.output,by have:=hgrow.size;simp[World.setCell];omega,fun k hk h1' h2'=>?_⟩;rw[Below.heap_setCell w2 ⟨b,1,none⟩ _ k h1',hgrow.block k (by omega) h2',hb1.block k hk (fun e=>h1' (Option.some.inj e))]
set_option maxHeartbeats 2000000 in
set_option maxRecDepth 100000 in
theorem vi (L:Lays.n167 P ρ)(X:Builder.Extra P ρ){b:Nat}{u:Bool}{v:Value}{s:List UInt8}{c:UInt8}{w:World}(h:w.heap[b]? =some (n5 b u v (ρ.t 72)))(hv:jq (ρ.t 5) w v s)(hle:s.length+1≤1099511627776):
  Calls P (ρ.f 167) #[.pointer (some ⟨b,0,none⟩),.int .u8 c.toNat] w fun e w'=>(∃r,e=.returned r)∧yu (ρ.t 72) (ρ.t 5) b v.ownBlock (s++[c]) w w':=by
 obtain⟨i0,hi,hz0,hz1,hz2⟩:=info_parts X.infoByte;have mixed:=L.mixed;have t72:=L.t72;have a72:=L.a72;have z72:=L.z72;have v72:=L.v72;have u72:=run_underlying L.t72;have t70:=L.t70;have a70:=L.a70;have z70:=L.z70;have v70:=L.v70;have u70:=run_underlying L.t70;have t37:=L.t37;have a37:=L.a37;have z37:=L.z37;have v37:=L.v37;have u37:=run_underlying L.t37;have t9:=L.t9;have a9:=L.a9;have z9:=L.z9;have v9:=L.v9;have u9:=run_underlying L.t9;have t4:=L.t4;have a4:=L.a4;have z4:=L.z4;have v4:=L.v4;have u4:=run_underlying L.t4;have t164:=L.t164;have a164:=L.a164;have z164:=L.z164;have v164:=L.v164;have u164:=run_underlying L.t164;have t5:=L.t5;have a5:=L.a5;have z5:=L.z5;have v5:=L.v5;have u5:=run_underlying L.t5;have e240:∀args w,(callFunc (ρ.f 240) args).run P w=.ok (.enter (ρ.f 240) args) w:=enters_of L.f240 (by kernel_rfl) rfl
 have hne:∀g,v.ownBlock=some g→g≠b:=by
  rintro g hg rfl;obtain⟨_,c,hc⟩:=hv.lt hg;rw[h]at hc;simp only[n5,Option.some.injEq,Obj.cells.injEq]at hc;exact X.neB5 hc.2.1
 go_enter L.f167,Body.n167_ntmps ρ
 go_wp2_with (go_at_fn (ρ.f 240);refine(vM {L with} X.toX72 h).mono ?_)
 rintro e w1 ⟨rfl,h1,hb1⟩;have hv1:jq (ρ.t 5) w1 v s:=hv.lJ fun g hg=>hb1.block g (hv.lt hg).1 (fun e=>hne g hg (Option.some.inj e))
 have c0:w1.cell? ⟨b,0,none⟩=some (.pointer (some ⟨b,0,none⟩)):=by rw[Lib.cell_of_heap h1];rfl
 have c1:w1.cell? ⟨b,1,none⟩=some v:=by rw[Lib.cell_of_heap h1];rfl
 have key:=fun ob ops rest o a Q sl x hgd ho hs hx hv2 hsrc h=>uZ (P:=P) (w:=w1.alloc ob) (ops:=ops) (rest:=rest) (o:=o) (a:=a) (Q:=Q) hgd sl x (ρ.t 37) (ρ.t 37) ho L.t37 hi hz0 hz1 hz2 (v:=v) (xv:=.slice (some ⟨w1.heap.size,0,none⟩) 1 1) (s:=s) (s2:=[c]) hs hx hv2 (List.cons_ne_nil _ _) hsrc hle h
 go_wp2_with (at_builtin;refine key _ _ _ _ _ _ _ _ rfl rfl rfl rfl (hv1.lJ fun g hg=>Lib.alloc_old w1 _ g (hv1.lt hg).1) ?hs ?_)
 case hs=>
  refine Go.Src.ofSlice _ L.t37 ⟨w1.heap.size,0,none⟩ 1 1 _ rfl (fun j u hj=>?_) (tx [c])
  match j,hj with
  |0,hj=>simp[di]at hj;subst hj;simp[Addr.add]
 clear key;intro g' t' w2 hown' hgrow hg' hlt';have hlt:b<w1.heap.size:=by
  rcases Nat.lt_or_ge b w1.heap.size with h'|h'
  ·exact h'
  ·simp[Array.getElem?_eq_none h']at h1
 have je:w2.heap[b]? =some (n5 b true v (ρ.t 72)):=by
  rw[hgrow.block b (by simp;omega) (fun e=>hne b e.symm rfl),Lib.alloc_old w1 _ b hlt];exact h1
 have hgb:g'≠b:=by
  rcases hg' with h'|h'
  ·exact hne g' h'
  ·omega
 have d0:w2.cell? ⟨b,0,none⟩=some (.pointer (some ⟨b,0,none⟩)):=by rw[Lib.cell_of_heap je];rfl
 have d1:w2.cell? ⟨b,1,none⟩=some v:=by rw[Lib.cell_of_heap je];rfl
 have f1:w2.frozen? ⟨b,1,none⟩=false:=Lib.frozen_of_heap je 1
 go_wp2
 go_ret
 have hsz:=hb1.size;refine⟨⟨_,rfl⟩, ?_⟩;unfold yu;simp only[List.length_append]at hown'⊢;refine⟨g',t',by simp[World.setCell,Array.getElem?_modify,je,n5],hown'.lJ fun g hg=>Below.heap_setCell w2 ⟨b,1,none⟩ _ g (fun e=>hgb ((Option.some.inj hg).trans e)),hg'.imp id (fun h=>by omega),by simpa[World.setCell]using hlt',hgb,hgrow.os.trans hb1.os,hgrow.tape.trans hb1.tape,hgrow.output.trans hb1.output,by have:=hgrow.size;simp at this;simp[World.setCell];omega,fun k hk h1' h2'=>?_⟩;rw[Below.heap_setCell w2 ⟨b,1,none⟩ _ k h1',hgrow.block k (by simp;omega) h2',Lib.alloc_old w1 _ k (by omega),hb1.block k hk (fun e=>h1' (Option.some.inj e))]
set_option maxHeartbeats 1000000 in
set_option maxRecDepth 100000 in
theorem AB (L:Lays.n169 P ρ)(X:Builder.Extra P ρ){b g t:Nat}{u:Bool}{s:List UInt8}{w:World}(h:w.heap[b]? =some (n5 b u (.slice (some ⟨g,0,none⟩) s.length t) (ρ.t 72)))(hv:jq (ρ.t 5) w (.slice (some ⟨g,0,none⟩) s.length t) s)(h0:s≠[]):
  Calls P (ρ.f 169) #[.pointer (some ⟨b,0,none⟩)] w fun e w'=>e=.returned (.string ⟨⟨s⟩⟩)∧w'.os=w.os∧w'.tape=w.tape∧w'.output=w.output∧w'.heap.size=w.heap.size∧∀k,k≠g→w'.heap[k]? =w.heap[k]? :=by
 have hl0:s.length≠0:=by simpa using h0
 obtain⟨c,hg,hcs,hcm,hle,hc⟩:∃c,w.heap[g]? =some (.cells c (ρ.t 5) (0,0))∧c.size=t∧t≤maxLen∧s.length≤t∧∀i,i<s.length→c.getD i undef=.int .u8 (s.getD i 0).toNat:=by
  rcases hv with⟨h1,_⟩|⟨g',t',c,h1,r⟩
  ·cases h1
  ·simp only[Value.slice.injEq,Option.some.injEq,Addr.mk.injEq]at h1;obtain⟨⟨rfl,_⟩,_,rfl⟩:=h1;exact⟨c,r⟩
 have c1:w.drew.cell? ⟨b,1,none⟩=some (.slice (some ⟨g,0,none⟩) s.length t):=by
  have:w.drew.heap[b]? =some (n5 b u (.slice (some ⟨g,0,none⟩) s.length t) (ρ.t 72)):=h;rw[Lib.cell_of_heap this];rfl
 have hSD:(Builtin.unsafeSliceData_ #[(ρ.t 37)] (ρ.t 127) #[.slice (some ⟨g,0,none⟩) s.length t]).run P w.drew=.ok (.pointer (some ⟨g,0,none⟩)) w.drew:=
  Lib.run_unsafeSliceData_row _ _ _ _ _ _ (by omega)
 have hUS:(Builtin.unsafeString_ #[(ρ.t 127),(ρ.t 3)] (ρ.t 9) #[.pointer (some ⟨g,0,none⟩),.int .i64 s.length]).run P w.drew=.ok (.string ⟨s.toArray⟩) (w.drew.freeze ⟨g,0,none⟩ s.length):=by
  refine Lib.run_unsafeString_row w.drew (ρ.t 127) (ρ.t 3) (ρ.t 9) (ρ.t 5) L.t127 X.cellsByte g c.size (by have hg':w.drew.heap[g]? =some (.cells c (ρ.t 5) (0,0)):=hg;simp[World.shape?,hg']) s h0 (by omega) (by unfold maxLen at hcm;omega) ?_;intro j x hx;have hj:=(List.getElem?_eq_some_iff.1 hx).1;have hg':w.drew.heap[g]? =some (.cells c (ρ.t 5) (0,0)):=hg;rw[Addr.sf,cell_of_heap hg' (by omega),Nat.zero_add,hc j hj];simp[List.getD,hx]
 have mixed:=L.mixed;have t72:=L.t72;have a72:=L.a72;have z72:=L.z72;have v72:=L.v72;have u72:=run_underlying L.t72;have t70:=L.t70;have a70:=L.a70;have z70:=L.z70;have v70:=L.v70;have u70:=run_underlying L.t70;have t37:=L.t37;have a37:=L.a37;have z37:=L.z37;have v37:=L.v37;have u37:=run_underlying L.t37;have t127:=L.t127;have a127:=L.a127;have z127:=L.z127;have v127:=L.v127;have u127:=run_underlying L.t127;have t3:=L.t3;have a3:=L.a3;have z3:=L.z3;have v3:=L.v3;have u3:=run_underlying L.t3;have t9:=L.t9;have a9:=L.a9;have z9:=L.z9;have v9:=L.v9;have u9:=run_underlying L.t9;have t5:=X.t5;have a5:=X.a5;have z5:=X.z5;have v5:=X.v5;have u5:=run_underlying X.t5
 go_enter L.f169,Body.n169_ntmps ρ
 go_wp2
 go_region_o
 all_goals (go_wp2;go_ret;exact⟨rfl,AN _ _ _⟩)
end
end Go.Abs
end
section
namespace Go.Abs
open Go.Proofs Go.Shelf Go.RowKit
section
variable [bU] {P:Program} {ν:List (Nat×Nat)} {bA:List Nat} {Γ:Ctx} {x:X}
def AA {m:List (Nat×aV)}{l:Nat}{t:List UInt8}{v:Value}(hs:dz ν x (look m))(hb:n8 m l t)(hv:RD ν x v (.ptr l 2 0 0)):
  ∃b tot u w,v=.pointer (some ⟨b,0,none⟩)∧x.β l=some (b,0,tot)∧¬x.I b∧x.w.heap[b]? =some (n5 b u w bU.tB)∧jq bU.tU x.w w t∧
   (w.ownBlock=none∧dC m l=m∨∃l2 g t2,w=.slice (some ⟨g,0,none⟩) t.length t2∧x.β l2=some (g,0,t2)∧¬x.I g∧look m l2=some (.row t)∧l2≠l∧dC m l=bN m l2):=by
 cases hv with
 |ptr _ _ _ _ b base tot at_ hβ hat=>
  rcases hb with⟨u,h1,rfl⟩|⟨l2,u,h1,h2⟩
  ·obtain⟨o1,rfl,w,o2,_,rfl⟩:=hs.own l _ b base tot h1 hβ;simp only[Nat.zero_mul,Nat.add_zero]at hat;subst hat;exact⟨b,tot,u,_,rfl,hβ,o1,o2,.inl ⟨rfl,rfl⟩,.inl ⟨rfl,by simp only[dC,h1]⟩⟩
  ·obtain⟨o1,rfl,w,o2,g,t2,rfl,o3,o4⟩:=hs.own l _ b base tot h1 hβ;simp only[Nat.zero_mul,Nat.add_zero]at hat;subst hat;obtain⟨p1,_,c,p2,p3,p4,p5,p6⟩:=hs.own l2 _ g 0 t2 h2 o4;have hne:l2≠l:=by rintro rfl;rw[h1]at h2;cases h2
   exact⟨b,tot,u,_,rfl,hβ,o1,o2,.inr ⟨g,t2,c,rfl,p2,p3,p4,p5,p6⟩,.inr ⟨l2,g,t2,rfl,o4,p1,h2,hne,by simp only[dC,h1]⟩⟩
def xa {st:St}{l:Nat}{t s:List UInt8}{b tot:Nat}{w:Value}{w':World}(hs:dz ν x (look st.m))(hf:du st x)(hlive:look st.m l≠none)(hl:l<st.nx)
  (hβ:x.β l=some (b,0,tot)) (hI:¬x.I b)
  (hrow:w.ownBlock=none∧dC st.m l=st.m∨∃l2 g t2,w=.slice (some ⟨g,0,none⟩) t.length t2∧x.β l2=some (g,0,t2)∧¬x.I g∧look st.m l2=some (.row t)∧l2≠l∧dC st.m l=bN st.m l2)
  (hw:yu bU.tB bU.tU b w.ownBlock s x.w w'):
  ∃x':X,x'.w=w'∧Step x x'∧dz ν x' (look (mE st.m l st.nx s))∧du ⟨st.nx+1,mE st.m l st.nx s⟩ x':=by
 obtain⟨g',t',h1,h2,h3,h4,h5,k1,k2,k3,k4,k5⟩:=hw;have hn:=hf.β st.nx (Nat.le_refl _)

 have hg:∀g,w.ownBlock=some g→∃l2 t2,x.β l2=some (g,0,t2)∧¬x.I g∧look st.m l2=some (.row t)∧l2≠l∧dC st.m l=bN st.m l2:=by
  intro g hg;rcases hrow with⟨h,_⟩|⟨l2,g0,t2,rfl,q⟩
  ·rw[h]at hg;cases hg
  ·obtain rfl:=Option.some.inj hg;exact⟨l2,t2,q⟩
 have hlook:∀l' blk,l'≠l→look (dC st.m l) l'=some blk→look st.m l'=some blk∧∀g,w.ownBlock=some g→∀p,x.β l'=some p→p.1≠g:=by
  intro l' blk hl' hk;rcases hrow with⟨h,e⟩|⟨l2,g0,t2,rfl,q1,q2,q3,q4,e⟩
  ·rw[e]at hk;exact⟨hk,fun g hg=>by rw[h]at hg;cases hg⟩
  ·rw[e,dV]at hk;split at hk
   ·cases hk
   ·rename_i hne;refine⟨hk,fun g hg p hp e=>?_⟩;obtain rfl:=Option.some.inj hg;obtain⟨b',base',tot'⟩:=p;simp only at e;subst e;exact hne (hs.inj l' l2 _ _ _ _ _ (by rw[hk];simp) (by rw[q3];simp) hp q1)
 have hbg:∀l' p,x.β l'=some p→p.1<x.w.heap.size:=fun l' ⟨b',base',tot'⟩ hp=>hs.cM l' b' base' tot' hp
 have hkeep:∀k,k<x.w.heap.size→k≠b→some k≠w.ownBlock→w'.heap[k]? =x.w.heap[k]? :=k5
 let x':X:=⟨w',x.I,cB x.β st.nx (g',0,t')⟩
 have hst:Step x x':=by
  refine⟨k1,k2,k3,k4,fun _ h=>h,fun k hk=>hkeep k (hs.imm k hk) (fun e=>hI (e▸hk)) (fun e=>?_),fun l' p hp=>?_,fun k hk hn'=>hkeep k hk (fun e=>hn' l _ hβ e.symm) (fun e=>?_),fun _ h=>.inl h,fun l' p hp=>?_⟩
  ·obtain⟨l2,t2,q1,q2,_⟩:=hg k e.symm;exact q2 hk
  ·have:l'≠st.nx:=fun e=>by rw[e,hn]at hp;cases hp
   simp[x',cB,this,hp]
  ·obtain⟨l2,t2,q1,_⟩:=hg k e.symm;exact hn' l2 _ q1 rfl
  ·by_cases e1:l'=st.nx
   ·simp only[x',cB,e1,if_true,Option.some.injEq]at hp;subst hp;rcases h3 with h3|h3
    ·obtain⟨l2,t2,q1,_⟩:=hg g' h3;exact .inr (.inr ⟨l2,_,q1,rfl⟩)
    ·exact .inr (.inl h3)
   ·simp only[x',cB,e1,if_false]at hp;exact .inl hp
 have hle:=hst.le;have hlm:∀l',look (mE st.m l st.nx s) l'=if l'=st.nx then some (.row s)else if l'=l then some (.bld (some st.nx) s.length true)else look (dC st.m l) l':=by
  intro l';simp only[mE,look];by_cases e:l'=st.nx
  ·rw[if_pos e.symm,if_pos e]
  ·rw[if_neg (fun h=>e h.symm),if_neg e,bo]
 have hfr:∀l' p,l'≠st.nx→x.β l'=some p→l'≠l→look (dC st.m l) l'≠none→p.1≠g':=by
  intro l' p hl' hp hne hk e;cases hq:look (dC st.m l) l' with
  |none=>exact hk hq
  |some blk=>
   rcases h3 with h3|h3
   ·exact(hlook l' blk hne hq).2 g' h3 p hp e
   ·have:=hbg l' p hp;omega
 refine⟨x',rfl,hst,⟨fun l' blk b' base' tot' e1 e2=>?_,fun l1 l2 b' base1 tot1 base2 tot2 e1 e2 e3 e4=>?_,fun k hk=>Nat.lt_of_lt_of_le (hs.imm k hk) k4,fun l' b' base' tot' e=>?_,mW hle hs.gd⟩,⟨fun l' hl'=>?_,fun l' hl'=>?_⟩⟩
 ·rw[hlm]at e1;by_cases c1:l'=st.nx
  ·rw[if_pos c1]at e1;simp only[x',cB,if_pos c1,Option.some.injEq,Prod.mk.injEq]at e2;obtain⟨rfl,rfl,rfl⟩:=e2;obtain rfl:=Option.some.inj e1;refine⟨fun h=>?_,rfl, ?_⟩
   ·rcases h3 with h3|h3
    ·obtain⟨l2,t2,_,q2,_⟩:=hg g' h3;exact q2 h
    ·have:=hs.imm g' h;omega
   ·rcases h2 with⟨h2,_⟩|⟨g2,t2,c,h2,r⟩
    ·cases h2
    ·simp only[Value.slice.injEq,Option.some.injEq,Addr.mk.injEq]at h2;obtain⟨⟨rfl,_⟩,_,rfl⟩:=h2;exact⟨c,r⟩
  ·rw[if_neg c1]at e1;simp only[x',cB,if_neg c1]at e2;by_cases c2:l'=l
   ·subst c2;rw[if_pos rfl]at e1;rw[hβ]at e2;simp only[Option.some.injEq,Prod.mk.injEq]at e2;obtain⟨rfl,rfl,rfl⟩:=e2;obtain rfl:=Option.some.inj e1;refine⟨hI,rfl,_,h1,g',t',rfl, ?_,by simp[x',cB]⟩;rcases h2 with⟨h2,_⟩|⟨g2,t2,c,h2,_,_,_,r,_⟩
    ·cases h2
    ·simp only[Value.slice.injEq]at h2;obtain⟨_,_,rfl⟩:=h2;exact r
   ·rw[if_neg c2]at e1;obtain⟨q1,q2⟩:=hlook l' blk c2 e1;obtain⟨o1,o2⟩:=hs.own l' blk b' base' tot' q1 e2;refine⟨o1,o2.mono hle (hkeep b' (hs.cM _ _ _ _ e2) (fun e=>?_) (fun e=>q2 b' e.symm _ e2 rfl))⟩;subst e;exact c2 (hs.inj l' l _ _ _ _ _ (by rw[q1];simp) hlive e2 hβ)
 ·rw[hlm]at e1 e2;by_cases c1:l1=st.nx
  ·by_cases c2:l2=st.nx
   ·rw[c1,c2]
   ·exfalso;rw[if_neg c2]at e2;simp only[x',cB,if_pos c1,Option.some.injEq,Prod.mk.injEq]at e3;simp only[x',cB,if_neg c2]at e4;obtain⟨rfl,_⟩:=e3;by_cases c3:l2=l
    ·subst c3;rw[hβ]at e4;simp only[Option.some.injEq,Prod.mk.injEq]at e4;exact h5 e4.1.symm
    ·rw[if_neg c3]at e2;exact hfr l2 _ c2 e4 c3 e2 rfl
  ·rw[if_neg c1]at e1;simp only[x',cB,if_neg c1]at e3;by_cases c2:l2=st.nx
   ·exfalso;simp only[x',cB,if_pos c2,Option.some.injEq,Prod.mk.injEq]at e4;obtain⟨rfl,_⟩:=e4;by_cases c3:l1=l
    ·subst c3;rw[hβ]at e3;simp only[Option.some.injEq,Prod.mk.injEq]at e3;exact h5 e3.1.symm
    ·rw[if_neg c3]at e1;exact hfr l1 _ c1 e3 c3 e1 rfl
   ·rw[if_neg c2]at e2;simp only[x',cB,if_neg c2]at e4;have live:∀l',(if l'=l then some (aV.bld (some st.nx) s.length true)else look (dC st.m l) l')≠none→look st.m l'≠none:=by
     intro l' h;by_cases c:l'=l
     ·rw[c];exact hlive
     ·rw[if_neg c]at h;cases hq:look (dC st.m l) l' with
      |none=>exact absurd hq h
      |some blk=>rw[(hlook l' blk c hq).1];simp
    exact hs.inj l1 l2 b' base1 tot1 base2 tot2 (live l1 e1) (live l2 e2) e3 e4
 ·by_cases c1:l'=st.nx
  ·simp only[x',cB,if_pos c1,Option.some.injEq,Prod.mk.injEq]at e;obtain⟨rfl,_⟩:=e;exact h4
  ·simp only[x',cB,if_neg c1]at e;exact Nat.lt_of_lt_of_le (hs.cM _ _ _ _ e) k4
 ·have hl':st.nx+1≤l':=hl';simp only[x',cB,if_neg (show ¬l'=st.nx by omega)];exact hf.β l' (by omega)
 ·show l'<st.nx+1;simp only[hlm]at hl';by_cases c1:l'=st.nx
  ·omega
  ·rw[if_neg c1]at hl';by_cases c2:l'=l
   ·omega
   ·rw[if_neg c2]at hl';cases hq:look (dC st.m l) l' with
    |none=>exact absurd hq hl'
    |some blk=>have:=hf.m l' (by rw[(hlook l' blk c2 hq).1];simp);omega
def n8.live {m:List (Nat×aV)}{l:Nat}{t:List UInt8}(h:n8 m l t):look m l≠none:=by
 rcases h with⟨u,h,_⟩|⟨l2,u,h,_⟩<;>rw[h]<;>simp
variable {ρ:Ren}
def EG {args:Array Value}(h:args.size=2):args=#[args.getD 0 undef,args.getD 1 undef]:=by
 apply Array.ext
 ·simpa using h
 ·intro i h1 h2
  match i,h1 with
  |0,h1=>simp[Array.getD,h1]
  |1,h1=>simp[Array.getD,h1]
  |i+2,h1=>omega
def Ku {args:Array Value}(h:args.size=1):args=#[args.getD 0 undef]:=by
 apply Array.ext
 ·simpa using h
 ·intro i h1 h2
  match i,h1 with
  |0,h1=>simp[Array.getD,h1]
  |i+1,h1=>omega
def H0 (hB:bU.tB=ρ.t 72)(hU:bU.tU=ρ.t 5)(L:Lays.n166 P ρ)(X':Builder.Extra P ρ)(hen:∀args w,(callFunc (ρ.f 166) args).run P w=.ok (.enter (ρ.f 166) args) w):ED P ν Γ bA N9 (ρ.f 166):=by
 rintro ds st K ⟨s,l,t,rfl,hb,hl,h0,hle,hK⟩ hok x args hl2 hargs hs hf;obtain⟨b,tot,u,w,e0,hβ,hI,hh,hv,hrow⟩:=AA hs hb (hargs 0 (by simp));have h1:=hargs 1 (by simp);simp only[List.getD_cons_succ,List.getD_cons_zero]at h1;obtain⟨e1,hm⟩:=h1.fJ;rw[hB]at hh;rw[hU]at hv;refine .inr ⟨ρ.f 166,args,hen args x.w, ?_⟩;rw[EG (args:=args) (by simpa using hl2),e0,e1];refine(sg L X' hh hv h0 hm hle).mono ?_;rintro e w' ⟨⟨r,rfl⟩,hw⟩;rw[←hB,←hU]at hw;obtain⟨x',q1,q2,q3,q4⟩:=xa hs hf hb.live hl hβ hI hrow hw;exact⟨x',q1,.any,_,hK,q2,.any _,q3,q4⟩
def HZ (hB:bU.tB=ρ.t 72)(hU:bU.tU=ρ.t 5)(L:Lays.n167 P ρ)(X':Builder.Extra P ρ)(hen:∀args w,(callFunc (ρ.f 167) args).run P w=.ok (.enter (ρ.f 167) args) w):ED P ν Γ bA N8 (ρ.f 167):=by
 rintro ds st K ⟨c,l,t,rfl,hb,hl,h0,hle,hK⟩ hok x args hl2 hargs hs hf;obtain⟨b,tot,u,w,e0,hβ,hI,hh,hv,hrow⟩:=AA hs hb (hargs 0 (by simp));have h1:=hargs 1 (by simp);simp only[List.getD_cons_succ,List.getD_cons_zero]at h1;have e1:=h1.ch;rw[hB]at hh;rw[hU]at hv;refine .inr ⟨ρ.f 167,args,hen args x.w, ?_⟩;rw[EG (args:=args) (by simpa using hl2),e0,e1];refine(vi L X' hh hv hle).mono ?_;rintro e w' ⟨⟨r,rfl⟩,hw⟩;rw[←hB,←hU]at hw;obtain⟨x',q1,q2,q3,q4⟩:=xa hs hf hb.live hl hβ hI hrow hw;exact⟨x',q1,.any,_,hK,q2,.any _,q3,q4⟩
def HY (hB:bU.tB=ρ.t 72)(hU:bU.tU=ρ.t 5)(L:Lays.n169 P ρ)(X':Builder.Extra P ρ)(hen:∀args w,(callFunc (ρ.f 169) args).run P w=.ok (.enter (ρ.f 169) args) w):ED P ν Γ bA N7 (ρ.f 169):=by
 rintro ds st K ⟨l,t,rfl,hb,h0,hK⟩ hok x args hl2 hargs hs hf;obtain⟨b,tot,u,w,e0,hβ,hI,hh,hv,hrow⟩:=AA hs hb (hargs 0 (by simp));rcases hrow with⟨hn,_⟩|⟨l2,g,t2,rfl,q1,q2,q3,q4,q5⟩
 ·exfalso;rcases hv with⟨_,h⟩|⟨g,t',c,rfl,_⟩
  ·exact h0 h
  ·cases hn
 rw[hB]at hh;rw[hU]at hv;have htm:t.length≤maxLen:=by
  rcases hv with⟨_,rfl⟩|⟨g',t',c,h1,_,_,h4,h5,_⟩
  ·exact absurd rfl h0
  ·omega
 refine .inr ⟨ρ.f 169,args,hen args x.w, ?_⟩;rw[Ku (args:=args) (by simpa using hl2),e0];refine(AB L X' hh hv h0).mono ?_;rintro e w' ⟨rfl,k1,k2,k3,k4,k5⟩;have hkeep:∀k,(∀l' p,look (bN (dC st.m l) l) l'≠none→x.β l'=some p→p.1=k→False)→True:=fun _ _=>trivial
 have hst:Step x ⟨w',x.I,x.β⟩:=⟨k1,k2,k3,Nat.le_of_eq k4.symm,fun _ h=>h,fun k hk=>k5 k (fun e=>q2 (e▸hk)),fun _ _ h=>h,fun k hk hn=>k5 k (fun e=>hn l2 _ q1 e.symm),fun _ h=>.inl h,fun _ _ h=>.inl h⟩;have hlm:∀l',look (bN (dC st.m l) l) l'=if l'=l then none else if l'=l2 then none else look st.m l':=fun l'=>by rw[dV,q5,dV]
 refine⟨⟨w',x.I,x.β⟩,rfl,.str t,_,hK,hst,.str t htm,⟨fun l' blk b' base' tot' e1 e2=>?_,fun l1 l3 b' base1 tot1 base2 tot2 e1 e2 e3 e4=>?_,fun k hk=>by show k<w'.heap.size;rw[k4];exact hs.imm k hk,fun l' b' base' tot' e=>by show b'<w'.heap.size;rw[k4];exact hs.cM _ _ _ _ e,mW hst.le hs.gd⟩,⟨hf.β,fun l' hl'=>?_⟩⟩
 ·rw[hlm]at e1;split at e1
  ·cases e1
  split at e1
  ·cases e1
  rename_i c1 c2;obtain⟨o1,o2⟩:=hs.own l' blk b' base' tot' e1 e2;refine⟨o1,o2.mono hst.le (k5 b' (fun e=>c2 ?_))⟩;subst e;exact hs.inj l' l2 _ _ _ _ _ (by rw[e1];simp) (by rw[q3];simp) e2 q1
 ·have live:∀l',look (bN (dC st.m l) l) l'≠none→look st.m l'≠none:=by
   intro l' h;rw[hlm]at h;split at h
   ·exact absurd rfl h
   split at h
   ·exact absurd rfl h
   ·exact h
  exact hs.inj l1 l3 b' base1 tot1 base2 tot2 (live l1 e1) (live l3 e2) e3 e4
 ·simp only[hlm]at hl';split at hl'
  ·exact absurd rfl hl'
  split at hl'
  ·exact absurd rfl hl'
  ·exact hf.m l' hl'
end
end Go.Abs
end
section
namespace Go.Abs
open Go.Proofs
def Gg:Nat:=3
def rV:Tryz.prog.globalNamed "internal/strconv.uint64pow10" =some Gg:=by kernel_rfl
instance N6:bU where
 tB:=133
 tU:=5
 gd x:=(x.I 0∧∃m,x.w.cell? ⟨0,0,none⟩=some (.int .i64 m))∧x.I Gg∧Lib.TabIs Tryz.prog x.w "internal/strconv.uint64pow10" .u64 Lib.pow10Tab
 le x x' hI hk h:=by
  obtain⟨⟨h1,m,h2⟩,h3,h4⟩:=h;refine⟨⟨hI _ h1,m,kP (hk _ h1) h2⟩,hI _ h3, ?_⟩;unfold Lib.TabIs World.var? at h4⊢;rw[rV]at h4⊢;simp only[Option.bind_some]at h4⊢;rw[hk _ h3];exact h4
def nH {fid:Nat}{x:X}{args:Array Value}{d:D}(hn:(Tryz.prog.funcs[fid]?).map (fun f=>f.name== "runtime.NumGoroutine" ||!f.body.isSome)=some false)
  (himm:∀b,x.I b→b<x.w.heap.size)
  (hc:Calls Tryz.prog fid args x.w fun e w'=>∃v,e=.returned v∧dZ x.w w'∧∃I:Nat→Prop,(∀b,x.I b→I b)∧(∀b,I b→x.I b∨x.w.heap.size≤b∧b<w'.heap.size)∧RD sy ⟨w',I,x.β⟩ v d):
  fK Tryz.prog x (fun v x'=>jN x x'∧RD sy x' v d) ((callFunc fid args).run Tryz.prog x.w):=by
 cases h:Tryz.prog.funcs[fid]? with
 |none=>rw[h]at hn;cases hn
 |some fn=>
  rw[h]at hn;have h2:(fn.name== "runtime.NumGoroutine" ||!fn.body.isSome)=false:=Option.some.inj hn;rw[Bool.or_eq_false_iff,Bool.not_eq_false']at h2;refine .inr ⟨fid,args,eI h h2.1 h2.2 args x.w,Calls.mono hc fun e w' he=>?_⟩;obtain⟨v,rfl,hg,I,h3,h4,hr⟩:=he;refine⟨⟨w',I,x.β⟩,rfl,⟨hg,h3,fun b hb=>(h4 b hb).imp id And.left,fun b hb=>?_,rfl⟩,hr⟩;rcases h4 b hb with h5|h5
  ·exact Nat.lt_of_lt_of_le (himm b h5) hg.size
  ·exact h5.2
def AP (w:World):∀n,dZ w (w.drewN n)
 |n=>⟨rfl,rfl,rfl,Nat.le_refl _,fun _ _=>rfl⟩
def im {fid:Nat}{x:X}{args:Array Value}{d:D}{v:Value}(hn:(Tryz.prog.funcs[fid]?).map (fun f=>f.name== "runtime.NumGoroutine" ||!f.body.isSome)=some false)
  (himm:∀b,x.I b→b<x.w.heap.size) (hc:Calls Tryz.prog fid args x.w fun e w'=>e=.returned v∧dZ x.w w') (hr:∀x',RD sy x' v d):
  fK Tryz.prog x (fun v x'=>jN x x'∧RD sy x' v d) ((callFunc fid args).run Tryz.prog x.w):=
 nH hn himm (Calls.mono hc fun e w' ⟨h1,h2⟩=>⟨v,h1,h2,x.I,fun _ h=>h,fun _ h=>.inl h,hr _⟩)
def dS {x:X}{v:Value}{s:ah}(h:RD sy x v (.str s)):v=.string ⟨⟨s⟩⟩∧s.length≤maxLen:=by
 cases h with
 |str s h=>exact⟨rfl,h⟩
def B0 {x:X}{v:Value}{k:IntKind}{n:Int}(h:RD sy x v (.int k n)):v=.int k n:=by
 cases h with
 |int k n=>rfl
def vG {args:Array Value}(h:args.size=2):args=#[args.getD 0 undef,args.getD 1 undef]:=by
 obtain⟨l⟩:=args
 match l,h with
 |[a,b],_=>rfl
def NC {args:Array Value}(h:args.size=3):args=#[args.getD 0 undef,args.getD 1 undef,args.getD 2 undef]:=by
 obtain⟨l⟩:=args
 match l,h with
 |[a,b,c],_=>rfl
def Jp {args:Array Value}(h:args.size=1):args=#[args.getD 0 undef]:=by
 obtain⟨l⟩:=args
 match l,h with
 |[a],_=>rfl
def IL {x:X}{a b:Value}{d e:D}(h1:RD sy x a d)(h2:RD sy x b e):RD sy x (.tuple #[a,b]) (.tup [d,e]):=by
 refine .tup _ _ rfl fun i hi=>?_
 match i,hi with
 |0,_=>exact h1
 |1,_=>exact h2
def IM {x:X}{a b c:Value}{d e f:D}(h1:RD sy x a d)(h2:RD sy x b e)(h3:RD sy x c f):RD sy x (.tuple #[a,b,c]) (.tup [d,e,f]):=by
 refine .tup _ _ rfl fun i hi=>?_
 match i,hi with
 |0,_=>exact h1
 |1,_=>exact h2
 |2,_=>exact h3
def rh {x:X}(s:ah)(h:s.length≤4294967296):RD sy x (.string ⟨s.toArray⟩) (.str s):=.str s (by simp only[maxLen];omega)
def CV (s:ah)(b:UInt8):(ea s b).2.1.length≤s.length:=by
 unfold ea;split<;>simp
def E487:Ow 129 487:=by
 refine bH rfl ?_;rintro s b hp hok x args hl hargs hnl himm ⟨⟨_,m,hm⟩,_⟩;obtain⟨h0,hs⟩:=dS (hargs 0 (by simp));obtain⟨h1,_⟩:=dS (hargs 1 (by simp));rw[vG hl,h0,h1];refine im (by kernel_rfl) himm (Calls.mono (Tryz.strings_Cut ⟨⟨s⟩⟩ ⟨⟨[b]⟩⟩ m x.w (by show s.length<_;omega) hm) fun e w' ⟨h1,n,h2⟩=>⟨h1,h2▸AP _ n⟩) (fun x'=>?_);have hc:Lib.cut (⟨⟨s⟩⟩:ByteArray).data.toList (⟨⟨[b]⟩⟩:ByteArray).data.toList=ea s b:=Ky s b;rw[hc];have:=(EW s b).1;have:=CV s b;exact IM (rh _ (by omega)) (rh _ (by omega)) (.bool _)
def E254:Ow 128 254:=by
 refine bH rfl ?_;rintro s p hp hp2 hok x args hl hargs hnl himm _;obtain⟨h0,hs⟩:=dS (hargs 0 (by simp));obtain⟨h1,_⟩:=dS (hargs 1 (by simp));rw[vG hl,h0,h1];refine im (by kernel_rfl) himm (Calls.mono (Tryz.strings_CutPrefix ⟨⟨s⟩⟩ ⟨⟨p⟩⟩ x.w) fun e w' ⟨h1,h2⟩=>⟨h1,h2▸dZ.refl _⟩) (fun x'=>?_);have hc:(Lib.trimPrefix s p,Lib.hasPrefix s p)=cZ s p:=CX s p;have:=AH s p;rw[←hc]at this⊢;have h9:(Lib.trimPrefix s p).length≤s.length:=this;exact IL (rh (Lib.trimPrefix s p) (by omega)) (.bool _)
def E336:Ow 165 336:=by
 refine bH rfl ?_;rintro n hp hok x args hl hargs hnl himm ⟨_,_,ht⟩;have h0:=B0 (hargs 0 (by simp));rw[Jp hl,h0];refine im (by kernel_rfl) himm (Calls.mono (Tryz.strconv_Itoa n (by omega) (by omega) x.w ht) fun e w' ⟨h1,k,os,h2⟩=>⟨h1, ?_⟩) (fun x'=>?_)
 ·subst h2;refine⟨rfl,rfl,rfl,by simp[Sort.grow],fun b hb=>?_⟩;show(x.w.heap++os)[b]? =x.w.heap[b]?;rw[Array.getElem?_append,if_pos hb]
 ·rw[Ii hp.1];have:=dF 4 n.toNat (by omega) (by omega);exact rh _ (by omega)
def pg {fid:Nat}{x:X}{args:Array Value}{ts:List ByteArray}{cap:Nat}{ty:TypeId}{L:List ah}(hn:(Tryz.prog.funcs[fid]?).map (fun f=>f.name== "runtime.NumGoroutine" ||!f.body.isSome)=some false)(himm:∀b,x.I b→b<x.w.heap.size)
  (hL:ts.map (fun t=>t.data.toList)=L) (hcap:ts.length≤cap) (hm:cap≤maxLen) (hs:∀t∈L,t.length≤maxLen)
  (hc:Calls Tryz.prog fid args x.w fun e w'=>e=.returned (.slice (some ⟨x.w.heap.size,0,none⟩) ts.length cap)∧w'=x.w.alloc (.cells (Lib.cellsOf ts cap) ty)):
  fK Tryz.prog x (fun v x'=>jN x x'∧RD sy x' v (.sl 1 (L.map D.str))) ((callFunc fid args).run Tryz.prog x.w):=by
 refine nH hn himm (Calls.mono hc fun e w' ⟨h1,h2⟩=>?_);subst h2;refine⟨_,h1,dZ.alloc _ _,fun q=>x.I q∨q=x.w.heap.size,fun _ h=>.inl h,fun q hq=>hq.imp id fun h=>⟨by omega,by rw[h];show _<(x.w.heap.push _).size;simp⟩, ?_⟩;have hsl:L.length=ts.length:=by rw[←hL];simp
 have hget:∀i,i<ts.length→(L.map D.str).getD i .any=.str (ts.getD i default).data.toList:=fun i hi=>by
  rw[←hL];simp[hi]
 refine .sl _ x.w.heap.size 0 ts.length cap 1 _ (fun i _=>.string (ts.getD i default)) (by simp[hsl]) (.inr ⟨rfl,.inr rfl⟩) hcap hm (fun i hi=>by rw[hget i hi];rfl) (fun i hi=>by rw[hget i hi];rfl) (fun i j hi hj=>?_) (fun i j hi hj=>rfl) (fun i j hi hj=>?_)
 ·obtain rfl:j=0:=by omega
  have:=cF x.w (.cells (Lib.cellsOf ts cap) ty);refine(cell_of_heap (c:=Lib.cellsOf ts cap) (T:=ty) (fr:=(0,0)) this (by rw[Lib.cellsOf_size hcap];omega)).trans ?_;have hi2:i<(ts.map Value.string).length:=by simpa using hi
  simp only[Lib.cellsOf];simp[hi,List.getElem?_append_left hi2]
 ·obtain rfl:j=0:=by omega
  rw[hget i hi];show RD sy _ (.string (ts.getD i default)) (.str (ts.getD i default).data.toList);generalize hq:ts.getD i default=q;have hmem:q.data.toList∈L:=by
   rw[←hL];refine List.mem_map.2 ⟨q, ?_,rfl⟩;rw[←hq];simp[hi]
  have:=hs _ hmem;obtain⟨⟨ql⟩⟩:=q;exact .str ql this
def wK {x:X}{s p:ah}{m:Int}{L:List ah}(hL:∀ts,ts=Lib.splitB ⟨⟨p⟩⟩ 0 (Lib.countB ⟨⟨s⟩⟩ ⟨⟨p⟩⟩) ⟨⟨s⟩⟩→ts.map (fun t=>t.data.toList)=L)(himm:∀b,x.I b→b<x.w.heap.size)(h1:1≤p.length)(hs:s.length≤1048576)(hl:L.length≤1048577)(hb:∀t∈L,t.length≤1048576)
  (hm:x.w.cell? ⟨0,0,none⟩=some (.int .i64 m)):fK Tryz.prog x (fun v x'=>jN x x'∧RD sy x' v (.sl 1 (L.map D.str))) ((callFunc 28 #[.string ⟨⟨s⟩⟩,.string ⟨⟨p⟩⟩]).run Tryz.prog x.w):=by
 have h2:1≤(⟨⟨p⟩⟩:ByteArray).size:=h1;have hlen:=Lib.splitB_all ⟨⟨p⟩⟩ h2 0 _ (⟨⟨s⟩⟩:ByteArray) rfl;have hc:=Tryz.strings_Split ⟨⟨s⟩⟩ ⟨⟨p⟩⟩ m x.w (by show s.length<_;omega) hm h2;rw[←hlen,←Lib.cellsOf_full]at hc;have hL2:=hL _ rfl;have hle:(Lib.splitB ⟨⟨p⟩⟩ 0 (Lib.countB ⟨⟨s⟩⟩ ⟨⟨p⟩⟩) ⟨⟨s⟩⟩).length≤maxLen:=by
  have:L.length=(Lib.splitB ⟨⟨p⟩⟩ 0 (Lib.countB ⟨⟨s⟩⟩ ⟨⟨p⟩⟩) ⟨⟨s⟩⟩).length:=by rw[←hL2];simp
  simp only[maxLen];omega
 exact pg (by kernel_rfl) himm hL2 (Nat.le_refl _) hle (fun t ht=>by have:=hb t ht;simp only[maxLen];omega) hc
def rl:∀(s cur:ah),(aL s cur).length≤s.length+1∧∀t∈aL s cur,t.length≤cur.length+s.length
 |[],cur=>by simp[aL]
 |[c],cur=>by simp[aL]
 |c::d::r,cur=>by
  unfold aL;split
  ·obtain⟨h1,h2⟩:=rl r [];refine⟨by simp only[List.length_cons];omega,fun t ht=>?_⟩;rcases List.mem_cons.1 ht with rfl|ht
   ·omega
   ·have:=h2 t ht;simp only[List.length_cons,List.length_nil]at this⊢;omega
  ·obtain⟨h1,h2⟩:=rl (d::r) (cur++[c]);refine⟨by simp only[List.length_cons]at h1⊢;omega,fun t ht=>?_⟩;have:=h2 t ht;simp only[List.length_append,List.length_cons,List.length_nil]at this⊢;omega
def E124:Ow 28 124:=by
 refine bH rfl ⟨?_, ?_⟩
 ·rintro s b hp hok x args hl hargs hnl himm ⟨⟨_,m,hm⟩,_⟩;obtain⟨h0,hs⟩:=dS (hargs 0 (by simp));obtain⟨h1,_⟩:=dS (hargs 1 (by simp));rw[vG hl,h0,h1];have:=cQ s b.toNat;exact wK (fun ts e=>by rw[e];exact wF b _ (⟨⟨s⟩⟩:ByteArray) rfl) himm (Nat.le_refl 1) hp (by omega) (fun t ht=>Nat.le_trans (dq s b.toNat ht) hp) hm
 ·rintro s hp hok x args hl hargs hnl himm ⟨⟨_,m,hm⟩,_⟩;obtain⟨h0,hs⟩:=dS (hargs 0 (by simp));obtain⟨h1,_⟩:=dS (hargs 1 (by simp));rw[vG hl,h0,h1];obtain⟨q1,q2⟩:=rl s [];exact wK (fun ts e=>by rw[e];exact D8 _ (⟨⟨s⟩⟩:ByteArray) rfl) himm (by decide) hp (by omega) (fun t ht=>by have:=q2 t ht;simp only[List.length_nil]at this;omega) hm
def HF (n:Nat)(h:1≤n)(s:ah):(mH n (ai s 32)).length≤s.length+1∧∀t∈mH n (ai s 32),t.length≤s.length:=by
 have hl:=cQ s 32;have hj:aF [32] (ai s 32)=s:=by
  have:=jC 32 s [];simpa[ai]using this
 unfold mH;split
 ·exact⟨hl,fun t ht=>dq s 32 ht⟩
 ·rename_i hn;refine⟨by simp only[List.length_append,List.length_take,List.length_cons,List.length_nil];omega,fun t ht=>?_⟩;rcases List.mem_append.1 ht with ht|ht
  ·exact dq s 32 (List.mem_of_mem_take ht)
  ·rw[List.mem_singleton.1 ht];have h2:(aF [32] (ai s 32)).length=s.length:=by rw[hj]
   have h3:∀(l:List ah) (k:Nat),(aF [32] (l.drop k)).length≤(aF [32] l).length:=by
    intro l;induction l with
    |nil=>simp
    |cons a l ih=>
     intro k;cases k with
     |zero=>simp
     |succ k=>
      refine Nat.le_trans (ih k) ?_;cases l with
      |nil=>simp[aF]
      |cons b l=>rw[dJ [32] a (b::l) (by simp)];simp only[List.length_append];omega
   have:=h3 (ai s 32) (n-1);omega
def E245:Ow 112 245:=by
 refine bH rfl ?_;rintro s n hp hn hok x args hl hargs hnl himm ⟨⟨_,m,hm⟩,_⟩;obtain⟨h0,hs⟩:=dS (hargs 0 (by simp));obtain⟨h1,_⟩:=dS (hargs 1 (by simp));have h2:=B0 (hargs 2 (by simp));rw[NC hl,h0,h1,h2];rcases hn with rfl|⟨hn1,hn2⟩
 ·have hc:=Bt Tryz.lays147 (by kernel_rfl) ⟨⟨s⟩⟩ ⟨⟨[32]⟩⟩ m x.w (by show s.length<_;omega) hm (Nat.le_refl 1);have hlen:=Lib.splitB_all ⟨⟨[32]⟩⟩ (Nat.le_refl 1) 0 _ (⟨⟨s⟩⟩:ByteArray) rfl;have hL:(Lib.splitB ⟨⟨[32]⟩⟩ 0 (Lib.countB ⟨⟨s⟩⟩ ⟨⟨[32]⟩⟩) ⟨⟨s⟩⟩).map (fun t=>t.data.toList)=gQ (-1) s:=wF 32 _ (⟨⟨s⟩⟩:ByteArray) rfl;have hsl:=cQ s 32;have hll:(gQ (-1) s).length=(Lib.splitB ⟨⟨[32]⟩⟩ 0 (Lib.countB ⟨⟨s⟩⟩ ⟨⟨[32]⟩⟩) ⟨⟨s⟩⟩).length:=by rw[←hL];simp
  have hw:gQ (-1) s=ai s 32:=rfl;rw[hw]at hll;exact pg (by kernel_rfl) himm hL (by omega) (by simp only[maxLen];omega) (fun t ht=>by have:=dq s 32 ht;simp only[maxLen];omega) hc
 ·obtain⟨k,rfl⟩:∃k:Nat,n=k:=⟨n.toNat,by omega⟩
  have hc:=Tryz.strings_SplitN ⟨⟨s⟩⟩ ⟨⟨[32]⟩⟩ k m x.w (by show s.length<_;omega) hm (Nat.le_refl 1) (by omega) (by omega);have hle:=Lib.splitB_length_le ⟨⟨[32]⟩⟩ 0 (min k ((⟨⟨s⟩⟩:ByteArray).size+1) -1) ⟨⟨s⟩⟩;have hsz:(⟨⟨s⟩⟩:ByteArray).size=s.length:=rfl;obtain⟨q1,q2⟩:=HF k (by omega) s;refine pg (by kernel_rfl) himm (L:=gQ (k:Int) s) ?_ (by omega) (by simp only[maxLen];omega) (fun t ht=>?_) hc
  ·rw[Lib.splitB_data];exact By k (by omega) s
  ·have:gQ (k:Int) s=mH k (ai s 32):=by unfold gQ;rw[if_neg (by omega),Int.toNat_natCast]
   rw[this]at ht;have:=q2 t ht;simp only[maxLen];omega
def E683:Ow 155 683:=by
 refine bH rfl ?_;rintro s b rfl hp hok x args hl hargs hnl himm _;obtain⟨h0,hs⟩:=dS (hargs 0 (by simp));obtain⟨h1,_⟩:=dS (hargs 1 (by simp));rw[vG hl,h0,h1];refine im (by kernel_rfl) himm (Calls.mono (Tryz.strings_Trim_one ⟨⟨s⟩⟩ 32 (by decide) x.w (by show s.length≤_;omega)) fun e w' ⟨h1,h2⟩=>⟨h1, ?_⟩) (fun x'=>?_)
 ·rcases h2 with rfl|rfl
  ·exact dZ.refl _
  ·exact⟨rfl,rfl,rfl,Nat.le_refl _,fun _ _=>rfl⟩
 ·have:Lib.trimB (⟨⟨s⟩⟩:ByteArray).data.toList 32=er s:=EP s;rw[this];have hb:(er s).length≤s.length:=by
   unfold er;have h1:=kN s;have h2:=kN (pz s).reverse;simp only[List.length_reverse]at h2⊢;omega
  exact rh _ (by omega)
def E469:Ow 65 469:=by
 refine bH rfl ?_;rintro l hp hok x args hl hargs hnl himm _;have h0:=hargs 0 (by simp);rw[Jp hl];simp only[List.getD_cons_zero]at h0;generalize args.getD 0 undef=v0 at h0⊢;cases h0 with
 |sl a b off len cap k es c hlen ha hcap hm hk hn hc h1 h=>
  simp only[List.length_map]at hlen;subst hlen;have fin:∀(e:Ending) (w':World) v' ty,e=.returned v'→w'.ownsRow x.w.heap.size ty 1 v' l.length (l.map fun t=>Value.string ⟨⟨t⟩⟩)→Go.RowKit.Below x.w.heap.size x.w w'→
    ∃v,e=.returned v∧dZ x.w w'∧∃I:Nat→Prop,(∀b,x.I b→I b)∧(∀b,I b→x.I b∨x.w.heap.size≤b∧b<w'.heap.size)∧RD sy ⟨w',I,x.β⟩ v (.sl 1 (l.map D.str)):=by
   rintro e w' v' ty rfl ⟨hxl,ho⟩ hB;refine⟨v',rfl,⟨hB.os,hB.tape,hB.output,hB.size,hB.block⟩, ?_⟩;rcases ho with⟨rfl,hl0⟩|⟨g,cap',cur,rfl,hg,hh,hle,hml,hcs,htk⟩
   ·have:l=[]:=List.length_eq_zero_iff.1 hl0;subst this;exact⟨x.I,fun _ h=>h,fun _ h=>.inl h,.sl none 0 0 0 0 1 [] (fun _ _=>.nilIface) rfl (.inl rfl) (Nat.le_refl _) (by simp[maxLen]) (fun i hi=>by omega) (fun i hi=>by omega) (fun i j hi=>by omega) (fun i j hi=>by omega) (fun i j hi=>by omega)⟩
   ·have hgl:g<w'.heap.size:=(Array.getElem?_eq_some_iff.1 hh).1;have hgt:∀i (hi:i<l.length),((l.map D.str).getD i .any)=.str l[i]:=fun i hi=>by simp[hi]
    refine⟨fun q=>x.I q∨q=g,fun _ h=>.inl h,fun q hq=>hq.imp id fun h=>by subst h;exact⟨hg,hgl⟩, ?_⟩;refine .sl _ g 0 l.length cap' 1 _ (fun i _=>.string ⟨⟨l.getD i []⟩⟩) (by simp) (.inr ⟨rfl,.inr rfl⟩) hle hml (fun i hi=>by rw[hgt i hi];rfl) (fun i hi=>by rw[hgt i hi];rfl) (fun i j hi hj=>?_) (fun _ _ _ _=>rfl) (fun i j hi hj=>?_)
    ·obtain rfl:j=0:=by omega
     refine(cell_of_heap (c:=cur) (T:=ty) (fr:=(0,0)) hh (by omega)).trans ?_;have e1:cur.toList[i]? =some (.string ⟨⟨l.getD i []⟩⟩):=by
      have e2:(cur.toList.take (l.length*1))[i]? =(l.map fun t=>Value.string ⟨⟨t⟩⟩)[i]? :=by rw[htk]
      rw[List.getElem?_take,if_pos (by omega)]at e2;rw[e2];simp[hi]
     have e3:cur[i]? =some (.string ⟨⟨l.getD i []⟩⟩):=by rw[←e1];simp
     rw[show(0+i*1+0:Nat)=i by omega,Array.getD_eq_getD_getElem?,e3];rfl
    ·obtain rfl:j=0:=by omega
     rw[hgt i hi];have q2:=h i 0 hi (by omega);rw[hgt i hi]at q2;obtain⟨_,q3⟩:=dS q2;have:l.getD i []=l[i]:=by simp[hi]
     rw[this];exact .str _ q3
  rcases ha with he|⟨rfl,hI⟩
  ·have hnil:l=[]:=by simpa using he
   subst hnil;cases a with
   |none=>exact im (by kernel_rfl) himm (Calls.mono (Tryz.slices_Clone_string_nil 0 cap x.w) fun e w' ⟨h1,h2⟩=>⟨h1,h2▸dZ.refl _⟩) (fun x'=>.sl none 0 0 0 0 1 [] (fun _ _=>.nilIface) rfl (.inl rfl) (Nat.le_refl _) (by simp[maxLen]) (fun i hi=>by omega) (fun i hi=>by omega) (fun i j hi=>by omega) (fun i j hi=>by omega) (fun i j hi=>by omega))
   |some a=>exact nH (by kernel_rfl) himm (Calls.mono (Tryz.slices_Clone_string_zero a cap x.w) fun e w' ⟨v',h1,h2,_,h3⟩=>fin e w' v' _ h1 h2 h3)
  ·have hcell:∀i,(hi:i<l.length)→x.w.cell? ⟨b,off+i,none⟩=some (.string ⟨⟨l[i]⟩⟩):=fun i hi=>by
    have q1:=hc i 0 hi (by omega);have q2:=h i 0 hi (by omega);have e:((l.map D.str).getD i .any).cells.getD 0 .any=.str l[i]:=by simp[hi,D.cells]
    rw[e]at q2;rw[(dS q2).1]at q1;simpa using q1
   refine nH (by kernel_rfl) himm (Calls.mono (Tryz.slices_Clone_string b off l.length cap (l.map fun t=>⟨⟨t⟩⟩) x.w (by simp) (by omega) (fun j hj=>?_)) fun e w' ⟨v',h1,h2,_,h3⟩=>?_)
   ·rw[List.length_map]at hj;rw[hcell j hj];simp[hj]
   ·have:((l.map fun t=>(⟨⟨t⟩⟩:ByteArray)).take l.length).map Value.string=l.map fun t=>Value.string ⟨⟨t⟩⟩:=by
     rw[List.take_of_length_le (by simp),List.map_map];rfl
    rw[this]at h2;exact fin e w' v' _ h1 h2 h3
def E489:Ow 131 489:=sA rfl fun ds st K h hok=>H0 rfl rfl Tryz.BK Tryz.Kw (Go.Proofs.enters_of Tryz.BK.f166 (by kernel_rfl) rfl) ds st K h hok
def E664:Ow 132 664:=sA rfl fun ds st K h hok=>HZ rfl rfl Tryz.BL Tryz.Kw (Go.Proofs.enters_of Tryz.BL.f167 (by kernel_rfl) rfl) ds st K h hok
def E452:Ow 96 452:=sA rfl fun ds st K h hok=>HY rfl rfl Tryz.BM Tryz.Kw (Go.Proofs.enters_of Tryz.BM.f169 (by kernel_rfl) rfl) ds st K h hok
def ud (sep:ah)(B:Nat):∀l:List ah,(∀t∈l,t.length≤B)→(aF sep l).length≤l.length*(B+sep.length)
 |[],_=>by simp[aF]
 |[t],h=>by have:=h t (.head _);simp only[aF,List.length_cons,List.length_nil];omega
 |t::u::r,h=>by
  have h1:=h t (.head _);have h2:=ud sep B (u::r) fun x hx=>h x (.tail _ hx)
  rw[dJ _ _ _ (by simp)];rw[List.length_cons,Nat.succ_mul];simp only[List.length_append];omega
def E242:Ow 95 242:=by
 refine bH rfl ?_;rintro l sep hp1 hp2 hp3 hok x args hl hargs hnl himm _;have h0:=hargs 0 (by simp);obtain⟨h1,_⟩:=dS (hargs 1 (by simp));rw[vG hl,h1];have hj:=ud sep 2097200 l hp3;have hj2:=Nat.mul_le_mul_right (2097200+sep.length) hp1;have hj3:1048600*(2097200+sep.length)≤140737488355328:=by
  have:=Nat.mul_le_mul_left 1048600 (show 2097200+sep.length≤2097204 by omega);omega
 have hjm:(aF sep l).length≤140737488355328:=by omega
 simp only[List.getD_cons_zero]at h0;generalize args.getD 0 undef=v0 at h0⊢;cases h0 with
 |sl a b off len cap k es c hlen ha hcap hm hk hn hc h1 h=>
  simp only[List.length_map]at hlen;subst hlen;rcases ha with he|⟨rfl,hI⟩
  ·have hnil:l=[]:=by simpa using he
   subst hnil;refine im (by kernel_rfl) himm (Calls.mono (Tryz.strings_Join_none a cap ⟨⟨sep⟩⟩ x.w) fun e w' ⟨h1,h2⟩=>⟨h1,h2▸dZ.refl _⟩) (fun x'=>?_);exact rh [] (by simp)
  ·have hcell:∀i,(hi:i<l.length)→x.w.cell? ⟨b,off+i,none⟩=some (.string ⟨⟨l[i]⟩⟩):=fun i hi=>by
    have q1:=hc i 0 hi (by omega);have q2:=h i 0 hi (by omega);have e:((l.map D.str).getD i .any).cells.getD 0 .any=.str l[i]:=by simp[hi,D.cells]
    rw[e]at q2;rw[(dS q2).1]at q1;simpa using q1
   have e2:(l.map fun t=>(⟨⟨t⟩⟩:ByteArray)).map (fun t=>t.data.toList)=l:=by rw[List.map_map];exact List.map_id l
   have hjl:Lib.join ((l.map fun t=>(⟨⟨t⟩⟩:ByteArray)).map (fun t=>t.data.toList)) (⟨⟨sep⟩⟩:ByteArray).data.toList=aF sep l:=by rw[e2];exact(za sep l).symm
   have key:=Tryz.strings_Join b off cap (l.map fun t=>⟨⟨t⟩⟩) ⟨⟨sep⟩⟩ x.w (fun j y hy=>by
    rw[List.getElem?_map,Option.map_eq_some_iff]at hy;obtain⟨t,ht,rfl⟩:=hy;obtain⟨hlt,rfl⟩:=List.getElem?_eq_some_iff.1 ht;exact hcell j hlt) (himm b hI) (by simp;omega) (by simpa using hcap) (by rw[hjl];exact hjm)
   rw[hjl,List.length_map]at key;refine im (by kernel_rfl) himm (Calls.mono key fun e w' ⟨h1,h2⟩=>⟨h1,h2.os,h2.tape,h2.output,h2.size,h2.block⟩) (fun x'=>?_);exact .str _ (by simp only[maxLen];omega)
end Go.Abs
end
section
namespace Go.Abs
section
variable [bU]
def H69:Ow 12 69:=bH rfl (aX bC ck rfl (w69 (aO _ _ _ _) G72 G76))
def H209:Ow 42 209:=bH rfl fun v hp0=>aX bC ck rfl (w209 (aO _ _ _ _) G440 G441 Nb v hp0)
def H215:Ow 48 215:=bH rfl fun r hp0=>aX bC ck rfl (w215 (aO _ _ _ _) Kg G450 Nf G452 r hp0)
def H230:Ow 37 230:=bH rfl fun l i hp0=>aX bC ck rfl (w230 (aO _ _ _ _) EB G482 l i hp0)
def H440:Ow 82 440:=bH rfl fun n=>aX bC ck rfl (w440 (aO _ _ _ _) n)
def H446:Ow 89 446:=bH rfl fun m=>aX bC ck rfl (w446 (aO _ _ _ _) Nk Nl m)
def H454:Ow 98 454:=bH rfl fun c=>aX bC ck rfl (w454 (aO _ _ _ _) c)
def H468:Ow 64 468:=K8 rfl MZ fun r hp0=>y5 2 bC ck rfl rfl (w468 (aO _ _ _ _) Ng r hp0)
def H482:Ow 80 482:=bH rfl fun c hp0=>aX bC ck rfl (w482 (aO _ _ _ _) G249 G676 G677 G678 c hp0)
def H658:Ow 116 658:=bH rfl fun s=>aX bC ck rfl (w658 (aO _ _ _ _) s)
def H665:Ow 133 665:=bH rfl fun n hp0=>aX bC ck rfl (w665 (aO _ _ _ _) G336 n hp0)
def H677:Ow 120 677:=sA rfl fun c hp0 nx m K hK=>Ec rfl rfl bC ck rfl rfl hK (w677 (aO _ _ _ _) c G734 hp0)
def H808:Ow 158 808:=sA rfl ⟨fun w nd hp0 nx lp ln m K h1 h2 h3 h4 hK=>iC m9 (by decide) rfl (fun _=>rfl) bC ck rfl h1 h2 h3 h4 hK (Oe (aO _ _ _ _) pB 809 z7 4 w nd Kl Ht Hu hp0 AD (by decide) (by decide) (fun w2 nd2 hl hp=>Np (Nat.le_refl _) w2 nd2 hp (by rw[jX h1];exact(show 6*w2.length+2<6*w.length+3 by omega)))),fun w nd hp0 nx lp ln m K h1 h2 h3 h4 hK=>iC m9 (by decide) rfl (fun _=>rfl) bC ck rfl h1 h2 h3 h4 hK (Oe (aO _ _ _ _) lE 949 r7 3 w nd Kl Ht Hu hp0 vT (by decide) (by decide) (fun w2 nd2 hl hp=>Jj (Nat.le_refl _) w2 nd2 hp (by rw[jX h1];exact(show 6*w2.length+0<6*w.length+1 by omega))))⟩
def H828:Ow 189 828:=bH rfl fun c hp0=>aX bC ck rfl (w828 (aO _ _ _ _) Nn Kk Nv c hp0)
def H950:Ow 194 950:=bH rfl (aX bC ck rfl (w950 (aO _ _ _ _)))
end
end Go.Abs
end
section
namespace Go.Abs
section
variable [bU]
def H70:Ow 20 70:=bH rfl fun r hp0=>aX bC ck rfl (w70 (aO _ _ _ _) Kf Hr G210 M3 M4 G213 G214 M5 r hp0)
def H210:Ow 43 210:=bH rfl fun r n hp0=>aX bC ck rfl (w210 (aO _ _ _ _) M4 CI G443 r n hp0)
def H217:Ow 51 217:=bH rfl fun v hp0=>aX bC ck rfl (w217 (aO _ _ _ _) G455 G456 v hp0)
def H231:Ow 38 231:=bH rfl fun l i hp0=>aX bC ck rfl (w231 (aO _ _ _ _) EB Ni l i hp0)
def H441:Ow 83 441:=bH rfl fun s hp0=>aX bC ck rfl (w441 (aO _ _ _ _) Nb Hs Ki G659 s hp0)
def H447:Ow 90 447:=bH rfl fun l=>aX bC ck rfl (w447 (aO _ _ _ _) l)
def H455:Ow 99 455:=bH rfl fun n=>aX bC ck rfl (w455 (aO _ _ _ _) n)
def H470:Ow 66 470:=bH rfl fun s b hp0=>aX bC ck rfl (w470 (aO _ _ _ _) s b hp0)
def H483:Ow 81 483:=bH rfl fun l s hp0=>aX bC ck rfl (w483 (aO _ _ _ _) l s hp0)
def H659:Ow 122 659:=bH rfl fun t=>aX bC ck rfl (w659 (aO _ _ _ _) t)
def H666:Ow 135 666:=bH rfl fun t=>aX bC ck rfl (w666 (aO _ _ _ _) t)
def H678:Ow 121 678:=bH rfl fun op=>aX bC ck rfl (w678 (aO _ _ _ _) op)
def H809:Ow 159 809:=sA rfl fun w nd hp0 nx lp ln m K h1 h2 h3 h4 hK=>iC m9 (by decide) rfl (fun _=>rfl) bC ck rfl h1 h2 h3 h4 hK (w809 (aO _ _ _ _) w nd (Jh (Nat.le_of_eq (jX (c:=fun _=>2) h1).symm)) hp0)
def H882:Ow 179 882:=bH rfl fun n hp0=>aX bC ck rfl (w882 (aO _ _ _ _) n hp0)
def H951:Ow 195 951:=bH rfl fun l i b hp0=>aX bC ck rfl (w951 (aO _ _ _ _) l i b (Ji (Nat.le_refl _)) hp0)
end
end Go.Abs
end
section
namespace Go.Abs
section
variable [bU]
def H72:Ow 21 72:=bH rfl fun r hp0=>aX bC ck rfl (w72 (aO _ _ _ _) G70 M5 r hp0)
def H211:Ow 44 211:=bH rfl fun r name rng hp0=>aX bC ck rfl (w211 (aO _ _ _ _) Kf G444 r name rng hp0)
def H222:Ow 29 222:=K8 rfl MW fun r hp0=>y5 2 bC ck rfl rfl (w222 (aO _ _ _ _) G466 G467 Nh G469 Ns r hp0)
def H232:Ow 39 232:=bH rfl fun l i r hp0 hp1=>aX bC ck rfl (w232 (aO _ _ _ _) EC Kh G483 l i r hp0 hp1)
def H442:Ow 84 442:=bH rfl fun s hp0=>aX bC ck rfl (w442 (aO _ _ _ _) Hs s hp0)
def H448:Ow 91 448:=bH rfl fun s hp0=>aX bC ck rfl (w448 (aO _ _ _ _) Kf G254 CI G487 s hp0)
def H456:Ow 100 456:=bH rfl fun s p hp0=>aX bC ck rfl (w456 (aO _ _ _ _) G470 G666 G667 G668 s p hp0)
def H478:Ow 18 478:=bH rfl fun v n hp0=>aX bC ck rfl (w478 (aO _ _ _ _) v n hp0)
def H494:Ow 150 494:=bH rfl fun l x=>aX bC ck rfl (w494 (aO _ _ _ _) l x)
def H660:Ow 125 660:=sA rfl fun w nd hp0 nx lp ln m K h1 h2 h3 h4 hK=>iC m9 (by decide) rfl (fun _=>rfl) bC ck rfl h1 h2 h3 h4 hK (w660 (aO _ _ _ _) w nd (Jh (Nat.le_of_eq (jX (c:=fun _=>4) h1).symm)) hp0)
def H667:Ow 136 667:=bH rfl fun s=>aX bC ck rfl (w667 (aO _ _ _ _) G454 s)
def H682:Ow 154 682:=bH rfl fun s hp0=>aX bC ck rfl (w682 (aO _ _ _ _) G819 s hp0)
def H810:Ow 160 810:=bH rfl fun l=>aX bC ck rfl (w810 (aO _ _ _ _) CI l)
def H946:Ow 190 946:=bH rfl fun w es b=>aX bC ck rfl (w946 (aO _ _ _ _) w es b)
def H956:Ow 212 956:=bH rfl fun s w=>aX bC ck rfl (w956 (aO _ _ _ _) s w)
end
end Go.Abs
end
section
namespace Go.Abs
section
variable [bU]
def H76:Ow 13 76:=bH rfl fun s=>aX bC ck rfl (w76 (aO _ _ _ _) G70 Hq G222 s)
def H212:Ow 45 212:=bH rfl fun s=>aX bC ck rfl (w212 (aO _ _ _ _) G445 G446 s)
def H227:Ow 35 227:=bH rfl fun n=>aX bC ck rfl (w227 (aO _ _ _ _) EC n)
def H246:Ow 113 246:=bH rfl fun l x=>aX bC ck rfl (w246 (aO _ _ _ _) G494 l x)
def H443:Ow 85 443:=bH rfl fun r w al hp0=>aX bC ck rfl (w443 (aO _ _ _ _) M3 CI r w al hp0)
def H449:Ow 92 449:=bH rfl fun l nm=>aX bC ck rfl (w449 (aO _ _ _ _) G663 l nm)
def H465:Ow 61 465:=NS rfl MX (fun r w n op hp0 hp1 hp2=>y5 2 bC ck rfl rfl (Od (aO _ _ _ _) M9 Na r w n op hp0 hp1 hp2)) fun r w n op l nx m K hp0 hp1 hp2 hl hK=>HX (y5 2 bC ck rfl rfl (Od (aO _ _ _ _) M9 Na r w n op hp0 hp1 hp2)) hl rfl rfl hK
def H479:Ow 40 479:=bH rfl fun l i=>aX bC ck rfl (w479 (aO _ _ _ _) l i)
def H495:Ow 123 495:=bH rfl fun s hp0=>aX bC ck rfl (w495 (aO _ _ _ _) Hq G682 G683 Kj G685 Nr s hp0)
def H661:Ow 126 661:=bH rfl fun m=>aX bC ck rfl (w661 (aO _ _ _ _) Nl G810 m)
def H668:Ow 137 668:=bH rfl fun t=>aX bC ck rfl (w668 (aO _ _ _ _) t)
def H684:Ow 156 684:=bH rfl fun r hp0=>aX bC ck rfl (w684 (aO _ _ _ _) Kg Kk Nq r hp0)
def H811:Ow 161 811:=bH rfl fun l i hp0=>aX bC ck rfl (w811 (aO _ _ _ _) Nt l i (Ji (Nat.le_refl _)) (Nu (Nat.le_refl _)) hp0)
def H947:Ow 191 947:=sA rfl fun w nd b nx lp ln m K h1 h2 h3 h4 hK=>DX m9 (by decide) rfl (fun _=>rfl) bC ck rfl h1 h2 h3 h4 hK (w947 (aO _ _ _ _) w nd b Kl)
def H957:Ow 213 957:=bH rfl fun op=>aX bC ck rfl (w957 (aO _ _ _ _) op)
end
end Go.Abs
end
section
namespace Go.Abs
section
variable [bU]
def H79:Ow 17 79:=bH rfl fun l i own hp0 hp1=>aX bC ck rfl (w79 (aO _ _ _ _) M6 EB G229 M7 M8 G232 l i own hp0 hp1)
def H213:Ow 46 213:=bH rfl fun l hp0=>aX bC ck rfl (w213 (aO _ _ _ _) CI G447 Nc G449 l hp0)
def H228:Ow 19 228:=bH rfl fun l i n hp0=>aX bC ck rfl (w228 (aO _ _ _ _) EC Kh l i n hp0)
def H249:Ow 77 249:=bH rfl fun l x hp0=>aX bC ck rfl (w249 (aO _ _ _ _) l x hp0)
def H444:Ow 87 444:=bH rfl fun s hp0=>aX bC ck rfl (w444 (aO _ _ _ _) G495 G496 s hp0)
def H450:Ow 93 450:=sA rfl fun ws t l lw nx m K h1 h2 h3 h4 hp2 hK=>Dy bC ck rfl h1 h2 h3 h4 hK fun m0 hp0 hp1=>w450 (aO _ _ _ _) ws t m0 Kg G489 G664 hp0 hp1 hp2
def H466:Ow 62 466:=bH rfl fun s hp0=>aX bC ck rfl (w466 (aO _ _ _ _) Hr Nf Hs Ki G675 s hp0)
def H480:Ow 78 480:=bH rfl fun l i own alone hp0 hp1=>aX bC ck rfl (w480 (aO _ _ _ _) M6 EB M7 l i own alone hp0 hp1)
def H496:Ow 124 496:=bH rfl fun r hp0=>aX bC ck rfl (w496 (aO _ _ _ _) Kj r hp0)
def H662:Ow 127 662:=bH rfl fun l hp0=>aX bC ck rfl (w662 (aO _ _ _ _) G811 l hp0)
def H675:Ow 114 675:=bH rfl fun s b=>aX bC ck rfl (w675 (aO _ _ _ _) s b)
def H685:Ow 157 685:=bH rfl fun r hp0=>aX bC ck rfl (w685 (aO _ _ _ _) Kj r hp0)
def H819:Ow 180 819:=bH rfl fun s hp0=>aX bC ck rfl (w819 (aO _ _ _ _) Hs Ki Kk Nq G956 Nv s hp0)
def H948:Ow 192 948:=sA rfl fun x w nd b hp0 nx lp ln m K h1 h2 h3 h4 hK=>iC m9 (by decide) rfl (fun _=>rfl) bC ck rfl h1 h2 h3 h4 hK (w948 (aO _ _ _ _) x w nd b hp0)
def Nw:Ow 217 1031:=sA rfl fun k w nd b hp0 nx lp ln m K h1 h2 h3 h4 hK=>iC m9 (by decide) rfl (fun _=>rfl) bC ck rfl h1 h2 h3 h4 hK (Ob (aO _ _ _ _) k w nd b CI Ht Hu Nt hp0)
end
end Go.Abs
end
section
namespace Go.Abs
section
variable [bU]
def H208:Ow 41 208:=bH rfl fun s=>aX bC ck rfl (w208 (aO _ _ _ _) s)
def H214:Ow 47 214:=bH rfl fun r s hp0=>aX bC ck rfl (w214 (aO _ _ _ _) Nc r s hp0)
def H229:Ow 36 229:=bH rfl fun l i own hp0 hp1=>aX bC ck rfl (w229 (aO _ _ _ _) EB M8 Kh G480 Ni l i own hp0 hp1)
def H349:Ow 86 349:=bH rfl fun s=>aX bC ck rfl (w349 (aO _ _ _ _) s)
def H445:Ow 88 445:=bH rfl fun s=>aX bC ck rfl (w445 (aO _ _ _ _) Hq G660 Nk s)
def H451:Ow 94 451:=bH rfl fun v hp0=>aX bC ck rfl (w451 (aO _ _ _ _) Hr Nn v hp0)
def H467:Ow 63 467:=K8 rfl MY fun r hp0=>y5 2 bC ck rfl rfl (w467 (aO _ _ _ _) Hq Ng Nh r hp0)
def H481:Ow 79 481:=bH rfl fun n=>aX bC ck rfl (w481 (aO _ _ _ _) EC n)
def H533:Ow 115 533:=bH rfl fun s b hp0=>aX bC ck rfl (w533 (aO _ _ _ _) s b hp0)
def H663:Ow 130 663:=bH rfl fun l nm=>aX bC ck rfl (w663 (aO _ _ _ _) l nm)
def H676:Ow 119 676:=bH rfl fun c hp0=>aX bC ck rfl (w676 (aO _ _ _ _) G217 c hp0)
def H734:Ow 153 734:=bH rfl fun n hp0=>aX bC ck rfl (w734 (aO _ _ _ _) G882 n hp0)
def H827:Ow 188 827:=bH rfl fun c hp0=>aX bC ck rfl (w827 (aO _ _ _ _) Hr c hp0)
def H949:Ow 193 949:=sA rfl fun w nd hp0 nx lp ln m K h1 h2 h3 h4 hK=>iC m9 (by decide) rfl (fun _=>rfl) bC ck rfl h1 h2 h3 h4 hK (w949 (aO _ _ _ _) w nd (Nj (Nat.le_of_eq (jX (c:=fun _=>0) h1).symm)) Ht Hu (Jj (Nat.le_of_eq (jX (c:=fun _=>0) h1).symm)) M1 hp0)
def Nx:Ow 6 1192:=bH rfl fun l a=>aX bC ck rfl (Oc (aO _ _ _ _) G69 G72 G76 G79 EC l a)
end
end Go.Abs
end
namespace Go.Abs
def Hh:List (Nat×Nat)→Prop
 |[]=>True
 |p::r=>Ow p.1 p.2∧Hh r
def Hh.mem:∀{l:List (Nat×Nat)},Hh l→∀p∈l,Ow p.1 p.2
 |p::r,h,q,hq=>by
  rcases List.mem_cons.1 hq with rfl|hq
  ·exact h.1
  ·exact h.2.mem q hq
def allY:Hh sy:=⟨Nx,H69,H76,H79,H478,H228,H70,H72,E124,H222,H227,H229,H230,H231,H232,H479,H208,H209,H210,H211,H212,H213,H214,H215,H217,H465,H466,H467,H468,E469,H470,H249,H480,H481,H482,H483,H440,H441,H442,H443,H349,H444,H445,H446,H447,H448,H449,H450,H451,E242,E452,H454,H455,H456,E245,H246,H675,H533,H658,H676,H677,H678,H659,H495,H496,H660,H661,H662,E254,E487,H663,E489,E664,H665,H666,H667,H668,H494,H734,H682,E683,H684,H685,H808,H809,H810,H811,E336,H882,H819,H827,H828,H946,H947,H948,H949,H950,H951,H956,H957,Nw,trivial⟩
def qu:∀{l:List (Nat×Nat)}{a b:Nat},c9 l a=some b→(a,b)∈l
 |[],_,_,h=>by simp[c9]at h
 |(c,d)::r,a,b,h=>by
  simp only[c9]at h;split at h
  ·rename_i e;simp_all
  ·exact .tail _ (qu h)
def okY:Ok (Go.Proofs.Tryz.prog) sy EY (vl ba):=okA (fun fid n hn=>(show ∀p∈sy,p.2<1000000 by decide+kernel) _ (qu hn)) (fun t ht=>by simp[EY]at ht;show t=133;omega) fun fid n hn=>allY.mem (fid,n) (qu hn)
end Go.Abs
section
namespace Go.Abs
open Go.RowKit Go.ChangeShapes
def dZ.below {w w':World}(h:dZ w w'):Below w.heap.size w w':=⟨h.os,h.tape,h.output,h.size,h.old⟩
section
variable {H:Type} {enc:TypeId×Value→H} {P:Program}
def vx {f:Func}{s:ChangeSpec}{apart fresh handsOn again:Bool}{W W':World}{args:Array Value}{v:Value}{ds gs:List (DataW H)}{before pa pv:List MemPlace}
  (hW:DataW.Whole enc P f.params.toList s.vars apart W args.toList ds gs before)
  (hres:∀(b:Nat) (sp:Nat→Bool) (hd:Bool),DataW.TrodAll enc P W' b sp hd f.resultTypes.toList (v.resultList f.resultTypes.size) (s.fn H (ds++gs)).results [])
  (hargs:∀sp:Nat→Bool,(∀p∈before,sp p.block=true)→DataW.TrodAll enc P W' 0 sp true f.params.toList args.toList (s.fn H (ds++gs)).args pa)
  (hvars:∀sp:Nat→Bool,(∀p∈before,sp p.block=true)→DataW.TrodVars enc P W' sp s.vars (s.fn H (ds++gs)).vars pv)
  (hps:before=pa++pv) (hb:Below W.heap.size W W')
  (hok:∀(j:Nat) (t:TypeId) (r:Value),f.resultTypes[j]? =some t→(v.resultList f.resultTypes.size)[j]? =some r→Value.okWide P W' .any 0 t r):
  s.post enc P f apart fresh handsOn again W args v W':=by
 have hold:∀p∈before,(fun b=>decide (b<W.heap.size)) p.block=true:=fun p hp=>by simpa using hW.lt p hp
 refine⟨ds,gs,before,[],pa,pv,hW,hres _ _ _,hargs _ hold,hvars _ hold,World.keptBut_mono (fun p hp=>⟨hp, ?_⟩) (hb.frame (· ∈before)),fun _=>?_⟩
 ·rw[hps,List.mem_append]at hp;exact Or.inr hp
 ·have hlt:=hW.lt;obtain⟨_,_,_,_,_,hz,hn⟩:=hW;refine⟨hok,_,_,([]++pa)++pv,⟨[]++pa,pv,trodAll_append (hargs _ (fun _ _=>rfl)) (hres _ _ _),hvars _ (fun _ _=>rfl),rfl, ?_, ?_⟩, ?_⟩
  ·intro b off hp;have hmem:MemPlace.cell b off∈before:=by rw[hps];simpa using hp
   have hq:=hz b off hmem;have hl:b<W.heap.size:=hlt _ hmem;simpa only[World.frozen?,hb.block b hl]using hq
  ·intro ha;have:=hn ha;rw[hps]at this;simpa using this
  ·intro p hp _;rw[hps];simpa using hp
end
end Go.Abs
end
section
namespace Go.Abs
inductive Lf
 |str
 |int (k:IntKind)
 |bool
 |sl (ag:Bool) (k:Nat) (cs:List Lf)
mutual
/--a value that fits a leaf,of so much bulk -/
def fit:Lf→D→Nat→Prop
 | .str,d,n=>∃s,d=.str s∧s.length+1≤n
 | .int k,d,n=>(∃m,d=.int k m∧(Lit.int k m).wf=true)∧1≤n
 | .bool,d,n=>(∃b,d=.bool b)∧1≤n
 | .sl ag k cs,d,n=>∃es,d=.sl k es∧∃ns:List Nat,ns.length=es.length∧ns.sum+1≤n∧∀i,i<es.length→∃ds,es.getD i .any=(bif ag then .agg ds else ds.getD 0 .any)∧gT cs ds (ns.getD i 0)
def gT:List Lf→List D→Nat→Prop
 |[],ds,_=>ds=[]
 |c::r,ds,n=>∃d ds' n1 n2,ds=d::ds'∧n1+n2≤n∧fit c d n1∧gT r ds' n2
end
def pO:∀{cs:List Lf}{ds:List D}{n:Nat},gT cs ds n→ds.length=cs.length
 |[],ds,n,h=>by simp only[gT]at h;simp[h]
 |c::r,ds,n,h=>by
  simp only[gT]at h;obtain⟨d,ds',n1,n2,rfl,_,_,h2⟩:=h;simp[pO h2]
def rM:∀{a b:List Lf}{da db:List D}{n m:Nat},gT a da n→gT b db m→gT (a++b) (da++db) (n+m)
 |[],b,da,db,n,m,h1,h2=>by
  simp only[gT]at h1;subst h1;simp only[List.nil_append];exact fitL_mono h2 (by omega)
 |c::r,b,da,db,n,m,h1,h2=>by
  simp only[gT]at h1;obtain⟨d,ds',n1,n2,rfl,h3,h4,h5⟩:=h1;simp only[List.cons_append,gT];exact⟨d,ds'++db,n1,n2+m,rfl,by omega,h4,rM h5 h2⟩
where
 fitL_mono:∀{cs:List Lf} {ds:List D} {n m:Nat},gT cs ds n→n≤m→gT cs ds m
 |[],_,_,_,h,_=>h
 |c::r,ds,n,m,h,hm=>by
  simp only[gT]at h⊢;obtain⟨d,ds',n1,n2,rfl,h3,h4,h5⟩:=h;exact⟨d,ds',n1,n2,rfl,by omega,h4,h5⟩
def BS {c:Lf}{d:D}{n:Nat}(h:fit c d n):d.cells=[d]∧d.aK=true:=by
 cases c<;>simp only[fit]at h
 ·obtain⟨s,rfl,_⟩:=h;exact⟨rfl,rfl⟩
 ·obtain⟨⟨m,rfl,_⟩,_⟩:=h;exact⟨rfl,rfl⟩
 ·obtain⟨⟨b,rfl⟩,_⟩:=h;exact⟨rfl,rfl⟩
 ·obtain⟨es,rfl,_⟩:=h;exact⟨rfl,rfl⟩
def oK:∀{cs:List Lf}{ds:List D}{n:Nat},gT cs ds n→aH ds=true
 |[],ds,n,h=>by simp only[gT]at h;subst h;rfl
 |c::r,ds,n,h=>by
  simp only[gT]at h;obtain⟨d,ds',n1,n2,rfl,_,h1,h2⟩:=h;simp only[aH,(BS h1).2,oK h2,Bool.and_self]
def CN (b o m j:Nat):((⟨b,o,none⟩:Addr).add m).add j=⟨b,o+m+j,none⟩:=by
 unfold Addr.add;split<;>split<;>simp_all
section
variable {H:Type}
mutual
def dB:DataW H→Nat
 | .lit (.string s)=>s.length+1
 | .slice es _=>HG es+1
 | .agg ps=>HG ps
 |_=>1
def HG:List (DataW H)→Nat
 |[]=>0
 |d::r=>dB d+HG r
end
def BN:∀ds:List (DataW H),HG ds=(ds.map dB).sum
 |[]=>rfl
 |d::r=>by simp only[HG,List.map_cons,List.sum_cons,BN r]
end
def qS (P:Program)(t:TypeId):Bool:=match P.underlying t with
 |some (.struct _)=>true
 |some (.array _ _)=>true
 |_=>false
def LW (P:Program)(F:TypeId→Option (List Lf)):List Field→Nat→Option (List Lf)
 |[],_=>some []
 |f::r,off=>match F f.type,LW P F r (off+P.cellsOf f.type)with
  |some a,some b=>if f.offset=off∧a.length=P.cellsOf f.type then some (a++b)else none
  |_,_=>none
def arrF (e:TypeId)(off:Nat):Field:={(default:Field)with type:=e,offset:=off}
def vt (P:Program):Nat→TypeId→Option (List Lf)
 |0,_=>none
 |n+1,t=>match P.underlying t with
  |some .bool=>some [.bool]
  |some (.int k)=>some [.int k]
  |some .string=>some [.str]
  |some (.slice e)=>match vt P n e with
   |some cs=>if cs.length=P.cellsOf e∧0<cs.length∧(qS P e=true∨cs.length=1)then some [.sl (qS P e) (P.cellsOf e) cs]else none
   |none=>none
  |some (.struct fs)=>match LW P (vt P n) fs.toList 0 with
   |some a=>if a.length=P.cellsOf t then some a else none
   |none=>none
  |some (.array k e)=>match LW P (vt P n) ((List.range k).map fun i=>arrF e (i*P.cellsOf e)) 0 with
   |some a=>if a.length=P.cellsOf t then some a else none
   |none=>none
  |_=>none
section
variable {H:Type} {enc:TypeId×Value→H} {P:Program} {ν:List (Nat×Nat)}
def sH (W:World):X:=⟨W,fun b=>b<W.heap.size,fun _=>none⟩
def Rds (ν:List (Nat×Nat))(W:World)(cs:List Value)(a:List Lf)(n:Nat):Prop:=
 cs.length=a.length∧∃ds:List D,gT a ds n∧∀i,i<cs.length→RD ν (sH W) (cs.getD i undef) (ds.getD i .any)∧(cs.getD i undef).oneCell'=true
def Rds.one {W:World}{v:Value}{c:Lf}{d:D}{n:Nat}(hf:fit c d n)(hr:RD ν (sH W) v d)(h1:v.oneCell'=true):Rds ν W [v] [c] n:=
 ⟨rfl,[d],by simp only[gT];exact⟨d,[],n,0,rfl,by omega,hf,rfl⟩,fun i hi=>by
  obtain rfl:i=0:=by simpa using hi
  exact⟨hr,h1⟩⟩
def A1 {W:World}{F:TypeId→Option (List Lf)}{m:Nat}{sp:Nat→Bool}{held:Bool}{cs:List Value}
  (hF:∀t a cs (x:DataW H×List MemPlace),F t=some a→DataW.trod enc P W 0 sp held m t cs=some x→Rds ν W cs a (dB x.1)):
  ∀(r:List Field) (off:Nat) (a:List Lf) (xs:List (DataW H×List MemPlace)),LW P F r off=some a→xs.length=r.length→
   (∀(i:Nat) (f:Field),r[i]? =some f→DataW.trod enc P W 0 sp held m f.type ((cs.drop f.offset).take (P.cellsOf f.type))=xs[i]?)→off+a.length≤cs.length→
   ∃ds:List D,gT a ds (HG (xs.map (·.1)))∧∀i,i<a.length→RD ν (sH W) (cs.getD (off+i) undef) (ds.getD i .any)∧(cs.getD (off+i) undef).oneCell'=true
 |[],off,a,xs,h,hl,_,_=>by
  simp only[LW,Option.some.injEq]at h;subst h;exact⟨[],rfl,fun i hi=>by simp at hi⟩
 |f::r,off,a,xs,h,hl,hx,hoff=>by
  simp only[LW]at h;split at h
  ·rename_i a1 a2 h1 h2;split at h
   ·rename_i hc;simp only[Option.some.injEq]at h;subst h
    match xs,hl with
    |x::xs,hl=>
    have q:=hx 0 f rfl;simp only[List.getElem?_cons_zero]at q;obtain⟨l1,ds1,g1,g2⟩:=hF _ _ _ _ h1 q;simp only[List.length_append]at hoff;have hlen:((cs.drop f.offset).take (P.cellsOf f.type)).length=a1.length:=by rw[←l1]
    obtain⟨ds2,g3,g4⟩:=A1 hF r _ a2 xs h2 (by simpa using hl) (fun i f' hf=>by simpa using hx (i+1) f' (by simpa using hf)) (by omega);have hd1:=pO g1;refine⟨ds1++ds2,by simp only[List.map_cons,HG];exact rM g1 g3,fun i hi=>?_⟩;simp only[List.length_append]at hi;by_cases hi1:i<a1.length
    ·have:=g2 i (by omega);have e1:(ds1++ds2).getD i .any=ds1.getD i .any:=by simp[List.getD,List.getElem?_append,hd1,hi1]
     have e2:((cs.drop f.offset).take (P.cellsOf f.type)).getD i undef=cs.getD (off+i) undef:=by
      simp only[List.getD,List.getElem?_take,List.getElem?_drop,hc.1];rw[if_pos (by omega)]
     rw[e1,←e2];exact this
    ·have:=g4 (i-a1.length) (by omega);have e1:(ds1++ds2).getD i .any=ds2.getD (i-a1.length) .any:=by simp[List.getD,List.getElem?_append,hd1,hi1]
     rw[e1,show off+i=off+P.cellsOf f.type+(i-a1.length)by omega];exact this
   ·cases h
  ·cases h
def te {W:World}{sp:Nat→Bool}{held:Bool}:∀(fl:Nat)(t:TypeId)(a:List Lf)(fuel:Nat)(cs:List Value)(x:DataW H×List MemPlace),
  vt P fl t=some a→DataW.trod enc P W 0 sp held fuel t cs=some x→Rds ν W cs a (dB x.1)
 |0,t,a,fuel,cs,x,h,_=>by simp[vt]at h
 |n+1,t,a,fuel,cs,x,h,hx=>by
  unfold vt at h;split at h
  ·rename_i ht;simp only[Option.some.injEq]at h;subst h;obtain⟨b,rfl,rfl⟩:=DataW.trod_bool ht hx;exact .one (by simp only[fit];exact⟨⟨b,rfl⟩,by simp[dB]⟩) (.bool b) rfl
  ·rename_i k ht;simp only[Option.some.injEq]at h;subst h;obtain⟨m,rfl,rfl,hw⟩:=DataW.trod_int ht hx;exact .one (by simp only[fit];exact⟨⟨m,rfl,hw⟩,by simp[dB]⟩) (.int k m) rfl
  ·rename_i ht;simp only[Option.some.injEq]at h;subst h;obtain⟨s,rfl,rfl,hs⟩:=DataW.trod_string ht hx;obtain⟨⟨l⟩⟩:=s;exact .one (d:=.str l) (by simp only[fit];exact⟨l,rfl,by simp[dB]⟩) (.str l hs) rfl
  ·rename_i e ht;split at h
   ·rename_i ce hce;split at h
    ·rename_i hk;obtain⟨hk1,hk0,hkag⟩:=hk;simp only[Option.some.injEq]at h;subst h;rcases DataW.trod_slice ht hx with⟨rfl,rfl⟩|⟨ad,len,cap,elems,rest,m,rfl,rfl,rfl,hb,hlc,hcm,hel,hat,_,_⟩
     ·refine .one (d:=.sl (P.cellsOf e) []) (by simp only[fit];exact⟨[],rfl,[],rfl,by simp[dB],fun i hi=>by simp at hi⟩) ?_ rfl;exact .sl none 0 0 0 0 _ [] (fun _ _=>undef) rfl (.inl rfl) (Nat.le_refl _) (Nat.zero_le _) (fun i hi=>by omega) (fun i hi=>by omega) (fun i j hi=>by omega) (fun i j hi=>by omega) (fun i j hi=>by omega)
     ·have key:∀i,i<len→∃(csi:List Value) (dsi:List D),(csi.length=ce.length∧∀j,j<P.cellsOf e→W.cell? ((ad.add (i*P.cellsOf e)).add j)=csi[j]?)∧gT ce dsi (dB (elems.getD i (.nil,[])).1)∧
        ∀j,j<csi.length→RD ν (sH W) (csi.getD j undef) (dsi.getD j .any)∧(csi.getD j undef).oneCell'=true:=by
       intro i hi;have q:=hat i hi;have hgi:elems[i]? =some (elems.getD i (.nil,[])):=by simp[List.getD,show i<elems.length by omega]
       rw[hgi,Option.bind_eq_some_iff]at q;obtain⟨csi,q1,q2⟩:=q;obtain⟨l1,dsi,g1,g2⟩:=te n e ce m csi _ hce q2;obtain⟨_,_,q3⟩:=World.cells?_some q1;exact⟨csi,dsi,⟨l1,q3⟩,g1,g2⟩
      let f:Nat→List Value×List D:=fun i=>if h:i<len then((key i h).choose,(key i h).choose_spec.choose)else([],[])
      have hf:∀i,i<len→((f i).1.length=ce.length∧∀j,j<P.cellsOf e→W.cell? ((ad.add (i*P.cellsOf e)).add j)=(f i).1[j]?)∧gT ce (f i).2 (dB (elems.getD i (.nil,[])).1)∧
        ∀j,j<(f i).1.length→RD ν (sH W) ((f i).1.getD j undef) ((f i).2.getD j .any)∧((f i).1.getD j undef).oneCell'=true:=by
       intro i hi;have e1:f i=((key i hi).choose,(key i hi).choose_spec.choose):=by simp[f,hi]
       rw[e1];exact(key i hi).choose_spec.choose_spec
      let es:List D:=(List.range len).map fun i=>bif qS P e then .agg (f i).2 else(f i).2.getD 0 .any
      have hes:∀i,i<len→es.getD i .any=bif qS P e then .agg (f i).2 else(f i).2.getD 0 .any:=fun i hi=>by simp[es,hi]
      have hcells:∀i,i<len→(es.getD i .any).cells=(f i).2:=fun i hi=>by
       rw[hes i hi];cases hag:qS P e with
       |true=>rfl
       |false=>
        have h1:ce.length=1:=by
         rcases hkag with h|h
         ·rw[hag]at h;cases h
         ·exact h
        match ce,h1 with
        |[c],_=>
        have g:=(hf i hi).2.1;simp only[gT]at g;obtain⟨d,ds',n1,n2,e1,_,g1,rfl⟩:=g;rw[e1];exact(BS g1).1
      have hnl:∀i,i<len→(es.getD i .any).aK=true:=fun i hi=>by
       have g:=oK (hf i hi).2.1;rw[hes i hi];cases hag:qS P e with
       |true=>exact g
       |false=>
        show((f i).2.getD 0 .any).aK=true
        match hq:(f i).2 with
        |[]=>rfl
        |d::r=>
         rw[hq]at g;simp only[aH,Bool.and_eq_true]at g;exact g.1
      refine .one (d:=.sl (P.cellsOf e) es) ?_ ?_ rfl
      ·simp only[fit];refine⟨es,rfl,elems.map fun q=>dB q.1,by simp[es,hel],by simp only[dB,BN,List.map_map];exact Nat.le_refl _,fun i hi=>?_⟩;have hi':i<len:=by simpa[es]using hi
       refine⟨(f i).2,hes i hi', ?_⟩;have:=(hf i hi').2.1;have e2:(elems.map fun q=>dB q.1).getD i 0=dB (elems.getD i (.nil,[])).1:=by simp[List.getD,show i<elems.length by omega]
       rw[e2];exact this
      ·have hfl:∀i,i<len→(f i).1.length=P.cellsOf e:=fun i hi=>by rw[(hf i hi).1.1,hk1]
       have hdl:∀i,i<len→(f i).2.length=P.cellsOf e:=fun i hi=>by rw[pO (hf i hi).2.1,hk1]
       have hcell:∀i j,i<len→j<P.cellsOf e→W.cell? ((ad.add (i*P.cellsOf e)).add j)=some ((f i).1.getD j undef):=fun i j hi hj=>by
        rw[(hf i hi).1.2 j hj];simp[List.getD,show j<(f i).1.length by rw[hfl i hi];exact hj]
       have hsp:es=[]∨(ad.spot=none∧ad.block<W.heap.size):=by
        by_cases h0:len=0
        ·left;simp[es,h0]
        ·right;have h1:=hcell 0 0 (by omega) (by omega);have e3:(ad.add (0*P.cellsOf e)).add 0=ad:=by simp[Addr.add]
         rw[e3]at h1;refine⟨World.cell?_spot h1, ?_⟩;unfold World.cell? at h1;split at h1
         ·rename_i h2;exact(Array.getElem?_eq_some_iff.mp h2).1
         ·cases h1
       obtain⟨ab,ao,asp⟩:=ad;refine .sl (some ⟨ab,ao,asp⟩) ab ao len cap _ es (fun i j=>(f i).1.getD j undef) (by simp[es]) ?_ hlc hcm (fun i hi=>by rw[hcells i hi,hdl i hi]) hnl ?_ ?_ ?_
       ·rcases hsp with h|⟨h,h2⟩
        ·exact .inl h
        ·obtain rfl:asp=none:=h;exact .inr ⟨rfl,h2⟩
       ·intro i j hi hj;have h1:=hcell i j hi hj;rcases hsp with h|⟨h,h2⟩
        ·have:es.length=0:=by rw[h];rfl
         simp[es]at this;omega
        ·obtain rfl:asp=none:=h
         rwa [CN]at h1
       ·intro i j hi hj;exact((hf i hi).2.2 j (by rw[hfl i hi];exact hj)).2
       ·intro i j hi hj;rw[hcells i hi];exact((hf i hi).2.2 j (by rw[hfl i hi];exact hj)).1
    ·cases h
   ·cases h
  ·rename_i fs ht;split at h
   ·rename_i b hb;split at h
    ·rename_i hlen;simp only[Option.some.injEq]at h;subst h;obtain⟨xs,m,rfl,rfl,hcl,hxl,hat⟩:=DataW.trod_struct ht hx;obtain⟨ds,g1,g2⟩:=A1 (W:=W) (ν:=ν) (sp:=sp) (held:=held) (enc:=enc) (m:=m) (cs:=cs) (fun t a cs x h1 h2=>te n t a m cs x h1 h2) fs.toList 0 b xs hb (by simpa using hxl) (fun i f hf=>hat i f (by simpa using hf)) (by omega);refine⟨by omega,ds,by simpa only[dB]using g1,fun i hi=>?_⟩;have:=g2 i (by omega)
     rwa [Nat.zero_add]at this
    ·cases h
   ·cases h
  ·rename_i k e ht;split at h
   ·rename_i b hb;split at h
    ·rename_i hlen;simp only[Option.some.injEq]at h;subst h;obtain⟨xs,m,rfl,rfl,hcl,hxl,hat⟩:=DataW.trod_array ht hx;obtain⟨ds,g1,g2⟩:=A1 (W:=W) (ν:=ν) (sp:=sp) (held:=held) (enc:=enc) (m:=m) (cs:=cs) (fun t a cs x h1 h2=>te n t a m cs x h1 h2) _ 0 b xs hb (by simpa using hxl) (fun i f hf=>by
      simp only[List.getElem?_map,Option.map_eq_some_iff]at hf;obtain⟨j,hj,rfl⟩:=hf;have hi:i<k:=by
       have:=(List.getElem?_eq_some_iff.1 hj).1;simpa using this
      obtain rfl:j=i:=by simpa[hi]using hj.symm
      exact hat j hi) (by omega)
     refine⟨by omega,ds,by simpa only[dB]using g1,fun i hi=>?_⟩;have:=g2 i (by omega)
     rwa [Nat.zero_add]at this
    ·cases h
   ·cases h
  ·cases h
end
end Go.Abs
end
section
namespace Go.Abs
open Go.RowKit Go.ChangeShapes Go.WideShapes
def At (sh:Bool×List Lf)(d:D)(n:Nat):Prop:=∃ds,gT sh.2 ds n∧d=bif sh.1 then .agg ds else ds.getD 0 .any
def sL:List (Bool×List Lf)→List D→Nat→Prop
 |[],ds,_=>ds=[]
 |s::r,ds,n=>∃d ds' n1 n2,ds=d::ds'∧n1+n2≤n∧At s d n1∧sL r ds' n2
def ll (P:Program)(k:Nat):List TypeId→Option (List (Bool×List Lf))
 |[]=>some []
 |t::r=>match vt P k t,ll P k r with
  |some a,some b=>if qS P t=true∨a.length=1 then some ((qS P t,a)::b)else none
  |_,_=>none
section
variable {H:Type} {enc:TypeId×Value→H} {P:Program} {ν:List (Nat×Nat)}
def Kt {W:World}{sp:Nat→Bool}{held:Bool}{k base:Nat}{t:TypeId}{a:List Lf}{v:Value}{d:DataW H}{p:List MemPlace}{r:Reach}
  (ha:vt P k t=some a) (h1:qS P t=true∨a.length=1) (sk:Value.okWide P W r base t v) (h:DataW.Trod enc P W 0 sp held t v d p):
  ∃e,At (qS P t,a) e (dB d)∧e.aK=true∧RD ν (sH W) v e:=by
 obtain⟨fuel,hf⟩:=h;obtain⟨hl,ds,g1,g2⟩:=te (ν:=ν) k t a fuel v.cells.toList (d,p) ha hf;have hdl:=pO g1;have hnl:=oK g1;refine⟨_,⟨ds,g1,rfl⟩, ?_⟩;cases hag:qS P t with
 |true=>
  have:∃cs,v=.agg cs∧cs.size=P.cellsOf t:=by
   match k,ha with
   |n+1,ha=>
   unfold vt at ha;unfold qS at hag;split at ha
   ·simp_all
   ·simp_all
   ·simp_all
   ·simp_all
   ·rename_i fs ht;exact okWide_struct ht sk
   ·rename_i m e ht;simp only[Value.okWide,ht]at sk;obtain⟨cs,h1,h2,_⟩:=sk;exact⟨cs,h1,h2⟩
   ·simp_all
  obtain⟨cs,rfl,hcs⟩:=this;refine⟨hnl, ?_⟩;have hl':cs.size=a.length:=by simpa[Value.cells]using hl
  have e:∀i,(Value.agg cs).cells.toList.getD i undef=cs.getD i undef:=fun i=>by
   simp only[Value.cells];by_cases hi:i<cs.size<;>simp[List.getD,Array.getD,hi]
  refine .agg cs ds (by omega) (fun i hi=>?_) fun i hi=>?_
  ·rw[←e];exact(g2 i (by simp only[Value.cells,Array.length_toList];omega)).2
  ·rw[←e];exact(g2 i (by simp only[Value.cells,Array.length_toList];omega)).1
 |false=>
  have h1:a.length=1:=by
   rcases h1 with h|h
   ·rw[hag]at h;cases h
   ·exact h
  have hv:v.cells.toList.getD 0 undef=v:=by
   match k,ha with
   |n+1,ha=>
   unfold vt at ha;unfold qS at hag;split at ha
   ·rename_i ht;obtain⟨b,rfl⟩:=okWide_bool ht sk;rfl
   ·rename_i k ht;obtain⟨b,rfl⟩:=okWide_int ht sk;rfl
   ·rename_i ht;obtain⟨b,rfl⟩:=okWide_string ht sk;rfl
   ·rename_i e ht;obtain⟨b,c,f,rfl⟩:=okWide_slice ht sk;rfl
   ·rename_i fs ht;rw[ht]at hag;cases hag
   ·rename_i m e ht;rw[ht]at hag;cases hag
   ·cases ha
  have g:=g2 0 (by omega);rw[hv]at g;refine⟨?_,g.1⟩
  match ds,hdl with
  |[d0],_=>simpa[aH]using hnl
  |[],h=>simp at h;omega
  |_::_::_,h=>simp at h;omega
def BG {W:World}{sp:Nat→Bool}{held:Bool}{k base:Nat}{r:Reach}:∀(ts:List TypeId)(shs:List (Bool×List Lf))(vs:List Value)(dws:List (DataW H))(ps:List MemPlace),
  ll P k ts=some shs→(∀(j:Nat) t v,ts[j]? =some t→vs[j]? =some v→Value.okWide P W r base t v)→DataW.TrodAll enc P W 0 sp held ts vs dws ps→
  ∃es:List D,sL shs es (HG dws)∧es.length=vs.length∧dws.length=ts.length∧aH es=true∧∀i,i<es.length→RD ν (sH W) (vs.getD i undef) (es.getD i .any)
 |[],shs,vs,dws,ps,hs,_,h=>by
  simp only[ll,Option.some.injEq]at hs;subst hs;obtain⟨rfl,rfl,rfl⟩:=trodAll_nil h;exact⟨[],rfl,rfl,rfl,rfl,fun i hi=>by simp at hi⟩
 |t::ts,shs,vs,dws,ps,hs,hv,h=>by
  simp only[ll]at hs;split at hs
  ·rename_i a b h1 h2;split at hs
   ·rename_i hc;simp only[Option.some.injEq]at hs;subst hs;obtain⟨v,vs',d,ds',p,q,rfl,rfl,rfl,h3,h4⟩:=trodAll_cons h;obtain⟨e,g1,g2,g3⟩:=Kt (ν:=ν) h1 hc (hv 0 t v rfl rfl) h3;obtain⟨es,k1,k2,k3,k4,k5⟩:=BG ts b vs' ds' q h2 (fun j t v h5 h6=>hv (j+1) t v (by simpa using h5) (by simpa using h6)) h4;refine⟨e::es,⟨e,es,_,_,rfl,Nat.le_refl _,g1,k1⟩,by simp[k2],by simp[k3],by simp[aH,g2,k4],fun i hi=>?_⟩
    match i,hi with
    |0,_=>exact g3
    |i+1,hi=>exact k5 i (by simpa using hi)
   ·cases hs
  ·cases hs
def ot {W W':World}(hl:laidOutB P=true)(hb:Below W.heap.size W W'){sp':Nat→Bool}:∀(ts:List TypeId)(vs:List Value)(dws:List (DataW H))(ps:List MemPlace),
  (ts.all fun t=>P.readableRec t&&decide (t<P.types.size))=true→(∀x∈ps,x.block<W.heap.size)→(∀x∈ps,sp' x.block=true)→
  DataW.TrodAll enc P W 0 (fun _=>true) true ts vs dws ps→DataW.TrodAll enc P W' 0 sp' true ts vs dws ps
 |[],vs,dws,ps,_,_,_,h=>by
  obtain⟨rfl,rfl,rfl⟩:=trodAll_nil h;exact trodAll_mk0
 |t::ts,vs,dws,ps,ht,hlt,hsp,h=>by
  obtain⟨v,vs',d,ds',p,q,rfl,rfl,rfl,h3,h4⟩:=trodAll_cons h;simp only[List.all_cons,Bool.and_eq_true,decide_eq_true_eq]at ht;refine trodAll_cons_mk (WideElems.Trod_stays hl ht.1.1 ht.1.2 h3 (fun x hx=>hb.same (hlt x (by simp[hx]))) fun x hx=>hsp x (by simp[hx])) ?_;exact ot hl hb ts vs' ds' q ht.2 (fun x hx=>hlt x (by simp[hx])) (fun x hx=>hsp x (by simp[hx])) h4
end
end Go.Abs
end
namespace Go.Abs
def HM {c:Lf}{d:D}{n:Nat}(h:fit c d n):1≤n:=by
 cases c<;>simp only[fit]at h
 ·obtain⟨s,_,h⟩:=h;omega
 ·exact h.2
 ·exact h.2
 ·obtain⟨es,_,ns,_,h,_⟩:=h;omega
def E6 {c:Lf}{d:D}{n m:Nat}(h:fit c d n)(hm:n≤m):fit c d m:=by
 cases c<;>simp only[fit]at h⊢
 ·obtain⟨s,h1,h⟩:=h;exact⟨s,h1,by omega⟩
 ·exact⟨h.1,by omega⟩
 ·exact⟨h.1,by omega⟩
 ·obtain⟨es,h1,ns,h2,h3,h4⟩:=h;exact⟨es,h1,ns,h2,by omega,h4⟩
def Cr:∀(ns:List Nat)(i:Nat),i<ns.length→ns.getD i 0≤ns.sum
 |a::r,0,_=>by simp
 |a::r,i+1,h=>by
  have:=Cr r i (by simpa using h);simp only[List.getD_cons_succ,List.sum_cons];omega
def Cs:∀(ns:List Nat),(∀i,i<ns.length→1≤ns.getD i 0)→ns.length≤ns.sum
 |[],_=>by simp
 |a::r,h=>by
  have h0:=h 0 (by simp);have:=Cs r fun i hi=>h (i+1) (by simpa using hi)
  simp only[List.getD_cons_zero]at h0;simp only[List.length_cons,List.sum_cons];omega
def LA {α:Type}{q:α→D}{G:α→Prop}{ag:Bool}{k:Nat}{cs:List Lf}{d:D}{n:Nat}(hcs:cs≠[])
  (hd:∀ds m,m≤n→gT cs ds m→∃x,(bif ag then D.agg ds else ds.getD 0 .any)=q x∧G x) (h:fit (.sl ag k cs) d n):
  ∃xs:List α,d=.sl k (xs.map q)∧xs.length+1≤n∧∀x∈xs,G x:=by
 simp only[fit]at h;obtain⟨es,rfl,ns,hl,hs,he⟩:=h;have hone:∀i,i<ns.length→1≤ns.getD i 0:=fun i hi=>by
  obtain⟨ds,_,h2⟩:=he i (by omega)
  match cs,hcs with
  |c::r,_=>
  simp only[gT]at h2;obtain⟨d,ds',n1,n2,_,h3,h4,_⟩:=h2;have:=HM h4;omega
 have hlen:=Cs ns hone;have key:∀i,i<es.length→∃x,es.getD i .any=q x∧G x:=fun i hi=>by
  obtain⟨ds,h1,h2⟩:=he i hi;obtain⟨x,h3,h4⟩:=hd ds _ (by have:=Cr ns i (by omega);omega) h2;exact⟨x,h1.trans h3,h4⟩
 have conv:∀es:List D,(∀i,i<es.length→∃x,es.getD i .any=q x∧G x)→∃xs:List α,es=xs.map q∧∀x∈xs,G x:=by
  intro es;induction es with
  |nil=>exact fun _=>⟨[],rfl,fun x hx=>by cases hx⟩
  |cons e r ih=>
   intro h;obtain⟨x,h1,h2⟩:=h 0 (by simp);obtain⟨xs,h3,h4⟩:=ih fun i hi=>by simpa using h (i+1) (by simpa using hi)
   simp only[List.getD_cons_zero]at h1;refine⟨x::xs,by rw[h3,h1];rfl,fun y hy=>?_⟩;rcases List.mem_cons.1 hy with rfl|hy
   ·exact h2
   ·exact h4 y hy
 obtain⟨xs,rfl,hx⟩:=conv es key
 refine⟨xs,rfl, ?_,hx⟩;simp only[List.length_map]at hl;omega
def Fp {k:IntKind}{d:D}{n:Nat}(h:fit (.sl false 1 [.int k]) d n):∃xs:List Int,d=.sl 1 (xs.map (D.int k))∧xs.length+1≤n∧∀x∈xs,True:=
 LA (q:=D.int k) (G:=fun _=>True) (by simp) (fun ds m hm h=>by
  simp only[gT,fit]at h;obtain⟨d,ds',n1,n2,rfl,_,⟨⟨x,rfl,_⟩,_⟩,rfl⟩:=h;exact⟨x,rfl,trivial⟩) h
def Cc {c:Lf}{d:D}{n:Nat}(h:At (false,[c]) d n):fit c d n:=by
 obtain⟨ds,h,rfl⟩:=h;simp only[gT]at h;obtain⟨d,_,n1,n2,rfl,h1,h2,rfl⟩:=h;exact E6 h2 (by omega)
def H8 {k:IntKind}{d:D}{n:Nat}(h:fit (.int k) d n):∃x:Int,d=.int k x:=by
 simp only[fit]at h;exact h.1.imp fun x h=>h.1
end Go.Abs
section
namespace Go.Abs
open Go.RowKit Go.ChangeShapes Go.WideShapes
def ctxp {t:List (Nat×n4)}{n:Nat}{ds:List D}{d:D}(hD:M0 (lk t n j4).rel)(h:(lk t n j4).rel ds d):(vl t).pre n ds∧(vl t).val n ds=d:=⟨⟨d,h⟩,hD _ _ _ (iB ⟨d,h⟩) h⟩
section
variable {H:Type} {enc:TypeId×Value→H} {P:Program} {ν:List (Nat×Nat)}
def AY [bU]{bA:List Nat}{Γ:Ctx}(hok:Ok P ν bA Γ){fid n k base:Nat}{f:Func}{s:ChangeSpec}{tb:TypeId}{shs:List (Bool×List Lf)}{r:Reach}
  {W:World} {args:Array Value} {ds gs:List (DataW H)} {before:List MemPlace}
  (hf:P.funcs[fid]? =some f) (hnm:(f.name== "runtime.NumGoroutine")=false) (hbody:f.body.isSome=true) (hn:c9 ν fid=some n)
  (hl:laidOutB P=true) (hts:(f.params.toList.all fun t=>P.readableRec t&&decide (t<P.types.size))=true)
  (hsh:ll P k f.params.toList=some shs) (hres:f.resultTypes=#[tb]) (htb:P.underlying tb=some .bool)
  (hvars:s.vars=[]) (hfn:∀xs:List (DataW H),xs.length=f.params.toList.length→s.fn H xs={results:=[.lit (.bool true)],args:=xs})
  (hgd:bU.gd (sH W)) (hpre:∀es,sL shs es (HG ds)→(∀i,i<es.length→∃v,RD ν (sH W) v (es.getD i .any))→Γ.pre n es∧Γ.val n es=.bool true)
  (hargs:∀(j:Nat) t v,f.params[j]? =some t→args[j]? =some v→Value.okWide P W r base t v)
  (hW:DataW.Whole enc P f.params.toList s.vars false W args.toList ds gs before):
  Calls P fid args W fun e W'=>∃v,e=.returned v∧s.post enc P f false true false false W args v W':=by
 have hW':=hW;obtain⟨p,q,hA,hV,rfl,hz,hnd⟩:=hW;rw[hvars]at hV;obtain⟨rfl,rfl⟩:=trodVars_none hV;obtain⟨es,h1,h2,h3,h4,h5⟩:=BG (ν:=ν) f.params.toList shs args.toList ds p hsh (fun j t v e1 e2=>hargs j t v (by simpa using e1) (by simpa using e2)) hA;have hsz:args.size=es.length:=by simpa using h2.symm
 obtain⟨hp1,hp2⟩:=hpre es h1 fun i hi=>⟨_,h5 i hi⟩
 have hd:=hok.pure fid n hn (sH W) args es hsz (fun i hi=>by
  have:=h5 i hi;have e:args.toList.getD i undef=args.getD i undef:=by
   have hi':i<args.size:=by omega
   simp[List.getD,Array.getD,hi']
  rwa [e]at this) h4 (fun b hb=>hb) hgd hp1
 rw[eI hf hnm hbody args]at hd;rcases hd with⟨v,x',hd|hd,_⟩|⟨f',args',hd,hc⟩
 ·cases hd
 ·cases hd.1
 ·cases hd;refine Calls.mono hc fun e W' he=>?_
  match e,he with
  | .returned v,he=>
   obtain⟨x',rfl,hp,hr⟩:=he;rw[hp2]at hr;obtain rfl:v=.bool true:=by cases hr;rfl
   have hb:Below W.heap.size W x'.w:=hp.grow.below;have hlt:=hW'.lt;have e1:s.fn H (ds++[])={results:=[.lit (.bool true)],args:=ds}:=by rw[List.append_nil];exact hfn ds h3
   refine⟨_,rfl,vx (pa:=p) (pv:=[]) hW' (fun b sp hd=>?_) (fun sp hsp=>?_) (fun sp hsp=>?_) rfl hb (ok_one hres rfl (okWide_bool_mk htb _))⟩
   ·rw[e1,hres];exact trodAll_mk1 (shut_bool htb _)
   ·rw[e1];exact ot hl hb _ _ _ _ hts (fun x hx=>by simpa using hlt x (by simpa using hx)) (fun x hx=>hsp x (by simpa using hx)) hA
   ·rw[e1,hvars];rfl
end
end Go.Abs
end
section
namespace Go.Proofs.YtpdlhpamcaocgaaGreatDoor
open Go.Abs Go.ChangeShapes Go.WideShapes Go.ChangeAt Go.RowKit Go.Proofs
def own:ownKnob Tryz.prog.godebug=none:=by kernel_rfl
def Fx:laidOutB Tryz.prog=true:=by kernel_rfl
def pW {P:Program}{W:World}{y:String×DataW Unit}{l:List (String×DataW Unit)}(h:laidMet P (y::l) W):laidMet P l W:=by
 obtain⟨ps,⟨g,t,cs,fuel,p,q,_,_,_,_,h1,rfl⟩,h2,h3⟩:=h;refine⟨q,h1,(List.nodup_append.1 h2).2.1,fun b off hm=>h3 b off (by simp[hm])⟩
def B6 {W:World}{b:Nat}{o:Nat}{v:Value}(h:W.cell? ⟨b,o,none⟩=some v):b<W.heap.size:=by
 unfold World.cell? at h;split at h
 ·rename_i h2;exact(Array.getElem?_eq_some_iff.mp h2).1
 ·cases h
def NF {W:World}(hL:laidMetH Tryz.prog Rows.recordLinesRow.laid W)(hsh:W.ShapedOpen Tryz.prog):bU.gd (sH W):=by
 have hL':laidMet Tryz.prog Rows.recordLinesRow.laid W:=hL;have htab:Lib.TabIs Tryz.prog W "internal/strconv.uint64pow10" .u64 Lib.pow10Tab:=
  Lib.tabIs_of_head (g:=3) (t:=244) (e:=49) (n:=20) (by kernel_rfl) (by kernel_rfl) (by kernel_rfl) (by kernel_rfl) (by kernel_rfl) (by kernel_rfl) (pW (pW hL'))
 obtain⟨m,hm⟩:∃m,W.cell? ⟨0,0,none⟩=some (.int .i64 m):=Tryz.laysM219.s1_3 W hsh
 have h3:=htab.cell rV 0 (by decide);exact⟨⟨B6 hm,m,hm⟩,B6 h3,htab⟩
mutual
def yK {H:Type}:DataW H→List Value
 | .lit (.int k n)=>[.int k n]
 | .agg ps=>EX ps
 |_=>[]
def EX {H:Type}:List (DataW H)→List Value
 |[]=>[]
 |d::r=>yK d++EX r
end
def put (d:DataW Unit):Obj→Obj
 | .cells _ t frozen=>.cells (yK d).toArray t frozen
 |o=>o
noncomputable def qT (os:Os):World:=
 {World.holding Tryz.prog os ⟨#[],#[],[]⟩with heap:=(((((World.holding Tryz.prog os ⟨#[],#[],[]⟩).heap.modify 1 (put Rows.laid_unicode_utf8_first)).modify 2 (put Rows.laid_unicode_utf8_acceptRanges)).modify 3 (put Rows.laid_internal_strconv_uint64pow10)).modify 4 (put Rows.laid_math_bits_deBruijn32tab)).modify 5 (put Rows.laid_math_bits_deBruijn64tab)}
end Go.Proofs.YtpdlhpamcaocgaaGreatDoor
end
