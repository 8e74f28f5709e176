/- A part of the proofs. -/
import Derived.Test.YtgnjlompgjhaaaaGreatDoorP10
import Derived.Test.YtgnjlompgjhaaaaGreatDoorP11
import Derived.Test.YtgnjlompgjhaaaaGreatDoorP12
import Derived.Test.YtgnjlompgjhaaaaGreatDoorP13
import Derived.Test.YtgnjlompgjhaaaaGreatDoorP14
import Derived.Test.YtgnjlompgjhaaaaGreatDoorP15
import Derived.Test.YtgnjlompgjhaaaaGreatDoorP16
import Derived.Test.YtgnjlompgjhaaaaGreatDoorP17
import Derived.Test.YtgnjlompgjhaaaaGreatDoorP18
import Derived.Test.YtgnjlompgjhaaaaGreatDoorP19
import Derived.Test.YtgnjlompgjhaaaaGreatDoorP20
import Derived.Test.YtgnjlompgjhaaaaGreatDoorP21
set_option linter.all false
set_option maxRecDepth 60000
set_option maxHeartbeats 2000000
namespace Go.Abs
section
section
variable [dS]
def H71:Ow 62 71:=bw rfl fun r hp0=>aO bj ck rfl (w71 bm Oc Od G218 G219 r hp0)
def H77:Ow 75 77:=bw rfl fun s=>aO bj ck rfl (w77 bm G71 G223 G224 s)
def H88:Ow 15 88:=bw rfl fun a b=>aO bj ck rfl (w88 bm G263 a b)
def H213:Ow 98 213:=bw rfl fun l hp0=>aO bj ck rfl (w213 bm Of G447 G448 G449 l hp0)
def H219:Ow 63 219:=bw rfl fun r hp0=>aO bj ck rfl (w219 bm QY G316 G461 G462 r hp0)
def H225:Ow 127 225:=bw rfl fun a b=>aO bj ck rfl (w225 bm G477 a b)
def H231:Ow 53 231:=bw rfl fun l i hp0=>aO bj ck rfl (w231 bm Oe G481 l i hp0)
def H252:Ow 28 252:=bw rfl fun s hp0=>aO bj ck rfl (w252 bm G239 s hp0)
def H259:Ow 39 259:=bw rfl fun t hp0=>aO bj ck rfl (w259 bm vl G500 t hp0)
def H313:Ow 27 313:=bw rfl fun n=>aO bj ck rfl (w313 bm n)
def H424:Ow 126 424:=bw rfl fun a b hp0=>aO bj ck rfl (w424 bm Od Yw G631 a b hp0)
def H445:Ow 139 445:=bw rfl fun s=>aO bj ck rfl (w445 bm QW G660 G661 s)
def H451:Ow 101 451:=bw rfl fun v hp0=>aO bj ck rfl (w451 bm Ob G665 v hp0)
def H458:Ow 150 458:=bw rfl fun r b hp0=>aO bj ck rfl (w458 bm Oc G572 G670 r b hp0)
def H464:Ow 146 464:=bw rfl fun h n hp0=>aO bj ck rfl (w464 bm h n hp0)
def H471:Ow 167 471:=m6 rfl fun x l hp0 nx j0 j1 j2 j3 j4 m K h1 h2 h3 hK=>sv (by simp only[bH,D.bJ,nE]) bj ck rfl h1 h2 h3 hK (w471 bm l x.r.name x.r.v x.r.needs x.r.bars x.r.feats x.st G568 hp0)
def H477:Ow 175 477:=bw rfl fun a b=>aO bj ck rfl (w477 bm G226 a b)
def H483:Ow 92 483:=bw rfl fun l s hp0=>aO bj ck rfl (w483 bm l s hp0)
def H500:Ow 74 500:=bw rfl fun s=>aO bj ck rfl (w500 bm G688 s)
def H531:Ow 120 531:=bw rfl fun l=>aO bj ck rfl (w531 bm l)
def H572:Ow 190 572:=bw rfl fun s hp0=>aO bj ck rfl (w572 bm G744 G745 s hp0)
def H660:Ow 179 660:=m6 rfl fun w nd hp0 nx lp ln m K h1 h2 h3 h4 hK=>gI sf aF rfl (fun _=>rfl) bj ck rfl h1 h2 h3 h4 hK (w660 bm w nd (WT (Nat.le_of_eq (oF (c:=fun _=>4) h1).symm)) hp0)
def H667:Ow 185 667:=bw rfl fun s=>aO bj ck rfl (w667 bm Ys s)
def H673:Ow 193 673:=bw rfl fun r x=>aO bj ck rfl (w673 bm r x)
def H682:Ow 207 682:=bw rfl fun s hp0=>aO bj ck rfl (w682 bm G819 s hp0)
def H700:Ow 82 700:=bw rfl fun x nm v hp0=>aO bj ck rfl (w700 bm G701 x nm v hp0)
def H742:Ow 227 742:=bw rfl fun l=>aO bj ck rfl (w742 bm UL l)
def H810:Ow 213 810:=bw rfl fun l=>aO bj ck rfl (w810 bm Of l)
def H816:Ow 222 816:=bw rfl fun l nm=>aO bj ck rfl (w816 bm G955 l nm)
def H897:Ow 250 897:=bw rfl fun s hp0=>aO bj ck rfl (w897 bm vl Yv G1006 G1007 G1008 s hp0)
def H946:Ow 239 946:=bw rfl fun w es b=>aO bj ck rfl (w946 bm w es b)
def H952:Ow 246 952:=m6 rfl fun W w nd hp0 hp1 nx lp ln m K h1 h2 h3 h4 hK=>gI (uP _) aF rfl (fun _=>rfl) bj ck rfl h1 h2 h3 h4 hK (w952 bm W w nd (Yp (Nat.le_of_eq (uI (c:=fun _=>2) hp0.1 h1).symm)) QU K1 hp0 hp1)
def H1006:Ow 271 1006:=bw rfl fun s=>aO bj ck rfl (w1006 bm G678 G1079 s)
def H1034:Ow 268 1034:=m6 rfl fun x W w nd b hp0 nx lp ln m K h1 h2 h3 h4 hK=>gI (uP _) aF rfl (fun _=>rfl) bj ck rfl h1 h2 h3 h4 hK (w1034 bm x W w nd b hp0)
def H1099:Ow 283 1099:=bw rfl fun k hp0=>aO bj ck rfl (w1099 bm k hp0)
def H1203:Ow 16 1203:=bw rfl fun l i nm most hp0=>aO bj ck rfl (w1203 bm G79 Oe G504 l i nm most hp0)
end
end
section
section
variable [dS]
def H74:Ow 46 74:=bw rfl fun r hp0=>aO bj ck rfl (w74 bm G72 G220 r hp0)
def H85:Ow 10 85:=bw rfl (aO bj ck rfl (w85 bm G251 G9086))
def H210:Ow 95 210:=bw rfl fun r n hp0=>aO bj ck rfl (w210 bm G212 Of G443 r n hp0)
def H216:Ow 59 216:=bw rfl fun s=>aO bj ck rfl (w216 bm G453 Ys s)
def H222:Ow 70 222:=Zu rfl D222 fun r hp0=>GZ 2 bj ck rfl rfl (w222 bm G466 G467 G468 G469 G9465 r hp0)
def H228:Ow 44 228:=bw rfl fun l i n hp0=>aO bj ck rfl (w228 bm QZ Yu l i n hp0)
def H246:Ow 160 246:=bw rfl fun l x=>aO bj ck rfl (w246 bm G494 l x)
def H256:Ow 33 256:=bw rfl fun s hp0=>aO bj ck rfl (w256 bm Yr G487 s hp0)
def H262:Ow 42 262:=bw rfl fun l en hp0=>aO bj ck rfl (w262 bm QY l en hp0)
def H353:Ow 20 353:=bw rfl fun s hp0=>aO bj ck rfl (w353 bm G74 QX G511 s hp0)
def H442:Ow 135 442:=bw rfl fun s hp0=>aO bj ck rfl (w442 bm Q0 s hp0)
def H448:Ow 142 448:=bw rfl fun s hp0=>aO bj ck rfl (w448 bm QX G254 Of G487 s hp0)
def H455:Ow 147 455:=bw rfl fun n=>aO bj ck rfl (w455 bm n)
def H461:Ow 108 461:=bw rfl fun w hp0=>aO bj ck rfl (w461 bm QY w hp0)
def H467:Ow 116 467:=Zu rfl D467 fun r hp0=>GZ 2 bj ck rfl rfl (w467 bm QW G465 G468 r hp0)
def H474:Ow 170 474:=bw rfl fun l n=>aO bj ck rfl (w474 bm l n)
def H480:Ow 89 480:=bw rfl fun l i own alone hp0 hp1=>aO bj ck rfl (w480 bm G227 Oe G230 l i own alone hp0 hp1)
def H496:Ow 178 496:=bw rfl fun r hp0=>aO bj ck rfl (w496 bm Yx r hp0)
def H511:Ow 47 511:=bw rfl fun l nm v hp0=>aO bj ck rfl (w511 bm G699 l nm v hp0)
def H534:Ow 123 534:=bw rfl fun a b=>aO bj ck rfl (w534 bm G516 G532 UK G659 a b)
def H631:Ow 174 631:=bw rfl fun a b hp0=>aO bj ck rfl (w631 bm vl Yw G783 a b hp0)
def H663:Ow 182 663:=bw rfl fun l nm=>aO bj ck rfl (w663 bm l nm)
def H670:Ow 188 670:=bw rfl fun s=>aO bj ck rfl (w670 bm G813 G814 s)
def H676:Ow 130 676:=bw rfl fun c hp0=>aO bj ck rfl (w676 bm Od c hp0)
def H686:Ow 58 686:=bw rfl fun k hp0=>aO bj ck rfl (w686 bm k hp0)
def H714:Ow 164 714:=bw rfl fun x=>aO bj ck rfl (w714 bm x)
def H783:Ow 205 783:=bw rfl fun a b=>aO bj ck rfl (w783 bm Yw UL G668 G927 a b)
def H813:Ow 217 813:=bw rfl fun s=>aO bj ck rfl (w813 bm vl G952 G953 s)
def H828:Ow 238 828:=bw rfl fun c hp0=>aO bj ck rfl (w828 bm G665 Yy G957 c hp0)
def H900:Ow 253 900:=bw rfl fun r hp0=>aO bj ck rfl (w900 bm Yv r hp0)
def H949:Ow 242 949:=m6 rfl fun w nd hp0 nx lp ln m K h1 h2 h3 h4 hK=>gI sf aF rfl (fun _=>rfl) bj ck rfl h1 h2 h3 h4 hK (w949 bm w nd (G660u (Nat.le_of_eq (oF (c:=fun _=>0) h1).symm)) UM UN (WV (Nat.le_of_eq (oF (c:=fun _=>0) h1).symm)) G1031 hp0)
def H955:Ow 255 955:=bw rfl fun l nm=>aO bj ck rfl (w955 bm l nm)
def H1031:Ow 261 1031:=m6 rfl fun k w nd b hp0 nx lp ln m K h1 h2 h3 h4 hK=>gI sf aF rfl (fun _=>rfl) bj ck rfl h1 h2 h3 h4 hK (w1031 bm k w nd b Of UM UN G950 hp0)
def H1079:Ow 285 1079:=bw rfl fun s w=>aO bj ck rfl (w1079 bm s w)
def H1141:Ow 291 1141:=m6 rfl fun W w nd b hp0 nx lp ln m K h1 h2 h3 h4 hK=>xt (uP _) aF rfl (fun _=>rfl) bj ck rfl h1 h2 h3 h4 hK (w1141 bm W w nd b hp0)
end
end
end Go.Abs
