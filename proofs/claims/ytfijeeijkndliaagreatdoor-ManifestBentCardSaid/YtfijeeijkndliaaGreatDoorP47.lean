/- A part of the proofs. -/
import Derived.Test.YtfijeeijkndliaaGreatDoorP44
import Derived.Test.YtfijeeijkndliaaGreatDoorP10
import Derived.Test.YtfijeeijkndliaaGreatDoorP11
import Derived.Test.YtfijeeijkndliaaGreatDoorP12
import Derived.Test.YtfijeeijkndliaaGreatDoorP13
import Derived.Test.YtfijeeijkndliaaGreatDoorP14
import Derived.Test.YtfijeeijkndliaaGreatDoorP15
import Derived.Test.YtfijeeijkndliaaGreatDoorP16
import Derived.Test.YtfijeeijkndliaaGreatDoorP17
import Derived.Test.YtfijeeijkndliaaGreatDoorP18
import Derived.Test.YtfijeeijkndliaaGreatDoorP19
import Derived.Test.YtfijeeijkndliaaGreatDoorP20
import Derived.Test.YtfijeeijkndliaaGreatDoorP21
import Derived.Test.YtfijeeijkndliaaGreatDoorP22
import Derived.Test.YtfijeeijkndliaaGreatDoorP25
set_option linter.all false
set_option maxRecDepth 60000
set_option maxHeartbeats 2000000
namespace Go.Abs
section
section
variable [df]
def H71:Ow 27 71:=aA rfl fun r hp0=>aj aw ck rfl (w71 ax o9 tT Ot GW r hp0)
def H79:Ow 46 79:=aA rfl fun l i own hp0 hp1=>aj aw ck rfl (w79 ax Ov yF G229 Ox Y9 G232 l i own hp0 hp1)
def PN:Ow 68 125:=aA rfl fun s=>aj aw ck rfl (w125 ax OH s)
def PV:Ow 53 212:=aA rfl fun s=>aj aw ck rfl (w212 ax ON OO s)
def P1:Ow 64 218:=aA rfl fun r hp0=>aj aw ck rfl (w218 ax OV OW OX OY r hp0)
def Zk:Ow 81 226:=aA rfl fun a b=>aj aw ck rfl (w226 ax a b)
def H232:Ow 84 232:=aA rfl fun l i r hp0 hp1=>aj aw ck rfl (w232 ax GX O5 G483 l i r hp0 hp1)
def P9:Ow 10 247:=aA rfl fun m hp0=>aj aw ck rfl (w247 ax Pu sD DP DQ m hp0)
def Zl:Ow 28 344:=aA rfl fun l=>aj aw ck rfl (w344 ax o9 l)
def Qh:Ow 91 442:=aA rfl fun s hp0=>aj aw ck rfl (w442 ax sG s hp0)
def Qn:Ow 98 448:=aA rfl fun s hp0=>aj aw ck rfl (w448 ax sD OD na DO s hp0)
def Qt:Ow 114 455:=aA rfl fun n=>aj aw ck rfl (w455 ax n)
def Qz:Ow 87 461:=aA rfl fun w hp0=>aj aw ck rfl (w461 ax rr w hp0)
def QF:Ow 78 470:=aA rfl fun s b hp0=>aj aw ck rfl (w470 ax s b hp0)
def H476:Ow 140 476:=dn rfl fun x l hp0 hp1 nx j0 j1 j2 j3 j4 m K h1 h2 h3 hK=>lg (by simp only[bK,D.bN,kn]) aw ck rfl h1 h2 h3 hK (w476 ax l x.r.name x.r.v x.r.needs x.r.bars x.r.feats x.st Zc hp0 hp1)
def QG:Ow 85 482:=aA rfl fun c hp0=>aj aw ck rfl (w482 ax rr DX Pq DY c hp0)
def QL:Ow 26 496:=aA rfl fun r hp0=>aj aw ck rfl (w496 ax xl r hp0)
def QQ:Ow 150 658:=aA rfl fun s=>aj aw ck rfl (w658 ax s)
def QW:Ow 158 665:=aA rfl fun n hp0=>aj aw ck rfl (w665 ax OI n hp0)
def Q4:Ow 171 671:=aA rfl fun l of hp0=>aj aw ck rfl (w671 ax DW D1 PD l of hp0)
def Ra:Ow 146 677:=dn rfl fun c hp0 nx m K hK=>wG rfl rfl aw ck rfl rfl hK (w677 ax c DZ hp0)
def H741:Ow 210 741:=aA rfl fun s b=>aj aw ck rfl (w741 ax s b)
def Rk:Ow 191 810:=aA rfl fun l=>aj aw ck rfl (w810 ax na l)
def Rq:Ow 202 816:=aA rfl fun l nm=>aj aw ck rfl (w816 ax PL l nm)
def Rw:Ow 176 897:=aA rfl fun s hp0=>aj aw ck rfl (w897 ax jJ AA Dt Du Dv s hp0)
def RC:Ow 214 947:=dn rfl fun w nd b nx lp ln m K h1 h2 h3 h4 hK=>ir fk aG rfl (fun _=>rfl) aw ck rfl h1 h2 h3 h4 hK (w947 ax w nd b xo)
def RJ:Ow 224 953:=aA rfl fun m=>aj aw ck rfl (w953 ax Ea Dx m)
def Ed:Ow 204 1007:=aA rfl fun s=>aj aw ck rfl (U2 ax s)
def Ej:Ow 235 1035:=aA rfl fun l hp0=>aj aw ck rfl (U8 ax DA l hp0)
def Ep:Ow 244 1100:=aA rfl fun s b hp0=>aj aw ck rfl (Vf ax s b hp0)
end
end
section
section
variable [df]
def H76:Ow 34 76:=aA rfl fun s=>aj aw ck rfl (w76 ax Pu sC Ou s)
def H83:Ow 15 83:=aA rfl fun s hp0=>aj aw ck rfl (w83 ax G77 Om Y7 G248 rr G250 s hp0)
def PS:Ow 50 209:=aA rfl fun v hp0=>aj aw ck rfl (w209 ax OJ OK DI v hp0)
def PY:Ow 56 215:=aA rfl fun r hp0=>aj aw ck rfl (w215 ax sF OR DK OS r hp0)
def H223:Ow 40 223:=aA rfl fun s hp0=>aj aw ck rfl (w223 ax jJ s hp0)
def H229:Ow 82 229:=aA rfl fun l i own hp0 hp1=>aj aw ck rfl (w229 ax yF Y9 O5 G480 Ze l i own hp0 hp1)
def P6:Ow 32 240:=aA rfl fun l hp0=>aj aw ck rfl (w240 ax OA l hp0)
def H250:Ow 44 250:=dn rfl fun r ps hs t' hp0 nx m K h1 h2 hK1 hK2=>Iv aw ck rfl h1 h2 hK1 hK2 (w250 ax r ps hs t' rr jJ hp0)
def Qe:Ow 170 357:=aA rfl fun s=>aj aw ck rfl (w357 ax DL xj s)
def Qk:Ow 95 445:=aA rfl fun s=>aj aw ck rfl (w445 ax sC Pe DS s)
def Qq:Ow 101 451:=aA rfl fun v hp0=>aj aw ck rfl (w451 ax sE DU v hp0)
def Qw:Ow 117 458:=aA rfl fun r b hp0=>aj aw ck rfl (w458 ax o9 yG DV r b hp0)
def QC:Ow 128 466:=aA rfl fun s hp0=>aj aw ck rfl (w466 ax sE DK sG xk Po s hp0)
def H473:Ow 137 473:=dn rfl fun x t hp0 hp1 hp2 hp3 hp4 nx j0 j1 j2 j3 j4 m K h1 h2 h3 hK=>lg rfl aw ck rfl h1 h2 h3 hK (w473 ax t x.r.name x.r.v x.r.needs x.r.bars x.r.feats x.st O4 hp0 hp1 hp2 hp3 hp4)
def H479:Ow 48 479:=aA rfl fun l i=>aj aw ck rfl (w479 ax l i)
def QI:Ow 75 492:=dn rfl fun r ps hs a b hp0 nx m K h1 h2 hK=>oK aw ck rfl h1 h2 hK (w492 ax r ps hs a b hp0)
def QO:Ow 134 563:=aA rfl fun s=>aj aw ck rfl (w563 ax s)
def QT:Ow 153 661:=aA rfl fun m=>aj aw ck rfl (w661 ax DT Px m)
def QZ:Ow 167 668:=aA rfl fun t=>aj aw ck rfl (w668 ax t)
def Q7:Ow 174 674:=aA rfl fun r x=>aj aw ck rfl (w674 ax r x)
def Rd:Ow 60 684:=aA rfl fun r hp0=>aj aw ck rfl (w684 ax sF xm D2 r hp0)
def Rh:Ow 121 745:=aA rfl fun r hp0=>aj aw ck rfl (w745 ax xn PJ r hp0)
def Rn:Ow 199 813:=aA rfl fun s=>aj aw ck rfl (w813 ax jJ PK D9 s)
def Rt:Ow 111 828:=aA rfl fun c hp0=>aj aw ck rfl (w828 ax DU xm Eb c hp0)
def Rz:Ow 179 900:=aA rfl fun r hp0=>aj aw ck rfl (w900 ax AA r hp0)
def RG:Ow 217 950:=aA rfl (aj aw ck rfl (w950 ax))
def RN:Ow 159 956:=aA rfl fun s w=>aj aw ck rfl (w956 ax s w)
def Eg:Ow 232 1032:=dn rfl fun W w nd hp0 hp1 nx lp ln m K h1 h2 h3 h4 hK=>bP (fX _) aG rfl (fun _=>rfl) aw ck rfl h1 h2 h3 h4 hK (U5 ax W w nd qe l4 (qf (Nat.le_of_eq (fW (c:=fun _=>1) hp0.1 h1).symm)) hp0 hp1)
def Em:Ow 241 1097:=dn rfl fun W w nd hp0 hp1 nx lp ln m K h1 h2 h3 h4 hK=>bP (fX _) aG rfl (fun _=>rfl) aw ck rfl h1 h2 h3 h4 hK (Vc ax W w nd (D8 (Nat.le_of_eq (fW (c:=fun _=>0) hp0.1 h1).symm)) qe l4 (qf (Nat.le_of_eq (fW (c:=fun _=>0) hp0.1 h1).symm)) DC hp0 hp1)
def H1205:Ow 5 1205:=aA rfl fun l a c b=>aj aw ck rfl (w1205 ax G81 G82 G83 G84 G121 GX Y6 l a c b)
end
end
end Go.Abs
