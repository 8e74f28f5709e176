/- A part of the proofs. -/
import Derived.Test.YtfijeeijkndliaaGreatDoorP32
import Derived.Test.YtfijeeijkndliaaGreatDoorP10
import Derived.Test.YtfijeeijkndliaaGreatDoorP11
import Derived.Test.YtfijeeijkndliaaGreatDoorP12
import Derived.Test.YtfijeeijkndliaaGreatDoorP13
import Derived.Test.YtfijeeijkndliaaGreatDoorP14
import Derived.Test.YtfijeeijkndliaaGreatDoorP15
import Derived.Test.YtfijeeijkndliaaGreatDoorP16
import Derived.Test.YtfijeeijkndliaaGreatDoorP17
import Derived.Test.YtfijeeijkndliaaGreatDoorP18
import Derived.Test.YtfijeeijkndliaaGreatDoorP19
import Derived.Test.YtfijeeijkndliaaGreatDoorP21
set_option linter.all false
set_option maxRecDepth 60000
set_option maxHeartbeats 2000000
namespace Go.Abs
section
section
variable [df]
def H71:Ow 27 71:=aA rfl fun r hp0=>aj aw ck rfl (w71 ax o9 tT Ot GW r hp0)
def H82:Ow 14 82:=aA rfl fun s hp0=>aj aw ck rfl (w82 ax G76 Oy Oz sF OB OC xh xi Az O7 O9 s hp0)
def PS:Ow 50 209:=aA rfl fun v hp0=>aj aw ck rfl (w209 ax OJ OK DI v hp0)
def PY:Ow 56 215:=aA rfl fun r hp0=>aj aw ck rfl (w215 ax sF OR DK OS r hp0)
def H223:Ow 40 223:=aA rfl fun s hp0=>aj aw ck rfl (w223 ax jJ s hp0)
def P6:Ow 32 240:=aA rfl fun l hp0=>aj aw ck rfl (w240 ax OA l hp0)
def H250:Ow 44 250:=dn rfl fun r ps hs t' hp0 nx m K h1 h2 hK1 hK2=>Iv aw ck rfl h1 h2 hK1 hK2 (w250 ax r ps hs t' rr jJ hp0)
def Qe:Ow 170 357:=aA rfl fun s=>aj aw ck rfl (w357 ax DL xj s)
def Qk:Ow 95 445:=aA rfl fun s=>aj aw ck rfl (w445 ax sC Pe DS s)
def Qq:Ow 101 451:=aA rfl fun v hp0=>aj aw ck rfl (w451 ax sE DU v hp0)
def Qw:Ow 117 458:=aA rfl fun r b hp0=>aj aw ck rfl (w458 ax o9 yG DV r b hp0)
def QC:Ow 128 466:=aA rfl fun s hp0=>aj aw ck rfl (w466 ax sE DK sG xk Po s hp0)
def H473:Ow 137 473:=dn rfl fun x t hp0 hp1 hp2 hp3 hp4 nx j0 j1 j2 j3 j4 m K h1 h2 h3 hK=>lg rfl aw ck rfl h1 h2 h3 hK (w473 ax t x.r.name x.r.v x.r.needs x.r.bars x.r.feats x.st O4 hp0 hp1 hp2 hp3 hp4)
def QH:Ow 73 490:=dn rfl fun r ps hs a b hp0 nx m K h1 h2 hK=>oK aw ck rfl h1 h2 hK (w490 ax r ps hs a b O8 hp0)
def QN:Ow 148 554:=aA rfl fun v hp0=>aj aw ck rfl (w554 ax DZ v hp0)
def QS:Ow 152 660:=dn rfl fun w nd hp0 nx lp ln m K h1 h2 h3 h4 hK=>bP fk aG rfl (fun _=>rfl) aw ck rfl h1 h2 h3 h4 hK (w660 ax w nd (tV (Nat.le_of_eq (dA (c:=fun _=>4) h1).symm)) hp0)
def QY:Ow 166 667:=aA rfl fun s=>aj aw ck rfl (w667 ax xj s)
def Q6:Ow 173 673:=aA rfl fun r x=>aj aw ck rfl (w673 ax r x)
def Rc:Ow 58 682:=aA rfl fun s hp0=>aj aw ck rfl (w682 ax PE s hp0)
def Rg:Ow 120 744:=aA rfl fun s hp0=>aj aw ck rfl (w744 ax jJ PG PH PI D3 xn s hp0)
def Rm:Ow 198 812:=aA rfl fun l al=>aj aw ck rfl (w812 ax nb D1 l al)
def Rs:Ow 110 827:=aA rfl fun c hp0=>aj aw ck rfl (w827 ax sE c hp0)
def Ry:Ow 178 899:=aA rfl fun r hp0=>aj aw ck rfl (w899 ax DX r hp0)
def RF:Ow 216 949:=dn rfl fun w nd hp0 nx lp ln m K h1 h2 h3 h4 hK=>bP fk aG rfl (fun _=>rfl) aw ck rfl h1 h2 h3 h4 hK (w949 ax w nd (DR (Nat.le_of_eq (dA (c:=fun _=>0) h1).symm)) sH sI (tX (Nat.le_of_eq (dA (c:=fun _=>0) h1).symm)) Dw hp0)
def RM:Ow 226 955:=aA rfl fun l nm=>aj aw ck rfl (w955 ax l nm)
def Ef:Ow 230 1031:=dn rfl fun k w nd b hp0 nx lp ln m K h1 h2 h3 h4 hK=>bP fk aG rfl (fun _=>rfl) aw ck rfl h1 h2 h3 h4 hK (U4 ax k w nd b na sH sI D6 hp0)
def El:Ow 227 1079:=aA rfl fun s w=>aj aw ck rfl (Vb ax s w)
def Es:Ow 253 1141:=dn rfl fun W w nd b hp0 nx lp ln m K h1 h2 h3 h4 hK=>ir (fX _) aG rfl (fun _=>rfl) aw ck rfl h1 h2 h3 h4 hK (Vh ax W w nd b hp0)
end
end
section
section
variable [df]
def H77:Ow 43 77:=aA rfl fun s=>aj aw ck rfl (w77 ax Zf Y7 G224 s)
def PN:Ow 68 125:=aA rfl fun s=>aj aw ck rfl (w125 ax OH s)
def PV:Ow 53 212:=aA rfl fun s=>aj aw ck rfl (w212 ax ON OO s)
def P1:Ow 64 218:=aA rfl fun r hp0=>aj aw ck rfl (w218 ax OV OW OX OY r hp0)
def Zk:Ow 81 226:=aA rfl fun a b=>aj aw ck rfl (w226 ax a b)
def P9:Ow 10 247:=aA rfl fun m hp0=>aj aw ck rfl (w247 ax Pu sD DP DQ m hp0)
def Zl:Ow 28 344:=aA rfl fun l=>aj aw ck rfl (w344 ax o9 l)
def Qh:Ow 91 442:=aA rfl fun s hp0=>aj aw ck rfl (w442 ax sG s hp0)
def Qn:Ow 98 448:=aA rfl fun s hp0=>aj aw ck rfl (w448 ax sD OD na DO s hp0)
def Qt:Ow 114 455:=aA rfl fun n=>aj aw ck rfl (w455 ax n)
def Qz:Ow 87 461:=aA rfl fun w hp0=>aj aw ck rfl (w461 ax rr w hp0)
def QF:Ow 78 470:=aA rfl fun s b hp0=>aj aw ck rfl (w470 ax s b hp0)
def H476:Ow 140 476:=dn rfl fun x l hp0 hp1 nx j0 j1 j2 j3 j4 m K h1 h2 h3 hK=>lg (by simp only[bK,D.bN,kn]) aw ck rfl h1 h2 h3 hK (w476 ax l x.r.name x.r.v x.r.needs x.r.bars x.r.feats x.st Zc hp0 hp1)
def QK:Ow 25 495:=aA rfl fun s hp0=>aj aw ck rfl (w495 ax sC Pr Ps xl Pt D4 s hp0)
def QP:Ow 65 572:=aA rfl fun s hp0=>aj aw ck rfl (w572 ax Pv Pw s hp0)
def QV:Ow 156 663:=aA rfl fun l nm=>aj aw ck rfl (w663 ax l nm)
def Q3:Ow 169 670:=aA rfl fun s=>aj aw ck rfl (w670 ax PA PC s)
def Q9:Ow 145 676:=aA rfl fun c hp0=>aj aw ck rfl (w676 ax tT c hp0)
def Rf:Ow 188 734:=aA rfl fun n hp0=>aj aw ck rfl (w734 ax PF n hp0)
def Rj:Ow 190 809:=dn rfl fun w nd hp0 nx lp ln m K h1 h2 h3 h4 hK=>bP fk aG rfl (fun _=>rfl) aw ck rfl h1 h2 h3 h4 hK (w809 ax w nd (tV (Nat.le_of_eq (dA (c:=fun _=>2) h1).symm)) hp0)
def Rp:Ow 201 815:=aA rfl fun l=>aj aw ck rfl (w815 ax l)
def Rv:Ow 175 896:=aA rfl fun s hp0=>aj aw ck rfl (w896 ax s hp0)
def RB:Ow 213 946:=aA rfl fun w es b=>aj aw ck rfl (w946 ax w es b)
def RI:Ow 223 952:=dn rfl fun W w nd hp0 hp1 nx lp ln m K h1 h2 h3 h4 hK=>bP (fX _) aG rfl (fun _=>rfl) aw ck rfl h1 h2 h3 h4 hK (w952 ax W w nd (xf (Nat.le_of_eq (fW (c:=fun _=>2) hp0.1 h1).symm)) qe l4 hp0 hp1)
def Ec:Ow 203 1006:=aA rfl fun s=>aj aw ck rfl (U1 ax DY Dz s)
def Ei:Ow 234 1034:=dn rfl fun x W w nd b hp0 nx lp ln m K h1 h2 h3 h4 hK=>bP (fX _) aG rfl (fun _=>rfl) aw ck rfl h1 h2 h3 h4 hK (U7 ax x W w nd b hp0)
def Eo:Ow 243 1099:=aA rfl fun k hp0=>aj aw ck rfl (Ve ax k hp0)
end
end
end Go.Abs
