/- A part of the proofs. -/
import Derived.Test.YtfijeeijkndliaaGreatDoorP26
import Derived.Test.YtfijeeijkndliaaGreatDoorP10
import Derived.Test.YtfijeeijkndliaaGreatDoorP11
import Derived.Test.YtfijeeijkndliaaGreatDoorP12
import Derived.Test.YtfijeeijkndliaaGreatDoorP13
import Derived.Test.YtfijeeijkndliaaGreatDoorP14
import Derived.Test.YtfijeeijkndliaaGreatDoorP15
import Derived.Test.YtfijeeijkndliaaGreatDoorP16
import Derived.Test.YtfijeeijkndliaaGreatDoorP17
import Derived.Test.YtfijeeijkndliaaGreatDoorP18
import Derived.Test.YtfijeeijkndliaaGreatDoorP20
import Derived.Test.YtfijeeijkndliaaGreatDoorP23
set_option linter.all false
set_option maxRecDepth 60000
set_option maxHeartbeats 2000000
namespace Go.Abs
section
section
variable [df]
def H71:Ow 27 71:=aA rfl fun r hp0=>aj aw ck rfl (w71 ax o9 tT Ot GW r hp0)
def H121:Ow 13 121:=aA rfl fun m hp0=>aj aw ck rfl (w121 ax G73 Om m hp0)
def PU:Ow 52 211:=aA rfl fun r name yn hp0=>aj aw ck rfl (w211 ax sD OM r name yn hp0)
def P0:Ow 63 217:=aA rfl fun v hp0=>aj aw ck rfl (w217 ax OT OU v hp0)
def P6:Ow 32 240:=aA rfl fun l hp0=>aj aw ck rfl (w240 ax OA l hp0)
def Qc:Ow 126 332:=aA rfl fun s=>aj aw ck rfl (w332 ax Pc s)
def Qg:Ow 90 441:=aA rfl fun s hp0=>aj aw ck rfl (w441 ax DI sG xk Pd s hp0)
def Qm:Ow 97 447:=aA rfl fun l=>aj aw ck rfl (w447 ax l)
def Qs:Ow 113 454:=aA rfl fun c=>aj aw ck rfl (w454 ax c)
def Qy:Ow 119 460:=aA rfl fun r of hp0=>aj aw ck rfl (w460 ax DW Pm Pn r of hp0)
def QE:Ow 130 468:=Cz rfl Ds fun r hp0=>lL 2 aw ck rfl rfl (w468 ax DM r hp0)
def QK:Ow 25 495:=aA rfl fun s hp0=>aj aw ck rfl (w495 ax sC Pr Ps xl Pt D4 s hp0)
def QQ:Ow 150 658:=aA rfl fun s=>aj aw ck rfl (w658 ax s)
def QW:Ow 158 665:=aA rfl fun n hp0=>aj aw ck rfl (w665 ax OI n hp0)
def Q4:Ow 171 671:=aA rfl fun l of hp0=>aj aw ck rfl (w671 ax DW D1 PD l of hp0)
def Ra:Ow 146 677:=dn rfl fun c hp0 nx m K hK=>wG rfl rfl aw ck rfl rfl hK (w677 ax c DZ hp0)
def Rg:Ow 120 744:=aA rfl fun s hp0=>aj aw ck rfl (w744 ax jJ PG PH PI D3 xn s hp0)
def Rm:Ow 198 812:=aA rfl fun l al=>aj aw ck rfl (w812 ax nb D1 l al)
def Rs:Ow 110 827:=aA rfl fun c hp0=>aj aw ck rfl (w827 ax sE c hp0)
def Ry:Ow 178 899:=aA rfl fun r hp0=>aj aw ck rfl (w899 ax DX r hp0)
def RF:Ow 216 949:=dn rfl fun w nd hp0 nx lp ln m K h1 h2 h3 h4 hK=>bP fk aG rfl (fun _=>rfl) aw ck rfl h1 h2 h3 h4 hK (w949 ax w nd (DR (Nat.le_of_eq (dA (c:=fun _=>0) h1).symm)) sH sI (tX (Nat.le_of_eq (dA (c:=fun _=>0) h1).symm)) Dw hp0)
def RM:Ow 226 955:=aA rfl fun l nm=>aj aw ck rfl (w955 ax l nm)
def Ef:Ow 230 1031:=dn rfl fun k w nd b hp0 nx lp ln m K h1 h2 h3 h4 hK=>bP fk aG rfl (fun _=>rfl) aw ck rfl h1 h2 h3 h4 hK (U4 ax k w nd b na sH sI D6 hp0)
def El:Ow 227 1079:=aA rfl fun s w=>aj aw ck rfl (Vb ax s w)
def Es:Ow 253 1141:=dn rfl fun W w nd b hp0 nx lp ln m K h1 h2 h3 h4 hK=>ir (fX _) aG rfl (fun _=>rfl) aw ck rfl h1 h2 h3 h4 hK (Vh ax W w nd b hp0)
end
end
section
section
variable [df]
def H76:Ow 34 76:=aA rfl fun s=>aj aw ck rfl (w76 ax Pu sC Ou s)
def PQ:Ow 24 208:=aA rfl fun s=>aj aw ck rfl (w208 ax s)
def PX:Ow 55 214:=aA rfl fun r s hp0=>aj aw ck rfl (w214 ax DJ r s hp0)
def P3:Ow 69 222:=Cz rfl Dp fun r hp0=>lL 2 aw ck rfl rfl (w222 ax O1 O2 DN O3 D5 r hp0)
def P9:Ow 10 247:=aA rfl fun m hp0=>aj aw ck rfl (w247 ax Pu sD DP DQ m hp0)
def Qd:Ow 93 349:=aA rfl fun s=>aj aw ck rfl (w349 ax s)
def Qj:Ow 94 444:=aA rfl fun s hp0=>aj aw ck rfl (w444 ax DP DQ s hp0)
def Qp:Ow 100 450:=dn rfl fun ws t l lw nx m K h1 h2 h3 h4 hp2 hK=>wh aw ck rfl h1 h2 h3 h4 hK fun m0 hp0 hp1=>w450 ax ws t m0 sF O6 Pg hp0 hp1 hp2
def Qv:Ow 116 457:=aA rfl fun r n hp0=>aj aw ck rfl (w457 ax nb Pk DV r n hp0)
def QB:Ow 127 465:=UC rfl Dq (fun r w n op hp0 hp1 hp2=>lL 2 aw ck rfl rfl (Nw ax xh xi r w n op hp0 hp1 hp2)) fun r w n op l nx m K hp0 hp1 hp2 hl hK=>CR (lL 2 aw ck rfl rfl (Nw ax xh xi r w n op hp0 hp1 hp2)) hl rfl rfl hK
def QH:Ow 73 490:=dn rfl fun r ps hs a b hp0 nx m K h1 h2 hK=>oK aw ck rfl h1 h2 hK (w490 ax r ps hs a b O8 hp0)
def QN:Ow 148 554:=aA rfl fun v hp0=>aj aw ck rfl (w554 ax DZ v hp0)
def QT:Ow 153 661:=aA rfl fun m=>aj aw ck rfl (w661 ax DT Px m)
def QZ:Ow 167 668:=aA rfl fun t=>aj aw ck rfl (w668 ax t)
def Q7:Ow 174 674:=aA rfl fun r x=>aj aw ck rfl (w674 ax r x)
def Rd:Ow 60 684:=aA rfl fun r hp0=>aj aw ck rfl (w684 ax sF xm D2 r hp0)
def Rj:Ow 190 809:=dn rfl fun w nd hp0 nx lp ln m K h1 h2 h3 h4 hK=>bP fk aG rfl (fun _=>rfl) aw ck rfl h1 h2 h3 h4 hK (w809 ax w nd (tV (Nat.le_of_eq (dA (c:=fun _=>2) h1).symm)) hp0)
def Rp:Ow 201 815:=aA rfl fun l=>aj aw ck rfl (w815 ax l)
def Rv:Ow 175 896:=aA rfl fun s hp0=>aj aw ck rfl (w896 ax s hp0)
def RB:Ow 213 946:=aA rfl fun w es b=>aj aw ck rfl (w946 ax w es b)
def RI:Ow 223 952:=dn rfl fun W w nd hp0 hp1 nx lp ln m K h1 h2 h3 h4 hK=>bP (fX _) aG rfl (fun _=>rfl) aw ck rfl h1 h2 h3 h4 hK (w952 ax W w nd (xf (Nat.le_of_eq (fW (c:=fun _=>2) hp0.1 h1).symm)) qe l4 hp0 hp1)
def Ec:Ow 203 1006:=aA rfl fun s=>aj aw ck rfl (U1 ax DY Dz s)
def Ei:Ow 234 1034:=dn rfl fun x W w nd b hp0 nx lp ln m K h1 h2 h3 h4 hK=>bP (fX _) aG rfl (fun _=>rfl) aw ck rfl h1 h2 h3 h4 hK (U7 ax x W w nd b hp0)
def Eo:Ow 243 1099:=aA rfl fun k hp0=>aj aw ck rfl (Ve ax k hp0)
def H1208:Ow 8 1208:=aA rfl fun m=>aj aw ck rfl (w1208 ax G1201 m)
end
end
end Go.Abs
