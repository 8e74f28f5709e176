/- A part of the proofs. -/
import Derived.Test.YtfijeeijkndliaaGreatDoorP26
import Derived.Test.YtfijeeijkndliaaGreatDoorP10
import Derived.Test.YtfijeeijkndliaaGreatDoorP11
import Derived.Test.YtfijeeijkndliaaGreatDoorP12
import Derived.Test.YtfijeeijkndliaaGreatDoorP13
import Derived.Test.YtfijeeijkndliaaGreatDoorP14
import Derived.Test.YtfijeeijkndliaaGreatDoorP15
import Derived.Test.YtfijeeijkndliaaGreatDoorP16
import Derived.Test.YtfijeeijkndliaaGreatDoorP17
import Derived.Test.YtfijeeijkndliaaGreatDoorP18
import Derived.Test.YtfijeeijkndliaaGreatDoorP20
import Derived.Test.YtfijeeijkndliaaGreatDoorP23
set_option linter.all false
set_option maxRecDepth 60000
set_option maxHeartbeats 2000000
namespace Go.Abs
section
section
variable [df]
def H72:Ow 30 72:=aA rfl fun r hp0=>aj aw ck rfl (w72 ax Pu DH r hp0)
def PN:Ow 68 125:=aA rfl fun s=>aj aw ck rfl (w125 ax OH s)
def PV:Ow 53 212:=aA rfl fun s=>aj aw ck rfl (w212 ax ON OO s)
def P1:Ow 64 218:=aA rfl fun r hp0=>aj aw ck rfl (w218 ax OV OW OX OY r hp0)
def P7:Ow 33 241:=aA rfl fun s hp0=>aj aw ck rfl (w241 ax Ol DO s hp0)
def Zl:Ow 28 344:=aA rfl fun l=>aj aw ck rfl (w344 ax o9 l)
def Qh:Ow 91 442:=aA rfl fun s hp0=>aj aw ck rfl (w442 ax sG s hp0)
def Qn:Ow 98 448:=aA rfl fun s hp0=>aj aw ck rfl (w448 ax sD OD na DO s hp0)
def Qt:Ow 114 455:=aA rfl fun n=>aj aw ck rfl (w455 ax n)
def Qz:Ow 87 461:=aA rfl fun w hp0=>aj aw ck rfl (w461 ax rr w hp0)
def QF:Ow 78 470:=aA rfl fun s b hp0=>aj aw ck rfl (w470 ax s b hp0)
def QL:Ow 26 496:=aA rfl fun r hp0=>aj aw ck rfl (w496 ax xl r hp0)
def QR:Ow 151 659:=aA rfl fun t=>aj aw ck rfl (w659 ax t)
def QX:Ow 165 666:=aA rfl fun t=>aj aw ck rfl (w666 ax t)
def Q5:Ow 172 672:=aA rfl fun s hp0=>aj aw ck rfl (w672 ax o9 nb jJ s hp0)
def Rb:Ow 147 678:=aA rfl fun op=>aj aw ck rfl (w678 ax op)
def Rh:Ow 121 745:=aA rfl fun r hp0=>aj aw ck rfl (w745 ax xn PJ r hp0)
def Rn:Ow 199 813:=aA rfl fun s=>aj aw ck rfl (w813 ax jJ PK D9 s)
def Rt:Ow 111 828:=aA rfl fun c hp0=>aj aw ck rfl (w828 ax DU xm Eb c hp0)
def Rz:Ow 179 900:=aA rfl fun r hp0=>aj aw ck rfl (w900 ax AA r hp0)
def RG:Ow 217 950:=aA rfl (aj aw ck rfl (w950 ax))
def RN:Ow 159 956:=aA rfl fun s w=>aj aw ck rfl (w956 ax s w)
def Eg:Ow 232 1032:=dn rfl fun W w nd hp0 hp1 nx lp ln m K h1 h2 h3 h4 hK=>bP (fX _) aG rfl (fun _=>rfl) aw ck rfl h1 h2 h3 h4 hK (U5 ax W w nd qe l4 (qf (Nat.le_of_eq (fW (c:=fun _=>1) hp0.1 h1).symm)) hp0 hp1)
def Em:Ow 241 1097:=dn rfl fun W w nd hp0 hp1 nx lp ln m K h1 h2 h3 h4 hK=>bP (fX _) aG rfl (fun _=>rfl) aw ck rfl h1 h2 h3 h4 hK (Vc ax W w nd (D8 (Nat.le_of_eq (fW (c:=fun _=>0) hp0.1 h1).symm)) qe l4 (qf (Nat.le_of_eq (fW (c:=fun _=>0) hp0.1 h1).symm)) DC hp0 hp1)
def H1201:Ow 22 1201:=aA rfl fun s=>aj aw ck rfl (w1201 ax s)
end
end
section
section
variable [df]
def H81:Ow 9 81:=aA rfl (aj aw ck rfl (w81 ax G82 I2))
def PS:Ow 50 209:=aA rfl fun v hp0=>aj aw ck rfl (w209 ax OJ OK DI v hp0)
def PY:Ow 56 215:=aA rfl fun r hp0=>aj aw ck rfl (w215 ax sF OR DK OS r hp0)
def P4:Ow 12 238:=aA rfl fun m hp0=>aj aw ck rfl (w238 ax G72 Az m hp0)
def Qa:Ow 42 249:=aA rfl fun l x hp0=>aj aw ck rfl (w249 ax l x hp0)
def Qe:Ow 170 357:=aA rfl fun s=>aj aw ck rfl (w357 ax DL xj s)
def Qk:Ow 95 445:=aA rfl fun s=>aj aw ck rfl (w445 ax sC Pe DS s)
def Qq:Ow 101 451:=aA rfl fun v hp0=>aj aw ck rfl (w451 ax sE DU v hp0)
def Qw:Ow 117 458:=aA rfl fun r b hp0=>aj aw ck rfl (w458 ax o9 yG DV r b hp0)
def QC:Ow 128 466:=aA rfl fun s hp0=>aj aw ck rfl (w466 ax sE DK sG xk Po s hp0)
def QI:Ow 75 492:=dn rfl fun r ps hs a b hp0 nx m K h1 h2 hK=>oK aw ck rfl h1 h2 hK (w492 ax r ps hs a b hp0)
def QO:Ow 134 563:=aA rfl fun s=>aj aw ck rfl (w563 ax s)
def QU:Ow 154 662:=aA rfl fun l hp0=>aj aw ck rfl (w662 ax Py l hp0)
def Q0:Ow 168 669:=aA rfl fun r w al hp0=>aj aw ck rfl (w669 ax o9 yG Pz r w al hp0)
def Q8:Ow 184 675:=aA rfl fun s b=>aj aw ck rfl (w675 ax s b)
def Re:Ow 61 685:=aA rfl fun r hp0=>aj aw ck rfl (w685 ax xl r hp0)
def Rk:Ow 191 810:=aA rfl fun l=>aj aw ck rfl (w810 ax na l)
def Rq:Ow 202 816:=aA rfl fun l nm=>aj aw ck rfl (w816 ax PL l nm)
def Rw:Ow 176 897:=aA rfl fun s hp0=>aj aw ck rfl (w897 ax jJ AA Dt Du Dv s hp0)
def RC:Ow 214 947:=dn rfl fun w nd b nx lp ln m K h1 h2 h3 h4 hK=>ir fk aG rfl (fun _=>rfl) aw ck rfl h1 h2 h3 h4 hK (w947 ax w nd b xo)
def RJ:Ow 224 953:=aA rfl fun m=>aj aw ck rfl (w953 ax Ea Dx m)
def Ed:Ow 204 1007:=aA rfl fun s=>aj aw ck rfl (U2 ax s)
def Ej:Ow 235 1035:=aA rfl fun l hp0=>aj aw ck rfl (U8 ax DA l hp0)
def Ep:Ow 244 1100:=aA rfl fun s b hp0=>aj aw ck rfl (Vf ax s b hp0)
end
end
end Go.Abs
