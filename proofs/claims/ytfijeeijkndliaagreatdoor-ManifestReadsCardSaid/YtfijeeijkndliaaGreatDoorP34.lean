/- A part of the proofs. -/
import Derived.Test.YtfijeeijkndliaaGreatDoorP32
import Derived.Test.YtfijeeijkndliaaGreatDoorP10
import Derived.Test.YtfijeeijkndliaaGreatDoorP11
import Derived.Test.YtfijeeijkndliaaGreatDoorP12
import Derived.Test.YtfijeeijkndliaaGreatDoorP13
import Derived.Test.YtfijeeijkndliaaGreatDoorP14
import Derived.Test.YtfijeeijkndliaaGreatDoorP15
import Derived.Test.YtfijeeijkndliaaGreatDoorP16
import Derived.Test.YtfijeeijkndliaaGreatDoorP17
import Derived.Test.YtfijeeijkndliaaGreatDoorP18
import Derived.Test.YtfijeeijkndliaaGreatDoorP19
import Derived.Test.YtfijeeijkndliaaGreatDoorP21
set_option linter.all false
set_option maxRecDepth 60000
set_option maxHeartbeats 2000000
namespace Go.Abs
section
section
variable [df]
def H14:Ow 4 14:=aA rfl fun s=>aj aw ck rfl (w14 ax G81 G82 G83 G84 s)
def H78:Ow 45 78:=aA rfl fun a b=>aj aw ck rfl (w78 ax Y8 Lc a b)
def Zi:Ow 11 136:=aA rfl fun m hp0=>aj aw ck rfl (w136 ax Zf Za Zb m hp0)
def PW:Ow 54 213:=aA rfl fun l hp0=>aj aw ck rfl (w213 ax na OP DJ OQ l hp0)
def P2:Ow 49 219:=aA rfl fun r hp0=>aj aw ck rfl (w219 ax rr OE OZ O0 r hp0)
def P4:Ow 12 238:=aA rfl fun m hp0=>aj aw ck rfl (w238 ax G72 Az m hp0)
def H248:Ow 41 248:=aA rfl fun l hp0=>aj aw ck rfl (w248 ax jJ l hp0)
def Zm:Ow 29 345:=aA rfl fun l hp0=>aj aw ck rfl (w345 ax o9 yG l hp0)
def Qi:Ow 92 443:=aA rfl fun r w al hp0=>aj aw ck rfl (w443 ax DF na r w al hp0)
def Qo:Ow 99 449:=aA rfl fun l nm=>aj aw ck rfl (w449 ax Pf l nm)
def Qu:Ow 115 456:=aA rfl fun s p hp0=>aj aw ck rfl (w456 ax jJ Ph AB Pj s p hp0)
def QA:Ow 88 462:=aA rfl fun s hp0=>aj aw ck rfl (w462 ax s hp0)
def H471:Ow 135 471:=dn rfl fun x l hp0 nx j0 j1 j2 j3 j4 m K h1 h2 h3 hK=>lg (by simp only[bK,D.bN,kn]) aw ck rfl h1 h2 h3 hK (w471 ax l x.r.name x.r.v x.r.needs x.r.bars x.r.feats x.st G568 hp0)
def Zn:Ow 141 477:=aA rfl fun a b=>aj aw ck rfl (w477 ax Lc a b)
def QL:Ow 26 496:=aA rfl fun r hp0=>aj aw ck rfl (w496 ax xl r hp0)
def QQ:Ow 150 658:=aA rfl fun s=>aj aw ck rfl (w658 ax s)
def QW:Ow 158 665:=aA rfl fun n hp0=>aj aw ck rfl (w665 ax OI n hp0)
def Q4:Ow 171 671:=aA rfl fun l of hp0=>aj aw ck rfl (w671 ax DW D1 PD l of hp0)
def Ra:Ow 146 677:=dn rfl fun c hp0 nx m K hK=>wG rfl rfl aw ck rfl rfl hK (w677 ax c DZ hp0)
def H741:Ow 210 741:=aA rfl fun s b=>aj aw ck rfl (w741 ax s b)
def Rk:Ow 191 810:=aA rfl fun l=>aj aw ck rfl (w810 ax na l)
def Rq:Ow 202 816:=aA rfl fun l nm=>aj aw ck rfl (w816 ax PL l nm)
def Rw:Ow 176 897:=aA rfl fun s hp0=>aj aw ck rfl (w897 ax jJ AA Dt Du Dv s hp0)
def RC:Ow 214 947:=dn rfl fun w nd b nx lp ln m K h1 h2 h3 h4 hK=>ir fk aG rfl (fun _=>rfl) aw ck rfl h1 h2 h3 h4 hK (w947 ax w nd b xo)
def RJ:Ow 224 953:=aA rfl fun m=>aj aw ck rfl (w953 ax Ea Dx m)
def Ed:Ow 204 1007:=aA rfl fun s=>aj aw ck rfl (U2 ax s)
def Ej:Ow 235 1035:=aA rfl fun l hp0=>aj aw ck rfl (U8 ax DA l hp0)
def Ep:Ow 244 1100:=aA rfl fun s b hp0=>aj aw ck rfl (Vf ax s b hp0)
end
end
section
section
variable [df]
def H72:Ow 30 72:=aA rfl fun r hp0=>aj aw ck rfl (w72 ax Pu DH r hp0)
def H83:Ow 15 83:=aA rfl fun s hp0=>aj aw ck rfl (w83 ax G77 Om Y7 G248 rr G250 s hp0)
def PT:Ow 51 210:=aA rfl fun r n hp0=>aj aw ck rfl (w210 ax DG na OL r n hp0)
def PZ:Ow 62 216:=aA rfl fun s=>aj aw ck rfl (w216 ax DL xj s)
def H224:Ow 79 224:=dn rfl fun x t hp0 hp1 hp2 nx j0 j1 j2 j3 j4 m K h1 h2 h3 hK=>lg rfl aw ck rfl h1 h2 h3 hK (w224 ax t x.r.name x.r.v x.r.needs x.r.bars x.r.feats x.st jJ G471 G472 G473 Zc O4 G476 hp2 hp0.1 hp0.2.1 hp0.2.2 (by unfold j6.sz at hp1;omega))
def P7:Ow 33 241:=aA rfl fun s hp0=>aj aw ck rfl (w241 ax Ol DO s hp0)
def Qb:Ow 86 316:=aA rfl fun v hp0=>aj aw ck rfl (w316 ax tT Pb v hp0)
def Qf:Ow 89 440:=aA rfl fun n=>aj aw ck rfl (w440 ax n)
def Ql:Ow 96 446:=aA rfl fun m=>aj aw ck rfl (w446 ax DS DT m)
def Qr:Ow 112 453:=aA rfl fun c=>aj aw ck rfl (w453 ax c)
def Qx:Ow 118 459:=aA rfl fun l hp0=>aj aw ck rfl (w459 ax nb Pl l hp0)
def QD:Ow 129 467:=Cz rfl Dr fun r hp0=>lL 2 aw ck rfl rfl (w467 ax sC DM DN r hp0)
def H474:Ow 138 474:=aA rfl fun l n=>aj aw ck rfl (w474 ax l n)
def QI:Ow 75 492:=dn rfl fun r ps hs a b hp0 nx m K h1 h2 hK=>oK aw ck rfl h1 h2 hK (w492 ax r ps hs a b hp0)
def QO:Ow 134 563:=aA rfl fun s=>aj aw ck rfl (w563 ax s)
def QT:Ow 153 661:=aA rfl fun m=>aj aw ck rfl (w661 ax DT Px m)
def QZ:Ow 167 668:=aA rfl fun t=>aj aw ck rfl (w668 ax t)
def Q7:Ow 174 674:=aA rfl fun r x=>aj aw ck rfl (w674 ax r x)
def Rd:Ow 60 684:=aA rfl fun r hp0=>aj aw ck rfl (w684 ax sF xm D2 r hp0)
def Rh:Ow 121 745:=aA rfl fun r hp0=>aj aw ck rfl (w745 ax xn PJ r hp0)
def Rn:Ow 199 813:=aA rfl fun s=>aj aw ck rfl (w813 ax jJ PK D9 s)
def Rt:Ow 111 828:=aA rfl fun c hp0=>aj aw ck rfl (w828 ax DU xm Eb c hp0)
def Rz:Ow 179 900:=aA rfl fun r hp0=>aj aw ck rfl (w900 ax AA r hp0)
def RG:Ow 217 950:=aA rfl (aj aw ck rfl (w950 ax))
def RN:Ow 159 956:=aA rfl fun s w=>aj aw ck rfl (w956 ax s w)
def Eg:Ow 232 1032:=dn rfl fun W w nd hp0 hp1 nx lp ln m K h1 h2 h3 h4 hK=>bP (fX _) aG rfl (fun _=>rfl) aw ck rfl h1 h2 h3 h4 hK (U5 ax W w nd qe l4 (qf (Nat.le_of_eq (fW (c:=fun _=>1) hp0.1 h1).symm)) hp0 hp1)
def Em:Ow 241 1097:=dn rfl fun W w nd hp0 hp1 nx lp ln m K h1 h2 h3 h4 hK=>bP (fX _) aG rfl (fun _=>rfl) aw ck rfl h1 h2 h3 h4 hK (Vc ax W w nd (D8 (Nat.le_of_eq (fW (c:=fun _=>0) hp0.1 h1).symm)) qe l4 (qf (Nat.le_of_eq (fW (c:=fun _=>0) hp0.1 h1).symm)) DC hp0 hp1)
end
end
end Go.Abs
