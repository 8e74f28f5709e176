/- A part of the proofs. -/
import Derived.Test.YtfijeeijkndliaaGreatDoorP26
import Derived.Test.YtfijeeijkndliaaGreatDoorP10
import Derived.Test.YtfijeeijkndliaaGreatDoorP11
import Derived.Test.YtfijeeijkndliaaGreatDoorP12
import Derived.Test.YtfijeeijkndliaaGreatDoorP13
import Derived.Test.YtfijeeijkndliaaGreatDoorP14
import Derived.Test.YtfijeeijkndliaaGreatDoorP15
import Derived.Test.YtfijeeijkndliaaGreatDoorP16
import Derived.Test.YtfijeeijkndliaaGreatDoorP17
import Derived.Test.YtfijeeijkndliaaGreatDoorP18
import Derived.Test.YtfijeeijkndliaaGreatDoorP20
import Derived.Test.YtfijeeijkndliaaGreatDoorP23
set_option linter.all false
set_option maxRecDepth 60000
set_option maxHeartbeats 2000000
namespace Go.Abs
section
section
variable [df]
def H70:Ow 23 70:=aA rfl fun r hp0=>aj aw ck rfl (w70 ax sD sE On DF DG Oo Oq DH r hp0)
def H82:Ow 14 82:=aA rfl fun s hp0=>aj aw ck rfl (w82 ax G76 Oy Oz sF OB OC xh xi Az O7 O9 s hp0)
def PT:Ow 51 210:=aA rfl fun r n hp0=>aj aw ck rfl (w210 ax DG na OL r n hp0)
def PZ:Ow 62 216:=aA rfl fun s=>aj aw ck rfl (w216 ax DL xj s)
def P5:Ow 31 239:=aA rfl fun s hp0=>aj aw ck rfl (w239 ax OG s hp0)
def Qb:Ow 86 316:=aA rfl fun v hp0=>aj aw ck rfl (w316 ax tT Pb v hp0)
def Qf:Ow 89 440:=aA rfl fun n=>aj aw ck rfl (w440 ax n)
def Ql:Ow 96 446:=aA rfl fun m=>aj aw ck rfl (w446 ax DS DT m)
def Qr:Ow 112 453:=aA rfl fun c=>aj aw ck rfl (w453 ax c)
def Qx:Ow 118 459:=aA rfl fun l hp0=>aj aw ck rfl (w459 ax nb Pl l hp0)
def QD:Ow 129 467:=Cz rfl Dr fun r hp0=>lL 2 aw ck rfl rfl (w467 ax sC DM DN r hp0)
def QJ:Ow 77 494:=aA rfl fun l x=>aj aw ck rfl (w494 ax l x)
def QP:Ow 65 572:=aA rfl fun s hp0=>aj aw ck rfl (w572 ax Pv Pw s hp0)
def QV:Ow 156 663:=aA rfl fun l nm=>aj aw ck rfl (w663 ax l nm)
def Q3:Ow 169 670:=aA rfl fun s=>aj aw ck rfl (w670 ax PA PC s)
def Q9:Ow 145 676:=aA rfl fun c hp0=>aj aw ck rfl (w676 ax tT c hp0)
def Rf:Ow 188 734:=aA rfl fun n hp0=>aj aw ck rfl (w734 ax PF n hp0)
def Rl:Ow 192 811:=aA rfl fun l i hp0=>aj aw ck rfl (w811 ax D6 l i (tW (aH _)) (D7 (aH _)) hp0)
def Rr:Ow 102 819:=aA rfl fun s hp0=>aj aw ck rfl (w819 ax sG xk xm D2 PM Eb s hp0)
def Rx:Ow 177 898:=aA rfl fun s=>aj aw ck rfl (w898 ax s)
def RE:Ow 215 948:=dn rfl fun x w nd b hp0 nx lp ln m K h1 h2 h3 h4 hK=>bP fk aG rfl (fun _=>rfl) aw ck rfl h1 h2 h3 h4 hK (w948 ax x w nd b hp0)
def RL:Ow 225 954:=aA rfl fun l hp0=>aj aw ck rfl (w954 ax Dy l hp0)
def Ee:Ow 205 1008:=aA rfl fun l=>aj aw ck rfl (U3 ax AB l)
def Ek:Ow 236 1036:=aA rfl fun l i hp0=>aj aw ck rfl (U9 ax tS DB l i (xg (aH _)) hp0)
def Er:Ow 250 1126:=dn rfl fun W w nd hp0 hp1 nx lp ln m K h1 h2 h3 h4 hK=>bP (fX _) aG rfl (fun _=>rfl) aw ck rfl h1 h2 h3 h4 hK (Vg ax W w nd nb l4 tS DE hp0 hp1)
end
end
section
section
variable [df]
def H73:Ow 20 73:=aA rfl fun r hp0=>aj aw ck rfl (w73 ax Zf GW r hp0)
def Zi:Ow 11 136:=aA rfl fun m hp0=>aj aw ck rfl (w136 ax Zf Za Zb m hp0)
def PW:Ow 54 213:=aA rfl fun l hp0=>aj aw ck rfl (w213 ax na OP DJ OQ l hp0)
def P2:Ow 49 219:=aA rfl fun r hp0=>aj aw ck rfl (w219 ax rr OE OZ O0 r hp0)
def P8:Ow 39 246:=aA rfl fun l x=>aj aw ck rfl (w246 ax Pa l x)
def Zm:Ow 29 345:=aA rfl fun l hp0=>aj aw ck rfl (w345 ax o9 yG l hp0)
def Qi:Ow 92 443:=aA rfl fun r w al hp0=>aj aw ck rfl (w443 ax DF na r w al hp0)
def Qo:Ow 99 449:=aA rfl fun l nm=>aj aw ck rfl (w449 ax Pf l nm)
def Qu:Ow 115 456:=aA rfl fun s p hp0=>aj aw ck rfl (w456 ax jJ Ph AB Pj s p hp0)
def QA:Ow 88 462:=aA rfl fun s hp0=>aj aw ck rfl (w462 ax s hp0)
def QG:Ow 85 482:=aA rfl fun c hp0=>aj aw ck rfl (w482 ax rr DX Pq DY c hp0)
def QM:Ow 149 533:=aA rfl fun s b hp0=>aj aw ck rfl (w533 ax s b hp0)
def QS:Ow 152 660:=dn rfl fun w nd hp0 nx lp ln m K h1 h2 h3 h4 hK=>bP fk aG rfl (fun _=>rfl) aw ck rfl h1 h2 h3 h4 hK (w660 ax w nd (tV (Nat.le_of_eq (dA (c:=fun _=>4) h1).symm)) hp0)
def QY:Ow 166 667:=aA rfl fun s=>aj aw ck rfl (w667 ax xj s)
def Q6:Ow 173 673:=aA rfl fun r x=>aj aw ck rfl (w673 ax r x)
def Rc:Ow 58 682:=aA rfl fun s hp0=>aj aw ck rfl (w682 ax PE s hp0)
def Ri:Ow 189 808:=dn rfl ⟨fun w nd hp0 nx lp ln m K h1 h2 h3 h4 hK=>bP fk aG rfl (fun _=>rfl) aw ck rfl h1 h2 h3 h4 hK (Nx ax kG 809 rD 4 w nd xo sH sI hp0 qh aG aG (fun w2 nd2 hl hp=>D0 (aH _) w2 nd2 hp (by rw[dA h1];exact(show 6*w2.length+2<6*w.length+3 by omega)))),fun w nd hp0 nx lp ln m K h1 h2 h3 h4 hK=>bP fk aG rfl (fun _=>rfl) aw ck rfl h1 h2 h3 h4 hK (Nx ax kq 949 lr 3 w nd xo sH sI hp0 pV aG aG (fun w2 nd2 hl hp=>tX (aH _) w2 nd2 hp (by rw[dA h1];exact(show 6*w2.length+0<6*w.length+1 by omega))))⟩
def Ro:Ow 200 814:=aA rfl fun m=>aj aw ck rfl (w814 ax D9 Ea m)
def Ru:Ow 212 882:=aA rfl fun n hp0=>aj aw ck rfl (w882 ax n hp0)
def RA:Ow 180 901:=aA rfl fun r hp0=>aj aw ck rfl (w901 ax D3 xn r hp0)
def RH:Ow 218 951:=aA rfl fun l i b hp0=>aj aw ck rfl (w951 ax l i b (tW (aH _)) hp0)
def RO:Ow 160 957:=aA rfl fun op=>aj aw ck rfl (w957 ax op)
def Eh:Ow 233 1033:=dn rfl fun s W w nd b hp0 nx lp ln m K h1 h2 h3 h4 hK=>ir (fX _) aG rfl (fun _=>rfl) aw ck rfl h1 h2 h3 h4 hK (U6 ax s W w nd b hp0)
def En:Ow 242 1098:=aA rfl fun n=>aj aw ck rfl (Vd ax nb n)
def H1204:Ow 3 1204:=aA rfl fun m hp0=>aj aw ck rfl (w1204 ax G81 G121 Om I2 Az G1208 m hp0)
end
end
end Go.Abs
