/- A part of the proofs. -/
import Derived.Test.YtfijeeijkndliaaGreatDoorP44
import Derived.Test.YtfijeeijkndliaaGreatDoorP10
import Derived.Test.YtfijeeijkndliaaGreatDoorP11
import Derived.Test.YtfijeeijkndliaaGreatDoorP12
import Derived.Test.YtfijeeijkndliaaGreatDoorP13
import Derived.Test.YtfijeeijkndliaaGreatDoorP14
import Derived.Test.YtfijeeijkndliaaGreatDoorP15
import Derived.Test.YtfijeeijkndliaaGreatDoorP16
import Derived.Test.YtfijeeijkndliaaGreatDoorP17
import Derived.Test.YtfijeeijkndliaaGreatDoorP18
import Derived.Test.YtfijeeijkndliaaGreatDoorP19
import Derived.Test.YtfijeeijkndliaaGreatDoorP20
import Derived.Test.YtfijeeijkndliaaGreatDoorP21
import Derived.Test.YtfijeeijkndliaaGreatDoorP22
import Derived.Test.YtfijeeijkndliaaGreatDoorP25
set_option linter.all false
set_option maxRecDepth 60000
set_option maxHeartbeats 2000000
namespace Go.Abs
section
section
variable [df]
def H72:Ow 30 72:=aA rfl fun r hp0=>aj aw ck rfl (w72 ax Pu DH r hp0)
def H81:Ow 9 81:=aA rfl (aj aw ck rfl (w81 ax G82 I2))
def Zi:Ow 11 136:=aA rfl fun m hp0=>aj aw ck rfl (w136 ax Zf Za Zb m hp0)
def PW:Ow 54 213:=aA rfl fun l hp0=>aj aw ck rfl (w213 ax na OP DJ OQ l hp0)
def P2:Ow 49 219:=aA rfl fun r hp0=>aj aw ck rfl (w219 ax rr OE OZ O0 r hp0)
def H227:Ow 21 227:=aA rfl fun n=>aj aw ck rfl (w227 ax GX n)
def P4:Ow 12 238:=aA rfl fun m hp0=>aj aw ck rfl (w238 ax G72 Az m hp0)
def H248:Ow 41 248:=aA rfl fun l hp0=>aj aw ck rfl (w248 ax jJ l hp0)
def Zm:Ow 29 345:=aA rfl fun l hp0=>aj aw ck rfl (w345 ax o9 yG l hp0)
def Qi:Ow 92 443:=aA rfl fun r w al hp0=>aj aw ck rfl (w443 ax DF na r w al hp0)
def Qo:Ow 99 449:=aA rfl fun l nm=>aj aw ck rfl (w449 ax Pf l nm)
def Qu:Ow 115 456:=aA rfl fun s p hp0=>aj aw ck rfl (w456 ax jJ Ph AB Pj s p hp0)
def QA:Ow 88 462:=aA rfl fun s hp0=>aj aw ck rfl (w462 ax s hp0)
def H471:Ow 135 471:=dn rfl fun x l hp0 nx j0 j1 j2 j3 j4 m K h1 h2 h3 hK=>lg (by simp only[bK,D.bN,kn]) aw ck rfl h1 h2 h3 hK (w471 ax l x.r.name x.r.v x.r.needs x.r.bars x.r.feats x.st G568 hp0)
def Zn:Ow 141 477:=aA rfl fun a b=>aj aw ck rfl (w477 ax Lc a b)
def H483:Ow 144 483:=aA rfl fun l s hp0=>aj aw ck rfl (w483 ax l s hp0)
def QM:Ow 149 533:=aA rfl fun s b hp0=>aj aw ck rfl (w533 ax s b hp0)
def QR:Ow 151 659:=aA rfl fun t=>aj aw ck rfl (w659 ax t)
def QX:Ow 165 666:=aA rfl fun t=>aj aw ck rfl (w666 ax t)
def Q5:Ow 172 672:=aA rfl fun s hp0=>aj aw ck rfl (w672 ax o9 nb jJ s hp0)
def Rb:Ow 147 678:=aA rfl fun op=>aj aw ck rfl (w678 ax op)
def H742:Ow 211 742:=aA rfl fun l=>aj aw ck rfl (w742 ax AB l)
def Rl:Ow 192 811:=aA rfl fun l i hp0=>aj aw ck rfl (w811 ax D6 l i (tW (aH _)) (D7 (aH _)) hp0)
def Rr:Ow 102 819:=aA rfl fun s hp0=>aj aw ck rfl (w819 ax sG xk xm D2 PM Eb s hp0)
def Rx:Ow 177 898:=aA rfl fun s=>aj aw ck rfl (w898 ax s)
def RE:Ow 215 948:=dn rfl fun x w nd b hp0 nx lp ln m K h1 h2 h3 h4 hK=>bP fk aG rfl (fun _=>rfl) aw ck rfl h1 h2 h3 h4 hK (w948 ax x w nd b hp0)
def RL:Ow 225 954:=aA rfl fun l hp0=>aj aw ck rfl (w954 ax Dy l hp0)
def Ee:Ow 205 1008:=aA rfl fun l=>aj aw ck rfl (U3 ax AB l)
def Ek:Ow 236 1036:=aA rfl fun l i hp0=>aj aw ck rfl (U9 ax tS DB l i (xg (aH _)) hp0)
def Er:Ow 250 1126:=dn rfl fun W w nd hp0 hp1 nx lp ln m K h1 h2 h3 h4 hK=>bP (fX _) aG rfl (fun _=>rfl) aw ck rfl h1 h2 h3 h4 hK (Vg ax W w nd nb l4 tS DE hp0 hp1)
end
end
section
section
variable [df]
def H77:Ow 43 77:=aA rfl fun s=>aj aw ck rfl (w77 ax Zf Y7 G224 s)
def H84:Ow 16 84:=aA rfl fun a b=>aj aw ck rfl (w84 ax G78 a b)
def PT:Ow 51 210:=aA rfl fun r n hp0=>aj aw ck rfl (w210 ax DG na OL r n hp0)
def PZ:Ow 62 216:=aA rfl fun s=>aj aw ck rfl (w216 ax DL xj s)
def H224:Ow 79 224:=dn rfl fun x t hp0 hp1 hp2 nx j0 j1 j2 j3 j4 m K h1 h2 h3 hK=>lg rfl aw ck rfl h1 h2 h3 hK (w224 ax t x.r.name x.r.v x.r.needs x.r.bars x.r.feats x.st jJ G471 G472 G473 Zc O4 G476 hp2 hp0.1 hp0.2.1 hp0.2.2 (by unfold j6.sz at hp1;omega))
def H230:Ow 47 230:=aA rfl fun l i hp0=>aj aw ck rfl (w230 ax yF AA l i hp0)
def P7:Ow 33 241:=aA rfl fun s hp0=>aj aw ck rfl (w241 ax Ol DO s hp0)
def Qb:Ow 86 316:=aA rfl fun v hp0=>aj aw ck rfl (w316 ax tT Pb v hp0)
def Qf:Ow 89 440:=aA rfl fun n=>aj aw ck rfl (w440 ax n)
def Ql:Ow 96 446:=aA rfl fun m=>aj aw ck rfl (w446 ax DS DT m)
def Qr:Ow 112 453:=aA rfl fun c=>aj aw ck rfl (w453 ax c)
def Qx:Ow 118 459:=aA rfl fun l hp0=>aj aw ck rfl (w459 ax nb Pl l hp0)
def QD:Ow 129 467:=Cz rfl Dr fun r hp0=>lL 2 aw ck rfl rfl (w467 ax sC DM DN r hp0)
def H474:Ow 138 474:=aA rfl fun l n=>aj aw ck rfl (w474 ax l n)
def H480:Ow 142 480:=aA rfl fun l i own alone hp0 hp1=>aj aw ck rfl (w480 ax Ov yF Ox l i own alone hp0 hp1)
def QJ:Ow 77 494:=aA rfl fun l x=>aj aw ck rfl (w494 ax l x)
def H568:Ow 187 568:=aA rfl fun s hp0=>aj aw ck rfl (w568 ax tT jJ G741 G742 s hp0)
def QU:Ow 154 662:=aA rfl fun l hp0=>aj aw ck rfl (w662 ax Py l hp0)
def Q0:Ow 168 669:=aA rfl fun r w al hp0=>aj aw ck rfl (w669 ax o9 yG Pz r w al hp0)
def Q8:Ow 184 675:=aA rfl fun s b=>aj aw ck rfl (w675 ax s b)
def Re:Ow 61 685:=aA rfl fun r hp0=>aj aw ck rfl (w685 ax xl r hp0)
def Ri:Ow 189 808:=dn rfl ⟨fun w nd hp0 nx lp ln m K h1 h2 h3 h4 hK=>bP fk aG rfl (fun _=>rfl) aw ck rfl h1 h2 h3 h4 hK (Nx ax kG 809 rD 4 w nd xo sH sI hp0 qh aG aG (fun w2 nd2 hl hp=>D0 (aH _) w2 nd2 hp (by rw[dA h1];exact(show 6*w2.length+2<6*w.length+3 by omega)))),fun w nd hp0 nx lp ln m K h1 h2 h3 h4 hK=>bP fk aG rfl (fun _=>rfl) aw ck rfl h1 h2 h3 h4 hK (Nx ax kq 949 lr 3 w nd xo sH sI hp0 pV aG aG (fun w2 nd2 hl hp=>tX (aH _) w2 nd2 hp (by rw[dA h1];exact(show 6*w2.length+0<6*w.length+1 by omega))))⟩
def Ro:Ow 200 814:=aA rfl fun m=>aj aw ck rfl (w814 ax D9 Ea m)
def Ru:Ow 212 882:=aA rfl fun n hp0=>aj aw ck rfl (w882 ax n hp0)
def RA:Ow 180 901:=aA rfl fun r hp0=>aj aw ck rfl (w901 ax D3 xn r hp0)
def RH:Ow 218 951:=aA rfl fun l i b hp0=>aj aw ck rfl (w951 ax l i b (tW (aH _)) hp0)
def RO:Ow 160 957:=aA rfl fun op=>aj aw ck rfl (w957 ax op)
def Eh:Ow 233 1033:=dn rfl fun s W w nd b hp0 nx lp ln m K h1 h2 h3 h4 hK=>ir (fX _) aG rfl (fun _=>rfl) aw ck rfl h1 h2 h3 h4 hK (U6 ax s W w nd b hp0)
def En:Ow 242 1098:=aA rfl fun n=>aj aw ck rfl (Vd ax nb n)
def Zh:Ow 17 1209:=aA rfl fun l i own hp0 hp1=>aj aw ck rfl (agK ax G79 Ov yF Ox l i own hp0 hp1)
end
end
end Go.Abs
