/- A part of the proofs. -/
import Derived.Test.YtfijeeijkndliaaGreatDoorP32
import Derived.Test.YtfijeeijkndliaaGreatDoorP10
import Derived.Test.YtfijeeijkndliaaGreatDoorP11
import Derived.Test.YtfijeeijkndliaaGreatDoorP12
import Derived.Test.YtfijeeijkndliaaGreatDoorP13
import Derived.Test.YtfijeeijkndliaaGreatDoorP14
import Derived.Test.YtfijeeijkndliaaGreatDoorP15
import Derived.Test.YtfijeeijkndliaaGreatDoorP16
import Derived.Test.YtfijeeijkndliaaGreatDoorP17
import Derived.Test.YtfijeeijkndliaaGreatDoorP18
import Derived.Test.YtfijeeijkndliaaGreatDoorP19
import Derived.Test.YtfijeeijkndliaaGreatDoorP21
set_option linter.all false
set_option maxRecDepth 60000
set_option maxHeartbeats 2000000
namespace Go.Abs
section
section
variable [df]
def H70:Ow 23 70:=aA rfl fun r hp0=>aj aw ck rfl (w70 ax sD sE On DF DG Oo Oq DH r hp0)
def H81:Ow 9 81:=aA rfl (aj aw ck rfl (w81 ax G82 I2))
def PQ:Ow 24 208:=aA rfl fun s=>aj aw ck rfl (w208 ax s)
def PX:Ow 55 214:=aA rfl fun r s hp0=>aj aw ck rfl (w214 ax DJ r s hp0)
def P3:Ow 69 222:=Cz rfl Dp fun r hp0=>lL 2 aw ck rfl rfl (w222 ax O1 O2 DN O3 D5 r hp0)
def P5:Ow 31 239:=aA rfl fun s hp0=>aj aw ck rfl (w239 ax OG s hp0)
def Qa:Ow 42 249:=aA rfl fun l x hp0=>aj aw ck rfl (w249 ax l x hp0)
def Qd:Ow 93 349:=aA rfl fun s=>aj aw ck rfl (w349 ax s)
def Qj:Ow 94 444:=aA rfl fun s hp0=>aj aw ck rfl (w444 ax DP DQ s hp0)
def Qp:Ow 100 450:=dn rfl fun ws t l lw nx m K h1 h2 h3 h4 hp2 hK=>wh aw ck rfl h1 h2 h3 h4 hK fun m0 hp0 hp1=>w450 ax ws t m0 sF O6 Pg hp0 hp1 hp2
def Qv:Ow 116 457:=aA rfl fun r n hp0=>aj aw ck rfl (w457 ax nb Pk DV r n hp0)
def QB:Ow 127 465:=UC rfl Dq (fun r w n op hp0 hp1 hp2=>lL 2 aw ck rfl rfl (Nw ax xh xi r w n op hp0 hp1 hp2)) fun r w n op l nx m K hp0 hp1 hp2 hl hK=>CR (lL 2 aw ck rfl rfl (Nw ax xh xi r w n op hp0 hp1 hp2)) hl rfl rfl hK
def H472:Ow 136 472:=dn rfl fun x t hp0 hp1 hp2 hp3 nx j0 j1 j2 j3 j4 m K h1 h2 h3 hK=>lg rfl aw ck rfl h1 h2 h3 hK (w472 ax t x.r.name x.r.v x.r.needs x.r.bars x.r.feats x.st jJ O4 hp0 hp1 hp2 hp3)
def QG:Ow 85 482:=aA rfl fun c hp0=>aj aw ck rfl (w482 ax rr DX Pq DY c hp0)
def QM:Ow 149 533:=aA rfl fun s b hp0=>aj aw ck rfl (w533 ax s b hp0)
def QR:Ow 151 659:=aA rfl fun t=>aj aw ck rfl (w659 ax t)
def QX:Ow 165 666:=aA rfl fun t=>aj aw ck rfl (w666 ax t)
def Q5:Ow 172 672:=aA rfl fun s hp0=>aj aw ck rfl (w672 ax o9 nb jJ s hp0)
def Rb:Ow 147 678:=aA rfl fun op=>aj aw ck rfl (w678 ax op)
def H742:Ow 211 742:=aA rfl fun l=>aj aw ck rfl (w742 ax AB l)
def Rl:Ow 192 811:=aA rfl fun l i hp0=>aj aw ck rfl (w811 ax D6 l i (tW (aH _)) (D7 (aH _)) hp0)
def Rr:Ow 102 819:=aA rfl fun s hp0=>aj aw ck rfl (w819 ax sG xk xm D2 PM Eb s hp0)
def Rx:Ow 177 898:=aA rfl fun s=>aj aw ck rfl (w898 ax s)
def RE:Ow 215 948:=dn rfl fun x w nd b hp0 nx lp ln m K h1 h2 h3 h4 hK=>bP fk aG rfl (fun _=>rfl) aw ck rfl h1 h2 h3 h4 hK (w948 ax x w nd b hp0)
def RL:Ow 225 954:=aA rfl fun l hp0=>aj aw ck rfl (w954 ax Dy l hp0)
def Ee:Ow 205 1008:=aA rfl fun l=>aj aw ck rfl (U3 ax AB l)
def Ek:Ow 236 1036:=aA rfl fun l i hp0=>aj aw ck rfl (U9 ax tS DB l i (xg (aH _)) hp0)
def Er:Ow 250 1126:=dn rfl fun W w nd hp0 hp1 nx lp ln m K h1 h2 h3 h4 hK=>bP (fX _) aG rfl (fun _=>rfl) aw ck rfl h1 h2 h3 h4 hK (Vg ax W w nd nb l4 tS DE hp0 hp1)
end
end
section
section
variable [df]
def H76:Ow 34 76:=aA rfl fun s=>aj aw ck rfl (w76 ax Pu sC Ou s)
def H84:Ow 16 84:=aA rfl fun a b=>aj aw ck rfl (w84 ax G78 a b)
def PU:Ow 52 211:=aA rfl fun r name yn hp0=>aj aw ck rfl (w211 ax sD OM r name yn hp0)
def P0:Ow 63 217:=aA rfl fun v hp0=>aj aw ck rfl (w217 ax OT OU v hp0)
def Zj:Ow 80 225:=aA rfl fun a b=>aj aw ck rfl (w225 ax Zd a b)
def P8:Ow 39 246:=aA rfl fun l x=>aj aw ck rfl (w246 ax Pa l x)
def Qc:Ow 126 332:=aA rfl fun s=>aj aw ck rfl (w332 ax Pc s)
def Qg:Ow 90 441:=aA rfl fun s hp0=>aj aw ck rfl (w441 ax DI sG xk Pd s hp0)
def Qm:Ow 97 447:=aA rfl fun l=>aj aw ck rfl (w447 ax l)
def Qs:Ow 113 454:=aA rfl fun c=>aj aw ck rfl (w454 ax c)
def Qy:Ow 119 460:=aA rfl fun r of hp0=>aj aw ck rfl (w460 ax DW Pm Pn r of hp0)
def QE:Ow 130 468:=Cz rfl Ds fun r hp0=>lL 2 aw ck rfl rfl (w468 ax DM r hp0)
def H475:Ow 139 475:=aA rfl fun s n hp0 hp1=>aj aw ck rfl (w475 ax rr jJ s n hp0 hp1)
def QJ:Ow 77 494:=aA rfl fun l x=>aj aw ck rfl (w494 ax l x)
def H568:Ow 187 568:=aA rfl fun s hp0=>aj aw ck rfl (w568 ax tT jJ G741 G742 s hp0)
def QU:Ow 154 662:=aA rfl fun l hp0=>aj aw ck rfl (w662 ax Py l hp0)
def Q0:Ow 168 669:=aA rfl fun r w al hp0=>aj aw ck rfl (w669 ax o9 yG Pz r w al hp0)
def Q8:Ow 184 675:=aA rfl fun s b=>aj aw ck rfl (w675 ax s b)
def Re:Ow 61 685:=aA rfl fun r hp0=>aj aw ck rfl (w685 ax xl r hp0)
def Ri:Ow 189 808:=dn rfl ⟨fun w nd hp0 nx lp ln m K h1 h2 h3 h4 hK=>bP fk aG rfl (fun _=>rfl) aw ck rfl h1 h2 h3 h4 hK (Nx ax kG 809 rD 4 w nd xo sH sI hp0 qh aG aG (fun w2 nd2 hl hp=>D0 (aH _) w2 nd2 hp (by rw[dA h1];exact(show 6*w2.length+2<6*w.length+3 by omega)))),fun w nd hp0 nx lp ln m K h1 h2 h3 h4 hK=>bP fk aG rfl (fun _=>rfl) aw ck rfl h1 h2 h3 h4 hK (Nx ax kq 949 lr 3 w nd xo sH sI hp0 pV aG aG (fun w2 nd2 hl hp=>tX (aH _) w2 nd2 hp (by rw[dA h1];exact(show 6*w2.length+0<6*w.length+1 by omega))))⟩
def Ro:Ow 200 814:=aA rfl fun m=>aj aw ck rfl (w814 ax D9 Ea m)
def Ru:Ow 212 882:=aA rfl fun n hp0=>aj aw ck rfl (w882 ax n hp0)
def RA:Ow 180 901:=aA rfl fun r hp0=>aj aw ck rfl (w901 ax D3 xn r hp0)
def RH:Ow 218 951:=aA rfl fun l i b hp0=>aj aw ck rfl (w951 ax l i b (tW (aH _)) hp0)
def RO:Ow 160 957:=aA rfl fun op=>aj aw ck rfl (w957 ax op)
def Eh:Ow 233 1033:=dn rfl fun s W w nd b hp0 nx lp ln m K h1 h2 h3 h4 hK=>ir (fX _) aG rfl (fun _=>rfl) aw ck rfl h1 h2 h3 h4 hK (U6 ax s W w nd b hp0)
def En:Ow 242 1098:=aA rfl fun n=>aj aw ck rfl (Vd ax nb n)
end
end
end Go.Abs
