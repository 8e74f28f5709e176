/- A part of the proofs. -/
import Derived.Test.YtaeimnechonnmaaGreatDoorP09
import Derived.Test.YtaeimnechonnmaaGreatDoorP10
import Derived.Test.YtaeimnechonnmaaGreatDoorP11
import Derived.Test.YtaeimnechonnmaaGreatDoorP12
import Derived.Test.YtaeimnechonnmaaGreatDoorP13
import Derived.Test.YtaeimnechonnmaaGreatDoorP14
import Derived.Test.YtaeimnechonnmaaGreatDoorP15
import Derived.Test.YtaeimnechonnmaaGreatDoorP16
import Derived.Test.YtaeimnechonnmaaGreatDoorP17
import Derived.Test.YtaeimnechonnmaaGreatDoorP18
import Derived.Test.YtaeimnechonnmaaGreatDoorP19
import Derived.Test.YtaeimnechonnmaaGreatDoorP20
set_option linter.all false
set_option maxRecDepth 4000
namespace Go.Abs
section
section
variable [dq]
def H25:Ow 19 25:=cb rfl fun v n hp0=>a7 bN ck rfl (w25 bO v n hp0)
def H109:Ow 30 109:=oweF rfl Qy fun g n hp0 hp1=>RN 2 bN ck rfl rfl (w109 bO G25 G159 g n hp0 hp1)
def H158:Ow 32 158:=cb rfl fun w u hp0=>a7 bN ck rfl (w158 bO NC w u hp0)
def H197:Ow 26 197:=cb rfl (a7 bN ck rfl (w197 bO QP))
def H217:Ow 50 217:=cb rfl fun v hp0=>a7 bN ck rfl (w217 bO G455 G456 v hp0)
def H377:Ow 53 377:=cb rfl fun v=>a7 bN ck rfl (w377 bO Q3 v)
def H408:Ow 68 408:=cb rfl fun a b=>a7 bN ck rfl (w408 bO QZ Q0 a b)
def H434:Ow 73 434:=cb rfl fun w u k l bar hp0=>a7 bN ck rfl (w434 bO zn QO QQ w u k l bar hp0)
def H440:Ow 101 440:=cb rfl fun n=>a7 bN ck rfl (w440 bO n)
def H470:Ow 120 470:=cb rfl fun s b hp0=>a7 bN ck rfl (w470 bO s b hp0)
def H533:Ow 106 533:=cb rfl fun s b hp0=>a7 bN ck rfl (w533 bO s b hp0)
def H602:Ow 90 602:=cb rfl fun v hp0=>a7 bN ck rfl (w602 bO zo G769 v hp0)
def H627:Ow 116 627:=cb rfl fun s v hp0=>a7 bN ck rfl (w627 bO zo NJ G782 s v hp0)
def H635:Ow 61 635:=cb rfl fun c row mild hp0=>a7 bN ck rfl (w635 bO G615 G785 c row mild hp0)
def H657:Ow 115 657:=cb rfl fun w t c hp0=>a7 bN ck rfl (w657 bO G185 w t c hp0)
def H692:Ow 81 692:=cb rfl fun m al c hp0=>a7 bN ck rfl (w692 bO QM NK m al c hp0)
def H769:Ow 124 769:=cb rfl fun v p hp0=>a7 bN ck rfl (w769 bO zo v p hp0)
def H783:Ow 157 783:=cb rfl fun a b=>a7 bN ck rfl (w783 bO KD Q8 Q9 G927 a b)
def H861:Ow 168 861:=cb rfl fun l v hp0=>a7 bN ck rfl (w861 bO Rf G980 l v hp0)
def H921:Ow 151 921:=wU rfl fun out f t' hp0 nx lo m K h1 h2 hK=>Aw (bW (fun _=>rfl) _) (bW (fun _=>rfl) _) rfl bN ck rfl h1 h2 (fun _ _ h=>h) hK (w921 bO out f t' zm hp0)
def H929:Ow 129 929:=cb rfl fun x c row k hp0=>a7 bN ck rfl (w929 bO G930 x c row k hp0)
def H980:Ow 170 980:=cb rfl fun s v hp0=>a7 bN ck rfl (w980 bO FF Mu QF s v hp0)
def Rm:Ow 166 1025:=cb rfl fun c v hp0=>a7 bN ck rfl (Sq bO zo QR Hq c v hp0)
def Rs:Ow 169 1087:=cb rfl fun c hp0=>a7 bN ck rfl (Sx bO FF c hp0)
def KG:Ow 1000000126 501178:=Lx rfl
def KH:Ow 1000000129 501179:=Lx rfl
def KI:Ow 1000000131 501180:=Lx rfl
def KJ:Ow 1000000132 501181:=Lx rfl
end
end
section
section
variable [dq]
def H63:Ow 9 63:=cb rfl (a7 bN ck rfl (w63 bO G65 G197 QN))
def H155:Ow 28 155:=wU rfl fun g n nm ft cs kk E most hE hp0 nx m K hx hW hK=>Bc rfl hE rfl hp0.2.1.1.2 bN ck rfl hx hW ⟨rfl,rfl,eight rfl rfl rfl rfl rfl rfl rfl rfl,rfl⟩ (fun _ h=>Bd h) hK (fun _ _ h=>h) (w155 bO g n nm ft cs kk E most Hs QL hp0 hE)
def H183:Ow 44 183:=cb rfl fun w l hp0=>a7 bN ck rfl (w183 bO QQ w l hp0)
def H204:Ow 42 204:=cb rfl fun w l hp0=>a7 bN ck rfl (w204 bO QS QT w l hp0)
def H374:Ow 48 374:=cb rfl (a7 bN ck rfl (w374 bO G598))
def H380:Ow 56 380:=wU rfl fun g xs hp0 kk E hE nx lc m K hn h0 h1 h10 hK=>JL rfl hE bN ck rfl hn h0 h1 h10 hK (fun _ _ h=>h) (w380 bO g xs kk E Hs QK QP KB G604 G605 hp0 hE)
def H416:Ow 80 416:=cb rfl fun c x hp0=>a7 bN ck rfl (w416 bO c x hp0)
def H437:Ow 76 437:=cb rfl fun w ms hp0=>a7 bN ck rfl (w437 bO zn w ms hp0)
def H454:Ow 145 454:=cb rfl fun c=>a7 bN ck rfl (w454 bO c)
def H530:Ow 104 530:=cb rfl fun v=>a7 bN ck rfl (w530 bO v)
def H599:Ow 87 599:=cb rfl fun v=>a7 bN ck rfl (w599 bO v)
def H605:Ow 93 605:=cb rfl fun a hp0=>a7 bN ck rfl (w605 bO KB NJ G772 a hp0)
def H632:Ow 58 632:=cb rfl fun c l hp0=>a7 bN ck rfl (w632 bO Ht c l hp0)
def H654:Ow 112 654:=cb rfl fun a b=>a7 bN ck rfl (w654 bO a b)
def H666:Ow 121 666:=cb rfl fun t=>a7 bN ck rfl (w666 bO t)
def H704:Ow 135 704:=cb rfl fun x=>a7 bN ck rfl (w704 bO x)
def H772:Ow 127 772:=cb rfl fun l hp0=>a7 bN ck rfl (w772 bO KF Rc Rd Re l hp0)
def H829:Ow 117 829:=cb rfl fun al u p hp0=>a7 bN ck rfl (w829 bO al u p hp0)
def H918:Ow 148 918:=wU rfl fun l hp0 nx lo m K h1 h2 hK=>yK (bW (fun _=>rfl) _) rfl rfl bN ck rfl h1 h2 (fun _ _ h=>h) hK (w918 bO l Rc Rd Re Hp hp0)
def H926:Ow 158 926:=cb rfl fun s v hp0=>a7 bN ck rfl (w926 bO zo Hp QC s v hp0)
def H932:Ow 132 932:=cb rfl fun x c row k hp0=>a7 bN ck rfl (w932 bO Rg x c row k hp0)
def Rj:Ow 161 1021:=cb rfl fun l c hp0=>a7 bN ck rfl (Sn bO zm l c hp0)
def Rp:Ow 154 1028:=cb rfl fun l c row k hp0=>a7 bN ck rfl (Su bO G932 l c row k hp0)
def Rv:Ow 189 1180:=cb rfl (a7 bN ck rfl (SA bO))
end
end
end Go.Abs
