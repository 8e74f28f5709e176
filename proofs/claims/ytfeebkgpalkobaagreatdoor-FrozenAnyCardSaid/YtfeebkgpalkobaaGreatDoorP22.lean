/- A part of the proofs. -/
import Derived.Test.YtfeebkgpalkobaaGreatDoorP10
import Derived.Test.YtfeebkgpalkobaaGreatDoorP11
import Derived.Test.YtfeebkgpalkobaaGreatDoorP12
import Derived.Test.YtfeebkgpalkobaaGreatDoorP13
import Derived.Test.YtfeebkgpalkobaaGreatDoorP14
import Derived.Test.YtfeebkgpalkobaaGreatDoorP15
import Derived.Test.YtfeebkgpalkobaaGreatDoorP16
import Derived.Test.YtfeebkgpalkobaaGreatDoorP17
import Derived.Test.YtfeebkgpalkobaaGreatDoorP18
import Derived.Test.YtfeebkgpalkobaaGreatDoorP19
import Derived.Test.YtfeebkgpalkobaaGreatDoorP20
set_option linter.all false
set_option maxRecDepth 60000
set_option maxHeartbeats 2000000
namespace Go.Abs
section
section
variable [di]
def H25:Ow 23 25:=bz rfl fun v n hp0=>aJ aK ck rfl (w25 bp v n hp0)
def H72:Ow 133 72:=bz rfl fun r hp0=>aJ aK ck rfl (w72 bp G70 Yn r hp0)
def H94:Ow 8 94:=bz rfl fun shop e w l hp0=>aJ aK ck rfl (w94 bp G153 SL Yp Yq G272 shop e w l hp0)
def H138:Ow 26 138:=bz rfl fun e=>aJ aK ck rfl (w138 bp Lx e)
def H155:Ow 13 155:=uQ rfl fun g n nm ft cs kk E most hE hp0 nx m K hx hW hK=>EC rfl hE rfl hp0.2.1.1.2 aK ck rfl hx hW ⟨rfl,rfl,eight rfl rfl rfl rfl rfl rfl rfl rfl,rfl⟩ (fun _ h=>ED h) hK (fun _ _ h=>h) (w155 bp g n nm ft cs kk E most sJ Yg hp0 hE)
def H170:Ow 88 170:=bz rfl fun w c hp0=>aJ aK ck rfl (w170 bp Yh w c hp0)
def H210:Ow 172 210:=bz rfl fun r n hp0=>aJ aK ck rfl (w210 bp Ym Lx G443 r n hp0)
def H218:Ow 163 218:=bz rfl fun r hp0=>aJ aK ck rfl (w218 bp G457 G458 G459 G460 r hp0)
def H265:Ow 11 265:=bz rfl fun shop e w l hp0=>aJ aK ck rfl (w265 bp SL G410 shop e w l hp0)
def H295:Ow 50 295:=bz rfl fun a b hp0=>aJ aK ck rfl (w295 bp wC G530 Yx SP Pp G534 a b hp0)
def H349:Ow 55 349:=bz rfl fun s=>aJ aK ck rfl (w349 bp s)
def H359:Ow 82 359:=bz rfl fun l nm=>aJ aK ck rfl (w359 bp l nm)
def H379:Ow 35 379:=bz rfl fun v=>aJ aK ck rfl (w379 bp SM G602 SR v)
def H417:Ow 89 417:=bz rfl fun w c u hp0=>aJ aK ck rfl (w417 bp G628 YC w c u hp0)
def H443:Ow 191 443:=bz rfl fun r w al hp0=>aJ aK ck rfl (w443 bp Yl Lx r w al hp0)
def H456:Ow 65 456:=bz rfl fun s p hp0=>aJ aK ck rfl (w456 bp SO G666 SU YF s p hp0)
def H463:Ow 158 463:=bz rfl fun h k hp0=>aJ aK ck rfl (w463 bp h k hp0)
def H504:Ow 39 504:=bz rfl fun s r hp0=>aJ aK ck rfl (w504 bp G75 Pn Pq s r hp0)
def H530:Ow 95 530:=bz rfl fun v=>aJ aK ck rfl (w530 bp v)
def H536:Ow 119 536:=bz rfl fun l s=>aJ aK ck rfl (w536 bp l s)
def H600:Ow 67 600:=bz rfl fun v=>aJ aK ck rfl (w600 bp v)
def H617:Ow 120 617:=bz rfl fun a b=>aJ aK ck rfl (w617 bp a b)
def H628:Ow 126 628:=bz rfl fun w c l hp0=>aJ aK ck rfl (w628 bp YC w c l hp0)
def H665:Ow 200 665:=bz rfl fun n hp0=>aJ aK ck rfl (w665 bp G336 n hp0)
def H674:Ow 208 674:=bz rfl fun r x=>aJ aK ck rfl (w674 bp r x)
def H697:Ow 86 697:=bz rfl fun w u v whole hp0=>aJ aK ck rfl (w697 bp Lz w u v whole hp0)
def H712:Ow 104 712:=bz rfl fun s v hp0=>aJ aK ck rfl (w712 bp wC YJ G861 s v hp0)
def H772:Ow 113 772:=bz rfl fun l hp0=>aJ aK ck rfl (w772 bp Pt YM YN YO l hp0)
def H812:Ow 223 812:=bz rfl fun l al=>aJ aK ck rfl (w812 bp Ly YK l al)
def H918:Ow 141 918:=uQ rfl fun l hp0 nx lo m K h1 h2 hK=>Bz (bH (fun _=>rfl) _) rfl rfl aK ck rfl h1 h2 (fun _ _ h=>h) hK (w918 bp l YM YN YO Ls hp0)
def H926:Ow 189 926:=bz rfl fun s v hp0=>aJ aK ck rfl (w926 bp rv Ls Ya s v hp0)
def YW:Ow 170 1023:=bz rfl fun s hp0=>aJ aK ck rfl (w1023 bp Ra Lu s hp0)
def Zf:Ow 3 1215:=bz rfl fun ws ss ks n=>aJ aK ck rfl (w1215 bp G29 G36 G89 G90 G94 G160 ws ss ks n)
def H447:Ow 195 447:=bT dJ iq aK (a:=qu) ck rfl
def H496:Ow 212 496:=bT dJ iq aK (a:=ux) ck rfl
def H670:Ow 203 670:=bT dJ iq aK (a:=uk) ck rfl
def H682:Ow 231 682:=bT dJ iq aK (a:=wK) ck rfl
def H809:Ow 237 809:=bT dJ iq aK (a:=m9) ck rfl
def H819:Ow 255 819:=bT dJ iq aK (a:=zl) ck rfl
def H899:Ow 251 899:=bT dJ iq aK (a:=D9) ck rfl
def H949:Ow 271 949:=bT dJ iq aK (a:=oq) ck rfl
def H955:Ow 254 955:=bT dJ iq aK (a:=x8) ck rfl
def YZ:Ow 295 1031:=bT dJ iq aK (a:=pn) ck rfl
def Y6:Ow 309 1079:=bT dJ iq aK (a:=ur) ck rfl
def Ze:Ow 326 1141:=bT dJ iq aK (a:=mB) ck rfl
end
end
section
section
variable [di]
def H52:Ow 46 52:=bz rfl fun w c hp0=>aJ aK ck rfl (w52 bp Yi Yk w c hp0)
def H75:Ow 76 75:=bz rfl fun r hp0=>aJ aK ck rfl (w75 bp G73 G221 r hp0)
def H111:Ow 18 111:=bz rfl (aJ aK ck rfl (w111 bp))
def H145:Ow 42 145:=bz rfl fun l hp0=>aJ aK ck rfl (w145 bp Pn G359 l hp0)
def H159:Ow 36 159:=bz rfl fun l i=>aJ aK ck rfl (w159 bp l i)
def H189:Ow 44 189:=bz rfl fun l hp0=>aJ aK ck rfl (w189 bp Ye G418 l hp0)
def H215:Ow 157 215:=bz rfl fun r hp0=>aJ aK ck rfl (w215 bp SJ G450 G451 G452 r hp0)
def H221:Ow 117 221:=bz rfl fun s=>aJ aK ck rfl (w221 bp G464 s)
def H272:Ow 21 272:=bz rfl fun shop e w l hp0=>aJ aK ck rfl (w272 bp G52 Yk Yq shop e w l hp0)
def H298:Ow 80 298:=FP rfl X7 fun g l hp0 hp1=>w9 2 aK ck rfl rfl (w298 bp sJ g l hp0 hp1)
def H355:Ow 54 355:=bz rfl fun x s=>aJ aK ck rfl (w355 bp x s)
def H376:Ow 32 376:=bz rfl fun v=>aJ aK ck rfl (w376 bp Yz v)
def H408:Ow 48 408:=bz rfl fun a b=>aJ aK ck rfl (w408 bp Yw Yx a b)
def H440:Ow 92 440:=bz rfl fun n=>aJ aK ck rfl (w440 bp n)
def H453:Ow 123 453:=bz rfl fun c=>aJ aK ck rfl (w453 bp c)
def H460:Ow 186 460:=bz rfl fun r of hp0=>aJ aK ck rfl (w460 bp G672 G673 G674 r of hp0)
def H501:Ow 115 501:=bz rfl fun a b hp0=>aJ aK ck rfl (w501 bp rv Lz a b hp0)
def H510:Ow 103 510:=bz rfl fun w c hp0=>aJ aK ck rfl (w510 bp w c hp0)
def H533:Ow 97 533:=bz rfl fun s b hp0=>aJ aK ck rfl (w533 bp s b hp0)
def H580:Ow 75 580:=bz rfl fun l nm v hp0=>aJ aK ck rfl (w580 bp G501 l nm v hp0)
def H603:Ow 70 603:=bz rfl (aJ aK ck rfl (w603 bp))
def H623:Ow 62 623:=bz rfl fun w c l hp0=>aJ aK ck rfl (w623 bp YB w c l hp0)
def H631:Ow 151 631:=bz rfl fun a b hp0=>aJ aK ck rfl (w631 bp SO Pr G783 a b hp0)
def H668:Ow 108 668:=bz rfl fun t=>aJ aK ck rfl (w668 bp t)
def H691:Ow 60 691:=bz rfl fun c x hp0=>aJ aK ck rfl (w691 bp Lw c x hp0)
def H700:Ow 136 700:=bz rfl fun x nm v hp0=>aJ aK ck rfl (w700 bp G701 x nm v hp0)
def H769:Ow 109 769:=bz rfl fun v p hp0=>aJ aK ck rfl (w769 bp rv v p hp0)
def H780:Ow 132 780:=bz rfl fun s hp0=>aJ aK ck rfl (w780 bp G924 YP s hp0)
def H882:Ow 230 882:=bz rfl fun n hp0=>aJ aK ck rfl (w882 bp n hp0)
def H921:Ow 144 921:=uQ rfl fun out f t' hp0 nx lo m K h1 h2 hK=>Dw (bH (fun _=>rfl) _) (bH (fun _=>rfl) _) rfl aK ck rfl h1 h2 (fun _ _ h=>h) hK (w921 bp out f t' Ck hp0)
def YT:Ow 160 1019:=bz rfl fun s hp0=>aJ aK ck rfl (w1019 bp Ck Lt s hp0)
def Y5:Ow 181 1055:=bz rfl fun c v hp0=>aJ aK ck rfl (w1055 bp wC Lw Lu c v hp0)
def H444:Ow 192 444:=bT dJ iq aK (a:=qx) ck rfl
def H459:Ow 185 459:=bT dJ iq aK (a:=zY) ck rfl
def H661:Ow 215 661:=bT dJ iq aK (a:=Dg) ck rfl
def H676:Ow 286 676:=bT dJ iq aK (a:=D6) ck rfl
def H744:Ow 226 744:=bT dJ iq aK (a:=ye) ck rfl
def H813:Ow 224 813:=bT dJ iq aK (a:=uj) ck rfl
def H896:Ow 248 896:=bT dJ iq aK (a:=z7) ck rfl
def H946:Ow 268 946:=bT dJ iq aK (a:=ot) ck rfl
def H952:Ow 245 952:=bT dJ iq aK (a:=kX) ck rfl
def YQ:Ow 282 1006:=bT dJ iq aK (a:=yd) ck rfl
def Y2:Ow 279 1034:=bT dJ iq aK (a:=nk) ck rfl
def Zb:Ow 306 1099:=bT dJ iq aK (a:=zX) ck rfl
end
end
end Go.Abs
