/- A part of the proofs. -/
import Derived.Test.YtfeebkgpalkobaaGreatDoorP10
import Derived.Test.YtfeebkgpalkobaaGreatDoorP11
import Derived.Test.YtfeebkgpalkobaaGreatDoorP12
import Derived.Test.YtfeebkgpalkobaaGreatDoorP13
import Derived.Test.YtfeebkgpalkobaaGreatDoorP14
import Derived.Test.YtfeebkgpalkobaaGreatDoorP15
import Derived.Test.YtfeebkgpalkobaaGreatDoorP16
import Derived.Test.YtfeebkgpalkobaaGreatDoorP17
import Derived.Test.YtfeebkgpalkobaaGreatDoorP18
import Derived.Test.YtfeebkgpalkobaaGreatDoorP19
import Derived.Test.YtfeebkgpalkobaaGreatDoorP20
set_option linter.all false
set_option maxRecDepth 60000
set_option maxHeartbeats 2000000
namespace Go.Abs
section
section
variable [di]
def H36:Ow 5 36:=bz rfl fun ks few hp0=>aJ aK ck rfl (w36 bp sJ G154 G155 Yf Yg ks few hp0)
def H74:Ow 101 74:=bz rfl fun r hp0=>aJ aK ck rfl (w74 bp G72 G220 r hp0)
def H110:Ow 40 110:=FP rfl X2 fun g nm v most hp0 hp1=>w9 2 aK ck rfl rfl (w110 bp sJ Yc G296 Yr G298 g nm v most hp0 hp1)
def H144:Ow 43 144:=bz rfl fun e=>aJ aK ck rfl (w144 bp Ly e)
def H157:Ow 16 157:=uQ rfl fun g n nm ft cs kk E hE hp0 nx m K hx hW hK=>EC rfl hE rfl hp0.2.1.2 aK ck rfl hx hW ⟨rfl,rfl,eight rfl rfl rfl rfl rfl rfl rfl rfl,rfl⟩ (fun _ h=>ED h) hK (fun _ _ h=>h) (w157 bp g n nm ft cs kk E sJ G380 hp0 hE)
def H186:Ow 47 186:=bz rfl fun w c hp0=>aJ aK ck rfl (w186 bp Yi G417 w c hp0)
def H214:Ow 176 214:=bz rfl fun r s hp0=>aJ aK ck rfl (w214 bp G448 r s hp0)
def H220:Ow 134 220:=bz rfl fun s=>aJ aK ck rfl (w220 bp G463 s)
def H271:Ow 20 271:=bz rfl fun shop e w l hp0=>aJ aK ck rfl (w271 bp Ye G145 Yh G189 G509 shop e w l hp0)
def H297:Ow 78 297:=FP rfl X6 fun g own hp0=>w9 2 aK ck rfl rfl (w297 bp sJ SH G536 g own hp0)
def H354:Ow 53 354:=bz rfl fun l s=>aJ aK ck rfl (w354 bp G355 l s)
def H375:Ow 31 375:=bz rfl (aJ aK ck rfl (w375 bp))
def H403:Ow 81 403:=bz rfl fun w i hp0=>aJ aK ck rfl (w403 bp Lz G617 G618 w i hp0)
def H424:Ow 122 424:=bz rfl fun a b hp0=>aJ aK ck rfl (w424 bp rv Pr G631 a b hp0)
def H451:Ow 178 451:=bz rfl fun v hp0=>aJ aK ck rfl (w451 bp wC YE v hp0)
def H458:Ow 184 458:=bz rfl fun r b hp0=>aJ aK ck rfl (w458 bp JF Yy YG r b hp0)
def H470:Ow 105 470:=bz rfl fun s b hp0=>aJ aK ck rfl (w470 bp s b hp0)
def H509:Ow 45 509:=uQ rfl fun shop w x c hp0 nx lc m K hlt h1 hK=>JL (bH (fun _=>rfl) _) (bH (fun _=>rfl) _) rfl rfl rfl rfl aK ck rfl hp0.2.symm hlt h1 hK (fun _ _ h=>h) (w509 bp shop w x c G696 G697 G698 hp0)
def H532:Ow 96 532:=bz rfl fun a b=>aJ aK ck rfl (w532 bp G714 a b)
def H554:Ow 187 554:=bz rfl fun v hp0=>aJ aK ck rfl (w554 bp YH v hp0)
def H602:Ow 69 602:=bz rfl fun v hp0=>aJ aK ck rfl (w602 bp rv G769 v hp0)
def H622:Ow 99 622:=bz rfl fun l n hp0=>aJ aK ck rfl (w622 bp YJ l n hp0)
def H630:Ow 150 630:=bz rfl fun a b=>aJ aK ck rfl (w630 bp a b)
def H667:Ow 107 667:=bz rfl fun s=>aJ aK ck rfl (w667 bp SN s)
def H690:Ow 58 690:=bz rfl fun c x hp0=>aJ aK ck rfl (w690 bp c x hp0)
def H699:Ow 135 699:=bz rfl fun l nm v hp0=>aJ aK ck rfl (w699 bp G700 l nm v hp0)
def H734:Ow 209 734:=bz rfl fun n hp0=>aJ aK ck rfl (w734 bp G882 n hp0)
def H778:Ow 149 778:=bz rfl fun w n hp0=>aJ aK ck rfl (w778 bp Ps w n hp0)
def H861:Ow 138 861:=bz rfl fun l v hp0=>aJ aK ck rfl (w861 bp YP G980 l v hp0)
def H920:Ow 143 920:=bz rfl fun l f t hp0=>aJ aK ck rfl (w920 bp Ck l f t hp0)
def H980:Ow 159 980:=bz rfl fun s v hp0=>aJ aK ck rfl (w980 bp wC Q9 Yb s v hp0)
def YY:Ow 210 1025:=bz rfl fun c v hp0=>aJ aK ck rfl (w1025 bp rv Lz Lt c v hp0)
def H213:Ow 175 213:=bT dJ iq aK (a:=tW) ck rfl
def H449:Ow 197 449:=bT dJ iq aK (a:=qt) ck rfl
def H660:Ow 214 660:=bT dJ iq aK (a:=ou) ck rfl
def H672:Ow 206 672:=bT dJ iq aK (a:=x9) ck rfl
def H685:Ow 234 685:=bT dJ iq aK (a:=Ae) ck rfl
def H811:Ow 239 811:=bT dJ iq aK (a:=zF) ck rfl
def H828:Ow 264 828:=bT dJ iq aK (a:=wL) ck rfl
def H901:Ow 253 901:=bT dJ iq aK (a:=D8) ck rfl
def H951:Ow 273 951:=bT dJ iq aK (a:=zD) ck rfl
def H957:Ow 288 957:=bT dJ iq aK (a:=zm) ck rfl
def Y1:Ow 278 1033:=bT dJ iq aK (a:=mA) ck rfl
def Za:Ow 305 1098:=bT dJ iq aK (a:=xZ) ck rfl
end
end
section
section
variable [di]
def H71:Ow 145 71:=bz rfl fun r hp0=>aJ aK ck rfl (w71 bp JF rv G218 Yo r hp0)
def H90:Ow 6 90:=bz rfl fun ks most hp0=>aJ aK ck rfl (w90 bp sJ G266 ks most hp0)
def H135:Ow 79 135:=bz rfl (aJ aK ck rfl (w135 bp))
def H154:Ow 12 154:=uQ rfl fun g few hp0 nx m K h0 hx hK=>GH rfl (yz _ _).2 (yz _ _).1 aK ck rfl h0 hx (fun _ _ h=>h) hK (w154 bp g few sJ SI hp0)
def H169:Ow 41 169:=bz rfl fun w hp0=>aJ aK ck rfl (w169 bp G403 w hp0)
def H209:Ow 49 209:=bz rfl fun v hp0=>aJ aK ck rfl (w209 bp G440 G441 Yt v hp0)
def H217:Ow 30 217:=bz rfl fun v hp0=>aJ aK ck rfl (w217 bp G455 G456 v hp0)
def H264:Ow 10 264:=bz rfl fun shop e w l hp0=>aJ aK ck rfl (w264 bp Yd G142 Yj G315 G502 shop e w l hp0)
def H274:Ow 59 274:=bz rfl fun s nm v hp0=>aJ aK ck rfl (w274 bp Ys Yv s nm v hp0)
def H316:Ow 164 316:=bz rfl fun v hp0=>aJ aK ck rfl (w316 bp rv G554 v hp0)
def H358:Ow 74 358:=bz rfl fun s hp0=>aJ aK ck rfl (w358 bp G75 JF Pq s hp0)
def H378:Ow 34 378:=bz rfl fun v=>aJ aK ck rfl (w378 bp SM YA SQ v)
def H410:Ow 29 410:=bz rfl fun w c hp0=>aJ aK ck rfl (w410 bp G273 G623 YB w c hp0)
def H442:Ow 94 442:=bz rfl fun s hp0=>aJ aK ck rfl (w442 bp Pp s hp0)
def H455:Ow 64 455:=bz rfl fun n=>aJ aK ck rfl (w455 bp n)
def H462:Ow 166 462:=bz rfl fun s hp0=>aJ aK ck rfl (w462 bp s hp0)
def H503:Ow 38 503:=bz rfl fun s nm v on hp0=>aJ aK ck rfl (w503 bp Pn Pq s nm v on hp0)
def H516:Ow 91 516:=bz rfl fun a b=>aJ aK ck rfl (w516 bp G704 a b)
def H535:Ow 118 535:=FP rfl X8 fun g own hp0=>w9 2 aK ck rfl rfl (w535 bp sJ Yc Yr g own hp0)
def H599:Ow 66 599:=bz rfl fun v=>aJ aK ck rfl (w599 bp v)
def H605:Ow 73 605:=bz rfl fun a hp0=>aJ aK ck rfl (w605 bp Po Ps G772 a hp0)
def H627:Ow 153 627:=bz rfl fun s v hp0=>aJ aK ck rfl (w627 bp rv Ps G782 s v hp0)
def H659:Ow 130 659:=bz rfl fun t=>aJ aK ck rfl (w659 bp t)
def H673:Ow 207 673:=bz rfl fun r x=>aJ aK ck rfl (w673 bp r x)
def H696:Ow 85 696:=bz rfl fun w a b=>aJ aK ck rfl (w696 bp w a b)
def H704:Ow 128 704:=bz rfl fun x=>aJ aK ck rfl (w704 bp x)
def H771:Ow 111 771:=bz rfl fun a b hp0=>aJ aK ck rfl (w771 bp Pt G918 a b hp0)
def H783:Ow 168 783:=bz rfl fun a b=>aJ aK ck rfl (w783 bp Pr SU YF G927 a b)
def H917:Ow 140 917:=bz rfl fun c=>aJ aK ck rfl (w917 bp YA c)
def H925:Ow 155 925:=bz rfl fun l hp0=>aJ aK ck rfl (w925 bp Q9 Ra l hp0)
def YV:Ow 162 1021:=bz rfl fun l c hp0=>aJ aK ck rfl (w1021 bp Ck l c hp0)
def Y8:Ow 190 1087:=bz rfl fun c hp0=>aJ aK ck rfl (w1087 bp wC c hp0)
def H446:Ow 194 446:=bT dJ iq aK (a:=xu) ck rfl
def H495:Ow 211 495:=bT dJ iq aK (a:=uw) ck rfl
def H663:Ow 219 663:=bT dJ iq aK (a:=rU) ck rfl
def H678:Ow 308 678:=bT dJ iq aK (a:=zZ) ck rfl
def H808:Ow 236 808:=bT dJ iq aK (a:=mr) ck rfl
def H816:Ow 229 816:=bT dJ iq aK (a:=DL) ck rfl
def H898:Ow 250 898:=bT dJ iq aK (a:=z8) ck rfl
def H948:Ow 270 948:=bT dJ iq aK (a:=ov) ck rfl
def H954:Ow 247 954:=bT dJ iq aK (a:=uo) ck rfl
def YS:Ow 284 1008:=bT dJ iq aK (a:=sj) ck rfl
def Y4:Ow 281 1036:=bT dJ iq aK (a:=x5) ck rfl
def Zd:Ow 321 1126:=bT dJ iq aK (a:=my) ck rfl
end
end
end Go.Abs
