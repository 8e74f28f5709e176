/- A part of the proofs. -/
import Derived.Test.YtkmlboofmolbaaaGreatDoorP10
import Derived.Test.YtkmlboofmolbaaaGreatDoorP11
import Derived.Test.YtkmlboofmolbaaaGreatDoorP12
import Derived.Test.YtkmlboofmolbaaaGreatDoorP13
import Derived.Test.YtkmlboofmolbaaaGreatDoorP14
import Derived.Test.YtkmlboofmolbaaaGreatDoorP15
import Derived.Test.YtkmlboofmolbaaaGreatDoorP16
import Derived.Test.YtkmlboofmolbaaaGreatDoorP17
import Derived.Test.YtkmlboofmolbaaaGreatDoorP18
import Derived.Test.YtkmlboofmolbaaaGreatDoorP23
set_option linter.all false
set_option maxRecDepth 60000
set_option maxHeartbeats 2000000
namespace Go.Abs
section
variable [cP]
def H29:Ow 9 29:=aO rfl λn=>av ar ck rfl (w29 aJ G25 n)
def H73:Ow 42 73:=aO rfl λr hp0=>av ar ck rfl (w73 aJ G71 G219 r hp0)
def H92:Ow 11 92:=aO rfl λshop e w c hp0=>av ar ck rfl (w92 aJ G270 shop e w c hp0)
def H114:Ow 29 114:=aO rfl λw hp0=>av ar ck rfl (w114 aJ w hp0)
def H144:Ow 57 144:=aO rfl λe=>av ar ck rfl (w144 aJ G357 e)
def H170:Ow 40 170:=aO rfl λw c hp0=>av ar ck rfl (w170 aJ G169 w c hp0)
def H209:Ow 68 209:=aO rfl λv hp0=>av ar ck rfl (w209 aJ G440 G441 G442 v hp0)
def H217:Ow 44 217:=aO rfl λv hp0=>av ar ck rfl (w217 aJ G455 G456 v hp0)
def H264:Ow 12 264:=aO rfl λshop e w l hp0=>av ar ck rfl (w264 aJ G138 G142 G175 G315 G502 shop e w l hp0)
def H270:Ow 33 270:=aO rfl λshop e w c hp0=>av ar ck rfl (w270 aJ G52 G144 G145 G169 G170 G507 G508 shop e w c hp0)
def H298:Ow 48 298:=O7 rfl D298 λg l hp0 hp1=>Cv 2 ar ck rfl rfl (w298 aJ KH g l hp0 hp1)
def H353:Ow 71 353:=aO rfl λs hp0=>av ar ck rfl (w353 aJ G74 VB G511 s hp0)
def H359:Ow 98 359:=aO rfl λl nm=>av ar ck rfl (w359 aJ l nm)
def H403:Ow 109 403:=aO rfl λw i hp0=>av ar ck rfl (w403 aJ VF G617 G618 w i hp0)
def H417:Ow 83 417:=aO rfl λw c u hp0=>av ar ck rfl (w417 aJ G628 G629 w c u hp0)
def H450:Ow 240 450:=zb rfl λws t l lw nx m K h1 h2 h3 h4 hp2 hK=>TX ar ck rfl h1 h2 h3 h4 hK λm0 hp0 hp1=>w450 aJ ws t m0 G242 G489 G664 hp0 hp1 hp2
def H457:Ow 138 457:=aO rfl λr n hp0=>av ar ck rfl (w457 aJ G357 G669 G670 r n hp0)
def H464:Ow 85 464:=aO rfl λh n hp0=>av ar ck rfl (w464 aJ h n hp0)
def H505:Ow 61 505:=aO rfl λm od c hp0=>av ar ck rfl (w505 aJ G692 G693 G694 m od c (G505u (Nat.le_of_eq RJ.symm)) hp0)
def H516:Ow 112 516:=aO rfl λa b=>av ar ck rfl (w516 aJ G704 a b)
def H535:Ow 90 535:=O7 rfl D535 λg own hp0=>Cv 2 ar ck rfl rfl (w535 aJ KH G135 G297 g own hp0)
def H582:Ow 101 582:=zb rfl λy ns hp0 hp1 nx lf ln lr m K h1 h2 h3 hne hat hK=>n8 (B3 (rest:=[]) rfl) (Uo _) ar ck rfl h1 h2 h3 hne hat hK (w582 aJ y ns G748 G749 hp0 hp1)
def H623:Ow 81 623:=aO rfl λw c l hp0=>av ar ck rfl (w623 aJ G624 w c l hp0)
def H631:Ow 89 631:=aO rfl λa b hp0=>av ar ck rfl (w631 aJ G470 G630 G783 a b hp0)
def H668:Ow 134 668:=aO rfl λt=>av ar ck rfl (w668 aJ t)
def H691:Ow 79 691:=aO rfl λc x hp0=>av ar ck rfl (w691 aJ VC c x hp0)
def H700:Ow 169 700:=aO rfl λx nm v hp0=>av ar ck rfl (w700 aJ G701 x nm v hp0)
def H748:Ow 144 748:=zb rfl λy ns k hp0 hp1 nx lf ln lr m K h1 h2 h3 hne hat hK=>n8 (B3 (rest:=[Key.D k]) rfl) rfl ar ck rfl h1 h2 h3 hne hat hK (w748 aJ y ns k G751 G752 G753 hp0 hp1)
def H754:Ow 150 754:=aO rfl λall r e hp0=>av ar ck rfl (w754 aJ G903 G907 G908 all r e hp0)
def H782:Ow 198 782:=aO rfl λl v hp0=>av ar ck rfl (w782 aJ G916 G926 l v hp0)
def H830:Ow 154 830:=aO rfl λod u n hp0=>av ar ck rfl (w830 aJ od u n hp0)
def H904:Ow 190 904:=aO rfl λr e o hp0=>av ar ck rfl (w904 aJ G907 aeY r e o hp0)
def H924:Ow 201 924:=aO rfl λc=>av ar ck rfl (w924 aJ c)
def H1009:Ow 223 1009:=aO rfl λn hp0=>av ar ck rfl (w1009 aJ G908 G1080 n hp0)
def H1020:Ow 265 1020:=aO rfl λa b hp0=>av ar ck rfl (w1020 aJ VF G630 Vz a b hp0)
def H1083:Ow 260 1083:=aO rfl λshop ps nm hp0=>av ar ck rfl (w1083 aJ G145 G359 G1120 G1121 shop ps nm hp0)
def H1217:Ow 4 1217:=aO rfl λys ss os n at1=>av ar ck rfl (w1217 aJ G25 G28 G29 G52 G89 G90 G91 G92 G93 G265 ys ss os n at1)
def H377:Ow 219 377:=aK cq eY ar (a:=vo) ck rfl
def H447:Ow 272 447:=aK cq eY ar (a:=ry) ck rfl
def H496:Ow 294 496:=aK cq eY ar (a:=vx) ck rfl
def H603:Ow 256 603:=aK cq eY ar (a:=Ay) ck rfl
def H670:Ow 175 670:=aK cq eY ar (a:=vc) ck rfl
def H682:Ow 316 682:=aK cq eY ar (a:=wZ) ck rfl
def H771:Ow 309 771:=aK cq eY ar (a:=F0) ck rfl
def H813:Ow 209 813:=aK cq eY ar (a:=va) ck rfl
def H897:Ow 181 897:=aK cq eY ar (a:=ye) ck rfl
def H908:Ow 194 908:=aK cq eY ar (a:=Au) ck rfl
def H947:Ow 350 947:=aK cq eY ar (a:=oo) ck rfl
def H953:Ow 247 953:=aK cq eY ar (a:=Ar) ck rfl
def H1008:Ow 214 1008:=aK cq eY ar (a:=sQ) ck rfl
def H1033:Ow 280 1033:=aK cq eY ar (a:=nk) ck rfl
def H1082:Ow 259 1082:=aK cq eY ar (a:=DG) ck rfl
def H1118:Ow 285 1118:=aK cq eY ar (a:=vg) ck rfl
def H1139:Ow 312 1139:=aK cq eY ar (a:=AD) ck rfl
end
section
variable [cP]
def H70:Ow 203 70:=aO rfl λr hp0=>av ar ck rfl (w70 aJ VB BY G210 G211 G212 G213 G214 G215 r hp0)
def H89:Ow 6 89:=aO rfl (av ar ck rfl (w89 aJ G29 G264 G265))
def H110:Ow 21 110:=O7 rfl D110 λg nm v most hp0 hp1=>Cv 2 ar ck rfl rfl (w110 aJ KH G135 G296 G297 G298 g nm v most hp0 hp1)
def H138:Ow 36 138:=aO rfl λe=>av ar ck rfl (w138 aJ VD e)
def H158:Ow 107 158:=aO rfl λw u hp0=>av ar ck rfl (w158 aJ G381 w u hp0)
def H184:Ow 153 184:=aO rfl λc l hp0=>av ar ck rfl (w184 aJ G416 c l hp0)
def H214:Ow 239 214:=aO rfl λr s hp0=>av ar ck rfl (w214 aJ G448 r s hp0)
def H220:Ow 167 220:=aO rfl λs=>av ar ck rfl (w220 aJ G463 s)
def H267:Ow 30 267:=aO rfl λw od hp0=>av ar ck rfl (w267 aJ G46 G505 w od hp0)
def H295:Ow 69 295:=aO rfl λa b hp0=>av ar ck rfl (w295 aJ BY G530 G531 G532 G533 G534 a b hp0)
def H344:Ow 51 344:=aO rfl λl=>av ar ck rfl (w344 aJ KI l)
def H356:Ow 97 356:=aO rfl λl nm=>av ar ck rfl (w356 aJ l nm)
def H362:Ow 60 362:=zb rfl λy hp0 nx lf m K h1 hat hK=>aan ar ck rfl h1 hat hK (w362 aJ y G582 G583 hp0)
def H410:Ow 39 410:=aO rfl λw c hp0=>av ar ck rfl (w410 aJ G273 G623 G624 w c hp0)
def H441:Ow 114 441:=aO rfl λs hp0=>av ar ck rfl (w441 aJ G442 G533 G658 G659 s hp0)
def H454:Ow 137 454:=aO rfl λc=>av ar ck rfl (w454 aJ c)
def H461:Ow 128 461:=aO rfl λw hp0=>av ar ck rfl (w461 aJ G249 w hp0)
def H502:Ow 38 502:=zb rfl λshop w x c kvs hp0 hp1 nx lm lc m K hlc hlm h1 h2 hK=>TJ (bQ (λ_=>rfl) _) (bQ (λ_=>rfl) _) rfl rfl rfl rfl ar ck rfl hp0.2.symm hlc hlm h1 h2 hK (λ_ _ h=>h) (w502 aJ shop w x c kvs G274 G689 hp0 hp1)
def H508:Ow 66 508:=aO rfl λs nm v hp0=>av ar ck rfl (w508 aJ G695 s nm v hp0)
def H532:Ow 117 532:=aO rfl λa b=>av ar ck rfl (w532 aJ G714 a b)
def H554:Ow 172 554:=aO rfl λv hp0=>av ar ck rfl (w554 aJ G734 v hp0)
def H617:Ow 159 617:=aO rfl λa b=>av ar ck rfl (w617 aJ a b)
def H628:Ow 126 628:=aO rfl λw c l hp0=>av ar ck rfl (w628 aJ G629 w c l hp0)
def H665:Ow 277 665:=aO rfl λn hp0=>av ar ck rfl (w665 aJ G336 n hp0)
def H674:Ow 179 674:=aO rfl λr x=>av ar ck rfl (w674 aJ r x)
def H694:Ow 105 694:=aO rfl λm al od c hp0=>av ar ck rfl (w694 aJ G693 G829 G830 G831 m al od c hp0)
def H712:Ow 125 712:=aO rfl λs v hp0=>av ar ck rfl (w712 aJ BY G780 G861 s v hp0)
def H751:Ow 147 751:=zb rfl λy ns hp0 hp1 nx lf ln lr m K h1 h2 h3 hne hat hK=>n8 (B3 (rest:=[]) rfl) rfl ar ck rfl h1 h2 h3 hne hat hK (w751 aJ y ns ae1 hp0 hp1)
def H777:Ow 199 777:=aO rfl λl n hp0=>av ar ck rfl (w777 aJ G778 l n hp0)
def H815:Ow 211 815:=aO rfl λl=>av ar ck rfl (w815 aJ l)
def H882:Ow 245 882:=aO rfl λn hp0=>av ar ck rfl (w882 aJ n hp0)
def H909:Ow 195 909:=zb rfl λy ns nm hp0 nx lf ln lr m K h1 h2 h3 hne hat hK=>n8 (B3 (rest:=[.str nm]) rfl) rfl ar ck rfl h1 h2 h3 hne hat hK (w909 aJ y ns nm G627 G1012 G1013 G1014 G1015 hp0)
def H927:Ow 173 927:=aO rfl λa b=>av ar ck rfl (w927 aJ a b)
def H1014:Ow 228 1014:=aO rfl λl nm hp0=>av ar ck rfl (w1014 aJ G143 G374 G1011 G1085 l nm hp0)
def H1025:Ow 266 1025:=aO rfl λc v hp0=>av ar ck rfl (w1025 aJ EF VF Vz c v hp0)
def H1087:Ow 267 1087:=aO rfl λc hp0=>av ar ck rfl (w1087 aJ BY c hp0)
def H213:Ow 238 213:=aK cq eY ar (a:=uX) ck rfl
def H444:Ow 269 444:=aK cq eY ar (a:=rI) ck rfl
def H459:Ow 140 459:=aK cq eY ar (a:=At) ck rfl
def H599:Ow 252 599:=aK cq eY ar (a:=Aw) ck rfl
def H661:Ow 297 661:=aK cq eY ar (a:=CZ) ck rfl
def H676:Ow 216 676:=aK cq eY ar (a:=DC) ck rfl
def H744:Ow 142 744:=aK cq eY ar (a:=yi) ck rfl
def H809:Ow 322 809:=aK cq eY ar (a:=om) ck rfl
def H827:Ow 344 827:=aK cq eY ar (a:=Ca) ck rfl
def H900:Ow 184 900:=aK cq eY ar (a:=AL) ck rfl
def H920:Ow 314 920:=aK cq eY ar (a:=F1) ck rfl
def H950:Ow 353 950:=aK cq eY ar (a:=Ae) ck rfl
def H957:Ow 362 957:=aK cq eY ar (a:=zS) ck rfl
def H1021:Ow 335 1021:=aK cq eY ar (a:=Dz) ck rfl
def H1036:Ow 283 1036:=aK cq eY ar (a:=x6) ck rfl
def H1098:Ow 306 1098:=aK cq eY ar (a:=x5) ck rfl
def H1126:Ow 330 1126:=aK cq eY ar (a:=nd) ck rfl
def H1145:Ow 334 1145:=aK cq eY ar (a:=vt) ck rfl
end
end Go.Abs
