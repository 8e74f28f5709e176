/- A part of the proofs. -/
import Derived.Test.YtkmlboofmolbaaaGreatDoorP10
import Derived.Test.YtkmlboofmolbaaaGreatDoorP11
import Derived.Test.YtkmlboofmolbaaaGreatDoorP12
import Derived.Test.YtkmlboofmolbaaaGreatDoorP13
import Derived.Test.YtkmlboofmolbaaaGreatDoorP14
import Derived.Test.YtkmlboofmolbaaaGreatDoorP15
import Derived.Test.YtkmlboofmolbaaaGreatDoorP16
import Derived.Test.YtkmlboofmolbaaaGreatDoorP17
import Derived.Test.YtkmlboofmolbaaaGreatDoorP22
set_option linter.all false
set_option maxRecDepth 60000
set_option maxHeartbeats 2000000
namespace Go.Abs
section
variable [cL]
def H29:Ow 9 29:=aM rfl λn=>av ar ck rfl (w29 aI G25 n)
def H73:Ow 42 73:=aM rfl λr hp0=>av ar ck rfl (w73 aI G71 G219 r hp0)
def H92:Ow 11 92:=aM rfl λshop e w c hp0=>av ar ck rfl (w92 aI G270 shop e w c hp0)
def H135:Ow 25 135:=aM rfl (av ar ck rfl (w135 aI))
def H145:Ow 56 145:=aM rfl λl hp0=>av ar ck rfl (w145 aI VQ G359 l hp0)
def H175:Ow 34 175:=aM rfl λw hp0=>av ar ck rfl (w175 aI BV VO G408 G409 w hp0)
def H209:Ow 68 209:=aM rfl λv hp0=>av ar ck rfl (w209 aI G440 G441 G442 v hp0)
def H217:Ow 44 217:=aM rfl λv hp0=>av ar ck rfl (w217 aI G455 G456 v hp0)
def H264:Ow 12 264:=aM rfl λshop e w l hp0=>av ar ck rfl (w264 aI G138 G142 G175 G315 G502 shop e w l hp0)
def H270:Ow 33 270:=aM rfl λshop e w c hp0=>av ar ck rfl (w270 aI G52 G144 G145 G169 G170 G507 G508 shop e w c hp0)
def H298:Ow 48 298:=Pf rfl D298 λg l hp0 hp1=>Cu 2 ar ck rfl rfl (w298 aI KO g l hp0 hp1)
def H353:Ow 71 353:=aM rfl λs hp0=>av ar ck rfl (w353 aI G74 VN G511 s hp0)
def H359:Ow 98 359:=aM rfl λl nm=>av ar ck rfl (w359 aI l nm)
def H403:Ow 109 403:=aM rfl λw i hp0=>av ar ck rfl (w403 aI VR G617 G618 w i hp0)
def H417:Ow 83 417:=aM rfl λw c u hp0=>av ar ck rfl (w417 aI G628 G629 w c u hp0)
def H450:Ow 240 450:=y3 rfl λws t l lw nx m K h1 h2 h3 h4 hp2 hK=>T8 ar ck rfl h1 h2 h3 h4 hK λm0 hp0 hp1=>w450 aI ws t m0 G242 G489 G664 hp0 hp1 hp2
def H457:Ow 138 457:=aM rfl λr n hp0=>av ar ck rfl (w457 aI G357 G669 G670 r n hp0)
def H464:Ow 85 464:=aM rfl λh n hp0=>av ar ck rfl (w464 aI h n hp0)
def H505:Ow 61 505:=aM rfl λm od c hp0=>av ar ck rfl (w505 aI G692 G693 G694 m od c (G505u (Nat.le_of_eq RX.symm)) hp0)
def H516:Ow 112 516:=aM rfl λa b=>av ar ck rfl (w516 aI G704 a b)
def H535:Ow 90 535:=Pf rfl D535 λg own hp0=>Cu 2 ar ck rfl rfl (w535 aI KO G135 G297 g own hp0)
def H582:Ow 101 582:=y3 rfl λy ns hp0 hp1 nx lf ln lr m K h1 h2 h3 hne hat hK=>nX (B0 (rest:=[]) rfl) (Uz _) ar ck rfl h1 h2 h3 hne hat hK (w582 aI y ns G748 G749 hp0 hp1)
def H623:Ow 81 623:=aM rfl λw c l hp0=>av ar ck rfl (w623 aI G624 w c l hp0)
def H631:Ow 89 631:=aM rfl λa b hp0=>av ar ck rfl (w631 aI G470 G630 G783 a b hp0)
def H668:Ow 134 668:=aM rfl λt=>av ar ck rfl (w668 aI t)
def H691:Ow 79 691:=aM rfl λc x hp0=>av ar ck rfl (w691 aI VO c x hp0)
def H700:Ow 169 700:=aM rfl λx nm v hp0=>av ar ck rfl (w700 aI G701 x nm v hp0)
def H748:Ow 144 748:=y3 rfl λy ns k hp0 hp1 nx lf ln lr m K h1 h2 h3 hne hat hK=>nX (B0 (rest:=[Key.D k]) rfl) rfl ar ck rfl h1 h2 h3 hne hat hK (w748 aI y ns k G751 G752 G753 hp0 hp1)
def H754:Ow 150 754:=aM rfl λall r e hp0=>av ar ck rfl (w754 aI G903 G907 G908 all r e hp0)
def H782:Ow 198 782:=aM rfl λl v hp0=>av ar ck rfl (w782 aI G916 G926 l v hp0)
def H830:Ow 154 830:=aM rfl λod u n hp0=>av ar ck rfl (w830 aI od u n hp0)
def H904:Ow 190 904:=aM rfl λr e o hp0=>av ar ck rfl (w904 aI G907 afc r e o hp0)
def H924:Ow 201 924:=aM rfl λc=>av ar ck rfl (w924 aI c)
def H1009:Ow 223 1009:=aM rfl λn hp0=>av ar ck rfl (w1009 aI G908 G1080 n hp0)
def H1020:Ow 265 1020:=aM rfl λa b hp0=>av ar ck rfl (w1020 aI VR G630 VL a b hp0)
def H1083:Ow 260 1083:=aM rfl λshop ps nm hp0=>av ar ck rfl (w1083 aI G145 G359 G1120 G1121 shop ps nm hp0)
def H1218:Ow 5 1218:=aM rfl λys ss os n at1=>av ar ck rfl (w1218 aI G25 G28 G29 G75 G89 G90 G91 G92 G190 G265 G501 ys ss os n at1)
def H377:Ow 219 377:=aJ b9 eW ar (a:=va) ck rfl
def H447:Ow 272 447:=aJ b9 eW ar (a:=rr) ck rfl
def H496:Ow 294 496:=aJ b9 eW ar (a:=vl) ck rfl
def H603:Ow 256 603:=aJ b9 eW ar (a:=Aq) ck rfl
def H670:Ow 175 670:=aJ b9 eW ar (a:=uW) ck rfl
def H682:Ow 316 682:=aJ b9 eW ar (a:=wS) ck rfl
def H771:Ow 309 771:=aJ b9 eW ar (a:=F4) ck rfl
def H813:Ow 209 813:=aJ b9 eW ar (a:=uV) ck rfl
def H897:Ow 181 897:=aJ b9 eW ar (a:=x9) ck rfl
def H908:Ow 194 908:=aJ b9 eW ar (a:=Am) ck rfl
def H947:Ow 350 947:=aJ b9 eW ar (a:=oa) ck rfl
def H953:Ow 247 953:=aJ b9 eW ar (a:=Aj) ck rfl
def H1008:Ow 214 1008:=aJ b9 eW ar (a:=sI) ck rfl
def H1033:Ow 280 1033:=aJ b9 eW ar (a:=nj) ck rfl
def H1082:Ow 259 1082:=aJ b9 eW ar (a:=DF) ck rfl
def H1118:Ow 285 1118:=aJ b9 eW ar (a:=uY) ck rfl
def H1139:Ow 312 1139:=aJ b9 eW ar (a:=Au) ck rfl
end
section
variable [cL]
def H70:Ow 203 70:=aM rfl λr hp0=>av ar ck rfl (w70 aI VN BV G210 G211 G212 G213 G214 G215 r hp0)
def H89:Ow 6 89:=aM rfl (av ar ck rfl (w89 aI G29 G264 G265))
def H111:Ow 24 111:=aM rfl (av ar ck rfl (w111 aI))
def H142:Ow 35 142:=aM rfl λl hp0=>av ar ck rfl (w142 aI G353 G354 l hp0)
def H159:Ow 49 159:=aM rfl λl i=>av ar ck rfl (w159 aI l i)
def H186:Ow 41 186:=aM rfl λw c hp0=>av ar ck rfl (w186 aI G170 G417 w c hp0)
def H214:Ow 239 214:=aM rfl λr s hp0=>av ar ck rfl (w214 aI G448 r s hp0)
def H220:Ow 167 220:=aM rfl λs=>av ar ck rfl (w220 aI G463 s)
def H267:Ow 30 267:=aM rfl λw od hp0=>av ar ck rfl (w267 aI G46 G505 w od hp0)
def H295:Ow 69 295:=aM rfl λa b hp0=>av ar ck rfl (w295 aI BV G530 G531 G532 G533 G534 a b hp0)
def H344:Ow 51 344:=aM rfl λl=>av ar ck rfl (w344 aI KP l)
def H356:Ow 97 356:=aM rfl λl nm=>av ar ck rfl (w356 aI l nm)
def H362:Ow 60 362:=y3 rfl λy hp0 nx lf m K h1 hat hK=>aay ar ck rfl h1 hat hK (w362 aI y G582 G583 hp0)
def H410:Ow 39 410:=aM rfl λw c hp0=>av ar ck rfl (w410 aI G273 G623 G624 w c hp0)
def H441:Ow 114 441:=aM rfl λs hp0=>av ar ck rfl (w441 aI G442 G533 G658 G659 s hp0)
def H454:Ow 137 454:=aM rfl λc=>av ar ck rfl (w454 aI c)
def H461:Ow 128 461:=aM rfl λw hp0=>av ar ck rfl (w461 aI G249 w hp0)
def H502:Ow 38 502:=y3 rfl λshop w x c kvs hp0 hp1 nx lm lc m K hlc hlm h1 h2 hK=>TU (bX (λ_=>rfl) _) (bX (λ_=>rfl) _) rfl rfl rfl rfl ar ck rfl hp0.2.symm hlc hlm h1 h2 hK (λ_ _ h=>h) (w502 aI shop w x c kvs G274 G689 hp0 hp1)
def H508:Ow 66 508:=aM rfl λs nm v hp0=>av ar ck rfl (w508 aI G695 s nm v hp0)
def H532:Ow 117 532:=aM rfl λa b=>av ar ck rfl (w532 aI G714 a b)
def H554:Ow 172 554:=aM rfl λv hp0=>av ar ck rfl (w554 aI G734 v hp0)
def H617:Ow 159 617:=aM rfl λa b=>av ar ck rfl (w617 aI a b)
def H628:Ow 126 628:=aM rfl λw c l hp0=>av ar ck rfl (w628 aI G629 w c l hp0)
def H665:Ow 277 665:=aM rfl λn hp0=>av ar ck rfl (w665 aI G336 n hp0)
def H674:Ow 179 674:=aM rfl λr x=>av ar ck rfl (w674 aI r x)
def H694:Ow 105 694:=aM rfl λm al od c hp0=>av ar ck rfl (w694 aI G693 G829 G830 G831 m al od c hp0)
def H712:Ow 125 712:=aM rfl λs v hp0=>av ar ck rfl (w712 aI BV G780 G861 s v hp0)
def H751:Ow 147 751:=y3 rfl λy ns hp0 hp1 nx lf ln lr m K h1 h2 h3 hne hat hK=>nX (B0 (rest:=[]) rfl) rfl ar ck rfl h1 h2 h3 hne hat hK (w751 aI y ns aff hp0 hp1)
def H777:Ow 199 777:=aM rfl λl n hp0=>av ar ck rfl (w777 aI G778 l n hp0)
def H815:Ow 211 815:=aM rfl λl=>av ar ck rfl (w815 aI l)
def H882:Ow 245 882:=aM rfl λn hp0=>av ar ck rfl (w882 aI n hp0)
def H909:Ow 195 909:=y3 rfl λy ns nm hp0 nx lf ln lr m K h1 h2 h3 hne hat hK=>nX (B0 (rest:=[.str nm]) rfl) rfl ar ck rfl h1 h2 h3 hne hat hK (w909 aI y ns nm G627 G1012 G1013 G1014 G1015 hp0)
def H927:Ow 173 927:=aM rfl λa b=>av ar ck rfl (w927 aI a b)
def H1014:Ow 228 1014:=aM rfl λl nm hp0=>av ar ck rfl (w1014 aI G143 G374 G1011 G1085 l nm hp0)
def H1025:Ow 266 1025:=aM rfl λc v hp0=>av ar ck rfl (w1025 aI EJ VR VL c v hp0)
def H1087:Ow 267 1087:=aM rfl λc hp0=>av ar ck rfl (w1087 aI BV c hp0)
def H213:Ow 238 213:=aJ b9 eW ar (a:=uQ) ck rfl
def H444:Ow 269 444:=aJ b9 eW ar (a:=rD) ck rfl
def H459:Ow 140 459:=aJ b9 eW ar (a:=Al) ck rfl
def H599:Ow 252 599:=aJ b9 eW ar (a:=Ao) ck rfl
def H661:Ow 297 661:=aJ b9 eW ar (a:=CZ) ck rfl
def H676:Ow 216 676:=aJ b9 eW ar (a:=DB) ck rfl
def H744:Ow 142 744:=aJ b9 eW ar (a:=yd) ck rfl
def H809:Ow 322 809:=aJ b9 eW ar (a:=n9) ck rfl
def H827:Ow 344 827:=aJ b9 eW ar (a:=B7) ck rfl
def H900:Ow 184 900:=aJ b9 eW ar (a:=AD) ck rfl
def H920:Ow 314 920:=aJ b9 eW ar (a:=F5) ck rfl
def H950:Ow 353 950:=aJ b9 eW ar (a:=zZ) ck rfl
def H957:Ow 362 957:=aJ b9 eW ar (a:=zK) ck rfl
def H1021:Ow 335 1021:=aJ b9 eW ar (a:=Dy) ck rfl
def H1036:Ow 283 1036:=aJ b9 eW ar (a:=xW) ck rfl
def H1098:Ow 306 1098:=aJ b9 eW ar (a:=xU) ck rfl
def H1126:Ow 330 1126:=aJ b9 eW ar (a:=nb) ck rfl
def H1145:Ow 334 1145:=aJ b9 eW ar (a:=ve) ck rfl
end
end Go.Abs
