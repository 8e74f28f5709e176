/- A part of the proofs. -/
import Derived.Test.YtdhangmdmdegpaaGreatDoorP10
import Derived.Test.YtdhangmdmdegpaaGreatDoorP11
import Derived.Test.YtdhangmdmdegpaaGreatDoorP12
import Derived.Test.YtdhangmdmdegpaaGreatDoorP13
import Derived.Test.YtdhangmdmdegpaaGreatDoorP14
import Derived.Test.YtdhangmdmdegpaaGreatDoorP15
import Derived.Test.YtdhangmdmdegpaaGreatDoorP16
import Derived.Test.YtdhangmdmdegpaaGreatDoorP17
import Derived.Test.YtdhangmdmdegpaaGreatDoorP18
import Derived.Test.YtdhangmdmdegpaaGreatDoorP23
set_option linter.all false
set_option maxRecDepth 60000
set_option maxHeartbeats 2000000
namespace Go.Abs
section
variable [cO]
def H28:Ow 5 28:=aL rfl λks=>av au ck rfl (w28 aI LI G110 G111 G112 G135 G136 ks)
def H72:Ow 180 72:=aL rfl λr hp0=>av au ck rfl (w72 aI G70 G215 r hp0)
def H90:Ow 6 90:=aL rfl λks most hp0=>av au ck rfl (w90 aI LI G266 ks most hp0)
def H112:Ow 22 112:=aL rfl (av au ck rfl (w112 aI))
def H142:Ow 43 142:=aL rfl λl hp0=>av au ck rfl (w142 aI G353 G354 l hp0)
def H159:Ow 54 159:=aL rfl λl i=>av au ck rfl (w159 aI l i)
def H186:Ow 49 186:=aL rfl λw c hp0=>av au ck rfl (w186 aI G170 G417 w c hp0)
def H215:Ow 226 215:=aL rfl λr hp0=>av au ck rfl (w215 aI G242 G450 G451 G452 r hp0)
def H221:Ow 112 221:=aL rfl λs=>av au ck rfl (w221 aI G464 s)
def H265:Ow 18 265:=aL rfl λshop e w l hp0=>av au ck rfl (w265 aI G264 G410 shop e w l hp0)
def H273:Ow 90 273:=aL rfl λw c hp0=>av au ck rfl (w273 aI G175 G510 w c hp0)
def H310:Ow 50 310:=aL rfl λa b=>av au ck rfl (w310 aI G311 a b)
def H349:Ow 84 349:=aL rfl λs=>av au ck rfl (w349 aI s)
def H358:Ow 35 358:=aL rfl λs hp0=>av au ck rfl (w358 aI G75 LJ G580 s hp0)
def H381:Ow 157 381:=aL rfl λn hp0=>av au ck rfl (w381 aI n hp0)
def H416:Ow 202 416:=aL rfl λc x hp0=>av au ck rfl (w416 aI c x hp0)
def H443:Ow 287 443:=aL rfl λr w al hp0=>av au ck rfl (w443 aI G211 WZ r w al hp0)
def H456:Ow 141 456:=aL rfl λs p hp0=>av au ck rfl (w456 aI G470 G666 G667 G668 s p hp0)
def H463:Ow 227 463:=aL rfl λh k hp0=>av au ck rfl (w463 aI h k hp0)
def H503:Ow 58 503:=aL rfl λs nm v on hp0=>av au ck rfl (w503 aI Uo G580 s nm v on hp0)
def H510:Ow 137 510:=aL rfl λw c hp0=>av au ck rfl (w510 aI w c hp0)
def H533:Ow 131 533:=aL rfl λs b hp0=>av au ck rfl (w533 aI s b hp0)
def H580:Ow 69 580:=aL rfl λl nm v hp0=>av au ck rfl (w580 aI G501 l nm v hp0)
def H617:Ow 159 617:=aL rfl λa b=>av au ck rfl (w617 aI a b)
def H628:Ow 139 628:=aL rfl λw c l hp0=>av au ck rfl (w628 aI G629 w c l hp0)
def H665:Ow 296 665:=aL rfl λn hp0=>av au ck rfl (w665 aI G336 n hp0)
def H674:Ow 194 674:=aL rfl λr x=>av au ck rfl (w674 aI r x)
def H694:Ow 103 694:=aL rfl λm al od c hp0=>av au ck rfl (w694 aI G693 G829 G830 G831 m al od c hp0)
def H712:Ow 138 712:=aL rfl λs v hp0=>av au ck rfl (w712 aI Cy G780 G861 s v hp0)
def H751:Ow 119 751:=zH rfl λy ns hp0 hp1 nx lf ln lr m K h1 h2 h3 hne hat hK=>ot (CF (rest:=[]) rfl) rfl au ck rfl h1 h2 h3 hne hat hK (w751 aI y ns agv hp0 hp1)
def H777:Ow 205 777:=aL rfl λl n hp0=>av au ck rfl (w777 aI G778 l n hp0)
def H815:Ow 231 815:=aL rfl λl=>av au ck rfl (w815 aI l)
def H882:Ow 268 882:=aL rfl λn hp0=>av au ck rfl (w882 aI n hp0)
def H909:Ow 174 909:=zH rfl λy ns nm hp0 nx lf ln lr m K h1 h2 h3 hne hat hK=>ot (CF (rest:=[.str nm]) rfl) rfl au ck rfl h1 h2 h3 hne hat hK (w909 aI y ns nm G627 G1012 G1013 G1014 G1015 hp0)
def H927:Ow 275 927:=aL rfl λa b=>av au ck rfl (w927 aI a b)
def H1014:Ow 221 1014:=aL rfl λl nm hp0=>av au ck rfl (w1014 aI G143 G374 G1011 G1085 l nm hp0)
def H1025:Ow 274 1025:=aL rfl λc v hp0=>av au ck rfl (w1025 aI Fx W0 WV c v hp0)
def H1087:Ow 286 1087:=aL rfl λc hp0=>av au ck rfl (w1087 aI Cy c hp0)
def H1223:Ow 3 1223:=aL rfl λys ss os n ms mst=>av au ck rfl (w1223 aI G25 G28 G29 G52 G89 G90 G91 G92 G117 G147 G264 G265 G360 G594 G1220 G1221 G1222 ys ss os n ms mst)
def H377:Ow 211 377:=aN ch fh au (a:=vH) ck rfl
def H447:Ow 291 447:=aN ch fh au (a:=rO) ck rfl
def H496:Ow 310 496:=aN ch fh au (a:=vP) ck rfl
def H603:Ow 246 603:=aN ch fh au (a:=A2) ck rfl
def H670:Ow 191 670:=aN ch fh au (a:=vB) ck rfl
def H682:Ow 329 682:=aN ch fh au (a:=xx) ck rfl
def H771:Ow 302 771:=aN ch fh au (a:=GU) ck rfl
def H813:Ow 216 813:=aN ch fh au (a:=vA) ck rfl
def H897:Ow 197 897:=aN ch fh au (a:=yB) ck rfl
def H908:Ow 173 908:=aN ch fh au (a:=AY) ck rfl
def H947:Ow 360 947:=aN ch fh au (a:=oC) ck rfl
def H953:Ow 249 953:=aN ch fh au (a:=AV) ck rfl
def H1008:Ow 235 1008:=aN ch fh au (a:=tc) ck rfl
def H1033:Ow 278 1033:=aN ch fh au (a:=ny) ck rfl
def H1082:Ow 251 1082:=aN ch fh au (a:=En) ck rfl
def H1118:Ow 281 1118:=aN ch fh au (a:=vD) ck rfl
def H1139:Ow 305 1139:=aN ch fh au (a:=A6) ck rfl
end
section
variable [cO]
def H52:Ow 19 52:=aL rfl λw c hp0=>av au ck rfl (w52 aI G170 G186 w c hp0)
def H75:Ow 68 75:=aL rfl λr hp0=>av au ck rfl (w75 aI G73 G221 r hp0)
def H109:Ow 23 109:=Qf rfl D109 λg n hp0 hp1=>Da 2 au ck rfl rfl (w109 aI G25 G159 g n hp0 hp1)
def H135:Ow 25 135:=aL rfl (av au ck rfl (w135 aI))
def H145:Ow 38 145:=aL rfl λl hp0=>av au ck rfl (w145 aI Uo G359 l hp0)
def H175:Ow 42 175:=aL rfl λw hp0=>av au ck rfl (w175 aI Cy WY G408 G409 w hp0)
def H210:Ow 257 210:=aL rfl λr n hp0=>av au ck rfl (w210 aI G212 WZ G443 r n hp0)
def H218:Ow 98 218:=aL rfl λr hp0=>av au ck rfl (w218 aI G457 G458 G459 G460 r hp0)
def H249:Ow 149 249:=aL rfl λl x hp0=>av au ck rfl (w249 aI l x hp0)
def H268:Ow 30 268:=aL rfl λw l hp0=>av au ck rfl (w268 aI G25 G159 w l hp0)
def H296:Ow 51 296:=Qf rfl D296 λg own hp0=>Da 2 au ck rfl rfl (w296 aI LI G535 g own hp0)
def H316:Ow 146 316:=aL rfl λv hp0=>av au ck rfl (w316 aI Fx G554 v hp0)
def H355:Ow 83 355:=aL rfl λx s=>av au ck rfl (w355 aI x s)
def H361:Ow 40 361:=aL rfl λl nm=>av au ck rfl (w361 aI G359 l nm)
def H409:Ow 80 409:=aL rfl λc n hp0=>av au ck rfl (w409 aI G622 c n hp0)
def H440:Ow 126 440:=aL rfl λn=>av au ck rfl (w440 aI n)
def H453:Ow 109 453:=aL rfl λc=>av au ck rfl (w453 aI c)
def H460:Ow 145 460:=aL rfl λr of hp0=>av au ck rfl (w460 aI G672 G673 G674 r of hp0)
def H477:Ow 163 477:=aL rfl λa b=>av au ck rfl (w477 aI G226 a b)
def H506:Ow 62 506:=aL rfl λw c hp0=>av au ck rfl (w506 aI G170 G629 w c hp0)
def H530:Ow 129 530:=aL rfl λv=>av au ck rfl (w530 aI v)
def H536:Ow 96 536:=aL rfl λl s=>av au ck rfl (w536 aI l s)
def H583:Ow 76 583:=zH rfl λy ns all k hp0 hp1 nx lf ln lr m K h1 h2 h3 hne hat hK=>ot (CF (rest:=[.sl 2 (all.map Key.D),Key.D k]) rfl) rfl au ck rfl h1 h2 h3 hne hat hK (w583 aI y ns all k G750 G751 G752 G753 G754 G755 hp0 hp1)
def H623:Ow 91 623:=aL rfl λw c l hp0=>av au ck rfl (w623 aI G624 w c l hp0)
def H631:Ow 208 631:=aL rfl λa b hp0=>av au ck rfl (w631 aI G470 G630 G783 a b hp0)
def H668:Ow 189 668:=aL rfl λt=>av au ck rfl (w668 aI t)
def H691:Ow 89 691:=aL rfl λc x hp0=>av au ck rfl (w691 aI WY c x hp0)
def H700:Ow 183 700:=aL rfl λx nm v hp0=>av au ck rfl (w700 aI G701 x nm v hp0)
def H748:Ow 116 748:=zH rfl λy ns k hp0 hp1 nx lf ln lr m K h1 h2 h3 hne hat hK=>ot (CF (rest:=[Key.D k]) rfl) rfl au ck rfl h1 h2 h3 hne hat hK (w748 aI y ns k G751 G752 G753 hp0 hp1)
def H754:Ow 122 754:=aL rfl λall r e hp0=>av au ck rfl (w754 aI G903 G907 G908 all r e hp0)
def H782:Ow 204 782:=aL rfl λl v hp0=>av au ck rfl (w782 aI G916 G926 l v hp0)
def H830:Ow 154 830:=aL rfl λod u n hp0=>av au ck rfl (w830 aI od u n hp0)
def H904:Ow 168 904:=aL rfl λr e o hp0=>av au ck rfl (w904 aI G907 agq r e o hp0)
def H924:Ow 223 924:=aL rfl λc=>av au ck rfl (w924 aI c)
def H1009:Ow 215 1009:=aL rfl λn hp0=>av au ck rfl (w1009 aI G908 G1080 n hp0)
def H1020:Ow 273 1020:=aL rfl λa b hp0=>av au ck rfl (w1020 aI W0 G630 WV a b hp0)
def H1083:Ow 37 1083:=aL rfl λshop ps nm hp0=>av au ck rfl (w1083 aI G145 G359 G1120 G1121 shop ps nm hp0)
def H1220:Ow 10 1220:=aL rfl λshop ks most hp0=>av au ck rfl (w1220 aI G266 shop ks most hp0)
def H213:Ow 260 213:=aN ch fh au (a:=vu) ck rfl
def H444:Ow 288 444:=aN ch fh au (a:=rW) ck rfl
def H459:Ow 144 459:=aN ch fh au (a:=AX) ck rfl
def H599:Ow 242 599:=aN ch fh au (a:=A0) ck rfl
def H661:Ow 313 661:=aN ch fh au (a:=DE) ck rfl
def H676:Ow 237 676:=aN ch fh au (a:=Ek) ck rfl
def H744:Ow 150 744:=aN ch fh au (a:=yF) ck rfl
def H809:Ow 335 809:=aN ch fh au (a:=oB) ck rfl
def H827:Ow 354 827:=aN ch fh au (a:=CO) ck rfl
def H900:Ow 200 900:=aN ch fh au (a:=Be) ck rfl
def H920:Ow 307 920:=aN ch fh au (a:=GV) ck rfl
def H950:Ow 363 950:=aN ch fh au (a:=AH) ck rfl
def H957:Ow 369 957:=aN ch fh au (a:=Aq) ck rfl
def H1021:Ow 328 1021:=aN ch fh au (a:=Eh) ck rfl
def H1036:Ow 298 1036:=aN ch fh au (a:=yt) ck rfl
def H1098:Ow 301 1098:=aN ch fh au (a:=yr) ck rfl
def H1126:Ow 323 1126:=aN ch fh au (a:=nv) ck rfl
def H1145:Ow 327 1145:=aN ch fh au (a:=vJ) ck rfl
end
end Go.Abs
