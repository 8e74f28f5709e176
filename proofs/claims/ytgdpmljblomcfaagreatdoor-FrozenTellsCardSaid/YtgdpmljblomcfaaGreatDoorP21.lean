/- A part of the proofs. -/
import Derived.Test.YtgdpmljblomcfaaGreatDoorP05
import Derived.Test.YtgdpmljblomcfaaGreatDoorP06
import Derived.Test.YtgdpmljblomcfaaGreatDoorP07
import Derived.Test.YtgdpmljblomcfaaGreatDoorP08
import Derived.Test.YtgdpmljblomcfaaGreatDoorP09
import Derived.Test.YtgdpmljblomcfaaGreatDoorP10
import Derived.Test.YtgdpmljblomcfaaGreatDoorP11
import Derived.Test.YtgdpmljblomcfaaGreatDoorP12
import Derived.Test.YtgdpmljblomcfaaGreatDoorP13
import Derived.Test.YtgdpmljblomcfaaGreatDoorP18
set_option linter.all false
set_option maxRecDepth 60000
set_option maxHeartbeats 2000000
namespace Go.Abs
section
section
variable [cN]
def H25:Ow 21 25:=aI rfl fun v n hp0=>au ar ck rfl (w25 aF v n hp0)
def H71:Ow 41 71:=aI rfl fun r hp0=>au ar ck rfl (w71 aF GC BW G218 G219 r hp0)
def H90:Ow 6 90:=aI rfl fun ks most hp0=>au ar ck rfl (w90 aF Kv G266 ks most hp0)
def H110:Ow 14 110:=OO rfl D110 fun g nm v most hp0 hp1=>Cu 2 ar ck rfl rfl (w110 aF Kv G135 G296 G297 G298 g nm v most hp0 hp1)
def H138:Ow 33 138:=aI rfl fun e=>au ar ck rfl (w138 aF Vj e)
def H153:Ow 30 153:=aI rfl fun a b=>au ar ck rfl (w153 aF a b)
def H183:Ow 98 183:=aI rfl fun w l hp0=>au ar ck rfl (w183 aF G415 w l hp0)
def H210:Ow 240 210:=aI rfl fun r n hp0=>au ar ck rfl (w210 aF G212 Vj G443 r n hp0)
def H218:Ow 83 218:=aI rfl fun r hp0=>au ar ck rfl (w218 aF G457 G458 G459 G460 r hp0)
def H265:Ow 13 265:=aI rfl fun shop e w l hp0=>au ar ck rfl (w265 aF G264 G410 shop e w l hp0)
def H271:Ow 28 271:=aI rfl fun shop e w l hp0=>au ar ck rfl (w271 aF Vg G145 G169 G189 G509 shop e w l hp0)
def H297:Ow 38 297:=OO rfl D297 fun g own hp0=>Cu 2 ar ck rfl rfl (w297 aF Kv G111 G536 g own hp0)
def H349:Ow 70 349:=aI rfl fun s=>au ar ck rfl (w349 aF s)
def H358:Ow 86 358:=aI rfl fun s hp0=>au ar ck rfl (w358 aF G75 GC G580 s hp0)
def H381:Ow 153 381:=aI rfl fun n hp0=>au ar ck rfl (w381 aF n hp0)
def H416:Ow 198 416:=aI rfl fun c x hp0=>au ar ck rfl (w416 aF c x hp0)
def H442:Ow 112 442:=aI rfl fun s hp0=>au ar ck rfl (w442 aF G533 s hp0)
def H455:Ow 125 455:=aI rfl fun n=>au ar ck rfl (w455 aF n)
def H462:Ow 133 462:=aI rfl fun s hp0=>au ar ck rfl (w462 aF s hp0)
def H503:Ow 44 503:=aI rfl fun s nm v on hp0=>au ar ck rfl (w503 aF Vl G580 s nm v on hp0)
def H509:Ow 61 509:=xQ rfl fun shop w x c hp0 nx lc m K hlt h1 hK=>S8 (bH (fun _=>rfl) _) (bH (fun _=>rfl) _) rfl rfl rfl rfl ar ck rfl hp0.2.symm hlt h1 hK (fun _ _ h=>h) (w509 aF shop w x c G696 G697 G698 hp0)
def H532:Ow 114 532:=aI rfl fun a b=>au ar ck rfl (w532 aF G714 a b)
def H554:Ow 180 554:=aI rfl fun v hp0=>au ar ck rfl (w554 aF G734 v hp0)
def H617:Ow 155 617:=aI rfl fun a b=>au ar ck rfl (w617 aF a b)
def H628:Ow 158 628:=aI rfl fun w c l hp0=>au ar ck rfl (w628 aF G629 w c l hp0)
def H665:Ow 283 665:=aI rfl fun n hp0=>au ar ck rfl (w665 aF G336 n hp0)
def H674:Ow 179 674:=aI rfl fun r x=>au ar ck rfl (w674 aF r x)
def H694:Ow 97 694:=aI rfl fun m al od c hp0=>au ar ck rfl (w694 aF G693 G829 G830 G831 m al od c hp0)
def H700:Ow 167 700:=aI rfl fun x nm v hp0=>au ar ck rfl (w700 aF G701 x nm v hp0)
def H748:Ow 140 748:=xQ rfl fun y ns k hp0 hp1 nx lf ln lr m K h1 h2 h3 hne hat hK=>nQ (B1 (rest:=[Key.D k]) rfl) rfl ar ck rfl h1 h2 h3 hne hat hK (w748 aF y ns k G751 G752 G753 hp0 hp1)
def H754:Ow 146 754:=aI rfl fun all r e hp0=>au ar ck rfl (w754 aF G903 G907 G908 all r e hp0)
def H782:Ow 200 782:=aI rfl fun l v hp0=>au ar ck rfl (w782 aF G916 G926 l v hp0)
def H830:Ow 150 830:=aI rfl fun od u n hp0=>au ar ck rfl (w830 aF od u n hp0)
def H904:Ow 192 904:=aI rfl fun r e o hp0=>au ar ck rfl (w904 aF G907 aeo r e o hp0)
def H924:Ow 205 924:=aI rfl fun c=>au ar ck rfl (w924 aF c)
def H1009:Ow 227 1009:=aI rfl fun n hp0=>au ar ck rfl (w1009 aF G908 G1080 n hp0)
def H1020:Ow 270 1020:=aI rfl fun a b hp0=>au ar ck rfl (w1020 aF SR G630 Ve a b hp0)
def H1083:Ow 265 1083:=aI rfl fun shop ps nm hp0=>au ar ck rfl (w1083 aF G145 G359 G1120 G1121 shop ps nm hp0)
def H156:Ow 190 156:=aK cj eN ar (a:=yc) ck rfl
def H378:Ow 224 378:=aK cj eN ar (a:=yd) ck rfl
def H448:Ow 279 448:=aK cj eN ar (a:=sc) ck rfl
def H572:Ow 85 572:=aK cj eN ar (a:=yk) ck rfl
def H604:Ow 292 604:=aK cj eN ar (a:=FX) ck rfl
def H671:Ow 176 671:=aK cj eN ar (a:=u6) ck rfl
def H684:Ow 324 684:=aK cj eN ar (a:=yo) ck rfl
def H772:Ow 339 772:=aK cj eN ar (a:=Dz) ck rfl
def H814:Ow 213 814:=aK cj eN ar (a:=uX) ck rfl
def H898:Ow 183 898:=aK cj eN ar (a:=AI) ck rfl
def H918:Ow 337 918:=aK cj eN ar (a:=Ax) ck rfl
def H948:Ow 357 948:=aK cj eN ar (a:=oP) ck rfl
def H954:Ow 252 954:=aK cj eN ar (a:=uZ) ck rfl
def H1010:Ow 228 1010:=aK cj eN ar (a:=x5) ck rfl
def H1034:Ow 287 1034:=aK cj eN ar (a:=og) ck rfl
def H1085:Ow 268 1085:=aK cj eN ar (a:=DC) ck rfl
def H1119:Ow 293 1119:=aK cj eN ar (a:=DI) ck rfl
def H1141:Ow 364 1141:=aK cj eN ar (a:=mW) ck rfl
end
end
section
section
variable [cN]
def H46:Ow 53 46:=aI rfl fun w hp0=>au ar ck rfl (w46 aF G158 G183 w hp0)
def H74:Ow 119 74:=aI rfl fun r hp0=>au ar ck rfl (w74 aF G72 G220 r hp0)
def H93:Ow 10 93:=aI rfl fun l pa pw pb hp0=>au ar ck rfl (w93 aF G25 G29 G112 l pa pw pb hp0)
def H114:Ow 23 114:=aI rfl fun w hp0=>au ar ck rfl (w114 aF w hp0)
def H144:Ow 48 144:=aI rfl fun e=>au ar ck rfl (w144 aF Vk e)
def H169:Ow 55 169:=aI rfl fun w hp0=>au ar ck rfl (w169 aF G403 w hp0)
def H189:Ow 60 189:=aI rfl fun l hp0=>au ar ck rfl (w189 aF Vg G418 l hp0)
def H215:Ow 208 215:=aI rfl fun r hp0=>au ar ck rfl (w215 aF G242 G450 G451 G452 r hp0)
def H221:Ow 139 221:=aI rfl fun s=>au ar ck rfl (w221 aF G464 s)
def H268:Ow 25 268:=aI rfl fun w l hp0=>au ar ck rfl (w268 aF G25 G159 w l hp0)
def H274:Ow 74 274:=aI rfl fun s nm v hp0=>au ar ck rfl (w274 aF G353 G511 s nm v hp0)
def H316:Ow 131 316:=aI rfl fun v hp0=>au ar ck rfl (w316 aF BW G554 v hp0)
def H355:Ow 69 355:=aI rfl fun x s=>au ar ck rfl (w355 aF x s)
def H361:Ow 50 361:=aI rfl fun l nm=>au ar ck rfl (w361 aF G359 l nm)
def H409:Ow 66 409:=aI rfl fun c n hp0=>au ar ck rfl (w409 aF G622 c n hp0)
def H424:Ow 157 424:=aI rfl fun a b hp0=>au ar ck rfl (w424 aF BW G630 G631 a b hp0)
def H451:Ow 246 451:=aI rfl fun v hp0=>au ar ck rfl (w451 aF BV G665 v hp0)
def H458:Ow 128 458:=aI rfl fun r b hp0=>au ar ck rfl (w458 aF GC G572 G670 r b hp0)
def H470:Ow 170 470:=aI rfl fun s b hp0=>au ar ck rfl (w470 aF s b hp0)
def H506:Ow 54 506:=aI rfl fun w c hp0=>au ar ck rfl (w506 aF G170 G629 w c hp0)
def H516:Ow 109 516:=aI rfl fun a b=>au ar ck rfl (w516 aF G704 a b)
def H535:Ow 79 535:=OO rfl D535 fun g own hp0=>Cu 2 ar ck rfl rfl (w535 aF Kv G135 G297 g own hp0)
def H582:Ow 93 582:=xQ rfl fun y ns hp0 hp1 nx lf ln lr m K h1 h2 h3 hne hat hK=>nQ (B1 (rest:=[]) rfl) (T5 _) ar ck rfl h1 h2 h3 hne hat hK (w582 aF y ns G748 G749 hp0 hp1)
def H623:Ow 77 623:=aI rfl fun w c l hp0=>au ar ck rfl (w623 aF G624 w c l hp0)
def H631:Ow 204 631:=aI rfl fun a b hp0=>au ar ck rfl (w631 aF G470 G630 G783 a b hp0)
def H668:Ow 173 668:=aI rfl fun t=>au ar ck rfl (w668 aF t)
def H691:Ow 75 691:=aI rfl fun c x hp0=>au ar ck rfl (w691 aF Vi c x hp0)
def H697:Ow 105 697:=aI rfl fun w u v whole hp0=>au ar ck rfl (w697 aF SR w u v whole hp0)
def H712:Ow 122 712:=aI rfl fun s v hp0=>au ar ck rfl (w712 aF BV G780 G861 s v hp0)
def H751:Ow 143 751:=xQ rfl fun y ns hp0 hp1 nx lf ln lr m K h1 h2 h3 hne hat hK=>nQ (B1 (rest:=[]) rfl) rfl ar ck rfl h1 h2 h3 hne hat hK (w751 aF y ns aer hp0 hp1)
def H777:Ow 201 777:=aI rfl fun l n hp0=>au ar ck rfl (w777 aF G778 l n hp0)
def H815:Ow 214 815:=aI rfl fun l=>au ar ck rfl (w815 aF l)
def H882:Ow 253 882:=aI rfl fun n hp0=>au ar ck rfl (w882 aF n hp0)
def H909:Ow 197 909:=xQ rfl fun y ns nm hp0 nx lf ln lr m K h1 h2 h3 hne hat hK=>nQ (B1 (rest:=[.str nm]) rfl) rfl ar ck rfl h1 h2 h3 hne hat hK (w909 aF y ns nm G627 G1012 G1013 G1014 G1015 hp0)
def H927:Ow 272 927:=aI rfl fun a b=>au ar ck rfl (w927 aF a b)
def H1014:Ow 232 1014:=aI rfl fun l nm hp0=>au ar ck rfl (w1014 aF G143 G374 G1011 G1085 l nm hp0)
def H1025:Ow 271 1025:=aI rfl fun c v hp0=>au ar ck rfl (w1025 aF BW SR Ve c v hp0)
def H1087:Ow 273 1087:=aI rfl fun c hp0=>au ar ck rfl (w1087 aF BV c hp0)
def H374:Ow 267 374:=aK cj eN ar (a:=DB) ck rfl
def H445:Ow 276 445:=aK cj eN ar (a:=xu) ck rfl
def H482:Ow 219 482:=aK cj eN ar (a:=yg) ck rfl
def H601:Ow 259 601:=aK cj eN ar (a:=yb) ck rfl
def H662:Ow 304 662:=aK cj eN ar (a:=xx) ck rfl
def H677:Ow 256 677:=aK cj eN ar (a:=AG) ck rfl
def H745:Ow 136 745:=aK cj eN ar (a:=yl) ck rfl
def H810:Ow 329 810:=aK cj eN ar (a:=Ad) ck rfl
def H828:Ow 351 828:=aK cj eN ar (a:=wV) ck rfl
def H901:Ow 186 901:=aK cj eN ar (a:=DG) ck rfl
def H921:Ow 321 921:=aK cj eN ar (a:=Az) ck rfl
def H951:Ow 360 951:=aK cj eN ar (a:=Aa) ck rfl
def H1006:Ow 216 1006:=aK cj eN ar (a:=yh) ck rfl
def H1031:Ow 375 1031:=aK cj eN ar (a:=pU) ck rfl
def H1079:Ow 255 1079:=aK cj eN ar (a:=vi) ck rfl
def H1099:Ow 313 1099:=aK cj eN ar (a:=Aq) ck rfl
def H1137:Ow 316 1137:=aK cj eN ar (a:=vg) ck rfl
def H1147:Ow 365 1147:=aK cj eN ar (a:=AD) ck rfl
end
end
end Go.Abs
