/- A part of the proofs. -/
import Derived.Test.YtkllcniplomebaaGreatDoorP10
import Derived.Test.YtkllcniplomebaaGreatDoorP11
import Derived.Test.YtkllcniplomebaaGreatDoorP12
import Derived.Test.YtkllcniplomebaaGreatDoorP13
import Derived.Test.YtkllcniplomebaaGreatDoorP14
import Derived.Test.YtkllcniplomebaaGreatDoorP15
import Derived.Test.YtkllcniplomebaaGreatDoorP16
import Derived.Test.YtkllcniplomebaaGreatDoorP17
import Derived.Test.YtkllcniplomebaaGreatDoorP18
import Derived.Test.YtkllcniplomebaaGreatDoorP23
set_option linter.all false
set_option maxRecDepth 60000
set_option maxHeartbeats 2000000
namespace Go.Abs
section
variable [cI]
def H28:Ow 5 28:=aM rfl λks=>aw au ck rfl (w28 aG Lh G110 G111 G112 G135 G136 ks)
def H73:Ow 159 73:=aM rfl λr hp0=>aw au ck rfl (w73 aG G71 G219 r hp0)
def H101:Ow 12 101:=aM rfl λl hp0=>aw au ck rfl (w101 aG l hp0)
def H119:Ow 4 119:=aM rfl (aw au ck rfl (w119 aG G221 G294 G309 G312 G313 G314 G315))
def H144:Ow 65 144:=aM rfl λe=>aw au ck rfl (w144 aG G357 e)
def H170:Ow 116 170:=aM rfl λw c hp0=>aw au ck rfl (w170 aG G169 w c hp0)
def H209:Ow 73 209:=aM rfl λv hp0=>aw au ck rfl (w209 aG G440 G441 G442 v hp0)
def H217:Ow 98 217:=aM rfl λv hp0=>aw au ck rfl (w217 aG G455 G456 v hp0)
def H266:Ow 24 266:=MM rfl D266 λg l hp0 hp1=>Ak 2 au ck rfl rfl (w266 aG Lh G110 G111 G112 G503 G504 g l hp0 hp1)
def H294:Ow 11 294:=aM rfl λl nm=>aw au ck rfl (w294 aG G528 l nm)
def H312:Ow 13 312:=aM rfl λl hp0=>aw au ck rfl (w312 aG G220 G315 G497 G548 G549 l hp0)
def H345:Ow 60 345:=aM rfl λl hp0=>aw au ck rfl (w345 aG Li G572 l hp0)
def H357:Ow 107 357:=aM rfl λs=>aw au ck rfl (w357 aG G453 G454 s)
def H375:Ow 248 375:=aM rfl (aw au ck rfl (w375 aG))
def H415:Ow 172 415:=aM rfl λw x hp0=>aw au ck rfl (w415 aG G381 G627 w x hp0)
def H443:Ow 303 443:=aM rfl λr w al hp0=>aw au ck rfl (w443 aG G211 We r w al hp0)
def H456:Ow 147 456:=aM rfl λs p hp0=>aw au ck rfl (w456 aG G470 G666 G667 G668 s p hp0)
def H463:Ow 87 463:=aM rfl λh k hp0=>aw au ck rfl (w463 aG h k hp0)
def H499:Ow 48 499:=aM rfl λs=>aw au ck rfl (w499 aG s)
def H510:Ow 80 510:=aM rfl λw c hp0=>aw au ck rfl (w510 aG w c hp0)
def H531:Ow 118 531:=aM rfl λl=>aw au ck rfl (w531 aG l)
def H545:Ow 44 545:=MM rfl D545 λr hp0 hp1 hp2=>Ak 3 au ck rfl rfl (w545 aG G487 r hp0 hp1 hp2)
def H551:Ow 52 551:=aM rfl λa b=>aw au ck rfl (w551 aG G552 a b)
def H582:Ow 109 582:=Bp rfl λy ns hp0 hp1 nx lf ln lr m K h1 h2 h3 hne hat hK=>nR (Ch (rest:=[]) rfl) (UZ _) au ck rfl h1 h2 h3 hne hat hK (w582 aG y ns G748 G749 hp0 hp1)
def H623:Ow 129 623:=aM rfl λw c l hp0=>aw au ck rfl (w623 aG G624 w c l hp0)
def H658:Ow 143 658:=aM rfl λs=>aw au ck rfl (w658 aG s)
def H669:Ow 195 669:=aM rfl λr w al hp0=>aw au ck rfl (w669 aG Li G572 G812 r w al hp0)
def H693:Ow 112 693:=aM rfl λm al c hp0=>aw au ck rfl (w693 aG G184 G829 m al c hp0)
def H712:Ow 181 712:=aM rfl λs v hp0=>aw au ck rfl (w712 aG A6 G780 G861 s v hp0)
def H750:Ow 162 750:=aM rfl λall l hp0=>aw au ck rfl (w750 aG G903 all l hp0)
def H770:Ow 221 770:=aM rfl λs hp0=>aw au ck rfl (w770 aG G916 G917 s hp0)
def H812:Ow 236 812:=aM rfl λl al=>aw au ck rfl (w812 aG G357 G815 l al)
def H861:Ow 227 861:=aM rfl λl v hp0=>aw au ck rfl (w861 aG G925 G980 l v hp0)
def H906:Ow 215 906:=aM rfl λr e nm ft hp0=>aw au ck rfl (w906 aG G907 G908 afz r e nm ft hp0)
def H926:Ow 265 926:=aM rfl λs v hp0=>aw au ck rfl (w926 aG E3 V9 G1025 s v hp0)
def H1013:Ow 258 1013:=aM rfl λshop ps nm hp0=>aw au ck rfl (w1013 aG G1083 G1084 shop ps nm hp0)
def H1024:Ow 267 1024:=aM rfl λa b hp0=>aw au ck rfl (w1024 aG G295 G532 Wc a b hp0)
def H1086:Ow 330 1086:=aM rfl λc hp0=>aw au ck rfl (w1086 aG E3 c hp0)
def H212:Ow 270 212:=aO bZ eY au (a:=rN) ck rfl
def H379:Ow 252 379:=aO bZ eY au (a:=vl) ck rfl
def H449:Ow 309 449:=aO bZ eY au (a:=rD) ck rfl
def H598:Ow 328 598:=aO bZ eY au (a:=x6) ck rfl
def H660:Ow 333 660:=aO bZ eY au (a:=oP) ck rfl
def H672:Ow 198 672:=aO bZ eY au (a:=xX) ck rfl
def H685:Ow 356 685:=aO bZ eY au (a:=A3) ck rfl
def H808:Ow 357 808:=aO bZ eY au (a:=mW) ck rfl
def H819:Ow 369 819:=aO bZ eY au (a:=z6) ck rfl
def H899:Ow 205 899:=aO bZ eY au (a:=D1) ck rfl
def H919:Ow 350 919:=aO bZ eY au (a:=AP) ck rfl
def H949:Ow 382 949:=aO bZ eY au (a:=oN) ck rfl
def H956:Ow 388 956:=aO bZ eY au (a:=uS) ck rfl
def H1011:Ow 256 1011:=aO bZ eY au (a:=Gw) ck rfl
def H1035:Ow 319 1035:=aO bZ eY au (a:=xU) ck rfl
def H1097:Ow 342 1097:=aO bZ eY au (a:=oc) ck rfl
def H1122:Ow 329 1122:=aO bZ eY au (a:=DR) ck rfl
def H1144:Ow 365 1144:=aO bZ eY au (a:=AW) ck rfl
end
section
variable [cI]
def H70:Ow 225 70:=aM rfl λr hp0=>aw au ck rfl (w70 aG Wd A6 G210 G211 G212 G213 G214 G215 r hp0)
def H90:Ow 6 90:=aM rfl λks most hp0=>aw au ck rfl (w90 aG Lh G266 ks most hp0)
def H111:Ow 21 111:=aM rfl (aw au ck rfl (w111 aG))
def H138:Ow 33 138:=aM rfl λe=>aw au ck rfl (w138 aG We e)
def H158:Ow 115 158:=aM rfl λw u hp0=>aw au ck rfl (w158 aG G381 w u hp0)
def H183:Ow 114 183:=aM rfl λw l hp0=>aw au ck rfl (w183 aG G415 w l hp0)
def H214:Ow 272 214:=aM rfl λr s hp0=>aw au ck rfl (w214 aG G448 r s hp0)
def H220:Ow 43 220:=aM rfl λs=>aw au ck rfl (w220 aG G463 s)
def H269:Ow 30 269:=aM rfl λw c hp0 hp1=>aw au ck rfl (w269 aG G506 w c hp0 hp1)
def H297:Ow 55 297:=MM rfl D297 λg own hp0=>Ak 2 au ck rfl rfl (w297 aG Lh G111 G536 g own hp0)
def H315:Ow 10 315:=aM rfl λl hp0=>aw au ck rfl (w315 aG G138 G553 l hp0)
def H354:Ow 77 354:=aM rfl λl s=>aw au ck rfl (w354 aG G355 l s)
def H360:Ow 66 360:=aM rfl λl hp0=>aw au ck rfl (w360 aG G143 G581 l hp0)
def H408:Ow 72 408:=aM rfl λa b=>aw au ck rfl (w408 aG G516 G531 a b)
def H440:Ow 120 440:=aM rfl λn=>aw au ck rfl (w440 aG n)
def H453:Ow 144 453:=aM rfl λc=>aw au ck rfl (w453 aG c)
def H460:Ow 151 460:=aM rfl λr of hp0=>aw au ck rfl (w460 aG G672 G673 G674 r of hp0)
def H470:Ow 191 470:=aM rfl λs b hp0=>aw au ck rfl (w470 aG s b hp0)
def H504:Ow 62 504:=aM rfl λs r hp0=>aw au ck rfl (w504 aG G75 G358 G580 s r hp0)
def H528:Ow 38 528:=aM rfl λl nm=>aw au ck rfl (w528 aG G529 l nm)
def H534:Ow 126 534:=aM rfl λa b=>aw au ck rfl (w534 aG G516 G532 G658 G659 a b)
def H548:Ow 40 548:=aM rfl λs=>aw au ck rfl (w548 aG s)
def H554:Ow 201 554:=aM rfl λv hp0=>aw au ck rfl (w554 aG G734 v hp0)
def H617:Ow 261 617:=aM rfl λa b=>aw au ck rfl (w617 aG a b)
def H629:Ow 117 629:=aM rfl λw c x hp0=>aw au ck rfl (w629 aG G627 w c x hp0)
def H666:Ow 192 666:=aM rfl λt=>aw au ck rfl (w666 aG t)
def H675:Ow 142 675:=aM rfl λs b=>aw au ck rfl (w675 aG s b)
def H700:Ow 132 700:=aM rfl λx nm v hp0=>aw au ck rfl (w700 aG G701 x nm v hp0)
def H734:Ow 240 734:=aM rfl λn hp0=>aw au ck rfl (w734 aG G882 n hp0)
def H753:Ow 165 753:=aM rfl λr e ft hp0=>aw au ck rfl (w753 aG G672 G904 G905 G906 afC r e ft hp0)
def H780:Ow 179 780:=aM rfl λs hp0=>aw au ck rfl (w780 aG G924 G925 s hp0)
def H829:Ow 168 829:=aM rfl λal u p hp0=>aw au ck rfl (w829 aG al u p hp0)
def H903:Ow 210 903:=aM rfl λl k=>aw au ck rfl (w903 aG l k)
def H917:Ow 264 917:=aM rfl λc=>aw au ck rfl (w917 aG G600 c)
def H980:Ow 274 980:=aM rfl λs v hp0=>aw au ck rfl (w980 aG A6 afA G1055 s v hp0)
def H1019:Ow 299 1019:=aM rfl λs hp0=>aw au ck rfl (w1019 aG Wa Wb s hp0)
def H1080:Ow 290 1080:=aM rfl λx hp0=>aw au ck rfl (w1080 aG x hp0)
def H1121:Ow 327 1121:=aM rfl λs nm=>aw au ck rfl (w1121 aG s nm)
def H376:Ow 249 376:=aO bZ eY au (a:=vi) ck rfl
def H446:Ow 306 446:=aO bZ eY au (a:=xk) ck rfl
def H495:Ow 331 495:=aO bZ eY au (a:=vu) ck rfl
def H602:Ow 288 602:=aO bZ eY au (a:=AM) ck rfl
def H663:Ow 336 663:=aO bZ eY au (a:=sy) ck rfl
def H678:Ow 281 678:=aO bZ eY au (a:=AV) ck rfl
def H769:Ow 322 769:=aO bZ eY au (a:=AK) ck rfl
def H811:Ow 360 811:=aO bZ eY au (a:=As) ck rfl
def H896:Ow 202 896:=aO bZ eY au (a:=AY) ck rfl
def H907:Ow 216 907:=aO bZ eY au (a:=DP) ck rfl
def H946:Ow 379 946:=aO bZ eY au (a:=oO) ck rfl
def H952:Ow 277 952:=aO bZ eY au (a:=lA) ck rfl
def H1007:Ow 242 1007:=aO bZ eY au (a:=DX) ck rfl
def H1032:Ow 316 1032:=aO bZ eY au (a:=m8) ck rfl
def H1081:Ow 291 1081:=aO bZ eY au (a:=sR) ck rfl
def H1100:Ow 345 1100:=aO bZ eY au (a:=xW) ck rfl
def H1138:Ow 348 1138:=aO bZ eY au (a:=AS) ck rfl
def H1148:Ow 387 1148:=aO bZ eY au (a:=ya) ck rfl
end
end Go.Abs
