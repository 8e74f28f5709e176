/- A part of the proofs. -/
import Derived.Test.YtkmlboofmolbaaaGreatDoorP10
import Derived.Test.YtkmlboofmolbaaaGreatDoorP11
import Derived.Test.YtkmlboofmolbaaaGreatDoorP12
import Derived.Test.YtkmlboofmolbaaaGreatDoorP13
import Derived.Test.YtkmlboofmolbaaaGreatDoorP14
import Derived.Test.YtkmlboofmolbaaaGreatDoorP15
import Derived.Test.YtkmlboofmolbaaaGreatDoorP16
import Derived.Test.YtkmlboofmolbaaaGreatDoorP17
import Derived.Test.YtkmlboofmolbaaaGreatDoorP18
import Derived.Test.YtkmlboofmolbaaaGreatDoorP23
set_option linter.all false
set_option maxRecDepth 60000
set_option maxHeartbeats 2000000
namespace Go.Abs
section
variable [cP]
def H25:Ow 16 25:=aO rfl λv n hp0=>av ar ck rfl (w25 aJ v n hp0)
def H71:Ow 50 71:=aO rfl λr hp0=>av ar ck rfl (w71 aJ KI EF G218 G219 r hp0)
def H90:Ow 8 90:=aO rfl λks most hp0=>av ar ck rfl (w90 aJ KH G266 ks most hp0)
def H111:Ow 24 111:=aO rfl (av ar ck rfl (w111 aJ))
def H142:Ow 35 142:=aO rfl λl hp0=>av ar ck rfl (w142 aJ G353 G354 l hp0)
def H159:Ow 49 159:=aO rfl λl i=>av ar ck rfl (w159 aJ l i)
def H186:Ow 41 186:=aO rfl λw c hp0=>av ar ck rfl (w186 aJ G170 G417 w c hp0)
def H215:Ow 204 215:=aO rfl λr hp0=>av ar ck rfl (w215 aJ G242 G450 G451 G452 r hp0)
def H221:Ow 43 221:=aO rfl λs=>av ar ck rfl (w221 aJ G464 s)
def H268:Ow 31 268:=aO rfl λw l hp0=>av ar ck rfl (w268 aJ G25 G159 w l hp0)
def H296:Ow 46 296:=O7 rfl D296 λg own hp0=>Cv 2 ar ck rfl rfl (w296 aJ KH G535 g own hp0)
def H345:Ow 52 345:=aO rfl λl hp0=>av ar ck rfl (w345 aJ KI G572 l hp0)
def H357:Ow 99 357:=aO rfl λs=>av ar ck rfl (w357 aJ G453 G454 s)
def H375:Ow 217 375:=aO rfl (av ar ck rfl (w375 aJ))
def H415:Ow 156 415:=aO rfl λw x hp0=>av ar ck rfl (w415 aJ G381 G627 w x hp0)
def H442:Ow 115 442:=aO rfl λs hp0=>av ar ck rfl (w442 aJ G533 s hp0)
def H455:Ow 86 455:=aO rfl λn=>av ar ck rfl (w455 aJ n)
def H462:Ow 129 462:=aO rfl λs hp0=>av ar ck rfl (w462 aJ s hp0)
def H503:Ow 53 503:=aO rfl λs nm v on hp0=>av ar ck rfl (w503 aJ VE G580 s nm v on hp0)
def H510:Ow 124 510:=aO rfl λw c hp0=>av ar ck rfl (w510 aJ w c hp0)
def H533:Ow 118 533:=aO rfl λs b hp0=>av ar ck rfl (w533 aJ s b hp0)
def H580:Ow 96 580:=aO rfl λl nm v hp0=>av ar ck rfl (w580 aJ G501 l nm v hp0)
def H618:Ow 160 618:=aO rfl λc n hp0=>av ar ck rfl (w618 aJ EF G777 G778 c n hp0)
def H629:Ow 108 629:=aO rfl λw c x hp0=>av ar ck rfl (w629 aJ G627 w c x hp0)
def H666:Ow 132 666:=aO rfl λt=>av ar ck rfl (w666 aJ t)
def H689:Ow 76 689:=aO rfl λl b x hp0=>av ar ck rfl (w689 aJ G690 G691 l b x hp0)
def H695:Ow 110 695:=aO rfl λs nm v hp0=>av ar ck rfl (w695 aJ VE G580 s nm v hp0)
def H714:Ow 164 714:=aO rfl λx=>av ar ck rfl (w714 aJ x)
def H752:Ow 148 752:=zb rfl λy ns k hp0 hp1 nx lf ln lr m K h1 h2 h3 hne hat hK=>n8 (B3 (rest:=[Key.D k]) rfl) rfl ar ck rfl h1 h2 h3 hne hat hK (w752 aJ y ns k G755 G816 hp0 hp1)
def H778:Ow 200 778:=aO rfl λw n hp0=>av ar ck rfl (w778 aJ G770 w n hp0)
def H816:Ow 189 816:=aO rfl λl nm=>av ar ck rfl (w816 aJ G955 l nm)
def H902:Ow 186 902:=aO rfl λa b=>av ar ck rfl (w902 aJ a b)
def H916:Ow 230 916:=aO rfl λl hp0=>av ar ck rfl (w916 aJ Vx Vy l hp0)
def H955:Ow 222 955:=aO rfl λl nm=>av ar ck rfl (w955 aJ l nm)
def H1015:Ow 229 1015:=aO rfl λy ns r hp0=>av ar ck rfl (w1015 aJ G501 y ns r hp0)
def H1055:Ow 244 1055:=aO rfl λc v hp0=>av ar ck rfl (w1055 aJ BY VC VA c v hp0)
def H1120:Ow 288 1120:=aO rfl λl=>av ar ck rfl (w1120 aJ KI l)
def H374:Ow 262 374:=aK cq eY ar (a:=DA) ck rfl
def H445:Ow 270 445:=aK cq eY ar (a:=xu) ck rfl
def H482:Ow 215 482:=aK cq eY ar (a:=yf) ck rfl
def H601:Ow 254 601:=aK cq eY ar (a:=ya) ck rfl
def H662:Ow 298 662:=aK cq eY ar (a:=xx) ck rfl
def H677:Ow 251 677:=aK cq eY ar (a:=AI) ck rfl
def H745:Ow 143 745:=aK cq eY ar (a:=yk) ck rfl
def H810:Ow 323 810:=aK cq eY ar (a:=Ag) ck rfl
def H828:Ow 345 828:=aK cq eY ar (a:=w9) ck rfl
def H901:Ow 185 901:=aK cq eY ar (a:=DF) ck rfl
def H921:Ow 315 921:=aK cq eY ar (a:=AB) ck rfl
def H951:Ow 354 951:=aK cq eY ar (a:=Ad) ck rfl
def H1006:Ow 212 1006:=aK cq eY ar (a:=yg) ck rfl
def H1031:Ow 369 1031:=aK cq eY ar (a:=pZ) ck rfl
def H1079:Ow 250 1079:=aK cq eY ar (a:=vv) ck rfl
def H1099:Ow 307 1099:=aK cq eY ar (a:=As) ck rfl
def H1137:Ow 310 1137:=aK cq eY ar (a:=vu) ck rfl
def H1147:Ow 359 1147:=aK cq eY ar (a:=AF) ck rfl
end
section
variable [cP]
def H46:Ow 62 46:=aO rfl λw hp0=>av ar ck rfl (w46 aJ G158 G183 w hp0)
def H74:Ow 122 74:=aO rfl λr hp0=>av ar ck rfl (w74 aJ G72 G220 r hp0)
def H93:Ow 15 93:=aO rfl λl pa pw pb hp0=>av ar ck rfl (w93 aJ G25 G29 G112 l pa pw pb hp0)
def H135:Ow 25 135:=aO rfl (av ar ck rfl (w135 aJ))
def H145:Ow 56 145:=aO rfl λl hp0=>av ar ck rfl (w145 aJ VE G359 l hp0)
def H175:Ow 34 175:=aO rfl λw hp0=>av ar ck rfl (w175 aJ BY VC G408 G409 w hp0)
def H210:Ow 235 210:=aO rfl λr n hp0=>av ar ck rfl (w210 aJ G212 VD G443 r n hp0)
def H218:Ow 93 218:=aO rfl λr hp0=>av ar ck rfl (w218 aJ G457 G458 G459 G460 r hp0)
def H265:Ow 13 265:=aO rfl λshop e w l hp0=>av ar ck rfl (w265 aJ G264 G410 shop e w l hp0)
def H273:Ow 80 273:=aO rfl λw c hp0=>av ar ck rfl (w273 aJ G175 G510 w c hp0)
def H315:Ow 37 315:=aO rfl λl hp0=>av ar ck rfl (w315 aJ G138 G553 l hp0)
def H354:Ow 72 354:=aO rfl λl s=>av ar ck rfl (w354 aJ G355 l s)
def H360:Ow 58 360:=aO rfl λl hp0=>av ar ck rfl (w360 aJ G143 G581 l hp0)
def H408:Ow 67 408:=aO rfl λa b=>av ar ck rfl (w408 aJ G516 G531 a b)
def H424:Ow 45 424:=aO rfl λa b hp0=>av ar ck rfl (w424 aJ EF G630 G631 a b hp0)
def H451:Ow 241 451:=aO rfl λv hp0=>av ar ck rfl (w451 aJ BY G665 v hp0)
def H458:Ow 139 458:=aO rfl λr b hp0=>av ar ck rfl (w458 aJ KI G572 G670 r b hp0)
def H470:Ow 131 470:=aO rfl λs b hp0=>av ar ck rfl (w470 aJ s b hp0)
def H506:Ow 63 506:=aO rfl λw c hp0=>av ar ck rfl (w506 aJ G170 G629 w c hp0)
def H530:Ow 116 530:=aO rfl λv=>av ar ck rfl (w530 aJ v)
def H536:Ow 91 536:=aO rfl λl s=>av ar ck rfl (w536 aJ l s)
def H583:Ow 102 583:=zb rfl λy ns all k hp0 hp1 nx lf ln lr m K h1 h2 h3 hne hat hK=>n8 (B3 (rest:=[.sl 2 (all.map Key.D),Key.D k]) rfl) rfl ar ck rfl h1 h2 h3 hne hat hK (w583 aJ y ns all k G750 G751 G752 G753 G754 G755 hp0 hp1)
def H624:Ow 82 624:=aO rfl λw c x hp0=>av ar ck rfl (w624 aJ G712 w c x hp0)
def H658:Ow 162 658:=aO rfl λs=>av ar ck rfl (w658 aJ s)
def H669:Ow 174 669:=aO rfl λr w al hp0=>av ar ck rfl (w669 aJ KI G572 G812 r w al hp0)
def H692:Ow 103 692:=aO rfl λm al c hp0=>av ar ck rfl (w692 aJ G184 G829 m al c hp0)
def H701:Ow 170 701:=aO rfl λa b hp0=>av ar ck rfl (w701 aJ BY VC a b hp0)
def H749:Ow 145 749:=aO rfl λl k hp0=>av ar ck rfl (w749 aJ G902 l k hp0)
def H755:Ow 151 755:=zb rfl λy ns nm hp0 hp1 nx lf ln lr m K h1 h2 h3 hne hat hK=>n8 (B3 (rest:=[.str nm]) rfl) rfl ar ck rfl h1 h2 h3 hne hat hK (w755 aJ y ns nm G909 hp0 hp1)
def H783:Ow 135 783:=aO rfl λa b=>av ar ck rfl (w783 aJ G630 G667 G668 G927 a b)
def H831:Ow 155 831:=aO rfl λl o=>av ar ck rfl (w831 aJ l o)
def H905:Ow 191 905:=aO rfl λl nm=>av ar ck rfl (w905 aJ G955 l nm)
def H925:Ow 202 925:=aO rfl λl hp0=>av ar ck rfl (w925 aJ aeZ ae0 l hp0)
def H1012:Ow 226 1012:=aO rfl λl nm hp0=>av ar ck rfl (w1012 aJ G143 G356 l nm hp0)
def H1023:Ow 233 1023:=aO rfl λs hp0=>av ar ck rfl (w1023 aJ ae0 VA s hp0)
def H1084:Ow 261 1084:=aO rfl λs nm hp0=>av ar ck rfl (w1084 aJ VE VF s nm hp0)
def H156:Ow 188 156:=aK cq eY ar (a:=yb) ck rfl
def H378:Ow 220 378:=aK cq eY ar (a:=yc) ck rfl
def H448:Ow 273 448:=aK cq eY ar (a:=sj) ck rfl
def H572:Ow 94 572:=aK cq eY ar (a:=yj) ck rfl
def H604:Ow 286 604:=aK cq eY ar (a:=F3) ck rfl
def H671:Ow 176 671:=aK cq eY ar (a:=vj) ck rfl
def H684:Ow 318 684:=aK cq eY ar (a:=yn) ck rfl
def H772:Ow 333 772:=aK cq eY ar (a:=Dy) ck rfl
def H814:Ow 210 814:=aK cq eY ar (a:=ve) ck rfl
def H898:Ow 182 898:=aK cq eY ar (a:=AK) ck rfl
def H918:Ow 331 918:=aK cq eY ar (a:=Az) ck rfl
def H948:Ow 351 948:=aK cq eY ar (a:=oV) ck rfl
def H954:Ow 248 954:=aK cq eY ar (a:=vi) ck rfl
def H1010:Ow 224 1010:=aK cq eY ar (a:=xZ) ck rfl
def H1034:Ow 281 1034:=aK cq eY ar (a:=oz) ck rfl
def H1085:Ow 263 1085:=aK cq eY ar (a:=DB) ck rfl
def H1119:Ow 287 1119:=aK cq eY ar (a:=DH) ck rfl
def H1141:Ow 358 1141:=aK cq eY ar (a:=nq) ck rfl
end
end Go.Abs
