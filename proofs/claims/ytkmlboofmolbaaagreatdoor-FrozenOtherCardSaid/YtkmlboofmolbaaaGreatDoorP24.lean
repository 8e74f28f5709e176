/- A part of the proofs. -/
import Derived.Test.YtkmlboofmolbaaaGreatDoorP10
import Derived.Test.YtkmlboofmolbaaaGreatDoorP11
import Derived.Test.YtkmlboofmolbaaaGreatDoorP12
import Derived.Test.YtkmlboofmolbaaaGreatDoorP13
import Derived.Test.YtkmlboofmolbaaaGreatDoorP14
import Derived.Test.YtkmlboofmolbaaaGreatDoorP15
import Derived.Test.YtkmlboofmolbaaaGreatDoorP16
import Derived.Test.YtkmlboofmolbaaaGreatDoorP17
import Derived.Test.YtkmlboofmolbaaaGreatDoorP22
set_option linter.all false
set_option maxRecDepth 60000
set_option maxHeartbeats 2000000
namespace Go.Abs
section
variable [cL]
def H25:Ow 16 25:=aM rfl λv n hp0=>av ar ck rfl (w25 aI v n hp0)
def H71:Ow 50 71:=aM rfl λr hp0=>av ar ck rfl (w71 aI KP EJ G218 G219 r hp0)
def H90:Ow 8 90:=aM rfl λks most hp0=>av ar ck rfl (w90 aI KO G266 ks most hp0)
def H112:Ow 22 112:=aM rfl (av ar ck rfl (w112 aI))
def H143:Ow 55 143:=aM rfl λl hp0=>av ar ck rfl (w143 aI G136 G356 l hp0)
def H169:Ow 64 169:=aM rfl λw hp0=>av ar ck rfl (w169 aI G403 w hp0)
def H190:Ow 19 190:=aM rfl λl nm=>av ar ck rfl (w190 aI l nm)
def H215:Ow 204 215:=aM rfl λr hp0=>av ar ck rfl (w215 aI G242 G450 G451 G452 r hp0)
def H221:Ow 43 221:=aM rfl λs=>av ar ck rfl (w221 aI G464 s)
def H268:Ow 31 268:=aM rfl λw l hp0=>av ar ck rfl (w268 aI G25 G159 w l hp0)
def H296:Ow 46 296:=Pf rfl D296 λg own hp0=>Cu 2 ar ck rfl rfl (w296 aI KO G535 g own hp0)
def H345:Ow 52 345:=aM rfl λl hp0=>av ar ck rfl (w345 aI KP G572 l hp0)
def H357:Ow 99 357:=aM rfl λs=>av ar ck rfl (w357 aI G453 G454 s)
def H375:Ow 217 375:=aM rfl (av ar ck rfl (w375 aI))
def H415:Ow 156 415:=aM rfl λw x hp0=>av ar ck rfl (w415 aI G381 G627 w x hp0)
def H442:Ow 115 442:=aM rfl λs hp0=>av ar ck rfl (w442 aI G533 s hp0)
def H455:Ow 86 455:=aM rfl λn=>av ar ck rfl (w455 aI n)
def H462:Ow 129 462:=aM rfl λs hp0=>av ar ck rfl (w462 aI s hp0)
def H503:Ow 53 503:=aM rfl λs nm v on hp0=>av ar ck rfl (w503 aI VQ G580 s nm v on hp0)
def H510:Ow 124 510:=aM rfl λw c hp0=>av ar ck rfl (w510 aI w c hp0)
def H533:Ow 118 533:=aM rfl λs b hp0=>av ar ck rfl (w533 aI s b hp0)
def H580:Ow 96 580:=aM rfl λl nm v hp0=>av ar ck rfl (w580 aI G501 l nm v hp0)
def H618:Ow 160 618:=aM rfl λc n hp0=>av ar ck rfl (w618 aI EJ G777 G778 c n hp0)
def H629:Ow 108 629:=aM rfl λw c x hp0=>av ar ck rfl (w629 aI G627 w c x hp0)
def H666:Ow 132 666:=aM rfl λt=>av ar ck rfl (w666 aI t)
def H689:Ow 76 689:=aM rfl λl b x hp0=>av ar ck rfl (w689 aI G690 G691 l b x hp0)
def H695:Ow 110 695:=aM rfl λs nm v hp0=>av ar ck rfl (w695 aI VQ G580 s nm v hp0)
def H714:Ow 164 714:=aM rfl λx=>av ar ck rfl (w714 aI x)
def H752:Ow 148 752:=y3 rfl λy ns k hp0 hp1 nx lf ln lr m K h1 h2 h3 hne hat hK=>nX (B0 (rest:=[Key.D k]) rfl) rfl ar ck rfl h1 h2 h3 hne hat hK (w752 aI y ns k G755 G816 hp0 hp1)
def H778:Ow 200 778:=aM rfl λw n hp0=>av ar ck rfl (w778 aI G770 w n hp0)
def H816:Ow 189 816:=aM rfl λl nm=>av ar ck rfl (w816 aI G955 l nm)
def H902:Ow 186 902:=aM rfl λa b=>av ar ck rfl (w902 aI a b)
def H916:Ow 230 916:=aM rfl λl hp0=>av ar ck rfl (w916 aI VJ VK l hp0)
def H955:Ow 222 955:=aM rfl λl nm=>av ar ck rfl (w955 aI l nm)
def H1015:Ow 229 1015:=aM rfl λy ns r hp0=>av ar ck rfl (w1015 aI G501 y ns r hp0)
def H1055:Ow 244 1055:=aM rfl λc v hp0=>av ar ck rfl (w1055 aI BV VO VM c v hp0)
def H1120:Ow 288 1120:=aM rfl λl=>av ar ck rfl (w1120 aI KP l)
def H374:Ow 262 374:=aJ b9 eW ar (a:=Dz) ck rfl
def H445:Ow 270 445:=aJ b9 eW ar (a:=xl) ck rfl
def H482:Ow 215 482:=aJ b9 eW ar (a:=ya) ck rfl
def H601:Ow 254 601:=aJ b9 eW ar (a:=x5) ck rfl
def H662:Ow 298 662:=aJ b9 eW ar (a:=xo) ck rfl
def H677:Ow 251 677:=aJ b9 eW ar (a:=Az) ck rfl
def H745:Ow 143 745:=aJ b9 eW ar (a:=yf) ck rfl
def H810:Ow 323 810:=aJ b9 eW ar (a:=z7) ck rfl
def H828:Ow 345 828:=aJ b9 eW ar (a:=wT) ck rfl
def H901:Ow 185 901:=aJ b9 eW ar (a:=DE) ck rfl
def H921:Ow 315 921:=aJ b9 eW ar (a:=At) ck rfl
def H951:Ow 354 951:=aJ b9 eW ar (a:=zY) ck rfl
def H1006:Ow 212 1006:=aJ b9 eW ar (a:=yb) ck rfl
def H1031:Ow 369 1031:=aJ b9 eW ar (a:=pU) ck rfl
def H1079:Ow 250 1079:=aJ b9 eW ar (a:=vi) ck rfl
def H1099:Ow 307 1099:=aJ b9 eW ar (a:=Ak) ck rfl
def H1137:Ow 310 1137:=aJ b9 eW ar (a:=vg) ck rfl
def H1147:Ow 359 1147:=aJ b9 eW ar (a:=Aw) ck rfl
end
section
variable [cL]
def H46:Ow 62 46:=aM rfl λw hp0=>av ar ck rfl (w46 aI G158 G183 w hp0)
def H74:Ow 122 74:=aM rfl λr hp0=>av ar ck rfl (w74 aI G72 G220 r hp0)
def H109:Ow 23 109:=Pf rfl D109 λg n hp0 hp1=>Cu 2 ar ck rfl rfl (w109 aI G25 G159 g n hp0 hp1)
def H136:Ow 26 136:=aM rfl λm hp0=>av ar ck rfl (w136 aI G71 G344 G345 m hp0)
def H147:Ow 28 147:=aM rfl λl shop e ks hp0=>av ar ck rfl (w147 aI G143 G144 G145 G360 G361 G362 l shop e ks hp0)
def H183:Ow 106 183:=aM rfl λw l hp0=>av ar ck rfl (w183 aI G415 w l hp0)
def H210:Ow 235 210:=aM rfl λr n hp0=>av ar ck rfl (w210 aI G212 VP G443 r n hp0)
def H218:Ow 93 218:=aM rfl λr hp0=>av ar ck rfl (w218 aI G457 G458 G459 G460 r hp0)
def H265:Ow 13 265:=aM rfl λshop e w l hp0=>av ar ck rfl (w265 aI G264 G410 shop e w l hp0)
def H273:Ow 80 273:=aM rfl λw c hp0=>av ar ck rfl (w273 aI G175 G510 w c hp0)
def H315:Ow 37 315:=aM rfl λl hp0=>av ar ck rfl (w315 aI G138 G553 l hp0)
def H354:Ow 72 354:=aM rfl λl s=>av ar ck rfl (w354 aI G355 l s)
def H360:Ow 58 360:=aM rfl λl hp0=>av ar ck rfl (w360 aI G143 G581 l hp0)
def H408:Ow 67 408:=aM rfl λa b=>av ar ck rfl (w408 aI G516 G531 a b)
def H424:Ow 45 424:=aM rfl λa b hp0=>av ar ck rfl (w424 aI EJ G630 G631 a b hp0)
def H451:Ow 241 451:=aM rfl λv hp0=>av ar ck rfl (w451 aI BV G665 v hp0)
def H458:Ow 139 458:=aM rfl λr b hp0=>av ar ck rfl (w458 aI KP G572 G670 r b hp0)
def H470:Ow 131 470:=aM rfl λs b hp0=>av ar ck rfl (w470 aI s b hp0)
def H506:Ow 63 506:=aM rfl λw c hp0=>av ar ck rfl (w506 aI G170 G629 w c hp0)
def H530:Ow 116 530:=aM rfl λv=>av ar ck rfl (w530 aI v)
def H536:Ow 91 536:=aM rfl λl s=>av ar ck rfl (w536 aI l s)
def H583:Ow 102 583:=y3 rfl λy ns all k hp0 hp1 nx lf ln lr m K h1 h2 h3 hne hat hK=>nX (B0 (rest:=[.sl 2 (all.map Key.D),Key.D k]) rfl) rfl ar ck rfl h1 h2 h3 hne hat hK (w583 aI y ns all k G750 G751 G752 G753 G754 G755 hp0 hp1)
def H624:Ow 82 624:=aM rfl λw c x hp0=>av ar ck rfl (w624 aI G712 w c x hp0)
def H658:Ow 162 658:=aM rfl λs=>av ar ck rfl (w658 aI s)
def H669:Ow 174 669:=aM rfl λr w al hp0=>av ar ck rfl (w669 aI KP G572 G812 r w al hp0)
def H692:Ow 103 692:=aM rfl λm al c hp0=>av ar ck rfl (w692 aI G184 G829 m al c hp0)
def H701:Ow 170 701:=aM rfl λa b hp0=>av ar ck rfl (w701 aI BV VO a b hp0)
def H749:Ow 145 749:=aM rfl λl k hp0=>av ar ck rfl (w749 aI G902 l k hp0)
def H755:Ow 151 755:=y3 rfl λy ns nm hp0 hp1 nx lf ln lr m K h1 h2 h3 hne hat hK=>nX (B0 (rest:=[.str nm]) rfl) rfl ar ck rfl h1 h2 h3 hne hat hK (w755 aI y ns nm G909 hp0 hp1)
def H783:Ow 135 783:=aM rfl λa b=>av ar ck rfl (w783 aI G630 G667 G668 G927 a b)
def H831:Ow 155 831:=aM rfl λl o=>av ar ck rfl (w831 aI l o)
def H905:Ow 191 905:=aM rfl λl nm=>av ar ck rfl (w905 aI G955 l nm)
def H925:Ow 202 925:=aM rfl λl hp0=>av ar ck rfl (w925 aI afd afe l hp0)
def H1012:Ow 226 1012:=aM rfl λl nm hp0=>av ar ck rfl (w1012 aI G143 G356 l nm hp0)
def H1023:Ow 233 1023:=aM rfl λs hp0=>av ar ck rfl (w1023 aI afe VM s hp0)
def H1084:Ow 261 1084:=aM rfl λs nm hp0=>av ar ck rfl (w1084 aI VQ VR s nm hp0)
def H156:Ow 188 156:=aJ b9 eW ar (a:=x6) ck rfl
def H378:Ow 220 378:=aJ b9 eW ar (a:=x7) ck rfl
def H448:Ow 273 448:=aJ b9 eW ar (a:=sb) ck rfl
def H572:Ow 94 572:=aJ b9 eW ar (a:=ye) ck rfl
def H604:Ow 286 604:=aJ b9 eW ar (a:=F6) ck rfl
def H671:Ow 176 671:=aJ b9 eW ar (a:=u6) ck rfl
def H684:Ow 318 684:=aJ b9 eW ar (a:=yi) ck rfl
def H772:Ow 333 772:=aJ b9 eW ar (a:=Dx) ck rfl
def H814:Ow 210 814:=aJ b9 eW ar (a:=uX) ck rfl
def H898:Ow 182 898:=aJ b9 eW ar (a:=AB) ck rfl
def H918:Ow 331 918:=aJ b9 eW ar (a:=Ar) ck rfl
def H948:Ow 351 948:=aJ b9 eW ar (a:=oQ) ck rfl
def H954:Ow 248 954:=aJ b9 eW ar (a:=uZ) ck rfl
def H1010:Ow 224 1010:=aJ b9 eW ar (a:=xT) ck rfl
def H1034:Ow 281 1034:=aJ b9 eW ar (a:=ov) ck rfl
def H1085:Ow 263 1085:=aJ b9 eW ar (a:=DA) ck rfl
def H1119:Ow 287 1119:=aJ b9 eW ar (a:=DG) ck rfl
def H1141:Ow 358 1141:=aJ b9 eW ar (a:=nk) ck rfl
end
end Go.Abs
