/- A part of the proofs. -/
import Derived.Test.YtkmlboofmolbaaaGreatDoorP10
import Derived.Test.YtkmlboofmolbaaaGreatDoorP11
import Derived.Test.YtkmlboofmolbaaaGreatDoorP12
import Derived.Test.YtkmlboofmolbaaaGreatDoorP13
import Derived.Test.YtkmlboofmolbaaaGreatDoorP14
import Derived.Test.YtkmlboofmolbaaaGreatDoorP15
import Derived.Test.YtkmlboofmolbaaaGreatDoorP16
import Derived.Test.YtkmlboofmolbaaaGreatDoorP17
import Derived.Test.YtkmlboofmolbaaaGreatDoorP22
set_option linter.all false
set_option maxRecDepth 60000
set_option maxHeartbeats 2000000
namespace Go.Abs
section
section
variable [cG]
def H25:Ow 16 25:=aM rfl fun v n hp0=>au ar ck rfl (w25 aI v n hp0)
def H71:Ow 50 71:=aM rfl fun r hp0=>au ar ck rfl (w71 aI Kl Eb G218 G219 r hp0)
def H90:Ow 8 90:=aM rfl fun ks most hp0=>au ar ck rfl (w90 aI Kk G266 ks most hp0)
def H112:Ow 22 112:=aM rfl (au ar ck rfl (w112 aI))
def H143:Ow 55 143:=aM rfl fun l hp0=>au ar ck rfl (w143 aI G136 G356 l hp0)
def H159:Ow 49 159:=aM rfl fun l i=>au ar ck rfl (w159 aI l i)
def H186:Ow 41 186:=aM rfl fun w c hp0=>au ar ck rfl (w186 aI G170 G417 w c hp0)
def H215:Ow 204 215:=aM rfl fun r hp0=>au ar ck rfl (w215 aI G242 G450 G451 G452 r hp0)
def H221:Ow 43 221:=aM rfl fun s=>au ar ck rfl (w221 aI G464 s)
def H268:Ow 31 268:=aM rfl fun w l hp0=>au ar ck rfl (w268 aI G25 G159 w l hp0)
def H296:Ow 46 296:=OG rfl D296 fun g own hp0=>B5 2 ar ck rfl rfl (w296 aI Kk G535 g own hp0)
def H345:Ow 52 345:=aM rfl fun l hp0=>au ar ck rfl (w345 aI Kl G572 l hp0)
def H357:Ow 99 357:=aM rfl fun s=>au ar ck rfl (w357 aI G453 G454 s)
def H375:Ow 217 375:=aM rfl (au ar ck rfl (w375 aI))
def H415:Ow 156 415:=aM rfl fun w x hp0=>au ar ck rfl (w415 aI G381 G627 w x hp0)
def H442:Ow 115 442:=aM rfl fun s hp0=>au ar ck rfl (w442 aI G533 s hp0)
def H455:Ow 86 455:=aM rfl fun n=>au ar ck rfl (w455 aI n)
def H462:Ow 129 462:=aM rfl fun s hp0=>au ar ck rfl (w462 aI s hp0)
def H503:Ow 53 503:=aM rfl fun s nm v on hp0=>au ar ck rfl (w503 aI Va G580 s nm v on hp0)
def H510:Ow 124 510:=aM rfl fun w c hp0=>au ar ck rfl (w510 aI w c hp0)
def H533:Ow 118 533:=aM rfl fun s b hp0=>au ar ck rfl (w533 aI s b hp0)
def H580:Ow 96 580:=aM rfl fun l nm v hp0=>au ar ck rfl (w580 aI G501 l nm v hp0)
def H618:Ow 160 618:=aM rfl fun c n hp0=>au ar ck rfl (w618 aI Eb G777 G778 c n hp0)
def H629:Ow 108 629:=aM rfl fun w c x hp0=>au ar ck rfl (w629 aI G627 w c x hp0)
def H666:Ow 132 666:=aM rfl fun t=>au ar ck rfl (w666 aI t)
def H689:Ow 76 689:=aM rfl fun l b x hp0=>au ar ck rfl (w689 aI G690 G691 l b x hp0)
def H695:Ow 110 695:=aM rfl fun s nm v hp0=>au ar ck rfl (w695 aI Va G580 s nm v hp0)
def H714:Ow 164 714:=aM rfl fun x=>au ar ck rfl (w714 aI x)
def H752:Ow 148 752:=yG rfl fun y ns k hp0 hp1 nx lf ln lr m K h1 h2 h3 hne hat hK=>nM (BC (rest:=[Key.D k]) rfl) rfl ar ck rfl h1 h2 h3 hne hat hK (w752 aI y ns k G755 G816 hp0 hp1)
def H778:Ow 200 778:=aM rfl fun w n hp0=>au ar ck rfl (w778 aI G770 w n hp0)
def H816:Ow 189 816:=aM rfl fun l nm=>au ar ck rfl (w816 aI G955 l nm)
def H902:Ow 186 902:=aM rfl fun a b=>au ar ck rfl (w902 aI a b)
def H916:Ow 230 916:=aM rfl fun l hp0=>au ar ck rfl (w916 aI U3 U4 l hp0)
def H955:Ow 222 955:=aM rfl fun l nm=>au ar ck rfl (w955 aI l nm)
def H1015:Ow 229 1015:=aM rfl fun y ns r hp0=>au ar ck rfl (w1015 aI G501 y ns r hp0)
def H1055:Ow 244 1055:=aM rfl fun c v hp0=>au ar ck rfl (w1055 aI Bx U8 U6 c v hp0)
def H1120:Ow 288 1120:=aM rfl fun l=>au ar ck rfl (w1120 aI Kl l)
def H374:Ow 262 374:=aJ b8 eN ar (a:=C5) ck rfl
def H445:Ow 270 445:=aJ b8 eN ar (a:=wN) ck rfl
def H482:Ow 215 482:=aJ b8 eN ar (a:=xB) ck rfl
def H601:Ow 254 601:=aJ b8 eN ar (a:=xw) ck rfl
def H662:Ow 298 662:=aJ b8 eN ar (a:=wP) ck rfl
def H677:Ow 251 677:=aJ b8 eN ar (a:=Ad) ck rfl
def H745:Ow 143 745:=aJ b8 eN ar (a:=xI) ck rfl
def H810:Ow 323 810:=aJ b8 eN ar (a:=zE) ck rfl
def H828:Ow 345 828:=aJ b8 eN ar (a:=wx) ck rfl
def H901:Ow 185 901:=aJ b8 eN ar (a:=C9) ck rfl
def H921:Ow 315 921:=aJ b8 eN ar (a:=z6) ck rfl
def H951:Ow 354 951:=aJ b8 eN ar (a:=zB) ck rfl
def H1006:Ow 212 1006:=aJ b8 eN ar (a:=xD) ck rfl
def H1031:Ow 369 1031:=aJ b8 eN ar (a:=pF) ck rfl
def H1079:Ow 250 1079:=aJ b8 eN ar (a:=uP) ck rfl
def H1099:Ow 307 1099:=aJ b8 eN ar (a:=zQ) ck rfl
def H1137:Ow 310 1137:=aJ b8 eN ar (a:=uO) ck rfl
def H1147:Ow 359 1147:=aJ b8 eN ar (a:=Aa) ck rfl
end
end
section
section
variable [cG]
def H46:Ow 62 46:=aM rfl fun w hp0=>au ar ck rfl (w46 aI G158 G183 w hp0)
def H74:Ow 122 74:=aM rfl fun r hp0=>au ar ck rfl (w74 aI G72 G220 r hp0)
def H109:Ow 23 109:=OG rfl D109 fun g n hp0 hp1=>B5 2 ar ck rfl rfl (w109 aI G25 G159 g n hp0 hp1)
def H136:Ow 26 136:=aM rfl fun m hp0=>au ar ck rfl (w136 aI G71 G344 G345 m hp0)
def H147:Ow 28 147:=aM rfl fun l shop e ks hp0=>au ar ck rfl (w147 aI G143 G144 G145 G360 G361 G362 l shop e ks hp0)
def H175:Ow 34 175:=aM rfl fun w hp0=>au ar ck rfl (w175 aI Bx U8 G408 G409 w hp0)
def H210:Ow 235 210:=aM rfl fun r n hp0=>au ar ck rfl (w210 aI G212 U9 G443 r n hp0)
def H218:Ow 93 218:=aM rfl fun r hp0=>au ar ck rfl (w218 aI G457 G458 G459 G460 r hp0)
def H265:Ow 13 265:=aM rfl fun shop e w l hp0=>au ar ck rfl (w265 aI G264 G410 shop e w l hp0)
def H273:Ow 80 273:=aM rfl fun w c hp0=>au ar ck rfl (w273 aI G175 G510 w c hp0)
def H315:Ow 37 315:=aM rfl fun l hp0=>au ar ck rfl (w315 aI G138 G553 l hp0)
def H354:Ow 72 354:=aM rfl fun l s=>au ar ck rfl (w354 aI G355 l s)
def H360:Ow 58 360:=aM rfl fun l hp0=>au ar ck rfl (w360 aI G143 G581 l hp0)
def H408:Ow 67 408:=aM rfl fun a b=>au ar ck rfl (w408 aI G516 G531 a b)
def H424:Ow 45 424:=aM rfl fun a b hp0=>au ar ck rfl (w424 aI Eb G630 G631 a b hp0)
def H451:Ow 241 451:=aM rfl fun v hp0=>au ar ck rfl (w451 aI Bx G665 v hp0)
def H458:Ow 139 458:=aM rfl fun r b hp0=>au ar ck rfl (w458 aI Kl G572 G670 r b hp0)
def H470:Ow 131 470:=aM rfl fun s b hp0=>au ar ck rfl (w470 aI s b hp0)
def H506:Ow 63 506:=aM rfl fun w c hp0=>au ar ck rfl (w506 aI G170 G629 w c hp0)
def H530:Ow 116 530:=aM rfl fun v=>au ar ck rfl (w530 aI v)
def H536:Ow 91 536:=aM rfl fun l s=>au ar ck rfl (w536 aI l s)
def H583:Ow 102 583:=yG rfl fun y ns all k hp0 hp1 nx lf ln lr m K h1 h2 h3 hne hat hK=>nM (BC (rest:=[.sl 2 (all.map Key.D),Key.D k]) rfl) rfl ar ck rfl h1 h2 h3 hne hat hK (w583 aI y ns all k G750 G751 G752 G753 G754 G755 hp0 hp1)
def H624:Ow 82 624:=aM rfl fun w c x hp0=>au ar ck rfl (w624 aI G712 w c x hp0)
def H658:Ow 162 658:=aM rfl fun s=>au ar ck rfl (w658 aI s)
def H669:Ow 174 669:=aM rfl fun r w al hp0=>au ar ck rfl (w669 aI Kl G572 G812 r w al hp0)
def H692:Ow 103 692:=aM rfl fun m al c hp0=>au ar ck rfl (w692 aI G184 G829 m al c hp0)
def H701:Ow 170 701:=aM rfl fun a b hp0=>au ar ck rfl (w701 aI Bx U8 a b hp0)
def H749:Ow 145 749:=aM rfl fun l k hp0=>au ar ck rfl (w749 aI G902 l k hp0)
def H755:Ow 151 755:=yG rfl fun y ns nm hp0 hp1 nx lf ln lr m K h1 h2 h3 hne hat hK=>nM (BC (rest:=[.str nm]) rfl) rfl ar ck rfl h1 h2 h3 hne hat hK (w755 aI y ns nm G909 hp0 hp1)
def H783:Ow 135 783:=aM rfl fun a b=>au ar ck rfl (w783 aI G630 G667 G668 G927 a b)
def H831:Ow 155 831:=aM rfl fun l o=>au ar ck rfl (w831 aI l o)
def H905:Ow 191 905:=aM rfl fun l nm=>au ar ck rfl (w905 aI G955 l nm)
def H925:Ow 202 925:=aM rfl fun l hp0=>au ar ck rfl (w925 aI aem aen l hp0)
def H1012:Ow 226 1012:=aM rfl fun l nm hp0=>au ar ck rfl (w1012 aI G143 G356 l nm hp0)
def H1023:Ow 233 1023:=aM rfl fun s hp0=>au ar ck rfl (w1023 aI aen U6 s hp0)
def H1084:Ow 261 1084:=aM rfl fun s nm hp0=>au ar ck rfl (w1084 aI Va Vb s nm hp0)
def H156:Ow 188 156:=aJ b8 eN ar (a:=xx) ck rfl
def H378:Ow 220 378:=aJ b8 eN ar (a:=xy) ck rfl
def H448:Ow 273 448:=aJ b8 eN ar (a:=rL) ck rfl
def H572:Ow 94 572:=aJ b8 eN ar (a:=xG) ck rfl
def H604:Ow 286 604:=aJ b8 eN ar (a:=FF) ck rfl
def H671:Ow 176 671:=aJ b8 eN ar (a:=uJ) ck rfl
def H684:Ow 318 684:=aJ b8 eN ar (a:=xM) ck rfl
def H772:Ow 333 772:=aJ b8 eN ar (a:=C3) ck rfl
def H814:Ow 210 814:=aJ b8 eN ar (a:=uG) ck rfl
def H898:Ow 182 898:=aJ b8 eN ar (a:=Af) ck rfl
def H918:Ow 331 918:=aJ b8 eN ar (a:=zY) ck rfl
def H948:Ow 351 948:=aJ b8 eN ar (a:=oF) ck rfl
def H954:Ow 248 954:=aJ b8 eN ar (a:=uI) ck rfl
def H1010:Ow 224 1010:=aJ b8 eN ar (a:=xm) ck rfl
def H1034:Ow 281 1034:=aJ b8 eN ar (a:=n7) ck rfl
def H1085:Ow 263 1085:=aJ b8 eN ar (a:=C6) ck rfl
def H1119:Ow 287 1119:=aJ b8 eN ar (a:=Db) ck rfl
def H1141:Ow 358 1141:=aJ b8 eN ar (a:=mY) ck rfl
end
end
end Go.Abs
