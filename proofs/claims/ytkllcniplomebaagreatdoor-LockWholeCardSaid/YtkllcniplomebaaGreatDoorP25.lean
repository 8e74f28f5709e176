/- A part of the proofs. -/
import Derived.Test.YtkllcniplomebaaGreatDoorP10
import Derived.Test.YtkllcniplomebaaGreatDoorP11
import Derived.Test.YtkllcniplomebaaGreatDoorP12
import Derived.Test.YtkllcniplomebaaGreatDoorP13
import Derived.Test.YtkllcniplomebaaGreatDoorP14
import Derived.Test.YtkllcniplomebaaGreatDoorP15
import Derived.Test.YtkllcniplomebaaGreatDoorP16
import Derived.Test.YtkllcniplomebaaGreatDoorP17
import Derived.Test.YtkllcniplomebaaGreatDoorP18
import Derived.Test.YtkllcniplomebaaGreatDoorP23
set_option linter.all false
set_option maxRecDepth 60000
set_option maxHeartbeats 2000000
namespace Go.Abs
section
variable [cI]
def H25:Ow 25 25:=aM rfl λv n hp0=>aw au ck rfl (w25 aG v n hp0)
def H72:Ow 180 72:=aM rfl λr hp0=>aw au ck rfl (w72 aG G70 G215 r hp0)
def H98:Ow 9 98:=aM rfl λshop e w c hp0=>aw au ck rfl (w98 aG G138 G142 G175 G176 G273 G274 shop e w c hp0)
def H114:Ow 27 114:=aM rfl λw hp0=>aw au ck rfl (w114 aG w hp0)
def H143:Ow 63 143:=aM rfl λl hp0=>aw au ck rfl (w143 aG G136 G356 l hp0)
def H169:Ow 174 169:=aM rfl λw hp0=>aw au ck rfl (w169 aG G403 w hp0)
def H208:Ow 83 208:=aM rfl λs=>aw au ck rfl (w208 aG s)
def H216:Ow 97 216:=aM rfl λs=>aw au ck rfl (w216 aG G453 G454 s)
def H249:Ow 155 249:=aM rfl λl x hp0=>aw au ck rfl (w249 aG l x hp0)
def H274:Ow 36 274:=aM rfl λs nm v hp0=>aw au ck rfl (w274 aG G353 G511 s nm v hp0)
def H309:Ow 14 309:=aM rfl λs hp0=>aw au ck rfl (w309 aG G220 G254 G491 G499 G545 G546 G547 s hp0)
def H344:Ow 59 344:=aM rfl λl=>aw au ck rfl (w344 aG Li l)
def H356:Ow 105 356:=aM rfl λl nm=>aw au ck rfl (w356 aG l nm)
def H362:Ow 68 362:=Bp rfl λy hp0 nx lf m K h1 hat hK=>aaT au ck rfl h1 hat hK (w362 aG y G582 G583 hp0)
def H410:Ow 81 410:=aM rfl λw c hp0=>aw au ck rfl (w410 aG G273 G623 G624 w c hp0)
def H442:Ow 122 442:=aM rfl λs hp0=>aw au ck rfl (w442 aG Wg s hp0)
def H455:Ow 146 455:=aM rfl λn=>aw au ck rfl (w455 aG n)
def H462:Ow 154 462:=aM rfl λs hp0=>aw au ck rfl (w462 aG s hp0)
def H497:Ow 42 497:=aM rfl λn=>aw au ck rfl (w497 aG G686 n)
def H506:Ow 71 506:=aM rfl λw c hp0=>aw au ck rfl (w506 aG G170 G629 w c hp0)
def H530:Ow 123 530:=aM rfl λv=>aw au ck rfl (w530 aG v)
def H536:Ow 96 536:=aM rfl λl s=>aw au ck rfl (w536 aG l s)
def H550:Ow 51 550:=aM rfl λa b=>aw au ck rfl (w550 aG G551 a b)
def H581:Ow 108 581:=aM rfl λl p hp0=>aw au ck rfl (w581 aG l p hp0)
def H622:Ow 127 622:=aM rfl λl n hp0=>aw au ck rfl (w622 aG G780 l n hp0)
def H631:Ow 247 631:=aM rfl λa b hp0=>aw au ck rfl (w631 aG G470 G630 G783 a b hp0)
def H668:Ow 194 668:=aM rfl λt=>aw au ck rfl (w668 aG t)
def H692:Ow 111 692:=aM rfl λm al c hp0=>aw au ck rfl (w692 aG G184 G829 m al c hp0)
def H704:Ow 176 704:=aM rfl λx=>aw au ck rfl (w704 aG x)
def H749:Ow 161 749:=aM rfl λl k hp0=>aw au ck rfl (w749 aG G902 l k hp0)
def H755:Ow 167 755:=Bp rfl λy ns nm hp0 hp1 nx lf ln lr m K h1 h2 h3 hne hat hK=>nR (Ch (rest:=[.str nm]) rfl) rfl au ck rfl h1 h2 h3 hne hat hK (w755 aG y ns nm G909 hp0 hp1)
def H783:Ow 284 783:=aM rfl λa b=>aw au ck rfl (w783 aG G630 G667 G668 G927 a b)
def H831:Ow 171 831:=aM rfl λl o=>aw au ck rfl (w831 aG l o)
def H905:Ow 214 905:=aM rfl λl nm=>aw au ck rfl (w905 aG G955 l nm)
def H925:Ow 224 925:=aM rfl λl hp0=>aw au ck rfl (w925 aG afA afB l hp0)
def H1012:Ow 257 1012:=aM rfl λl nm hp0=>aw au ck rfl (w1012 aG G143 G356 l nm hp0)
def H1023:Ow 266 1023:=aM rfl λs hp0=>aw au ck rfl (w1023 aG afB Wc s hp0)
def H1084:Ow 294 1084:=aM rfl λs nm hp0=>aw au ck rfl (w1084 aG G358 Wf s nm hp0)
def H156:Ow 211 156:=aO bZ eY au (a:=xZ) ck rfl
def H378:Ow 251 378:=aO bZ eY au (a:=x5) ck rfl
def H448:Ow 308 448:=aO bZ eY au (a:=sz) ck rfl
def H572:Ow 101 572:=aO bZ eY au (a:=yc) ck rfl
def H604:Ow 324 604:=aO bZ eY au (a:=Gv) ck rfl
def H671:Ow 197 671:=aO bZ eY au (a:=vg) ck rfl
def H684:Ow 355 684:=aO bZ eY au (a:=yh) ck rfl
def H772:Ow 366 772:=aO bZ eY au (a:=DS) ck rfl
def H814:Ow 238 814:=aO bZ eY au (a:=va) ck rfl
def H898:Ow 204 898:=aO bZ eY au (a:=AZ) ck rfl
def H918:Ow 364 918:=aO bZ eY au (a:=AO) ck rfl
def H948:Ow 381 948:=aO bZ eY au (a:=oQ) ck rfl
def H954:Ow 279 954:=aO bZ eY au (a:=ve) ck rfl
def H1010:Ow 255 1010:=aO bZ eY au (a:=xR) ck rfl
def H1034:Ow 318 1034:=aO bZ eY au (a:=oe) ck rfl
def H1085:Ow 296 1085:=aO bZ eY au (a:=DV) ck rfl
def H1119:Ow 325 1119:=aO bZ eY au (a:=D0) ck rfl
def H1141:Ow 385 1141:=aO bZ eY au (a:=na) ck rfl
end
section
variable [cI]
def H46:Ow 70 46:=aM rfl λw hp0=>aw au ck rfl (w46 aG G158 G183 w hp0)
def H75:Ow 104 75:=aM rfl λr hp0=>aw au ck rfl (w75 aG G73 G221 r hp0)
def H110:Ow 18 110:=MM rfl D110 λg nm v most hp0 hp1=>Ak 2 au ck rfl rfl (w110 aG Lh G135 G296 G297 G298 g nm v most hp0 hp1)
def H136:Ow 23 136:=aM rfl λm hp0=>aw au ck rfl (w136 aG G71 G344 G345 m hp0)
def H147:Ow 26 147:=aM rfl λl shop e ks hp0=>aw au ck rfl (w147 aG G143 G144 G145 G360 G361 G362 l shop e ks hp0)
def H176:Ow 35 176:=aM rfl λw c hp0=>aw au ck rfl (w176 G273 G410 w c hp0)
def H211:Ow 269 211:=aM rfl λr name rng hp0=>aw au ck rfl (w211 aG Wd G444 r name rng hp0)
def H219:Ow 100 219:=aM rfl λr hp0=>aw au ck rfl (w219 aG G249 G316 G461 G462 r hp0)
def H268:Ow 29 268:=aM rfl λw l hp0=>aw au ck rfl (w268 aG G25 G159 w l hp0)
def H296:Ow 54 296:=MM rfl D296 λg own hp0=>Ak 2 au ck rfl rfl (w296 aG Lh G535 g own hp0)
def H314:Ow 17 314:=aM rfl λa b=>aw au ck rfl (w314 aG G550 a b)
def H353:Ow 76 353:=aM rfl λs hp0=>aw au ck rfl (w353 aG G74 Wd G511 s hp0)
def H359:Ow 106 359:=aM rfl λl nm=>aw au ck rfl (w359 aG l nm)
def H403:Ow 220 403:=aM rfl λw i hp0=>aw au ck rfl (w403 aG Wf G617 G618 w i hp0)
def H424:Ow 208 424:=aM rfl λa b hp0=>aw au ck rfl (w424 aG E3 G630 G631 a b hp0)
def H451:Ow 84 451:=aM rfl λv hp0=>aw au ck rfl (w451 aG A6 G665 v hp0)
def H458:Ow 149 458:=aM rfl λr b hp0=>aw au ck rfl (w458 aG Li G572 G670 r b hp0)
def H466:Ow 93 466:=aM rfl λs hp0=>aw au ck rfl (w466 aG A6 G451 Wg G658 G675 s hp0)
def H503:Ow 61 503:=aM rfl λs nm v on hp0=>aw au ck rfl (w503 aG G358 G580 s nm v on hp0)
def H516:Ow 119 516:=aM rfl λa b=>aw au ck rfl (w516 aG G704 a b)
def H533:Ow 125 533:=aM rfl λs b hp0=>aw au ck rfl (w533 aG s b hp0)
def H547:Ow 49 547:=aM rfl λt hp0=>aw au ck rfl (w547 aG G124 G466 G499 G553 G733 t hp0)
def H553:Ow 37 553:=aM rfl λx hp0=>aw au ck rfl (w553 aG Wd A6 We x hp0)
def H600:Ow 286 600:=aM rfl λv=>aw au ck rfl (w600 aG v)
def H627:Ow 175 627:=aM rfl λs v hp0=>aw au ck rfl (w627 aG E3 G770 G782 s v hp0)
def H665:Ow 134 665:=aM rfl λn hp0=>aw au ck rfl (w665 aG G336 n hp0)
def H674:Ow 200 674:=aM rfl λr x=>aw au ck rfl (w674 aG r x)
def H699:Ow 131 699:=aM rfl λl nm v hp0=>aw au ck rfl (w699 aG G700 l nm v hp0)
def H733:Ow 90 733:=aM rfl λs=>aw au ck rfl (w733 aG s)
def H752:Ow 164 752:=Bp rfl λy ns k hp0 hp1 nx lf ln lr m K h1 h2 h3 hne hat hK=>nR (Ch (rest:=[Key.D k]) rfl) rfl au ck rfl h1 h2 h3 hne hat hK (w752 aG y ns k G755 G816 hp0 hp1)
def H778:Ow 298 778:=aM rfl λw n hp0=>aw au ck rfl (w778 aG G770 w n hp0)
def H816:Ow 212 816:=aM rfl λl nm=>aw au ck rfl (w816 aG G955 l nm)
def H902:Ow 209 902:=aM rfl λa b=>aw au ck rfl (w902 aG a b)
def H916:Ow 263 916:=aM rfl λl hp0=>aw au ck rfl (w916 aG V9 Wa l hp0)
def H955:Ow 253 955:=aM rfl λl nm=>aw au ck rfl (w955 aG l nm)
def H1015:Ow 260 1015:=aM rfl λy ns r hp0=>aw au ck rfl (w1015 aG G501 y ns r hp0)
def H1055:Ow 311 1055:=aM rfl λc v hp0=>aw au ck rfl (w1055 aG A6 G295 Wc c v hp0)
def H1120:Ow 326 1120:=aM rfl λl=>aw au ck rfl (w1120 aG Li l)
def H374:Ow 295 374:=aO bZ eY au (a:=DU) ck rfl
def H445:Ow 305 445:=aO bZ eY au (a:=xh) ck rfl
def H482:Ow 244 482:=aO bZ eY au (a:=x8) ck rfl
def H601:Ow 287 601:=aO bZ eY au (a:=xY) ck rfl
def H662:Ow 335 662:=aO bZ eY au (a:=xl) ck rfl
def H677:Ow 283 677:=aO bZ eY au (a:=AX) ck rfl
def H745:Ow 157 745:=aO bZ eY au (a:=ye) ck rfl
def H810:Ow 359 810:=aO bZ eY au (a:=At) ck rfl
def H828:Ow 378 828:=aO bZ eY au (a:=wT) ck rfl
def H901:Ow 207 901:=aO bZ eY au (a:=DY) ck rfl
def H921:Ow 352 921:=aO bZ eY au (a:=AQ) ck rfl
def H951:Ow 384 951:=aO bZ eY au (a:=Aq) ck rfl
def H1006:Ow 241 1006:=aO bZ eY au (a:=x9) ck rfl
def H1031:Ow 393 1031:=aO bZ eY au (a:=pY) ck rfl
def H1079:Ow 282 1079:=aO bZ eY au (a:=vt) ck rfl
def H1099:Ow 344 1099:=aO bZ eY au (a:=AH) ck rfl
def H1137:Ow 347 1137:=aO bZ eY au (a:=vr) ck rfl
def H1147:Ow 386 1147:=aO bZ eY au (a:=AU) ck rfl
end
end Go.Abs
