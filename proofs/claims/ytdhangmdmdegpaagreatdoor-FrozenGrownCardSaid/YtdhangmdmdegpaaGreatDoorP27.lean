/- A part of the proofs. -/
import Derived.Test.YtdhangmdmdegpaaGreatDoorP10
import Derived.Test.YtdhangmdmdegpaaGreatDoorP11
import Derived.Test.YtdhangmdmdegpaaGreatDoorP12
import Derived.Test.YtdhangmdmdegpaaGreatDoorP13
import Derived.Test.YtdhangmdmdegpaaGreatDoorP14
import Derived.Test.YtdhangmdmdegpaaGreatDoorP15
import Derived.Test.YtdhangmdmdegpaaGreatDoorP16
import Derived.Test.YtdhangmdmdegpaaGreatDoorP17
import Derived.Test.YtdhangmdmdegpaaGreatDoorP18
import Derived.Test.YtdhangmdmdegpaaGreatDoorP23
set_option linter.all false
set_option maxRecDepth 60000
set_option maxHeartbeats 2000000
namespace Go.Abs
section
variable [cO]
def H29:Ow 7 29:=aL rfl λn=>av au ck rfl (w29 aI G25 n)
def H73:Ow 111 73:=aL rfl λr hp0=>av au ck rfl (w73 aI G71 G219 r hp0)
def H91:Ow 8 91:=aL rfl λm shop e os hp0=>av au ck rfl (w91 aI G114 G147 G267 G268 G269 m shop e os hp0)
def H114:Ow 28 114:=aL rfl λw hp0=>av au ck rfl (w114 aI w hp0)
def H143:Ow 33 143:=aL rfl λl hp0=>av au ck rfl (w143 aI G136 G356 l hp0)
def H169:Ow 63 169:=aL rfl λw hp0=>av au ck rfl (w169 aI G403 w hp0)
def H208:Ow 134 208:=aL rfl λs=>av au ck rfl (w208 aI s)
def H216:Ow 67 216:=aL rfl λs=>av au ck rfl (w216 aI G453 G454 s)
def H225:Ow 114 225:=aL rfl λa b=>av au ck rfl (w225 aI G477 a b)
def H266:Ow 27 266:=Qf rfl D266 λg l hp0 hp1=>Da 2 au ck rfl rfl (w266 aI LI G110 G111 G112 G503 G504 g l hp0 hp1)
def H274:Ow 88 274:=aL rfl λs nm v hp0=>av au ck rfl (w274 aI G353 G511 s nm v hp0)
def H311:Ow 94 311:=aL rfl λa b=>av au ck rfl (w311 aI a b)
def H353:Ow 81 353:=aL rfl λs hp0=>av au ck rfl (w353 aI G74 WX G511 s hp0)
def H359:Ow 72 359:=aL rfl λl nm=>av au ck rfl (w359 aI l nm)
def H403:Ow 107 403:=aL rfl λw i hp0=>av au ck rfl (w403 aI W0 G617 G618 w i hp0)
def H417:Ow 93 417:=aL rfl λw c u hp0=>av au ck rfl (w417 aI G628 G629 w c u hp0)
def H450:Ow 262 450:=zH rfl λws t l lw nx m K h1 h2 h3 h4 hp2 hK=>Vi au ck rfl h1 h2 h3 h4 hK λm0 hp0 hp1=>w450 aI ws t m0 G242 G489 G664 hp0 hp1 hp2
def H457:Ow 142 457:=aL rfl λr n hp0=>av au ck rfl (w457 aI G357 G669 G670 r n hp0)
def H464:Ow 162 464:=aL rfl λh n hp0=>av au ck rfl (w464 aI h n hp0)
def H504:Ow 59 504:=aL rfl λs r hp0=>av au ck rfl (w504 aI G75 Uo G580 s r hp0)
def H511:Ow 136 511:=aL rfl λl nm v hp0=>av au ck rfl (w511 aI G699 l nm v hp0)
def H534:Ow 132 534:=aL rfl λa b=>av au ck rfl (w534 aI G516 G532 G658 G659 a b)
def H581:Ow 34 581:=aL rfl λl p hp0=>av au ck rfl (w581 aI l p hp0)
def H618:Ow 160 618:=aL rfl λc n hp0=>av au ck rfl (w618 aI Fx G777 G778 c n hp0)
def H629:Ow 106 629:=aL rfl λw c x hp0=>av au ck rfl (w629 aI G627 w c x hp0)
def H666:Ow 187 666:=aL rfl λt=>av au ck rfl (w666 aI t)
def H689:Ow 86 689:=aL rfl λl b x hp0=>av au ck rfl (w689 aI G690 G691 l b x hp0)
def H695:Ow 108 695:=aL rfl λs nm v hp0=>av au ck rfl (w695 aI Uo G580 s nm v hp0)
def H714:Ow 178 714:=aL rfl λx=>av au ck rfl (w714 aI x)
def H752:Ow 120 752:=zH rfl λy ns k hp0 hp1 nx lf ln lr m K h1 h2 h3 hne hat hK=>ot (CF (rest:=[Key.D k]) rfl) rfl au ck rfl h1 h2 h3 hne hat hK (w752 aI y ns k G755 G816 hp0 hp1)
def H778:Ow 206 778:=aL rfl λw n hp0=>av au ck rfl (w778 aI G770 w n hp0)
def H816:Ow 167 816:=aL rfl λl nm=>av au ck rfl (w816 aI G955 l nm)
def H902:Ow 164 902:=aL rfl λa b=>av au ck rfl (w902 aI a b)
def H916:Ow 238 916:=aL rfl λl hp0=>av au ck rfl (w916 aI WT WU l hp0)
def H955:Ow 214 955:=aL rfl λl nm=>av au ck rfl (w955 aI l nm)
def H1015:Ow 222 1015:=aL rfl λy ns r hp0=>av au ck rfl (w1015 aI G501 y ns r hp0)
def H1055:Ow 266 1055:=aL rfl λc v hp0=>av au ck rfl (w1055 aI Cy WY WW c v hp0)
def H1120:Ow 71 1120:=aL rfl λl=>av au ck rfl (w1120 aI LJ l)
def H156:Ow 166 156:=aN ch fh au (a:=yy) ck rfl
def H378:Ow 212 378:=aN ch fh au (a:=yz) ck rfl
def H448:Ow 292 448:=aN ch fh au (a:=sD) ck rfl
def H572:Ow 100 572:=aN ch fh au (a:=yG) ck rfl
def H604:Ow 282 604:=aN ch fh au (a:=GW) ck rfl
def H671:Ow 192 671:=aN ch fh au (a:=vF) ck rfl
def H684:Ow 331 684:=aN ch fh au (a:=yK) ck rfl
def H772:Ow 326 772:=aN ch fh au (a:=Eg) ck rfl
def H814:Ow 230 814:=aN ch fh au (a:=vC) ck rfl
def H898:Ow 198 898:=aN ch fh au (a:=Bd) ck rfl
def H918:Ow 324 918:=aN ch fh au (a:=A3) ck rfl
def H948:Ow 361 948:=aN ch fh au (a:=pC) ck rfl
def H954:Ow 267 954:=aN ch fh au (a:=vE) ck rfl
def H1010:Ow 217 1010:=aN ch fh au (a:=yq) ck rfl
def H1034:Ow 279 1034:=aN ch fh au (a:=oN) ck rfl
def H1085:Ow 254 1085:=aN ch fh au (a:=Ej) ck rfl
def H1119:Ow 283 1119:=aN ch fh au (a:=Eo) ck rfl
def H1141:Ow 343 1141:=aN ch fh au (a:=nA) ck rfl
end
section
variable [cO]
def H70:Ow 225 70:=aL rfl λr hp0=>av au ck rfl (w70 aI WX Cy G210 G211 G212 G213 G214 G215 r hp0)
def H78:Ow 70 78:=aL rfl λa b=>av au ck rfl (w78 aI G225 G226 a b)
def H110:Ow 21 110:=Qf rfl D110 λg nm v most hp0 hp1=>Da 2 au ck rfl rfl (w110 aI LI G135 G296 G297 G298 g nm v most hp0 hp1)
def H136:Ow 26 136:=aL rfl λm hp0=>av au ck rfl (w136 aI G71 G344 G345 m hp0)
def H147:Ow 15 147:=aL rfl λl shop e ks hp0=>av au ck rfl (w147 aI G143 G144 G145 G360 G361 G362 l shop e ks hp0)
def H183:Ow 104 183:=aL rfl λw l hp0=>av au ck rfl (w183 aI G415 w l hp0)
def H211:Ow 258 211:=aL rfl λr name rng hp0=>av au ck rfl (w211 aI WX G444 r name rng hp0)
def H219:Ow 99 219:=aL rfl λr hp0=>av au ck rfl (w219 aI G249 G316 G461 G462 r hp0)
def H263:Ow 36 263:=aL rfl λa b=>av au ck rfl (w263 aI G78 a b)
def H269:Ow 31 269:=aL rfl λw c hp0 hp1=>av au ck rfl (w269 aI G506 w c hp0 hp1)
def H297:Ow 52 297:=Qf rfl D297 λg own hp0=>Da 2 au ck rfl rfl (w297 aI LI G111 G536 g own hp0)
def H344:Ow 56 344:=aL rfl λl=>av au ck rfl (w344 aI LJ l)
def H356:Ow 66 356:=aL rfl λl nm=>av au ck rfl (w356 aI l nm)
def H362:Ow 41 362:=zH rfl λy hp0 nx lf m K h1 hat hK=>abM au ck rfl h1 hat hK (w362 aI y G582 G583 hp0)
def H410:Ow 47 410:=aL rfl λw c hp0=>av au ck rfl (w410 aI G273 G623 G624 w c hp0)
def H441:Ow 127 441:=aL rfl λs hp0=>av au ck rfl (w441 aI G442 G533 G658 G659 s hp0)
def H454:Ow 110 454:=aL rfl λc=>av au ck rfl (w454 aI c)
def H461:Ow 147 461:=aL rfl λw hp0=>av au ck rfl (w461 aI G249 w hp0)
def H501:Ow 113 501:=aL rfl λa b hp0=>av au ck rfl (w501 aI Fx W0 a b hp0)
def H507:Ow 64 507:=aL rfl λw c nm hp0=>av au ck rfl (w507 aI w c nm hp0)
def H531:Ow 124 531:=aL rfl λl=>av au ck rfl (w531 aI l)
def H553:Ow 85 553:=aL rfl λx hp0=>av au ck rfl (w553 aI WX Cy WZ x hp0)
def H594:Ow 16 594:=aL rfl λl hp0=>av au ck rfl (w594 aI l hp0)
def H624:Ow 92 624:=aL rfl λw c x hp0=>av au ck rfl (w624 aI G712 w c x hp0)
def H658:Ow 176 658:=aL rfl λs=>av au ck rfl (w658 aI s)
def H669:Ow 190 669:=aL rfl λr w al hp0=>av au ck rfl (w669 aI LJ G572 G812 r w al hp0)
def H692:Ow 101 692:=aL rfl λm al c hp0=>av au ck rfl (w692 aI G184 G829 m al c hp0)
def H701:Ow 184 701:=aL rfl λa b hp0=>av au ck rfl (w701 aI Cy WY a b hp0)
def H749:Ow 117 749:=aL rfl λl k hp0=>av au ck rfl (w749 aI G902 l k hp0)
def H755:Ow 123 755:=zH rfl λy ns nm hp0 hp1 nx lf ln lr m K h1 h2 h3 hne hat hK=>ot (CF (rest:=[.str nm]) rfl) rfl au ck rfl h1 h2 h3 hne hat hK (w755 aI y ns nm G909 hp0 hp1)
def H783:Ow 241 783:=aL rfl λa b=>av au ck rfl (w783 aI G630 G667 G668 G927 a b)
def H831:Ow 155 831:=aL rfl λl o=>av au ck rfl (w831 aI l o)
def H905:Ow 169 905:=aL rfl λl nm=>av au ck rfl (w905 aI G955 l nm)
def H925:Ow 224 925:=aL rfl λl hp0=>av au ck rfl (w925 aI ags agt l hp0)
def H1012:Ow 219 1012:=aL rfl λl nm hp0=>av au ck rfl (w1012 aI G143 G356 l nm hp0)
def H1023:Ow 255 1023:=aL rfl λs hp0=>av au ck rfl (w1023 aI agt WW s hp0)
def H1084:Ow 252 1084:=aL rfl λs nm hp0=>av au ck rfl (w1084 aI Uo W0 s nm hp0)
def H1221:Ow 14 1221:=aL rfl λa b ps l hp0=>av au ck rfl (w1221 aI agu a b ps l hp0)
def H374:Ow 253 374:=aN ch fh au (a:=Ei) ck rfl
def H445:Ow 289 445:=aN ch fh au (a:=xS) ck rfl
def H482:Ow 236 482:=aN ch fh au (a:=yC) ck rfl
def H601:Ow 244 601:=aN ch fh au (a:=yx) ck rfl
def H662:Ow 314 662:=aN ch fh au (a:=xU) ck rfl
def H677:Ow 271 677:=aN ch fh au (a:=Bb) ck rfl
def H745:Ow 151 745:=aN ch fh au (a:=yH) ck rfl
def H810:Ow 336 810:=aN ch fh au (a:=AJ) ck rfl
def H828:Ow 355 828:=aN ch fh au (a:=xy) ck rfl
def H901:Ow 201 901:=aN ch fh au (a:=Em) ck rfl
def H921:Ow 308 921:=aN ch fh au (a:=A5) ck rfl
def H951:Ow 364 951:=aN ch fh au (a:=AG) ck rfl
def H1006:Ow 233 1006:=aN ch fh au (a:=yD) ck rfl
def H1031:Ow 376 1031:=aN ch fh au (a:=qn) ck rfl
def H1079:Ow 270 1079:=aN ch fh au (a:=vL) ck rfl
def H1099:Ow 321 1099:=aN ch fh au (a:=AW) ck rfl
def H1137:Ow 303 1137:=aN ch fh au (a:=vK) ck rfl
def H1147:Ow 344 1147:=aN ch fh au (a:=A8) ck rfl
end
end Go.Abs
