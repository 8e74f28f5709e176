/- A part of the proofs. -/
import Derived.Test.YtkllcniplomebaaGreatDoorP10
import Derived.Test.YtkllcniplomebaaGreatDoorP11
import Derived.Test.YtkllcniplomebaaGreatDoorP12
import Derived.Test.YtkllcniplomebaaGreatDoorP13
import Derived.Test.YtkllcniplomebaaGreatDoorP14
import Derived.Test.YtkllcniplomebaaGreatDoorP15
import Derived.Test.YtkllcniplomebaaGreatDoorP16
import Derived.Test.YtkllcniplomebaaGreatDoorP17
import Derived.Test.YtkllcniplomebaaGreatDoorP18
import Derived.Test.YtkllcniplomebaaGreatDoorP23
set_option linter.all false
set_option maxRecDepth 60000
set_option maxHeartbeats 2000000
namespace Go.Abs
section
variable [cI]
def H29:Ow 7 29:=aM rfl λn=>aw au ck rfl (w29 aG G25 n)
def H74:Ow 128 74:=aM rfl λr hp0=>aw au ck rfl (w74 aG G72 G220 r hp0)
def H109:Ow 20 109:=MM rfl D109 λg n hp0 hp1=>Ak 2 au ck rfl rfl (w109 aG G25 G159 g n hp0 hp1)
def H135:Ow 22 135:=aM rfl (aw au ck rfl (w135 aG))
def H145:Ow 64 145:=aM rfl λl hp0=>aw au ck rfl (w145 aG G358 G359 l hp0)
def H175:Ow 31 175:=aM rfl λw hp0=>aw au ck rfl (w175 aG A6 G295 G408 G409 w hp0)
def H210:Ow 268 210:=aM rfl λr n hp0=>aw au ck rfl (w210 aG G212 We G443 r n hp0)
def H218:Ow 99 218:=aM rfl λr hp0=>aw au ck rfl (w218 aG G457 G458 G459 G460 r hp0)
def H267:Ow 28 267:=aM rfl λw od hp0=>aw au ck rfl (w267 aG G46 G505 w od hp0)
def H295:Ow 74 295:=aM rfl λa b hp0=>aw au ck rfl (w295 aG A6 G530 G531 G532 Wg G534 a b hp0)
def H313:Ow 15 313:=aM rfl λn=>aw au ck rfl (w313 aG n)
def H349:Ow 79 349:=aM rfl λs=>aw au ck rfl (w349 aG s)
def H358:Ow 102 358:=aM rfl λs hp0=>aw au ck rfl (w358 aG G75 Li G580 s hp0)
def H381:Ow 173 381:=aM rfl λn hp0=>aw au ck rfl (w381 aG n hp0)
def H416:Ow 219 416:=aM rfl λc x hp0=>aw au ck rfl (w416 aG c x hp0)
def H450:Ow 273 450:=Bp rfl λws t l lw nx m K h1 h2 h3 h4 hp2 hK=>Uq au ck rfl h1 h2 h3 h4 hK λm0 hp0 hp1=>w450 aG ws t m0 G242 G489 G664 hp0 hp1 hp2
def H457:Ow 148 457:=aM rfl λr n hp0=>aw au ck rfl (w457 aG G357 G669 G670 r n hp0)
def H464:Ow 50 464:=aM rfl λh n hp0=>aw au ck rfl (w464 aG h n hp0)
def H501:Ow 158 501:=aM rfl λa b hp0=>aw au ck rfl (w501 aG E3 Wf a b hp0)
def H511:Ow 82 511:=aM rfl λl nm v hp0=>aw au ck rfl (w511 aG G699 l nm v hp0)
def H532:Ow 124 532:=aM rfl λa b=>aw au ck rfl (w532 aG G714 a b)
def H546:Ow 45 546:=aM rfl λs hp0=>aw au ck rfl (w546 aG G124 G138 G733 s hp0)
def H552:Ow 53 552:=aM rfl λa b=>aw au ck rfl (w552 aG G486 a b)
def H583:Ow 110 583:=Bp rfl λy ns all k hp0 hp1 nx lf ln lr m K h1 h2 h3 hne hat hK=>nR (Ch (rest:=[.sl 2 (all.map Key.D),Key.D k]) rfl) rfl au ck rfl h1 h2 h3 hne hat hK (w583 aG y ns all k G750 G751 G752 G753 G754 G755 hp0 hp1)
def H624:Ow 130 624:=aM rfl λw c x hp0=>aw au ck rfl (w624 aG G712 w c x hp0)
def H659:Ow 177 659:=aM rfl λt=>aw au ck rfl (w659 aG t)
def H673:Ow 199 673:=aM rfl λr x=>aw au ck rfl (w673 aG r x)
def H694:Ow 113 694:=aM rfl λm al od c hp0=>aw au ck rfl (w694 aG G693 G829 G830 G831 m al od c hp0)
def H714:Ow 178 714:=aM rfl λx=>aw au ck rfl (w714 aG x)
def H751:Ow 163 751:=Bp rfl λy ns hp0 hp1 nx lf ln lr m K h1 h2 h3 hne hat hK=>nR (Ch (rest:=[]) rfl) rfl au ck rfl h1 h2 h3 hne hat hK (w751 aG y ns afC hp0 hp1)
def H777:Ow 297 777:=aM rfl λl n hp0=>aw au ck rfl (w777 aG G778 l n hp0)
def H815:Ow 239 815:=aM rfl λl=>aw au ck rfl (w815 aG l)
def H882:Ow 280 882:=aM rfl λn hp0=>aw au ck rfl (w882 aG n hp0)
def H909:Ow 218 909:=Bp rfl λy ns nm hp0 nx lf ln lr m K h1 h2 h3 hne hat hK=>nR (Ch (rest:=[.str nm]) rfl) rfl au ck rfl h1 h2 h3 hne hat hK (w909 aG y ns nm G627 G1012 G1013 G1014 G1015 hp0)
def H927:Ow 321 927:=aM rfl λa b=>aw au ck rfl (w927 aG a b)
def H1014:Ow 259 1014:=aM rfl λl nm hp0=>aw au ck rfl (w1014 aG G143 G374 G1011 G1085 l nm hp0)
def H1025:Ow 301 1025:=aM rfl λc v hp0=>aw au ck rfl (w1025 aG E3 Wf Wb c v hp0)
def H1087:Ow 302 1087:=aM rfl λc hp0=>aw au ck rfl (w1087 aG A6 c hp0)
def H213:Ow 271 213:=aO bZ eY au (a:=uU) ck rfl
def H444:Ow 304 444:=aO bZ eY au (a:=rO) ck rfl
def H459:Ow 150 459:=aO bZ eY au (a:=AI) ck rfl
def H599:Ow 285 599:=aO bZ eY au (a:=AL) ck rfl
def H661:Ow 334 661:=aO bZ eY au (a:=Di) ck rfl
def H676:Ow 245 676:=aO bZ eY au (a:=DW) ck rfl
def H744:Ow 156 744:=aO bZ eY au (a:=yb) ck rfl
def H809:Ow 358 809:=aO bZ eY au (a:=nZ) ck rfl
def H827:Ow 377 827:=aO bZ eY au (a:=Cr) ck rfl
def H900:Ow 206 900:=aO bZ eY au (a:=A0) ck rfl
def H920:Ow 351 920:=aO bZ eY au (a:=Gu) ck rfl
def H950:Ow 383 950:=aO bZ eY au (a:=Ar) ck rfl
def H957:Ow 389 957:=aO bZ eY au (a:=z7) ck rfl
def H1021:Ow 368 1021:=aO bZ eY au (a:=DT) ck rfl
def H1036:Ow 320 1036:=aO bZ eY au (a:=xT) ck rfl
def H1098:Ow 343 1098:=aO bZ eY au (a:=xS) ck rfl
def H1126:Ow 363 1126:=aO bZ eY au (a:=m7) ck rfl
def H1145:Ow 367 1145:=aO bZ eY au (a:=vo) ck rfl
end
section
variable [cI]
def H71:Ow 58 71:=aM rfl λr hp0=>aw au ck rfl (w71 aG Li E3 G218 G219 r hp0)
def H91:Ow 8 91:=aM rfl λm shop e os hp0=>aw au ck rfl (w91 aG G114 G147 G267 G268 G269 m shop e os hp0)
def H112:Ow 19 112:=aM rfl (aw au ck rfl (w112 aG))
def H142:Ow 32 142:=aM rfl λl hp0=>aw au ck rfl (w142 aG G353 G354 l hp0)
def H159:Ow 57 159:=aM rfl λl i=>aw au ck rfl (w159 aG l i)
def H184:Ow 169 184:=aM rfl λc l hp0=>aw au ck rfl (w184 aG G416 c l hp0)
def H215:Ow 226 215:=aM rfl λr hp0=>aw au ck rfl (w215 aG G242 G450 G451 G452 r hp0)
def H221:Ow 16 221:=aM rfl λs=>aw au ck rfl (w221 aG G464 s)
def H273:Ow 34 273:=aM rfl λw c hp0=>aw au ck rfl (w273 aG G175 G510 w c hp0)
def H298:Ow 56 298:=MM rfl D298 λg l hp0 hp1=>Ak 2 au ck rfl rfl (w298 aG Lh g l hp0 hp1)
def H316:Ow 152 316:=aM rfl λv hp0=>aw au ck rfl (w316 aG E3 G554 v hp0)
def H355:Ow 78 355:=aM rfl λx s=>aw au ck rfl (w355 aG x s)
def H361:Ow 67 361:=aM rfl λl nm=>aw au ck rfl (w361 aG G359 l nm)
def H409:Ow 75 409:=aM rfl λc n hp0=>aw au ck rfl (w409 aG G622 c n hp0)
def H441:Ow 121 441:=aM rfl λs hp0=>aw au ck rfl (w441 aG G442 Wg G658 G659 s hp0)
def H454:Ow 145 454:=aM rfl λc=>aw au ck rfl (w454 aG c)
def H461:Ow 153 461:=aM rfl λw hp0=>aw au ck rfl (w461 aG G249 w hp0)
def H486:Ow 94 486:=aM rfl λa b=>aw au ck rfl (w486 aG a b)
def H505:Ow 69 505:=aM rfl λm od c hp0=>aw au ck rfl (w505 aG G692 G693 G694 m od c (G505u (Nat.le_of_eq Sl.symm)) hp0)
def H529:Ow 39 529:=aM rfl λx nm=>aw au ck rfl (w529 aG x nm)
def H535:Ow 95 535:=MM rfl D535 λg own hp0=>Ak 2 au ck rfl rfl (w535 aG Lh G135 G297 g own hp0)
def H549:Ow 41 549:=aM rfl λx hp0=>aw au ck rfl (w549 aG G242 G451 G497 G548 x hp0)
def H580:Ow 103 580:=aM rfl λl nm v hp0=>aw au ck rfl (w580 aG G501 l nm v hp0)
def H618:Ow 262 618:=aM rfl λc n hp0=>aw au ck rfl (w618 aG E3 G777 G778 c n hp0)
def H630:Ow 246 630:=aM rfl λa b=>aw au ck rfl (w630 aG a b)
def H667:Ow 193 667:=aM rfl λs=>aw au ck rfl (w667 aG G454 s)
def H686:Ow 86 686:=aM rfl λk hp0=>aw au ck rfl (w686 aG k hp0)
def H701:Ow 133 701:=aM rfl λa b hp0=>aw au ck rfl (w701 aG A6 G295 a b hp0)
def H748:Ow 160 748:=Bp rfl λy ns k hp0 hp1 nx lf ln lr m K h1 h2 h3 hne hat hK=>nR (Ch (rest:=[Key.D k]) rfl) rfl au ck rfl h1 h2 h3 hne hat hK (w748 aG y ns k G751 G752 G753 hp0 hp1)
def H754:Ow 166 754:=aM rfl λall r e hp0=>aw au ck rfl (w754 aG G903 G907 G908 all r e hp0)
def H782:Ow 222 782:=aM rfl λl v hp0=>aw au ck rfl (w782 aG G916 G926 l v hp0)
def H830:Ow 170 830:=aM rfl λod u n hp0=>aw au ck rfl (w830 aG od u n hp0)
def H904:Ow 213 904:=aM rfl λr e o hp0=>aw au ck rfl (w904 aG G907 afz r e o hp0)
def H924:Ow 223 924:=aM rfl λc=>aw au ck rfl (w924 aG c)
def H1009:Ow 254 1009:=aM rfl λn hp0=>aw au ck rfl (w1009 aG G908 G1080 n hp0)
def H1020:Ow 300 1020:=aM rfl λa b hp0=>aw au ck rfl (w1020 aG Wf G630 Wb a b hp0)
def H1083:Ow 293 1083:=aM rfl λshop ps nm hp0=>aw au ck rfl (w1083 aG G145 G359 G1120 G1121 shop ps nm hp0)
def H1219:Ow 3 1219:=aM rfl λys ss os n=>aw au ck rfl (w1219 aG G28 G29 G90 G91 G98 G101 G119 G294 G315 ys ss os n)
def H377:Ow 250 377:=aO bZ eY au (a:=vj) ck rfl
def H447:Ow 307 447:=aO bZ eY au (a:=rE) ck rfl
def H496:Ow 332 496:=aO bZ eY au (a:=vv) ck rfl
def H603:Ow 289 603:=aO bZ eY au (a:=AN) ck rfl
def H670:Ow 196 670:=aO bZ eY au (a:=u7) ck rfl
def H682:Ow 353 682:=aO bZ eY au (a:=wS) ck rfl
def H771:Ow 346 771:=aO bZ eY au (a:=Gt) ck rfl
def H813:Ow 237 813:=aO bZ eY au (a:=u6) ck rfl
def H897:Ow 203 897:=aO bZ eY au (a:=x7) ck rfl
def H908:Ow 217 908:=aO bZ eY au (a:=AJ) ck rfl
def H947:Ow 380 947:=aO bZ eY au (a:=n5) ck rfl
def H953:Ow 278 953:=aO bZ eY au (a:=AG) ck rfl
def H1008:Ow 243 1008:=aO bZ eY au (a:=sV) ck rfl
def H1033:Ow 317 1033:=aO bZ eY au (a:=m9) ck rfl
def H1082:Ow 292 1082:=aO bZ eY au (a:=DZ) ck rfl
def H1118:Ow 323 1118:=aO bZ eY au (a:=vc) ck rfl
def H1139:Ow 349 1139:=aO bZ eY au (a:=AR) ck rfl
end
end Go.Abs
