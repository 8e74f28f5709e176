/- A part of the proofs. -/
import Derived.Test.YtgdpmljblomcfaaGreatDoorP05
import Derived.Test.YtgdpmljblomcfaaGreatDoorP06
import Derived.Test.YtgdpmljblomcfaaGreatDoorP07
import Derived.Test.YtgdpmljblomcfaaGreatDoorP08
import Derived.Test.YtgdpmljblomcfaaGreatDoorP09
import Derived.Test.YtgdpmljblomcfaaGreatDoorP10
import Derived.Test.YtgdpmljblomcfaaGreatDoorP11
import Derived.Test.YtgdpmljblomcfaaGreatDoorP12
import Derived.Test.YtgdpmljblomcfaaGreatDoorP13
import Derived.Test.YtgdpmljblomcfaaGreatDoorP18
set_option linter.all false
set_option maxRecDepth 60000
set_option maxHeartbeats 2000000
namespace Go.Abs
section
section
variable [cN]
def H28:Ow 5 28:=aI rfl fun ks=>au ar ck rfl (w28 aF Kv G110 G111 G112 G135 G136 ks)
def H72:Ow 164 72:=aI rfl fun r hp0=>au ar ck rfl (w72 aF G70 G215 r hp0)
def H91:Ow 8 91:=aI rfl fun m shop e os hp0=>au ar ck rfl (w91 aF G114 G147 G267 G268 G269 m shop e os hp0)
def H111:Ow 17 111:=aI rfl (au ar ck rfl (w111 aF))
def H142:Ow 32 142:=aI rfl fun l hp0=>au ar ck rfl (w142 aF G353 G354 l hp0)
def H158:Ow 99 158:=aI rfl fun w u hp0=>au ar ck rfl (w158 aF G381 w u hp0)
def H184:Ow 149 184:=aI rfl fun c l hp0=>au ar ck rfl (w184 aF G416 c l hp0)
def H211:Ow 241 211:=aI rfl fun r name rng hp0=>au ar ck rfl (w211 aF Vh G444 r name rng hp0)
def H219:Ow 84 219:=aI rfl fun r hp0=>au ar ck rfl (w219 aF G249 G316 G461 G462 r hp0)
def H266:Ow 20 266:=OO rfl D266 fun g l hp0 hp1=>Cu 2 ar ck rfl rfl (w266 aF Kv G110 G111 G112 G503 G504 g l hp0 hp1)
def H272:Ow 29 272:=aI rfl fun shop e w l hp0=>au ar ck rfl (w272 aF G52 G186 G271 shop e w l hp0)
def H298:Ow 39 298:=OO rfl D298 fun g l hp0 hp1=>Cu 2 ar ck rfl rfl (w298 aF Kv g l hp0 hp1)
def H353:Ow 67 353:=aI rfl fun s hp0=>au ar ck rfl (w353 aF G74 Vh G511 s hp0)
def H359:Ow 90 359:=aI rfl fun l nm=>au ar ck rfl (w359 aF l nm)
def H403:Ow 101 403:=aI rfl fun w i hp0=>au ar ck rfl (w403 aF SR G617 G618 w i hp0)
def H417:Ow 107 417:=aI rfl fun w c u hp0=>au ar ck rfl (w417 aF G628 G629 w c u hp0)
def H443:Ow 274 443:=aI rfl fun r w al hp0=>au ar ck rfl (w443 aF G211 Vj r w al hp0)
def H456:Ow 126 456:=aI rfl fun s p hp0=>au ar ck rfl (w456 aF G470 G666 G667 G668 s p hp0)
def H463:Ow 209 463:=aI rfl fun h k hp0=>au ar ck rfl (w463 aF h k hp0)
def H504:Ow 45 504:=aI rfl fun s r hp0=>au ar ck rfl (w504 aF G75 Vl G580 s r hp0)
def H510:Ow 121 510:=aI rfl fun w c hp0=>au ar ck rfl (w510 aF w c hp0)
def H533:Ow 115 533:=aI rfl fun s b hp0=>au ar ck rfl (w533 aF s b hp0)
def H580:Ow 87 580:=aI rfl fun l nm v hp0=>au ar ck rfl (w580 aF G501 l nm v hp0)
def H618:Ow 156 618:=aI rfl fun c n hp0=>au ar ck rfl (w618 aF BW G777 G778 c n hp0)
def H629:Ow 100 629:=aI rfl fun w c x hp0=>au ar ck rfl (w629 aF G627 w c x hp0)
def H666:Ow 171 666:=aI rfl fun t=>au ar ck rfl (w666 aF t)
def H689:Ow 72 689:=aI rfl fun l b x hp0=>au ar ck rfl (w689 aF G690 G691 l b x hp0)
def H695:Ow 102 695:=aI rfl fun s nm v hp0=>au ar ck rfl (w695 aF Vl G580 s nm v hp0)
def H701:Ow 168 701:=aI rfl fun a b hp0=>au ar ck rfl (w701 aF BV Vi a b hp0)
def H749:Ow 141 749:=aI rfl fun l k hp0=>au ar ck rfl (w749 aF G902 l k hp0)
def H755:Ow 147 755:=xQ rfl fun y ns nm hp0 hp1 nx lf ln lr m K h1 h2 h3 hne hat hK=>nQ (B1 (rest:=[.str nm]) rfl) rfl ar ck rfl h1 h2 h3 hne hat hK (w755 aF y ns nm G909 hp0 hp1)
def H783:Ow 237 783:=aI rfl fun a b=>au ar ck rfl (w783 aF G630 G667 G668 G927 a b)
def H831:Ow 151 831:=aI rfl fun l o=>au ar ck rfl (w831 aF l o)
def H905:Ow 193 905:=aI rfl fun l nm=>au ar ck rfl (w905 aF G955 l nm)
def H925:Ow 206 925:=aI rfl fun l hp0=>au ar ck rfl (w925 aF aep aeq l hp0)
def H1012:Ow 230 1012:=aI rfl fun l nm hp0=>au ar ck rfl (w1012 aF G143 G356 l nm hp0)
def H1023:Ow 238 1023:=aI rfl fun s hp0=>au ar ck rfl (w1023 aF aeq Vf s hp0)
def H1084:Ow 266 1084:=aI rfl fun s nm hp0=>au ar ck rfl (w1084 aF Vl SR s nm hp0)
def H212:Ow 242 212:=aK cj eN ar (a:=ry) ck rfl
def H379:Ow 225 379:=aK cj eN ar (a:=vc) ck rfl
def H449:Ow 280 449:=aK cj eN ar (a:=rl) ck rfl
def H598:Ow 296 598:=aK cj eN ar (a:=ye) ck rfl
def H660:Ow 302 660:=aK cj eN ar (a:=oO) ck rfl
def H672:Ow 177 672:=aK cj eN ar (a:=ya) ck rfl
def H685:Ow 325 685:=aK cj eN ar (a:=AM) ck rfl
def H808:Ow 327 808:=aK cj eN ar (a:=mP) ck rfl
def H819:Ow 342 819:=aK cj eN ar (a:=zQ) ck rfl
def H899:Ow 184 899:=aK cj eN ar (a:=DJ) ck rfl
def H919:Ow 319 919:=aK cj eN ar (a:=Ay) ck rfl
def H949:Ow 358 949:=aK cj eN ar (a:=oM) ck rfl
def H956:Ow 367 956:=aK cj eN ar (a:=uO) ck rfl
def H1011:Ow 229 1011:=aK cj eN ar (a:=FY) ck rfl
def H1035:Ow 288 1035:=aK cj eN ar (a:=x8) ck rfl
def H1097:Ow 311 1097:=aK cj eN ar (a:=oe) ck rfl
def H1122:Ow 297 1122:=aK cj eN ar (a:=Dy) ck rfl
def H1144:Ow 338 1144:=aK cj eN ar (a:=AF) ck rfl
end
end
section
section
variable [cN]
def H52:Ow 57 52:=aI rfl fun w c hp0=>au ar ck rfl (w52 aF G170 G186 w c hp0)
def H75:Ow 88 75:=aI rfl fun r hp0=>au ar ck rfl (w75 aF G73 G221 r hp0)
def H94:Ow 11 94:=aI rfl fun shop e w l hp0=>au ar ck rfl (w94 aF G153 G264 G265 G271 G272 shop e w l hp0)
def H135:Ow 18 135:=aI rfl (au ar ck rfl (w135 aF))
def H145:Ow 47 145:=aI rfl fun l hp0=>au ar ck rfl (w145 aF Vl G359 l hp0)
def H170:Ow 56 170:=aI rfl fun w c hp0=>au ar ck rfl (w170 aF G169 w c hp0)
def H208:Ow 118 208:=aI rfl fun s=>au ar ck rfl (w208 aF s)
def H216:Ow 81 216:=aI rfl fun s=>au ar ck rfl (w216 aF G453 G454 s)
def H249:Ow 134 249:=aI rfl fun l x hp0=>au ar ck rfl (w249 aF l x hp0)
def H269:Ow 26 269:=aI rfl fun w c hp0 hp1=>au ar ck rfl (w269 aF G506 w c hp0 hp1)
def H295:Ow 65 295:=aI rfl fun a b hp0=>au ar ck rfl (w295 aF BV G530 G531 G532 G533 G534 a b hp0)
def H344:Ow 42 344:=aI rfl fun l=>au ar ck rfl (w344 aF GC l)
def H356:Ow 89 356:=aI rfl fun l nm=>au ar ck rfl (w356 aF l nm)
def H362:Ow 51 362:=xQ rfl fun y hp0 nx lf m K h1 hat hK=>ZR ar ck rfl h1 hat hK (w362 aF y G582 G583 hp0)
def H410:Ow 36 410:=aI rfl fun w c hp0=>au ar ck rfl (w410 aF G273 G623 G624 w c hp0)
def H440:Ow 110 440:=aI rfl fun n=>au ar ck rfl (w440 aF n)
def H453:Ow 123 453:=aI rfl fun c=>au ar ck rfl (w453 aF c)
def H460:Ow 130 460:=aI rfl fun r of hp0=>au ar ck rfl (w460 aF G672 G673 G674 r of hp0)
def H501:Ow 137 501:=aI rfl fun a b hp0=>au ar ck rfl (w501 aF BW SR a b hp0)
def H507:Ow 58 507:=aI rfl fun w c nm hp0=>au ar ck rfl (w507 aF w c nm hp0)
def H530:Ow 113 530:=aI rfl fun v=>au ar ck rfl (w530 aF v)
def H536:Ow 80 536:=aI rfl fun l s=>au ar ck rfl (w536 aF l s)
def H583:Ow 94 583:=xQ rfl fun y ns all k hp0 hp1 nx lf ln lr m K h1 h2 h3 hne hat hK=>nQ (B1 (rest:=[.sl 2 (all.map Key.D),Key.D k]) rfl) rfl ar ck rfl h1 h2 h3 hne hat hK (w583 aF y ns all k G750 G751 G752 G753 G754 G755 hp0 hp1)
def H624:Ow 78 624:=aI rfl fun w c x hp0=>au ar ck rfl (w624 aF G712 w c x hp0)
def H658:Ow 160 658:=aI rfl fun s=>au ar ck rfl (w658 aF s)
def H669:Ow 174 669:=aI rfl fun r w al hp0=>au ar ck rfl (w669 aF GC G572 G812 r w al hp0)
def H692:Ow 95 692:=aI rfl fun m al c hp0=>au ar ck rfl (w692 aF G184 G829 m al c hp0)
def H698:Ow 106 698:=aI rfl fun shop c x hp0=>au ar ck rfl (w698 aF G508 shop c x hp0)
def H714:Ow 162 714:=aI rfl fun x=>au ar ck rfl (w714 aF x)
def H752:Ow 144 752:=xQ rfl fun y ns k hp0 hp1 nx lf ln lr m K h1 h2 h3 hne hat hK=>nQ (B1 (rest:=[Key.D k]) rfl) rfl ar ck rfl h1 h2 h3 hne hat hK (w752 aF y ns k G755 G816 hp0 hp1)
def H778:Ow 202 778:=aI rfl fun w n hp0=>au ar ck rfl (w778 aF G770 w n hp0)
def H816:Ow 191 816:=aI rfl fun l nm=>au ar ck rfl (w816 aF G955 l nm)
def H902:Ow 188 902:=aI rfl fun a b=>au ar ck rfl (w902 aF a b)
def H916:Ow 234 916:=aI rfl fun l hp0=>au ar ck rfl (w916 aF Vc Vd l hp0)
def H955:Ow 226 955:=aI rfl fun l nm=>au ar ck rfl (w955 aF l nm)
def H1015:Ow 233 1015:=aI rfl fun y ns r hp0=>au ar ck rfl (w1015 aF G501 y ns r hp0)
def H1055:Ow 249 1055:=aI rfl fun c v hp0=>au ar ck rfl (w1055 aF BV Vi Vf c v hp0)
def H1120:Ow 294 1120:=aI rfl fun l=>au ar ck rfl (w1120 aF GC l)
def H376:Ow 222 376:=aK cj eN ar (a:=u7) ck rfl
def H446:Ow 277 446:=aK cj eN ar (a:=xw) ck rfl
def H495:Ow 299 495:=aK cj eN ar (a:=vj) ck rfl
def H602:Ow 260 602:=aK cj eN ar (a:=Av) ck rfl
def H663:Ow 307 663:=aK cj eN ar (a:=sb) ck rfl
def H678:Ow 254 678:=aK cj eN ar (a:=AE) ck rfl
def H769:Ow 290 769:=aK cj eN ar (a:=At) ck rfl
def H811:Ow 330 811:=aK cj eN ar (a:=Ac) ck rfl
def H896:Ow 181 896:=aK cj eN ar (a:=AH) ck rfl
def H907:Ow 195 907:=aK cj eN ar (a:=Dv) ck rfl
def H946:Ow 355 946:=aK cj eN ar (a:=oN) ck rfl
def H952:Ow 250 952:=aK cj eN ar (a:=lh) ck rfl
def H1007:Ow 217 1007:=aK cj eN ar (a:=DF) ck rfl
def H1032:Ow 285 1032:=aK cj eN ar (a:=mU) ck rfl
def H1081:Ow 263 1081:=aK cj eN ar (a:=sI) ck rfl
def H1100:Ow 314 1100:=aK cj eN ar (a:=x9) ck rfl
def H1138:Ow 317 1138:=aK cj eN ar (a:=AB) ck rfl
def H1148:Ow 366 1148:=aK cj eN ar (a:=yi) ck rfl
end
end
end Go.Abs
