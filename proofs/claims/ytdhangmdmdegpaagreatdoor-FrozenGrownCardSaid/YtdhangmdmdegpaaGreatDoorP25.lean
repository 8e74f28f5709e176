/- A part of the proofs. -/
import Derived.Test.YtdhangmdmdegpaaGreatDoorP10
import Derived.Test.YtdhangmdmdegpaaGreatDoorP11
import Derived.Test.YtdhangmdmdegpaaGreatDoorP12
import Derived.Test.YtdhangmdmdegpaaGreatDoorP13
import Derived.Test.YtdhangmdmdegpaaGreatDoorP14
import Derived.Test.YtdhangmdmdegpaaGreatDoorP15
import Derived.Test.YtdhangmdmdegpaaGreatDoorP16
import Derived.Test.YtdhangmdmdegpaaGreatDoorP17
import Derived.Test.YtdhangmdmdegpaaGreatDoorP18
import Derived.Test.YtdhangmdmdegpaaGreatDoorP23
set_option linter.all false
set_option maxRecDepth 60000
set_option maxHeartbeats 2000000
namespace Go.Abs
section
variable [cO]
def H25:Ow 11 25:=aL rfl λv n hp0=>av au ck rfl (w25 aI v n hp0)
def H71:Ow 55 71:=aL rfl λr hp0=>av au ck rfl (w71 aI LJ Fx G218 G219 r hp0)
def H89:Ow 4 89:=aL rfl (av au ck rfl (w89 aI G29 G264 G265))
def H111:Ow 24 111:=aL rfl (av au ck rfl (w111 aI))
def H138:Ow 44 138:=aL rfl λe=>av au ck rfl (w138 aI WZ e)
def H158:Ow 105 158:=aL rfl λw u hp0=>av au ck rfl (w158 aI G381 w u hp0)
def H184:Ow 153 184:=aL rfl λc l hp0=>av au ck rfl (w184 aI G416 c l hp0)
def H214:Ow 261 214:=aL rfl λr s hp0=>av au ck rfl (w214 aI G448 r s hp0)
def H220:Ow 181 220:=aL rfl λs=>av au ck rfl (w220 aI G463 s)
def H264:Ow 17 264:=aL rfl λshop e w l hp0=>av au ck rfl (w264 aI G138 G142 G175 G315 G502 shop e w l hp0)
def H270:Ow 32 270:=aL rfl λshop e w c hp0=>av au ck rfl (w270 aI G52 G144 G145 G169 G170 G507 G508 shop e w c hp0)
def H298:Ow 53 298:=Qf rfl D298 λg l hp0 hp1=>Da 2 au ck rfl rfl (w298 aI LI g l hp0 hp1)
def H345:Ow 57 345:=aL rfl λl hp0=>av au ck rfl (w345 aI LJ G572 l hp0)
def H357:Ow 74 357:=aL rfl λs=>av au ck rfl (w357 aI G453 G454 s)
def H375:Ow 209 375:=aL rfl (av au ck rfl (w375 aI))
def H415:Ow 156 415:=aL rfl λw x hp0=>av au ck rfl (w415 aI G381 G627 w x hp0)
def H442:Ow 128 442:=aL rfl λs hp0=>av au ck rfl (w442 aI G533 s hp0)
def H455:Ow 140 455:=aL rfl λn=>av au ck rfl (w455 aI n)
def H462:Ow 148 462:=aL rfl λs hp0=>av au ck rfl (w462 aI s hp0)
def H502:Ow 46 502:=zH rfl λshop w x c kvs hp0 hp1 nx lm lc m K hlc hlm h1 h2 hK=>U5 (cg (λ_=>rfl) _) (cg (λ_=>rfl) _) rfl rfl rfl rfl au ck rfl hp0.2.symm hlc hlm h1 h2 hK (λ_ _ h=>h) (w502 aI shop w x c kvs G274 G689 hp0 hp1)
def H508:Ow 65 508:=aL rfl λs nm v hp0=>av au ck rfl (w508 aI G695 s nm v hp0)
def H532:Ow 130 532:=aL rfl λa b=>av au ck rfl (w532 aI G714 a b)
def H554:Ow 195 554:=aL rfl λv hp0=>av au ck rfl (w554 aI G734 v hp0)
def H600:Ow 243 600:=aL rfl λv=>av au ck rfl (w600 aI v)
def H627:Ow 158 627:=aL rfl λs v hp0=>av au ck rfl (w627 aI Fx G770 G782 s v hp0)
def H659:Ow 177 659:=aL rfl λt=>av au ck rfl (w659 aI t)
def H673:Ow 193 673:=aL rfl λr x=>av au ck rfl (w673 aI r x)
def H693:Ow 102 693:=aL rfl λm al c hp0=>av au ck rfl (w693 aI G184 G829 m al c hp0)
def H704:Ow 175 704:=aL rfl λx=>av au ck rfl (w704 aI x)
def H750:Ow 118 750:=aL rfl λall l hp0=>av au ck rfl (w750 aI G903 all l hp0)
def H770:Ow 203 770:=aL rfl λs hp0=>av au ck rfl (w770 aI G916 G917 s hp0)
def H812:Ow 229 812:=aL rfl λl al=>av au ck rfl (w812 aI G357 G815 l al)
def H861:Ow 185 861:=aL rfl λl v hp0=>av au ck rfl (w861 aI G925 G980 l v hp0)
def H906:Ow 171 906:=aL rfl λr e nm ft hp0=>av au ck rfl (w906 aI G907 G908 agq r e nm ft hp0)
def H926:Ow 240 926:=aL rfl λs v hp0=>av au ck rfl (w926 aI Fx WT G1025 s v hp0)
def H1013:Ow 220 1013:=aL rfl λshop ps nm hp0=>av au ck rfl (w1013 aI agu G1084 shop ps nm hp0)
def H1024:Ow 256 1024:=aL rfl λa b hp0=>av au ck rfl (w1024 aI WY G532 WW a b hp0)
def H1086:Ow 299 1086:=aL rfl λc hp0=>av au ck rfl (w1086 aI Fx c hp0)
def H1222:Ow 13 1222:=aL rfl λa b hp0=>av au ck rfl (w1222 aI G263 Uo a b hp0)
def H376:Ow 210 376:=aN ch fh au (a:=vG) ck rfl
def H446:Ow 290 446:=aN ch fh au (a:=xT) ck rfl
def H495:Ow 309 495:=aN ch fh au (a:=vO) ck rfl
def H602:Ow 245 602:=aN ch fh au (a:=A1) ck rfl
def H663:Ow 317 663:=aN ch fh au (a:=sC) ck rfl
def H678:Ow 269 678:=aN ch fh au (a:=A9) ck rfl
def H769:Ow 276 769:=aN ch fh au (a:=AZ) ck rfl
def H811:Ow 337 811:=aN ch fh au (a:=AI) ck rfl
def H896:Ow 196 896:=aN ch fh au (a:=Bc) ck rfl
def H907:Ow 172 907:=aN ch fh au (a:=Ea) ck rfl
def H946:Ow 359 946:=aN ch fh au (a:=pA) ck rfl
def H952:Ow 248 952:=aN ch fh au (a:=lI) ck rfl
def H1007:Ow 234 1007:=aN ch fh au (a:=El) ck rfl
def H1032:Ow 277 1032:=aN ch fh au (a:=nw) ck rfl
def H1081:Ow 250 1081:=aN ch fh au (a:=sX) ck rfl
def H1100:Ow 322 1100:=aN ch fh au (a:=yv) ck rfl
def H1138:Ow 304 1138:=aN ch fh au (a:=A7) ck rfl
def H1148:Ow 345 1148:=aN ch fh au (a:=yE) ck rfl
end
section
variable [cO]
def H46:Ow 61 46:=aL rfl λw hp0=>av au ck rfl (w46 aI G158 G183 w hp0)
def H74:Ow 135 74:=aL rfl λr hp0=>av au ck rfl (w74 aI G72 G220 r hp0)
def H92:Ow 9 92:=aL rfl λshop e w c hp0=>av au ck rfl (w92 aI G270 shop e w c hp0)
def H117:Ow 20 117:=aL rfl λa b=>av au ck rfl (w117 aI G310 a b)
def H144:Ow 39 144:=aL rfl λe=>av au ck rfl (w144 aI G357 e)
def H170:Ow 48 170:=aL rfl λw c hp0=>av au ck rfl (w170 aI G169 w c hp0)
def H209:Ow 78 209:=aL rfl λv hp0=>av au ck rfl (w209 aI G440 G441 G442 v hp0)
def H217:Ow 97 217:=aL rfl λv hp0=>av au ck rfl (w217 aI G455 G456 v hp0)
def H226:Ow 115 226:=aL rfl λa b=>av au ck rfl (w226 aI a b)
def H267:Ow 29 267:=aL rfl λw od hp0=>av au ck rfl (w267 aI G46 G505 w od hp0)
def H295:Ow 79 295:=aL rfl λa b hp0=>av au ck rfl (w295 aI Cy G530 G531 G532 G533 G534 a b hp0)
def H315:Ow 45 315:=aL rfl λl hp0=>av au ck rfl (w315 aI G138 G553 l hp0)
def H354:Ow 82 354:=aL rfl λl s=>av au ck rfl (w354 aI G355 l s)
def H360:Ow 12 360:=aL rfl λl hp0=>av au ck rfl (w360 aI G143 G581 l hp0)
def H408:Ow 77 408:=aL rfl λa b=>av au ck rfl (w408 aI G516 G531 a b)
def H424:Ow 161 424:=aL rfl λa b hp0=>av au ck rfl (w424 aI Fx G630 G631 a b hp0)
def H451:Ow 263 451:=aL rfl λv hp0=>av au ck rfl (w451 aI Cy G665 v hp0)
def H458:Ow 143 458:=aL rfl λr b hp0=>av au ck rfl (w458 aI LJ G572 G670 r b hp0)
def H470:Ow 186 470:=aL rfl λs b hp0=>av au ck rfl (w470 aI s b hp0)
def H505:Ow 60 505:=aL rfl λm od c hp0=>av au ck rfl (w505 aI G692 G693 G694 m od c (G505u (Nat.le_of_eq S4.symm)) hp0)
def H516:Ow 125 516:=aL rfl λa b=>av au ck rfl (w516 aI G704 a b)
def H535:Ow 95 535:=Qf rfl D535 λg own hp0=>Da 2 au ck rfl rfl (w535 aI LI G135 G297 g own hp0)
def H582:Ow 75 582:=zH rfl λy ns hp0 hp1 nx lf ln lr m K h1 h2 h3 hne hat hK=>ot (CF (rest:=[]) rfl) (VJ _) au ck rfl h1 h2 h3 hne hat hK (w582 aI y ns G748 G749 hp0 hp1)
def H622:Ow 133 622:=aL rfl λl n hp0=>av au ck rfl (w622 aI G780 l n hp0)
def H630:Ow 207 630:=aL rfl λa b=>av au ck rfl (w630 aI a b)
def H667:Ow 188 667:=aL rfl λs=>av au ck rfl (w667 aI G454 s)
def H690:Ow 87 690:=aL rfl λc x hp0=>av au ck rfl (w690 aI c x hp0)
def H699:Ow 182 699:=aL rfl λl nm v hp0=>av au ck rfl (w699 aI G700 l nm v hp0)
def H734:Ow 232 734:=aL rfl λn hp0=>av au ck rfl (w734 aI G882 n hp0)
def H753:Ow 121 753:=aL rfl λr e ft hp0=>av au ck rfl (w753 aI G672 G904 G905 G906 agv r e ft hp0)
def H780:Ow 179 780:=aL rfl λs hp0=>av au ck rfl (w780 aI G924 G925 s hp0)
def H829:Ow 152 829:=aL rfl λal u p hp0=>av au ck rfl (w829 aI al u p hp0)
def H903:Ow 165 903:=aL rfl λl k=>av au ck rfl (w903 aI l k)
def H917:Ow 239 917:=aL rfl λc=>av au ck rfl (w917 aI G600 c)
def H980:Ow 228 980:=aL rfl λs v hp0=>av au ck rfl (w980 aI Cy ags G1055 s v hp0)
def H1019:Ow 272 1019:=aL rfl λs hp0=>av au ck rfl (w1019 aI WU WV s hp0)
def H1080:Ow 247 1080:=aL rfl λx hp0=>av au ck rfl (w1080 aI x hp0)
def H1121:Ow 73 1121:=aL rfl λs nm=>av au ck rfl (w1121 aI s nm)
def H212:Ow 259 212:=aN ch fh au (a:=rV) ck rfl
def H379:Ow 213 379:=aN ch fh au (a:=vI) ck rfl
def H449:Ow 293 449:=aN ch fh au (a:=rN) ck rfl
def H598:Ow 284 598:=aN ch fh au (a:=yA) ck rfl
def H660:Ow 312 660:=aN ch fh au (a:=pB) ck rfl
def H672:Ow 170 672:=aN ch fh au (a:=yw) ck rfl
def H685:Ow 332 685:=aN ch fh au (a:=Bj) ck rfl
def H808:Ow 334 808:=aN ch fh au (a:=nq) ck rfl
def H819:Ow 346 819:=aN ch fh au (a:=Ap) ck rfl
def H899:Ow 199 899:=aN ch fh au (a:=Ep) ck rfl
def H919:Ow 306 919:=aN ch fh au (a:=A4) ck rfl
def H949:Ow 362 949:=aN ch fh au (a:=pz) ck rfl
def H956:Ow 368 956:=aN ch fh au (a:=vr) ck rfl
def H1011:Ow 218 1011:=aN ch fh au (a:=GX) ck rfl
def H1035:Ow 280 1035:=aN ch fh au (a:=yu) ck rfl
def H1097:Ow 300 1097:=aN ch fh au (a:=oM) ck rfl
def H1122:Ow 285 1122:=aN ch fh au (a:=Ef) ck rfl
def H1144:Ow 325 1144:=aN ch fh au (a:=Ba) ck rfl
end
end Go.Abs
