/- A part of the proofs. -/
import Derived.Test.YtgdpmljblomcfaaGreatDoorP05
import Derived.Test.YtgdpmljblomcfaaGreatDoorP06
import Derived.Test.YtgdpmljblomcfaaGreatDoorP07
import Derived.Test.YtgdpmljblomcfaaGreatDoorP08
import Derived.Test.YtgdpmljblomcfaaGreatDoorP09
import Derived.Test.YtgdpmljblomcfaaGreatDoorP10
import Derived.Test.YtgdpmljblomcfaaGreatDoorP11
import Derived.Test.YtgdpmljblomcfaaGreatDoorP12
import Derived.Test.YtgdpmljblomcfaaGreatDoorP13
import Derived.Test.YtgdpmljblomcfaaGreatDoorP18
set_option linter.all false
set_option maxRecDepth 60000
set_option maxHeartbeats 2000000
namespace Go.Abs
section
section
variable [cN]
def H16:Ow 3 16:=aI rfl fun ys ss os n at1 wh by1 ts=>au ar ck rfl (w16 aF G28 G29 G89 G90 G91 G92 G93 G94 ys ss os n at1 wh by1 ts)
def H70:Ow 207 70:=aI rfl fun r hp0=>au ar ck rfl (w70 aF Vh BV G210 G211 G212 G213 G214 G215 r hp0)
def H89:Ow 4 89:=aI rfl (au ar ck rfl (w89 aF G29 G264 G265))
def H109:Ow 16 109:=OO rfl D109 fun g n hp0 hp1=>Cu 2 ar ck rfl rfl (w109 aF G25 G159 g n hp0 hp1)
def H136:Ow 19 136:=aI rfl fun m hp0=>au ar ck rfl (w136 aF G71 G344 G345 m hp0)
def H147:Ow 22 147:=aI rfl fun l shop e ks hp0=>au ar ck rfl (w147 aF G143 Vg G145 G360 G361 G362 l shop e ks hp0)
def H175:Ow 31 175:=aI rfl fun w hp0=>au ar ck rfl (w175 aF BV Vi G408 G409 w hp0)
def H209:Ow 64 209:=aI rfl fun v hp0=>au ar ck rfl (w209 aF G440 G441 G442 v hp0)
def H217:Ow 82 217:=aI rfl fun v hp0=>au ar ck rfl (w217 aF G455 G456 v hp0)
def H264:Ow 12 264:=aI rfl fun shop e w l hp0=>au ar ck rfl (w264 aF G138 G142 G175 G315 G502 shop e w l hp0)
def H270:Ow 27 270:=aI rfl fun shop e w c hp0=>au ar ck rfl (w270 aF G52 Vg G145 G169 G170 G507 G508 shop e w c hp0)
def H296:Ow 37 296:=OO rfl D296 fun g own hp0=>Cu 2 ar ck rfl rfl (w296 aF Kv G535 g own hp0)
def H345:Ow 43 345:=aI rfl fun l hp0=>au ar ck rfl (w345 aF GC G572 l hp0)
def H357:Ow 91 357:=aI rfl fun s=>au ar ck rfl (w357 aF G453 G454 s)
def H375:Ow 221 375:=aI rfl (au ar ck rfl (w375 aF))
def H415:Ow 152 415:=aI rfl fun w x hp0=>au ar ck rfl (w415 aF G381 G627 w x hp0)
def H441:Ow 111 441:=aI rfl fun s hp0=>au ar ck rfl (w441 aF G442 G533 G658 G659 s hp0)
def H454:Ow 124 454:=aI rfl fun c=>au ar ck rfl (w454 aF c)
def H461:Ow 132 461:=aI rfl fun w hp0=>au ar ck rfl (w461 aF G249 w hp0)
def H502:Ow 35 502:=xQ rfl fun shop w x c kvs hp0 hp1 nx lm lc m K hlc hlm h1 h2 hK=>Tr (bH (fun _=>rfl) _) (bH (fun _=>rfl) _) rfl rfl rfl rfl ar ck rfl hp0.2.symm hlc hlm h1 h2 hK (fun _ _ h=>h) (w502 aF shop w x c kvs G274 G689 hp0 hp1)
def H508:Ow 59 508:=aI rfl fun s nm v hp0=>au ar ck rfl (w508 aF G695 s nm v hp0)
def H531:Ow 108 531:=aI rfl fun l=>au ar ck rfl (w531 aF l)
def H553:Ow 71 553:=aI rfl fun x hp0=>au ar ck rfl (w553 aF Vh BV Vj x hp0)
def H600:Ow 258 600:=aI rfl fun v=>au ar ck rfl (w600 aF v)
def H627:Ow 154 627:=aI rfl fun s v hp0=>au ar ck rfl (w627 aF BW G770 G782 s v hp0)
def H659:Ow 161 659:=aI rfl fun t=>au ar ck rfl (w659 aF t)
def H673:Ow 178 673:=aI rfl fun r x=>au ar ck rfl (w673 aF r x)
def H693:Ow 96 693:=aI rfl fun m al c hp0=>au ar ck rfl (w693 aF G184 G829 m al c hp0)
def H699:Ow 166 699:=aI rfl fun l nm v hp0=>au ar ck rfl (w699 aF G700 l nm v hp0)
def H734:Ow 215 734:=aI rfl fun n hp0=>au ar ck rfl (w734 aF G882 n hp0)
def H753:Ow 145 753:=aI rfl fun r e ft hp0=>au ar ck rfl (w753 aF G672 G904 G905 G906 aer r e ft hp0)
def H780:Ow 163 780:=aI rfl fun s hp0=>au ar ck rfl (w780 aF G924 G925 s hp0)
def H829:Ow 148 829:=aI rfl fun al u p hp0=>au ar ck rfl (w829 aF al u p hp0)
def H903:Ow 189 903:=aI rfl fun l k=>au ar ck rfl (w903 aF l k)
def H917:Ow 235 917:=aI rfl fun c=>au ar ck rfl (w917 aF G600 c)
def H980:Ow 210 980:=aI rfl fun s v hp0=>au ar ck rfl (w980 aF BV aep G1055 s v hp0)
def H1019:Ow 269 1019:=aI rfl fun s hp0=>au ar ck rfl (w1019 aF Vd Ve s hp0)
def H1080:Ow 262 1080:=aI rfl fun x hp0=>au ar ck rfl (w1080 aF x hp0)
def H1121:Ow 295 1121:=aI rfl fun s nm=>au ar ck rfl (w1121 aF s nm)
def H377:Ow 223 377:=aK cj eN ar (a:=va) ck rfl
def H447:Ow 278 447:=aK cj eN ar (a:=rm) ck rfl
def H496:Ow 300 496:=aK cj eN ar (a:=vl) ck rfl
def H603:Ow 261 603:=aK cj eN ar (a:=Aw) ck rfl
def H670:Ow 175 670:=aK cj eN ar (a:=uW) ck rfl
def H682:Ow 322 682:=aK cj eN ar (a:=wU) ck rfl
def H771:Ow 315 771:=aK cj eN ar (a:=FV) ck rfl
def H813:Ow 212 813:=aK cj eN ar (a:=uV) ck rfl
def H897:Ow 182 897:=aK cj eN ar (a:=yf) ck rfl
def H908:Ow 196 908:=aK cj eN ar (a:=As) ck rfl
def H947:Ow 356 947:=aK cj eN ar (a:=nX) ck rfl
def H953:Ow 251 953:=aK cj eN ar (a:=Ap) ck rfl
def H1008:Ow 218 1008:=aK cj eN ar (a:=sM) ck rfl
def H1033:Ow 286 1033:=aK cj eN ar (a:=mV) ck rfl
def H1082:Ow 264 1082:=aK cj eN ar (a:=DH) ck rfl
def H1118:Ow 291 1118:=aK cj eN ar (a:=uY) ck rfl
def H1139:Ow 318 1139:=aK cj eN ar (a:=AA) ck rfl
end
end
section
section
variable [cN]
def H29:Ow 7 29:=aI rfl fun n=>au ar ck rfl (w29 aF G25 n)
def H73:Ow 138 73:=aI rfl fun r hp0=>au ar ck rfl (w73 aF G71 G219 r hp0)
def H92:Ow 9 92:=aI rfl fun shop e w c hp0=>au ar ck rfl (w92 aF G270 shop e w c hp0)
def H112:Ow 15 112:=aI rfl (au ar ck rfl (w112 aF))
def H143:Ow 46 143:=aI rfl fun l hp0=>au ar ck rfl (w143 aF G136 G356 l hp0)
def H159:Ow 40 159:=aI rfl fun l i=>au ar ck rfl (w159 aF l i)
def H186:Ow 62 186:=aI rfl fun w c hp0=>au ar ck rfl (w186 aF G170 G417 w c hp0)
def H214:Ow 244 214:=aI rfl fun r s hp0=>au ar ck rfl (w214 aF G448 r s hp0)
def H220:Ow 165 220:=aI rfl fun s=>au ar ck rfl (w220 aF G463 s)
def H267:Ow 24 267:=aI rfl fun w od hp0=>au ar ck rfl (w267 aF G46 G505 w od hp0)
def H273:Ow 76 273:=aI rfl fun w c hp0=>au ar ck rfl (w273 aF G175 G510 w c hp0)
def H315:Ow 34 315:=aI rfl fun l hp0=>au ar ck rfl (w315 aF G138 G553 l hp0)
def H354:Ow 68 354:=aI rfl fun l s=>au ar ck rfl (w354 aF G355 l s)
def H360:Ow 49 360:=aI rfl fun l hp0=>au ar ck rfl (w360 aF G143 G581 l hp0)
def H408:Ow 63 408:=aI rfl fun a b=>au ar ck rfl (w408 aF G516 G531 a b)
def H418:Ow 103 418:=aI rfl fun x hp0=>au ar ck rfl (w418 aF GC BW Vk x hp0)
def H450:Ow 245 450:=xQ rfl fun ws t l lw nx m K h1 h2 h3 h4 hp2 hK=>TD ar ck rfl h1 h2 h3 h4 hK fun m0 hp0 hp1=>w450 aF ws t m0 G242 G489 G664 hp0 hp1 hp2
def H457:Ow 127 457:=aI rfl fun r n hp0=>au ar ck rfl (w457 aF Vk G669 G670 r n hp0)
def H464:Ow 187 464:=aI rfl fun h n hp0=>au ar ck rfl (w464 aF h n hp0)
def H505:Ow 52 505:=aI rfl fun m od c hp0=>au ar ck rfl (w505 aF G692 G693 G694 m od c (G505u (Nat.le_of_eq Rr.symm)) hp0)
def H511:Ow 120 511:=aI rfl fun l nm v hp0=>au ar ck rfl (w511 aF G699 l nm v hp0)
def H534:Ow 116 534:=aI rfl fun a b=>au ar ck rfl (w534 aF G516 G532 G658 G659 a b)
def H581:Ow 92 581:=aI rfl fun l p hp0=>au ar ck rfl (w581 aF l p hp0)
def H622:Ow 117 622:=aI rfl fun l n hp0=>au ar ck rfl (w622 aF G780 l n hp0)
def H630:Ow 203 630:=aI rfl fun a b=>au ar ck rfl (w630 aF a b)
def H667:Ow 172 667:=aI rfl fun s=>au ar ck rfl (w667 aF G454 s)
def H690:Ow 73 690:=aI rfl fun c x hp0=>au ar ck rfl (w690 aF c x hp0)
def H696:Ow 104 696:=aI rfl fun w a b=>au ar ck rfl (w696 aF w a b)
def H704:Ow 159 704:=aI rfl fun x=>au ar ck rfl (w704 aF x)
def H750:Ow 142 750:=aI rfl fun all l hp0=>au ar ck rfl (w750 aF G903 all l hp0)
def H770:Ow 199 770:=aI rfl fun s hp0=>au ar ck rfl (w770 aF G916 G917 s hp0)
def H812:Ow 211 812:=aI rfl fun l al=>au ar ck rfl (w812 aF Vk G815 l al)
def H861:Ow 169 861:=aI rfl fun l v hp0=>au ar ck rfl (w861 aF G925 G980 l v hp0)
def H906:Ow 194 906:=aI rfl fun r e nm ft hp0=>au ar ck rfl (w906 aF G907 G908 aeo r e nm ft hp0)
def H926:Ow 236 926:=aI rfl fun s v hp0=>au ar ck rfl (w926 aF BW Vc G1025 s v hp0)
def H1013:Ow 231 1013:=aI rfl fun shop ps nm hp0=>au ar ck rfl (w1013 aF G1083 G1084 shop ps nm hp0)
def H1024:Ow 239 1024:=aI rfl fun a b hp0=>au ar ck rfl (w1024 aF Vi G532 Vf a b hp0)
def H1086:Ow 298 1086:=aI rfl fun c hp0=>au ar ck rfl (w1086 aF BW c hp0)
def H213:Ow 243 213:=aK cj eN ar (a:=uQ) ck rfl
def H444:Ow 275 444:=aK cj eN ar (a:=rA) ck rfl
def H459:Ow 129 459:=aK cj eN ar (a:=Ar) ck rfl
def H599:Ow 257 599:=aK cj eN ar (a:=Au) ck rfl
def H661:Ow 303 661:=aK cj eN ar (a:=CX) ck rfl
def H676:Ow 220 676:=aK cj eN ar (a:=DE) ck rfl
def H744:Ow 135 744:=aK cj eN ar (a:=yj) ck rfl
def H809:Ow 328 809:=aK cj eN ar (a:=nW) ck rfl
def H827:Ow 350 827:=aK cj eN ar (a:=B9) ck rfl
def H900:Ow 185 900:=aK cj eN ar (a:=AJ) ck rfl
def H920:Ow 320 920:=aK cj eN ar (a:=FW) ck rfl
def H950:Ow 359 950:=aK cj eN ar (a:=Ab) ck rfl
def H957:Ow 368 957:=aK cj eN ar (a:=zR) ck rfl
def H1021:Ow 341 1021:=aK cj eN ar (a:=DA) ck rfl
def H1036:Ow 289 1036:=aK cj eN ar (a:=x7) ck rfl
def H1098:Ow 312 1098:=aK cj eN ar (a:=x6) ck rfl
def H1126:Ow 336 1126:=aK cj eN ar (a:=mT) ck rfl
def H1145:Ow 340 1145:=aK cj eN ar (a:=ve) ck rfl
end
end
end Go.Abs
