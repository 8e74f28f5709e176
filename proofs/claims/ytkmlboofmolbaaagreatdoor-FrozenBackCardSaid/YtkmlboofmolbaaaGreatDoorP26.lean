/- A part of the proofs. -/
import Derived.Test.YtkmlboofmolbaaaGreatDoorP10
import Derived.Test.YtkmlboofmolbaaaGreatDoorP11
import Derived.Test.YtkmlboofmolbaaaGreatDoorP12
import Derived.Test.YtkmlboofmolbaaaGreatDoorP13
import Derived.Test.YtkmlboofmolbaaaGreatDoorP14
import Derived.Test.YtkmlboofmolbaaaGreatDoorP15
import Derived.Test.YtkmlboofmolbaaaGreatDoorP16
import Derived.Test.YtkmlboofmolbaaaGreatDoorP17
import Derived.Test.YtkmlboofmolbaaaGreatDoorP22
set_option linter.all false
set_option maxRecDepth 60000
set_option maxHeartbeats 2000000
namespace Go.Abs
section
section
variable [cG]
def H29:Ow 9 29:=aM rfl fun n=>au ar ck rfl (w29 aI G25 n)
def H73:Ow 42 73:=aM rfl fun r hp0=>au ar ck rfl (w73 aI G71 G219 r hp0)
def H92:Ow 11 92:=aM rfl fun shop e w c hp0=>au ar ck rfl (w92 aI G270 shop e w c hp0)
def H135:Ow 25 135:=aM rfl (au ar ck rfl (w135 aI))
def H145:Ow 56 145:=aM rfl fun l hp0=>au ar ck rfl (w145 aI Va G359 l hp0)
def H170:Ow 40 170:=aM rfl fun w c hp0=>au ar ck rfl (w170 aI G169 w c hp0)
def H209:Ow 68 209:=aM rfl fun v hp0=>au ar ck rfl (w209 aI G440 G441 G442 v hp0)
def H217:Ow 44 217:=aM rfl fun v hp0=>au ar ck rfl (w217 aI G455 G456 v hp0)
def H264:Ow 12 264:=aM rfl fun shop e w l hp0=>au ar ck rfl (w264 aI G138 G142 G175 G315 G502 shop e w l hp0)
def H270:Ow 33 270:=aM rfl fun shop e w c hp0=>au ar ck rfl (w270 aI G52 G144 G145 G169 G170 G507 G508 shop e w c hp0)
def H298:Ow 48 298:=OG rfl D298 fun g l hp0 hp1=>B5 2 ar ck rfl rfl (w298 aI Kk g l hp0 hp1)
def H353:Ow 71 353:=aM rfl fun s hp0=>au ar ck rfl (w353 aI G74 U7 G511 s hp0)
def H359:Ow 98 359:=aM rfl fun l nm=>au ar ck rfl (w359 aI l nm)
def H403:Ow 109 403:=aM rfl fun w i hp0=>au ar ck rfl (w403 aI Vb G617 G618 w i hp0)
def H417:Ow 83 417:=aM rfl fun w c u hp0=>au ar ck rfl (w417 aI G628 G629 w c u hp0)
def H450:Ow 240 450:=yG rfl fun ws t l lw nx m K h1 h2 h3 h4 hp2 hK=>Tt ar ck rfl h1 h2 h3 h4 hK fun m0 hp0 hp1=>w450 aI ws t m0 G242 G489 G664 hp0 hp1 hp2
def H457:Ow 138 457:=aM rfl fun r n hp0=>au ar ck rfl (w457 aI G357 G669 G670 r n hp0)
def H464:Ow 85 464:=aM rfl fun h n hp0=>au ar ck rfl (w464 aI h n hp0)
def H505:Ow 61 505:=aM rfl fun m od c hp0=>au ar ck rfl (w505 aI G692 G693 G694 m od c (G505u (Nat.le_of_eq Rf.symm)) hp0)
def H516:Ow 112 516:=aM rfl fun a b=>au ar ck rfl (w516 aI G704 a b)
def H535:Ow 90 535:=OG rfl D535 fun g own hp0=>B5 2 ar ck rfl rfl (w535 aI Kk G135 G297 g own hp0)
def H582:Ow 101 582:=yG rfl fun y ns hp0 hp1 nx lf ln lr m K h1 h2 h3 hne hat hK=>nM (BC (rest:=[]) rfl) (TU _) ar ck rfl h1 h2 h3 hne hat hK (w582 aI y ns G748 G749 hp0 hp1)
def H623:Ow 81 623:=aM rfl fun w c l hp0=>au ar ck rfl (w623 aI G624 w c l hp0)
def H631:Ow 89 631:=aM rfl fun a b hp0=>au ar ck rfl (w631 aI G470 G630 G783 a b hp0)
def H668:Ow 134 668:=aM rfl fun t=>au ar ck rfl (w668 aI t)
def H691:Ow 79 691:=aM rfl fun c x hp0=>au ar ck rfl (w691 aI U8 c x hp0)
def H700:Ow 169 700:=aM rfl fun x nm v hp0=>au ar ck rfl (w700 aI G701 x nm v hp0)
def H748:Ow 144 748:=yG rfl fun y ns k hp0 hp1 nx lf ln lr m K h1 h2 h3 hne hat hK=>nM (BC (rest:=[Key.D k]) rfl) rfl ar ck rfl h1 h2 h3 hne hat hK (w748 aI y ns k G751 G752 G753 hp0 hp1)
def H754:Ow 150 754:=aM rfl fun all r e hp0=>au ar ck rfl (w754 aI G903 G907 G908 all r e hp0)
def H782:Ow 198 782:=aM rfl fun l v hp0=>au ar ck rfl (w782 aI G916 G926 l v hp0)
def H830:Ow 154 830:=aM rfl fun od u n hp0=>au ar ck rfl (w830 aI od u n hp0)
def H904:Ow 190 904:=aM rfl fun r e o hp0=>au ar ck rfl (w904 aI G907 ael r e o hp0)
def H924:Ow 201 924:=aM rfl fun c=>au ar ck rfl (w924 aI c)
def H1009:Ow 223 1009:=aM rfl fun n hp0=>au ar ck rfl (w1009 aI G908 G1080 n hp0)
def H1020:Ow 265 1020:=aM rfl fun a b hp0=>au ar ck rfl (w1020 aI Vb G630 U5 a b hp0)
def H1083:Ow 260 1083:=aM rfl fun shop ps nm hp0=>au ar ck rfl (w1083 aI G145 G359 G1120 G1121 shop ps nm hp0)
def H1216:Ow 3 1216:=aM rfl fun ys ss os n=>au ar ck rfl (w1216 aI G28 G29 G89 G90 G91 G92 G153 G264 G265 ys ss os n)
def H377:Ow 219 377:=aJ b8 eN ar (a:=uL) ck rfl
def H447:Ow 272 447:=aJ b8 eN ar (a:=qT) ck rfl
def H496:Ow 294 496:=aJ b8 eN ar (a:=uR) ck rfl
def H603:Ow 256 603:=aJ b8 eN ar (a:=zX) ck rfl
def H670:Ow 175 670:=aJ b8 eN ar (a:=uF) ck rfl
def H682:Ow 316 682:=aJ b8 eN ar (a:=wv) ck rfl
def H771:Ow 309 771:=aJ b8 eN ar (a:=FD) ck rfl
def H813:Ow 209 813:=aJ b8 eN ar (a:=uE) ck rfl
def H897:Ow 181 897:=aJ b8 eN ar (a:=xA) ck rfl
def H908:Ow 194 908:=aJ b8 eN ar (a:=zS) ck rfl
def H947:Ow 350 947:=aJ b8 eN ar (a:=nU) ck rfl
def H953:Ow 247 953:=aJ b8 eN ar (a:=zP) ck rfl
def H1008:Ow 214 1008:=aJ b8 eN ar (a:=sk) ck rfl
def H1033:Ow 280 1033:=aJ b8 eN ar (a:=mX) ck rfl
def H1082:Ow 259 1082:=aJ b8 eN ar (a:=Da) ck rfl
def H1118:Ow 285 1118:=aJ b8 eN ar (a:=uH) ck rfl
def H1139:Ow 312 1139:=aJ b8 eN ar (a:=z7) ck rfl
end
end
section
section
variable [cG]
def H70:Ow 203 70:=aM rfl fun r hp0=>au ar ck rfl (w70 aI U7 Bx G210 G211 G212 G213 G214 G215 r hp0)
def H89:Ow 6 89:=aM rfl (au ar ck rfl (w89 aI G29 G264 G265))
def H111:Ow 24 111:=aM rfl (au ar ck rfl (w111 aI))
def H142:Ow 35 142:=aM rfl fun l hp0=>au ar ck rfl (w142 aI G353 G354 l hp0)
def H158:Ow 107 158:=aM rfl fun w u hp0=>au ar ck rfl (w158 aI G381 w u hp0)
def H184:Ow 153 184:=aM rfl fun c l hp0=>au ar ck rfl (w184 aI G416 c l hp0)
def H214:Ow 239 214:=aM rfl fun r s hp0=>au ar ck rfl (w214 aI G448 r s hp0)
def H220:Ow 167 220:=aM rfl fun s=>au ar ck rfl (w220 aI G463 s)
def H267:Ow 30 267:=aM rfl fun w od hp0=>au ar ck rfl (w267 aI G46 G505 w od hp0)
def H295:Ow 69 295:=aM rfl fun a b hp0=>au ar ck rfl (w295 aI Bx G530 G531 G532 G533 G534 a b hp0)
def H344:Ow 51 344:=aM rfl fun l=>au ar ck rfl (w344 aI Kl l)
def H356:Ow 97 356:=aM rfl fun l nm=>au ar ck rfl (w356 aI l nm)
def H362:Ow 60 362:=yG rfl fun y hp0 nx lf m K h1 hat hK=>ZK ar ck rfl h1 hat hK (w362 aI y G582 G583 hp0)
def H410:Ow 39 410:=aM rfl fun w c hp0=>au ar ck rfl (w410 aI G273 G623 G624 w c hp0)
def H441:Ow 114 441:=aM rfl fun s hp0=>au ar ck rfl (w441 aI G442 G533 G658 G659 s hp0)
def H454:Ow 137 454:=aM rfl fun c=>au ar ck rfl (w454 aI c)
def H461:Ow 128 461:=aM rfl fun w hp0=>au ar ck rfl (w461 aI G249 w hp0)
def H502:Ow 38 502:=yG rfl fun shop w x c kvs hp0 hp1 nx lm lc m K hlc hlm h1 h2 hK=>Tg (b7 (fun _=>rfl) _) (b7 (fun _=>rfl) _) rfl rfl rfl rfl ar ck rfl hp0.2.symm hlc hlm h1 h2 hK (fun _ _ h=>h) (w502 aI shop w x c kvs G274 G689 hp0 hp1)
def H508:Ow 66 508:=aM rfl fun s nm v hp0=>au ar ck rfl (w508 aI G695 s nm v hp0)
def H532:Ow 117 532:=aM rfl fun a b=>au ar ck rfl (w532 aI G714 a b)
def H554:Ow 172 554:=aM rfl fun v hp0=>au ar ck rfl (w554 aI G734 v hp0)
def H617:Ow 159 617:=aM rfl fun a b=>au ar ck rfl (w617 aI a b)
def H628:Ow 126 628:=aM rfl fun w c l hp0=>au ar ck rfl (w628 aI G629 w c l hp0)
def H665:Ow 277 665:=aM rfl fun n hp0=>au ar ck rfl (w665 aI G336 n hp0)
def H674:Ow 179 674:=aM rfl fun r x=>au ar ck rfl (w674 aI r x)
def H694:Ow 105 694:=aM rfl fun m al od c hp0=>au ar ck rfl (w694 aI G693 G829 G830 G831 m al od c hp0)
def H712:Ow 125 712:=aM rfl fun s v hp0=>au ar ck rfl (w712 aI Bx G780 G861 s v hp0)
def H751:Ow 147 751:=yG rfl fun y ns hp0 hp1 nx lf ln lr m K h1 h2 h3 hne hat hK=>nM (BC (rest:=[]) rfl) rfl ar ck rfl h1 h2 h3 hne hat hK (w751 aI y ns aeo hp0 hp1)
def H777:Ow 199 777:=aM rfl fun l n hp0=>au ar ck rfl (w777 aI G778 l n hp0)
def H815:Ow 211 815:=aM rfl fun l=>au ar ck rfl (w815 aI l)
def H882:Ow 245 882:=aM rfl fun n hp0=>au ar ck rfl (w882 aI n hp0)
def H909:Ow 195 909:=yG rfl fun y ns nm hp0 nx lf ln lr m K h1 h2 h3 hne hat hK=>nM (BC (rest:=[.str nm]) rfl) rfl ar ck rfl h1 h2 h3 hne hat hK (w909 aI y ns nm G627 G1012 G1013 G1014 G1015 hp0)
def H927:Ow 173 927:=aM rfl fun a b=>au ar ck rfl (w927 aI a b)
def H1014:Ow 228 1014:=aM rfl fun l nm hp0=>au ar ck rfl (w1014 aI G143 G374 G1011 G1085 l nm hp0)
def H1025:Ow 266 1025:=aM rfl fun c v hp0=>au ar ck rfl (w1025 aI Eb Vb U5 c v hp0)
def H1087:Ow 267 1087:=aM rfl fun c hp0=>au ar ck rfl (w1087 aI Bx c hp0)
def H213:Ow 238 213:=aJ b8 eN ar (a:=uz) ck rfl
def H444:Ow 269 444:=aJ b8 eN ar (a:=q9) ck rfl
def H459:Ow 140 459:=aJ b8 eN ar (a:=zR) ck rfl
def H599:Ow 252 599:=aJ b8 eN ar (a:=zU) ck rfl
def H661:Ow 297 661:=aJ b8 eN ar (a:=Cs) ck rfl
def H676:Ow 216 676:=aJ b8 eN ar (a:=C7) ck rfl
def H744:Ow 142 744:=aJ b8 eN ar (a:=xF) ck rfl
def H809:Ow 322 809:=aJ b8 eN ar (a:=nT) ck rfl
def H827:Ow 344 827:=aJ b8 eN ar (a:=BK) ck rfl
def H900:Ow 184 900:=aJ b8 eN ar (a:=Ag) ck rfl
def H920:Ow 314 920:=aJ b8 eN ar (a:=FE) ck rfl
def H950:Ow 353 950:=aJ b8 eN ar (a:=zC) ck rfl
def H957:Ow 362 957:=aJ b8 eN ar (a:=zm) ck rfl
def H1021:Ow 335 1021:=aJ b8 eN ar (a:=C4) ck rfl
def H1036:Ow 283 1036:=aJ b8 eN ar (a:=xp) ck rfl
def H1098:Ow 306 1098:=aJ b8 eN ar (a:=xo) ck rfl
def H1126:Ow 330 1126:=aJ b8 eN ar (a:=mV) ck rfl
def H1145:Ow 334 1145:=aJ b8 eN ar (a:=uN) ck rfl
end
end
end Go.Abs
