/- A part of the proofs. -/
import Derived.Test.YtgnjlompgjhaaaaGreatDoorP10
import Derived.Test.YtgnjlompgjhaaaaGreatDoorP11
import Derived.Test.YtgnjlompgjhaaaaGreatDoorP12
import Derived.Test.YtgnjlompgjhaaaaGreatDoorP13
import Derived.Test.YtgnjlompgjhaaaaGreatDoorP14
import Derived.Test.YtgnjlompgjhaaaaGreatDoorP15
import Derived.Test.YtgnjlompgjhaaaaGreatDoorP16
import Derived.Test.YtgnjlompgjhaaaaGreatDoorP17
import Derived.Test.YtgnjlompgjhaaaaGreatDoorP18
import Derived.Test.YtgnjlompgjhaaaaGreatDoorP19
import Derived.Test.YtgnjlompgjhaaaaGreatDoorP20
import Derived.Test.YtgnjlompgjhaaaaGreatDoorP21
set_option linter.all false
set_option maxRecDepth 60000
set_option maxHeartbeats 2000000
namespace Go.Abs
section
section
variable [dS]
def H70:Ow 56 70:=bw rfl fun r hp0=>aO bj ck rfl (w70 bm QX Ob G210 G211 G212 G213 G214 G215 r hp0)
def H76:Ow 34 76:=bw rfl fun s=>aO bj ck rfl (w76 bm G70 QW G222 s)
def H87:Ow 14 87:=bw rfl fun s hp0=>aO bj ck rfl (w87 bm G223 G258 G259 G260 G261 G262 s hp0)
def H212:Ow 97 212:=bw rfl fun s=>aO bj ck rfl (w212 bm G445 G446 s)
def H218:Ow 106 218:=bw rfl fun r hp0=>aO bj ck rfl (w218 bm G457 G458 G459 G460 r hp0)
def H224:Ow 125 224:=m6 rfl fun x t hp0 hp1 hp2 nx j0 j1 j2 j3 j4 m K h1 h2 h3 hK=>sv rfl bj ck rfl h1 h2 h3 hK (w224 bm t x.r.name x.r.v x.r.needs x.r.bars x.r.feats x.st vl G471 G472 G473 G474 Yt G476 hp2 hp0.1 hp0.2.1 hp0.2.2 (by unfold jq.sz at hp1;omega))
def H230:Ow 52 230:=bw rfl fun l i hp0=>aO bj ck rfl (w230 bm Oe Yv l i hp0)
def H251:Ow 11 251:=bw rfl fun s hp0=>aO bj ck rfl (w251 bm G72 G353 G452 G489 G497 s hp0)
def H258:Ow 38 258:=bw rfl fun t hp0=>aO bj ck rfl (w258 bm Oc vl t hp0)
def H295:Ow 72 295:=bw rfl fun a b hp0=>aO bj ck rfl (w295 bm Ob G530 G531 G532 Q0 G534 a b hp0)
def H358:Ow 25 358:=bw rfl fun s hp0=>aO bj ck rfl (w358 bm G75 Oc G580 s hp0)
def H444:Ow 138 444:=bw rfl fun s hp0=>aO bj ck rfl (w444 bm G495 G496 s hp0)
def H450:Ow 100 450:=m6 rfl fun ws t l lw nx m K h1 h2 h3 h4 hp2 hK=>Pd bj ck rfl h1 h2 h3 h4 hK fun m0 hp0 hp1=>w450 bm ws t m0 UJ G489 G664 hp0 hp1 hp2
def H457:Ow 149 457:=bw rfl fun r n hp0=>aO bj ck rfl (w457 bm Og G669 G670 r n hp0)
def H463:Ow 129 463:=bw rfl fun h k hp0=>aO bj ck rfl (w463 bm h k hp0)
def H470:Ow 73 470:=bw rfl fun s b hp0=>aO bj ck rfl (w470 bm s b hp0)
def H476:Ow 172 476:=m6 rfl fun x l hp0 hp1 nx j0 j1 j2 j3 j4 m K h1 h2 h3 hK=>sv (by simp only[bH,D.bJ,nE]) bj ck rfl h1 h2 h3 hK (w476 bm l x.r.name x.r.v x.r.needs x.r.bars x.r.feats x.st G474 hp0 hp1)
def H482:Ow 91 482:=bw rfl fun c hp0=>aO bj ck rfl (w482 bm QY G676 G677 G678 c hp0)
def H499:Ow 68 499:=bw rfl fun s=>aO bj ck rfl (w499 bm s)
def H530:Ow 119 530:=bw rfl fun v=>aO bj ck rfl (w530 bm v)
def H568:Ow 204 568:=bw rfl fun s hp0=>aO bj ck rfl (w568 bm Od vl G741 G742 s hp0)
def H659:Ow 165 659:=bw rfl fun t=>aO bj ck rfl (w659 bm t)
def H666:Ow 184 666:=bw rfl fun t=>aO bj ck rfl (w666 bm t)
def H672:Ow 192 672:=bw rfl fun s hp0=>aO bj ck rfl (w672 bm Oc Og vl s hp0)
def H678:Ow 132 678:=bw rfl fun op=>aO bj ck rfl (w678 bm op)
def H699:Ow 81 699:=bw rfl fun l nm v hp0=>aO bj ck rfl (w699 bm G700 l nm v hp0)
def H741:Ow 226 741:=bw rfl fun s b=>aO bj ck rfl (w741 bm s b)
def H809:Ow 212 809:=m6 rfl fun w nd hp0 nx lp ln m K h1 h2 h3 h4 hK=>gI sf aF rfl (fun _=>rfl) bj ck rfl h1 h2 h3 h4 hK (w809 bm w nd (WT (Nat.le_of_eq (oF (c:=fun _=>2) h1).symm)) hp0)
def H815:Ow 221 815:=bw rfl fun l=>aO bj ck rfl (w815 bm l)
def H896:Ow 249 896:=bw rfl fun s hp0=>aO bj ck rfl (w896 bm s hp0)
def H927:Ow 228 927:=bw rfl fun a b=>aO bj ck rfl (w927 bm a b)
def H951:Ow 244 951:=bw rfl fun l i b hp0=>aO bj ck rfl (w951 bm l i b (WU (aL _)) hp0)
def H957:Ow 257 957:=bw rfl fun op=>aO bj ck rfl (w957 bm op)
def H1033:Ow 267 1033:=m6 rfl fun s W w nd b hp0 nx lp ln m K h1 h2 h3 h4 hK=>xt (uP _) aF rfl (fun _=>rfl) bj ck rfl h1 h2 h3 h4 hK (w1033 bm s W w nd b hp0)
def H1098:Ow 282 1098:=bw rfl fun n=>aO bj ck rfl (w1098 bm Og n)
def H1202:Ow 12 1202:=bw rfl fun s hp0=>aO bj ck rfl (w1202 bm G73 G313 G358 s hp0)
end
end
section
section
variable [dS]
def H73:Ow 26 73:=bw rfl fun r hp0=>aO bj ck rfl (w73 bm G71 G219 r hp0)
def H79:Ow 19 79:=bw rfl fun l i own hp0 hp1=>aO bj ck rfl (w79 bm G227 Oe G229 G230 G231 G232 l i own hp0 hp1)
def H209:Ow 94 209:=bw rfl fun v hp0=>aO bj ck rfl (w209 bm G440 G441 G442 v hp0)
def H215:Ow 57 215:=bw rfl fun r hp0=>aO bj ck rfl (w215 bm UJ G450 G451 G452 r hp0)
def H221:Ow 104 221:=bw rfl fun s=>aO bj ck rfl (w221 bm G464 s)
def H227:Ow 50 227:=bw rfl fun n=>aO bj ck rfl (w227 bm QZ n)
def H239:Ow 64 239:=bw rfl fun s hp0=>aO bj ck rfl (w239 bm G331 s hp0)
def H255:Ow 32 255:=bw rfl fun s hp0=>aO bj ck rfl (w255 bm QW Yr G499 s hp0)
def H261:Ow 41 261:=m6 rfl fun nm es y t hp0 nx lp ln m K h1 h2 h3 h4 hK1 hK2=>Q6 bj ck rfl h1 h2 h3 h4 hK1 hK2 (w261 bm nm es y t G75 G77 G501 hp0)
def H349:Ow 137 349:=bw rfl fun s=>aO bj ck rfl (w349 bm s)
def H441:Ow 134 441:=bw rfl fun s hp0=>aO bj ck rfl (w441 bm G442 Q0 UK G659 s hp0)
def H447:Ow 141 447:=bw rfl fun l=>aO bj ck rfl (w447 bm l)
def H454:Ow 103 454:=bw rfl fun c=>aO bj ck rfl (w454 bm c)
def H460:Ow 152 460:=bw rfl fun r of hp0=>aO bj ck rfl (w460 bm G672 G673 G674 r of hp0)
def H466:Ow 115 466:=bw rfl fun s hp0=>aO bj ck rfl (w466 bm Ob G451 Q0 UK G675 s hp0)
def H473:Ow 169 473:=m6 rfl fun x t hp0 hp1 hp2 hp3 hp4 nx j0 j1 j2 j3 j4 m K h1 h2 h3 hK=>sv rfl bj ck rfl h1 h2 h3 hK (w473 bm t x.r.name x.r.v x.r.needs x.r.bars x.r.feats x.st Yt hp0 hp1 hp2 hp3 hp4)
def H479:Ow 79 479:=bw rfl fun l i=>aO bj ck rfl (w479 bm l i)
def H495:Ow 177 495:=bw rfl fun s hp0=>aO bj ck rfl (w495 bm QW G682 G683 Yx G685 G9124 s hp0)
def H504:Ow 45 504:=m6 rfl fun s r hp0 nx m K hK1 hK2=>Tc bj ck rfl hK1 hK2 (w504 bm s r G75 G358 G580 hp0)
def H533:Ow 122 533:=bw rfl fun s b hp0=>aO bj ck rfl (w533 bm s b hp0)
def H630:Ow 173 630:=bw rfl fun a b=>aO bj ck rfl (w630 bm a b)
def H662:Ow 181 662:=bw rfl fun l hp0=>aO bj ck rfl (w662 bm G811 l hp0)
def H669:Ow 187 669:=bw rfl fun r w al hp0=>aO bj ck rfl (w669 bm Oc G572 G812 r w al hp0)
def H675:Ow 161 675:=bw rfl fun s b=>aO bj ck rfl (w675 bm s b)
def H685:Ow 210 685:=bw rfl fun r hp0=>aO bj ck rfl (w685 bm Yx r hp0)
def H704:Ow 203 704:=bw rfl fun x=>aO bj ck rfl (w704 bm x)
def H745:Ow 220 745:=bw rfl fun r hp0=>aO bj ck rfl (w745 bm Yz G901 r hp0)
def H812:Ow 216 812:=bw rfl fun l al=>aO bj ck rfl (w812 bm Og G815 l al)
def H827:Ow 237 827:=bw rfl fun c hp0=>aO bj ck rfl (w827 bm Ob c hp0)
def H899:Ow 252 899:=bw rfl fun r hp0=>aO bj ck rfl (w899 bm G676 r hp0)
def H948:Ow 241 948:=m6 rfl fun x w nd b hp0 nx lp ln m K h1 h2 h3 h4 hK=>gI sf aF rfl (fun _=>rfl) bj ck rfl h1 h2 h3 h4 hK (w948 bm x w nd b hp0)
def H954:Ow 248 954:=bw rfl fun l hp0=>aO bj ck rfl (w954 bm G1036 l hp0)
def H1008:Ow 273 1008:=bw rfl fun l=>aO bj ck rfl (w1008 bm UL l)
def H1036:Ow 270 1036:=bw rfl fun l i hp0=>aO bj ck rfl (w1036 bm WS G1100 l i (Yq (aL _)) hp0)
def H1126:Ow 290 1126:=m6 rfl fun W w nd hp0 hp1 nx lp ln m K h1 h2 h3 h4 hK=>gI (uP _) aF rfl (fun _=>rfl) bj ck rfl h1 h2 h3 h4 hK (w1126 bm W w nd Og K1 WS G1141 hp0 hp1)
end
end
end Go.Abs
