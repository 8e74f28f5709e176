/- A part of the proofs. -/
import Derived.Test.YtgnjlompgjhaaaaGreatDoorP10
import Derived.Test.YtgnjlompgjhaaaaGreatDoorP11
import Derived.Test.YtgnjlompgjhaaaaGreatDoorP12
import Derived.Test.YtgnjlompgjhaaaaGreatDoorP13
import Derived.Test.YtgnjlompgjhaaaaGreatDoorP14
import Derived.Test.YtgnjlompgjhaaaaGreatDoorP15
import Derived.Test.YtgnjlompgjhaaaaGreatDoorP16
import Derived.Test.YtgnjlompgjhaaaaGreatDoorP17
import Derived.Test.YtgnjlompgjhaaaaGreatDoorP18
import Derived.Test.YtgnjlompgjhaaaaGreatDoorP19
import Derived.Test.YtgnjlompgjhaaaaGreatDoorP20
import Derived.Test.YtgnjlompgjhaaaaGreatDoorP21
set_option linter.all false
set_option maxRecDepth 60000
set_option maxHeartbeats 2000000
namespace Go.Abs
section
section
variable [dS]
def H72:Ow 22 72:=bw rfl fun r hp0=>aO bj ck rfl (w72 bm G70 G215 r hp0)
def H78:Ow 78 78:=bw rfl fun a b=>aO bj ck rfl (w78 bm G225 G226 a b)
def H208:Ow 31 208:=bw rfl fun s=>aO bj ck rfl (w208 bm s)
def H214:Ow 99 214:=bw rfl fun r s hp0=>aO bj ck rfl (w214 bm G448 r s hp0)
def H220:Ow 80 220:=bw rfl fun s=>aO bj ck rfl (w220 bm G463 s)
def H226:Ow 128 226:=bw rfl fun a b=>aO bj ck rfl (w226 bm a b)
def H232:Ow 54 232:=bw rfl fun l i r hp0 hp1=>aO bj ck rfl (w232 bm QZ Yu G483 l i r hp0 hp1)
def H253:Ow 29 253:=bw rfl fun s hp0=>aO bj ck rfl (w253 bm G244 s hp0)
def H260:Ow 40 260:=bw rfl fun t hp0=>aO bj ck rfl (w260 bm vl t hp0)
def H316:Ow 107 316:=bw rfl fun v hp0=>aO bj ck rfl (w316 bm Od G554 v hp0)
def H440:Ow 133 440:=bw rfl fun n=>aO bj ck rfl (w440 bm n)
def H446:Ow 140 446:=bw rfl fun m=>aO bj ck rfl (w446 bm G661 G662 m)
def H453:Ow 102 453:=bw rfl fun c=>aO bj ck rfl (w453 bm c)
def H459:Ow 151 459:=bw rfl fun l hp0=>aO bj ck rfl (w459 bm Og G671 l hp0)
def H465:Ow 114 465:=oweFG rfl D465 (fun r w n op hp0 hp1 hp2=>GZ 2 bj ck rfl rfl (w465 bm G245 G246 r w n op hp0 hp1 hp2)) fun r w n op l nx m K hp0 hp1 hp2 hl hK=>Vn (GZ 2 bj ck rfl rfl (w465 bm G245 G246 r w n op hp0 hp1 hp2)) hl rfl rfl hK
def H472:Ow 168 472:=m6 rfl fun x t hp0 hp1 hp2 hp3 nx j0 j1 j2 j3 j4 m K h1 h2 h3 hK=>sv rfl bj ck rfl h1 h2 h3 hK (w472 bm t x.r.name x.r.v x.r.needs x.r.bars x.r.feats x.st vl Yt hp0 hp1 hp2 hp3)
def H478:Ow 17 478:=bw rfl fun v n hp0=>aO bj ck rfl (w478 bm v n hp0)
def H494:Ow 202 494:=bw rfl fun l x=>aO bj ck rfl (w494 bm l x)
def H501:Ow 76 501:=bw rfl fun a b hp0=>aO bj ck rfl (w501 bm Od G424 a b hp0)
def H532:Ow 121 532:=bw rfl fun a b=>aO bj ck rfl (w532 bm G714 a b)
def H580:Ow 61 580:=bw rfl fun l nm v hp0=>aO bj ck rfl (w580 bm G501 l nm v hp0)
def H661:Ow 180 661:=bw rfl fun m=>aO bj ck rfl (w661 bm G662 G810 m)
def H668:Ow 186 668:=bw rfl fun t=>aO bj ck rfl (w668 bm t)
def H674:Ow 194 674:=bw rfl fun r x=>aO bj ck rfl (w674 bm r x)
def H684:Ow 209 684:=bw rfl fun r hp0=>aO bj ck rfl (w684 bm UJ Yy G828 r hp0)
def H701:Ow 83 701:=bw rfl fun a b hp0=>aO bj ck rfl (w701 bm Ob G295 a b hp0)
def H744:Ow 219 744:=bw rfl fun s hp0=>aO bj ck rfl (w744 bm vl G896 G897 G898 G899 Yz s hp0)
def H811:Ow 214 811:=bw rfl fun l i hp0=>aO bj ck rfl (w811 bm G950 l i (WU (aL _)) (G951u (aL _)) hp0)
def H819:Ow 229 819:=bw rfl fun s hp0=>aO bj ck rfl (w819 bm Q0 UK Yy G828 G956 G957 s hp0)
def H898:Ow 251 898:=bw rfl fun s=>aO bj ck rfl (w898 bm s)
def H947:Ow 240 947:=m6 rfl fun w nd b nx lp ln m K h1 h2 h3 h4 hK=>xt sf aF rfl (fun _=>rfl) bj ck rfl h1 h2 h3 h4 hK (w947 bm w nd b YA)
def H953:Ow 247 953:=bw rfl fun m=>aO bj ck rfl (w953 bm G954 G1035 m)
def H1007:Ow 272 1007:=bw rfl fun s=>aO bj ck rfl (w1007 bm s)
def H1035:Ow 269 1035:=bw rfl fun l hp0=>aO bj ck rfl (w1035 bm G1098 l hp0)
def H1100:Ow 284 1100:=bw rfl fun s b hp0=>aO bj ck rfl (w1100 bm s b hp0)
end
end
section
section
variable [dS]
def H75:Ow 60 75:=bw rfl fun r hp0=>aO bj ck rfl (w75 bm G73 G221 r hp0)
def H86:Ow 13 86:=bw rfl fun s hp0=>aO bj ck rfl (w86 bm G76 QX UJ G252 Yr G254 G255 G256 G257 s hp0)
def H211:Ow 96 211:=bw rfl fun r name yu hp0=>aO bj ck rfl (w211 bm QX G444 r name yu hp0)
def H217:Ow 105 217:=bw rfl fun v hp0=>aO bj ck rfl (w217 bm G455 G456 v hp0)
def H223:Ow 37 223:=bw rfl fun s hp0=>aO bj ck rfl (w223 bm vl s hp0)
def H229:Ow 51 229:=bw rfl fun l i own hp0 hp1=>aO bj ck rfl (w229 bm Oe G231 Yu G480 G481 l i own hp0 hp1)
def H249:Ow 77 249:=bw rfl fun l x hp0=>aO bj ck rfl (w249 bm l x hp0)
def H257:Ow 36 257:=bw rfl fun s r n hp0=>aO bj ck rfl (w257 bm G74 G295 s r n hp0)
def H263:Ow 43 263:=bw rfl fun a b=>aO bj ck rfl (w263 bm G78 a b)
def H357:Ow 189 357:=bw rfl fun s=>aO bj ck rfl (w357 bm G453 Ys s)
def H443:Ow 136 443:=bw rfl fun r w al hp0=>aO bj ck rfl (w443 bm G211 Of r w al hp0)
def H449:Ow 143 449:=bw rfl fun l nm=>aO bj ck rfl (w449 bm G663 l nm)
def H456:Ow 148 456:=bw rfl fun s p hp0=>aO bj ck rfl (w456 bm vl G666 UL G668 s p hp0)
def H462:Ow 109 462:=bw rfl fun s hp0=>aO bj ck rfl (w462 bm s hp0)
def H468:Ow 117 468:=Zu rfl D468 fun r hp0=>GZ 2 bj ck rfl rfl (w468 bm G465 r hp0)
def H475:Ow 171 475:=bw rfl fun s n hp0 hp1=>aO bj ck rfl (w475 bm QY vl s n hp0 hp1)
def H481:Ow 90 481:=bw rfl fun n=>aO bj ck rfl (w481 bm QZ n)
def H497:Ow 23 497:=bw rfl fun n=>aO bj ck rfl (w497 bm G686 n)
def H516:Ow 166 516:=bw rfl fun a b=>aO bj ck rfl (w516 bm G704 a b)
def H554:Ow 153 554:=bw rfl fun v hp0=>aO bj ck rfl (w554 bm G734 v hp0)
def H658:Ow 162 658:=bw rfl fun s=>aO bj ck rfl (w658 bm s)
def H665:Ow 145 665:=bw rfl fun n hp0=>aO bj ck rfl (w665 bm G336 n hp0)
def H671:Ow 191 671:=bw rfl fun l of hp0=>aO bj ck rfl (w671 bm G672 G815 G816 l of hp0)
def H677:Ow 131 677:=m6 rfl fun c hp0 nx m K hK=>Qu rfl rfl bj ck rfl rfl hK (w677 bm c G734 hp0)
def H688:Ow 124 688:=bw rfl fun c hp0=>aO bj ck rfl (w688 bm c hp0)
def H734:Ow 176 734:=bw rfl fun n hp0=>aO bj ck rfl (w734 bm G882 n hp0)
def H808:Ow 211 808:=m6 rfl ⟨fun w nd hp0 nx lp ln m K h1 h2 h3 h4 hK=>gI sf aF rfl (fun _=>rfl) bj ck rfl h1 h2 h3 h4 hK (w808 bm kZ 809 rv 4 w nd YA UM UN hp0 Az aF aF (fun w2 nd2 hl hp=>G809u (aL _) w2 nd2 hp (by rw[oF h1];exact(show 6*w2.length+2<6*w.length+3 by omega)))),fun w nd hp0 nx lp ln m K h1 h2 h3 h4 hK=>gI sf aF rfl (fun _=>rfl) bj ck rfl h1 h2 h3 h4 hK (w808 bm kn 949 lW 3 w nd YA UM UN hp0 wM aF aF (fun w2 nd2 hl hp=>WV (aL _) w2 nd2 hp (by rw[oF h1];exact(show 6*w2.length+0<6*w.length+1 by omega))))⟩
def H814:Ow 218 814:=bw rfl fun m=>aO bj ck rfl (w814 bm G953 G954 m)
def H882:Ow 206 882:=bw rfl fun n hp0=>aO bj ck rfl (w882 bm n hp0)
def H901:Ow 254 901:=bw rfl fun r hp0=>aO bj ck rfl (w901 bm G899 Yz r hp0)
def H950:Ow 243 950:=bw rfl (aO bj ck rfl (w950 bm))
def H956:Ow 256 956:=bw rfl fun s w=>aO bj ck rfl (w956 bm s w)
def H1032:Ow 266 1032:=m6 rfl fun W w nd hp0 hp1 nx lp ln m K h1 h2 h3 h4 hK=>gI (uP _) aF rfl (fun _=>rfl) bj ck rfl h1 h2 h3 h4 hK (w1032 bm W w nd QU K1 (QV (Nat.le_of_eq (uI (c:=fun _=>1) hp0.1 h1).symm)) hp0 hp1)
def H1097:Ow 281 1097:=m6 rfl fun W w nd hp0 hp1 nx lp ln m K h1 h2 h3 h4 hK=>gI (uP _) aF rfl (fun _=>rfl) bj ck rfl h1 h2 h3 h4 hK (w1097 bm W w nd (G952u (Nat.le_of_eq (uI (c:=fun _=>0) hp0.1 h1).symm)) QU K1 (QV (Nat.le_of_eq (uI (c:=fun _=>0) hp0.1 h1).symm)) G1126 hp0 hp1)
def H1197:Ow 5 1197:=bw rfl fun l a c b=>aO bj ck rfl (w1197 bm G85 G86 G87 G88 QZ G1202 G1203 l a c b)
end
end
end Go.Abs
