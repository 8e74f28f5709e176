/- A part of the proofs. -/
import Derived.Test.YtfeebkgpalkobaaGreatDoorP10
import Derived.Test.YtfeebkgpalkobaaGreatDoorP11
import Derived.Test.YtfeebkgpalkobaaGreatDoorP12
import Derived.Test.YtfeebkgpalkobaaGreatDoorP13
import Derived.Test.YtfeebkgpalkobaaGreatDoorP14
import Derived.Test.YtfeebkgpalkobaaGreatDoorP15
import Derived.Test.YtfeebkgpalkobaaGreatDoorP16
import Derived.Test.YtfeebkgpalkobaaGreatDoorP17
import Derived.Test.YtfeebkgpalkobaaGreatDoorP18
import Derived.Test.YtfeebkgpalkobaaGreatDoorP19
import Derived.Test.YtfeebkgpalkobaaGreatDoorP20
set_option linter.all false
set_option maxRecDepth 60000
set_option maxHeartbeats 2000000
namespace Go.Abs
section
section
variable [di]
def H29:Ow 9 29:=bz rfl fun n=>aJ aK ck rfl (w29 bp G25 n)
def H73:Ow 116 73:=bz rfl fun r hp0=>aJ aK ck rfl (w73 bp G71 Yo r hp0)
def H109:Ow 15 109:=FP rfl X1 fun g n hp0 hp1=>w9 2 aK ck rfl rfl (w109 bp G25 G159 g n hp0 hp1)
def H142:Ow 25 142:=bz rfl fun l hp0=>aJ aK ck rfl (w142 bp Ys G354 l hp0)
def H156:Ow 14 156:=bz rfl fun v hp0=>aJ aK ck rfl (w156 bp rv Po SM G377 G378 G379 v hp0)
def H175:Ow 24 175:=bz rfl fun w hp0=>aJ aK ck rfl (w175 bp wC Lw G408 G409 w hp0)
def H211:Ow 173 211:=bz rfl fun r name rng hp0=>aJ aK ck rfl (w211 bp Lv G444 r name rng hp0)
def H219:Ow 146 219:=bz rfl fun r hp0=>aJ aK ck rfl (w219 bp SK G316 G461 G462 r hp0)
def H266:Ow 17 266:=FP rfl X4 fun g l hp0 hp1=>w9 2 aK ck rfl rfl (w266 bp sJ G110 SH SI G503 G504 g l hp0 hp1)
def H296:Ow 77 296:=FP rfl X5 fun g own hp0=>w9 2 aK ck rfl rfl (w296 bp sJ G535 g own hp0)
def H353:Ow 52 353:=bz rfl fun s hp0=>aJ aK ck rfl (w353 bp G74 Lv Yv s hp0)
def H374:Ow 72 374:=bz rfl (aJ aK ck rfl (w374 bp G598))
def H380:Ow 37 380:=uQ rfl fun g xs hp0 kk E hE nx lc m K hn h0 h1 h10 hK=>Oh rfl hE aK ck rfl hn h0 h1 h10 hK (fun _ _ h=>h) (w380 bp g xs kk E sJ Yf G374 Po G604 G605 hp0 hE)
def H418:Ow 84 418:=bz rfl fun x hp0=>aJ aK ck rfl (w418 bp JF rv Ly x hp0)
def H450:Ow 177 450:=uQ rfl fun ws t l lw nx m K h1 h2 h3 h4 hp2 hK=>J3 aK ck rfl h1 h2 h3 h4 hK fun m0 hp0 hp1=>w450 bp ws t m0 SJ G489 G664 hp0 hp1 hp2
def H457:Ow 183 457:=bz rfl fun r n hp0=>aJ aK ck rfl (w457 bp Ly G669 YG r n hp0)
def H464:Ow 147 464:=bz rfl fun h n hp0=>aJ aK ck rfl (w464 bp h n hp0)
def H508:Ow 125 508:=bz rfl fun s nm v hp0=>aJ aK ck rfl (w508 bp G695 s nm v hp0)
def H531:Ow 90 531:=bz rfl fun l=>aJ aK ck rfl (w531 bp l)
def H553:Ow 56 553:=bz rfl fun x hp0=>aJ aK ck rfl (w553 bp Lv wC Lx x hp0)
def H601:Ow 68 601:=bz rfl (aJ aK ck rfl (w601 bp))
def H618:Ow 121 618:=bz rfl fun c n hp0=>aJ aK ck rfl (w618 bp rv G777 YI c n hp0)
def H629:Ow 127 629:=bz rfl fun w c x hp0=>aJ aK ck rfl (w629 bp G627 w c x hp0)
def H666:Ow 106 666:=bz rfl fun t=>aJ aK ck rfl (w666 bp t)
def H689:Ow 57 689:=bz rfl fun l b x hp0=>aJ aK ck rfl (w689 bp G690 G691 l b x hp0)
def H698:Ow 87 698:=bz rfl fun shop c x hp0=>aJ aK ck rfl (w698 bp G508 shop c x hp0)
def H714:Ow 131 714:=bz rfl fun x=>aJ aK ck rfl (w714 bp x)
def H777:Ow 148 777:=bz rfl fun l n hp0=>aJ aK ck rfl (w777 bp YI l n hp0)
def H815:Ow 228 815:=bz rfl fun l=>aJ aK ck rfl (w815 bp l)
def H919:Ow 142 919:=bz rfl fun l hp0=>aJ aK ck rfl (w919 bp SQ SR X9 l hp0)
def H927:Ow 188 927:=bz rfl fun a b=>aJ aK ck rfl (w927 bp a b)
def YX:Ow 171 1024:=bz rfl fun a b hp0=>aJ aK ck rfl (w1024 bp Lw SP Lu a b hp0)
def H212:Ow 174 212:=bT dJ iq aK (a:=qw) ck rfl
def H448:Ow 196 448:=bT dJ iq aK (a:=rV) ck rfl
def H572:Ow 204 572:=bT dJ iq aK (a:=yf) ck rfl
def H671:Ow 205 671:=bT dJ iq aK (a:=uq) ck rfl
def H684:Ow 233 684:=bT dJ iq aK (a:=yp) ck rfl
def H810:Ow 238 810:=bT dJ iq aK (a:=zG) ck rfl
def H827:Ow 263 827:=bT dJ iq aK (a:=CA) ck rfl
def H900:Ow 252 900:=bT dJ iq aK (a:=Aa) ck rfl
def H950:Ow 272 950:=bT dJ iq aK (a:=zE) ck rfl
def H956:Ow 287 956:=bT dJ iq aK (a:=tR) ck rfl
def Y0:Ow 277 1032:=bT dJ iq aK (a:=mz) ck rfl
def Y9:Ow 304 1097:=bT dJ iq aK (a:=nj) ck rfl
end
end
section
section
variable [di]
def H70:Ow 156 70:=bz rfl fun r hp0=>aJ aK ck rfl (w70 bp Lv wC G210 Yl Ym G213 G214 Yn r hp0)
def H89:Ow 4 89:=bz rfl (aJ aK ck rfl (w89 bp G29 SL Yp))
def H112:Ow 19 112:=bz rfl (aJ aK ck rfl (w112 bp))
def H153:Ow 22 153:=bz rfl fun a b=>aJ aK ck rfl (w153 bp a b)
def H160:Ow 7 160:=bz rfl fun ks=>aJ aK ck rfl (w160 bp G25 G29 sJ SH SI ks)
def H208:Ow 100 208:=bz rfl fun s=>aJ aK ck rfl (w208 bp s)
def H216:Ow 114 216:=bz rfl fun s=>aJ aK ck rfl (w216 bp Yu SN s)
def H249:Ow 167 249:=bz rfl fun l x hp0=>aJ aK ck rfl (w249 bp l x hp0)
def H273:Ow 61 273:=bz rfl fun w c hp0=>aJ aK ck rfl (w273 bp Yj G510 w c hp0)
def H315:Ow 27 315:=bz rfl fun l hp0=>aJ aK ck rfl (w315 bp Yd G553 l hp0)
def H357:Ow 83 357:=bz rfl fun s=>aJ aK ck rfl (w357 bp Yu SN s)
def H377:Ow 33 377:=bz rfl fun v=>aJ aK ck rfl (w377 bp Yz v)
def H409:Ow 51 409:=bz rfl fun c n hp0=>aJ aK ck rfl (w409 bp G622 c n hp0)
def H441:Ow 93 441:=bz rfl fun s hp0=>aJ aK ck rfl (w441 bp Yt Pp SS YD s hp0)
def H454:Ow 124 454:=bz rfl fun c=>aJ aK ck rfl (w454 bp c)
def H461:Ow 165 461:=bz rfl fun w hp0=>aJ aK ck rfl (w461 bp SK w hp0)
def H502:Ow 28 502:=uQ rfl fun shop w x c kvs hp0 hp1 nx lm lc m K hlc hlm h1 h2 hK=>JY (bH (fun _=>rfl) _) (bH (fun _=>rfl) _) rfl rfl rfl rfl aK ck rfl hp0.2.symm hlc hlm h1 h2 hK (fun _ _ h=>h) (w502 bp shop w x c kvs G274 G689 hp0 hp1)
def H511:Ow 102 511:=bz rfl fun l nm v hp0=>aJ aK ck rfl (w511 bp G699 l nm v hp0)
def H534:Ow 98 534:=bz rfl fun a b=>aJ aK ck rfl (w534 bp Yw SP SS YD a b)
def H598:Ow 112 598:=bz rfl (aJ aK ck rfl (w598 bp SQ SR))
def H604:Ow 71 604:=bz rfl fun a b hp0=>aJ aK ck rfl (w604 bp Po Ps G771 a b hp0)
def H624:Ow 63 624:=bz rfl fun w c x hp0=>aJ aK ck rfl (w624 bp G712 w c x hp0)
def H658:Ow 129 658:=bz rfl fun s=>aJ aK ck rfl (w658 bp s)
def H669:Ow 202 669:=bz rfl fun r w al hp0=>aJ aK ck rfl (w669 bp JF Yy G812 r w al hp0)
def H695:Ow 152 695:=bz rfl fun s nm v hp0=>aJ aK ck rfl (w695 bp Pn Pq s nm v hp0)
def H701:Ow 137 701:=bz rfl fun a b hp0=>aJ aK ck rfl (w701 bp wC Lw a b hp0)
def H770:Ow 110 770:=bz rfl fun s hp0=>aJ aK ck rfl (w770 bp Pt G917 s hp0)
def H782:Ow 169 782:=bz rfl fun l v hp0=>aJ aK ck rfl (w782 bp Pt G926 l v hp0)
def H916:Ow 139 916:=bz rfl fun l hp0=>aJ aK ck rfl (w916 bp Ls Ck l hp0)
def H924:Ow 154 924:=bz rfl fun c=>aJ aK ck rfl (w924 bp c)
def YU:Ow 161 1020:=bz rfl fun a b hp0=>aJ aK ck rfl (w1020 bp Lz Pr Lt a b hp0)
def Y7:Ow 182 1086:=bz rfl fun c hp0=>aJ aK ck rfl (w1086 bp rv c hp0)
def H445:Ow 193 445:=bT dJ iq aK (a:=xr) ck rfl
def H482:Ow 285 482:=bT dJ iq aK (a:=yc) ck rfl
def H662:Ow 216 662:=bT dJ iq aK (a:=xw) ck rfl
def H677:Ow 310 677:=bT dJ iq aK (a:=z6) ck rfl
def H745:Ow 227 745:=bT dJ iq aK (a:=yg) ck rfl
def H814:Ow 225 814:=bT dJ iq aK (a:=um) ck rfl
def H897:Ow 249 897:=bT dJ iq aK (a:=yb) ck rfl
def H947:Ow 269 947:=bT dJ iq aK (a:=na) ck rfl
def H953:Ow 246 953:=bT dJ iq aK (a:=zW) ck rfl
def YR:Ow 283 1007:=bT dJ iq aK (a:=D7) ck rfl
def Y3:Ow 280 1035:=bT dJ iq aK (a:=x6) ck rfl
def Zc:Ow 307 1100:=bT dJ iq aK (a:=x7) ck rfl
end
end
end Go.Abs
