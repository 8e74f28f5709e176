/- A part of the proofs. -/
import Derived.Test.YtaeimnechonnmaaGreatDoorP09
import Derived.Test.YtaeimnechonnmaaGreatDoorP10
import Derived.Test.YtaeimnechonnmaaGreatDoorP11
import Derived.Test.YtaeimnechonnmaaGreatDoorP12
import Derived.Test.YtaeimnechonnmaaGreatDoorP13
import Derived.Test.YtaeimnechonnmaaGreatDoorP14
import Derived.Test.YtaeimnechonnmaaGreatDoorP15
import Derived.Test.YtaeimnechonnmaaGreatDoorP16
import Derived.Test.YtaeimnechonnmaaGreatDoorP17
import Derived.Test.YtaeimnechonnmaaGreatDoorP18
set_option linter.all false
set_option maxRecDepth 4000
namespace Go.Abs
section
section
variable [df]
def H36:Ow 10 36:=bV rfl fun ks few hp0=>aZ bI ck rfl (w36 bJ Fx G154 G155 Ol Om ks few hp0)
def H112:Ow 49 112:=bV rfl (aZ bI ck rfl (w112 bJ))
def H159:Ow 33 159:=bV rfl fun l i=>aZ bI ck rfl (w159 bJ l i)
def H204:Ow 42 204:=bV rfl fun w l hp0=>aZ bI ck rfl (w204 bJ Ov Ox w l hp0)
def H374:Ow 48 374:=bV rfl (aZ bI ck rfl (w374 bJ G598))
def H380:Ow 56 380:=uE rfl fun g xs hp0 kk E hE nx lc m K hn h0 h1 h10 hK=>HG rfl hE bI ck rfl hn h0 h1 h10 hK (fun _ _ h=>h) (w380 bJ g xs kk E Fx Ol Ot Iz G604 G605 hp0 hE)
def H424:Ow 111 424:=bV rfl fun a b hp0=>aZ bI ck rfl (w424 bJ yt IB G631 a b hp0)
def H438:Ow 77 438:=bV rfl fun p c hp0=>aZ bI ck rfl (w438 bJ G657 p c hp0)
def H455:Ow 85 455:=bV rfl fun n=>aZ bI ck rfl (w455 bJ n)
def H532:Ow 105 532:=bV rfl fun a b=>aZ bI ck rfl (w532 bJ G714 a b)
def H601:Ow 89 601:=bV rfl (aZ bI ck rfl (w601 bJ))
def H622:Ow 108 622:=bV rfl fun l n hp0=>aZ bI ck rfl (w622 bJ OL l n hp0)
def H634:Ow 60 634:=bV rfl fun c l u hp0=>aZ bI ck rfl (w634 bJ Fy c l u hp0)
def H656:Ow 114 656:=bV rfl fun l hp0=>aZ bI ck rfl (w656 bJ l hp0)
def H668:Ow 123 668:=bV rfl fun t=>aZ bI ck rfl (w668 bJ t)
def H771:Ow 126 771:=bV rfl fun a b hp0=>aZ bI ck rfl (w771 bJ ID G918 a b hp0)
def H785:Ow 96 785:=bV rfl fun c row k mild hp0=>aZ bI ck rfl (w785 bJ OQ G931 c row k mild hp0)
def H920:Ow 150 920:=bV rfl fun l f t hp0=>aZ bI ck rfl (w920 bJ yq l f t hp0)
def H928:Ow 128 928:=bV rfl fun l b c row k hp0=>aZ bI ck rfl (w928 bJ Od l b c row k hp0)
def H934:Ow 134 934:=bV rfl fun c row k x hp0=>aZ bI ck rfl (w934 bJ IC Kj c row k x hp0)
def OV:Ow 164 1024:=bV rfl fun a b hp0=>aZ bI ck rfl (PZ bJ Lm Lp Fw a b hp0)
def O1:Ow 167 1086:=bV rfl fun c hp0=>aZ bI ck rfl (P5 bJ yt c hp0)
def O7:Ow 8 1214:=bV rfl fun a b c n=>aZ bI ck rfl (Qb bJ G25 G36 G37 G63 G65 G66 G206 a b c n)
end
end
section
section
variable [df]
def H65:Ow 15 65:=bV rfl fun w allow rows hp0=>aZ bI ck rfl (w65 bJ G175 Oo w allow rows hp0)
def H156:Ow 29 156:=bV rfl fun v hp0=>aZ bI ck rfl (w156 bJ yt Iz Ln G377 G378 G379 v hp0)
def H197:Ow 26 197:=bV rfl (aZ bI ck rfl (w197 bJ Ot))
def H209:Ow 69 209:=bV rfl fun v hp0=>aZ bI ck rfl (w209 bJ G440 G441 OA v hp0)
def H377:Ow 53 377:=bV rfl fun v=>aZ bI ck rfl (w377 bJ OE v)
def H408:Ow 68 408:=bV rfl fun a b=>aZ bI ck rfl (w408 bJ OC OD a b)
def H435:Ow 74 435:=uE rfl fun w rows r hp0 nx lo m K h1 h2 hK=>xQ (bQ (fun _=>rfl) _) (bQ (fun _=>rfl) _) rfl rfl bI ck rfl h1 h2 (fun _ _ h=>h) hK (w435 bJ w rows r IA G654 G655 G656 hp0)
def H441:Ow 102 441:=bV rfl fun s hp0=>aZ bI ck rfl (w441 bJ OA Lq OH OI s hp0)
def H516:Ow 100 516:=bV rfl fun a b=>aZ bI ck rfl (w516 bJ G704 a b)
def H598:Ow 84 598:=bV rfl (aZ bI ck rfl (w598 bJ Lr Ls))
def H604:Ow 92 604:=bV rfl fun a b hp0=>aZ bI ck rfl (w604 bJ Iz Lu G771 a b hp0)
def H631:Ow 143 631:=bV rfl fun a b hp0=>aZ bI ck rfl (w631 bJ OB IB G783 a b hp0)
def H637:Ow 63 637:=bV rfl fun c row i hp0=>aZ bI ck rfl (w637 bJ OG IC Fy c row i hp0)
def H659:Ow 137 659:=bV rfl fun t=>aZ bI ck rfl (w659 bJ t)
def H714:Ow 138 714:=bV rfl fun x=>aZ bI ck rfl (w714 bJ x)
def H782:Ow 144 782:=bV rfl fun l v hp0=>aZ bI ck rfl (w782 bJ ID G926 l v hp0)
def H917:Ow 147 917:=bV rfl fun c=>aZ bI ck rfl (w917 bJ OF c)
def H925:Ow 156 925:=bV rfl fun l hp0=>aZ bI ck rfl (w925 bJ Kh Ki l hp0)
def H931:Ow 131 931:=bV rfl fun l c row k hp0=>aZ bI ck rfl (w931 bJ Oe l c row k hp0)
def OS:Ow 160 1020:=bV rfl fun a b hp0=>aZ bI ck rfl (PV bJ Ou IB Fv a b hp0)
def OY:Ow 153 1027:=bV rfl fun c x hp0=>aZ bI ck rfl (P2 bJ Fy G712 c x hp0)
def O4:Ow 188 1179:=bV rfl fun b=>aZ bI ck rfl (P8 bJ b)
end
end
end Go.Abs
