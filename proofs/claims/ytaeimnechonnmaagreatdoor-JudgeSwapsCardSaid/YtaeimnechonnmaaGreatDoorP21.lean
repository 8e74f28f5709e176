/- A part of the proofs. -/
import Derived.Test.YtaeimnechonnmaaGreatDoorP09
import Derived.Test.YtaeimnechonnmaaGreatDoorP10
import Derived.Test.YtaeimnechonnmaaGreatDoorP11
import Derived.Test.YtaeimnechonnmaaGreatDoorP12
import Derived.Test.YtaeimnechonnmaaGreatDoorP13
import Derived.Test.YtaeimnechonnmaaGreatDoorP14
import Derived.Test.YtaeimnechonnmaaGreatDoorP15
import Derived.Test.YtaeimnechonnmaaGreatDoorP16
import Derived.Test.YtaeimnechonnmaaGreatDoorP17
import Derived.Test.YtaeimnechonnmaaGreatDoorP18
set_option linter.all false
set_option maxRecDepth 4000
namespace Go.Abs
section
section
variable [dc]
def H36:Ow 10 36:=bU rfl fun ks few hp0=>aZ bF ck rfl (w36 bG Fi G154 G155 N1 N2 ks few hp0)
def H112:Ow 49 112:=bU rfl (aZ bF ck rfl (w112 bG))
def H159:Ow 33 159:=bU rfl fun l i=>aZ bF ck rfl (w159 bG l i)
def H204:Ow 42 204:=bU rfl fun w l hp0=>aZ bF ck rfl (w204 bG N8 N9 w l hp0)
def H374:Ow 48 374:=bU rfl (aZ bF ck rfl (w374 bG G598))
def H380:Ow 56 380:=ud rfl fun g xs hp0 kk E hE nx lc m K hn h0 h1 h10 hK=>Hv rfl hE bF ck rfl hn h0 h1 h10 hK (fun _ _ h=>h) (w380 bG g xs kk E Fi N1 N6 Im G604 G605 hp0 hE)
def H424:Ow 111 424:=bU rfl fun a b hp0=>aZ bF ck rfl (w424 bG ye Ip G631 a b hp0)
def H438:Ow 77 438:=bU rfl fun p c hp0=>aZ bF ck rfl (w438 bG G657 p c hp0)
def H455:Ow 85 455:=bU rfl fun n=>aZ bF ck rfl (w455 bG n)
def H532:Ow 105 532:=bU rfl fun a b=>aZ bF ck rfl (w532 bG G714 a b)
def H601:Ow 89 601:=bU rfl (aZ bF ck rfl (w601 bG))
def H622:Ow 108 622:=bU rfl fun l n hp0=>aZ bF ck rfl (w622 bG Oo l n hp0)
def H634:Ow 60 634:=bU rfl fun c l u hp0=>aZ bF ck rfl (w634 bG Fj c l u hp0)
def H656:Ow 114 656:=bU rfl fun l hp0=>aZ bF ck rfl (w656 bG l hp0)
def H668:Ow 123 668:=bU rfl fun t=>aZ bF ck rfl (w668 bG t)
def H771:Ow 126 771:=bU rfl fun a b hp0=>aZ bF ck rfl (w771 bG Ir G918 a b hp0)
def H785:Ow 96 785:=bU rfl fun c row k mild hp0=>aZ bF ck rfl (w785 bG Ox G931 c row k mild hp0)
def H920:Ow 150 920:=bU rfl fun l f t hp0=>aZ bF ck rfl (w920 bG yc l f t hp0)
def H928:Ow 128 928:=bU rfl fun l b c row k hp0=>aZ bF ck rfl (w928 bG NU l b c row k hp0)
def H934:Ow 134 934:=bU rfl fun c row k x hp0=>aZ bF ck rfl (w934 bG Iq J8 c row k x hp0)
def OC:Ow 164 1024:=bU rfl fun a b hp0=>aZ bF ck rfl (PD bG K6 K9 Fh a b hp0)
def OI:Ow 167 1086:=bU rfl fun c hp0=>aZ bF ck rfl (PJ bG ye c hp0)
def OO:Ow 7 1213:=bU rfl fun a b n=>aZ bF ck rfl (PQ bG G36 G37 G63 G65 G66 G206 a b n)
end
end
section
section
variable [dc]
def H65:Ow 15 65:=bU rfl fun w allow rows hp0=>aZ bF ck rfl (w65 bG G175 N4 w allow rows hp0)
def H156:Ow 29 156:=bU rfl fun v hp0=>aZ bF ck rfl (w156 bG ye Im K7 G377 G378 G379 v hp0)
def H197:Ow 26 197:=bU rfl (aZ bF ck rfl (w197 bG N6))
def H209:Ow 69 209:=bU rfl fun v hp0=>aZ bF ck rfl (w209 bG G440 G441 Oc v hp0)
def H377:Ow 53 377:=bU rfl fun v=>aZ bF ck rfl (w377 bG Og v)
def H408:Ow 68 408:=bU rfl fun a b=>aZ bF ck rfl (w408 bG Oe Of a b)
def H435:Ow 74 435:=ud rfl fun w rows r hp0 nx lo m K h1 h2 hK=>xz (bP (fun _=>rfl) _) (bP (fun _=>rfl) _) rfl rfl bF ck rfl h1 h2 (fun _ _ h=>h) hK (w435 bG w rows r Io G654 G655 G656 hp0)
def H441:Ow 102 441:=bU rfl fun s hp0=>aZ bF ck rfl (w441 bG Oc La Oj Ol s hp0)
def H516:Ow 100 516:=bU rfl fun a b=>aZ bF ck rfl (w516 bG G704 a b)
def H598:Ow 84 598:=bU rfl (aZ bF ck rfl (w598 bG Lb Lc))
def H604:Ow 92 604:=bU rfl fun a b hp0=>aZ bF ck rfl (w604 bG Im Ld G771 a b hp0)
def H631:Ow 143 631:=bU rfl fun a b hp0=>aZ bF ck rfl (w631 bG Od Ip G783 a b hp0)
def H637:Ow 63 637:=bU rfl fun c row i hp0=>aZ bF ck rfl (w637 bG Oi Iq Fj c row i hp0)
def H659:Ow 137 659:=bU rfl fun t=>aZ bF ck rfl (w659 bG t)
def H714:Ow 138 714:=bU rfl fun x=>aZ bF ck rfl (w714 bG x)
def H782:Ow 144 782:=bU rfl fun l v hp0=>aZ bF ck rfl (w782 bG Ir G926 l v hp0)
def H917:Ow 147 917:=bU rfl fun c=>aZ bF ck rfl (w917 bG Oh c)
def H925:Ow 156 925:=bU rfl fun l hp0=>aZ bF ck rfl (w925 bG J6 J7 l hp0)
def H931:Ow 131 931:=bU rfl fun l c row k hp0=>aZ bF ck rfl (w931 bG NV l c row k hp0)
def Oz:Ow 160 1020:=bU rfl fun a b hp0=>aZ bF ck rfl (PA bG N7 Ip Fg a b hp0)
def OF:Ow 153 1027:=bU rfl fun c x hp0=>aZ bF ck rfl (PG bG Fj G712 c x hp0)
def OL:Ow 188 1179:=bU rfl fun b=>aZ bF ck rfl (PM bG b)
end
end
end Go.Abs
