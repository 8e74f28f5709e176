/- A part of the proofs. -/
import Derived.Test.YtaeimnechonnmaaGreatDoorP09
import Derived.Test.YtaeimnechonnmaaGreatDoorP10
import Derived.Test.YtaeimnechonnmaaGreatDoorP11
import Derived.Test.YtaeimnechonnmaaGreatDoorP12
import Derived.Test.YtaeimnechonnmaaGreatDoorP13
import Derived.Test.YtaeimnechonnmaaGreatDoorP14
import Derived.Test.YtaeimnechonnmaaGreatDoorP15
import Derived.Test.YtaeimnechonnmaaGreatDoorP16
import Derived.Test.YtaeimnechonnmaaGreatDoorP17
import Derived.Test.YtaeimnechonnmaaGreatDoorP18
import Derived.Test.YtaeimnechonnmaaGreatDoorP19
import Derived.Test.YtaeimnechonnmaaGreatDoorP20
set_option linter.all false
set_option maxRecDepth 4000
namespace Go.Abs
section
section
variable [du]
def H36:Ow 10 36:=bZ rfl fun ks few hp0=>aW bI ck rfl (w36 bJ Hd G154 G155 Qt Qu ks few hp0)
def H109:Ow 30 109:=oweF rfl Qi fun g n hp0 hp1=>Ru 2 bI ck rfl rfl (w109 bJ G25 Qv g n hp0 hp1)
def H157:Ow 31 157:=vK rfl fun g n nm ft cs kk E hE hp0 nx m K hx hW hK=>Bi rfl hE rfl hp0.2.1.2 bI ck rfl hx hW ⟨rfl,rfl,eight rfl rfl rfl rfl rfl rfl rfl rfl,rfl⟩ (fun _ h=>Bj h) hK (fun _ _ h=>h) (w157 bJ g n nm ft cs kk E Hd G380 hp0 hE)
def H182:Ow 65 182:=bZ rfl fun a b=>aW bI ck rfl (w182 bJ a b)
def H205:Ow 43 205:=vK rfl ⟨fun w al facts c rows hp0 nx lp ln lc m K h1 h2 h3 hx hK=>Is (af:=fO) bI ck rfl h1 h2 h3 hx hK (by show cq _ _ _ [⟨true,.ptr 0 3 0 0⟩,⟨true,.own 2 1 0 c.length⟩,.un,.un,.un,.un,.un,.un,.un,.un,.un,.un,.un,.un,.un,.un] _;refine cC 2 ?_ (hm:=K6);exact Si bJ w al facts c rows yh (Mg (Nat.le_of_eq (DE h1).symm)) yj QD QE hp0),fun w al facts rows hp0 nx lp ln m K h1 h2 hx hK=>Ir (af:=fO) bI ck rfl h1 h2 hx hK (by show cq _ _ _ [⟨true,.ptr 0 3 0 0⟩,⟨true,.aG⟩,.un,.un,.un,.un,.un,.un,.un,.un,.un,.un,.un,.un,.un,.un] _;refine dt (aS.nz _ [_,⟨true,.sl 1 []⟩,_,_,_,_,_,_,_,_,_,_,_,_,_,_] _ _ [(0,.buf 3 [j4.D ⟨w,facts,.own 1 5 0 rows.length⟩]),(1,.buf 5 (rows.map aj.D))] ⟨⟨rfl,.refl _⟩,⟨rfl,.nil 1⟩,⟨rfl,.refl _⟩,⟨rfl,.refl _⟩,⟨rfl,.refl _⟩,⟨rfl,.refl _⟩,⟨rfl,.refl _⟩,⟨rfl,.refl _⟩,⟨rfl,.refl _⟩,⟨rfl,.refl _⟩,⟨rfl,.refl _⟩,⟨rfl,.refl _⟩,⟨rfl,.refl _⟩,⟨rfl,.refl _⟩,⟨rfl,.refl _⟩,⟨rfl,.refl _⟩,trivial⟩ (jI.id ch (jI.id ch jI.nil))) ?_;exact Si bJ w al facts [] rows yh (Mg (Nat.le_of_eq (DC h1).symm)) yj QD QE hp0)⟩
def H374:Ow 48 374:=bZ rfl (aW bI ck rfl (w374 bJ G598))
def H380:Ow 56 380:=vK rfl fun g xs hp0 kk E hE nx lc m K hn h0 h1 h10 hK=>Jw rfl hE bI ck rfl hn h0 h1 h10 hK (fun _ _ h=>h) (w380 bJ g xs kk E Hd Qt QA Kl G604 G605 hp0 hE)
def H409:Ow 71 409:=bZ rfl fun c n hp0=>aW bI ck rfl (w409 bJ G622 c n hp0)
def H436:Ow 75 436:=vK rfl fun w hp0 nx m K hK=>vF (dv:=fun j=>.own j 1 0 w.us.length) bI ck rfl rfl (cd (fun _=>rfl) _) (fun j=>by simp[jm,qh,fh]) (fun _ _ h=>h) hK (w436 bJ w yh hp0)
def H442:Ow 103 442:=bZ rfl fun s hp0=>aW bI ck rfl (w442 bJ Np s hp0)
def H530:Ow 104 530:=bZ rfl fun v=>aW bI ck rfl (w530 bJ v)
def H591:Ow 38 591:=bZ rfl fun w row hp0=>aW bI ck rfl (w591 bJ yj G762 G763 w row hp0)
def H603:Ow 91 603:=bZ rfl (aW bI ck rfl (w603 bJ))
def H622:Ow 108 622:=bZ rfl fun l n hp0=>aW bI ck rfl (w622 bJ QR l n hp0)
def H634:Ow 60 634:=bZ rfl fun c l u hp0=>aW bI ck rfl (w634 bJ He c l u hp0)
def H656:Ow 114 656:=bZ rfl fun l hp0=>aW bI ck rfl (w656 bJ l hp0)
def H668:Ow 123 668:=bZ rfl fun t=>aW bI ck rfl (w668 bJ t)
def H769:Ow 124 769:=bZ rfl fun v p hp0=>aW bI ck rfl (w769 bJ yi v p hp0)
def H780:Ow 139 780:=bZ rfl fun s hp0=>aW bI ck rfl (w780 bJ G924 QW s hp0)
def H913:Ow 97 913:=bZ rfl fun w l row bit hp0=>aW bI ck rfl (w913 bJ yj Nl w l row bit hp0)
def H920:Ow 150 920:=bZ rfl fun l f t hp0=>aW bI ck rfl (w920 bJ zt l f t hp0)
def H928:Ow 128 928:=bZ rfl fun l b c row k hp0=>aW bI ck rfl (w928 bJ Qm l b c row k hp0)
def H934:Ow 134 934:=bZ rfl fun c row k x hp0=>aW bI ck rfl (w934 bJ Ko Mf c row k x hp0)
def Q4:Ow 164 1024:=bZ rfl fun a b hp0=>aW bI ck rfl (R4 bJ Nj No Hc a b hp0)
def Ra:Ow 167 1086:=bZ rfl fun c hp0=>aW bI ck rfl (Sa bJ yi c hp0)
def Rg:Ow 4 1211:=bZ rfl fun a b at1 wh by1 pl=>aW bI ck rfl (Sg bJ G25 G36 G37 G63 G65 G66 G67 G150 Ni Qz a b at1 wh by1 pl)
end
end
section
section
variable [du]
def H65:Ow 15 65:=bZ rfl fun w allow rows hp0=>aW bI ck rfl (w65 bJ G175 Ni w allow rows hp0)
def H154:Ow 27 154:=vK rfl fun g few hp0 nx m K h0 hx hK=>CY rfl (wg _ _).2 (wg _ _).1 bI ck rfl h0 hx (fun _ _ h=>h) hK (w154 bJ g few Hd G112 hp0)
def H169:Ow 40 169:=bZ rfl fun w hp0=>aW bI ck rfl (w169 bJ G403 w hp0)
def H198:Ow 13 198:=bZ rfl fun w allow rows i hp0=>aW bI ck rfl (w198 bJ G425 w allow rows i hp0)
def H217:Ow 50 217:=bZ rfl fun v hp0=>aW bI ck rfl (w217 bJ G455 G456 v hp0)
def H377:Ow 53 377:=bZ rfl fun v=>aW bI ck rfl (w377 bJ QJ v)
def H405:Ow 64 405:=bZ rfl fun w t hp0=>aW bI ck rfl (w405 bJ yh w t hp0)
def H425:Ow 34 425:=bZ rfl fun c i hp0=>aW bI ck rfl (w425 bJ QL G633 Ko G635 He G637 Qp Qq Qr Qs c i hp0)
def H439:Ow 78 439:=bZ rfl fun w a b u hp0=>aW bI ck rfl (w439 bJ yj QB QC w a b u hp0)
def H456:Ow 86 456:=bZ rfl fun s p hp0=>aW bI ck rfl (w456 bJ QG G666 QO QP s p hp0)
def H533:Ow 106 533:=bZ rfl fun s b hp0=>aW bI ck rfl (w533 bJ s b hp0)
def H600:Ow 88 600:=bZ rfl fun v=>aW bI ck rfl (w600 bJ v)
def H615:Ow 94 615:=bZ rfl fun l row=>aW bI ck rfl (w615 bJ G784 l row)
def H631:Ow 143 631:=bZ rfl fun a b hp0=>aW bI ck rfl (w631 bJ QG Kn G783 a b hp0)
def H637:Ow 63 637:=bZ rfl fun c row i hp0=>aW bI ck rfl (w637 bJ QL Ko He c row i hp0)
def H659:Ow 137 659:=bZ rfl fun t=>aW bI ck rfl (w659 bJ t)
def H714:Ow 138 714:=bZ rfl fun x=>aW bI ck rfl (w714 bJ x)
def H772:Ow 127 772:=bZ rfl fun l hp0=>aW bI ck rfl (w772 bJ Kr QS QT QV l hp0)
def H784:Ow 95 784:=bZ rfl fun t row=>aW bI ck rfl (w784 bJ t row)
def H917:Ow 147 917:=bZ rfl fun c=>aW bI ck rfl (w917 bJ QK c)
def H925:Ow 156 925:=bZ rfl fun l hp0=>aW bI ck rfl (w925 bJ Md Me l hp0)
def H931:Ow 131 931:=bZ rfl fun l c row k hp0=>aW bI ck rfl (w931 bJ Qn l c row k hp0)
def QZ:Ow 160 1020:=bZ rfl fun a b hp0=>aW bI ck rfl (R1 bJ Nn Kn Hb a b hp0)
def Q7:Ow 153 1027:=bZ rfl fun c x hp0=>aW bI ck rfl (R7 bJ He G712 c x hp0)
def Rd:Ow 188 1179:=bZ rfl fun b=>aW bI ck rfl (Sd bJ b)
end
end
end Go.Abs
