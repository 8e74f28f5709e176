/- A part of the proofs. -/
import Derived.Test.YtaeimnechonnmaaGreatDoorP09
import Derived.Test.YtaeimnechonnmaaGreatDoorP10
import Derived.Test.YtaeimnechonnmaaGreatDoorP11
import Derived.Test.YtaeimnechonnmaaGreatDoorP12
import Derived.Test.YtaeimnechonnmaaGreatDoorP13
import Derived.Test.YtaeimnechonnmaaGreatDoorP14
import Derived.Test.YtaeimnechonnmaaGreatDoorP15
import Derived.Test.YtaeimnechonnmaaGreatDoorP16
import Derived.Test.YtaeimnechonnmaaGreatDoorP17
import Derived.Test.YtaeimnechonnmaaGreatDoorP18
import Derived.Test.YtaeimnechonnmaaGreatDoorP19
import Derived.Test.YtaeimnechonnmaaGreatDoorP20
set_option linter.all false
set_option maxRecDepth 4000
namespace Go.Abs
section
section
variable [dw]
def H36:Ow 10 36:=b9 rfl fun ks few hp0=>bh bU ck rfl (w36 bV He G154 G155 Qw Qx ks few hp0)
def H50:Ow 24 50:=b9 rfl fun w al c hp0=>bh bU ck rfl (w50 bV Nu Qy w al c hp0)
def H112:Ow 49 112:=b9 rfl (bh bU ck rfl (w112 bV))
def H159:Ow 33 159:=b9 rfl fun l i=>bh bU ck rfl (w159 bV l i)
def H198:Ow 13 198:=b9 rfl fun w allow rows i hp0=>bh bU ck rfl (w198 bV G425 w allow rows i hp0)
def H217:Ow 50 217:=b9 rfl fun v hp0=>bh bU ck rfl (w217 bV G455 G456 v hp0)
def H378:Ow 54 378:=b9 rfl fun v=>bh bU ck rfl (w378 bV Nw QN NA v)
def H409:Ow 71 409:=b9 rfl fun c n hp0=>bh bU ck rfl (w409 bV G622 c n hp0)
def H435:Ow 74 435:=vL rfl fun w rows r hp0 nx lo m K h1 h2 hK=>yV (bL (fun _=>rfl) _) (bL (fun _=>rfl) _) rfl rfl bU ck rfl h1 h2 (fun _ _ h=>h) hK (w435 bV w rows r KB G654 G655 G656 hp0)
def H441:Ow 102 441:=b9 rfl fun s hp0=>bh bU ck rfl (w441 bV QI Nz QP QQ s hp0)
def H516:Ow 100 516:=b9 rfl fun a b=>bh bU ck rfl (w516 bV G704 a b)
def H598:Ow 84 598:=b9 rfl (bh bU ck rfl (w598 bV NA NB))
def H604:Ow 92 604:=b9 rfl fun a b hp0=>bh bU ck rfl (w604 bV KA NC G771 a b hp0)
def H631:Ow 143 631:=b9 rfl fun a b hp0=>bh bU ck rfl (w631 bV QJ KC G783 a b hp0)
def H637:Ow 63 637:=b9 rfl fun c row i hp0=>bh bU ck rfl (w637 bV QO KD Hf c row i hp0)
def H659:Ow 137 659:=b9 rfl fun t=>bh bU ck rfl (w659 bV t)
def H714:Ow 138 714:=b9 rfl fun x=>bh bU ck rfl (w714 bV x)
def H782:Ow 144 782:=b9 rfl fun l v hp0=>bh bU ck rfl (w782 bV KE G926 l v hp0)
def H917:Ow 147 917:=b9 rfl fun c=>bh bU ck rfl (w917 bV QN c)
def H925:Ow 156 925:=b9 rfl fun l hp0=>bh bU ck rfl (w925 bV Mp Mq l hp0)
def H931:Ow 131 931:=b9 rfl fun l c row k hp0=>bh bU ck rfl (w931 bV Qq l c row k hp0)
def Q3:Ow 160 1020:=b9 rfl fun a b hp0=>bh bU ck rfl (R6 bV QD KC Hc a b hp0)
def Q9:Ow 153 1027:=b9 rfl fun c x hp0=>bh bU ck rfl (Sc bV Hf G712 c x hp0)
def Rf:Ow 188 1179:=b9 rfl fun b=>bh bU ck rfl (Sj bV b)
end
end
section
section
variable [dw]
def H47:Ow 21 47:=b9 rfl fun w hp0=>bh bU ck rfl (w47 bV w hp0)
def H66:Ow 17 66:=b9 rfl fun w allow hp0=>bh bU ck rfl (w66 bV yh G203 QA G205 w allow hp0)
def H156:Ow 29 156:=b9 rfl fun v hp0=>bh bU ck rfl (w156 bV zt KA Nw G377 G378 G379 v hp0)
def H184:Ow 45 184:=b9 rfl fun c l hp0=>bh bU ck rfl (w184 bV G416 c l hp0)
def H205:Ow 43 205:=vL rfl ⟨fun w al facts c rows hp0 nx lp ln lc m K h1 h2 h3 hx hK=>Iu (af:=fN) bU ck rfl h1 h2 h3 hx hK (by show cq _ _ _ [⟨true,.ptr 0 3 0 0⟩,⟨true,.own 2 1 0 c.length⟩,.un,.un,.un,.un,.un,.un,.un,.un,.un,.un,.un,.un,.un,.un] _;refine cu 2 ?_ (hm:=Lk);exact Sm bV w al facts c rows yh (Ms (Nat.le_of_eq (DJ h1).symm)) KB QG QH hp0),fun w al facts rows hp0 nx lp ln m K h1 h2 hx hK=>It (af:=fN) bU ck rfl h1 h2 hx hK (by show cq _ _ _ [⟨true,.ptr 0 3 0 0⟩,⟨true,.aG⟩,.un,.un,.un,.un,.un,.un,.un,.un,.un,.un,.un,.un,.un,.un] _;refine dt (aU.nz _ [_,⟨true,.sl 1 []⟩,_,_,_,_,_,_,_,_,_,_,_,_,_,_] _ _ [(0,.buf 3 [j5.D ⟨w,facts,.own 1 5 0 rows.length⟩]),(1,.buf 5 (rows.map ar.D))] ⟨⟨rfl,.refl _⟩,⟨rfl,.nil 1⟩,⟨rfl,.refl _⟩,⟨rfl,.refl _⟩,⟨rfl,.refl _⟩,⟨rfl,.refl _⟩,⟨rfl,.refl _⟩,⟨rfl,.refl _⟩,⟨rfl,.refl _⟩,⟨rfl,.refl _⟩,⟨rfl,.refl _⟩,⟨rfl,.refl _⟩,⟨rfl,.refl _⟩,⟨rfl,.refl _⟩,⟨rfl,.refl _⟩,⟨rfl,.refl _⟩,trivial⟩ (jJ.id bX (jJ.id bX jJ.nil))) ?_;exact Sm bV w al facts [] rows yh (Ms (Nat.le_of_eq (DI h1).symm)) KB QG QH hp0)⟩
def H375:Ow 51 375:=b9 rfl (bh bU ck rfl (w375 bV))
def H381:Ow 57 381:=b9 rfl fun n hp0=>bh bU ck rfl (w381 bV n hp0)
def H424:Ow 111 424:=b9 rfl fun a b hp0=>bh bU ck rfl (w424 bV zt KC G631 a b hp0)
def H438:Ow 77 438:=b9 rfl fun p c hp0=>bh bU ck rfl (w438 bV G657 p c hp0)
def H455:Ow 85 455:=b9 rfl fun n=>bh bU ck rfl (w455 bV n)
def H532:Ow 105 532:=b9 rfl fun a b=>bh bU ck rfl (w532 bV G714 a b)
def H601:Ow 89 601:=b9 rfl (bh bU ck rfl (w601 bV))
def H622:Ow 108 622:=b9 rfl fun l n hp0=>bh bU ck rfl (w622 bV QT l n hp0)
def H634:Ow 60 634:=b9 rfl fun c l u hp0=>bh bU ck rfl (w634 bV Hf c l u hp0)
def H656:Ow 114 656:=b9 rfl fun l hp0=>bh bU ck rfl (w656 bV l hp0)
def H668:Ow 123 668:=b9 rfl fun t=>bh bU ck rfl (w668 bV t)
def H771:Ow 126 771:=b9 rfl fun a b hp0=>bh bU ck rfl (w771 bV KE G918 a b hp0)
def H785:Ow 96 785:=b9 rfl fun c row k mild hp0=>bh bU ck rfl (w785 bV QZ G931 c row k mild hp0)
def H920:Ow 150 920:=b9 rfl fun l f t hp0=>bh bU ck rfl (w920 bV zr l f t hp0)
def H928:Ow 128 928:=b9 rfl fun l b c row k hp0=>bh bU ck rfl (w928 bV Qp l b c row k hp0)
def H934:Ow 134 934:=b9 rfl fun c row k x hp0=>bh bU ck rfl (w934 bV KD Mr c row k x hp0)
def Q6:Ow 164 1024:=b9 rfl fun a b hp0=>bh bU ck rfl (R9 bV Nv Ny Hd a b hp0)
def Rc:Ow 167 1086:=b9 rfl fun c hp0=>bh bU ck rfl (Sf bV zt c hp0)
end
end
end Go.Abs
