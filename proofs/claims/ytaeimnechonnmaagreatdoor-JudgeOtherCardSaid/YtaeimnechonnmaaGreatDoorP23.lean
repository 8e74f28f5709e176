/- A part of the proofs. -/
import Derived.Test.YtaeimnechonnmaaGreatDoorP09
import Derived.Test.YtaeimnechonnmaaGreatDoorP10
import Derived.Test.YtaeimnechonnmaaGreatDoorP11
import Derived.Test.YtaeimnechonnmaaGreatDoorP12
import Derived.Test.YtaeimnechonnmaaGreatDoorP13
import Derived.Test.YtaeimnechonnmaaGreatDoorP14
import Derived.Test.YtaeimnechonnmaaGreatDoorP15
import Derived.Test.YtaeimnechonnmaaGreatDoorP16
import Derived.Test.YtaeimnechonnmaaGreatDoorP17
import Derived.Test.YtaeimnechonnmaaGreatDoorP18
import Derived.Test.YtaeimnechonnmaaGreatDoorP19
import Derived.Test.YtaeimnechonnmaaGreatDoorP20
set_option linter.all false
set_option maxRecDepth 4000
namespace Go.Abs
section
section
variable [dq]
def H36:Ow 10 36:=cb rfl fun ks few hp0=>a7 bN ck rfl (w36 bO Hs G154 G155 QK QL ks few hp0)
def H112:Ow 49 112:=cb rfl (a7 bN ck rfl (w112 bO))
def H159:Ow 33 159:=cb rfl fun l i=>a7 bN ck rfl (w159 bO l i)
def H198:Ow 13 198:=cb rfl fun w allow rows i hp0=>a7 bN ck rfl (w198 bO G425 w allow rows i hp0)
def H267:Ow 25 267:=cb rfl fun w a hp0=>a7 bN ck rfl (w267 bO G46 G505 w a hp0)
def H378:Ow 54 378:=cb rfl fun v=>a7 bN ck rfl (w378 bO NB Q4 NH v)
def H409:Ow 71 409:=cb rfl fun c n hp0=>a7 bN ck rfl (w409 bO G622 c n hp0)
def H435:Ow 74 435:=wU rfl fun w rows r hp0 nx lo m K h1 h2 hK=>yL (bW (fun _=>rfl) _) (bW (fun _=>rfl) _) rfl rfl bN ck rfl h1 h2 (fun _ _ h=>h) hK (w435 bO w rows r KC G654 G655 G656 hp0)
def H441:Ow 102 441:=cb rfl fun s hp0=>a7 bN ck rfl (w441 bO QW NG Q6 Q7 s hp0)
def H505:Ow 47 505:=cb rfl fun m a c hp0=>a7 bN ck rfl (w505 bO G692 Ra G694 m a c (QY (Nat.le_of_eq DM.symm)) hp0)
def H534:Ow 107 534:=cb rfl fun a b=>a7 bN ck rfl (w534 bO QZ ND Q6 Q7 a b)
def H603:Ow 91 603:=cb rfl (a7 bN ck rfl (w603 bO))
def H630:Ow 142 630:=cb rfl fun a b=>a7 bN ck rfl (w630 bO a b)
def H636:Ow 62 636:=cb rfl fun c u hp0=>a7 bN ck rfl (w636 bO c u hp0)
def H658:Ow 136 658:=cb rfl fun s=>a7 bN ck rfl (w658 bO s)
def H693:Ow 82 693:=cb rfl fun m al c hp0=>a7 bN ck rfl (w693 bO QM NK m al c hp0)
def H770:Ow 125 770:=cb rfl fun s hp0=>a7 bN ck rfl (w770 bO KF G917 s hp0)
def H784:Ow 95 784:=cb rfl fun t row=>a7 bN ck rfl (w784 bO t row)
def H916:Ow 146 916:=cb rfl fun l hp0=>a7 bN ck rfl (w916 bO Hp zm l hp0)
def H924:Ow 155 924:=cb rfl fun c=>a7 bN ck rfl (w924 bO c)
def H930:Ow 130 930:=cb rfl fun c row k x hp0=>a7 bN ck rfl (w930 bO KE Mw c row k x hp0)
def Rh:Ow 159 1019:=cb rfl fun s hp0=>a7 bN ck rfl (Sl bO zm Hq s hp0)
def Rn:Ow 152 1026:=cb rfl fun l b c row k hp0=>a7 bN ck rfl (Sr bO G929 G933 l b c row k hp0)
def Rt:Ow 187 1178:=cb rfl (a7 bN ck rfl (Sy bO))
end
end
section
section
variable [dq]
def H65:Ow 15 65:=cb rfl fun w allow rows hp0=>a7 bN ck rfl (w65 bO G175 QN w allow rows hp0)
def H156:Ow 29 156:=cb rfl fun v hp0=>a7 bN ck rfl (w156 bO zo KB NB G377 G378 G379 v hp0)
def H184:Ow 45 184:=cb rfl fun c l hp0=>a7 bN ck rfl (w184 bO G416 c l hp0)
def H205:Ow 43 205:=wU rfl ⟨fun w al facts c rows hp0 nx lp ln lc m K h1 h2 h3 hx hK=>IH (af:=fM) bN ck rfl h1 h2 h3 hx hK (by show cr _ _ _ [⟨true,.ptr 0 3 0 0⟩,⟨true,.own 2 1 0 c.length⟩,.un,.un,.un,.un,.un,.un,.un,.un,.un,.un,.un,.un,.un,.un] _;refine cU 2 ?_ (hm:=Ln);exact SD bO w al facts c rows zn (Mx (Nat.le_of_eq (DK h1).symm)) KC QU QV hp0),fun w al facts rows hp0 nx lp ln m K h1 h2 hx hK=>IG (af:=fM) bN ck rfl h1 h2 hx hK (by show cr _ _ _ [⟨true,.ptr 0 3 0 0⟩,⟨true,.aB⟩,.un,.un,.un,.un,.un,.un,.un,.un,.un,.un,.un,.un,.un,.un] _;refine dG (aP.nz _ [_,⟨true,.sl 1 []⟩,_,_,_,_,_,_,_,_,_,_,_,_,_,_] _ _ [(0,.buf 3 [kj.D ⟨w,facts,.own 1 5 0 rows.length⟩]),(1,.buf 5 (rows.map av.D))] ⟨⟨rfl,.refl _⟩,⟨rfl,.nil 1⟩,⟨rfl,.refl _⟩,⟨rfl,.refl _⟩,⟨rfl,.refl _⟩,⟨rfl,.refl _⟩,⟨rfl,.refl _⟩,⟨rfl,.refl _⟩,⟨rfl,.refl _⟩,⟨rfl,.refl _⟩,⟨rfl,.refl _⟩,⟨rfl,.refl _⟩,⟨rfl,.refl _⟩,⟨rfl,.refl _⟩,⟨rfl,.refl _⟩,⟨rfl,.refl _⟩,trivial⟩ (kl.id cz (kl.id cz kl.nil))) ?_;exact SD bO w al facts [] rows zn (Mx (Nat.le_of_eq (DJ h1).symm)) KC QU QV hp0)⟩
def H375:Ow 51 375:=cb rfl (a7 bN ck rfl (w375 bO))
def H381:Ow 57 381:=cb rfl fun n hp0=>a7 bN ck rfl (w381 bO n hp0)
def H424:Ow 111 424:=cb rfl fun a b hp0=>a7 bN ck rfl (w424 bO zo KD G631 a b hp0)
def H438:Ow 77 438:=cb rfl fun p c hp0=>a7 bN ck rfl (w438 bO G657 p c hp0)
def H455:Ow 85 455:=cb rfl fun n=>a7 bN ck rfl (w455 bO n)
def H531:Ow 99 531:=cb rfl fun l=>a7 bN ck rfl (w531 bO l)
def H600:Ow 88 600:=cb rfl fun v=>a7 bN ck rfl (w600 bO v)
def H615:Ow 94 615:=cb rfl fun l row=>a7 bN ck rfl (w615 bO G784 l row)
def H633:Ow 59 633:=cb rfl fun k=>a7 bN ck rfl (w633 bO k)
def H655:Ow 113 655:=cb rfl fun l u hp0=>a7 bN ck rfl (w655 bO l u hp0)
def H667:Ow 122 667:=cb rfl fun s=>a7 bN ck rfl (w667 bO G454 s)
def H712:Ow 162 712:=cb rfl fun s v hp0=>a7 bN ck rfl (w712 bO FF Rb G861 s v hp0)
def H780:Ow 139 780:=cb rfl fun s hp0=>a7 bN ck rfl (w780 bO G924 Rf s hp0)
def H830:Ow 118 830:=cb rfl fun od u n hp0=>a7 bN ck rfl (w830 bO od u n hp0)
def H919:Ow 149 919:=cb rfl fun l hp0=>a7 bN ck rfl (w919 bO NH NI QB l hp0)
def H927:Ow 165 927:=cb rfl fun a b=>a7 bN ck rfl (w927 bO a b)
def H933:Ow 133 933:=cb rfl fun x c row k hp0=>a7 bN ck rfl (w933 bO G934 x c row k hp0)
def Rk:Ow 163 1023:=cb rfl fun s hp0=>a7 bN ck rfl (So bO Mv Hr s hp0)
def Rq:Ow 171 1055:=cb rfl fun c v hp0=>a7 bN ck rfl (Sv bO FF NA Hr c v hp0)
def Rw:Ow 190 1181:=cb rfl (a7 bN ck rfl (SB bO))
end
end
end Go.Abs
