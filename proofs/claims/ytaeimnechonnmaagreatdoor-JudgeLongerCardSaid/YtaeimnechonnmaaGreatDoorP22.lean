/- A part of the proofs. -/
import Derived.Test.YtaeimnechonnmaaGreatDoorP09
import Derived.Test.YtaeimnechonnmaaGreatDoorP10
import Derived.Test.YtaeimnechonnmaaGreatDoorP11
import Derived.Test.YtaeimnechonnmaaGreatDoorP12
import Derived.Test.YtaeimnechonnmaaGreatDoorP13
import Derived.Test.YtaeimnechonnmaaGreatDoorP14
import Derived.Test.YtaeimnechonnmaaGreatDoorP15
import Derived.Test.YtaeimnechonnmaaGreatDoorP16
import Derived.Test.YtaeimnechonnmaaGreatDoorP17
import Derived.Test.YtaeimnechonnmaaGreatDoorP18
set_option linter.all false
set_option maxRecDepth 4000
namespace Go.Abs
section
section
variable [df]
def H37:Ow 11 37:=bV rfl fun w ks hp0=>aZ bI ck rfl (w37 bJ G25 yr On w ks hp0)
def H154:Ow 27 154:=uE rfl fun g few hp0 nx m K h0 hx hK=>BC rfl (u9 _ _).2 (u9 _ _).1 bI ck rfl h0 hx (fun _ _ h=>h) hK (w154 bJ g few Fx G112 hp0)
def H175:Ow 39 175:=bV rfl fun w hp0=>aZ bI ck rfl (w175 bJ D2 Lm G408 G409 w hp0)
def H205:Ow 43 205:=uE rfl ⟨fun w al facts c rows hp0 nx lp ln lc m K h1 h2 h3 hx hK=>GC (af:=fe) bI ck rfl h1 h2 h3 hx hK (by show bZ _ _ _ [⟨true,.ptr 0 3 0 0⟩,⟨true,.own 2 1 0 c.length⟩,.un,.un,.un,.un,.un,.un,.un,.un,.un,.un,.un,.un,.un,.un] _;refine du 2 ?_ (hm:=Ji);exact Qc bJ w al facts c rows yr (Kk (Nat.le_of_eq (Cm h1).symm)) IA Oy Oz hp0),fun w al facts rows hp0 nx lp ln m K h1 h2 hx hK=>GB (af:=fe) bI ck rfl h1 h2 hx hK (by show bZ _ _ _ [⟨true,.ptr 0 3 0 0⟩,⟨true,.aA⟩,.un,.un,.un,.un,.un,.un,.un,.un,.un,.un,.un,.un,.un,.un] _;refine de (aP.nz _ [_,⟨true,.sl 1 []⟩,_,_,_,_,_,_,_,_,_,_,_,_,_,_] _ _ [(0,.buf 3 [jE.D ⟨w,facts,.own 1 5 0 rows.length⟩]),(1,.buf 5 (rows.map aq.D))] ⟨⟨rfl,.refl _⟩,⟨rfl,.nil 1⟩,⟨rfl,.refl _⟩,⟨rfl,.refl _⟩,⟨rfl,.refl _⟩,⟨rfl,.refl _⟩,⟨rfl,.refl _⟩,⟨rfl,.refl _⟩,⟨rfl,.refl _⟩,⟨rfl,.refl _⟩,⟨rfl,.refl _⟩,⟨rfl,.refl _⟩,⟨rfl,.refl _⟩,⟨rfl,.refl _⟩,⟨rfl,.refl _⟩,⟨rfl,.refl _⟩,trivial⟩ (iS.id cv (iS.id cv iS.nil))) ?_;exact Qc bJ w al facts [] rows yr (Kk (Nat.le_of_eq (Cl h1).symm)) IA Oy Oz hp0)⟩
def H375:Ow 51 375:=bV rfl (aZ bI ck rfl (w375 bJ))
def H381:Ow 57 381:=bV rfl fun n hp0=>aZ bI ck rfl (w381 bJ n hp0)
def H425:Ow 34 425:=bV rfl fun c i hp0=>aZ bI ck rfl (w425 bJ OG G633 IC G635 Fy G637 Og Oh Oi Oj c i hp0)
def H439:Ow 78 439:=bV rfl fun w a b u hp0=>aZ bI ck rfl (w439 bJ IA Ov Ox w a b u hp0)
def H456:Ow 86 456:=bV rfl fun s p hp0=>aZ bI ck rfl (w456 bJ OB G666 OJ OK s p hp0)
def H533:Ow 106 533:=bV rfl fun s b hp0=>aZ bI ck rfl (w533 bJ s b hp0)
def H602:Ow 90 602:=bV rfl fun v hp0=>aZ bI ck rfl (w602 bJ yt G769 v hp0)
def H627:Ow 116 627:=bV rfl fun s v hp0=>aZ bI ck rfl (w627 bJ yt Lu G782 s v hp0)
def H635:Ow 61 635:=bV rfl fun c row mild hp0=>aZ bI ck rfl (w635 bJ G615 G785 c row mild hp0)
def H657:Ow 115 657:=bV rfl fun w t c hp0=>aZ bI ck rfl (w657 bJ G185 w t c hp0)
def H704:Ow 135 704:=bV rfl fun x=>aZ bI ck rfl (w704 bJ x)
def H772:Ow 127 772:=bV rfl fun l hp0=>aZ bI ck rfl (w772 bJ ID OM ON OO l hp0)
def H861:Ow 168 861:=bV rfl fun l v hp0=>aZ bI ck rfl (w861 bJ OP G980 l v hp0)
def H921:Ow 151 921:=uE rfl fun out f t' hp0 nx lo m K h1 h2 hK=>zj (bQ (fun _=>rfl) _) (bQ (fun _=>rfl) _) rfl bI ck rfl h1 h2 (fun _ _ h=>h) hK (w921 bJ out f t' yq hp0)
def H929:Ow 129 929:=bV rfl fun x c row k hp0=>aZ bI ck rfl (w929 bJ G930 x c row k hp0)
def H980:Ow 170 980:=bV rfl fun s v hp0=>aZ bI ck rfl (w980 bJ D2 Kh Of s v hp0)
def OW:Ow 166 1025:=bV rfl fun c v hp0=>aZ bI ck rfl (P0 bJ yt Ou Fv c v hp0)
def O2:Ow 169 1087:=bV rfl fun c hp0=>aZ bI ck rfl (P6 bJ D2 c hp0)
end
end
section
section
variable [df]
def H66:Ow 17 66:=bV rfl fun w allow hp0=>aZ bI ck rfl (w66 bJ yr G203 Oq G205 w allow hp0)
def H157:Ow 31 157:=uE rfl fun g n nm ft cs kk E hE hp0 nx m K hx hW hK=>z6 rfl hE rfl hp0.2.1.2 bI ck rfl hx hW ⟨rfl,rfl,eight rfl rfl rfl rfl rfl rfl rfl rfl,rfl⟩ (fun _ h=>z7 h) hK (fun _ _ h=>h) (w157 bJ g n nm ft cs kk E Fx G380 hp0 hE)
def H198:Ow 13 198:=bV rfl fun w allow rows i hp0=>aZ bI ck rfl (w198 bJ G425 w allow rows i hp0)
def H217:Ow 50 217:=bV rfl fun v hp0=>aZ bI ck rfl (w217 bJ G455 G456 v hp0)
def H378:Ow 54 378:=bV rfl fun v=>aZ bI ck rfl (w378 bJ Ln OF Lr v)
def H409:Ow 71 409:=bV rfl fun c n hp0=>aZ bI ck rfl (w409 bJ G622 c n hp0)
def H436:Ow 75 436:=uE rfl fun w hp0 nx m K hK=>uz (dv:=fun j=>.own j 1 0 w.us.length) bI ck rfl rfl (bQ (fun _=>rfl) _) (fun j=>by simp[jF,qe,eS]) (fun _ _ h=>h) hK (w436 bJ w yr hp0)
def H442:Ow 103 442:=bV rfl fun s hp0=>aZ bI ck rfl (w442 bJ Lq s hp0)
def H530:Ow 104 530:=bV rfl fun v=>aZ bI ck rfl (w530 bJ v)
def H599:Ow 87 599:=bV rfl fun v=>aZ bI ck rfl (w599 bJ v)
def H605:Ow 93 605:=bV rfl fun a hp0=>aZ bI ck rfl (w605 bJ Iz Lu G772 a hp0)
def H632:Ow 58 632:=bV rfl fun c l hp0=>aZ bI ck rfl (w632 bJ Fy c l hp0)
def H654:Ow 112 654:=bV rfl fun a b=>aZ bI ck rfl (w654 bJ a b)
def H666:Ow 121 666:=bV rfl fun t=>aZ bI ck rfl (w666 bJ t)
def H769:Ow 124 769:=bV rfl fun v p hp0=>aZ bI ck rfl (w769 bJ yt v p hp0)
def H783:Ow 157 783:=bV rfl fun a b=>aZ bI ck rfl (w783 bJ IB OJ OK G927 a b)
def H918:Ow 148 918:=uE rfl fun l hp0 nx lo m K h1 h2 hK=>xP (bQ (fun _=>rfl) _) rfl rfl bI ck rfl h1 h2 (fun _ _ h=>h) hK (w918 bJ l OM ON OO Fu hp0)
def H926:Ow 158 926:=bV rfl fun s v hp0=>aZ bI ck rfl (w926 bJ yt Fu Oc s v hp0)
def H932:Ow 132 932:=bV rfl fun x c row k hp0=>aZ bI ck rfl (w932 bJ OQ x c row k hp0)
def OT:Ow 161 1021:=bV rfl fun l c hp0=>aZ bI ck rfl (PX bJ yq l c hp0)
def OZ:Ow 154 1028:=bV rfl fun l c row k hp0=>aZ bI ck rfl (P3 bJ G932 l c row k hp0)
def O5:Ow 189 1180:=bV rfl (aZ bI ck rfl (P9 bJ))
end
end
end Go.Abs
