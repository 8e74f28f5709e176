/- A part of the proofs. -/
import Derived.Test.YtaeimnechonnmaaGreatDoorP09
import Derived.Test.YtaeimnechonnmaaGreatDoorP10
import Derived.Test.YtaeimnechonnmaaGreatDoorP11
import Derived.Test.YtaeimnechonnmaaGreatDoorP12
import Derived.Test.YtaeimnechonnmaaGreatDoorP13
import Derived.Test.YtaeimnechonnmaaGreatDoorP14
import Derived.Test.YtaeimnechonnmaaGreatDoorP15
import Derived.Test.YtaeimnechonnmaaGreatDoorP16
import Derived.Test.YtaeimnechonnmaaGreatDoorP17
import Derived.Test.YtaeimnechonnmaaGreatDoorP18
set_option linter.all false
set_option maxRecDepth 4000
namespace Go.Abs
section
section
variable [dc]
def H37:Ow 11 37:=bU rfl fun w ks hp0=>aZ bF ck rfl (w37 bG G25 yd N3 w ks hp0)
def H154:Ow 27 154:=ud rfl fun g few hp0 nx m K h0 hx hK=>Bs rfl (uD _ _).2 (uD _ _).1 bF ck rfl h0 hx (fun _ _ h=>h) hK (w154 bG g few Fi G112 hp0)
def H175:Ow 39 175:=bU rfl fun w hp0=>aZ bF ck rfl (w175 bG DO K6 G408 G409 w hp0)
def H205:Ow 43 205:=ud rfl ⟨fun w al facts c rows hp0 nx lp ln lc m K h1 h2 h3 hx hK=>Gm (af:=eX) bF ck rfl h1 h2 h3 hx hK (by show bX _ _ _ [⟨true,.ptr 0 3 0 0⟩,⟨true,.own 2 1 0 c.length⟩,.un,.un,.un,.un,.un,.un,.un,.un,.un,.un,.un,.un,.un,.un] _;refine dt 2 ?_ (hm:=I8);exact PR bG w al facts c rows yd (J9 (Nat.le_of_eq (B9 h1).symm)) Io Oa Ob hp0),fun w al facts rows hp0 nx lp ln m K h1 h2 hx hK=>Gl (af:=eX) bF ck rfl h1 h2 hx hK (by show bX _ _ _ [⟨true,.ptr 0 3 0 0⟩,⟨true,.aA⟩,.un,.un,.un,.un,.un,.un,.un,.un,.un,.un,.un,.un,.un,.un] _;refine df (aP.nz _ [_,⟨true,.sl 1 []⟩,_,_,_,_,_,_,_,_,_,_,_,_,_,_] _ _ [(0,.buf 3 [jD.D ⟨w,facts,.own 1 5 0 rows.length⟩]),(1,.buf 5 (rows.map ar.D))] ⟨⟨rfl,.refl _⟩,⟨rfl,.nil 1⟩,⟨rfl,.refl _⟩,⟨rfl,.refl _⟩,⟨rfl,.refl _⟩,⟨rfl,.refl _⟩,⟨rfl,.refl _⟩,⟨rfl,.refl _⟩,⟨rfl,.refl _⟩,⟨rfl,.refl _⟩,⟨rfl,.refl _⟩,⟨rfl,.refl _⟩,⟨rfl,.refl _⟩,⟨rfl,.refl _⟩,⟨rfl,.refl _⟩,⟨rfl,.refl _⟩,trivial⟩ (jl.id ct (jl.id ct jl.nil))) ?_;exact PR bG w al facts [] rows yd (J9 (Nat.le_of_eq (B8 h1).symm)) Io Oa Ob hp0)⟩
def H375:Ow 51 375:=bU rfl (aZ bF ck rfl (w375 bG))
def H381:Ow 57 381:=bU rfl fun n hp0=>aZ bF ck rfl (w381 bG n hp0)
def H425:Ow 34 425:=bU rfl fun c i hp0=>aZ bF ck rfl (w425 bG Oi G633 Iq G635 Fj G637 NX NY NZ N0 c i hp0)
def H439:Ow 78 439:=bU rfl fun w a b u hp0=>aZ bF ck rfl (w439 bG Io N8 N9 w a b u hp0)
def H456:Ow 86 456:=bU rfl fun s p hp0=>aZ bF ck rfl (w456 bG Od G666 Om On s p hp0)
def H533:Ow 106 533:=bU rfl fun s b hp0=>aZ bF ck rfl (w533 bG s b hp0)
def H602:Ow 90 602:=bU rfl fun v hp0=>aZ bF ck rfl (w602 bG ye G769 v hp0)
def H627:Ow 116 627:=bU rfl fun s v hp0=>aZ bF ck rfl (w627 bG ye Ld G782 s v hp0)
def H635:Ow 61 635:=bU rfl fun c row mild hp0=>aZ bF ck rfl (w635 bG G615 G785 c row mild hp0)
def H657:Ow 115 657:=bU rfl fun w t c hp0=>aZ bF ck rfl (w657 bG G185 w t c hp0)
def H704:Ow 135 704:=bU rfl fun x=>aZ bF ck rfl (w704 bG x)
def H772:Ow 127 772:=bU rfl fun l hp0=>aZ bF ck rfl (w772 bG Ir Oq Ot Ou l hp0)
def H861:Ow 168 861:=bU rfl fun l v hp0=>aZ bF ck rfl (w861 bG Ov G980 l v hp0)
def H921:Ow 151 921:=ud rfl fun out f t' hp0 nx lo m K h1 h2 hK=>y4 (bP (fun _=>rfl) _) (bP (fun _=>rfl) _) rfl bF ck rfl h1 h2 (fun _ _ h=>h) hK (w921 bG out f t' yc hp0)
def H929:Ow 129 929:=bU rfl fun x c row k hp0=>aZ bF ck rfl (w929 bG G930 x c row k hp0)
def H980:Ow 170 980:=bU rfl fun s v hp0=>aZ bF ck rfl (w980 bG DO J6 NW s v hp0)
def OD:Ow 166 1025:=bU rfl fun c v hp0=>aZ bF ck rfl (PE bG ye N7 Fg c v hp0)
def OJ:Ow 169 1087:=bU rfl fun c hp0=>aZ bF ck rfl (PK bG DO c hp0)
end
end
section
section
variable [dc]
def H66:Ow 17 66:=bU rfl fun w allow hp0=>aZ bF ck rfl (w66 bG yd G203 N5 G205 w allow hp0)
def H157:Ow 31 157:=ud rfl fun g n nm ft cs kk E hE hp0 nx m K hx hW hK=>zL rfl hE rfl hp0.2.1.2 bF ck rfl hx hW ⟨rfl,rfl,eight rfl rfl rfl rfl rfl rfl rfl rfl,rfl⟩ (fun _ h=>zM h) hK (fun _ _ h=>h) (w157 bG g n nm ft cs kk E Fi G380 hp0 hE)
def H198:Ow 13 198:=bU rfl fun w allow rows i hp0=>aZ bF ck rfl (w198 bG G425 w allow rows i hp0)
def H217:Ow 50 217:=bU rfl fun v hp0=>aZ bF ck rfl (w217 bG G455 G456 v hp0)
def H378:Ow 54 378:=bU rfl fun v=>aZ bF ck rfl (w378 bG K7 Oh Lb v)
def H409:Ow 71 409:=bU rfl fun c n hp0=>aZ bF ck rfl (w409 bG G622 c n hp0)
def H436:Ow 75 436:=ud rfl fun w hp0 nx m K hK=>tY (dv:=fun j=>.own j 1 0 w.us.length) bF ck rfl rfl (bP (fun _=>rfl) _) (fun j=>by simp[jE,pT,eP]) (fun _ _ h=>h) hK (w436 bG w yd hp0)
def H442:Ow 103 442:=bU rfl fun s hp0=>aZ bF ck rfl (w442 bG La s hp0)
def H530:Ow 104 530:=bU rfl fun v=>aZ bF ck rfl (w530 bG v)
def H599:Ow 87 599:=bU rfl fun v=>aZ bF ck rfl (w599 bG v)
def H605:Ow 93 605:=bU rfl fun a hp0=>aZ bF ck rfl (w605 bG Im Ld G772 a hp0)
def H632:Ow 58 632:=bU rfl fun c l hp0=>aZ bF ck rfl (w632 bG Fj c l hp0)
def H654:Ow 112 654:=bU rfl fun a b=>aZ bF ck rfl (w654 bG a b)
def H666:Ow 121 666:=bU rfl fun t=>aZ bF ck rfl (w666 bG t)
def H769:Ow 124 769:=bU rfl fun v p hp0=>aZ bF ck rfl (w769 bG ye v p hp0)
def H783:Ow 157 783:=bU rfl fun a b=>aZ bF ck rfl (w783 bG Ip Om On G927 a b)
def H918:Ow 148 918:=ud rfl fun l hp0 nx lo m K h1 h2 hK=>xy (bP (fun _=>rfl) _) rfl rfl bF ck rfl h1 h2 (fun _ _ h=>h) hK (w918 bG l Oq Ot Ou Ff hp0)
def H926:Ow 158 926:=bU rfl fun s v hp0=>aZ bF ck rfl (w926 bG ye Ff NT s v hp0)
def H932:Ow 132 932:=bU rfl fun x c row k hp0=>aZ bF ck rfl (w932 bG Ox x c row k hp0)
def OA:Ow 161 1021:=bU rfl fun l c hp0=>aZ bF ck rfl (PB bG yc l c hp0)
def OG:Ow 154 1028:=bU rfl fun l c row k hp0=>aZ bF ck rfl (PH bG G932 l c row k hp0)
def OM:Ow 189 1180:=bU rfl (aZ bF ck rfl (PN bG))
end
end
end Go.Abs
