/- A part of the proofs. -/
import Derived.Test.YtaeimnechonnmaaGreatDoorP09
import Derived.Test.YtaeimnechonnmaaGreatDoorP10
import Derived.Test.YtaeimnechonnmaaGreatDoorP11
import Derived.Test.YtaeimnechonnmaaGreatDoorP12
import Derived.Test.YtaeimnechonnmaaGreatDoorP13
import Derived.Test.YtaeimnechonnmaaGreatDoorP14
import Derived.Test.YtaeimnechonnmaaGreatDoorP15
import Derived.Test.YtaeimnechonnmaaGreatDoorP16
import Derived.Test.YtaeimnechonnmaaGreatDoorP17
import Derived.Test.YtaeimnechonnmaaGreatDoorP18
import Derived.Test.YtaeimnechonnmaaGreatDoorP19
import Derived.Test.YtaeimnechonnmaaGreatDoorP20
set_option linter.all false
set_option maxRecDepth 4000
namespace Go.Abs
section
section
variable [dw]
def H10:Ow 5 10:=b9 rfl fun a b d at1 wh by1=>bh bU ck rfl (w10 bV G36 G37 G46 G47 G48 G49 G50 G63 G65 G66 G67 a b d at1 wh by1)
def H48:Ow 22 48:=b9 rfl fun w n hp0=>bh bU ck rfl (w48 bV w n hp0)
def H67:Ow 18 67:=b9 rfl fun rows b n c hp0=>bh bU ck rfl (w67 bV G25 QW rows b n c hp0)
def H157:Ow 31 157:=vL rfl fun g n nm ft cs kk E hE hp0 nx m K hx hW hK=>Bh rfl hE rfl hp0.2.1.2 bU ck rfl hx hW ⟨rfl,rfl,eight rfl rfl rfl rfl rfl rfl rfl rfl,rfl⟩ (fun _ h=>Bi h) hK (fun _ _ h=>h) (w157 bV g n nm ft cs kk E He G380 hp0 hE)
def H185:Ow 46 185:=b9 rfl fun w c u hp0=>bh bU ck rfl (w185 bV Nx w c u hp0)
def H206:Ow 12 206:=vL rfl ⟨fun o hp0 nx m K hK=>vG (dv:=fun j=>.own j 5 0 (o.getD []).length) bU ck rfl (by cases o<;>rfl) (bL (fun _=>rfl) _) (fun j=>by simp[jk,qg,e9]) (fun _ _ h=>h) hK (w206 bV o hp0),fun o t hp0 nx m K hK=>JN (CV _ _ _) bU ck rfl (by cases o<;>rfl) hK (Sn bV o t hp0)⟩
def H376:Ow 52 376:=b9 rfl fun v=>bh bU ck rfl (w376 bV QM v)
def H406:Ow 37 406:=b9 rfl fun w l u hp0=>bh bU ck rfl (w406 bV yh w l u hp0)
def H425:Ow 34 425:=b9 rfl fun c i hp0=>bh bU ck rfl (w425 bV QO G633 KD G635 Hf G637 Qs Qt Qu Qv c i hp0)
def H439:Ow 78 439:=b9 rfl fun w a b u hp0=>bh bU ck rfl (w439 bV KB QE QF w a b u hp0)
def H456:Ow 86 456:=b9 rfl fun s p hp0=>bh bU ck rfl (w456 bV QJ G666 QR QS s p hp0)
def H533:Ow 106 533:=b9 rfl fun s b hp0=>bh bU ck rfl (w533 bV s b hp0)
def H602:Ow 90 602:=b9 rfl fun v hp0=>bh bU ck rfl (w602 bV zt G769 v hp0)
def H627:Ow 116 627:=b9 rfl fun s v hp0=>bh bU ck rfl (w627 bV zt NC G782 s v hp0)
def H635:Ow 61 635:=b9 rfl fun c row mild hp0=>bh bU ck rfl (w635 bV G615 G785 c row mild hp0)
def H657:Ow 115 657:=b9 rfl fun w t c hp0=>bh bU ck rfl (w657 bV Qy w t c hp0)
def H704:Ow 135 704:=b9 rfl fun x=>bh bU ck rfl (w704 bV x)
def H772:Ow 127 772:=b9 rfl fun l hp0=>bh bU ck rfl (w772 bV KE QU QV QX l hp0)
def H861:Ow 168 861:=b9 rfl fun l v hp0=>bh bU ck rfl (w861 bV QY G980 l v hp0)
def H921:Ow 151 921:=vL rfl fun out f t' hp0 nx lo m K h1 h2 hK=>Aw (bL (fun _=>rfl) _) (bL (fun _=>rfl) _) rfl bU ck rfl h1 h2 (fun _ _ h=>h) hK (w921 bV out f t' zr hp0)
def H929:Ow 129 929:=b9 rfl fun x c row k hp0=>bh bU ck rfl (w929 bV G930 x c row k hp0)
def H980:Ow 170 980:=b9 rfl fun s v hp0=>bh bU ck rfl (w980 bV Fq Mp Qr s v hp0)
def Q7:Ow 166 1025:=b9 rfl fun c v hp0=>bh bU ck rfl (Sa bV zt QD Hc c v hp0)
def Rd:Ow 169 1087:=b9 rfl fun c hp0=>bh bU ck rfl (Sg bV Fq c hp0)
def KF:Ow 1000000126 501178:=Lv rfl
def KG:Ow 1000000129 501179:=Lv rfl
def KH:Ow 1000000131 501180:=Lv rfl
def KI:Ow 1000000132 501181:=Lv rfl
end
end
section
section
variable [dw]
def H37:Ow 11 37:=b9 rfl fun w ks hp0=>bh bU ck rfl (w37 bV G25 yh Nu w ks hp0)
def H63:Ow 9 63:=b9 rfl (bh bU ck rfl (w63 bV G65 G197 Qz))
def H154:Ow 27 154:=vL rfl fun g few hp0 nx m K h0 hx hK=>CZ rfl (wi _ _).2 (wi _ _).1 bU ck rfl h0 hx (fun _ _ h=>h) hK (w154 bV g few He G112 hp0)
def H175:Ow 39 175:=b9 rfl fun w hp0=>bh bU ck rfl (w175 bV Fq Nv G408 G409 w hp0)
def H203:Ow 41 203:=vL rfl fun w hp0 nx m K hK=>vG (dv:=fun j=>.own j 5 0 (lK w.us).length) bU ck rfl rfl (bL (fun _=>rfl) _) (fun j=>by simp[jk,qg,e9]) (fun _ _ h=>h) hK (w203 bV w G434 G435 hp0)
def H295:Ow 70 295:=b9 rfl fun a b hp0=>bh bU ck rfl (w295 bV Fq G530 QL Ny Nz G534 a b hp0)
def H379:Ow 55 379:=b9 rfl fun v=>bh bU ck rfl (w379 bV Nw G602 NB v)
def H415:Ow 79 415:=b9 rfl fun w x hp0=>bh bU ck rfl (w415 bV Nx G627 w x hp0)
def H436:Ow 75 436:=vL rfl fun w hp0 nx m K hK=>vG (dv:=fun j=>.own j 1 0 w.us.length) bU ck rfl rfl (bL (fun _=>rfl) _) (fun j=>by simp[jk,qg,e9]) (fun _ _ h=>h) hK (w436 bV w yh hp0)
def H442:Ow 103 442:=b9 rfl fun s hp0=>bh bU ck rfl (w442 bV Nz s hp0)
def H530:Ow 104 530:=b9 rfl fun v=>bh bU ck rfl (w530 bV v)
def H599:Ow 87 599:=b9 rfl fun v=>bh bU ck rfl (w599 bV v)
def H605:Ow 93 605:=b9 rfl fun a hp0=>bh bU ck rfl (w605 bV KA NC G772 a hp0)
def H632:Ow 58 632:=b9 rfl fun c l hp0=>bh bU ck rfl (w632 bV Hf c l hp0)
def H654:Ow 112 654:=b9 rfl fun a b=>bh bU ck rfl (w654 bV a b)
def H666:Ow 121 666:=b9 rfl fun t=>bh bU ck rfl (w666 bV t)
def H769:Ow 124 769:=b9 rfl fun v p hp0=>bh bU ck rfl (w769 bV zt v p hp0)
def H783:Ow 157 783:=b9 rfl fun a b=>bh bU ck rfl (w783 bV KC QR QS G927 a b)
def H918:Ow 148 918:=vL rfl fun l hp0 nx lo m K h1 h2 hK=>yU (bL (fun _=>rfl) _) rfl rfl bU ck rfl h1 h2 (fun _ _ h=>h) hK (w918 bV l QU QV QX Hb hp0)
def H926:Ow 158 926:=b9 rfl fun s v hp0=>bh bU ck rfl (w926 bV zt Hb Qo s v hp0)
def H932:Ow 132 932:=b9 rfl fun x c row k hp0=>bh bU ck rfl (w932 bV QZ x c row k hp0)
def Q4:Ow 161 1021:=b9 rfl fun l c hp0=>bh bU ck rfl (R7 bV zr l c hp0)
def Ra:Ow 154 1028:=b9 rfl fun l c row k hp0=>bh bU ck rfl (Sd bV G932 l c row k hp0)
def Rg:Ow 189 1180:=b9 rfl (bh bU ck rfl (Sk bV))
end
end
end Go.Abs
