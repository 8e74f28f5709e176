/- A part of the proofs. -/
import Derived.Test.YtaeimnechonnmaaGreatDoorP09
import Derived.Test.YtaeimnechonnmaaGreatDoorP10
import Derived.Test.YtaeimnechonnmaaGreatDoorP11
import Derived.Test.YtaeimnechonnmaaGreatDoorP12
import Derived.Test.YtaeimnechonnmaaGreatDoorP13
import Derived.Test.YtaeimnechonnmaaGreatDoorP14
import Derived.Test.YtaeimnechonnmaaGreatDoorP15
import Derived.Test.YtaeimnechonnmaaGreatDoorP16
import Derived.Test.YtaeimnechonnmaaGreatDoorP17
import Derived.Test.YtaeimnechonnmaaGreatDoorP18
import Derived.Test.YtaeimnechonnmaaGreatDoorP19
import Derived.Test.YtaeimnechonnmaaGreatDoorP20
set_option linter.all false
set_option maxRecDepth 4000
namespace Go.Abs
section
section
variable [dq]
def H46:Ow 20 46:=cb rfl fun w hp0=>a7 bN ck rfl (w46 bO zn G183 w hp0)
def H154:Ow 27 154:=wU rfl fun g few hp0 nx m K h0 hx hK=>C1 rfl (wb _ _).2 (wb _ _).1 bN ck rfl h0 hx (fun _ _ h=>h) hK (w154 bO g few Hs G112 hp0)
def H175:Ow 39 175:=cb rfl fun w hp0=>a7 bN ck rfl (w175 bO FF NA G408 G409 w hp0)
def H203:Ow 41 203:=wU rfl fun w hp0 nx m K hK=>Ap (dv:=fun j=>.own j 5 0 (lR w.us).length) bN ck rfl rfl (bW (fun _=>rfl) _) (fun j=>by simp[kv,rr,fH]) (fun _ _ h=>h) hK (w203 bO w G434 G435 hp0)
def H295:Ow 70 295:=cb rfl fun a b hp0=>a7 bN ck rfl (w295 bO FF G530 Q0 ND NG G534 a b hp0)
def H379:Ow 55 379:=cb rfl fun v=>a7 bN ck rfl (w379 bO NB G602 NI v)
def H415:Ow 79 415:=cb rfl fun w x hp0=>a7 bN ck rfl (w415 bO NC G627 w x hp0)
def H436:Ow 75 436:=wU rfl fun w hp0 nx m K hK=>Ap (dv:=fun j=>.own j 1 0 w.us.length) bN ck rfl rfl (bW (fun _=>rfl) _) (fun j=>by simp[kv,rr,fH]) (fun _ _ h=>h) hK (w436 bO w zn hp0)
def H442:Ow 103 442:=cb rfl fun s hp0=>a7 bN ck rfl (w442 bO NG s hp0)
def H516:Ow 100 516:=cb rfl fun a b=>a7 bN ck rfl (w516 bO G704 a b)
def H598:Ow 84 598:=cb rfl (a7 bN ck rfl (w598 bO NH NI))
def H604:Ow 92 604:=cb rfl fun a b hp0=>a7 bN ck rfl (w604 bO KB NJ G771 a b hp0)
def H631:Ow 143 631:=cb rfl fun a b hp0=>a7 bN ck rfl (w631 bO QX KD G783 a b hp0)
def H637:Ow 63 637:=cb rfl fun c row i hp0=>a7 bN ck rfl (w637 bO Q5 KE Ht c row i hp0)
def H659:Ow 137 659:=cb rfl fun t=>a7 bN ck rfl (w659 bO t)
def H694:Ow 83 694:=cb rfl fun m al od c hp0=>a7 bN ck rfl (w694 bO Ra NK G830 G831 m al od c hp0)
def H771:Ow 126 771:=cb rfl fun a b hp0=>a7 bN ck rfl (w771 bO KF G918 a b hp0)
def H785:Ow 96 785:=cb rfl fun c row k mild hp0=>a7 bN ck rfl (w785 bO Rg G931 c row k mild hp0)
def H917:Ow 147 917:=cb rfl fun c=>a7 bN ck rfl (w917 bO Q4 c)
def H925:Ow 156 925:=cb rfl fun l hp0=>a7 bN ck rfl (w925 bO Mu Mv l hp0)
def H931:Ow 131 931:=cb rfl fun l c row k hp0=>a7 bN ck rfl (w931 bO QE l c row k hp0)
def Ri:Ow 160 1020:=cb rfl fun a b hp0=>a7 bN ck rfl (Sm bO QR KD Hq a b hp0)
def Ro:Ow 153 1027:=cb rfl fun c x hp0=>a7 bN ck rfl (Ss bO Ht G712 c x hp0)
def Ru:Ow 188 1179:=cb rfl fun b=>a7 bN ck rfl (Sz bO b)
end
end
section
section
variable [dq]
def H66:Ow 17 66:=cb rfl fun w allow hp0=>a7 bN ck rfl (w66 bO zn G203 QO G205 w allow hp0)
def H157:Ow 31 157:=wU rfl fun g n nm ft cs kk E hE hp0 nx m K hx hW hK=>Bc rfl hE rfl hp0.2.1.2 bN ck rfl hx hW ⟨rfl,rfl,eight rfl rfl rfl rfl rfl rfl rfl rfl,rfl⟩ (fun _ h=>Bd h) hK (fun _ _ h=>h) (w157 bO g n nm ft cs kk E Hs G380 hp0 hE)
def H185:Ow 46 185:=cb rfl fun w c u hp0=>a7 bN ck rfl (w185 bO NC w c u hp0)
def H209:Ow 69 209:=cb rfl fun v hp0=>a7 bN ck rfl (w209 bO G440 G441 QW v hp0)
def H376:Ow 52 376:=cb rfl fun v=>a7 bN ck rfl (w376 bO Q3 v)
def H406:Ow 37 406:=cb rfl fun w l u hp0=>a7 bN ck rfl (w406 bO zn w l u hp0)
def H425:Ow 34 425:=cb rfl fun c i hp0=>a7 bN ck rfl (w425 bO Q5 G633 KE G635 Ht G637 QG QH QI QJ c i hp0)
def H439:Ow 78 439:=cb rfl fun w a b u hp0=>a7 bN ck rfl (w439 bO KC QS QT w a b u hp0)
def H456:Ow 86 456:=cb rfl fun s p hp0=>a7 bN ck rfl (w456 bO QX G666 Q8 Q9 s p hp0)
def H532:Ow 105 532:=cb rfl fun a b=>a7 bN ck rfl (w532 bO G714 a b)
def H601:Ow 89 601:=cb rfl (a7 bN ck rfl (w601 bO))
def H622:Ow 108 622:=cb rfl fun l n hp0=>a7 bN ck rfl (w622 bO Rb l n hp0)
def H634:Ow 60 634:=cb rfl fun c l u hp0=>a7 bN ck rfl (w634 bO Ht c l u hp0)
def H656:Ow 114 656:=cb rfl fun l hp0=>a7 bN ck rfl (w656 bO l hp0)
def H668:Ow 123 668:=cb rfl fun t=>a7 bN ck rfl (w668 bO t)
def H714:Ow 138 714:=cb rfl fun x=>a7 bN ck rfl (w714 bO x)
def H782:Ow 144 782:=cb rfl fun l v hp0=>a7 bN ck rfl (w782 bO KF G926 l v hp0)
def H831:Ow 119 831:=cb rfl fun l o=>a7 bN ck rfl (w831 bO l o)
def H920:Ow 150 920:=cb rfl fun l f t hp0=>a7 bN ck rfl (w920 bO zm l f t hp0)
def H928:Ow 128 928:=cb rfl fun l b c row k hp0=>a7 bN ck rfl (w928 bO QD l b c row k hp0)
def H934:Ow 134 934:=cb rfl fun c row k x hp0=>a7 bN ck rfl (w934 bO KE Mw c row k x hp0)
def Rl:Ow 164 1024:=cb rfl fun a b hp0=>a7 bN ck rfl (Sp bO NA ND Hr a b hp0)
def Rr:Ow 167 1086:=cb rfl fun c hp0=>a7 bN ck rfl (Sw bO zo c hp0)
def Rx:Ow 6 1212:=cb rfl fun a b=>a7 bN ck rfl (SC bO G36 G63 G65 G66 G267 a b)
end
end
end Go.Abs
