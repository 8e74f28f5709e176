/- A part of the proofs. -/
import Derived.Test.YtaeimnechonnmaaGreatDoorP09
import Derived.Test.YtaeimnechonnmaaGreatDoorP10
import Derived.Test.YtaeimnechonnmaaGreatDoorP11
import Derived.Test.YtaeimnechonnmaaGreatDoorP12
import Derived.Test.YtaeimnechonnmaaGreatDoorP13
import Derived.Test.YtaeimnechonnmaaGreatDoorP14
import Derived.Test.YtaeimnechonnmaaGreatDoorP15
import Derived.Test.YtaeimnechonnmaaGreatDoorP16
import Derived.Test.YtaeimnechonnmaaGreatDoorP17
import Derived.Test.YtaeimnechonnmaaGreatDoorP18
set_option linter.all false
set_option maxRecDepth 4000
namespace Go.Abs
section
section
variable [df]
def H25:Ow 19 25:=bV rfl fun v n hp0=>aZ bI ck rfl (w25 bJ v n hp0)
def H109:Ow 30 109:=oweF rfl N9 fun g n hp0 hp1=>Pm 2 bI ck rfl rfl (w109 bJ G25 On g n hp0 hp1)
def H158:Ow 32 158:=bV rfl fun w u hp0=>aZ bI ck rfl (w158 bJ Lo w u hp0)
def H203:Ow 41 203:=uE rfl fun w hp0 nx m K hK=>uz (dv:=fun j=>.own j 5 0 (kR w.us).length) bI ck rfl rfl (bQ (fun _=>rfl) _) (fun j=>by simp[jF,qe,eS]) (fun _ _ h=>h) hK (w203 bJ w G434 G435 hp0)
def H295:Ow 70 295:=bV rfl fun a b hp0=>aZ bI ck rfl (w295 bJ D2 G530 OD Lp Lq G534 a b hp0)
def H379:Ow 55 379:=bV rfl fun v=>aZ bI ck rfl (w379 bJ Ln G602 Ls v)
def H415:Ow 79 415:=bV rfl fun w x hp0=>aZ bI ck rfl (w415 bJ Lo G627 w x hp0)
def H437:Ow 76 437:=bV rfl fun w ms hp0=>aZ bI ck rfl (w437 bJ yr w ms hp0)
def H454:Ow 145 454:=bV rfl fun c=>aZ bI ck rfl (w454 bJ c)
def H531:Ow 99 531:=bV rfl fun l=>aZ bI ck rfl (w531 bJ l)
def H600:Ow 88 600:=bV rfl fun v=>aZ bI ck rfl (w600 bJ v)
def H615:Ow 94 615:=bV rfl fun l row=>aZ bI ck rfl (w615 bJ G784 l row)
def H633:Ow 59 633:=bV rfl fun k=>aZ bI ck rfl (w633 bJ k)
def H655:Ow 113 655:=bV rfl fun l u hp0=>aZ bI ck rfl (w655 bJ l u hp0)
def H667:Ow 122 667:=bV rfl fun s=>aZ bI ck rfl (w667 bJ G454 s)
def H770:Ow 125 770:=bV rfl fun s hp0=>aZ bI ck rfl (w770 bJ ID G917 s hp0)
def H784:Ow 95 784:=bV rfl fun t row=>aZ bI ck rfl (w784 bJ t row)
def H919:Ow 149 919:=bV rfl fun l hp0=>aZ bI ck rfl (w919 bJ Lr Ls Ob l hp0)
def H927:Ow 165 927:=bV rfl fun a b=>aZ bI ck rfl (w927 bJ a b)
def H933:Ow 133 933:=bV rfl fun x c row k hp0=>aZ bI ck rfl (w933 bJ G934 x c row k hp0)
def OU:Ow 163 1023:=bV rfl fun s hp0=>aZ bI ck rfl (PY bJ Ki Fw s hp0)
def O0:Ow 171 1055:=bV rfl fun c v hp0=>aZ bI ck rfl (P4 bJ D2 Lm Fw c v hp0)
def O6:Ow 190 1181:=bV rfl (aZ bI ck rfl (Qa bJ))
def IE:Ow 1000000126 501178:=Jr rfl
def IF:Ow 1000000129 501179:=Jr rfl
def IG:Ow 1000000131 501180:=Jr rfl
def IH:Ow 1000000132 501181:=Jr rfl
end
end
section
section
variable [df]
def H63:Ow 9 63:=bV rfl (aZ bI ck rfl (w63 bJ G65 G197 Oo))
def H155:Ow 28 155:=uE rfl fun g n nm ft cs kk E most hE hp0 nx m K hx hW hK=>z6 rfl hE rfl hp0.2.1.1.2 bI ck rfl hx hW ⟨rfl,rfl,eight rfl rfl rfl rfl rfl rfl rfl rfl,rfl⟩ (fun _ h=>z7 h) hK (fun _ _ h=>h) (w155 bJ g n nm ft cs kk E most Fx Om hp0 hE)
def H185:Ow 46 185:=bV rfl fun w c u hp0=>aZ bI ck rfl (w185 bJ Lo w c u hp0)
def H206:Ow 12 206:=uE rfl fun o hp0 nx m K hK=>uz (dv:=fun j=>.own j 5 0 (o.getD []).length) bI ck rfl (by cases o<;>rfl) (bQ (fun _=>rfl) _) (fun j=>by simp[jF,qe,eS]) (fun _ _ h=>h) hK (w206 bJ o hp0)
def H376:Ow 52 376:=bV rfl fun v=>aZ bI ck rfl (w376 bJ OE v)
def H406:Ow 37 406:=bV rfl fun w l u hp0=>aZ bI ck rfl (w406 bJ yr w l u hp0)
def H434:Ow 73 434:=bV rfl fun w u k l bar hp0=>aZ bI ck rfl (w434 bJ yr Oq G415 w u k l bar hp0)
def H440:Ow 101 440:=bV rfl fun n=>aZ bI ck rfl (w440 bJ n)
def H470:Ow 120 470:=bV rfl fun s b hp0=>aZ bI ck rfl (w470 bJ s b hp0)
def H534:Ow 107 534:=bV rfl fun a b=>aZ bI ck rfl (w534 bJ OC Lp OH OI a b)
def H603:Ow 91 603:=bV rfl (aZ bI ck rfl (w603 bJ))
def H630:Ow 142 630:=bV rfl fun a b=>aZ bI ck rfl (w630 bJ a b)
def H636:Ow 62 636:=bV rfl fun c u hp0=>aZ bI ck rfl (w636 bJ c u hp0)
def H658:Ow 136 658:=bV rfl fun s=>aZ bI ck rfl (w658 bJ s)
def H712:Ow 162 712:=bV rfl fun s v hp0=>aZ bI ck rfl (w712 bJ D2 OL G861 s v hp0)
def H780:Ow 139 780:=bV rfl fun s hp0=>aZ bI ck rfl (w780 bJ G924 OP s hp0)
def H916:Ow 146 916:=bV rfl fun l hp0=>aZ bI ck rfl (w916 bJ Fu yq l hp0)
def H924:Ow 155 924:=bV rfl fun c=>aZ bI ck rfl (w924 bJ c)
def H930:Ow 130 930:=bV rfl fun c row k x hp0=>aZ bI ck rfl (w930 bJ IC Kj c row k x hp0)
def OR:Ow 159 1019:=bV rfl fun s hp0=>aZ bI ck rfl (PU bJ yq Fv s hp0)
def OX:Ow 152 1026:=bV rfl fun l b c row k hp0=>aZ bI ck rfl (P1 bJ G929 G933 l b c row k hp0)
def O3:Ow 187 1178:=bV rfl (aZ bI ck rfl (P7 bJ))
end
end
end Go.Abs
