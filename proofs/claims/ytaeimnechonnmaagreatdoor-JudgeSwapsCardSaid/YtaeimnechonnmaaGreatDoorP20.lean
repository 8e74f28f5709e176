/- A part of the proofs. -/
import Derived.Test.YtaeimnechonnmaaGreatDoorP09
import Derived.Test.YtaeimnechonnmaaGreatDoorP10
import Derived.Test.YtaeimnechonnmaaGreatDoorP11
import Derived.Test.YtaeimnechonnmaaGreatDoorP12
import Derived.Test.YtaeimnechonnmaaGreatDoorP13
import Derived.Test.YtaeimnechonnmaaGreatDoorP14
import Derived.Test.YtaeimnechonnmaaGreatDoorP15
import Derived.Test.YtaeimnechonnmaaGreatDoorP16
import Derived.Test.YtaeimnechonnmaaGreatDoorP17
import Derived.Test.YtaeimnechonnmaaGreatDoorP18
set_option linter.all false
set_option maxRecDepth 4000
namespace Go.Abs
section
section
variable [dc]
def H25:Ow 19 25:=bU rfl fun v n hp0=>aZ bF ck rfl (w25 bG v n hp0)
def H109:Ow 30 109:=oweF rfl NQ fun g n hp0 hp1=>O2 2 bF ck rfl rfl (w109 bG G25 N3 g n hp0 hp1)
def H158:Ow 32 158:=bU rfl fun w u hp0=>aZ bF ck rfl (w158 bG K8 w u hp0)
def H203:Ow 41 203:=ud rfl fun w hp0 nx m K hK=>tY (dv:=fun j=>.own j 5 0 (kK w.us).length) bF ck rfl rfl (bP (fun _=>rfl) _) (fun j=>by simp[jE,pT,eP]) (fun _ _ h=>h) hK (w203 bG w G434 G435 hp0)
def H295:Ow 70 295:=bU rfl fun a b hp0=>aZ bF ck rfl (w295 bG DO G530 Of K9 La G534 a b hp0)
def H379:Ow 55 379:=bU rfl fun v=>aZ bF ck rfl (w379 bG K7 G602 Lc v)
def H415:Ow 79 415:=bU rfl fun w x hp0=>aZ bF ck rfl (w415 bG K8 G627 w x hp0)
def H437:Ow 76 437:=bU rfl fun w ms hp0=>aZ bF ck rfl (w437 bG yd w ms hp0)
def H454:Ow 145 454:=bU rfl fun c=>aZ bF ck rfl (w454 bG c)
def H531:Ow 99 531:=bU rfl fun l=>aZ bF ck rfl (w531 bG l)
def H600:Ow 88 600:=bU rfl fun v=>aZ bF ck rfl (w600 bG v)
def H615:Ow 94 615:=bU rfl fun l row=>aZ bF ck rfl (w615 bG G784 l row)
def H633:Ow 59 633:=bU rfl fun k=>aZ bF ck rfl (w633 bG k)
def H655:Ow 113 655:=bU rfl fun l u hp0=>aZ bF ck rfl (w655 bG l u hp0)
def H667:Ow 122 667:=bU rfl fun s=>aZ bF ck rfl (w667 bG G454 s)
def H770:Ow 125 770:=bU rfl fun s hp0=>aZ bF ck rfl (w770 bG Ir G917 s hp0)
def H784:Ow 95 784:=bU rfl fun t row=>aZ bF ck rfl (w784 bG t row)
def H919:Ow 149 919:=bU rfl fun l hp0=>aZ bF ck rfl (w919 bG Lb Lc NS l hp0)
def H927:Ow 165 927:=bU rfl fun a b=>aZ bF ck rfl (w927 bG a b)
def H933:Ow 133 933:=bU rfl fun x c row k hp0=>aZ bF ck rfl (w933 bG G934 x c row k hp0)
def OB:Ow 163 1023:=bU rfl fun s hp0=>aZ bF ck rfl (PC bG J7 Fh s hp0)
def OH:Ow 171 1055:=bU rfl fun c v hp0=>aZ bF ck rfl (PI bG DO K6 Fh c v hp0)
def ON:Ow 190 1181:=bU rfl (aZ bF ck rfl (PO bG))
def Is:Ow 1000000126 501178:=Jh rfl
def It:Ow 1000000129 501179:=Jh rfl
def Iu:Ow 1000000131 501180:=Jh rfl
def Iv:Ow 1000000132 501181:=Jh rfl
end
end
section
section
variable [dc]
def H63:Ow 9 63:=bU rfl (aZ bF ck rfl (w63 bG G65 G197 N4))
def H155:Ow 28 155:=ud rfl fun g n nm ft cs kk E most hE hp0 nx m K hx hW hK=>zL rfl hE rfl hp0.2.1.1.2 bF ck rfl hx hW ⟨rfl,rfl,eight rfl rfl rfl rfl rfl rfl rfl rfl,rfl⟩ (fun _ h=>zM h) hK (fun _ _ h=>h) (w155 bG g n nm ft cs kk E most Fi N2 hp0 hE)
def H185:Ow 46 185:=bU rfl fun w c u hp0=>aZ bF ck rfl (w185 bG K8 w c u hp0)
def H206:Ow 12 206:=ud rfl fun o hp0 nx m K hK=>tY (dv:=fun j=>.own j 5 0 (o.getD []).length) bF ck rfl (by cases o<;>rfl) (bP (fun _=>rfl) _) (fun j=>by simp[jE,pT,eP]) (fun _ _ h=>h) hK (w206 bG o hp0)
def H376:Ow 52 376:=bU rfl fun v=>aZ bF ck rfl (w376 bG Og v)
def H406:Ow 37 406:=bU rfl fun w l u hp0=>aZ bF ck rfl (w406 bG yd w l u hp0)
def H434:Ow 73 434:=bU rfl fun w u k l bar hp0=>aZ bF ck rfl (w434 bG yd N5 G415 w u k l bar hp0)
def H440:Ow 101 440:=bU rfl fun n=>aZ bF ck rfl (w440 bG n)
def H470:Ow 120 470:=bU rfl fun s b hp0=>aZ bF ck rfl (w470 bG s b hp0)
def H534:Ow 107 534:=bU rfl fun a b=>aZ bF ck rfl (w534 bG Oe K9 Oj Ol a b)
def H603:Ow 91 603:=bU rfl (aZ bF ck rfl (w603 bG))
def H630:Ow 142 630:=bU rfl fun a b=>aZ bF ck rfl (w630 bG a b)
def H636:Ow 62 636:=bU rfl fun c u hp0=>aZ bF ck rfl (w636 bG c u hp0)
def H658:Ow 136 658:=bU rfl fun s=>aZ bF ck rfl (w658 bG s)
def H712:Ow 162 712:=bU rfl fun s v hp0=>aZ bF ck rfl (w712 bG DO Oo G861 s v hp0)
def H780:Ow 139 780:=bU rfl fun s hp0=>aZ bF ck rfl (w780 bG G924 Ov s hp0)
def H916:Ow 146 916:=bU rfl fun l hp0=>aZ bF ck rfl (w916 bG Ff yc l hp0)
def H924:Ow 155 924:=bU rfl fun c=>aZ bF ck rfl (w924 bG c)
def H930:Ow 130 930:=bU rfl fun c row k x hp0=>aZ bF ck rfl (w930 bG Iq J8 c row k x hp0)
def Oy:Ow 159 1019:=bU rfl fun s hp0=>aZ bF ck rfl (Pz bG yc Fg s hp0)
def OE:Ow 152 1026:=bU rfl fun l b c row k hp0=>aZ bF ck rfl (PF bG G929 G933 l b c row k hp0)
def OK:Ow 187 1178:=bU rfl (aZ bF ck rfl (PL bG))
end
end
end Go.Abs
