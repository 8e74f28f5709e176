/- A part of the proofs. -/
import Derived.Test.YtaeimnechonnmaaGreatDoorP09
import Derived.Test.YtaeimnechonnmaaGreatDoorP10
import Derived.Test.YtaeimnechonnmaaGreatDoorP11
import Derived.Test.YtaeimnechonnmaaGreatDoorP12
import Derived.Test.YtaeimnechonnmaaGreatDoorP13
import Derived.Test.YtaeimnechonnmaaGreatDoorP14
import Derived.Test.YtaeimnechonnmaaGreatDoorP15
import Derived.Test.YtaeimnechonnmaaGreatDoorP16
import Derived.Test.YtaeimnechonnmaaGreatDoorP17
import Derived.Test.YtaeimnechonnmaaGreatDoorP18
import Derived.Test.YtaeimnechonnmaaGreatDoorP19
import Derived.Test.YtaeimnechonnmaaGreatDoorP20
set_option linter.all false
set_option maxRecDepth 4000
namespace Go.Abs
section
section
variable [dw]
def H25:Ow 19 25:=b9 rfl fun v n hp0=>bh bU ck rfl (w25 bV v n hp0)
def H49:Ow 23 49:=b9 rfl fun m c hp0=>bh bU ck rfl (w49 bV G184 m c hp0)
def H109:Ow 30 109:=oweF rfl Qm fun g n hp0 hp1=>Ru 2 bU ck rfl rfl (w109 bV G25 Nu g n hp0 hp1)
def H158:Ow 32 158:=b9 rfl fun w u hp0=>bh bU ck rfl (w158 bV Nx w u hp0)
def H197:Ow 26 197:=b9 rfl (bh bU ck rfl (w197 bV QB))
def H209:Ow 69 209:=b9 rfl fun v hp0=>bh bU ck rfl (w209 bV G440 G441 QI v hp0)
def H377:Ow 53 377:=b9 rfl fun v=>bh bU ck rfl (w377 bV QM v)
def H408:Ow 68 408:=b9 rfl fun a b=>bh bU ck rfl (w408 bV QK QL a b)
def H434:Ow 73 434:=b9 rfl fun w u k l bar hp0=>bh bU ck rfl (w434 bV yh QA QC w u k l bar hp0)
def H440:Ow 101 440:=b9 rfl fun n=>bh bU ck rfl (w440 bV n)
def H470:Ow 120 470:=b9 rfl fun s b hp0=>bh bU ck rfl (w470 bV s b hp0)
def H534:Ow 107 534:=b9 rfl fun a b=>bh bU ck rfl (w534 bV QK Ny QP QQ a b)
def H603:Ow 91 603:=b9 rfl (bh bU ck rfl (w603 bV))
def H630:Ow 142 630:=b9 rfl fun a b=>bh bU ck rfl (w630 bV a b)
def H636:Ow 62 636:=b9 rfl fun c u hp0=>bh bU ck rfl (w636 bV c u hp0)
def H658:Ow 136 658:=b9 rfl fun s=>bh bU ck rfl (w658 bV s)
def H712:Ow 162 712:=b9 rfl fun s v hp0=>bh bU ck rfl (w712 bV Fq QT G861 s v hp0)
def H780:Ow 139 780:=b9 rfl fun s hp0=>bh bU ck rfl (w780 bV G924 QY s hp0)
def H916:Ow 146 916:=b9 rfl fun l hp0=>bh bU ck rfl (w916 bV Hb zr l hp0)
def H924:Ow 155 924:=b9 rfl fun c=>bh bU ck rfl (w924 bV c)
def H930:Ow 130 930:=b9 rfl fun c row k x hp0=>bh bU ck rfl (w930 bV KD Mr c row k x hp0)
def Q0:Ow 159 1019:=b9 rfl fun s hp0=>bh bU ck rfl (R5 bV zr Hc s hp0)
def Q8:Ow 152 1026:=b9 rfl fun l b c row k hp0=>bh bU ck rfl (Sb bV G929 G933 l b c row k hp0)
def Re:Ow 187 1178:=b9 rfl (bh bU ck rfl (Si bV))
end
end
section
section
variable [dw]
def H46:Ow 20 46:=b9 rfl fun w hp0=>bh bU ck rfl (w46 bV yh G183 w hp0)
def H65:Ow 15 65:=b9 rfl fun w allow rows hp0=>bh bU ck rfl (w65 bV G175 Qz w allow rows hp0)
def H155:Ow 28 155:=vL rfl fun g n nm ft cs kk E most hE hp0 nx m K hx hW hK=>Bh rfl hE rfl hp0.2.1.1.2 bU ck rfl hx hW ⟨rfl,rfl,eight rfl rfl rfl rfl rfl rfl rfl rfl,rfl⟩ (fun _ h=>Bi h) hK (fun _ _ h=>h) (w155 bV g n nm ft cs kk E most He Qx hp0 hE)
def H183:Ow 44 183:=b9 rfl fun w l hp0=>bh bU ck rfl (w183 bV QC w l hp0)
def H204:Ow 42 204:=b9 rfl fun w l hp0=>bh bU ck rfl (w204 bV QE QF w l hp0)
def H374:Ow 48 374:=b9 rfl (bh bU ck rfl (w374 bV G598))
def H380:Ow 56 380:=vL rfl fun g xs hp0 kk E hE nx lc m K hn h0 h1 h10 hK=>Jy rfl hE bU ck rfl hn h0 h1 h10 hK (fun _ _ h=>h) (w380 bV g xs kk E He Qw QB KA G604 G605 hp0 hE)
def H416:Ow 80 416:=b9 rfl fun c x hp0=>bh bU ck rfl (w416 bV c x hp0)
def H437:Ow 76 437:=b9 rfl fun w ms hp0=>bh bU ck rfl (w437 bV yh w ms hp0)
def H454:Ow 145 454:=b9 rfl fun c=>bh bU ck rfl (w454 bV c)
def H531:Ow 99 531:=b9 rfl fun l=>bh bU ck rfl (w531 bV l)
def H600:Ow 88 600:=b9 rfl fun v=>bh bU ck rfl (w600 bV v)
def H615:Ow 94 615:=b9 rfl fun l row=>bh bU ck rfl (w615 bV G784 l row)
def H633:Ow 59 633:=b9 rfl fun k=>bh bU ck rfl (w633 bV k)
def H655:Ow 113 655:=b9 rfl fun l u hp0=>bh bU ck rfl (w655 bV l u hp0)
def H667:Ow 122 667:=b9 rfl fun s=>bh bU ck rfl (w667 bV G454 s)
def H770:Ow 125 770:=b9 rfl fun s hp0=>bh bU ck rfl (w770 bV KE G917 s hp0)
def H784:Ow 95 784:=b9 rfl fun t row=>bh bU ck rfl (w784 bV t row)
def H919:Ow 149 919:=b9 rfl fun l hp0=>bh bU ck rfl (w919 bV NA NB Qn l hp0)
def H927:Ow 165 927:=b9 rfl fun a b=>bh bU ck rfl (w927 bV a b)
def H933:Ow 133 933:=b9 rfl fun x c row k hp0=>bh bU ck rfl (w933 bV G934 x c row k hp0)
def Q5:Ow 163 1023:=b9 rfl fun s hp0=>bh bU ck rfl (R8 bV Mq Hd s hp0)
def Rb:Ow 171 1055:=b9 rfl fun c v hp0=>bh bU ck rfl (Se bV Fq Nv Hd c v hp0)
def Rh:Ow 190 1181:=b9 rfl (bh bU ck rfl (Sl bV))
end
end
end Go.Abs
