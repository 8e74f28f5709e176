/- A part of the proofs. -/
import Derived.Test.YtaeimnechonnmaaGreatDoorP09
import Derived.Test.YtaeimnechonnmaaGreatDoorP10
import Derived.Test.YtaeimnechonnmaaGreatDoorP11
import Derived.Test.YtaeimnechonnmaaGreatDoorP12
import Derived.Test.YtaeimnechonnmaaGreatDoorP13
import Derived.Test.YtaeimnechonnmaaGreatDoorP14
import Derived.Test.YtaeimnechonnmaaGreatDoorP15
import Derived.Test.YtaeimnechonnmaaGreatDoorP16
import Derived.Test.YtaeimnechonnmaaGreatDoorP17
import Derived.Test.YtaeimnechonnmaaGreatDoorP18
import Derived.Test.YtaeimnechonnmaaGreatDoorP19
import Derived.Test.YtaeimnechonnmaaGreatDoorP20
set_option linter.all false
set_option maxRecDepth 4000
namespace Go.Abs
section
section
variable [du]
def H25:Ow 19 25:=bZ rfl fun v n hp0=>aW bI ck rfl (w25 bJ v n hp0)
def H67:Ow 18 67:=bZ rfl fun rows b n c hp0=>aW bI ck rfl (w67 bJ G25 QU rows b n c hp0)
def H156:Ow 29 156:=bZ rfl fun v hp0=>aW bI ck rfl (w156 bJ yi Kl Nk G377 G378 G379 v hp0)
def H175:Ow 39 175:=bZ rfl fun w hp0=>aW bI ck rfl (w175 bJ Fw Nj G408 G409 w hp0)
def H204:Ow 42 204:=bZ rfl fun w l hp0=>aW bI ck rfl (w204 bJ QB QC w l hp0)
def H368:Ow 14 368:=bZ rfl fun w allow rows i hp0=>aW bI ck rfl (w368 bJ Qw yj G590 G591 w allow rows i hp0)
def H379:Ow 55 379:=bZ rfl fun v=>aW bI ck rfl (w379 bJ Nk G602 Nr v)
def H408:Ow 68 408:=bZ rfl fun a b=>aW bI ck rfl (w408 bJ QH QI a b)
def H435:Ow 74 435:=vK rfl fun w rows r hp0 nx lo m K h1 h2 hK=>yU (cd (fun _=>rfl) _) (cd (fun _=>rfl) _) rfl rfl bI ck rfl h1 h2 (fun _ _ h=>h) hK (w435 bJ w rows r yj G654 G655 G656 hp0)
def H441:Ow 102 441:=bZ rfl fun s hp0=>aW bI ck rfl (w441 bJ QF Np QM QN s hp0)
def H516:Ow 100 516:=bZ rfl fun a b=>aW bI ck rfl (w516 bJ G704 a b)
def H590:Ow 36 590:=bZ rfl fun w rows i hp0=>aW bI ck rfl (w590 bJ Qw Qx yj w rows i hp0)
def H602:Ow 90 602:=bZ rfl fun v hp0=>aW bI ck rfl (w602 bJ yi G769 v hp0)
def H618:Ow 110 618:=bZ rfl fun c n hp0=>aW bI ck rfl (w618 bJ yi G777 QQ c n hp0)
def H633:Ow 59 633:=bZ rfl fun k=>aW bI ck rfl (w633 bJ k)
def H655:Ow 113 655:=bZ rfl fun l u hp0=>aW bI ck rfl (w655 bJ l u hp0)
def H667:Ow 122 667:=bZ rfl fun s=>aW bI ck rfl (w667 bJ G454 s)
def H763:Ow 67 763:=bZ rfl fun w row k hp0=>aW bI ck rfl (w763 bJ G913 G914 w row k hp0)
def H778:Ow 141 778:=bZ rfl fun w n hp0=>aW bI ck rfl (w778 bJ Kq w n hp0)
def H861:Ow 168 861:=bZ rfl fun l v hp0=>aW bI ck rfl (w861 bJ QW G980 l v hp0)
def H919:Ow 149 919:=bZ rfl fun l hp0=>aW bI ck rfl (w919 bJ Nq Nr Qk l hp0)
def H927:Ow 165 927:=bZ rfl fun a b=>aW bI ck rfl (w927 bJ a b)
def H933:Ow 133 933:=bZ rfl fun x c row k hp0=>aW bI ck rfl (w933 bJ G934 x c row k hp0)
def Q3:Ow 163 1023:=bZ rfl fun s hp0=>aW bI ck rfl (R3 bJ Me Hc s hp0)
def Q9:Ow 171 1055:=bZ rfl fun c v hp0=>aW bI ck rfl (R9 bJ Fw Nj Hc c v hp0)
def Rf:Ow 190 1181:=bZ rfl (aW bI ck rfl (Sf bJ))
def Ks:Ow 1000000126 501178:=Lh rfl
def Kt:Ow 1000000129 501179:=Lh rfl
def Ku:Ow 1000000131 501180:=Lh rfl
def Kv:Ow 1000000132 501181:=Lh rfl
end
end
section
section
variable [du]
def H63:Ow 9 63:=bZ rfl (aW bI ck rfl (w63 bJ G65 G197 Ni))
def H150:Ow 16 150:=bZ rfl fun w allow rows hp0=>aW bI ck rfl (w150 bJ G169 Qz w allow rows hp0)
def H159:Ow 33 159:=bZ rfl fun l i=>aW bI ck rfl (w159 bJ l i)
def H197:Ow 26 197:=bZ rfl (aW bI ck rfl (w197 bJ QA))
def H209:Ow 69 209:=bZ rfl fun v hp0=>aW bI ck rfl (w209 bJ G440 G441 QF v hp0)
def H376:Ow 52 376:=bZ rfl fun v=>aW bI ck rfl (w376 bJ QJ v)
def H403:Ow 72 403:=bZ rfl fun w i hp0=>aW bI ck rfl (w403 bJ Nn G617 G618 w i hp0)
def H424:Ow 111 424:=bZ rfl fun a b hp0=>aW bI ck rfl (w424 bJ yi Kn G631 a b hp0)
def H438:Ow 77 438:=bZ rfl fun p c hp0=>aW bI ck rfl (w438 bJ G657 p c hp0)
def H455:Ow 85 455:=bZ rfl fun n=>aW bI ck rfl (w455 bJ n)
def H532:Ow 105 532:=bZ rfl fun a b=>aW bI ck rfl (w532 bJ G714 a b)
def H599:Ow 87 599:=bZ rfl fun v=>aW bI ck rfl (w599 bJ v)
def H605:Ow 93 605:=bZ rfl fun a hp0=>aW bI ck rfl (w605 bJ Kl Kq G772 a hp0)
def H630:Ow 142 630:=bZ rfl fun a b=>aW bI ck rfl (w630 bJ a b)
def H636:Ow 62 636:=bZ rfl fun c u hp0=>aW bI ck rfl (w636 bJ c u hp0)
def H658:Ow 136 658:=bZ rfl fun s=>aW bI ck rfl (w658 bJ s)
def H712:Ow 162 712:=bZ rfl fun s v hp0=>aW bI ck rfl (w712 bJ Fw QR G861 s v hp0)
def H771:Ow 126 771:=bZ rfl fun a b hp0=>aW bI ck rfl (w771 bJ Kr G918 a b hp0)
def H783:Ow 157 783:=bZ rfl fun a b=>aW bI ck rfl (w783 bJ Kn QO QP G927 a b)
def H916:Ow 146 916:=bZ rfl fun l hp0=>aW bI ck rfl (w916 bJ Ha zt l hp0)
def H924:Ow 155 924:=bZ rfl fun c=>aW bI ck rfl (w924 bJ c)
def H930:Ow 130 930:=bZ rfl fun c row k x hp0=>aW bI ck rfl (w930 bJ Ko Mf c row k x hp0)
def QY:Ow 159 1019:=bZ rfl fun s hp0=>aW bI ck rfl (R0 bJ zt Hb s hp0)
def Q6:Ow 152 1026:=bZ rfl fun l b c row k hp0=>aW bI ck rfl (R6 bJ G929 G933 l b c row k hp0)
def Rc:Ow 187 1178:=bZ rfl (aW bI ck rfl (Sc bJ))
end
end
end Go.Abs
