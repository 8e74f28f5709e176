/- A part of the proofs. -/
import Derived.Test.YtaeimnechonnmaaGreatDoorP09
import Derived.Test.YtaeimnechonnmaaGreatDoorP10
import Derived.Test.YtaeimnechonnmaaGreatDoorP11
import Derived.Test.YtaeimnechonnmaaGreatDoorP12
import Derived.Test.YtaeimnechonnmaaGreatDoorP13
import Derived.Test.YtaeimnechonnmaaGreatDoorP14
import Derived.Test.YtaeimnechonnmaaGreatDoorP15
import Derived.Test.YtaeimnechonnmaaGreatDoorP16
import Derived.Test.YtaeimnechonnmaaGreatDoorP17
import Derived.Test.YtaeimnechonnmaaGreatDoorP18
import Derived.Test.YtaeimnechonnmaaGreatDoorP19
import Derived.Test.YtaeimnechonnmaaGreatDoorP20
set_option linter.all false
set_option maxRecDepth 4000
namespace Go.Abs
section
section
variable [du]
def H37:Ow 11 37:=bZ rfl fun w ks hp0=>aW bI ck rfl (w37 bJ G25 yh Qv w ks hp0)
def H112:Ow 49 112:=bZ rfl (aW bI ck rfl (w112 bJ))
def H158:Ow 32 158:=bZ rfl fun w u hp0=>aW bI ck rfl (w158 bJ Km w u hp0)
def H185:Ow 46 185:=bZ rfl fun w c u hp0=>aW bI ck rfl (w185 bJ Km w c u hp0)
def H206:Ow 12 206:=vK rfl ⟨fun o hp0 nx m K hK=>vF (dv:=fun j=>.own j 5 0 (o.getD []).length) bI ck rfl (by cases o<;>rfl) (cd (fun _=>rfl) _) (fun j=>by simp[jm,qh,fh]) (fun _ _ h=>h) hK (w206 bJ o hp0),fun o t hp0 nx m K hK=>JI (CU _ _ _) bI ck rfl (by cases o<;>rfl) hK (Sj bJ o t hp0)⟩
def H375:Ow 51 375:=bZ rfl (aW bI ck rfl (w375 bJ))
def H381:Ow 57 381:=bZ rfl fun n hp0=>aW bI ck rfl (w381 bJ n hp0)
def H415:Ow 79 415:=bZ rfl fun w x hp0=>aW bI ck rfl (w415 bJ Km G627 w x hp0)
def H437:Ow 76 437:=bZ rfl fun w ms hp0=>aW bI ck rfl (w437 bJ yh w ms hp0)
def H454:Ow 145 454:=bZ rfl fun c=>aW bI ck rfl (w454 bJ c)
def H531:Ow 99 531:=bZ rfl fun l=>aW bI ck rfl (w531 bJ l)
def H598:Ow 84 598:=bZ rfl (aW bI ck rfl (w598 bJ Nq Nr))
def H604:Ow 92 604:=bZ rfl fun a b hp0=>aW bI ck rfl (w604 bJ Kl Kq G771 a b hp0)
def H627:Ow 116 627:=bZ rfl fun s v hp0=>aW bI ck rfl (w627 bJ yi Kq G782 s v hp0)
def H635:Ow 61 635:=bZ rfl fun c row mild hp0=>aW bI ck rfl (w635 bJ G615 G785 c row mild hp0)
def H657:Ow 115 657:=bZ rfl fun w t c hp0=>aW bI ck rfl (w657 bJ G185 w t c hp0)
def H704:Ow 135 704:=bZ rfl fun x=>aW bI ck rfl (w704 bJ x)
def H770:Ow 125 770:=bZ rfl fun s hp0=>aW bI ck rfl (w770 bJ Kr G917 s hp0)
def H782:Ow 144 782:=bZ rfl fun l v hp0=>aW bI ck rfl (w782 bJ Kr G926 l v hp0)
def H914:Ow 98 914:=bZ rfl fun w x row bit hp0=>aW bI ck rfl (w914 bJ Qx yj Nl w x row bit hp0)
def H921:Ow 151 921:=vK rfl fun out f t' hp0 nx lo m K h1 h2 hK=>Au (cd (fun _=>rfl) _) (cd (fun _=>rfl) _) rfl bI ck rfl h1 h2 (fun _ _ h=>h) hK (w921 bJ out f t' zt hp0)
def H929:Ow 129 929:=bZ rfl fun x c row k hp0=>aW bI ck rfl (w929 bJ G930 x c row k hp0)
def H980:Ow 170 980:=bZ rfl fun s v hp0=>aW bI ck rfl (w980 bJ Fw Md Qo s v hp0)
def Q5:Ow 166 1025:=bZ rfl fun c v hp0=>aW bI ck rfl (R5 bJ yi Nn Hb c v hp0)
def Rb:Ow 169 1087:=bZ rfl fun c hp0=>aW bI ck rfl (Sb bJ Fw c hp0)
end
end
section
section
variable [du]
def H66:Ow 17 66:=bZ rfl fun w allow hp0=>aW bI ck rfl (w66 bJ yh G203 Qy G205 w allow hp0)
def H155:Ow 28 155:=vK rfl fun g n nm ft cs kk E most hE hp0 nx m K hx hW hK=>Bi rfl hE rfl hp0.2.1.1.2 bI ck rfl hx hW ⟨rfl,rfl,eight rfl rfl rfl rfl rfl rfl rfl rfl,rfl⟩ (fun _ h=>Bj h) hK (fun _ _ h=>h) (w155 bJ g n nm ft cs kk E most Hd Qu hp0 hE)
def H172:Ow 35 172:=bZ rfl fun w l hp0=>aW bI ck rfl (w172 bJ G405 w l hp0)
def H203:Ow 41 203:=vK rfl fun w hp0 nx m K hK=>vF (dv:=fun j=>.own j 5 0 (lH w.us).length) bI ck rfl rfl (cd (fun _=>rfl) _) (fun j=>by simp[jm,qh,fh]) (fun _ _ h=>h) hK (w203 bJ w G434 G435 hp0)
def H295:Ow 70 295:=bZ rfl fun a b hp0=>aW bI ck rfl (w295 bJ Fw G530 QI No Np G534 a b hp0)
def H378:Ow 54 378:=bZ rfl fun v=>aW bI ck rfl (w378 bJ Nk QK Nq v)
def H406:Ow 37 406:=bZ rfl fun w l u hp0=>aW bI ck rfl (w406 bJ yh w l u hp0)
def H434:Ow 73 434:=bZ rfl fun w u k l bar hp0=>aW bI ck rfl (w434 bJ yh Qy Nl w u k l bar hp0)
def H440:Ow 101 440:=bZ rfl fun n=>aW bI ck rfl (w440 bJ n)
def H470:Ow 120 470:=bZ rfl fun s b hp0=>aW bI ck rfl (w470 bJ s b hp0)
def H534:Ow 107 534:=bZ rfl fun a b=>aW bI ck rfl (w534 bJ QH No QM QN a b)
def H601:Ow 89 601:=bZ rfl (aW bI ck rfl (w601 bJ))
def H617:Ow 109 617:=bZ rfl fun a b=>aW bI ck rfl (w617 bJ a b)
def H632:Ow 58 632:=bZ rfl fun c l hp0=>aW bI ck rfl (w632 bJ He c l hp0)
def H654:Ow 112 654:=bZ rfl fun a b=>aW bI ck rfl (w654 bJ a b)
def H666:Ow 121 666:=bZ rfl fun t=>aW bI ck rfl (w666 bJ t)
def H762:Ow 66 762:=bZ rfl fun m=>aW bI ck rfl (w762 bJ Km m)
def H777:Ow 140 777:=bZ rfl fun l n hp0=>aW bI ck rfl (w777 bJ QQ l n hp0)
def H785:Ow 96 785:=bZ rfl fun c row k mild hp0=>aW bI ck rfl (w785 bJ QX G931 c row k mild hp0)
def H918:Ow 148 918:=vK rfl fun l hp0 nx lo m K h1 h2 hK=>yT (cd (fun _=>rfl) _) rfl rfl bI ck rfl h1 h2 (fun _ _ h=>h) hK (w918 bJ l QS QT QV Ha hp0)
def H926:Ow 158 926:=bZ rfl fun s v hp0=>aW bI ck rfl (w926 bJ yi Ha Ql s v hp0)
def H932:Ow 132 932:=bZ rfl fun x c row k hp0=>aW bI ck rfl (w932 bJ QX x c row k hp0)
def Q0:Ow 161 1021:=bZ rfl fun l c hp0=>aW bI ck rfl (R2 bJ zt l c hp0)
def Q8:Ow 154 1028:=bZ rfl fun l c row k hp0=>aW bI ck rfl (R8 bJ G932 l c row k hp0)
def Re:Ow 189 1180:=bZ rfl (aW bI ck rfl (Se bJ))
end
end
end Go.Abs
