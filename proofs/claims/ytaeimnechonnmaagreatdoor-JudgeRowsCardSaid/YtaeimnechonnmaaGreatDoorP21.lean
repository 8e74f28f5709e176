/- A part of the proofs. -/
import Derived.Test.YtaeimnechonnmaaGreatDoorP08
import Derived.Test.YtaeimnechonnmaaGreatDoorP09
import Derived.Test.YtaeimnechonnmaaGreatDoorP10
import Derived.Test.YtaeimnechonnmaaGreatDoorP11
import Derived.Test.YtaeimnechonnmaaGreatDoorP12
import Derived.Test.YtaeimnechonnmaaGreatDoorP13
import Derived.Test.YtaeimnechonnmaaGreatDoorP14
import Derived.Test.YtaeimnechonnmaaGreatDoorP15
import Derived.Test.YtaeimnechonnmaaGreatDoorP16
import Derived.Test.YtaeimnechonnmaaGreatDoorP17
set_option linter.all false
set_option maxRecDepth 4000
namespace Go.Abs
section
section
variable [cP]
def H37:Ow 11 37:=bC rfl fun w ks hp0=>aM bq ck rfl (w37 br G25 Hk Ke w ks hp0)
def H154:Ow 27 154:=Bt rfl fun g few hp0 nx m K h0 hx hK=>yF rfl (r8 _ _).2 (r8 _ _).1 bq ck rfl h0 hx (fun _ _ h=>h) hK (w154 br g few Ch G112 hp0)
def H169:Ow 40 169:=bC rfl fun w hp0=>aM bq ck rfl (w169 br G403 w hp0)
def H206:Ow 12 206:=bC rfl fun rows hp0=>aM bq ck rfl (w206 br rows hp0)
def H375:Ow 51 375:=bC rfl (aM bq ck rfl (w375 br))
def H381:Ow 57 381:=bC rfl fun n hp0=>aM bq ck rfl (w381 br n hp0)
def H415:Ow 79 415:=bC rfl fun w x hp0=>aM bq ck rfl (w415 br Ho G627 w x hp0)
def H454:Ow 145 454:=bC rfl fun c=>aM bq ck rfl (w454 br c)
def H531:Ow 99 531:=bC rfl fun l=>aM bq ck rfl (w531 br l)
def H598:Ow 84 598:=bC rfl (aM bq ck rfl (w598 br Hs Ht))
def H604:Ow 92 604:=bC rfl fun a b hp0=>aM bq ck rfl (w604 br EJ EM G771 a b hp0)
def H627:Ow 116 627:=bC rfl fun s v hp0=>aM bq ck rfl (w627 br tP EM G782 s v hp0)
def H635:Ow 61 635:=bC rfl fun c row mild hp0=>aM bq ck rfl (w635 br G615 G785 c row mild hp0)
def H667:Ow 122 667:=bC rfl fun s=>aM bq ck rfl (w667 br G454 s)
def H763:Ow 67 763:=bC rfl fun w row k hp0=>aM bq ck rfl (w763 br G913 G914 w row k hp0)
def H778:Ow 141 778:=bC rfl fun w n hp0=>aM bq ck rfl (w778 br EM w n hp0)
def H861:Ow 168 861:=bC rfl fun l v hp0=>aM bq ck rfl (w861 br KB G980 l v hp0)
def H919:Ow 149 919:=bC rfl fun l hp0=>aM bq ck rfl (w919 br Hs Ht J2 l hp0)
def H927:Ow 165 927:=bC rfl fun a b=>aM bq ck rfl (w927 br a b)
def H933:Ow 133 933:=bC rfl fun x c row k hp0=>aM bq ck rfl (w933 br G934 x c row k hp0)
def KG:Ow 163 1023:=bC rfl fun s hp0=>aM bq ck rfl (Lx br Gj Cg s hp0)
def KM:Ow 171 1055:=bC rfl fun c v hp0=>aM bq ck rfl (LF br AX Hm Cg c v hp0)
def KS:Ow 190 1181:=bC rfl (aM bq ck rfl (LL br))
end
end
section
section
variable [cP]
def H109:Ow 30 109:=oweF rfl JZ fun g n hp0 hp1=>K2 2 bq ck rfl rfl (w109 br G25 Ke g n hp0 hp1)
def H157:Ow 31 157:=Bt rfl fun g n nm ft cs kk E hE hp0 nx m K hx hW hK=>wZ rfl hE rfl hp0.2.1.2 bq ck rfl hx hW ⟨rfl,rfl,eight rfl rfl rfl rfl rfl rfl rfl rfl,rfl⟩ (fun _ h=>w6 h) hK (fun _ _ h=>h) (w157 br g n nm ft cs kk E Ch G380 hp0 hE)
def H182:Ow 65 182:=bC rfl fun a b=>aM bq ck rfl (w182 br a b)
def H295:Ow 70 295:=bC rfl fun a b hp0=>aM bq ck rfl (w295 br AX G530 Kn Hq Hr G534 a b hp0)
def H378:Ow 54 378:=bC rfl fun v=>aM bq ck rfl (w378 br Hn Kq Hs v)
def H406:Ow 37 406:=bC rfl fun w l u hp0=>aM bq ck rfl (w406 br Hk w l u hp0)
def H440:Ow 101 440:=bC rfl fun n=>aM bq ck rfl (w440 br n)
def H470:Ow 120 470:=bC rfl fun s b hp0=>aM bq ck rfl (w470 br s b hp0)
def H534:Ow 107 534:=bC rfl fun a b=>aM bq ck rfl (w534 br Km Hq Ks Kt a b)
def H601:Ow 89 601:=bC rfl (aM bq ck rfl (w601 br))
def H617:Ow 109 617:=bC rfl fun a b=>aM bq ck rfl (w617 br a b)
def H632:Ow 58 632:=bC rfl fun c l hp0=>aM bq ck rfl (w632 br Cj c l hp0)
def H658:Ow 136 658:=bC rfl fun s=>aM bq ck rfl (w658 br s)
def H712:Ow 162 712:=bC rfl fun s v hp0=>aM bq ck rfl (w712 br AX Kx G861 s v hp0)
def H771:Ow 126 771:=bC rfl fun a b hp0=>aM bq ck rfl (w771 br EN G918 a b hp0)
def H783:Ow 157 783:=bC rfl fun a b=>aM bq ck rfl (w783 br EK Ku Kv G927 a b)
def H916:Ow 146 916:=bC rfl fun l hp0=>aM bq ck rfl (w916 br Ce vi l hp0)
def H924:Ow 155 924:=bC rfl fun c=>aM bq ck rfl (w924 br c)
def H930:Ow 130 930:=bC rfl fun c row k x hp0=>aM bq ck rfl (w930 br EL Gk c row k x hp0)
def KD:Ow 159 1019:=bC rfl fun s hp0=>aM bq ck rfl (Lu br vi Cf s hp0)
def KJ:Ow 152 1026:=bC rfl fun l b c row k hp0=>aM bq ck rfl (LA br G929 G933 l b c row k hp0)
def KP:Ow 187 1178:=bC rfl (aM bq ck rfl (LI br))
end
end
end Go.Abs
