/- A part of the proofs. -/
import Derived.Test.YtaeimnechonnmaaGreatDoorP08
import Derived.Test.YtaeimnechonnmaaGreatDoorP09
import Derived.Test.YtaeimnechonnmaaGreatDoorP10
import Derived.Test.YtaeimnechonnmaaGreatDoorP11
import Derived.Test.YtaeimnechonnmaaGreatDoorP12
import Derived.Test.YtaeimnechonnmaaGreatDoorP13
import Derived.Test.YtaeimnechonnmaaGreatDoorP14
import Derived.Test.YtaeimnechonnmaaGreatDoorP15
import Derived.Test.YtaeimnechonnmaaGreatDoorP16
import Derived.Test.YtaeimnechonnmaaGreatDoorP17
set_option linter.all false
set_option maxRecDepth 4000
namespace Go.Abs
section
section
variable [cP]
def H25:Ow 19 25:=bC rfl fun v n hp0=>aM bq ck rfl (w25 br v n hp0)
def H112:Ow 49 112:=bC rfl (aM bq ck rfl (w112 br))
def H158:Ow 32 158:=bC rfl fun w u hp0=>aM bq ck rfl (w158 br Ho w u hp0)
def H197:Ow 26 197:=bC rfl (aM bq ck rfl (w197 br Ki))
def H368:Ow 14 368:=bC rfl fun w allow rows i hp0=>aM bq ck rfl (w368 br Kf Ci G590 G591 w allow rows i hp0)
def H379:Ow 55 379:=bC rfl fun v=>aM bq ck rfl (w379 br Hn G602 Ht v)
def H408:Ow 68 408:=bC rfl fun a b=>aM bq ck rfl (w408 br Km Kn a b)
def H441:Ow 102 441:=bC rfl fun s hp0=>aM bq ck rfl (w441 br Kk Hr Ks Kt s hp0)
def H516:Ow 100 516:=bC rfl fun a b=>aM bq ck rfl (w516 br G704 a b)
def H590:Ow 36 590:=bC rfl fun w rows i hp0=>aM bq ck rfl (w590 br Kf Kg Ci w rows i hp0)
def H602:Ow 90 602:=bC rfl fun v hp0=>aM bq ck rfl (w602 br tP G769 v hp0)
def H618:Ow 110 618:=bC rfl fun c n hp0=>aM bq ck rfl (w618 br tP G777 Kw c n hp0)
def H633:Ow 59 633:=bC rfl fun k=>aM bq ck rfl (w633 br k)
def H659:Ow 137 659:=bC rfl fun t=>aM bq ck rfl (w659 br t)
def H714:Ow 138 714:=bC rfl fun x=>aM bq ck rfl (w714 br x)
def H772:Ow 127 772:=bC rfl fun l hp0=>aM bq ck rfl (w772 br EN Ky Kz KA l hp0)
def H784:Ow 95 784:=bC rfl fun t row=>aM bq ck rfl (w784 br t row)
def H917:Ow 147 917:=bC rfl fun c=>aM bq ck rfl (w917 br Kq c)
def H925:Ow 156 925:=bC rfl fun l hp0=>aM bq ck rfl (w925 br Gi Gj l hp0)
def H931:Ow 131 931:=bC rfl fun l c row k hp0=>aM bq ck rfl (w931 br J5 l c row k hp0)
def KE:Ow 160 1020:=bC rfl fun a b hp0=>aM bq ck rfl (Lv br Hp EK Cf a b hp0)
def KK:Ow 153 1027:=bC rfl fun c x hp0=>aM bq ck rfl (LB br Cj G712 c x hp0)
def KQ:Ow 188 1179:=bC rfl fun b=>aM bq ck rfl (LJ br b)
def EO:Ow 1000000126 501178:=Fz rfl
def EP:Ow 1000000129 501179:=Fz rfl
def ER:Ow 1000000131 501180:=Fz rfl
def ES:Ow 1000000132 501181:=Fz rfl
end
end
section
section
variable [cP]
def H63:Ow 9 63:=bC rfl (aM bq ck rfl (w63 br G65 G197 Hl))
def H155:Ow 28 155:=Bt rfl fun g n nm ft cs kk E most hE hp0 nx m K hx hW hK=>wZ rfl hE rfl hp0.2.1.1.2 bq ck rfl hx hW ⟨rfl,rfl,eight rfl rfl rfl rfl rfl rfl rfl rfl,rfl⟩ (fun _ h=>w6 h) hK (fun _ _ h=>h) (w155 br g n nm ft cs kk E most Ch Kd hp0 hE)
def H172:Ow 35 172:=bC rfl fun w l hp0=>aM bq ck rfl (w172 br G405 w l hp0)
def H209:Ow 69 209:=bC rfl fun v hp0=>aM bq ck rfl (w209 br G440 G441 Kk v hp0)
def H376:Ow 52 376:=bC rfl fun v=>aM bq ck rfl (w376 br Ko v)
def H403:Ow 72 403:=bC rfl fun w i hp0=>aM bq ck rfl (w403 br Hp G617 G618 w i hp0)
def H424:Ow 111 424:=bC rfl fun a b hp0=>aM bq ck rfl (w424 br tP EK G631 a b hp0)
def H455:Ow 85 455:=bC rfl fun n=>aM bq ck rfl (w455 br n)
def H532:Ow 105 532:=bC rfl fun a b=>aM bq ck rfl (w532 br G714 a b)
def H599:Ow 87 599:=bC rfl fun v=>aM bq ck rfl (w599 br v)
def H605:Ow 93 605:=bC rfl fun a hp0=>aM bq ck rfl (w605 br EJ EM G772 a hp0)
def H630:Ow 142 630:=bC rfl fun a b=>aM bq ck rfl (w630 br a b)
def H636:Ow 62 636:=bC rfl fun c u hp0=>aM bq ck rfl (w636 br c u hp0)
def H668:Ow 123 668:=bC rfl fun t=>aM bq ck rfl (w668 br t)
def H769:Ow 124 769:=bC rfl fun v p hp0=>aM bq ck rfl (w769 br tP v p hp0)
def H780:Ow 139 780:=bC rfl fun s hp0=>aM bq ck rfl (w780 br G924 KB s hp0)
def H913:Ow 97 913:=bC rfl fun w l row bit hp0=>aM bq ck rfl (w913 br Ci Kj w l row bit hp0)
def H920:Ow 150 920:=bC rfl fun l f t hp0=>aM bq ck rfl (w920 br vi l f t hp0)
def H928:Ow 128 928:=bC rfl fun l b c row k hp0=>aM bq ck rfl (w928 br J4 l b c row k hp0)
def H934:Ow 134 934:=bC rfl fun c row k x hp0=>aM bq ck rfl (w934 br EL Gk c row k x hp0)
def KH:Ow 164 1024:=bC rfl fun a b hp0=>aM bq ck rfl (Ly br Hm Hq Cg a b hp0)
def KN:Ow 167 1086:=bC rfl fun c hp0=>aM bq ck rfl (LG br tP c hp0)
def KT:Ow 3 1210:=bC rfl fun a b rows d hp0=>aM bq ck rfl (LM br G36 G37 G63 G65 G150 Hl G206 Kh a b rows d hp0)
end
end
end Go.Abs
