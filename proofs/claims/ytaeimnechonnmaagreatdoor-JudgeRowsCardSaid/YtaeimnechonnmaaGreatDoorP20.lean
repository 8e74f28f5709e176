/- A part of the proofs. -/
import Derived.Test.YtaeimnechonnmaaGreatDoorP08
import Derived.Test.YtaeimnechonnmaaGreatDoorP09
import Derived.Test.YtaeimnechonnmaaGreatDoorP10
import Derived.Test.YtaeimnechonnmaaGreatDoorP11
import Derived.Test.YtaeimnechonnmaaGreatDoorP12
import Derived.Test.YtaeimnechonnmaaGreatDoorP13
import Derived.Test.YtaeimnechonnmaaGreatDoorP14
import Derived.Test.YtaeimnechonnmaaGreatDoorP15
import Derived.Test.YtaeimnechonnmaaGreatDoorP16
import Derived.Test.YtaeimnechonnmaaGreatDoorP17
set_option linter.all false
set_option maxRecDepth 4000
namespace Go.Abs
section
section
variable [cP]
def H36:Ow 10 36:=bC rfl fun ks few hp0=>aM bq ck rfl (w36 br Ch G154 G155 Kb Kd ks few hp0)
def H150:Ow 16 150:=bC rfl fun w allow rows hp0=>aM bq ck rfl (w150 br G169 Kh w allow rows hp0)
def H159:Ow 33 159:=bC rfl fun l i=>aM bq ck rfl (w159 br l i)
def H198:Ow 13 198:=bC rfl fun w allow rows i hp0=>aM bq ck rfl (w198 br G425 w allow rows i hp0)
def H374:Ow 48 374:=bC rfl (aM bq ck rfl (w374 br G598))
def H380:Ow 56 380:=Bt rfl fun g xs hp0 kk E hE nx lc m K hn h0 h1 h10 hK=>D5 rfl hE bq ck rfl hn h0 h1 h10 hK (fun _ _ h=>h) (w380 br g xs kk E Ch Kb Ki EJ G604 G605 hp0 hE)
def H409:Ow 71 409:=bC rfl fun c n hp0=>aM bq ck rfl (w409 br G622 c n hp0)
def H442:Ow 103 442:=bC rfl fun s hp0=>aM bq ck rfl (w442 br Hr s hp0)
def H530:Ow 104 530:=bC rfl fun v=>aM bq ck rfl (w530 br v)
def H591:Ow 38 591:=bC rfl fun w row hp0=>aM bq ck rfl (w591 br Ci G762 G763 w row hp0)
def H603:Ow 91 603:=bC rfl (aM bq ck rfl (w603 br))
def H622:Ow 108 622:=bC rfl fun l n hp0=>aM bq ck rfl (w622 br Kx l n hp0)
def H634:Ow 60 634:=bC rfl fun c l u hp0=>aM bq ck rfl (w634 br Cj c l u hp0)
def H666:Ow 121 666:=bC rfl fun t=>aM bq ck rfl (w666 br t)
def H762:Ow 66 762:=bC rfl fun m=>aM bq ck rfl (w762 br Ho m)
def H777:Ow 140 777:=bC rfl fun l n hp0=>aM bq ck rfl (w777 br Kw l n hp0)
def H785:Ow 96 785:=bC rfl fun c row k mild hp0=>aM bq ck rfl (w785 br KC G931 c row k mild hp0)
def H918:Ow 148 918:=Bt rfl fun l hp0 nx lo m K h1 h2 hK=>uI (cR (fun _=>rfl) _) rfl rfl bq ck rfl h1 h2 (fun _ _ h=>h) hK (w918 br l Ky Kz KA Ce hp0)
def H926:Ow 158 926:=bC rfl fun s v hp0=>aM bq ck rfl (w926 br tP Ce J3 s v hp0)
def H932:Ow 132 932:=bC rfl fun x c row k hp0=>aM bq ck rfl (w932 br KC x c row k hp0)
def KF:Ow 161 1021:=bC rfl fun l c hp0=>aM bq ck rfl (Lw br vi l c hp0)
def KL:Ow 154 1028:=bC rfl fun l c row k hp0=>aM bq ck rfl (LD br G932 l c row k hp0)
def KR:Ow 189 1180:=bC rfl (aM bq ck rfl (LK br))
end
end
section
section
variable [cP]
def H65:Ow 15 65:=bC rfl fun w allow rows hp0=>aM bq ck rfl (w65 br G175 Hl w allow rows hp0)
def H156:Ow 29 156:=bC rfl fun v hp0=>aM bq ck rfl (w156 br tP EJ Hn G377 G378 G379 v hp0)
def H175:Ow 39 175:=bC rfl fun w hp0=>aM bq ck rfl (w175 br AX Hm G408 G409 w hp0)
def H217:Ow 50 217:=bC rfl fun v hp0=>aM bq ck rfl (w217 br G455 G456 v hp0)
def H377:Ow 53 377:=bC rfl fun v=>aM bq ck rfl (w377 br Ko v)
def H405:Ow 64 405:=bC rfl fun w t hp0=>aM bq ck rfl (w405 br Hk w t hp0)
def H425:Ow 34 425:=bC rfl fun c i hp0=>aM bq ck rfl (w425 br Kr G633 EL G635 Cj G637 J7 J8 J9 Ka c i hp0)
def H456:Ow 86 456:=bC rfl fun s p hp0=>aM bq ck rfl (w456 br Kl G666 Ku Kv s p hp0)
def H533:Ow 106 533:=bC rfl fun s b hp0=>aM bq ck rfl (w533 br s b hp0)
def H600:Ow 88 600:=bC rfl fun v=>aM bq ck rfl (w600 br v)
def H615:Ow 94 615:=bC rfl fun l row=>aM bq ck rfl (w615 br G784 l row)
def H631:Ow 143 631:=bC rfl fun a b hp0=>aM bq ck rfl (w631 br Kl EK G783 a b hp0)
def H637:Ow 63 637:=bC rfl fun c row i hp0=>aM bq ck rfl (w637 br Kr EL Cj c row i hp0)
def H704:Ow 135 704:=bC rfl fun x=>aM bq ck rfl (w704 br x)
def H770:Ow 125 770:=bC rfl fun s hp0=>aM bq ck rfl (w770 br EN G917 s hp0)
def H782:Ow 144 782:=bC rfl fun l v hp0=>aM bq ck rfl (w782 br EN G926 l v hp0)
def H914:Ow 98 914:=bC rfl fun w x row bit hp0=>aM bq ck rfl (w914 br Kg Ci Kj w x row bit hp0)
def H921:Ow 151 921:=Bt rfl fun out f t' hp0 nx lo m K h1 h2 hK=>wi (cR (fun _=>rfl) _) (cR (fun _=>rfl) _) rfl bq ck rfl h1 h2 (fun _ _ h=>h) hK (w921 br out f t' vi hp0)
def H929:Ow 129 929:=bC rfl fun x c row k hp0=>aM bq ck rfl (w929 br G930 x c row k hp0)
def H980:Ow 170 980:=bC rfl fun s v hp0=>aM bq ck rfl (w980 br AX Gi J6 s v hp0)
def KI:Ow 166 1025:=bC rfl fun c v hp0=>aM bq ck rfl (Lz br tP Hp Cf c v hp0)
def KO:Ow 169 1087:=bC rfl fun c hp0=>aM bq ck rfl (LH br AX c hp0)
end
end
end Go.Abs
