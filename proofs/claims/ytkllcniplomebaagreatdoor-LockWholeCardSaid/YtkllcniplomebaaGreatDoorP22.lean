/- A part of the proofs. -/
import Derived.Test.YtkllcniplomebaaGreatDoorP09
set_option linter.all false
set_option maxRecDepth 60000
set_option maxHeartbeats 2000000
section
set_option maxRecDepth 10000
namespace Go.Abs
def ac2:Ey gJ[0]! (b9 1085 [cu.D pH,cu.D gJ[0]!])=true:=by decide+kernel
def ac3:Ey gJ[1]! (b9 1085 [cu.D pH,cu.D gJ[1]!])=true:=by decide+kernel
def ac4:Ey gJ[2]! (b9 1085 [cu.D pH,cu.D gJ[2]!])=true:=by decide+kernel
def ac5:Ey gJ[3]! (b9 1085 [cu.D pH,cu.D gJ[3]!])=true:=by decide+kernel
def ac6:Ey gJ[4]! (b9 1085 [cu.D pH,cu.D gJ[4]!])=true:=by decide+kernel
def ac7:Ey gJ[5]! (b9 1085 [cu.D pH,cu.D gJ[5]!])=true:=by decide+kernel
def ac8:Ey gJ[6]! (b9 1085 [cu.D pH,cu.D gJ[6]!])=true:=by decide+kernel
def ac9:Ey gJ[7]! (b9 1085 [cu.D pH,cu.D gJ[7]!])=true:=by decide+kernel
def aje {s:cu}(h:s∈gJ):b9 1085 [cu.D pH,cu.D s]=some (cu.D s):=by
 obtain⟨i,hi,rfl⟩:=fS h;have:i<8:=hi;rcases(by omega:i=0\/i=1\/i=2\/i=3\/i=4\/i=5\/i=6\/i=7)with rfl|rfl|rfl|rfl|rfl|rfl|rfl|rfl
 .exact fY ac2
 .exact fY ac3
 .exact fY ac4
 .exact fY ac5
 .exact fY ac6
 .exact fY ac7
 .exact fY ac8
 .exact fY ac9
def ah8:Ey (dG bT[0]!) (b9 156 [bO.D bT[0]!])=true:=by decide+kernel
def ah9:Ey (dG bT[1]!) (b9 156 [bO.D bT[1]!])=true:=by decide+kernel
def aia:Ey (dG bT[2]!) (b9 156 [bO.D bT[2]!])=true:=by decide+kernel
def aib:Ey (dG bT[3]!) (b9 156 [bO.D bT[3]!])=true:=by decide+kernel
def ev156 {v:bO}(h:v∈bT):b9 156 [bO.D v]=some (cu.D (dG v)):=by
 obtain⟨i,hi,rfl⟩:=fS h;have:i<4:=hi;rcases(by omega:i=0\/i=1\/i=2\/i=3)with rfl|rfl|rfl|rfl
 .exact fY ah8
 .exact fY ah9
 .exact fY aia
 .exact fY aib
def ev374:b9 374 []=some (cu.D pH):=fY (by decide+kernel)
def W7:fJ (Gj [] qE[0]!) (b9 907 [.str [],Env.D qE[0]!])=true:=by decide+kernel
def W8:fJ (Gj [] qE[1]!) (b9 907 [.str [],Env.D qE[1]!])=true:=by decide+kernel
def W9:fJ (Gj [] qE[2]!) (b9 907 [.str [],Env.D qE[2]!])=true:=by decide+kernel
def Xa:fJ (Gj [111,115,32,61,32,108,105,110,117,120] qE[0]!) (b9 907 [.str [111,115,32,61,32,108,105,110,117,120],Env.D qE[0]!])=true:=by decide+kernel
def Xb:fJ (Gj [111,115,32,61,32,108,105,110,117,120] qE[1]!) (b9 907 [.str [111,115,32,61,32,108,105,110,117,120],Env.D qE[1]!])=true:=by decide+kernel
def Xc:fJ (Gj [111,115,32,61,32,108,105,110,117,120] qE[2]!) (b9 907 [.str [111,115,32,61,32,108,105,110,117,120],Env.D qE[2]!])=true:=by decide+kernel
def Xd:fJ (Gj [111,115,32,33,61,32,108,105,110,117,120] qE[0]!) (b9 907 [.str [111,115,32,33,61,32,108,105,110,117,120],Env.D qE[0]!])=true:=by decide+kernel
def Xe:fJ (Gj [111,115,32,33,61,32,108,105,110,117,120] qE[1]!) (b9 907 [.str [111,115,32,33,61,32,108,105,110,117,120],Env.D qE[1]!])=true:=by decide+kernel
def Xf:fJ (Gj [111,115,32,33,61,32,108,105,110,117,120] qE[2]!) (b9 907 [.str [111,115,32,33,61,32,108,105,110,117,120],Env.D qE[2]!])=true:=by decide+kernel
def ev907 {s:av}{e:Env}(h:oR s)(he:kF e):b9 907 [.str s,Env.D e]=some (.bool (Gj s e)):=by
 simp only[oR,Mw,bU,de,or_false]at h;obtain⟨j,hj,rfl⟩:=fS he;have:j<3:=hj;rcases h with rfl|rfl|rfl<;>rcases(by omega:j=0\/j=1\/j=2)with rfl|rfl|rfl
 .exact cv W7
 .exact cv W8
 .exact cv W9
 .exact cv Xa
 .exact cv Xb
 .exact cv Xc
 .exact cv Xd
 .exact cv Xe
 .exact cv Xf
end Go.Abs
end
