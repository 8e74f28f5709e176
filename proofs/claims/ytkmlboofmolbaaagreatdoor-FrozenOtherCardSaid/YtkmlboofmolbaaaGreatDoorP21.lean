/- A part of the proofs. -/
import Derived.Test.YtkmlboofmolbaaaGreatDoorP09
set_option linter.all false
set_option maxRecDepth 60000
set_option maxHeartbeats 2000000
section
set_option maxRecDepth 10000
namespace Go.Abs
def acM:Ee gX[0]! (cb 1085 [cx.D pC,cx.D gX[0]!])=true:=by decide+kernel
def acN:Ee gX[1]! (cb 1085 [cx.D pC,cx.D gX[1]!])=true:=by decide+kernel
def acO:Ee gX[2]! (cb 1085 [cx.D pC,cx.D gX[2]!])=true:=by decide+kernel
def acP:Ee gX[3]! (cb 1085 [cx.D pC,cx.D gX[3]!])=true:=by decide+kernel
def acQ:Ee gX[4]! (cb 1085 [cx.D pC,cx.D gX[4]!])=true:=by decide+kernel
def acR:Ee gX[5]! (cb 1085 [cx.D pC,cx.D gX[5]!])=true:=by decide+kernel
def acS:Ee gX[6]! (cb 1085 [cx.D pC,cx.D gX[6]!])=true:=by decide+kernel
def acT:Ee gX[7]! (cb 1085 [cx.D pC,cx.D gX[7]!])=true:=by decide+kernel
def aiK {s:cx}(h:s∈gX):cb 1085 [cx.D pC,cx.D s]=some (cx.D s):=by
 obtain⟨i,hi,rfl⟩:=gh h;have:i<8:=hi;rcases(by omega:i=0\/i=1\/i=2\/i=3\/i=4\/i=5\/i=6\/i=7)with rfl|rfl|rfl|rfl|rfl|rfl|rfl|rfl
 .exact gw acM
 .exact gw acN
 .exact gw acO
 .exact gw acP
 .exact gw acQ
 .exact gw acR
 .exact gw acS
 .exact gw acT
def ahE:Ee (dH bF[0]!) (cb 156 [bV.D bF[0]!])=true:=by decide+kernel
def ahF:Ee (dH bF[1]!) (cb 156 [bV.D bF[1]!])=true:=by decide+kernel
def ahG:Ee (dH bF[2]!) (cb 156 [bV.D bF[2]!])=true:=by decide+kernel
def ahH:Ee (dH bF[3]!) (cb 156 [bV.D bF[3]!])=true:=by decide+kernel
def ev156 {v:bV}(h:v∈bF):cb 156 [bV.D v]=some (cx.D (dH v)):=by
 obtain⟨i,hi,rfl⟩:=gh h;have:i<4:=hi;rcases(by omega:i=0\/i=1\/i=2\/i=3)with rfl|rfl|rfl|rfl
 .exact gw ahE
 .exact gw ahF
 .exact gw ahG
 .exact gw ahH
def ev374:cb 374 []=some (cx.D pC):=gw (by decide+kernel)
def WE:fL (FQ [] qz[0]!) (cb 907 [.str [],Env.D qz[0]!])=true:=by decide+kernel
def WG:fL (FQ [] qz[1]!) (cb 907 [.str [],Env.D qz[1]!])=true:=by decide+kernel
def WH:fL (FQ [] qz[2]!) (cb 907 [.str [],Env.D qz[2]!])=true:=by decide+kernel
def WI:fL (FQ [111,115,32,61,32,108,105,110,117,120] qz[0]!) (cb 907 [.str [111,115,32,61,32,108,105,110,117,120],Env.D qz[0]!])=true:=by decide+kernel
def WJ:fL (FQ [111,115,32,61,32,108,105,110,117,120] qz[1]!) (cb 907 [.str [111,115,32,61,32,108,105,110,117,120],Env.D qz[1]!])=true:=by decide+kernel
def WK:fL (FQ [111,115,32,61,32,108,105,110,117,120] qz[2]!) (cb 907 [.str [111,115,32,61,32,108,105,110,117,120],Env.D qz[2]!])=true:=by decide+kernel
def WL:fL (FQ [111,115,32,33,61,32,108,105,110,117,120] qz[0]!) (cb 907 [.str [111,115,32,33,61,32,108,105,110,117,120],Env.D qz[0]!])=true:=by decide+kernel
def WM:fL (FQ [111,115,32,33,61,32,108,105,110,117,120] qz[1]!) (cb 907 [.str [111,115,32,33,61,32,108,105,110,117,120],Env.D qz[1]!])=true:=by decide+kernel
def WN:fL (FQ [111,115,32,33,61,32,108,105,110,117,120] qz[2]!) (cb 907 [.str [111,115,32,33,61,32,108,105,110,117,120],Env.D qz[2]!])=true:=by decide+kernel
def ev907 {s:au}{e:Env}(h:og s)(he:lz e):cb 907 [.str s,Env.D e]=some (.bool (FQ s e)):=by
 simp only[og,L2,bG,cU,or_false]at h;obtain⟨j,hj,rfl⟩:=gh he;have:j<3:=hj;rcases h with rfl|rfl|rfl<;>rcases(by omega:j=0\/j=1\/j=2)with rfl|rfl|rfl
 .exact cz WE
 .exact cz WG
 .exact cz WH
 .exact cz WI
 .exact cz WJ
 .exact cz WK
 .exact cz WL
 .exact cz WM
 .exact cz WN
end Go.Abs
end
