/- A part of the proofs. -/
import Derived.Test.YtkmlboofmolbaaaGreatDoorP09
set_option linter.all false
set_option maxRecDepth 60000
set_option maxHeartbeats 2000000
section
set_option maxRecDepth 10000
namespace Go.Abs
def abR:DM gN[0]! (ca 1085 [cr.D pf,cr.D gN[0]!])=true:=by decide+kernel
def abS:DM gN[1]! (ca 1085 [cr.D pf,cr.D gN[1]!])=true:=by decide+kernel
def abT:DM gN[2]! (ca 1085 [cr.D pf,cr.D gN[2]!])=true:=by decide+kernel
def abU:DM gN[3]! (ca 1085 [cr.D pf,cr.D gN[3]!])=true:=by decide+kernel
def abV:DM gN[4]! (ca 1085 [cr.D pf,cr.D gN[4]!])=true:=by decide+kernel
def abW:DM gN[5]! (ca 1085 [cr.D pf,cr.D gN[5]!])=true:=by decide+kernel
def abX:DM gN[6]! (ca 1085 [cr.D pf,cr.D gN[6]!])=true:=by decide+kernel
def abY:DM gN[7]! (ca 1085 [cr.D pf,cr.D gN[7]!])=true:=by decide+kernel
def ahS {s:cr}(h:s∈gN):ca 1085 [cr.D pf,cr.D s]=some (cr.D s):=by
 obtain⟨i,hi,rfl⟩:=fQ h;have:i<8:=hi;rcases(by omega:i=0\/i=1\/i=2\/i=3\/i=4\/i=5\/i=6\/i=7)with rfl|rfl|rfl|rfl|rfl|rfl|rfl|rfl
 .exact fV abR
 .exact fV abS
 .exact fV abT
 .exact fV abU
 .exact fV abV
 .exact fV abW
 .exact fV abX
 .exact fV abY
def agN:DM (dz bN[0]!) (ca 156 [bX.D bN[0]!])=true:=by decide+kernel
def agO:DM (dz bN[1]!) (ca 156 [bX.D bN[1]!])=true:=by decide+kernel
def agP:DM (dz bN[2]!) (ca 156 [bX.D bN[2]!])=true:=by decide+kernel
def agQ:DM (dz bN[3]!) (ca 156 [bX.D bN[3]!])=true:=by decide+kernel
def ev156 {v:bX}(h:v∈bN):ca 156 [bX.D v]=some (cr.D (dz v)):=by
 obtain⟨i,hi,rfl⟩:=fQ h;have:i<4:=hi;rcases(by omega:i=0\/i=1\/i=2\/i=3)with rfl|rfl|rfl|rfl
 .exact fV agN
 .exact fV agO
 .exact fV agP
 .exact fV agQ
def ev374:ca 374 []=some (cr.D pf):=fV (by decide+kernel)
def VV:fF (Fs [] qh[0]!) (ca 907 [.str [],Env.D qh[0]!])=true:=by decide+kernel
def VW:fF (Fs [] qh[1]!) (ca 907 [.str [],Env.D qh[1]!])=true:=by decide+kernel
def VX:fF (Fs [] qh[2]!) (ca 907 [.str [],Env.D qh[2]!])=true:=by decide+kernel
def VY:fF (Fs [111,115,32,61,32,108,105,110,117,120] qh[0]!) (ca 907 [.str [111,115,32,61,32,108,105,110,117,120],Env.D qh[0]!])=true:=by decide+kernel
def VZ:fF (Fs [111,115,32,61,32,108,105,110,117,120] qh[1]!) (ca 907 [.str [111,115,32,61,32,108,105,110,117,120],Env.D qh[1]!])=true:=by decide+kernel
def V0:fF (Fs [111,115,32,61,32,108,105,110,117,120] qh[2]!) (ca 907 [.str [111,115,32,61,32,108,105,110,117,120],Env.D qh[2]!])=true:=by decide+kernel
def V1:fF (Fs [111,115,32,33,61,32,108,105,110,117,120] qh[0]!) (ca 907 [.str [111,115,32,33,61,32,108,105,110,117,120],Env.D qh[0]!])=true:=by decide+kernel
def V2:fF (Fs [111,115,32,33,61,32,108,105,110,117,120] qh[1]!) (ca 907 [.str [111,115,32,33,61,32,108,105,110,117,120],Env.D qh[1]!])=true:=by decide+kernel
def V3:fF (Fs [111,115,32,33,61,32,108,105,110,117,120] qh[2]!) (ca 907 [.str [111,115,32,33,61,32,108,105,110,117,120],Env.D qh[2]!])=true:=by decide+kernel
def ev907 {s:av}{e:Env}(h:oG s)(he:kX e):ca 907 [.str s,Env.D e]=some (.bool (Fs s e)):=by
 simp only[oG,Ls,bF,cP,or_false]at h;obtain⟨j,hj,rfl⟩:=fQ he;have:j<3:=hj;rcases h with rfl|rfl|rfl<;>rcases(by omega:j=0\/j=1\/j=2)with rfl|rfl|rfl
 .exact cu VV
 .exact cu VW
 .exact cu VX
 .exact cu VY
 .exact cu VZ
 .exact cu V0
 .exact cu V1
 .exact cu V2
 .exact cu V3
end Go.Abs
end
