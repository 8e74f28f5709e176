/- A part of the proofs. -/
import Derived.Test.YtgdpmljblomcfaaGreatDoorP04
set_option linter.all false
set_option maxRecDepth 60000
set_option maxHeartbeats 2000000
section
set_option maxRecDepth 10000
namespace Go.Abs
def abY:Ec gT[0]! (cn 1085 [cy.D pD,cy.D gT[0]!])=true:=by decide+kernel
def abZ:Ec gT[1]! (cn 1085 [cy.D pD,cy.D gT[1]!])=true:=by decide+kernel
def ab0:Ec gT[2]! (cn 1085 [cy.D pD,cy.D gT[2]!])=true:=by decide+kernel
def ab1:Ec gT[3]! (cn 1085 [cy.D pD,cy.D gT[3]!])=true:=by decide+kernel
def ab2:Ec gT[4]! (cn 1085 [cy.D pD,cy.D gT[4]!])=true:=by decide+kernel
def ab3:Ec gT[5]! (cn 1085 [cy.D pD,cy.D gT[5]!])=true:=by decide+kernel
def ab4:Ec gT[6]! (cn 1085 [cy.D pD,cy.D gT[6]!])=true:=by decide+kernel
def ab5:Ec gT[7]! (cn 1085 [cy.D pD,cy.D gT[7]!])=true:=by decide+kernel
def aia {s:cy}(h:s∈gT):cn 1085 [cy.D pD,cy.D s]=some (cy.D s):=by
 obtain⟨i,hi,rfl⟩:=fU h;have:i<8:=hi;rcases(by omega:i=0\/i=1\/i=2\/i=3\/i=4\/i=5\/i=6\/i=7)with rfl|rfl|rfl|rfl|rfl|rfl|rfl|rfl
 .exact gA abY
 .exact gA abZ
 .exact gA ab0
 .exact gA ab1
 .exact gA ab2
 .exact gA ab3
 .exact gA ab4
 .exact gA ab5
def ag5:Ec (er bU[0]!) (cn 156 [bZ.D bU[0]!])=true:=by decide+kernel
def ag6:Ec (er bU[1]!) (cn 156 [bZ.D bU[1]!])=true:=by decide+kernel
def ag7:Ec (er bU[2]!) (cn 156 [bZ.D bU[2]!])=true:=by decide+kernel
def ag8:Ec (er bU[3]!) (cn 156 [bZ.D bU[3]!])=true:=by decide+kernel
def ev156 {v:bZ}(h:v∈bU):cn 156 [bZ.D v]=some (cy.D (er v)):=by
 obtain⟨i,hi,rfl⟩:=fU h;have:i<4:=hi;rcases(by omega:i=0\/i=1\/i=2\/i=3)with rfl|rfl|rfl|rfl
 .exact gA ag5
 .exact gA ag6
 .exact gA ag7
 .exact gA ag8
def ev374:cn 374 []=some (cy.D pD):=gA (by decide+kernel)
def V3:fA (FI [] qy[0]!) (cn 907 [.str [],Env.D qy[0]!])=true:=by decide+kernel
def V4:fA (FI [] qy[1]!) (cn 907 [.str [],Env.D qy[1]!])=true:=by decide+kernel
def V5:fA (FI [] qy[2]!) (cn 907 [.str [],Env.D qy[2]!])=true:=by decide+kernel
def V6:fA (FI [111,115,32,61,32,108,105,110,117,120] qy[0]!) (cn 907 [.str [111,115,32,61,32,108,105,110,117,120],Env.D qy[0]!])=true:=by decide+kernel
def V7:fA (FI [111,115,32,61,32,108,105,110,117,120] qy[1]!) (cn 907 [.str [111,115,32,61,32,108,105,110,117,120],Env.D qy[1]!])=true:=by decide+kernel
def V8:fA (FI [111,115,32,61,32,108,105,110,117,120] qy[2]!) (cn 907 [.str [111,115,32,61,32,108,105,110,117,120],Env.D qy[2]!])=true:=by decide+kernel
def V9:fA (FI [111,115,32,33,61,32,108,105,110,117,120] qy[0]!) (cn 907 [.str [111,115,32,33,61,32,108,105,110,117,120],Env.D qy[0]!])=true:=by decide+kernel
def Wa:fA (FI [111,115,32,33,61,32,108,105,110,117,120] qy[1]!) (cn 907 [.str [111,115,32,33,61,32,108,105,110,117,120],Env.D qy[1]!])=true:=by decide+kernel
def Wb:fA (FI [111,115,32,33,61,32,108,105,110,117,120] qy[2]!) (cn 907 [.str [111,115,32,33,61,32,108,105,110,117,120],Env.D qy[2]!])=true:=by decide+kernel
def ev907 {s:av}{e:Env}(h:oQ s)(he:kX e):cn 907 [.str s,Env.D e]=some (.bool (FI s e)):=by
 simp only[oQ,Ly,b9,cV,or_false]at h;obtain⟨j,hj,rfl⟩:=fU he;have:j<3:=hj;rcases h with rfl|rfl|rfl<;>rcases(by omega:j=0\/j=1\/j=2)with rfl|rfl|rfl
 .exact cA V3
 .exact cA V4
 .exact cA V5
 .exact cA V6
 .exact cA V7
 .exact cA V8
 .exact cA V9
 .exact cA Wa
 .exact cA Wb
end Go.Abs
end
