/- A part of the proofs. -/
import Derived.Test.YtdhangmdmdegpaaGreatDoorP09
set_option linter.all false
set_option maxRecDepth 60000
set_option maxHeartbeats 2000000
section
set_option maxRecDepth 10000
namespace Go.Abs
def adU:E2 hR[0]! (cn 1085 [cy.D p8,cy.D hR[0]!])=true:=by decide+kernel
def adV:E2 hR[1]! (cn 1085 [cy.D p8,cy.D hR[1]!])=true:=by decide+kernel
def adW:E2 hR[2]! (cn 1085 [cy.D p8,cy.D hR[2]!])=true:=by decide+kernel
def adX:E2 hR[3]! (cn 1085 [cy.D p8,cy.D hR[3]!])=true:=by decide+kernel
def adY:E2 hR[4]! (cn 1085 [cy.D p8,cy.D hR[4]!])=true:=by decide+kernel
def adZ:E2 hR[5]! (cn 1085 [cy.D p8,cy.D hR[5]!])=true:=by decide+kernel
def ad0:E2 hR[6]! (cn 1085 [cy.D p8,cy.D hR[6]!])=true:=by decide+kernel
def ad1:E2 hR[7]! (cn 1085 [cy.D p8,cy.D hR[7]!])=true:=by decide+kernel
def aj2 {s:cy}(h:s∈hR):cn 1085 [cy.D p8,cy.D s]=some (cy.D s):=by
 obtain⟨i,hi,rfl⟩:=ff h;have:i<8:=hi;rcases(by omega:i=0\/i=1\/i=2\/i=3\/i=4\/i=5\/i=6\/i=7)with rfl|rfl|rfl|rfl|rfl|rfl|rfl|rfl
 .exact gD adU
 .exact gD adV
 .exact gD adW
 .exact gD adX
 .exact gD adY
 .exact gD adZ
 .exact gD ad0
 .exact gD ad1
def aiX:E2 (dS bQ[0]!) (cn 156 [b6.D bQ[0]!])=true:=by decide+kernel
def aiY:E2 (dS bQ[1]!) (cn 156 [b6.D bQ[1]!])=true:=by decide+kernel
def aiZ:E2 (dS bQ[2]!) (cn 156 [b6.D bQ[2]!])=true:=by decide+kernel
def ai0:E2 (dS bQ[3]!) (cn 156 [b6.D bQ[3]!])=true:=by decide+kernel
def ev156 {v:b6}(h:v∈bQ):cn 156 [b6.D v]=some (cy.D (dS v)):=by
 obtain⟨i,hi,rfl⟩:=ff h;have:i<4:=hi;rcases(by omega:i=0\/i=1\/i=2\/i=3)with rfl|rfl|rfl|rfl
 .exact gD aiX
 .exact gD aiY
 .exact gD aiZ
 .exact gD ai0
def ev374:cn 374 []=some (cy.D p8):=gD (by decide+kernel)
def XM:fR (GJ [] qV[0]!) (cn 907 [.str [],Env.D qV[0]!])=true:=by decide+kernel
def XN:fR (GJ [] qV[1]!) (cn 907 [.str [],Env.D qV[1]!])=true:=by decide+kernel
def XO:fR (GJ [] qV[2]!) (cn 907 [.str [],Env.D qV[2]!])=true:=by decide+kernel
def XP:fR (GJ [111,115,32,61,32,108,105,110,117,120] qV[0]!) (cn 907 [.str [111,115,32,61,32,108,105,110,117,120],Env.D qV[0]!])=true:=by decide+kernel
def XQ:fR (GJ [111,115,32,61,32,108,105,110,117,120] qV[1]!) (cn 907 [.str [111,115,32,61,32,108,105,110,117,120],Env.D qV[1]!])=true:=by decide+kernel
def XR:fR (GJ [111,115,32,61,32,108,105,110,117,120] qV[2]!) (cn 907 [.str [111,115,32,61,32,108,105,110,117,120],Env.D qV[2]!])=true:=by decide+kernel
def XS:fR (GJ [111,115,32,33,61,32,108,105,110,117,120] qV[0]!) (cn 907 [.str [111,115,32,33,61,32,108,105,110,117,120],Env.D qV[0]!])=true:=by decide+kernel
def XT:fR (GJ [111,115,32,33,61,32,108,105,110,117,120] qV[1]!) (cn 907 [.str [111,115,32,33,61,32,108,105,110,117,120],Env.D qV[1]!])=true:=by decide+kernel
def XU:fR (GJ [111,115,32,33,61,32,108,105,110,117,120] qV[2]!) (cn 907 [.str [111,115,32,33,61,32,108,105,110,117,120],Env.D qV[2]!])=true:=by decide+kernel
def ev907 {s:aw}{e:Env}(h:pD s)(he:kS e):cn 907 [.str s,Env.D e]=some (.bool (GJ s e)):=by
 simp only[pD,MR,bH,cX,or_false]at h;obtain⟨j,hj,rfl⟩:=ff he;have:j<3:=hj;rcases h with rfl|rfl|rfl<;>rcases(by omega:j=0\/j=1\/j=2)with rfl|rfl|rfl
 .exact cB XM
 .exact cB XN
 .exact cB XO
 .exact cB XP
 .exact cB XQ
 .exact cB XR
 .exact cB XS
 .exact cB XT
 .exact cB XU
end Go.Abs
end
