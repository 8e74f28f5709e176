/- A part of the proofs. -/
import Derived.Test.YtkmlboofmolbaaaGreatDoorP09
set_option linter.all false
set_option maxRecDepth 60000
set_option maxHeartbeats 2000000
section
set_option maxRecDepth 10000
namespace Go.Abs
def acz:Ee hZ[0]! (cr 1085 [cA.D pH,cA.D hZ[0]!])=true:=by decide+kernel
def acA:Ee hZ[1]! (cr 1085 [cA.D pH,cA.D hZ[1]!])=true:=by decide+kernel
def acB:Ee hZ[2]! (cr 1085 [cA.D pH,cA.D hZ[2]!])=true:=by decide+kernel
def acC:Ee hZ[3]! (cr 1085 [cA.D pH,cA.D hZ[3]!])=true:=by decide+kernel
def acD:Ee hZ[4]! (cr 1085 [cA.D pH,cA.D hZ[4]!])=true:=by decide+kernel
def acE:Ee hZ[5]! (cr 1085 [cA.D pH,cA.D hZ[5]!])=true:=by decide+kernel
def acF:Ee hZ[6]! (cr 1085 [cA.D pH,cA.D hZ[6]!])=true:=by decide+kernel
def acG:Ee hZ[7]! (cr 1085 [cA.D pH,cA.D hZ[7]!])=true:=by decide+kernel
def aiz {s:cA}(h:s∈hZ):cr 1085 [cA.D pH,cA.D s]=some (cA.D s):=by
 obtain⟨i,hi,rfl⟩:=gu h;have:i<8:=hi;rcases(by omega:i=0\/i=1\/i=2\/i=3\/i=4\/i=5\/i=6\/i=7)with rfl|rfl|rfl|rfl|rfl|rfl|rfl|rfl
 .exact gD acz
 .exact gD acA
 .exact gD acB
 .exact gD acC
 .exact gD acD
 .exact gD acE
 .exact gD acF
 .exact gD acG
def aht:Ee (dJ bJ[0]!) (cr 156 [ca.D bJ[0]!])=true:=by decide+kernel
def ahu:Ee (dJ bJ[1]!) (cr 156 [ca.D bJ[1]!])=true:=by decide+kernel
def ahv:Ee (dJ bJ[2]!) (cr 156 [ca.D bJ[2]!])=true:=by decide+kernel
def ahw:Ee (dJ bJ[3]!) (cr 156 [ca.D bJ[3]!])=true:=by decide+kernel
def ev156 {v:ca}(h:v∈bJ):cr 156 [ca.D v]=some (cA.D (dJ v)):=by
 obtain⟨i,hi,rfl⟩:=gu h;have:i<4:=hi;rcases(by omega:i=0\/i=1\/i=2\/i=3)with rfl|rfl|rfl|rfl
 .exact gD aht
 .exact gD ahu
 .exact gD ahv
 .exact gD ahw
def ev374:cr 374 []=some (cA.D pH):=gD (by decide+kernel)
def Wr:fN (FO [] qF[0]!) (cr 907 [.str [],Env.D qF[0]!])=true:=by decide+kernel
def Ws:fN (FO [] qF[1]!) (cr 907 [.str [],Env.D qF[1]!])=true:=by decide+kernel
def Wt:fN (FO [] qF[2]!) (cr 907 [.str [],Env.D qF[2]!])=true:=by decide+kernel
def Wu:fN (FO [111,115,32,61,32,108,105,110,117,120] qF[0]!) (cr 907 [.str [111,115,32,61,32,108,105,110,117,120],Env.D qF[0]!])=true:=by decide+kernel
def Wv:fN (FO [111,115,32,61,32,108,105,110,117,120] qF[1]!) (cr 907 [.str [111,115,32,61,32,108,105,110,117,120],Env.D qF[1]!])=true:=by decide+kernel
def Ww:fN (FO [111,115,32,61,32,108,105,110,117,120] qF[2]!) (cr 907 [.str [111,115,32,61,32,108,105,110,117,120],Env.D qF[2]!])=true:=by decide+kernel
def Wx:fN (FO [111,115,32,33,61,32,108,105,110,117,120] qF[0]!) (cr 907 [.str [111,115,32,33,61,32,108,105,110,117,120],Env.D qF[0]!])=true:=by decide+kernel
def Wy:fN (FO [111,115,32,33,61,32,108,105,110,117,120] qF[1]!) (cr 907 [.str [111,115,32,33,61,32,108,105,110,117,120],Env.D qF[1]!])=true:=by decide+kernel
def Wz:fN (FO [111,115,32,33,61,32,108,105,110,117,120] qF[2]!) (cr 907 [.str [111,115,32,33,61,32,108,105,110,117,120],Env.D qF[2]!])=true:=by decide+kernel
def ev907 {s:au}{e:Env}(h:oW s)(he:lz e):cr 907 [.str s,Env.D e]=some (.bool (FO s e)):=by
 simp only[oW,LV,bL,cY,or_false]at h;obtain⟨j,hj,rfl⟩:=gu he;have:j<3:=hj;rcases h with rfl|rfl|rfl<;>rcases(by omega:j=0\/j=1\/j=2)with rfl|rfl|rfl
 .exact cD Wr
 .exact cD Ws
 .exact cD Wt
 .exact cD Wu
 .exact cD Wv
 .exact cD Ww
 .exact cD Wx
 .exact cD Wy
 .exact cD Wz
end Go.Abs
end
