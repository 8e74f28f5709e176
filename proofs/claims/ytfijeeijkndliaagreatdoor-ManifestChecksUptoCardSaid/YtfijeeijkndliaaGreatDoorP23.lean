/- A part of the proofs. -/
import Derived.Test.YtfijeeijkndliaaGreatDoorP07
set_option linter.all false
set_option maxRecDepth 60000
set_option maxHeartbeats 2000000
namespace Go.Abs
variable {Y:Ctx}(hm:(Y.at 0).cP)
noncomputable def WM:aN:=dy 8
def w1208 (h1201:aga Y)(m:fD)   :dX Y WM (.bool (Wk m)) [fD.D m]:=by
 show cg _ _ _ [⟨_,_⟩,_,_,_,_,_,_,_,_,_] _;refine ay ?_;refine aQ ?_;refine aV (v:=.sl 2 (m.ps.map dH.D)) ?_;refine aE ?_;intro u0;refine aF ?_;refine aV (v:=.sl 2 (m.hs.map bV.D)) ?_;refine gN ?_;refine aK ?_;refine aV (v:=Rec.D m.r) ?_;refine bj (yA.D (⟨m.r,0,false⟩:yA)) ?_;refine dq [yA.D (⟨m.r,0,false⟩:yA)] ?_;refine bj (.agg [.str [],.own 16 11 0 1]) ?_;refine eD (hc:=fun hf=>h1201 (⟨[],[(⟨m.r,0,false⟩:yA)]⟩:RQ)) (ha:=fun _=>ak (fun d=>[d]) (ajf (nm:=[]) (es:=[(⟨m.r,0,false⟩:yA)]) (fun _=>rfl) ah)) (hp:=fun _=>⟨af9 (nm:=[]) (es:=[(⟨m.r,0,false⟩:yA)]) (fun _=>⟨rfl,rfl,rfl,rfl,rfl,rfl,rfl,rfl,rfl,rfl,rfl,rfl⟩) ah,trivial⟩) ?_;refine aF ?_;refine az (fun hc0=>?_) (fun hc0=>?_)
 .simp only[cX]at hc0;have hz:R5 m=false:=acO hc0;refine aU ?_;refine cd ?_;unfold Wk;rw[hz];rfl
 simp only[cX]at hc0;have hz:R5 m=true:=ZU hc0;refine aU ?_;refine br hm (ι:=Nat) (fun i=>[.un,.un,⟨true,.ptr 0 11 0 0⟩,.un,⟨true,.int .i64 (i:Nat)⟩,.un,.un,.un,.un,.un]) (fun i=>[(0,.buf 11 [fD.D m])]) 60 (fun i=>i<=m.ps.length/\c9 (fun i=>LG m.ps[i]!) 0 m.ps.length=c9 (fun i=>LG m.ps[i]!) i m.ps.length) (fun i=>m.ps.length-i) 0 ⟨ae,rfl⟩ (dQ [(0,0)]) ?_;rintro i ⟨hi,hr⟩;refine aK ?_;refine aV (v:=.sl 2 (m.ps.map dH.D)) ?_;refine aE ?_;intro u1;refine aD ?_;refine di (fun hc1=>?_) fun hc1=>?_
 .refine aK ?_;refine aV (v:=.sl 2 (m.ps.map dH.D)) ?_;refine aE ?_;refine bz i (hb:=fun _=>ae) ?_;refine aE ?_;refine bp (v:=.str m.ps[i]!.name) (hi:=fun _=>ae) ?_;refine gN ?_;refine aE ?_;refine aV (v:=.sl 2 (m.ps.map dH.D)) ?_;refine aE ?_;refine bz i (hb:=fun _=>ae) ?_;refine aE ?_;refine bp (v:=.str m.ps[i]!.shelf) (hi:=fun _=>ae) ?_;refine gN ?_;refine yi (sum2 m.ps[i]!.name m.ps[i]!.shelf) (hb:=fun _=>rfl) ?_;refine aD ?_;refine wp_cond (fun hc2=>?_) (fun hc2=>?_)
  .simp only[cX]at hc2;have hy:LG m.ps[i]! =false:=by unfold LG;rw[bY hc2];rfl
   refine aQ ?_;refine cd ?_;unfold Wk;rw[hz,hr,bc ae,hy];rfl
  simp only[cX]at hc2;have hy:LG m.ps[i]! =true:=by unfold LG;rw[cy hc2];rfl
  refine bW ?_;exact⟨i+1,⟨ae,by rw[hr,bc ae,hy];rfl⟩,ae,(dQ [(0,0)])⟩
 refine aK ?_;have hzp:c9 (fun i=>LG m.ps[i]!) 0 m.ps.length=true:=by rw[hr,cL ae]
 refine aD ?_;refine br hm (ι:=Nat) (fun i=>[.un,.un,⟨true,.ptr 0 11 0 0⟩,.un,.un,.un,.un,⟨true,.int .i64 (i:Nat)⟩,.un,.un]) (fun i=>[(0,.buf 11 [fD.D m])]) 90 (fun i=>i<=m.hs.length/\c9 (fun i=>R6 m.hs[i]!) 0 m.hs.length=c9 (fun i=>R6 m.hs[i]!) i m.hs.length) (fun i=>m.hs.length-i) 0 ⟨ae,rfl⟩ (dQ [(0,0)]) ?_;rintro i ⟨hi,hr⟩;refine aK ?_;refine aV (v:=.sl 2 (m.hs.map bV.D)) ?_;refine aE ?_;intro u2;refine aD ?_;refine di (fun hc3=>?_) fun hc3=>?_
 .refine aK ?_;refine aV (v:=.sl 2 (m.hs.map bV.D)) ?_;refine aE ?_;refine bz i (hb:=fun _=>ae) ?_;refine aE ?_;refine bp (v:=.str m.hs[i]!.name) (hi:=fun _=>ae) ?_;refine gN ?_;refine aE ?_;refine aV (v:=.sl 2 (m.hs.map bV.D)) ?_;refine aE ?_;refine bz i (hb:=fun _=>ae) ?_;refine aE ?_;refine bp (v:=.str m.hs[i]!.range) (hi:=fun _=>ae) ?_;refine gN ?_;refine yi (sum2 m.hs[i]!.name m.hs[i]!.range) (hb:=fun _=>rfl) ?_;refine aD ?_;refine wp_cond (fun hc4=>?_) (fun hc4=>?_)
  .simp only[cX]at hc4;have hy:R6 m.hs[i]! =false:=by unfold R6;rw[bY hc4];rfl
   refine aQ ?_;refine cd ?_;unfold Wk;rw[hz,hzp,hr,bc ae,hy];rfl
  simp only[cX]at hc4;have hy:R6 m.hs[i]! =true:=by unfold R6;rw[cy hc4];rfl
  refine bW ?_;exact⟨i+1,⟨ae,by rw[hr,bc ae,hy];rfl⟩,ae,(dQ [(0,0)])⟩
 refine aQ ?_;refine cd ?_;unfold Wk;rw[hz,hzp,hr,cL ae];rfl
noncomputable def uJ:aN:=dy 3
def w1204 {Y:Ctx}(hm:(Y.at 0).cP)(h81:C81 Y)(h121:C121 Y)(h136:Vp Y)(h238:NS Y)(h247:K4 Y)(h1208:agb Y)(m:fD)  (hp0:qY m):dX Y uJ (.bool true) [fD.D m]:=by
 show cg _ _ _ [⟨_,_⟩,_,_,_,_,_,_,_,_,_,_,_] _;refine ay ?_;refine aU ?_;refine cO (d:=fD.D m) ?_;refine au (hc:=h1208 m) ?_;refine aD ?_;refine di (fun hc0=>?_) fun hc0=>?_
 .refine aD ?_;refine au (hc:=h81) ?_;refine aF ?_;exact cd rfl
 refine aD ?_;refine cO (d:=fD.D m) ?_;refine au (hc:=h247 m hp0) ?_;refine bw ?_;refine cO (d:=fD.D m) ?_;refine au (hc:=h136 m hp0) ?_;refine bw ?_;refine cO (d:=fD.D m) ?_;refine au (hc:=h238 m hp0) ?_;refine bw ?_;refine cO (d:=fD.D m) ?_;refine au (hc:=h121 m hp0) ?_;refine bw ?_;refine au (hc:=h81) ?_;refine zzz23 ?_;refine cd ?_;simp
end Go.Abs
