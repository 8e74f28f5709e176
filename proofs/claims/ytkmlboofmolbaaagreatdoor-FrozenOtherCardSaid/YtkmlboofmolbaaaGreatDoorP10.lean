/- A part of the proofs. -/
import Derived.Test.YtkmlboofmolbaaaGreatDoorP09
set_option linter.all false
set_option maxRecDepth 60000
set_option maxHeartbeats 2000000
noncomputable section
namespace Go.Abs
variable {Y:Ctx}(hm:(Y.at 0).bU)
def My:aj:=bc 204
def w215 (hA:C242 Y)(hB:C450 Y)(hC:C451 Y)(hD:C452 Y):tO (cw Y My):=λr hp0=>by
 show du _ _ _ [⟨_,_⟩,_,_,_,_,_,_,_,_,_,_,_,_,_,_,_,_,_,_,_,_,_,_,_,_,_,_,_,_,_,_] _;have hft:=tk hp0;have q0:=hft.nm;have q00:=Ed r.v hft.v;have hs:=hp0.2;refine aP ?_;refine Em ?_;refine aF (hc:=hC r.v hft.v) ?_;refine bg [(.str _),(.str _),(.str _)] ?_;refine dI (nx':=4) (v:=.tup []) (m':=[(9,.row (uS r)),(0,.buf 9 [Rec.D r]),(2,.bld (some 9) (uS r).length true)]) (hc:=λK' hK=>hB [qd,r.name,uI r.v] ([]) 2 8 _ _ K' (.inl ⟨false,c8,rfl⟩) ai eC eC (.mk aV lX (dp.2 ⟨aV,dp.2 ⟨ae,dp.2 ⟨ae,λ_ h=>nomatch h⟩⟩⟩) mV) (by rw[show([])++cq [qd,r.name,uI r.v]=uS r from rfl];exact hK)) (hn:=aV) ?_;refine zg ?_;intro u0;refine gy hm (ι:=Nat) (λi=>[.un,.un,⟨true,.ptr 0 9 0 0⟩,⟨true,.ptr 2 2 0 0⟩,⟨true,.int .i64 (i:Nat)⟩,⟨true,.int .i64 (r.needs.length:Nat)⟩,.un,⟨true,.sl 3 (r.needs.map bn.D)⟩,.un,.un,.un,.un,.un,.un,.un,.un,.un,.un,.un,.un,.un,.un,.un,.un,.un,.un,.un,.un,.un,.un,.un]) (λi=>[(0,.buf 9 [Rec.D r]),(2,.bld (some 3) (kD r i).length true),(3,.row (kD r i))]) 10 (λi=>i<=r.needs.length) (λi=>r.needs.length-i) 0 ae (aZ.to [(0,0),(2,2),(9,3)] ai ai Pj (by refine bo.AW ai ai ai ?_;refine bo.bl 2 ai ai ai (aw List.length (by rw[aaf])) rfl ?_;refine bo.rw 9 ai ai (by rw[aaf]) ?_;exact bo.nil)) ?_;intro i hi;have q1:=Iy hft i hi;refine zc ?_ ?_<;>intro hc0
 .refine dJ ?_;have hnf:=hft.n _ (aq (show i<r.needs.length by omega));have hn3:=hnf.1.1;refine kB ?_;refine bg [(.str _)] ?_;refine dI (nx':=16) (v:=.tup []) (m':=[(16,.row (kD r i++dQ r.needs[i]! 0)),(0,.buf 9 [Rec.D r]),(2,.bld (some 16) (kD r i++dQ r.needs[i]! 0).length true),(13,.buf 3 [bn.D r.needs[i]!])]) (hc:=λK' hK=>hB [Gv] (kD r i) 2 15 _ _ K' (.inr ⟨3,true,c8,c8⟩) ai eC eC (.mk aV lX (dp.2 ⟨aV,λ_ h=>nomatch h⟩) mV) (by rw[show(kD r i)++cq [Gv]=kD r i++dQ r.needs[i]! 0 from rfl];exact hK)) (hn:=aV) ?_;refine zg ?_;intro u1;refine zf hm (λj=>[.u 2,.p 0 9,.p 2 2,.i i,.i r.needs.length,.u 1,.m 3 r.needs bn.D,.p 4 3,.i j,.i (r.needs[i]!.any.length:Nat),.u 1,.m 4 (r.needs[i]!.any) de.D,.u 18]) (λj=>[(0,.buf 9 [Rec.D r]),(4,.buf 3 [bn.D r.needs[i]!]),(2,.bld (some 3) (kD r i++dQ r.needs[i]! j).length true),(3,.row (kD r i++dQ r.needs[i]! j))]) 20 (λj=>j<=r.needs[i]!.any.length) (λj=>r.needs[i]!.any.length-j) ae [(0,0),(13,4),(2,2),(16,3)] ?_;intro j hj;have q2:=FL hnf j ae;refine zc ?_ ?_<;>intro hc1
  .refine dJ ?_;have hwf:=hnf.1.2 _ (aq (show j<r.needs[i]!.any.length by omega));have q3:=IF hwf;have q4:=hwf.1.1.1;have q5:=hwf.1.1.2.len;refine zg ?_;intro u2;refine dP ?_ ?_<;>intro hc2
   .refine dJ ?_;refine aF (hc:=hA r.needs[i]!.any[j]!.feats [44] (by have:=hwf.2.1;omega) aV (λt ht=>by have:=hwf.2.2 t ht;omega)) ?_;refine zc ?_ ?_<;>intro hc3
    .refine fE ?_;have hwl:cq [rQ,r.needs[i]!.any[j]!.name,(cn [44] r.needs[i]!.any[j]!.feats),rL,r.needs[i]!.any[j]!.range]=j0 r.needs[i]!.any[j]! :=by
      unfold j0 sQ;first|rw[ak (show r.needs[i]!.any[j]!.feats.length=0 by omega)]|rw[ah (show ¬r.needs[i]!.any[j]!.feats.length=0 by omega)]
      rw[hc3];rfl
     have hwj:=oo (n:=r.needs[i]!) (j:=j) ae;refine kB ?_;refine bg [(.str _),(.str _),(.str _),(.str _),(.str _)] ?_;refine dI (nx':=39) (v:=.tup []) (m':=[(45,.row (kD r i++dQ r.needs[i]! (j+1))),(0,.buf 9 [Rec.D r]),(4,.buf 3 [bn.D r.needs[i]!]),(2,.bld (some 45) (kD r i++dQ r.needs[i]! (j+1)).length true),(23,.buf 4 [de.D r.needs[i]!.any[j]!])]) (hc:=λK' hK=>hB [rQ,r.needs[i]!.any[j]!.name,(cn [44] r.needs[i]!.any[j]!.feats),rL,r.needs[i]!.any[j]!.range] (kD r i++dQ r.needs[i]! j) 2 44 _ _ K' (.inr ⟨3,true,c8,c8⟩) ai eC eC (.mk aV lX (dp.2 ⟨aV,dp.2 ⟨ae,dp.2 ⟨by first|omega|decide,dp.2 ⟨aV,dp.2 ⟨ae,λ_ h=>nomatch h⟩⟩⟩⟩⟩) mV) (by rw[show(kD r i++dQ r.needs[i]! j)++cq [rQ,r.needs[i]!.any[j]!.name,(cn [44] r.needs[i]!.any[j]!.feats),rL,r.needs[i]!.any[j]!.range]=kD r i++dQ r.needs[i]! (j+1)from by rw[hwl,hwj,fC]];exact hK)) (hn:=aV) ?_;refine zg ?_;exact iy (j+1) [(0,0),(4,4),(2,2),(45,3)]
    refine cX ?_;have hwl:cq [rQ,r.needs[i]!.any[j]!.name,(cn [44] r.needs[i]!.any[j]!.feats),rM,r.needs[i]!.any[j]!.range]=j0 r.needs[i]!.any[j]! :=by
     unfold j0 sQ;first|rw[ak (show r.needs[i]!.any[j]!.feats.length=0 by omega)]|rw[ah (show ¬r.needs[i]!.any[j]!.feats.length=0 by omega)]
     rw[hc3];rfl
    have hwj:=oo (n:=r.needs[i]!) (j:=j) ae;refine kB ?_;refine bg [(.str _),(.str _),(.str _),(.str _),(.str _)] ?_;refine dI (nx':=38) (v:=.tup []) (m':=[(44,.row (kD r i++dQ r.needs[i]! (j+1))),(0,.buf 9 [Rec.D r]),(4,.buf 3 [bn.D r.needs[i]!]),(2,.bld (some 44) (kD r i++dQ r.needs[i]! (j+1)).length true),(23,.buf 4 [de.D r.needs[i]!.any[j]!])]) (hc:=λK' hK=>hB [rQ,r.needs[i]!.any[j]!.name,(cn [44] r.needs[i]!.any[j]!.feats),rM,r.needs[i]!.any[j]!.range] (kD r i++dQ r.needs[i]! j) 2 43 _ _ K' (.inr ⟨3,true,c8,c8⟩) ai eC eC (.mk aV lX (dp.2 ⟨aV,dp.2 ⟨ae,dp.2 ⟨by first|omega|decide,dp.2 ⟨aV,dp.2 ⟨ae,λ_ h=>nomatch h⟩⟩⟩⟩⟩) mV) (by rw[show(kD r i++dQ r.needs[i]! j)++cq [rQ,r.needs[i]!.any[j]!.name,(cn [44] r.needs[i]!.any[j]!.feats),rM,r.needs[i]!.any[j]!.range]=kD r i++dQ r.needs[i]! (j+1)from by rw[hwl,hwj,fC]];exact hK)) (hn:=aV) ?_;refine zg ?_;exact iy (j+1) [(0,0),(4,4),(2,2),(44,3)]
   refine zc ?_ ?_<;>intro hc3
   .refine fE ?_;have hwl:cq [rQ,r.needs[i]!.any[j]!.name,[45],rL,r.needs[i]!.any[j]!.range]=j0 r.needs[i]!.any[j]! :=by
     unfold j0 sQ;first|rw[ak (show r.needs[i]!.any[j]!.feats.length=0 by omega)]|rw[ah (show ¬r.needs[i]!.any[j]!.feats.length=0 by omega)]
     rw[hc3];rfl
    have hwj:=oo (n:=r.needs[i]!) (j:=j) ae;refine kB ?_;refine bg [(.str _),(.str _),(.str _),(.str _),(.str _)] ?_;refine dI (nx':=35) (v:=.tup []) (m':=[(41,.row (kD r i++dQ r.needs[i]! (j+1))),(0,.buf 9 [Rec.D r]),(4,.buf 3 [bn.D r.needs[i]!]),(2,.bld (some 41) (kD r i++dQ r.needs[i]! (j+1)).length true),(23,.buf 4 [de.D r.needs[i]!.any[j]!])]) (hc:=λK' hK=>hB [rQ,r.needs[i]!.any[j]!.name,[45],rL,r.needs[i]!.any[j]!.range] (kD r i++dQ r.needs[i]! j) 2 40 _ _ K' (.inr ⟨3,true,c8,c8⟩) ai eC eC (.mk aV lX (dp.2 ⟨aV,dp.2 ⟨ae,dp.2 ⟨by first|omega|decide,dp.2 ⟨aV,dp.2 ⟨ae,λ_ h=>nomatch h⟩⟩⟩⟩⟩) mV) (by rw[show(kD r i++dQ r.needs[i]! j)++cq [rQ,r.needs[i]!.any[j]!.name,[45],rL,r.needs[i]!.any[j]!.range]=kD r i++dQ r.needs[i]! (j+1)from by rw[hwl,hwj,fC]];exact hK)) (hn:=aV) ?_;refine zg ?_;exact iy (j+1) [(0,0),(4,4),(2,2),(41,3)]
   refine cX ?_;have hwl:cq [rQ,r.needs[i]!.any[j]!.name,[45],rM,r.needs[i]!.any[j]!.range]=j0 r.needs[i]!.any[j]! :=by
    unfold j0 sQ;first|rw[ak (show r.needs[i]!.any[j]!.feats.length=0 by omega)]|rw[ah (show ¬r.needs[i]!.any[j]!.feats.length=0 by omega)]
    rw[hc3];rfl
   have hwj:=oo (n:=r.needs[i]!) (j:=j) ae;refine kB ?_;refine bg [(.str _),(.str _),(.str _),(.str _),(.str _)] ?_;refine dI (nx':=34) (v:=.tup []) (m':=[(40,.row (kD r i++dQ r.needs[i]! (j+1))),(0,.buf 9 [Rec.D r]),(4,.buf 3 [bn.D r.needs[i]!]),(2,.bld (some 40) (kD r i++dQ r.needs[i]! (j+1)).length true),(23,.buf 4 [de.D r.needs[i]!.any[j]!])]) (hc:=λK' hK=>hB [rQ,r.needs[i]!.any[j]!.name,[45],rM,r.needs[i]!.any[j]!.range] (kD r i++dQ r.needs[i]! j) 2 39 _ _ K' (.inr ⟨3,true,c8,c8⟩) ai eC eC (.mk aV lX (dp.2 ⟨aV,dp.2 ⟨ae,dp.2 ⟨by first|omega|decide,dp.2 ⟨aV,dp.2 ⟨ae,λ_ h=>nomatch h⟩⟩⟩⟩⟩) mV) (by rw[show(kD r i++dQ r.needs[i]! j)++cq [rQ,r.needs[i]!.any[j]!.name,[45],rM,r.needs[i]!.any[j]!.range]=kD r i++dQ r.needs[i]! (j+1)from by rw[hwl,hwj,fC]];exact hK)) (hn:=aV) ?_;refine zg ?_;exact iy (j+1) [(0,0),(4,4),(2,2),(40,3)]
  refine fE ?_;have hnA:=y0 (n:=r.needs[i]!) (j:=j) ae;have w4:=nP hnf.2.1;have w5:=hnf.2.2;have w6:=hnf.2.1;refine zc ?_ ?_<;>intro hc4
  .refine cO ?_;have hwt:kA r.needs[i]!.when'=cq [yo,r.needs[i]!.when']:=ah hc4;refine cX ?_;refine bg [(.str _),(.str _)] ?_;refine dI (nx':=25) (v:=.tup []) (m':=[(27,.row (kD r i++(dQ r.needs[i]! j++kA r.needs[i]!.when'))),(0,.buf 9 [Rec.D r]),(4,.buf 3 [bn.D r.needs[i]!]),(2,.bld (some 27) (kD r i++(dQ r.needs[i]! j++kA r.needs[i]!.when')).length true)]) (hc:=λK' hK=>hB [yo,r.needs[i]!.when'] (kD r i++dQ r.needs[i]! j) 2 26 _ _ K' (.inr ⟨3,true,c8,c8⟩) ai eC eC (.mk aV lX (dp.2 ⟨aV,dp.2 ⟨ae,λ_ h=>nomatch h⟩⟩) mV) (by rw[show(kD r i++dQ r.needs[i]! j)++cq [yo,r.needs[i]!.when']=kD r i++(dQ r.needs[i]! j++kA r.needs[i]!.when')from by rw[hwt,fC]];exact hK)) (hn:=aV) ?_;refine zc ?_ ?_<;>intro hc5
   .refine cO ?_;have hot:xG r.needs[i]!.option=cq [nG,r.needs[i]!.option]:=ah hc5;refine cX ?_;refine bg [(.str _),(.str _)] ?_;refine dI (nx':=33) (v:=.tup []) (m':=[(35,.row (kD r (i+1))),(0,.buf 9 [Rec.D r]),(4,.buf 3 [bn.D r.needs[i]!]),(2,.bld (some 35) (kD r (i+1)).length true)]) (hc:=λK' hK=>hB [nG,r.needs[i]!.option] (kD r i++(dQ r.needs[i]! j++kA r.needs[i]!.when')) 2 34 _ _ K' (.inr ⟨27,true,c8,c8⟩) ai eC eC (.mk aV lX (dp.2 ⟨aV,dp.2 ⟨ae,λ_ h=>nomatch h⟩⟩) mV) (by rw[show(kD r i++(dQ r.needs[i]! j++kA r.needs[i]!.when'))++cq [nG,r.needs[i]!.option]=kD r (i+1)from by rw[mI ae,hnA,hot];simp only[fC,gB]];exact hK)) (hn:=aV) ?_;refine zg ?_;exact iy (i+1) [(0,0),(2,2),(35,3)]
   refine dJ ?_;have hno:xG r.needs[i]!.option=[]:=ak oU;refine zg ?_;exact⟨i+1,ae,ae,(aZ.to [(0,0),(2,2),(27,3)] ai ai Pj (by refine bo.AW ai ai ai ?_;refine bo.bl 2 ai ai ai (aw List.length (by rw[mI ae,hnA,hno];simp only[fC,gB])) rfl ?_;refine bo.rw 27 ai ai (by rw[mI ae,hnA,hno];simp only[fC,gB]) ?_;exact bo.nil))⟩
  refine cX ?_;have hnw:kA r.needs[i]!.when'=[]:=ak (by simpa using hc4);refine zc ?_ ?_<;>intro hc5
  .refine cO ?_;have hot:xG r.needs[i]!.option=cq [nG,r.needs[i]!.option]:=ah hc5;refine cX ?_;refine bg [(.str _),(.str _)] ?_;refine dI (nx':=28) (v:=.tup []) (m':=[(30,.row (kD r (i+1))),(0,.buf 9 [Rec.D r]),(4,.buf 3 [bn.D r.needs[i]!]),(2,.bld (some 30) (kD r (i+1)).length true)]) (hc:=λK' hK=>hB [nG,r.needs[i]!.option] (kD r i++dQ r.needs[i]! j) 2 29 _ _ K' (.inr ⟨3,true,c8,c8⟩) ai eC eC (.mk aV lX (dp.2 ⟨aV,dp.2 ⟨ae,λ_ h=>nomatch h⟩⟩) mV) (by rw[show(kD r i++dQ r.needs[i]! j)++cq [nG,r.needs[i]!.option]=kD r (i+1)from by rw[mI ae,hnA,hot,hnw];simp only[fC,gB]];exact hK)) (hn:=aV) ?_;refine zg ?_;exact iy (i+1) [(0,0),(2,2),(30,3)]
  refine dJ ?_;have hno:xG r.needs[i]!.option=[]:=ak oU;refine zg ?_;exact⟨i+1,ae,ae,(aZ.to [(0,0),(2,2),(3,3)] ai ai Pj (by refine bo.AW ai ai ai ?_;refine bo.bl 2 ai ai ai (aw List.length (by rw[mI ae,hnA,hno,hnw];simp only[fC,gB])) rfl ?_;refine bo.rw 3 ai ai (by rw[mI ae,hnA,hno,hnw];simp only[fC,gB]) ?_;exact bo.nil))⟩
 refine fE ?_;have h33:i=r.needs.length:=ae;subst h33;refine zg ?_;intro u3;refine gy hm (ι:=Nat) (λi=>[.un,.un,⟨true,.ptr 0 9 0 0⟩,⟨true,.ptr 2 2 0 0⟩,.un,.un,.un,.un,.un,.un,.un,.un,.un,.un,.un,.un,.un,.un,.un,.un,⟨true,.int .i64 (i:Nat)⟩,⟨true,.int .i64 (r.bars.length:Nat)⟩,.un,⟨true,.sl 3 (r.bars.map lu.D)⟩,.un,.un,.un,.un,.un,.un,.un]) (λi=>[(0,.buf 9 [Rec.D r]),(2,.bld (some 3) (D8 r i).length true),(3,.row (D8 r i))]) 10 (λi=>i<=r.bars.length) (λi=>r.bars.length-i) 0 ae (aZ.to [(0,0),(2,2),(3,3)] ai ai Pj (by refine bo.AW ai ai ai ?_;refine bo.bl 2 ai ai ai (aw List.length (by rw[aag])) rfl ?_;refine bo.rw 3 ai ai (by rw[aag]) ?_;exact bo.nil)) ?_;intro i hi;have q1:=Iz hft i hi;refine zc ?_ ?_<;>intro hc6
 .refine dJ ?_;have q4:=hft.b _ (aq (show i<r.bars.length by omega));have q5:=q4.1;have q6:=q4.2.1.len;have q7:=q4.2.2.len;have hbt:GW r.bars[i]! =cq [zp,r.bars[i]!.name,r.bars[i]!.range]++kA r.bars[i]!.when':=rfl;have hxb:=NA (r:=r) (i:=i) ae;have w7:=nP q7;refine rb ?_;refine bg [(.str _),(.str _),(.str _)] ?_;refine dI (nx':=16) (v:=.tup []) (m':=[(20,.row (D8 r i++cq [zp,r.bars[i]!.name,r.bars[i]!.range])),(0,.buf 9 [Rec.D r]),(2,.bld (some 20) (D8 r i++cq [zp,r.bars[i]!.name,r.bars[i]!.range]).length true),(13,.buf 3 [lu.D r.bars[i]!])]) (hc:=λK' hK=>hB [zp,r.bars[i]!.name,r.bars[i]!.range] (D8 r i) 2 19 _ _ K' (.inr ⟨3,true,c8,c8⟩) ai eC eC (.mk aV lX (dp.2 ⟨aV,dp.2 ⟨ae,dp.2 ⟨ae,λ_ h=>nomatch h⟩⟩⟩) mV) (by rw[show(D8 r i)++cq [zp,r.bars[i]!.name,r.bars[i]!.range]=D8 r i++cq [zp,r.bars[i]!.name,r.bars[i]!.range]from rfl];exact hK)) (hn:=aV) ?_;refine cX ?_;have w8:(cq [zp,r.bars[i]!.name,r.bars[i]!.range]).length<=2200000:=by unfold cq;simp only[cn,zp,cu,bD,ca];omega
  refine zc ?_ ?_<;>intro hc7
  .refine cO ?_;have hwt:kA r.bars[i]!.when'=cq [yo,r.bars[i]!.when']:=ah hc7;refine cX ?_;refine bg [(.str _),(.str _)] ?_;refine dI (nx':=26) (v:=.tup []) (m':=[(28,.row (D8 r (i+1))),(0,.buf 9 [Rec.D r]),(2,.bld (some 28) (D8 r (i+1)).length true),(13,.buf 3 [lu.D r.bars[i]!])]) (hc:=λK' hK=>hB [yo,r.bars[i]!.when'] (D8 r i++cq [zp,r.bars[i]!.name,r.bars[i]!.range]) 2 27 _ _ K' (.inr ⟨20,true,c8,c8⟩) ai eC eC (.mk aV lX (dp.2 ⟨aV,dp.2 ⟨ae,λ_ h=>nomatch h⟩⟩) mV) (by rw[show(D8 r i++cq [zp,r.bars[i]!.name,r.bars[i]!.range])++cq [yo,r.bars[i]!.when']=D8 r (i+1)from by rw[hxb,hbt,hwt,fC]];exact hK)) (hn:=aV) ?_;refine zg ?_;exact iy (i+1) [(0,0),(2,2),(28,3)]
  refine dJ ?_;have hno:kA r.bars[i]!.when'=[]:=ak (by simpa using hc7);refine zg ?_;exact⟨i+1,ae,ae,(aZ.to [(0,0),(2,2),(20,3)] ai ai Pj (by refine bo.AW ai ai ai ?_;refine bo.bl 2 ai ai ai (aw List.length (by rw[hxb,hbt,hno,gB])) rfl ?_;refine bo.rw 20 ai ai (by rw[hxb,hbt,hno,gB]) ?_;exact bo.nil))⟩
 refine fE ?_;have h33:i=r.bars.length:=ae;subst h33;refine zg ?_;intro u4;refine gy hm (ι:=Nat) (λi=>[.un,.un,⟨true,.ptr 0 9 0 0⟩,⟨true,.ptr 2 2 0 0⟩,.un,.un,.un,.un,.un,.un,.un,.un,.un,.un,.un,.un,.un,.un,.un,.un,.un,.un,.un,.un,.un,.un,⟨true,.int .i64 (i:Nat)⟩,⟨true,.int .i64 (r.feats.length:Nat)⟩,.un,⟨true,.sl 2 (r.feats.map b6.D)⟩,.un]) (λi=>[(0,.buf 9 [Rec.D r]),(2,.bld (some 3) (Gt r i).length true),(3,.row (Gt r i))]) 10 (λi=>i<=r.feats.length) (λi=>r.feats.length-i) 0 ae (aZ.to [(0,0),(2,2),(3,3)] ai ai Pj (by refine bo.AW ai ai ai ?_;refine bo.bl 2 ai ai ai (aw List.length (by rw[aah])) rfl ?_;refine bo.rw 3 ai ai (by rw[aah]) ?_;exact bo.nil)) ?_;intro i hi;have q1:=SL hft i hi;refine zc ?_ ?_<;>intro hc8
 .refine dJ ?_;have q4:=hft.f _ (aq (show i<r.feats.length by omega));have q5:=q4.1.1;have q6:=q4.2;have q8:∀t∈r.feats[i]!.of,t.length<=2097200:=λt ht=>fg (q4.1.2.2 t ht) aV
  have hxf:=NB (r:=r) (i:=i) ae;refine pA ?_;refine bg [(.str _),(.str _)] ?_;refine cX ?_;refine xO (zs:=([jZ,r.feats[i]!.name]++r.feats[i]!.of).map D.str) (n:=([jZ,r.feats[i]!.name]++r.feats[i]!.of).length) (ha:=aC) (he:=mW.sl) (hz:=by rw[cY];rfl) (hn:=by simp<;>omega) (hb:=lX) ?_;refine dI (nx':=16) (v:=.tup []) (m':=[(21,.row (Gt r (i+1))),(0,.buf 9 [Rec.D r]),(2,.bld (some 21) (Gt r (i+1)).length true),(13,.buf 2 [b6.D r.feats[i]!])]) (hc:=λK' hK=>hB ([jZ,r.feats[i]!.name]++r.feats[i]!.of) (Gt r i) 2 20 _ _ K' (.inr ⟨3,true,c8,c8⟩) ai eC eC (.mk (l:=r.feats[i]!.name::r.feats[i]!.of) aV lX (dp.2 ⟨aV,dp.2 ⟨ae,q8⟩⟩) mV) (by rw[show(Gt r i)++cq ([jZ,r.feats[i]!.name]++r.feats[i]!.of)=Gt r (i+1)from by rw[hxf];rfl];exact hK)) (hn:=aV) ?_;refine zg ?_;exact iy (i+1) [(0,0),(2,2),(21,3)]
 refine zg ?_;have h33:i=r.feats.length:=ae;subst h33;have hne:Gt r r.feats.length≠[]:=by
  rw[IA];unfold D6 uS cq;simp[cn,qd]
 refine dI (nx':=11) (v:=.str (Gt r r.feats.length)) (m':=[(0,.buf 9 [Rec.D r])]) (hc:=λK' hK=>hD _ _ K' ⟨2,Gt r r.feats.length,rfl,.inr ⟨3,true,c8,c8⟩,hne,hK⟩) (hn:=aV) ?_;refine zr ?_;exact IA r
def Pt:aj:=bc 84
def w219 (hA:C249 Y)(hB:C316 Y)(hC:C461 Y)(hD:C462 Y):tO (cw Y Pt):=λr hp0=>by
 show du _ _ _ [⟨_,_⟩,_,_,_,_,_,_,_,_,_,_,_,_] _;have hft:=tk hp0;have q0:=hft.nm;have q00:=Ed r.v hft.v;refine aP ?_;refine rb ?_;refine aF (hc:=hB r.v hft.v) ?_;refine zg ?_;refine gy hm (ι:=Nat) (λi=>[.un,.un,⟨true,.ptr 0 9 0 0⟩,⟨true,.int .i64 (i:Nat)⟩,.un,⟨true,.str (kD r i)⟩,.un,.un,.un,.un,.un,.un,.un]) (λi=>[(0,.buf 9 [Rec.D r])]) 13 (λi=>i<=r.needs.length) (λi=>r.needs.length-i) 0 ae (aZ.to [(0,0)] ai ai (by repeat(first|exact fD.nil|refine fD.un ?_|refine fD.eq ai ?_|refine fD.nl (aw D.str (by rw[aaf];simp[uS,cq,cn,qd])) ai ?_)) Dj) ?_;intro i hi;have q1:=Iy hft i hi;refine zg ?_;intro u0;refine dP ?_ ?_<;>intro hc0
 .refine dJ ?_;have hnf:=hft.n _ (aq (show i<r.needs.length by omega));have hn3:=hnf.1.1;refine zg ?_;refine zf hm (λj=>[.u 2,.p 0 9,.i i,.u 1,.e (.str (kD r i++dQ r.needs[i]! j)),.i j,.u 6]) (λj=>[(0,.buf 9 [Rec.D r])]) 22 (λj=>j<=r.needs[i]!.any.length) (λj=>r.needs[i]!.any.length-j) ae [(0,0)] ?_;intro j hj;have q2:=FL hnf j ae;refine zg ?_;intro u1;refine dP ?_ ?_<;>intro hc1
  .refine dJ ?_;have hwf:=hnf.1.2 _ (aq (show j<r.needs[i]!.any.length by omega));have q3:=zq hwf;refine zg ?_;exact⟨j+1,ae,ae,(aZ.to [(0,0)] ai ai (by repeat(first|exact fD.nil|refine fD.un ?_|refine fD.eq ai ?_|refine fD.nl (aw D.str (by rw[oo ae,fC])) ai ?_)) Dj)⟩
  refine dJ ?_;have q4:=nP hnf.2.1;have q5:=hnf.2.2;refine qp ?_;refine aF (hc:=hD r.needs[i]!.when' hnf.2.1) ?_;refine zc ?_ ?_<;>intro hc2
  .refine zg ?_;have hq:kD r (i+1)=kD r i++(dQ r.needs[i]! j++kA r.needs[i]!.when'++xG r.needs[i]!.option):=by rw[mI ae,y0 (j:=j) ae]
   have ho:xG r.needs[i]!.option=[111,112,116,105,111,110,32]++r.needs[i]!.option++[10]:=by rw[xG,ah hc2];simp[cq,cn,nG]
   exact⟨i+1,ae,ae,(aZ.to [(0,0)] ai ai (by repeat(first|exact fD.nil|refine fD.un ?_|refine fD.eq ai ?_|refine fD.nl (aw D.str (by rw[hq,ho];simp only[fC])) ai ?_)) Dj)⟩
  refine zg ?_;have hq:kD r (i+1)=kD r i++(dQ r.needs[i]! j++kA r.needs[i]!.when'++xG r.needs[i]!.option):=by rw[mI ae,y0 (j:=j) ae]
  have ho:xG r.needs[i]!.option=[]:=by rw[xG,ak hc2]
  exact⟨i+1,ae,ae,(aZ.to [(0,0)] ai ai (by repeat(first|exact fD.nil|refine fD.un ?_|refine fD.eq ai ?_|refine fD.nl (aw D.str (by rw[hq,ho];simp only[fC,gB])) ai ?_)) Dj)⟩
 refine fE ?_;have h33:i=r.needs.length:=ae;subst h33;refine zg ?_;refine gy hm (ι:=Nat) (λi=>[.un,.un,⟨true,.ptr 0 9 0 0⟩,.un,.un,⟨true,.str (D8 r i)⟩,.un,.un,.un,⟨true,.int .i64 (i:Nat)⟩,.un,.un,.un]) (λi=>[(0,.buf 9 [Rec.D r])]) 19 (λi=>i<=r.bars.length) (λi=>r.bars.length-i) 0 ae (aZ.to [(0,0)] ai ai (by repeat(first|exact fD.nil|refine fD.un ?_|refine fD.eq ai ?_|refine fD.nl (aw D.str (by rw[aag])) ai ?_)) Dj) ?_;intro i hi;have q1:=Iz hft i hi;refine zg ?_;intro u2;refine dP ?_ ?_<;>intro hc3
 .refine dJ ?_;have q4:=hft.b _ (aq (show i<r.bars.length by omega));have q5:=q4.1;have q6:=q4.2.1.len;have q7:=nP q4.2.2.len;refine gZ ?_;refine rb ?_;refine aF (hc:=hD r.bars[i]!.when' q4.2.2.len) ?_;refine zg ?_;have hq:=NA (r:=r) (i:=i) ae;exact⟨i+1,ae,ae,(aZ.to [(0,0)] ai ai (by repeat(first|exact fD.nil|refine fD.un ?_|refine fD.eq ai ?_|refine fD.nl (aw D.str (by rw[hq];simp[GW,cq,cn,zp])) ai ?_)) Dj)⟩
 refine fE ?_;have h33:i=r.bars.length:=ae;subst h33;refine zg ?_;refine gy hm (ι:=Nat) (λi=>[.un,.un,⟨true,.ptr 0 9 0 0⟩,.un,.un,⟨true,.str (Gt r i)⟩,.un,.un,.un,.un,.un,⟨true,.int .i64 (i:Nat)⟩,.un]) (λi=>[(0,.buf 9 [Rec.D r])]) 25 (λi=>i<=r.feats.length) (λi=>r.feats.length-i) 0 ae (aZ.to [(0,0)] ai ai (by repeat(first|exact fD.nil|refine fD.un ?_|refine fD.eq ai ?_|refine fD.nl (aw D.str (by rw[aah])) ai ?_)) Dj) ?_;intro i hi;have q1:=SL hft i hi;refine zg ?_;intro u3;refine dP ?_ ?_<;>intro hc4
 .refine dJ ?_;have q4:=hft.f _ (aq (show i<r.feats.length by omega));have q5:=Fx q4;have q6:=q4.2;simp only[wY,cq,cu,bD,ca]at q5;refine qp ?_;refine bg [(.str _),(.str _)] ?_;refine kB ?_;refine pd (xs:=[jZ,r.feats[i]!.name]) (ys:=r.feats[i]!.of) (he:=mW.sl) (hb:=eC) ?_;refine aF (hc:=hA ([jZ,r.feats[i]!.name]++r.feats[i]!.of) 32 ae) (ha:=λ_=>aw (λd=>[d,D.int .u8 32]) (tG (q:=D.str) (λ_=>rfl) ai)) (hp:=λ_=>⟨qe (q:=D.str) (λ_=>rfl) ai,rfl,trivial⟩) ?_;refine Pk (hb:=λ_=>by first|omega|(simp only[cu,bD,ca];omega)) ?_;refine zg ?_;have hq:=NB (r:=r) (i:=i) ae;exact⟨i+1,ae,ae,(aZ.to [(0,0)] ai ai (by repeat(first|exact fD.nil|refine fD.un ?_|refine fD.eq ai ?_|refine fD.nl (aw D.str (by rw[hq];simp[wY,cq])) ai ?_)) Dj)⟩
 refine dJ ?_;have h33:i=r.feats.length:=ae;subst h33;refine zr ?_;exact IA r
def K9:aj:=bc 124
def w510:JA (cw Y K9):=λw c hp0=>by
 refine zg ?_;intro u0 u1;refine dP ?_ ?_<;>intro hc0
 .refine zr ?_;unfold uD;rw[bL ae,Bool.false_and]
 refine zg ?_;intro u2;refine zf hm (λi=>[.u 1,.m 1 c (D.int .i64),.u 1,.p 0 1,.u 1,.i i,.i c.length,.u 1,.m 1 c (D.int .i64),.u 3]) (λi=>[(0,.buf 1 [bP.D w])]) 11 (λi=>i<=c.length/\uD w c=bW (AS w c) i c.length) (λi=>c.length-i) ⟨ae,by unfold uD;rw[br ae,eI]⟩ [(0,0)] ?_;rintro i ⟨hi,hr⟩;refine zc ?_ ?_<;>intro hc1
 .refine zc ?_ ?_<;>intro hc2
  .refine zr ?_;rw[hr,aB ae,Rm hc2];rfl
  refine gM (i+1) [(0,0)] ?_;rw[hr,aB ae,Lp hc2];rfl
 refine zr ?_;rw[hr,bE ae]
def Oh:aj:=bc 80
def w273 (hm:(Y.at 0).bU)(hA:C175 Y)(hB:C510 Y):tQ (cw Y Oh):=λw c hp0=>by
 exact lU
def Oi:aj:=bc 82
def w624 (hm:(Y.at 0).bU)(hA:C712 Y):uh (cw Y Oi):=λw c x hp0=>by
 refine kB ?_;obtain⟨hsm,⟨hx0,hx1⟩,hft⟩:=hp0;have hfc:=nv hft;obtain⟨j,hj⟩:∃j:Nat,x.u=(j:Int):=⟨x.u.toNat,ae⟩
 have hjt:x.u.toNat=j:=ae;have hjl:j<w.us.length:=ae;have hcj:=hfc.2 j ae;have hun:=hsm.1 _ (aq hjl);have hvs:0<=c[j]! ->w.us[j]!.cands[c[j]!.toNat]!.v.sm:=λh=>(hun.2 _ (aq ae)).1
 refine gZ ?_;refine qp ?_;refine cK c[j]!.toNat (hj:=λhf=>wo) (hb:=λhf=>wo) ?_;refine cO ?_;refine dh (v:=bV.D w.us[j]!.cands[c[j]!.toNat]!.v) (hi:=λhf=>wo) ?_;refine cv (hc:=λhf=>hA x.s w.us[j]!.cands[c[j]!.toNat]!.v ⟨hsm.2,hvs (by have hf:0<=c[j]! :=Kx;exact hf)⟩) ?_;refine zr ?_;unfold kR;rw[hjt]
def Oj:aj:=bc 81
def w623 (hA:C624 Y):ug (cw Y Oj):=λw c l hp0=>by
 refine zg ?_;intro u0;refine zf hm (λi=>[.u 1,.m 1 c (D.int .i64),.m 3 l Want.D,.u 1,.i i,.i l.length,.u 1,.m 3 l Want.D,.p 0 1,.u 2]) (λi=>[(0,.buf 1 [bP.D w])]) 5 (λi=>i<=l.length/\DY w c l=oF (λi=>kR w c l[i]!) i l.length) (λi=>l.length-i) ⟨ae,Ns⟩ [(0,0)] ?_;rintro i ⟨hi,hr⟩;refine zc ?_ ?_<;>intro hc0
 .refine zc ?_ ?_<;>intro hc1
  .refine zr ?_;rw[hr,j1 ae,hc1];rfl
  refine gM (i+1) [(0,0)] ?_;rw[hr,j1 ae];simp only[hc1,Bool.false_or]
 refine zr ?_;rw[hr,sZ ae]
def UK:aj:=bc 40
def w170 (hA:C169 Y):tQ (cw Y UK):=λw c hp0=>by
 refine zg ?_;intro u0 u1;refine dP ?_ ?_<;>intro hc0
 .refine zr ?_;rw[adI hc0]
 refine zg ?_;refine zf hm (λi=>[.u 1,.m 1 c (D.int .i64),.u 1,.p 0 1,.u 1,.i i,.u 2]) (λi=>[(0,.buf 1 [bP.D w])]) 14 (λi=>i<=c.length/\ey w c=bW (AS w c) i c.length) (λi=>c.length-i) ⟨ae,by unfold ey;unfold uD;rw[br ae,eI,hc0.2,eI]⟩ [(0,0)] ?_;rintro i ⟨hi,hr⟩;refine zg ?_;intro u2;refine dP ?_ ?_<;>intro hc1
 .refine zc ?_ ?_<;>intro hc2
  .refine zr ?_;rw[hr,aB ae,Rm hc2];rfl
  refine gM (i+1) [(0,0)] ?_;rw[hr,aB ae,Lp hc2];rfl
 refine zr ?_;rw[hr,bE ae]
def UL:aj:=bc 108
def w629 (hm:(Y.at 0).bU)(hA:C627 Y):uh (cw Y UL):=λw c x hp0=>by
 refine kB ?_;obtain⟨hsm,⟨hx0,hx1⟩,hft⟩:=hp0;have hfc:=nv hft;obtain⟨j,hj⟩:∃j:Nat,x.u=(j:Int):=⟨x.u.toNat,ae⟩
 have hjt:x.u.toNat=j:=ae;have hjl:j<w.us.length:=ae;have hcj:=hfc.2 j ae;have hun:=hsm.1 _ (aq hjl);have hvs:0<=c[j]! ->w.us[j]!.cands[c[j]!.toNat]!.v.sm:=λh=>(hun.2 _ (aq ae)).1
 refine gZ ?_;refine qp ?_;refine cK c[j]!.toNat (hj:=λhf=>wo) (hb:=λhf=>wo) ?_;refine cO ?_;refine dh (v:=bV.D w.us[j]!.cands[c[j]!.toNat]!.v) (hi:=λhf=>wo) ?_;refine cv (hc:=λhf=>hA x.s w.us[j]!.cands[c[j]!.toNat]!.v ⟨hsm.2,hvs (by have hf:0<=c[j]! :=Kx;exact hf)⟩) ?_;refine zr ?_;unfold kR;rw[hjt]
def PQ:aj:=bc 126
def w628 (hA:C629 Y):ug (cw Y PQ):=λw c l hp0=>by
 refine zg ?_;refine zf hm (λi=>[.u 1,.m 1 c (D.int .i64),.m 3 l Want.D,.u 1,.i i,.u 1,.p 0 1,.u 1]) (λi=>[(0,.buf 1 [bP.D w])]) 3 (λi=>i<=l.length/\DY w c l=oF (λi=>kR w c l[i]!) i l.length) (λi=>l.length-i) ⟨ae,Ns⟩ [(0,0)] ?_;rintro i ⟨hi,hr⟩;refine zg ?_;intro u0;refine dP ?_ ?_<;>intro hc0
 .refine zc ?_ ?_<;>intro hc1
  .refine zr ?_;rw[hr,j1 ae,hc1];rfl
  refine gM (i+1) [(0,0)] ?_;rw[hr,j1 ae];simp only[hc1,Bool.false_or]
 refine zr ?_;rw[hr,sZ ae]
def US:aj:=bc 88
def w630:ud (cw Y US):=λa b=>by
 refine zc ?_ ?_<;>intro hc0
 .refine zr ?_;unfold dn;rw[ak hc0]
 refine zc ?_ ?_<;>intro hc1
 .refine zr ?_;unfold dn;rw[ah hc0,ak hc1]
 refine zr ?_;unfold dn;rw[ah hc0,ah hc1]
def PX:aj:=bc 173
def w927:uc (cw Y PX):=λa b=>by
 refine zc ?_ ?_<;>intro hc0
 .refine zr ?_;simp[pH,hc0]
 refine zc ?_ ?_<;>intro hc1
 .refine zr ?_;simp_all[pH]
 refine zr ?_;simp_all[pH]
def ZH:aj:=bc 135
def w783 (hA:VF Y)(hB:C667 Y)(hC:C668 Y)(hD:C927 Y):uf (cw Y ZH):=λa b=>by
 refine zc ?_ ?_<;>intro hc0
 .refine zr ?_;unfold yk;rw[ak hc0]
 refine zc ?_ ?_<;>intro hc1
 .refine zr ?_;have hn:¬(cP a=true/\cP b=true):=by rintro⟨h1,h2⟩;simp[h1,h2]at hc0
  unfold yk;rw[ah hn];rw[ak hc1]
 refine zc ?_ ?_<;>intro hc2
 .refine zr ?_;have hn:¬(cP a=true/\cP b=true):=by rintro⟨h1,h2⟩;simp[h1,h2]at hc0
  unfold yk;rw[ah hn];rw[ah (by simp[hc1]),ak hc2]
 refine zr ?_;have hn:¬(cP a=true/\cP b=true):=by rintro⟨h1,h2⟩;simp[h1,h2]at hc0
 unfold yk;rw[ah hn];rw[ah (by simp[hc1]),ah (by simp[hc2])]
def UT:aj:=bc 89
def w631 (hA:C470 Y)(hB:VF Y)(hC:C783 Y):JL (cw Y UT):=λa b hp0=>by
 refine zc ?_ ?_<;>intro hc0
 .refine zr ?_;unfold A6;rw[ak hc0]
 refine zc ?_ ?_<;>intro hc1
 .refine zr ?_;unfold A6;rw[ah hc0,ak hc1]
 refine zc ?_ ?_<;>intro hc2
 .refine zr ?_;unfold A6;rw[ah hc0,ah hc1,ak hc2]
 refine zg ?_;refine zf hm (λi=>[.u 6,.i i,.m 1 (ba a 46) D.str,.m 1 (ba b 46) D.str,.u 3]) (λi=>[]) 18 (λi=>(i<=(ba a 46).length/\i<=(ba b 46).length)/\A6 a b=vo (ba a 46) (ba b 46) i) (λi=>(ba a 46).length-i) ⟨⟨ae,ae⟩,by unfold A6;rw[ah hc0,ah hc1,ah hc2]⟩ [] ?_;rintro i ⟨hi,hr⟩;refine zg ?_;intro u0;refine dP ?_ ?_<;>intro hc3
 .refine zc ?_ ?_<;>intro hc4
  .refine zr ?_;rw[hr,Gp ae hc4]
  refine zl (i+1) [] ?_;exact⟨⟨ae,ae⟩,by rw[hr,Nt ae hc4]⟩
 refine zg ?_;intro u1 u2;refine zr ?_;rw[hr,Gn ae]
def Ij:aj:=⟨2,12,[⟨2,none⟩],Vq,(sq (rg [gb 5 s0,gb 5 s1,gm yy] [(3,0),(4,1),(2,2)]) (sq (sq (r1 [gk 5 true s3,gx 217 [l0] ha5,gno l1,gm l2,Bt 3 (.ld 5 true s4),Bt 3 (.call 217 [l4] ha5),Bt 3 (.un .not l5),go1 l3 l6] 5 7) (.cond s5 (sq (r1 [gm yy] 2 0) .ret) .skip)) (sq (sq (r1 [gf 0 s3,gd l0,gf 0 s4,gd l2,gx 630 [l1,l3] qD,gm l4] 6 5) (sq (r1 [gm s6,sv l0 yy] 7 1) (.cond s7 (sq (r1 [gm s6,gm l0] 2 1) .ret) .skip))) (sq (sq (r1 [gf 1 s3,gd l0,gf 1 s4,gd l2,gx 630 [l1,l3] qD,gm l4] 8 5) (sq (r1 [gm s8,sv l0 yy] 9 1) (.cond s9 (sq (r1 [gm s8,gm l0] 2 1) .ret) .skip))) (sq (sq (r1 [gf 2 s3,gd l0,gf 2 s4,gd l2,gx 630 [l1,l3] qD,gm l4] 10 5) (sq (r1 [gm U4,sv l0 yy] 11 1) (.cond s11 (sq (r1 [gm U4,gm l0] 2 1) .ret) .skip))) (sq (r1 [gf 3 s3,gd l0,gf 3 s4,gd l2,gx 631 [l1,l3] qD,gm l4] 2 5) .ret))))))⟩
def w424 (hm:(Y.at 0).bU)(hA:BT Y)(hB:VF Y)(hC:C631 Y):tS (cw Y Ij):=λa b hp0=>by
 refine zg ?_;refine aQ (λhc0=>?_) (λhc0=>?_)
 .simp only[dK,cE]at hc0;refine zr ?_;unfold iL;rw[ak hc0]
 simp only[ec,cZ]at hc0;have hv:¬(gJ a=false\/gJ b=false):=by simp only[not_or,Bool.not_eq_false];first|exact hc0|exact hc0.1
 refine zc ?_ ?_<;>intro hc1
 .refine zr ?_;unfold iL;rw[ah hv,ak hc1]
 refine zc ?_ ?_<;>intro hc2
 .refine zr ?_;unfold iL;rw[ah hv,ah lY,ak hc2]
 refine zc ?_ ?_<;>intro hc3
 .refine zr ?_;unfold iL;rw[ah hv,ah lY,ah (by simpa using hc2),ak hc3]
 refine kB ?_;refine aF (hc:=hC a.pre b.pre ⟨hp0.1.1,hp0.2.1⟩) ?_;refine zr ?_;unfold iL;rw[ah hv,ah lY,ah (by simpa using hc2),ah yx]
def cmp_isNaN_int:aj:=bc 164
def w714 (hm:(Y.at 0).bU):JY (cw Y cmp_isNaN_int):=λx=>by
 refine pA ?_;refine bm (env':=[_,⟨_,(.bool _)⟩]) ?_;refine zr ?_;simp
def EU:aj:=bc 161
def w704 (hm:(Y.at 0).bU):JX (cw Y EU):=λx=>by
 refine pA ?_;refine bm (env':=[_,⟨_,(.bool _)⟩]) ?_;refine zr ?_;simp
def cmp_Compare_int:aj:=bc 117
def w532 (hm:(Y.at 0).bU)(hA:C714 Y):ud (cw Y cmp_Compare_int):=λa b=>by
 refine zg ?_;refine aQ (t:=false) (λh=>bZ) (λ_=>?_);refine zg ?_;refine aQ (t:=false) (λh=>bZ) (λ_=>?_);refine zc ?_ ?_<;>intro hc3
 .refine zr ?_;simp[dn,hc3]
 refine zc ?_ ?_<;>intro hc4
 .refine zr ?_;unfold dn;rw[ah hc3,ak hc4]
 refine zr ?_;unfold dn;rw[ah hc3,ah hc4]
def AQ:aj:=bc 112
def w516 (hm:(Y.at 0).bU)(hA:C704 Y):uc (cw Y AQ):=λa b=>by
 refine zg ?_;refine aQ (t:=false) (λh=>bZ) (λ_=>?_);refine zg ?_;refine aQ (t:=false) (λh=>bZ) (λ_=>?_);refine zc ?_ ?_<;>intro hc3
 .refine zr ?_;simp[pH,hc3]
 refine zc ?_ ?_<;>intro hc4
 .refine zr ?_;simp_all[pH]
 refine zr ?_;simp_all[pH]
def ahB:aj:=bc 111
def w531:JC (cw Y ahB):=λl=>by
 refine zg ?_;intro u0;refine zf hm (λi=>[.u 2,.i i,.i l.length,.u 1,.m 1 l (D.int .i64),.u 1,.i 0,.u 1]) (λi=>[]) 5 (λi=>i<=l.length/\fV (λi=>l[i]!) 0 l.length=fV (λi=>l[i]!) i l.length) (λi=>l.length-i) ⟨ae,rfl⟩ [] ?_;rintro i ⟨hi,hr⟩;refine zc ?_ ?_<;>intro hc0
 .refine zc ?_ ?_<;>intro hc1
  .refine zr ?_;rw[hr,lJ ae hc1]
  refine gM (i+1) [] ?_;rw[hr,pM ae hc1]
 refine zr ?_;rw[hr,pL ae]
def IC:aj:=bc 116
def w530 (hm:(Y.at 0).bU):JB (cw Y IC):=λv=>by
 refine rb ?_;refine cy _ ?_;exact lU
def NJ:aj:=bc 119
def w534 (hm:(Y.at 0).bU)(hA:C516 Y)(hB:C532 Y)(hC:C658 Y)(hD:C659 Y):uf (cw Y NJ):=λa b=>by
 refine zc ?_ ?_<;>intro hc0
 .refine zr ?_;unfold yk;rw[ak hc0]
 refine zg ?_;refine aQ (λhc1=>?_) (λhc1=>?_)
 .simp only[cE,ct]at hc1;refine zc ?_ ?_<;>intro hc2
  .refine zr ?_;have hn:¬(cP a=true/\cP b=true):=by rintro⟨h1,h2⟩;simp[h1,h2]at hc0
   unfold yk;rw[ah hn];rw[ak hc2]
  refine zr ?_;have hn:¬(cP a=true/\cP b=true):=by rintro⟨h1,h2⟩;simp[h1,h2]at hc0
  unfold yk;rw[ah hn];rw[ah (by simp[hc2]),ak (by cases h:cP b with|true=>rfl|false=>exact absurd (hc2.trans h.symm) hc1)]
 simp only[cZ,aT]at hc1;refine zr ?_;have hn:¬(cP a=true/\cP b=true):=by rintro⟨h1,h2⟩;simp[h1,h2]at hc0
 unfold yk;rw[ah hn];have h1:cP a=false:=by cases h:cP a with|false=>rfl|true=>exact absurd ⟨h,hc1▸h⟩ hn
 rw[ah (by simp[h1]),ah (by rw[<-hc1];simp[h1])]
def PK:aj:=bc 223
def w1009 (hA:C908 Y)(hB:ae4 Y):Ep (cw Y PK):=λn hp0=>by
 refine yr ?_;have hna:=hp0.1.1;refine zg ?_;intro u0;refine dP ?_ ?_<;>intro hc0
 .refine dJ ?_;have hul:=(oy n.any[0]!).2;have hfl:=hp0.1.2 _ (aq (show 0<n.any.length by omega));refine cX ?_;refine cK 0 (hj:=λ_=>rfl) (hb:=λ_=>ae) ?_;refine zg ?_;intro u1;refine zf hm (λi=>[.u 2,.p 1 3,.u 1,.i i,.i ((ff n.any[0]!).length:Nat),.u 1,.m 2 (ff n.any[0]!) Key.D,.o 0 1 (zh n i).length,.u 4]) (λi=>[(0,.buf 1 ((zh n i).map dS)),(1,.buf 3 [bn.D n])]) 14 (λi=>i<=(ff n.any[0]!).length) (λi=>(ff n.any[0]!).length-i) ae [(0,1)] ?_;intro i hi;have hrl:=ZX n i;refine zc ?_ ?_<;>intro hc1
  .refine IJ ?_;refine cK 0 (hj:=λ_=>rfl) (hb:=λ_=>ae) ?_;refine cX ?_;refine aF (hc:=hA (n.any[0]!.range) QE) ?_;refine a7 (js.D (⟨(ff n.any[0]!)[i]!,fe n.any[0]!.range⟩:js)) ?_;refine bg [js.D (⟨(ff n.any[0]!)[i]!,fe n.any[0]!.range⟩:js)] ?_;refine bg [.own 28 4 0 1] ?_;refine xO ((zh n i).map dS++[.own 28 4 0 1]) (n:=((zh n i)++[[(⟨(ff n.any[0]!)[i]!,fe n.any[0]!.range⟩:js)]]).length) (ha:=kf) (he:=mW.own rfl (by first|rfl|simp)) (hz:=yu) (hn:=EE) (hb:=EG) ?_;refine dJ ?_;refine bz 28 ?_ (he:=lH) (hm:=lH);refine zg ?_;rw[pD,show zh n i++[[(⟨(ff n.any[0]!)[i]!,fe n.any[0]!.range⟩:js)]]=zh n (i+1)from akX ae];exact iy (i+1) [(30,0),(1,1)]
  refine dJ ?_;obtain rfl:i=(ff n.any[0]!).length:=ae;rw[akW hc0];refine bz 0 ?_ (he:=lH) (hm:=lH);exact lU
 refine zg ?_;refine zf hm (λi=>[.u 2,.p 1 3,.u 5,.e .aL,.u 1,.i i,.u 1,.o 0 4 (A3 n i).length]) (λi=>[(0,.buf 4 ((A3 n i).map js.D)),(1,.buf 3 [bn.D n])]) 9 (λi=>i<=n.any.length) (λi=>n.any.length-i) ae [(0,1)] ?_;intro i hi;have hol:=Yp n i;refine zg ?_;intro u2;refine dP ?_ ?_<;>intro hc2
 .refine dJ ?_;have hul:=(oy n.any[i]!).1;refine kB ?_;refine aF (hc:=hB ((n.any)[i]!) QE) ?_;refine pA ?_;refine aF (hc:=hA ((n.any)[i]!.range) QE) ?_;refine a7 (js.D (Yq n.any[i]!)) ?_;refine bg [js.D (Yq n.any[i]!)] ?_;refine cH (q:=js.D) (xs:=A3 n i) (e:=Yq n.any[i]!) (hb:=ae) ?_;refine zg ?_;rw[ajU ae];exact iy (i+1) [(32,0),(1,1)]
 refine cX ?_;obtain rfl:i=n.any.length:=ae;refine bz 0 ?_ (he:=lH) (hm:=lH);refine dJ ?_;refine bg [dS (A3 n n.any.length)] ?_;refine qO (ys:=[dS (A3 n n.any.length)]) (n:=1) (he:=mW.all rfl rfl) (hn:=rfl) (hb:=ae) ?_;refine cX ?_;refine bz 17 ?_;refine zr ?_;rw[<-ajT hc0];rfl
def PE:aj:=bc 58
def w360 (hA:Vz Y)(hB:C581 Y):Jc (cw Y PE):=λl hp0=>by
 refine cO ?_;have hya:=yq hp0;refine bI ?_;refine bI ?_;refine bm (env':=[_,⟨_,.aL⟩,⟨_,(.int _ _)⟩,_,_,_,_,_,_,_,_,_,_]) ?_;refine fY ?_;refine aP ?_;refine bI ?_;refine aF (hc:=hA (l) (by first|assumption|omega)) ?_;refine bI ?_;refine kV (.int _ _) ?_;refine kV (.int _ _) ?_;refine bI ?_;refine bI ?_;refine bm (env':=[_,_,_,⟨_,(.int _ _)⟩,_,_,_,_,_,_,_,_,_]) ?_;refine fY ?_;refine aP ?_;refine bI ?_;refine pf ?_;refine bm (env':=[_,_,_,_,⟨_,(.bool _)⟩,_,_,_,_,_,_,_,_]) ?_;refine dP ?_ ?_<;>intro hc0
 .exact absurd trivial hc0
 refine dJ ?_;refine bm (env':=[_,_,_,_,_,_,_,_,_,⟨_,.aL⟩,_,_,_]) ?_;refine ij (aZ.nz _ [_,_,_,_,_,_,_,_,_,⟨true,.sl 2 []⟩,_,_,_] _ _ _ ⟨⟨rfl,.refl _⟩,⟨rfl,.refl _⟩,⟨rfl,.refl _⟩,⟨rfl,.refl _⟩,⟨rfl,.refl _⟩,⟨rfl,.refl _⟩,⟨rfl,.refl _⟩,⟨rfl,.refl _⟩,⟨rfl,.refl _⟩,⟨rfl,.nil 2⟩,⟨rfl,.refl _⟩,⟨rfl,.refl _⟩,⟨rfl,.refl _⟩,trivial⟩ QT.nil) ?_;refine dJ ?_;refine bm (env':=[_,_,_,_,_,⟨_,(.int _ _)⟩,_,_,_,_,_,_,_]) ?_;refine zf hm (λi=>[.m 11 l gW.D,.u 4,.i i,.u 3,.m 2 ((gG l).take (if i=0 then 0 else(gG l).length)) iN.D,.u 3]) (λi=>[]) 13 (λi=>i<=l.length) (λi=>l.length-i) ae [] ?_;intro i hi;refine zg ?_;intro u0;refine dP ?_ ?_<;>intro hc1
 .refine dJ ?_;obtain rfl:i=0:=by have:=hya.1;omega
  obtain⟨hyp1,hyp2,hyp3,hyp4⟩:=tH hp0 (i:=0) ae;rw[ak rfl];refine zg ?_;refine zfL hm (λk=>[.m 11 l gW.D,.u 4,.i 0,.u 1,.i k,.u 1,.m 2 ((gG l).take k) iN.D,.u 3]) (λk=>[]) 18 (λk=>k<=(gG l).length) (λk=>(gG l).length-k) ae [] ?_;intro k hk;refine qp ?_;refine dh (v:=.sl 2 ((gG l).map iN.D)) (hi:=λ_=>ae) ?_;refine zg ?_;intro u1;refine dP ?_ ?_<;>intro hc2
  .refine dJ ?_;have hk0:k=0:=by have:(gG l).length<=1:=hyp3;omega
   have hpp:=YO hk0 (l:=gG l) ae;refine k9 ?_;refine dh (v:=.sl 2 ((gG l).map iN.D)) (hi:=λ_=>ae) ?_;refine zc ?_ ?_<;>intro hc3
   .exfalso;rw[hpp]at hc3;exact absurd hc3 aC
   refine zg ?_;rw[hpp];exact iy (k+1) []
  refine zg ?_;obtain rfl:k=(gG l).length:=ae;exact iy (0+1) []
 refine zr ?_;rw[ah (by have:=hya.1;omega),List.take_length];rfl
def LZ:aj:=bc 10
def w91 (hm:(Y.at 0).bU)(hA:C114 Y)(hB:C147 Y)(hC:C267 Y)(hD:C268 Y)(hE:C269 Y):Qy (cw Y LZ):=λm shop e os hp0=>by
 refine cO ?_;refine xP ?_;refine xP ?_;refine bI ?_;refine bI ?_;refine bm (env':=[_,_,_,_,⟨_,_⟩,⟨_,.aL⟩,⟨_,(.bool _)⟩,⟨_,_⟩,_,_,_,_,_]) ?_;refine aP ?_;refine bI ?_;refine bI ?_;refine kW (d:=Env.D e) ?_;refine aF (hc:=hB [m] shop e [] hp0) ?_;refine bI ?_;refine kV (bP.D _) ?_;refine kV (.int _ _) ?_;refine xP ?_;refine cy (bP.D (eu m shop e).1) (he:=c8) ?_;refine bI ?_;refine bm (env':=[_,_,_,_,_,_,_,_,⟨_,(.int _ _)⟩,⟨_,_⟩,_,_,_]) ?_;refine fY ?_;refine aP ?_;refine bI ?_;refine pf ?_;refine bI ?_;refine kW (d:=bP.D ((eu m shop e).1)) ?_;refine cv (hc:=λhf=>hA (eu m shop e).1 (pF hp0.1 (by simpa using hf)).1.sm) ?_;refine pe ?_;refine Mt ?_;refine bm (env':=[_,_,_,_,_,_,_,_,_,_,⟨_,(.bool _)⟩,_,_]) ?_;refine dP ?_ ?_<;>intro hc0
 .refine zg ?_;refine zr ?_;rw[DV (by rcases hc0 with h|h;exact .inl h;exact .inr ae)];rfl
 refine fZ ?_;refine aP ?_;have hB0:=hc0.1;have hc0n:(eu m shop e).2=0/\¬5000<Dd (eu m shop e).1.us:=⟨hc0.1,ae⟩;have hfp:=TL hp0.1 hB0 os;refine fE ?_;refine bR _ ?_;refine aF (hc:=hC (eu m shop e).1 (iV (eu m shop e).1.us os) hfp) ?_;refine k9 ?_;refine Zi (λbq hbq=>?_) (hs:=R3 _);refine zg ?_;refine aQ (λhc1=>?_) (λhc1=>?_)
 .have hbt:bq=true:=hc1;have hn:=(Lo hp0.1 hB0 hbq).1 hbt;refine zr ?_;rw[DW hc0n hn];rfl
 have hbf:bq=false:=hc1;obtain⟨d,hd⟩:=(Lo hp0.1 hB0 hbq).2 hbf;have hdl:=TK hp0.1 hB0 hd;rw[hd];refine zr ?_;rw[DX hc0n hd];rfl
def XV:aj:=bc 37
def w315 (hA:C138 Y)(hB:C553 Y):I6 (cw Y XV):=λl hp0=>by
 refine zg ?_;intro u0;refine zf hm (λi=>[.u 2,.p 0 4,.i i,.i l.lines.length,.u 1,.m 9 l.lines ea.D,.u 3]) (λi=>[(0,.buf 4 [lI.D l])]) 6 (λi=>i<=l.lines.length/\bW (xh l.lines) 0 l.lines.length=bW (xh l.lines) i l.lines.length) (λi=>l.lines.length-i) ⟨ae,rfl⟩ [(0,0)] ?_;rintro i ⟨hi,hr⟩;refine zc ?_ ?_<;>intro hc0
 .refine pA ?_;refine cy _ ?_;refine dJ ?_;refine a7 (ea.D l.lines[i]!) ?_;refine aF (hc:=hB l.lines[i]! (hp0.2.1 _ (aq ae))) ?_;refine yr ?_;refine cK (i-1) ?_;refine zc ?_ ?_<;>intro hc1
  .refine zr ?_;have hz:xh l.lines i=false:=by
    simp only[xh];revert hc1;generalize Hs l.lines[i]! =z0;generalize Op.bytesLess l.lines[i-1]!.name l.lines[i]!.name=z1;by_cases e0:0<i<;>cases z0<;>cases z1<;>simp_all
   simp only[LM];rw[hr,aB ae,hz];simp
  refine zg ?_;have hz:xh l.lines i=true:=by
   simp only[xh];revert hc1;generalize Hs l.lines[i]! =z0;generalize Op.bytesLess l.lines[i-1]!.name l.lines[i]!.name=z1;by_cases e0:0<i<;>cases z0<;>cases z1<;>simp_all
  refine gM (i+1) [(0,0)] ?_;rw[hr,aB ae,hz];rfl
 refine zr ?_;simp only[LM];rw[hr,bE ae,gC];have h9:decide ((l.lines.length:Int)<=48)=decide (l.lines.length<=48):=lW.2 ae;rw[h9]
def vE:aj:=⟨2,4,[⟨2,none⟩],Vq,(sq (rg [gb 8 s0,gm cbF] [(3,0),(2,1)]) (sq (r1 [gf 0 s3,gk 5 true l0,gf 1 s1,gk 5 true l2,gn (.eqA false true [.i .i64,.i .i64,.i .i64,.s,.s] l1 l3),gm l4] 2 5) .ret))⟩
def w690 (hm:(Y.at 0).bU):JQ (cw Y vE):=λc x hp0=>by
 exact lU
def vF:aj:=bc 79
def w691 (hm:(Y.at 0).bU)(hA:Tg Y):JR (cw Y vF):=λc x hp0=>by
 exact lU
def zk:aj:=bc 76
def w689 (hA:C690 Y)(hB:C691 Y):JP (cw Y zk):=λl b x hp0=>by
 refine zg ?_;intro u0;refine zf hm (λi=>[.m 8 l eB.D,.e (.fn (bif b then 690 else 691) [.ref 9 [ea.D x] 0 0]),.u 1,.i i,.i l.length,.u 3]) (λi=>[]) 4 (λi=>i<=l.length/\fR (Vr x.v b) l 0=fR (Vr x.v b) (l.drop i) i) (λi=>l.length-i) ⟨ae,rfl⟩ [] ?_;rintro i ⟨hi,hr⟩;refine zc ?_ ?_<;>intro hc0
 .refine qp ?_;cases b
  .refine k9 ?_;refine BH (hc:=λ_=>hB l[i]! x ⟨hp0.1 _ (aq ae),hp0.2⟩) ?_;refine zc ?_ ?_<;>intro hc1
   .refine zr ?_;rw[hr,kN ae hc1]
   refine gM (i+1) [] ?_;rw[hr,jy ae hc1]
  .refine k9 ?_;refine BH (hc:=λ_=>hA l[i]! x ⟨hp0.1 _ (aq ae),hp0.2⟩) ?_;refine zc ?_ ?_<;>intro hc1
   .refine zr ?_;rw[hr,kN ae hc1]
   refine gM (i+1) [] ?_;rw[hr,jy ae hc1]
 refine zr ?_;rw[hr,ml ae]
def MK:aj:=bc 55
def w143 (hA:C136 Y)(hB:C356 Y):IM (cw Y MK):=λl hp0=>by
 refine cO ?_;have hya:=yq hp0;refine zg ?_;intro u0;refine dP ?_ ?_<;>intro hc0
 .exfalso;have:=hya.1;omega
 refine zg ?_;intro u1;refine dP ?_ ?_<;>intro hc1
 .exfalso;have:=hya.1;omega
 refine zg ?_;refine zf hm (λi=>[.m 11 l gW.D,.u 4,.i i,.u 4]) (λi=>[]) 9 (λi=>i<=l.length) (λi=>l.length-i) ae [] ?_;intro i hi;refine zg ?_;intro u2;refine dP ?_ ?_<;>intro hc2
 .refine fE ?_;have hmi:=hya.2 i ae;have hck:=ajD hmi;refine fE ?_;refine aF (hc:=hA l[i]! hmi.1.2) ?_;refine zc ?_ ?_<;>intro hc3
  .exfalso;rw[hck]at hc3;exact absurd rfl hc3
  refine zc ?_ ?_<;>intro hc4
  .exfalso;rw[Qq hp0 ae]at hc4;exact absurd rfl hc4
  exact iy (i+1) []
 exact lU
def E8:aj:=bc 152
def w829 (hm:(Y.at 0).bU):J8 (cw Y E8):=λal u p hp0=>by
 refine cO ?_;subst hp0;refine gZ ?_;intro u0;refine cK 0 (hj:=λhf=>Bool.noConfusion hf) (hb:=λhf=>Bool.noConfusion hf) ?_;refine dh (v:=.int .i64 0) (hi:=λhf=>Bool.noConfusion hf) (hv:=λhf=>Bool.noConfusion hf) ?_;refine cO ?_;refine mb (hb:=λhf=>Bool.noConfusion hf) ?_;refine rB 0 (hb:=λhf=>Bool.noConfusion hf) ?_;refine F1 0 (hn:=λhf=>Bool.noConfusion hf) (hb:=λhf=>Bool.noConfusion hf) ?_;refine Dl 0 (hb:=λhf=>Bool.noConfusion hf) ?_;refine fE ?_;refine bm (env':=[_,_,_,⟨_,(.bool _)⟩]) ?_;exact lU
def M3:aj:=bc 66
def w508 (hm:(Y.at 0).bU)(hA:C695 Y):Jz (cw Y M3):=λs nm v hp0=>by
 refine En ?_;have hlm:=tf (s:=s) (nm:=nm) (v:=v);refine zc ?_ ?_<;>intro hc0
 .refine cX ?_;refine bR _ ?_;refine cy _ ?_;refine zr ?_;rw[show oH s nm v=(default,false)from ak ae];rfl
 refine cX ?_;obtain⟨j,hj,hjl⟩:=hlm.resolve_left ae;refine zr ?_;rw[show oH s nm v=(s.es[j]!,true)from by rw[oH,ah ae,hj];rfl];rfl
def MG:aj:=bc 59
def w361 (hm:(Y.at 0).bU)(hA:C359 Y):tW (cw Y MG):=λl nm=>by
 exact lU
end Go.Abs
end
