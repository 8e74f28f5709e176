/- A part of the proofs. -/
import Derived.Test.YtkllcniplomebaaGreatDoorP09
set_option linter.all false
set_option maxRecDepth 60000
set_option maxHeartbeats 2000000
noncomputable section
namespace Go.Abs
variable {Y:Ctx}(hm:(Y.at 0).bN)
def M9:aj:=bd 226
def w215 (hA:VZ Y)(hB:C450 Y)(hC:C451 Y)(hD:C452 Y):tX (cn Y M9):=λr hp0=>by
 show dk _ _ _ [⟨_,_⟩,_,_,_,_,_,_,_,_,_,_,_,_,_,_,_,_,_,_,_,_,_,_,_,_,_,_,_,_,_,_] _;have hft:=tx hp0;have q0:=hft.nm;have q00:=ta r.v hft.v;have hs:=hp0.2;refine ax ?_;refine Ov ?_;refine aD (hc:=hC r.v hft.v) ?_;refine bj [(.str _),(.str _),(.str _)] ?_;refine dS (nx':=4) (v:=.tup []) (m':=[(9,.row (uX r)),(0,.buf 9 [Rec.D r]),(2,.bld (some 9) (uX r).length true)]) (hc:=λK' hK=>hB [qj,r.name,oq r.v] ([]) 2 8 _ _ K' (.inl ⟨false,cE,rfl⟩) ah eI eI (.mk a7 lQ (dq.2 ⟨a7,dq.2 ⟨ae,dq.2 ⟨ae,λ_ h=>nomatch h⟩⟩⟩) mR) (by rw[show([])++cr [qj,r.name,oq r.v]=uX r from rfl];exact hK)) (hn:=a7) ?_;refine zg ?_;intro u0;refine gG hm (ι:=Nat) (λi=>[.un,.un,⟨true,.ptr 0 9 0 0⟩,⟨true,.ptr 2 2 0 0⟩,⟨true,.int .i64 (i:Nat)⟩,⟨true,.int .i64 (r.needs.length:Nat)⟩,.un,⟨true,.sl 3 (r.needs.map bp.D)⟩,.un,.un,.un,.un,.un,.un,.un,.un,.un,.un,.un,.un,.un,.un,.un,.un,.un,.un,.un,.un,.un,.un,.un]) (λi=>[(0,.buf 9 [Rec.D r]),(2,.bld (some 3) (kA r i).length true),(3,.row (kA r i))]) 10 (λi=>i<=r.needs.length) (λi=>r.needs.length-i) 0 ae (aZ.to [(0,0),(2,2),(9,3)] ah ah PW (by refine bn.Am ah ah ah ?_;refine bn.bl 2 ah ah ah (ar List.length (by rw[aaz])) rfl ?_;refine bn.rw 9 ah ah (by rw[aaz]) ?_;exact bn.nil)) ?_;intro i hi;have q1:=IN hft i hi;refine zc ?_ ?_<;>intro hc0
 .refine dt ?_;have hnf:=hft.n _ (aq (show i<r.needs.length by omega));have hn3:=hnf.1.1;refine jX ?_;refine bj [(.str _)] ?_;refine dS (nx':=16) (v:=.tup []) (m':=[(16,.row (kA r i++dQ r.needs[i]! 0)),(0,.buf 9 [Rec.D r]),(2,.bld (some 16) (kA r i++dQ r.needs[i]! 0).length true),(13,.buf 3 [bp.D r.needs[i]!])]) (hc:=λK' hK=>hB [GW] (kA r i) 2 15 _ _ K' (.inr ⟨3,true,cE,cE⟩) ah eI eI (.mk a7 lQ (dq.2 ⟨a7,λ_ h=>nomatch h⟩) mR) (by rw[show(kA r i)++cr [GW]=kA r i++dQ r.needs[i]! 0 from rfl];exact hK)) (hn:=a7) ?_;refine zg ?_;intro u1;refine zf hm (λj=>[.u 2,.p 0 9,.p 2 2,.i i,.i r.needs.length,.u 1,.m 3 r.needs bp.D,.p 4 3,.i j,.i (r.needs[i]!.any.length:Nat),.u 1,.m 4 (r.needs[i]!.any) c9.D,.u 18]) (λj=>[(0,.buf 9 [Rec.D r]),(4,.buf 3 [bp.D r.needs[i]!]),(2,.bld (some 3) (kA r i++dQ r.needs[i]! j).length true),(3,.row (kA r i++dQ r.needs[i]! j))]) 20 (λj=>j<=r.needs[i]!.any.length) (λj=>r.needs[i]!.any.length-j) ae [(0,0),(13,4),(2,2),(16,3)] ?_;intro j hj;have q2:=Gd hnf j ae;refine zc ?_ ?_<;>intro hc1
  .refine dt ?_;have hwf:=hnf.1.2 _ (aq (show j<r.needs[i]!.any.length by omega));have q3:=IW hwf;have q4:=hwf.1.1.1;have q5:=hwf.1.1.2.len;refine zg ?_;intro u2;refine dT ?_ ?_<;>intro hc2
   .refine dt ?_;refine aD (hc:=hA r.needs[i]!.any[j]!.feats [44] (by have:=hwf.2.1;omega) a7 (λt ht=>by have:=hwf.2.2 t ht;omega)) ?_;refine zc ?_ ?_<;>intro hc3
    .refine fw ?_;have hwl:cr [rZ,r.needs[i]!.any[j]!.name,(b6 [44] r.needs[i]!.any[j]!.feats),rU,r.needs[i]!.any[j]!.range]=jS r.needs[i]!.any[j]! :=by
      unfold jS te;first|rw[ak (show r.needs[i]!.any[j]!.feats.length=0 by omega)]|rw[ai (show ¬r.needs[i]!.any[j]!.feats.length=0 by omega)]
      rw[hc3];rfl
     have hwj:=n8 (n:=r.needs[i]!) (j:=j) ae;refine jX ?_;refine bj [(.str _),(.str _),(.str _),(.str _),(.str _)] ?_;refine dS (nx':=39) (v:=.tup []) (m':=[(45,.row (kA r i++dQ r.needs[i]! (j+1))),(0,.buf 9 [Rec.D r]),(4,.buf 3 [bp.D r.needs[i]!]),(2,.bld (some 45) (kA r i++dQ r.needs[i]! (j+1)).length true),(23,.buf 4 [c9.D r.needs[i]!.any[j]!])]) (hc:=λK' hK=>hB [rZ,r.needs[i]!.any[j]!.name,(b6 [44] r.needs[i]!.any[j]!.feats),rU,r.needs[i]!.any[j]!.range] (kA r i++dQ r.needs[i]! j) 2 44 _ _ K' (.inr ⟨3,true,cE,cE⟩) ah eI eI (.mk a7 lQ (dq.2 ⟨a7,dq.2 ⟨ae,dq.2 ⟨by first|omega|decide,dq.2 ⟨a7,dq.2 ⟨ae,λ_ h=>nomatch h⟩⟩⟩⟩⟩) mR) (by rw[show(kA r i++dQ r.needs[i]! j)++cr [rZ,r.needs[i]!.any[j]!.name,(b6 [44] r.needs[i]!.any[j]!.feats),rU,r.needs[i]!.any[j]!.range]=kA r i++dQ r.needs[i]! (j+1)from by rw[hwl,hwj,fF]];exact hK)) (hn:=a7) ?_;refine zg ?_;exact ir (j+1) [(0,0),(4,4),(2,2),(45,3)]
    refine cU ?_;have hwl:cr [rZ,r.needs[i]!.any[j]!.name,(b6 [44] r.needs[i]!.any[j]!.feats),rV,r.needs[i]!.any[j]!.range]=jS r.needs[i]!.any[j]! :=by
     unfold jS te;first|rw[ak (show r.needs[i]!.any[j]!.feats.length=0 by omega)]|rw[ai (show ¬r.needs[i]!.any[j]!.feats.length=0 by omega)]
     rw[hc3];rfl
    have hwj:=n8 (n:=r.needs[i]!) (j:=j) ae;refine jX ?_;refine bj [(.str _),(.str _),(.str _),(.str _),(.str _)] ?_;refine dS (nx':=38) (v:=.tup []) (m':=[(44,.row (kA r i++dQ r.needs[i]! (j+1))),(0,.buf 9 [Rec.D r]),(4,.buf 3 [bp.D r.needs[i]!]),(2,.bld (some 44) (kA r i++dQ r.needs[i]! (j+1)).length true),(23,.buf 4 [c9.D r.needs[i]!.any[j]!])]) (hc:=λK' hK=>hB [rZ,r.needs[i]!.any[j]!.name,(b6 [44] r.needs[i]!.any[j]!.feats),rV,r.needs[i]!.any[j]!.range] (kA r i++dQ r.needs[i]! j) 2 43 _ _ K' (.inr ⟨3,true,cE,cE⟩) ah eI eI (.mk a7 lQ (dq.2 ⟨a7,dq.2 ⟨ae,dq.2 ⟨by first|omega|decide,dq.2 ⟨a7,dq.2 ⟨ae,λ_ h=>nomatch h⟩⟩⟩⟩⟩) mR) (by rw[show(kA r i++dQ r.needs[i]! j)++cr [rZ,r.needs[i]!.any[j]!.name,(b6 [44] r.needs[i]!.any[j]!.feats),rV,r.needs[i]!.any[j]!.range]=kA r i++dQ r.needs[i]! (j+1)from by rw[hwl,hwj,fF]];exact hK)) (hn:=a7) ?_;refine zg ?_;exact ir (j+1) [(0,0),(4,4),(2,2),(44,3)]
   refine zc ?_ ?_<;>intro hc3
   .refine fw ?_;have hwl:cr [rZ,r.needs[i]!.any[j]!.name,[45],rU,r.needs[i]!.any[j]!.range]=jS r.needs[i]!.any[j]! :=by
     unfold jS te;first|rw[ak (show r.needs[i]!.any[j]!.feats.length=0 by omega)]|rw[ai (show ¬r.needs[i]!.any[j]!.feats.length=0 by omega)]
     rw[hc3];rfl
    have hwj:=n8 (n:=r.needs[i]!) (j:=j) ae;refine jX ?_;refine bj [(.str _),(.str _),(.str _),(.str _),(.str _)] ?_;refine dS (nx':=35) (v:=.tup []) (m':=[(41,.row (kA r i++dQ r.needs[i]! (j+1))),(0,.buf 9 [Rec.D r]),(4,.buf 3 [bp.D r.needs[i]!]),(2,.bld (some 41) (kA r i++dQ r.needs[i]! (j+1)).length true),(23,.buf 4 [c9.D r.needs[i]!.any[j]!])]) (hc:=λK' hK=>hB [rZ,r.needs[i]!.any[j]!.name,[45],rU,r.needs[i]!.any[j]!.range] (kA r i++dQ r.needs[i]! j) 2 40 _ _ K' (.inr ⟨3,true,cE,cE⟩) ah eI eI (.mk a7 lQ (dq.2 ⟨a7,dq.2 ⟨ae,dq.2 ⟨by first|omega|decide,dq.2 ⟨a7,dq.2 ⟨ae,λ_ h=>nomatch h⟩⟩⟩⟩⟩) mR) (by rw[show(kA r i++dQ r.needs[i]! j)++cr [rZ,r.needs[i]!.any[j]!.name,[45],rU,r.needs[i]!.any[j]!.range]=kA r i++dQ r.needs[i]! (j+1)from by rw[hwl,hwj,fF]];exact hK)) (hn:=a7) ?_;refine zg ?_;exact ir (j+1) [(0,0),(4,4),(2,2),(41,3)]
   refine cU ?_;have hwl:cr [rZ,r.needs[i]!.any[j]!.name,[45],rV,r.needs[i]!.any[j]!.range]=jS r.needs[i]!.any[j]! :=by
    unfold jS te;first|rw[ak (show r.needs[i]!.any[j]!.feats.length=0 by omega)]|rw[ai (show ¬r.needs[i]!.any[j]!.feats.length=0 by omega)]
    rw[hc3];rfl
   have hwj:=n8 (n:=r.needs[i]!) (j:=j) ae;refine jX ?_;refine bj [(.str _),(.str _),(.str _),(.str _),(.str _)] ?_;refine dS (nx':=34) (v:=.tup []) (m':=[(40,.row (kA r i++dQ r.needs[i]! (j+1))),(0,.buf 9 [Rec.D r]),(4,.buf 3 [bp.D r.needs[i]!]),(2,.bld (some 40) (kA r i++dQ r.needs[i]! (j+1)).length true),(23,.buf 4 [c9.D r.needs[i]!.any[j]!])]) (hc:=λK' hK=>hB [rZ,r.needs[i]!.any[j]!.name,[45],rV,r.needs[i]!.any[j]!.range] (kA r i++dQ r.needs[i]! j) 2 39 _ _ K' (.inr ⟨3,true,cE,cE⟩) ah eI eI (.mk a7 lQ (dq.2 ⟨a7,dq.2 ⟨ae,dq.2 ⟨by first|omega|decide,dq.2 ⟨a7,dq.2 ⟨ae,λ_ h=>nomatch h⟩⟩⟩⟩⟩) mR) (by rw[show(kA r i++dQ r.needs[i]! j)++cr [rZ,r.needs[i]!.any[j]!.name,[45],rV,r.needs[i]!.any[j]!.range]=kA r i++dQ r.needs[i]! (j+1)from by rw[hwl,hwj,fF]];exact hK)) (hn:=a7) ?_;refine zg ?_;exact ir (j+1) [(0,0),(4,4),(2,2),(40,3)]
  refine fw ?_;have hnA:=za (n:=r.needs[i]!) (j:=j) ae;have w4:=nK hnf.2.1;have w5:=hnf.2.2;have w6:=hnf.2.1;refine zc ?_ ?_<;>intro hc4
  .refine cY ?_;have hwt:ko r.needs[i]!.when'=cr [yq,r.needs[i]!.when']:=ai hc4;refine cU ?_;refine bj [(.str _),(.str _)] ?_;refine dS (nx':=25) (v:=.tup []) (m':=[(27,.row (kA r i++(dQ r.needs[i]! j++ko r.needs[i]!.when'))),(0,.buf 9 [Rec.D r]),(4,.buf 3 [bp.D r.needs[i]!]),(2,.bld (some 27) (kA r i++(dQ r.needs[i]! j++ko r.needs[i]!.when')).length true)]) (hc:=λK' hK=>hB [yq,r.needs[i]!.when'] (kA r i++dQ r.needs[i]! j) 2 26 _ _ K' (.inr ⟨3,true,cE,cE⟩) ah eI eI (.mk a7 lQ (dq.2 ⟨a7,dq.2 ⟨ae,λ_ h=>nomatch h⟩⟩) mR) (by rw[show(kA r i++dQ r.needs[i]! j)++cr [yq,r.needs[i]!.when']=kA r i++(dQ r.needs[i]! j++ko r.needs[i]!.when')from by rw[hwt,fF]];exact hK)) (hn:=a7) ?_;refine zc ?_ ?_<;>intro hc5
   .refine cY ?_;have hot:xD r.needs[i]!.option=cr [nC,r.needs[i]!.option]:=ai hc5;refine cU ?_;refine bj [(.str _),(.str _)] ?_;refine dS (nx':=33) (v:=.tup []) (m':=[(35,.row (kA r (i+1))),(0,.buf 9 [Rec.D r]),(4,.buf 3 [bp.D r.needs[i]!]),(2,.bld (some 35) (kA r (i+1)).length true)]) (hc:=λK' hK=>hB [nC,r.needs[i]!.option] (kA r i++(dQ r.needs[i]! j++ko r.needs[i]!.when')) 2 34 _ _ K' (.inr ⟨27,true,cE,cE⟩) ah eI eI (.mk a7 lQ (dq.2 ⟨a7,dq.2 ⟨ae,λ_ h=>nomatch h⟩⟩) mR) (by rw[show(kA r i++(dQ r.needs[i]! j++ko r.needs[i]!.when'))++cr [nC,r.needs[i]!.option]=kA r (i+1)from by rw[mD ae,hnA,hot];simp only[fF,fZ]];exact hK)) (hn:=a7) ?_;refine zg ?_;exact ir (i+1) [(0,0),(2,2),(35,3)]
   refine dt ?_;have hno:xD r.needs[i]!.option=[]:=ak oV;refine zg ?_;exact⟨i+1,ae,ae,(aZ.to [(0,0),(2,2),(27,3)] ah ah PW (by refine bn.Am ah ah ah ?_;refine bn.bl 2 ah ah ah (ar List.length (by rw[mD ae,hnA,hno];simp only[fF,fZ])) rfl ?_;refine bn.rw 27 ah ah (by rw[mD ae,hnA,hno];simp only[fF,fZ]) ?_;exact bn.nil))⟩
  refine cU ?_;have hnw:ko r.needs[i]!.when'=[]:=ak (by simpa using hc4);refine zc ?_ ?_<;>intro hc5
  .refine cY ?_;have hot:xD r.needs[i]!.option=cr [nC,r.needs[i]!.option]:=ai hc5;refine cU ?_;refine bj [(.str _),(.str _)] ?_;refine dS (nx':=28) (v:=.tup []) (m':=[(30,.row (kA r (i+1))),(0,.buf 9 [Rec.D r]),(4,.buf 3 [bp.D r.needs[i]!]),(2,.bld (some 30) (kA r (i+1)).length true)]) (hc:=λK' hK=>hB [nC,r.needs[i]!.option] (kA r i++dQ r.needs[i]! j) 2 29 _ _ K' (.inr ⟨3,true,cE,cE⟩) ah eI eI (.mk a7 lQ (dq.2 ⟨a7,dq.2 ⟨ae,λ_ h=>nomatch h⟩⟩) mR) (by rw[show(kA r i++dQ r.needs[i]! j)++cr [nC,r.needs[i]!.option]=kA r (i+1)from by rw[mD ae,hnA,hot,hnw];simp only[fF,fZ]];exact hK)) (hn:=a7) ?_;refine zg ?_;exact ir (i+1) [(0,0),(2,2),(30,3)]
  refine dt ?_;have hno:xD r.needs[i]!.option=[]:=ak oV;refine zg ?_;exact⟨i+1,ae,ae,(aZ.to [(0,0),(2,2),(3,3)] ah ah PW (by refine bn.Am ah ah ah ?_;refine bn.bl 2 ah ah ah (ar List.length (by rw[mD ae,hnA,hno,hnw];simp only[fF,fZ])) rfl ?_;refine bn.rw 3 ah ah (by rw[mD ae,hnA,hno,hnw];simp only[fF,fZ]) ?_;exact bn.nil))⟩
 refine fw ?_;have h33:i=r.needs.length:=ae;subst h33;refine zg ?_;intro u3;refine gG hm (ι:=Nat) (λi=>[.un,.un,⟨true,.ptr 0 9 0 0⟩,⟨true,.ptr 2 2 0 0⟩,.un,.un,.un,.un,.un,.un,.un,.un,.un,.un,.un,.un,.un,.un,.un,.un,⟨true,.int .i64 (i:Nat)⟩,⟨true,.int .i64 (r.bars.length:Nat)⟩,.un,⟨true,.sl 3 (r.bars.map mF.D)⟩,.un,.un,.un,.un,.un,.un,.un]) (λi=>[(0,.buf 9 [Rec.D r]),(2,.bld (some 3) (Et r i).length true),(3,.row (Et r i))]) 10 (λi=>i<=r.bars.length) (λi=>r.bars.length-i) 0 ae (aZ.to [(0,0),(2,2),(3,3)] ah ah PW (by refine bn.Am ah ah ah ?_;refine bn.bl 2 ah ah ah (ar List.length (by rw[aaA])) rfl ?_;refine bn.rw 3 ah ah (by rw[aaA]) ?_;exact bn.nil)) ?_;intro i hi;have q1:=IP hft i hi;refine zc ?_ ?_<;>intro hc6
 .refine dt ?_;have q4:=hft.b _ (aq (show i<r.bars.length by omega));have q5:=q4.1;have q6:=q4.2.1.len;have q7:=q4.2.2.len;have hbt:Hf r.bars[i]! =cr [zH,r.bars[i]!.name,r.bars[i]!.range]++ko r.bars[i]!.when':=rfl;have hxb:=N9 (r:=r) (i:=i) ae;have w7:=nK q7;refine qp ?_;refine bj [(.str _),(.str _),(.str _)] ?_;refine dS (nx':=16) (v:=.tup []) (m':=[(20,.row (Et r i++cr [zH,r.bars[i]!.name,r.bars[i]!.range])),(0,.buf 9 [Rec.D r]),(2,.bld (some 20) (Et r i++cr [zH,r.bars[i]!.name,r.bars[i]!.range]).length true),(13,.buf 3 [mF.D r.bars[i]!])]) (hc:=λK' hK=>hB [zH,r.bars[i]!.name,r.bars[i]!.range] (Et r i) 2 19 _ _ K' (.inr ⟨3,true,cE,cE⟩) ah eI eI (.mk a7 lQ (dq.2 ⟨a7,dq.2 ⟨ae,dq.2 ⟨ae,λ_ h=>nomatch h⟩⟩⟩) mR) (by rw[show(Et r i)++cr [zH,r.bars[i]!.name,r.bars[i]!.range]=Et r i++cr [zH,r.bars[i]!.name,r.bars[i]!.range]from rfl];exact hK)) (hn:=a7) ?_;refine cU ?_;have w8:(cr [zH,r.bars[i]!.name,r.bars[i]!.range]).length<=2200000:=by unfold cr;simp only[b6,zH,bV,bH,b7];omega
  refine zc ?_ ?_<;>intro hc7
  .refine cY ?_;have hwt:ko r.bars[i]!.when'=cr [yq,r.bars[i]!.when']:=ai hc7;refine cU ?_;refine bj [(.str _),(.str _)] ?_;refine dS (nx':=26) (v:=.tup []) (m':=[(28,.row (Et r (i+1))),(0,.buf 9 [Rec.D r]),(2,.bld (some 28) (Et r (i+1)).length true),(13,.buf 3 [mF.D r.bars[i]!])]) (hc:=λK' hK=>hB [yq,r.bars[i]!.when'] (Et r i++cr [zH,r.bars[i]!.name,r.bars[i]!.range]) 2 27 _ _ K' (.inr ⟨20,true,cE,cE⟩) ah eI eI (.mk a7 lQ (dq.2 ⟨a7,dq.2 ⟨ae,λ_ h=>nomatch h⟩⟩) mR) (by rw[show(Et r i++cr [zH,r.bars[i]!.name,r.bars[i]!.range])++cr [yq,r.bars[i]!.when']=Et r (i+1)from by rw[hxb,hbt,hwt,fF]];exact hK)) (hn:=a7) ?_;refine zg ?_;exact ir (i+1) [(0,0),(2,2),(28,3)]
  refine dt ?_;have hno:ko r.bars[i]!.when'=[]:=ak (by simpa using hc7);refine zg ?_;exact⟨i+1,ae,ae,(aZ.to [(0,0),(2,2),(20,3)] ah ah PW (by refine bn.Am ah ah ah ?_;refine bn.bl 2 ah ah ah (ar List.length (by rw[hxb,hbt,hno,fZ])) rfl ?_;refine bn.rw 20 ah ah (by rw[hxb,hbt,hno,fZ]) ?_;exact bn.nil))⟩
 refine fw ?_;have h33:i=r.bars.length:=ae;subst h33;refine zg ?_;intro u4;refine gG hm (ι:=Nat) (λi=>[.un,.un,⟨true,.ptr 0 9 0 0⟩,⟨true,.ptr 2 2 0 0⟩,.un,.un,.un,.un,.un,.un,.un,.un,.un,.un,.un,.un,.un,.un,.un,.un,.un,.un,.un,.un,.un,.un,⟨true,.int .i64 (i:Nat)⟩,⟨true,.int .i64 (r.feats.length:Nat)⟩,.un,⟨true,.sl 2 (r.feats.map bY.D)⟩,.un]) (λi=>[(0,.buf 9 [Rec.D r]),(2,.bld (some 3) (GU r i).length true),(3,.row (GU r i))]) 10 (λi=>i<=r.feats.length) (λi=>r.feats.length-i) 0 ae (aZ.to [(0,0),(2,2),(3,3)] ah ah PW (by refine bn.Am ah ah ah ?_;refine bn.bl 2 ah ah ah (ar List.length (by rw[aaB])) rfl ?_;refine bn.rw 3 ah ah (by rw[aaB]) ?_;exact bn.nil)) ?_;intro i hi;have q1:=S6 hft i hi;refine zc ?_ ?_<;>intro hc8
 .refine dt ?_;have q4:=hft.f _ (aq (show i<r.feats.length by omega));have q5:=q4.1.1;have q6:=q4.2;have q8:∀t∈r.feats[i]!.of,t.length<=2097200:=λt ht=>dN (q4.1.2.2 t ht) a7
  have hxf:=Oa (r:=r) (i:=i) ae;refine pz ?_;refine bj [(.str _),(.str _)] ?_;refine cU ?_;refine xM (zs:=([jR,r.feats[i]!.name]++r.feats[i]!.of).map D.str) (n:=([jR,r.feats[i]!.name]++r.feats[i]!.of).length) (ha:=aF) (he:=nk.sl) (hz:=by rw[dM];rfl) (hn:=by simp<;>omega) (hb:=lQ) ?_;refine dS (nx':=16) (v:=.tup []) (m':=[(21,.row (GU r (i+1))),(0,.buf 9 [Rec.D r]),(2,.bld (some 21) (GU r (i+1)).length true),(13,.buf 2 [bY.D r.feats[i]!])]) (hc:=λK' hK=>hB ([jR,r.feats[i]!.name]++r.feats[i]!.of) (GU r i) 2 20 _ _ K' (.inr ⟨3,true,cE,cE⟩) ah eI eI (.mk (l:=r.feats[i]!.name::r.feats[i]!.of) a7 lQ (dq.2 ⟨a7,dq.2 ⟨ae,q8⟩⟩) mR) (by rw[show(GU r i)++cr ([jR,r.feats[i]!.name]++r.feats[i]!.of)=GU r (i+1)from by rw[hxf];rfl];exact hK)) (hn:=a7) ?_;refine zg ?_;exact ir (i+1) [(0,0),(2,2),(21,3)]
 refine zg ?_;have h33:i=r.feats.length:=ae;subst h33;have hne:GU r r.feats.length≠[]:=by
  rw[IQ];unfold Er uX cr;simp[b6,qj]
 refine dS (nx':=11) (v:=.str (GU r r.feats.length)) (m':=[(0,.buf 9 [Rec.D r])]) (hc:=λK' hK=>hD _ _ K' ⟨2,GU r r.feats.length,rfl,.inr ⟨3,true,cE,cE⟩,hne,hK⟩) (hn:=a7) ?_;refine zr ?_;exact IQ r
def Nh:aj:=bd 99
def w218 (hA:C457 Y)(hB:C458 Y)(hC:C459 Y)(hD:C460 Y):Jb (cn Y Nh):=λr hp0=>by
 refine zg ?_;refine zf hm (λi=>[.u 3,.i i,.p 0 9,.u 12]) (λi=>[(0,.buf 9 [Rec.D r])]) 4 (λi=>i<=r.needs.length/\lH r=gE (λi=>jy r r.needs[i]!) i r.needs.length) (λi=>r.needs.length-i) ⟨ae,rfl⟩ [(0,0)] ?_;rintro i ⟨hi,hr⟩;refine zg ?_;intro u0;refine dT ?_ ?_<;>intro hc0
 .refine B8 ?_;refine aD (hc:=hA r r.needs[i]! (hp0.2.1 _ (aq ae))) ?_;refine zc ?_ ?_<;>intro hc1
  .refine zg ?_;refine dj (ba (ar (D.int .i64) ?_) (ar (D.int .i64) ?_));all_goals
    have hq:er r=(jy r r.needs[i]!,((i:Nat):Int)):=by
     exact MT (by rw[hr,gF ae hc1]) hc1
    rw[hq];first|done|rfl
  refine fM (i+1) [(0,0)] ?_;rw[hr,ke ae hc1]
 refine fw ?_;have hn0:lH r=(0,0):=by rw[hr,kd ae]
 refine zg ?_;refine zf hm (λi=>[.u 4,.p 0 9,.u 3,.i i,.u 8]) (λi=>[(0,.buf 9 [Rec.D r])]) 10 (λi=>i<=r.bars.length/\uQ r=gE (λi=>sb r r.bars[i]!) i r.bars.length) (λi=>r.bars.length-i) ⟨ae,rfl⟩ [(0,0)] ?_;rintro i ⟨hi,hr⟩;refine zg ?_;intro u1;refine dT ?_ ?_<;>intro hc2
 .refine B8 ?_;refine aD (hc:=hB r r.bars[i]! (hp0.2.2.1 _ (aq ae))) ?_;refine zc ?_ ?_<;>intro hc3
  .refine zg ?_;refine dj (ba (ar (D.int .i64) ?_) (ar (D.int .i64) ?_));all_goals
    have hq:er r=(sb r r.bars[i]!,((i:Nat):Int)):=by
     exact Du hn0 (by rw[hr,gF ae hc3]) hc3
    rw[hq];first|done|rfl
  refine fM (i+1) [(0,0)] ?_;rw[hr,ke ae hc3]
 refine fw ?_;have hb0:uQ r=(0,0):=by rw[hr,kd ae]
 refine cU ?_;refine aD (hc:=hC r.feats hp0.2.2.2) ?_;refine zg ?_;refine aH (λhc4=>?_) (λhc4=>?_)
 .try simp only[gL]at hc4
  refine zg ?_;refine dj (ba (ar (D.int .i64) ?_) (ar (D.int .i64) ?_));all_goals
   have hq:er r=(11,0):=by
    exact MU hn0 hb0 hc4
   rw[hq];first|done|rfl
 simp only[cX]at hc4;refine zg ?_;refine zf hm (λi=>[.u 4,.p 0 9,.u 8,.i i,.u 3]) (λi=>[(0,.buf 9 [Rec.D r])]) 20 (λi=>i<=r.feats.length/\Hr r=gE (λi=>mI r r.feats[i]!.of) i r.feats.length) (λi=>r.feats.length-i) ⟨ae,rfl⟩ [(0,0)] ?_;rintro i ⟨hi,hr⟩;refine zg ?_;intro u2;refine dT ?_ ?_<;>intro hc5
 .refine qp ?_;refine aD (hc:=hD r r.feats[i]!.of (jn.it hp0.2.2.2 _ (aq ae))) ?_;refine zc ?_ ?_<;>intro hc6
  .refine zg ?_;refine dj (ba (ar (D.int .i64) ?_) (ar (D.int .i64) ?_));all_goals
    have hq:er r=(mI r r.feats[i]!.of,((i:Nat):Int)):=by
     exact xG hn0 hb0 hc4 (by rw[hr,gF (f:=(λi=>mI r r.feats[i]!.of)) ae hc6])
    rw[hq];first|done|rfl
  refine fM (i+1) [(0,0)] ?_;rw[hr,ke (f:=(λi=>mI r r.feats[i]!.of)) ae hc6]
 refine zg ?_;refine dj (ba (ar (D.int .i64) ?_) (ar (D.int .i64) ?_));all_goals
  have hq:er r=(0,0):=by
   exact xG hn0 hb0 hc4 (by rw[hr,kd ae])
  rw[hq];first|done|rfl
def Nc:aj:=bd 58
def w71 (hA:Ha Y)(hB:Ca Y)(hC:C218 Y)(hD:C219 Y):zN (cn Y Nc):=λr hp0=>by
 refine zg ?_;refine wp_cond (λhc0=>?_) (λhc0=>?_)
 .try simp only[gL]at hc0
  refine zg ?_;refine dj (ba (ar (D.int .i64) ?_) (ar (D.int .i64) ?_));all_goals (have hq:cV r=(4,0):=(by rw[cV,ak hc0]);rw[hq];first|done|rfl)
 simp only[cX]at hc0;refine dt ?_;refine aD (hc:=hB r.v hp0.1.2) ?_;refine zg ?_;refine wp_cond (λhc1=>?_) (λhc1=>?_)
 .try simp only[gL]at hc1
  refine zg ?_;refine dj (ba (ar (D.int .i64) ?_) (ar (D.int .i64) ?_));all_goals (have hq:cV r=(5,0):=(by rw[cV,ai jI,ak hc1]);rw[hq];first|done|rfl)
 simp only[cX]at hc1;refine zg ?_;intro u0;refine K5 ?_ ?_<;>intro hc2
 .refine zg ?_;refine dj (ba (ar (D.int .i64) ?_) (ar (D.int .i64) ?_));all_goals (have hq:cV r=(3,0):=(by rw[cV,ai jI,ai (by simp[hc1]),ak ae]);rw[hq];first|done|rfl)
 refine zg ?_;refine aH (λhc3=>?_) (λhc3=>?_)
 .try simp only[gL]at hc3
  refine zg ?_;refine dj (ba (ar (D.int .i64) ?_) (ar (D.int .i64) ?_));all_goals
   have hq:cV r=er r:=by
    exact pM hc0 hc1 ae ae rfl hc3
   rw[hq];first|done|rfl
 simp only[cX,aX]at hc3;have hpz:er r=(0,0):=MV hc3;have hgd:FY r:=⟨⟨hc0,hc1⟩,⟨ae,ae⟩,hpz⟩;refine eB ?_;refine cF ?_;refine ax ?_;refine iF ?_;refine aD (hc:=hD r ⟨hgd,hp0⟩) ?_;refine DG λu1=>?_;specialize u1 rfl rfl
 refine oa ?_;refine aS (env':=[_,_,_,_,_,_,_,_,_,_,⟨_,(.bool _)⟩]) ?_;refine dT ?_ ?_<;>intro hc4
 .refine zg ?_;refine dj (ba (ar (D.int .i64) ?_) (ar (D.int .i64) ?_));all_goals
   have hq:cV r=(3,0):=by
    rw[wP hc0 hc1 ae ae hpz,ak ae]
   rw[hq];first|done|rfl
 refine zg ?_;refine dj (ba (ar (D.int .i64) ?_) (ar (D.int .i64) ?_));all_goals
  have hq:cV r=(0,0):=by
   rw[wP hc0 hc1 ae ae hpz,ai ae]
  rw[hq];first|done|rfl
def sU:aj:=bd 68
def w362 (hm:(Y.at 1).bN)(y:cx)(hA:C582 (Y.at 1))(hB:C583 (Y.at 1))(hp0:qy y/\kF y.e):dk (Y.at 1) sU.body (wD sU (WldQ y):Ex->List aY->St->Prop) (fP sU [cx.D y (.ptr 0 2 0 0)]) ⟨1,[(0,.buf 2 [.agg [.aR,.aR]])]⟩:=by
 show dk _ _ _ [⟨true,cx.D y (.ptr 0 2 0 0)⟩,.un,.un,.un,.un,.un,.un,.un,.un,.un,.un] ⟨1,[(0,.buf 2 [.agg [.aR,.aR]])]⟩;refine ax ?_;refine ru ?_;refine hY (aZ.to [(1,3),(2,1),(4,2)] (nx':=8) rfl ah (env':=[.un,⟨true,.ptr 1 1 0 0⟩,⟨true,.bool false⟩,⟨true,.ptr 3 8 0 0⟩,.un,.un,.un,.un,.un,⟨true,.ptr 2 1 0 0⟩,.un]) (m':=[(0,.buf 2 [eN 5 6 ([]:List av).length]),(5,.buf 1 (([]:List av).map D.str)),(6,.buf 1 (df y [])),(3,.buf 8 [cx.D y (.ptr 0 2 0 0)]),(1,.buf 1 [.agg [.aR]]),(2,.buf 1 [.agg [.aR]])]) fK (by refine bn.ni 0 ah ah (by exact⟨_,_,rfl,⟨_,rfl,⟨_,_,rfl,.inr ⟨_,_,_,rfl⟩,⟨_,_,rfl,.inr ⟨_,_,_,rfl⟩,rfl⟩⟩⟩,rfl⟩) ?_;refine bn.mt ah ah ah ah ?_;refine bn.mt ah ah ah ah ?_;refine bn.eq 1 ah ah ah ?_;refine bn.eq 2 ah ah ah ?_;refine bn.eq 4 ah ah ah ?_;exact bn.nil)) ?_;refine cU ?_;refine dS (nx':=10) (v:=.tup [.sl 2 ((iK y).map Key.D),.bool (okY y)]) (m':=[(9,.buf 1 ((sP y 49 nB []).map D.str)),(10,.buf 1 (df y (sP y 49 nB []))),(0,.buf 2 [eN 9 10 (sP y 49 nB []).length]),(3,.buf 8 [cx.D y (.ptr 0 2 0 0)]),(1,.buf 1 [.agg [.aR]]),(2,.buf 1 [.agg [.aR]])]) (hc:=λK' hK=>(Gr y▸hA y [] hp0 aF) _ 0 5 6 _ K' eI eI eI a7 ⟨rfl,rfl,rfl⟩ hK) (hn:=a7) ?_;refine ru ?_;have hal:=Ww y;have hok0:okY y=YV y 0:=by unfold YV;rw[nF,fR]
 rw[hok0];refine zg ?_;refine gG hm (ι:=Nat) (λi=>[.un,⟨true,.ptr 1 1 0 0⟩,.un,⟨true,.ptr 3 8 0 0⟩,⟨true,.int .i64 (i:Nat)⟩,⟨true,.sl 2 (((iK y)).map Key.D)⟩,⟨true,.bool ((YV y i))⟩,.un,.un,⟨true,.ptr 2 1 0 0⟩,.un]) (λi=>[(0,.buf 2 [eN 5 6 (YR y i).length]),(5,.buf 1 ((YR y i).map D.str)),(6,.buf 1 (df y (YR y i))),(3,.buf 8 [cx.D y (.ptr 0 2 0 0)]),(1,.buf 1 [.agg [.aR]]),(2,.buf 1 [.agg [.own 7 3 0 (yo y i).length]]),(7,.buf 3 ((yo y i).map dz.D))]) 20 (λi=>i<=(iK y).length) (λi=>(iK y).length-i) 0 ae (aZ.to [(1,1),(2,2),(3,3),(9,5),(10,6)] ah ah fK (by repeat(first|exact bn.nil|refine bn.Am ah ah dL ?_|refine bn.L4 ah ah ah ?_|refine bn.L6 ah ah ah ah ?_|refine bn.Am ah ah (by exact jg _ _) ?_|refine bn.nl 0 ah ah ah ry ?_|refine bn.eq 0 ah ah ah ?_|refine bn.nl 9 ah ah ah ry ?_|refine bn.eq 9 ah ah ah ?_|refine bn.nl 10 ah ah ah ry ?_|refine bn.eq 10 ah ah ah ?_|refine bn.nl 3 ah ah ah ry ?_|refine bn.eq 3 ah ah ah ?_|refine bn.nl 1 ah ah ah ry ?_|refine bn.eq 1 ah ah ah ?_|refine bn.ni 2 ah ah (by exact⟨_,_,rfl,⟨_,rfl,⟨_,_,rfl,.inr ⟨_,_,_,rfl⟩,rfl⟩⟩,rfl⟩) ?_|refine bn.mt ah ah ah ah ?_))) ?_;intro i hi;have hnl:=aeg y i;have hul:=Oe (y:=y) i;refine zg ?_;intro u0;refine dT ?_ ?_<;>intro hc0
 .refine B8 ?_;refine dS (nx':=29) (v:=.tup [.sl 8 ((eo y (iK y) (iK y)[i]!).1.map fj.D),.bool (eo y (iK y) (iK y)[i]!).2]) (m':=[(33,.buf 1 ((jq (YR y i) (iK y)[i]!).map D.str)),(34,.buf 1 (df y (jq (YR y i) (iK y)[i]!))),(0,.buf 2 [eN 33 34 (jq (YR y i) (iK y)[i]!).length]),(3,.buf 8 [cx.D y (.ptr 0 2 0 0)]),(1,.buf 1 [.agg [.aR]]),(2,.buf 1 [.agg [.own 7 3 0 (yo y i).length]]),(7,.buf 3 ((yo y i).map dz.D))]) (hc:=λK' hK=>hB y (YR y i) (iK y) (iK y)[i]! hp0 ae _ 0 5 6 _ K' eI eI eI a7 ⟨rfl,rfl,rfl⟩ hK) (hn:=a7) ?_;refine jb ?_;refine qp ?_;refine aV (dz.D (qi y (iK y) (iK y)[i]!)) ?_;refine bj [dz.D (qi y (iK y) (iK y)[i]!)] ?_;refine cR (q:=dz.D) (xs:=(yo y i)) (e:=(qi y (iK y) (iK y)[i]!)) (hb:=ae) ?_;refine cY ?_;refine br (.agg [.own 58 3 0 ((yo y i)++[(qi y (iK y) (iK y)[i]!)]).length]) (he:=cE) ?_;refine zg ?_;rw[alD hc0.2,okS_s hc0.2,nsS_s];exact ir (i+1) [(1,1),(2,2),(3,3),(33,5),(34,6),(58,7)]
 refine cU ?_;have hwe:=VK hi (by rcases hc0 with h|h;exact .inl h;exact .inr h);refine bD 7 ?_ (he:=aba) (hm:=aba);refine cY ?_;refine iF (d:=cA.D ⟨(yo y i)⟩) ?_;refine zg ?_;refine gP trivial Fx (dY ah (?_)) ah (by first|(rw[WldQ,zJ,hwe];done)|(rw[WldQ,zJ,hwe];exact rfl));rfl
def qL:aj:=bd 24
def w266 (hm:(Y.at 1).bN)(hA:G9 (Y.at 1))(hB:C110 (Y.at 1))(hC:C111 (Y.at 1))(hD:C112 (Y.at 1))(hE:C503 (Y.at 1))(hF:C504 (Y.at 1))(g:Gs)(l:List cj)(hp0:0<=g.i/\g.i<=960000)(hp1:jG l/\1<=l.length/\l.length<=100):dk (Y.at 1) qL.body (E5 qL 2 (.sl 2 ((lN g l).1.map cj.D)) (Gs.D (lN g l).2):Ex->List aY->St->Prop) (fP qL (.ptr 0 2 0 0::[.sl 2 (l.map cj.D)])) ⟨1,[(0,.buf 2 [(Gs.D g)])]⟩:=by
 show dk _ _ _ [⟨true,.ptr 0 2 0 0⟩,⟨true,.sl 2 (l.map cj.D)⟩,.un,.un,.un,.un,.un,.un,.un,.un,.un,.un,.un,.un] ⟨1,[(0,.buf 2 [(Gs.D g)])]⟩;refine ax ?_;refine dt ?_;obtain⟨hsh,hl1,hl2⟩:=hp1;have rk:=g.eP l.length ae;have r1:=g.aI.eP 4 ae;have r2:=g.aI.aI.eP 4 ae;have hk:g.val l.length=(((kG g l):Nat):Int):=by unfold kG;omega
 have hkl:(kG g l)<l.length:=by unfold kG;omega
 refine dt ?_;intro u0;refine cN (hc:=hA g l.length ae ae) ?_;refine k9 ?_;refine cN (hc:=hA g.aI 4 ae iC) ?_;refine cC (g.aI.val 4).toNat (hj:=λ_=>ae) (hb:=λ_=>pD) ?_;refine DF (v:=.str cB[(g.aI.val 4).toNat]!) (hi:=λ_=>pD) ?_;refine cU ?_;refine cN (hc:=hA g.aI.aI 4 ae iC) ?_;refine cC (g.aI.aI.val 4).toNat (hj:=λ_=>ae) (hb:=λ_=>by simp[bT];omega) ?_;refine dm (v:=bO.D bT[(g.aI.aI.val 4).toNat]!) (hi:=λ_=>by simp[bT];omega) ?_;refine cU ?_;refine br (bO.D (vrG g)) (he:=cE) ?_;refine cY ?_;refine bD 17 ?_ (he:=abf) (hm:=abf);refine cU ?_;refine zo (ys:=l.map cj.D) (n:=l.length) (he:=nk.sl) (hn:=aF) (hb:=ae) ?_;refine k9 ?_;refine cN (hc:=hA g.aI.aI.aI 6 ae iC) ?_;refine zc ?_ ?_<;>intro hc0
 .refine jX ?_;refine DF (v:=cj.D l[(kG g l)]!) (hi:=λ_=>ae) ?_;refine cY ?_;refine P0 (v:=bO.D (vrG g)) ?_;refine cY ?_;refine cN (hc:=hA g.aI.aI.aI.aI 3 ae iC) ?_;refine cY ?_;refine aD (hc:=hE l[(kG g l)]! (nmG g) (vrG g) (decide (0<g.aI.aI.aI.aI.val 3)) ⟨Hu hsh _,yp _⟩) ?_;refine fw ?_;refine br (cj.D (VU g l).1) (he:=cE) ?_;refine zc ?_ ?_<;>intro hc1
  .refine k9 ?_;refine AF ((l.set (kG g l) (VU g l).1).map cj.D) (hi:=oy) (he:=IJ ae rfl) ?_;refine cU ?_;rw[show D.own 21 2 0 l.length=D.own 21 2 0 (l.set (kG g l) (VU g l).1).length from by rw[List.length_set]];refine fw ?_;refine bD 21 ?_;refine zg ?_;refine gO trivial lO (dY ah (?_)) (by rw[Zp hc0 hc1];exact rfl) ah ah;rw[Zp hc0 hc1];rfl
  refine jX ?_;refine bD 21 ?_;refine zg ?_;refine gO trivial lO (dY ah (?_)) (by rw[Zq hc0 hc1];exact rfl) ah ah;rw[Zq hc0 hc1];rfl
 refine jX ?_;refine DF (v:=cj.D l[(kG g l)]!) (hi:=λ_=>ae) ?_;refine dt ?_;refine cN (hc:=hB g.aI.aI.aI.aI (nmG g) (vrG g) 2 KZ a7) ?_;refine aD (hc:=hF l[(kG g l)]! (rcG g).1 ⟨Hu hsh _,ZY _ (y8 _) (yp _)⟩) ?_;refine fw ?_;refine br (cj.D (VP g l).1) (he:=cE) ?_;refine zc ?_ ?_<;>intro hc2
 .refine k9 ?_;refine AF ((l.set (kG g l) (VP g l).1).map cj.D) (hi:=oy) (he:=IJ ae rfl) ?_;refine cY ?_;rw[show D.own 21 2 0 l.length=D.own 21 2 0 (l.set (kG g l) (VP g l).1).length from by rw[List.length_set]];refine fw ?_;refine bD 21 ?_;refine zg ?_;refine gO trivial lO (dY ah (?_)) (by rw[Zr hc0 hc2];exact rfl) ah ah;rw[Zr hc0 hc2];rfl
 refine k9 ?_;refine bD 21 ?_;refine zg ?_;refine gO trivial lO (dY ah (?_)) (by rw[Zs hc0 hc2];exact rfl) ah ah;rw[Zs hc0 hc2];rfl
def px:aj:=bd 167
def w755 (hm:(Y.at 3).bN)(y:cx)(ns:List av)(nm:av)(hA:C909 (Y.at 3))(hp0:pG y)(hp1:ns.length<=1000):dk (Y.at 3) px.body (wD px (Lg y (eU ns nm) (uK (dI y nm))):Ex->List aY->St->Prop) (fP px [cx.D y (.ptr 0 2 0 0),.str nm]) ⟨3,[(0,.buf 2 [eN 1 2 ns.length]),(1,.buf 1 (ns.map D.str)),(2,.buf 1 (df y ns))]⟩:=by
 show dk _ _ _ [⟨true,cx.D y (.ptr 0 2 0 0)⟩,⟨true,.str nm⟩,.un,.un,.un,.un,.un,.un] ⟨3,[(0,.buf 2 [eN 1 2 ns.length]),(1,.buf 1 (ns.map D.str)),(2,.buf 1 (df y ns))]⟩;refine ax ?_;refine zg ?_;refine zf hm (λi=>[.u 1,.e (.str nm),.u 1,.i i,.p 3 8,.u 3]) (λi=>[(0,.buf 2 [eN 1 2 ns.length]),(1,.buf 1 (ns.map D.str)),(2,.buf 1 (df y ns)),(3,.buf 8 [cx.D y (.ptr 0 2 0 0)])]) 6 (λi=>i<=ns.length/\∀j,j<i->ns[j]! ≠nm) (λi=>ns.length-i) ⟨ae,λj h=>ae⟩ [(3,3)] ?_;rintro i ⟨hi,hr⟩;refine zg ?_;intro _;refine dT ?_ ?_<;>intro hc0
 .refine qp ?_;refine uZ (q:=D.str) (xs:=ns) (v:=.str ns[i]!) (hi:=λ_=>ae) (hv:=λ_=>uE) ?_;refine zc ?_ ?_<;>intro hc1
  .refine pz ?_;refine uZ (q:=λnm=>uK (dI y nm)) (xs:=ns) (v:=uK (dI y ns[i]!)) (hi:=λ_=>ae) (hv:=λ_=>uE) ?_;refine cY ?_;refine aS (env':=[_,_,⟨_,(.sl _ _)⟩,_,_,_,_,_]) ?_;refine zg ?_;refine gP trivial lO (dY ah (?_)) ah ⟨by first|(rw[<-hc1];done)|(rw[<-hc1];exact rfl),1,2,⟨ae,ae,ae⟩,by rw[acn ae hc1];refine⟨?_, ?_, ?_⟩<;>first|exact rfl|(rw[nv];exact rfl)|(rw[nu];exact rfl)⟩;rfl
  refine fM (i+1) [(3,3)] ?_;exact λj h=>by rcases Nat.lt_succ_iff_lt_or_eq.1 h with h|rfl;exact hr j h;exact hc1
 refine dt ?_;have hout:=Wu (ns:=ns) (nm:=nm) λj h=>hr j ae
 refine cU ?_;refine dS (nx':=16) (v:=uK (dI y nm)) (m':=[(16,.buf 1 ((ns).map D.str)),(17,.buf 1 (df y (ns))),(0,.buf 2 [eN 16 17 (ns).length]),(3,.buf 8 [cx.D y (.ptr 0 2 0 0)])]) (hc:=λK' hK=>hA y ns nm hp0 _ 0 1 2 _ K' eI eI eI a7 ⟨rfl,rfl,rfl⟩ hK) (hn:=a7) ?_;refine cY ?_;refine aS (env':=[_,_,_,_,_,_,_,⟨_,(.sl _ _)⟩]) ?_;refine cU ?_;refine ZH (v:=.ptr 0 2 0 0) ?_;refine cY ?_;refine ZH (v:=.ptr 0 2 0 0) ?_;refine jX ?_;refine bj [.str nm] ?_;refine cR (q:=D.str) (xs:=ns) (e:=nm) (hb:=ae) ?_;refine cY ?_;refine zq (v:=.ptr 0 2 0 0) ?_;refine cU ?_;refine zq (v:=.own 17 1 0 ns.length) ?_;refine cY ?_;refine bj [uK (dI y nm)] ?_;refine cR (q:=λnm=>uK (dI y nm)) (xs:=ns) (e:=nm) (hb:=ae) ?_;refine cU ?_;refine aga (.agg [.own 31 1 0 (ns++[nm]).length,.own 17 1 0 ns.length]) ?_;refine cU ?_;refine aga (eN 31 39 (ns++[nm]).length) ?_;refine zg ?_;refine gP trivial lO (dY ah (?_)) ah ⟨cE,31,39,⟨ae,ae,ae⟩,by rw[hout];refine⟨?_, ?_, ?_⟩<;>first|exact rfl|(rw[nv];exact rfl)|(rw[nu];exact rfl)⟩;rfl
def Py:aj:=bd 21
def w111 (hm:(Y.at 0).bN)     :wkk Y Py (.sl 1 (cB.map D.str)) []:=by
 refine fw ?_;refine bj (cB.map D.str) ?_;refine cU ?_;refine bD 1 ?_;exact mQ
def Ms:aj:=bd 22
def w135 (hm:(Y.at 0).bN)     :wkk Y Ms (.sl 1 (j4.map D.str)) []:=by
 refine fw ?_;refine bj (j4.map D.str) ?_;refine cU ?_;refine bD 1 ?_;exact mQ
def PC:aj:=bd 96
def w536:JV (cn Y PC):=λl s=>by
 refine zg ?_;refine zf hm (λi=>[.m 1 l D.str,.e (.str s),.u 1,.i i,.u 2]) (λi=>[]) 2 (λi=>i<=l.length/\iD (λt=>decide (t=s)) l 0=iD (λt=>decide (t=s)) (l.drop i) i) (λi=>l.length-i) ⟨ae,rfl⟩ [] ?_;rintro i ⟨hi,hr⟩;refine zg ?_;intro u0;refine dT ?_ ?_<;>intro hc0
 .refine zc ?_ ?_<;>intro hc1
  .refine zr ?_;unfold Fg;rw[hr,nV ae ox,ai ae]
  refine fM (i+1) [] ?_;rw[hr,lF ae ox]
 refine zr ?_;unfold Fg;rw[hr,nU ae];rfl
def vN:aj:=bd 55
def w297 (hm:(Y.at 1).bN)(hA:G9 (Y.at 1))(hB:C111 (Y.at 1))(hC:C536 (Y.at 1))(g:Gs)(own:av)(hp0:0<=g.i/\g.i<=990000):dk (Y.at 1) vN.body (E5 vN 2 (.str (cQ g own).1) (Gs.D (cQ g own).2):Ex->List aY->St->Prop) (fP vN (.ptr 0 2 0 0::[.str own])) ⟨1,[(0,.buf 2 [(Gs.D g)])]⟩:=by
 show dk _ _ _ [⟨true,.ptr 0 2 0 0⟩,⟨true,.str own⟩,.un,.un,.un,.un] ⟨1,[(0,.buf 2 [(Gs.D g)])]⟩;refine ax ?_;refine dt ?_;have r4:=g.eP 4 ae;have r3:=g.aI.eP 3 ae;have rz:=Ya cB own;simp only[cB,bH,b7]at rz;refine pz ?_;intro u0;refine cN (hc:=hA g 4 ae iC) ?_;refine cC (g.val 4).toNat (hj:=λ_=>ae) (hb:=λ_=>pD) ?_;refine dm (v:=.str cB[(g.val 4).toNat]!) (hi:=λ_=>pD) ?_;refine zc ?_ ?_<;>intro hc0
 .refine fw ?_;refine cN (hc:=hA g.aI 3 ae iC) ?_;refine fw ?_;refine kT (hb:=by first|omega|(simp only[cB]at rz⊢;omega)) ?_;refine cU ?_;intro u1;refine AD ((g.aI.val 3+1+Fg cB own)%4) (hn:=by intro _;decide) (hb:=λ_=>Int.tmod_eq_emod_of_nonneg (by first|omega|(simp only[cB]at rz⊢;omega))) ?_;refine cC ((g.aI.val 3+1+Fg cB own)%4).toNat (hj:=λ_=>ae) (hb:=λ_=>pD) ?_;refine dm (v:=.str cB[((g.aI.val 3+1+Fg cB own)%4).toNat]!) (hi:=λ_=>pD) ?_;refine zg ?_;refine gO trivial lO (dY ah (ar D.str ?_)) (by unfold cQ;rw[ak hc0];exact rfl) ah ah;unfold cQ;rw[ak hc0]
 refine zg ?_;refine gO trivial lO (dY ah (ar D.str ?_)) (by unfold cQ;rw[ai hc0];exact rfl) ah ah;unfold cQ;rw[ai hc0]
def Vm:aj:=bd 15
def w313:uh (cn Y Vm):=λn=>by
 refine zg ?_;refine zf hm (λk=>[.e (.int .u64 n),.u 1,.i ((15:Int) -(k:Nat)),.u 1,.o 0 1 ((jA n).take k).length]) (λk=>[(0,.buf 1 (((jA n).take k).map λb=>D.int .u8 b.toNat))]) 3 (λk=>k<=16) (λk=>16-k) ae [] ?_;intro k hk;have htk:=QN n k hk;refine zc ?_ ?_<;>intro hc0
 .refine jX ?_;refine qU ?_;refine m5 ((4*(15-k):Nat):Int) (hb:=λ_=>wu) ?_;refine Gq (vw n (4*(15-k))) (hb:=λ_=>by rw[show min (Int.toNat ((4*(15-k):Nat):Int)) (IntKind.bits .u64)=4*(15-k)by simp[IntKind.bits];omega];rfl) ?_;refine vV ((nib n (15-k):Nat):Int) (hb:=λ_=>MB n (15-k)) ?_;have hnib:=PL n (15-k);refine cY ?_;refine bj [.int .u8 _] ?_;refine cR (hb:=ae) ?_;refine cU ?_;rw[<-QM n k ae];refine zg ?_;exact⟨k+1,ae,ae,(aZ.to [(14,0)] ah ah (by repeat(first|exact eX.nil|refine eX.un ?_|refine eX.eq ah ?_|refine eX.nl (ar (D.int .i64) ae) ah ?_)) (by refine bn.nl 14 ah ah ah dL ?_;exact bn.nil))⟩
 refine fw ?_;refine M1 (jA n) (he:=λ_=>nk.all ah aF) (hs:=λ_=>by rw[fE (by rw[ju];omega)]) ?_;exact mQ
def Il:aj:=bd 65
def w144 (hA:V1 Y):tQ (cn Y Il):=λe=>by
 refine zg ?_;refine zf hm (λi=>[.u 2,.i i,.u 1,.p 0 3,.u 1]) (λi=>[(0,.buf 3 [Env.D e])]) 3 (λi=>i<=3/\pd e=bI (λi=>decide (e.at i=[]) ||gC (e.at i)) i 3) (λi=>3-i) ⟨ae,rfl⟩ [(0,0)] ?_;rintro i ⟨hi,hr⟩;refine zc ?_ ?_<;>intro hc0
 .refine k9 ?_;refine DE i ?_;refine lz (v:=.str (e.at i)) (hv:=λ_=>Env.ld e ae) ?_;refine fw ?_;refine DE i ?_;refine lz (v:=.str (e.at i)) (hv:=λ_=>Env.ld e ae) ?_;refine zg ?_;refine wp_cond (λhc1=>?_) (λhc1=>?_)
  .simp only[aK,cg,b8]at hc1;refine zr ?_;rw[hr,ay ae];rw[bB hc1.1,hc1.2];rfl
  simp only[ew,cX,aX]at hc1;refine fM (i+1) [(0,0)] ?_;rw[hr,ay ae];rw[show(decide (e.at i=[]) ||gC (e.at i))=true by rw[cW,aX];exact hc1];rfl
 refine zr ?_;rw[hr,bA ae]
def vY:aj:=bd 163
def w751 (hm:(Y.at 3).bN)(y:cx)(ns:List av)(hA:V6 (Y.at 3))(hp0:∀m∈y.l,m.r.v∈bT)(hp1:y.l.length<=1000):dk (Y.at 3) vY.body (wD vY (Lg y ns (.sl 1 ((eH y.l).map dU))):Ex->List aY->St->Prop) (fP vY [cx.D y (.ptr 0 2 0 0)]) ⟨3,[(0,.buf 2 [eN 1 2 ns.length]),(1,.buf 1 (ns.map D.str)),(2,.buf 1 (df y ns))]⟩:=by
 show dk _ _ _ [⟨true,cx.D y (.ptr 0 2 0 0)⟩,.un,.un,.un,.un,.un,.un] ⟨3,[(0,.buf 2 [eN 1 2 ns.length]),(1,.buf 1 (ns.map D.str)),(2,.buf 1 (df y ns))]⟩;refine ax ?_;refine zg ?_;refine zf hm (λi=>[.u 2,.i i,.p 3 8,.u 1,.o 5 1 (eH (y.l.take i)).length,.u 1]) (λi=>[(0,.buf 2 [eN 1 2 ns.length]),(1,.buf 1 (ns.map D.str)),(2,.buf 1 (df y ns)),(3,.buf 8 [cx.D y (.ptr 0 2 0 0)]),(5,.buf 1 ((eH (y.l.take i)).map dU))]) 20 (λi=>i<=y.l.length) (λi=>y.l.length-i) ae [(3,3)] ?_;intro i hi;have hrl:=aag y.l i;refine zg ?_;intro u0;refine dT ?_ ?_<;>intro hc0
 .refine qp ?_;refine br _ ?_;refine k9 ?_;refine cq _ ?_;refine dt ?_;refine aV (jk.D (⟨⟨y.l[i]!.r.name,ll⟩,dG y.l[i]!.r.v⟩:jk)) ?_;refine bj [jk.D (⟨⟨y.l[i]!.r.name,ll⟩,dG y.l[i]!.r.v⟩:jk)] ?_;refine bj [.own 41 4 0 1] ?_;refine xM ((eH (y.l.take i)).map dU++[.own 41 4 0 1]) (n:=((eH (y.l.take i))++[[(⟨⟨y.l[i]!.r.name,ll⟩,dG y.l[i]!.r.v⟩:jk)]]).length) (ha:=oy) (he:=nk.own rfl (by first|rfl|simp)) (hz:=yv) (hn:=EZ) (hb:=zU) ?_;refine dt ?_;refine bD 41 ?_ (he:=G6) (hm:=G6);refine zg ?_;rw[pI,alf ae];exact ir (i+1) [(43,5),(3,3)]
 refine cU ?_;obtain rfl:i=y.l.length:=ae;rw[List.take_length];refine bD 5 ?_ (he:=G6) (hm:=G6);refine zg ?_;refine gP trivial lO (dY ah (?_)) ah ⟨cE,1,2,⟨ae,ae,ae⟩,tj⟩;rfl
def Vh:aj:=bd 173
def w381:Js (cn Y Vh):=λn hp0=>by
 refine cY ?_;obtain⟨j,rfl⟩:∃j:Nat,n=(j:Int):=⟨n.toNat,ae⟩
 simp only[Int.toNat_natCast];refine zg ?_;refine zf hm (λi=>[.i j,.u 1,.i i,.u 1,.i ((2^i))]) (λi=>[]) 3 (λi=>i<=j) (λi=>j-i) ae [] ?_;intro i hi;have hpb:=Gm (k:=i) ae;have hpp:=p8 i;refine zc ?_ ?_<;>intro hc0
 .refine fw ?_;refine qU (hb:=ae) ?_;refine zg ?_;rw[show(2:Int)^i*2=2^(i+1)from(Int.pow_succ 2 i).symm];exact ir (i+1) []
 refine cU ?_;obtain rfl:i=j:=ae;exact mQ
def Qw:aj:=bd 115
def w158 (hm:(Y.at 0).bN)(hA:C381 Y):I4 (cn Y Qw):=λw u hp0=>by
 refine zc ?_ ?_<;>intro hc0
 .refine zr ?_;unfold nT;rw[ak ae]
 refine cU ?_;obtain⟨j,rfl⟩:∃j:Nat,u=(j:Int):=⟨u.toNat,ae⟩
 have hjl:j<w.us.length:=ae;have hju:=(hp0 _ (aq hjl)).1;have hpb:=Gm (k:=w.us[j]!.cands.length+1) ae;have hpp:=p8 (w.us[j]!.cands.length+1);refine ru ?_;intro u0;refine r_mn ((w.us[j]!.cands.length:Nat):Int) (hv:=λ_=>ai ae) ?_;refine cU ?_;refine xN (hb:=by simp only[Int.toNat_natCast,show(((w.us[j]!.cands.length:Nat):Int)+1).toNat=w.us[j]!.cands.length+1 from rfl];omega) ?_;refine zr ?_;unfold nT;rw[ai ae];rfl
def Qs:aj:=bd 30
def w269 (hA:C506 Y):Jf (cn Y Qs):=λw c hp0 hp1=>by
 refine zg ?_;refine zf hm (λi=>[.u 1,.m 1 c (D.int .i64),.u 2,.i i,.m 1 (fq w c) _,.u 2,.o 0 1 (Bw w c i).length,.u 1]) (λi=>[(0,.buf 1 ((Bw w c i).map (D.int .i64)))]) 8 (λi=>i<=(fq w c).length) (λi=>(fq w c).length-i) ae [] ?_;intro i hi;have htl:=aax w c i;have hnl:=My w c;refine zg ?_;intro u0;refine dT ?_ ?_<;>intro hc0
 .refine zc ?_ ?_<;>intro hc1
  .refine jX ?_;refine bj [.int .i64 (-1)] ?_;refine cR (q:=D.int .i64) (xs:=Bw w c i) (e:=(-1)) (hb:=ae) ?_;refine zg ?_;rw[alr hc1];exact ir (i+1) [(26,0)]
  refine fw ?_;refine bj [.int .i64 c[i]!] ?_;refine cR (q:=D.int .i64) (xs:=Bw w c i) (e:=c[i]!) (hb:=ae) ?_;refine zg ?_;rw[als hc1];exact ir (i+1) [(25,0)]
 refine cU ?_;obtain rfl:i=(fq w c).length:=ae;refine bD 0 ?_;exact mQ
def U7:aj:=bd 327
def w1121:EW (cn Y U7):=λs nm=>by
 refine zg ?_;refine zf hm (λi=>[.u 1,.e (.str nm),.u 1,.i i,.p 0 2,.u 2]) (λi=>[(0,.buf 2 [cj.D s])]) 3 (λi=>i<=s.es.length/\CP nm s=(s.es.drop i).any λx=>decide (x.r.name=nm)) (λi=>s.es.length-i) ⟨ae,rfl⟩ [(0,0)] ?_;rintro i ⟨hi,hr⟩;refine zg ?_;intro u0;refine dT ?_ ?_<;>intro hc0
 .refine zc ?_ ?_<;>intro hc1
  .refine zr ?_;rw[hr,wJ ae ox]
  refine fM (i+1) [(0,0)] ?_;rw[hr,Cf ae ox]
 refine zr ?_;rw[hr,wI ae]
def ZZ:aj:=bd 212
def w816 (hm:(Y.at 0).bN)(hA:C955 Y):Kx (cn Y ZZ):=λl nm=>by
 exact mQ
end Go.Abs
end
