/- A part of the proofs. -/
import Derived.Test.YtkmlboofmolbaaaGreatDoorP09
set_option linter.all false
set_option maxRecDepth 60000
set_option maxHeartbeats 2000000
noncomputable section
namespace Go.Abs
variable {Y:Ctx}(hm:(Y.at 0).cb)
def Mr:aj:=bj 204
def w215 (hA:C242 Y)(hB:C450 Y)(hC:C451 Y)(hD:C452 Y):tV (cz Y Mr):=λr hp0=>by
 show dx _ _ _ [⟨_,_⟩,_,_,_,_,_,_,_,_,_,_,_,_,_,_,_,_,_,_,_,_,_,_,_,_,_,_,_,_,_,_] _;have hft:=tu hp0;have q0:=hft.nm;have q00:=Ed r.v hft.v;have hs:=hp0.2;refine aQ ?_;refine Fb ?_;refine aG (hc:=hC r.v hft.v) ?_;refine bc [(.str _),(.str _),(.str _)] ?_;refine dK (nx':=4) (v:=.tup []) (m':=[(9,.row (uZ r)),(0,.buf 9 [Rec.D r]),(2,.bld (some 9) (uZ r).length true)]) (hc:=λK' hK=>hB [qj,r.name,uO r.v] ([]) 2 8 _ _ K' (.inl ⟨false,cZ,rfl⟩) ah eB eB (.mk aU lU (du.2 ⟨aU,du.2 ⟨ae,du.2 ⟨ae,λ_ h=>nomatch h⟩⟩⟩) mX) (by rw[show([])++cx [qj,r.name,uO r.v]=uZ r from rfl];exact hK)) (hn:=aU) ?_;refine zg ?_;intro u0;refine gp hm (ι:=Nat) (λi=>[.un,.un,⟨true,.ptr 0 9 0 0⟩,⟨true,.ptr 2 2 0 0⟩,⟨true,.int .i64 (i:Nat)⟩,⟨true,.int .i64 (r.needs.length:Nat)⟩,.un,⟨true,.sl 3 (r.needs.map bw.D)⟩,.un,.un,.un,.un,.un,.un,.un,.un,.un,.un,.un,.un,.un,.un,.un,.un,.un,.un,.un,.un,.un,.un,.un]) (λi=>[(0,.buf 9 [Rec.D r]),(2,.bld (some 3) (kH r i).length true),(3,.row (kH r i))]) 10 (λi=>i<=r.needs.length) (λi=>r.needs.length-i) 0 ae (aY.to [(0,0),(2,2),(9,3)] ah ah O9 (by refine bp.vO ah ah ah ?_;refine bp.bl 2 ah ah ah (aw List.length (by rw[Z4])) rfl ?_;refine bp.rw 9 ah ah (by rw[Z4]) ?_;exact bp.nil)) ?_;intro i hi;have q1:=Is hft i hi;refine zc ?_ ?_<;>intro hc0
 .refine dI ?_;have hnf:=hft.n _ (aq (show i<r.needs.length by omega));have hn3:=hnf.1.1;refine kF ?_;refine bc [(.str _)] ?_;refine dK (nx':=16) (v:=.tup []) (m':=[(16,.row (kH r i++dS r.needs[i]! 0)),(0,.buf 9 [Rec.D r]),(2,.bld (some 16) (kH r i++dS r.needs[i]! 0).length true),(13,.buf 3 [bw.D r.needs[i]!])]) (hc:=λK' hK=>hB [Gr] (kH r i) 2 15 _ _ K' (.inr ⟨3,true,cZ,cZ⟩) ah eB eB (.mk aU lU (du.2 ⟨aU,λ_ h=>nomatch h⟩) mX) (by rw[show(kH r i)++cx [Gr]=kH r i++dS r.needs[i]! 0 from rfl];exact hK)) (hn:=aU) ?_;refine zg ?_;intro u1;refine zf hm (λj=>[.u 2,.p 0 9,.p 2 2,.i i,.i r.needs.length,.u 1,.m 3 r.needs bw.D,.p 4 3,.i j,.i (r.needs[i]!.any.length:Nat),.u 1,.m 4 (r.needs[i]!.any) di.D,.u 18]) (λj=>[(0,.buf 9 [Rec.D r]),(4,.buf 3 [bw.D r.needs[i]!]),(2,.bld (some 3) (kH r i++dS r.needs[i]! j).length true),(3,.row (kH r i++dS r.needs[i]! j))]) 20 (λj=>j<=r.needs[i]!.any.length) (λj=>r.needs[i]!.any.length-j) ae [(0,0),(13,4),(2,2),(16,3)] ?_;intro j hj;have q2:=FJ hnf j ae;refine zc ?_ ?_<;>intro hc1
  .refine dI ?_;have hwf:=hnf.1.2 _ (aq (show j<r.needs[i]!.any.length by omega));have q3:=Iz hwf;have q4:=hwf.1.1.1;have q5:=hwf.1.1.2.len;refine zg ?_;intro u2;refine dN ?_ ?_<;>intro hc2
   .refine dI ?_;refine aG (hc:=hA r.needs[i]!.any[j]!.feats [44] (by have:=hwf.2.1;omega) aU (λt ht=>by have:=hwf.2.2 t ht;omega)) ?_;refine zc ?_ ?_<;>intro hc3
    .refine eX ?_;have hwl:cx [rU,r.needs[i]!.any[j]!.name,(cw [44] r.needs[i]!.any[j]!.feats),rO,r.needs[i]!.any[j]!.range]=j0 r.needs[i]!.any[j]! :=by
      unfold j0 sY;first|rw[ak (show r.needs[i]!.any[j]!.feats.length=0 by omega)]|rw[ai (show ¬r.needs[i]!.any[j]!.feats.length=0 by omega)]
      rw[hc3];rfl
     have hwj:=ov (n:=r.needs[i]!) (j:=j) ae;refine kF ?_;refine bc [(.str _),(.str _),(.str _),(.str _),(.str _)] ?_;refine dK (nx':=39) (v:=.tup []) (m':=[(45,.row (kH r i++dS r.needs[i]! (j+1))),(0,.buf 9 [Rec.D r]),(4,.buf 3 [bw.D r.needs[i]!]),(2,.bld (some 45) (kH r i++dS r.needs[i]! (j+1)).length true),(23,.buf 4 [di.D r.needs[i]!.any[j]!])]) (hc:=λK' hK=>hB [rU,r.needs[i]!.any[j]!.name,(cw [44] r.needs[i]!.any[j]!.feats),rO,r.needs[i]!.any[j]!.range] (kH r i++dS r.needs[i]! j) 2 44 _ _ K' (.inr ⟨3,true,cZ,cZ⟩) ah eB eB (.mk aU lU (du.2 ⟨aU,du.2 ⟨ae,du.2 ⟨by first|omega|decide,du.2 ⟨aU,du.2 ⟨ae,λ_ h=>nomatch h⟩⟩⟩⟩⟩) mX) (by rw[show(kH r i++dS r.needs[i]! j)++cx [rU,r.needs[i]!.any[j]!.name,(cw [44] r.needs[i]!.any[j]!.feats),rO,r.needs[i]!.any[j]!.range]=kH r i++dS r.needs[i]! (j+1)from by rw[hwl,hwj,fF]];exact hK)) (hn:=aU) ?_;refine zg ?_;exact iC (j+1) [(0,0),(4,4),(2,2),(45,3)]
    refine cC ?_;have hwl:cx [rU,r.needs[i]!.any[j]!.name,(cw [44] r.needs[i]!.any[j]!.feats),rQ,r.needs[i]!.any[j]!.range]=j0 r.needs[i]!.any[j]! :=by
     unfold j0 sY;first|rw[ak (show r.needs[i]!.any[j]!.feats.length=0 by omega)]|rw[ai (show ¬r.needs[i]!.any[j]!.feats.length=0 by omega)]
     rw[hc3];rfl
    have hwj:=ov (n:=r.needs[i]!) (j:=j) ae;refine kF ?_;refine bc [(.str _),(.str _),(.str _),(.str _),(.str _)] ?_;refine dK (nx':=38) (v:=.tup []) (m':=[(44,.row (kH r i++dS r.needs[i]! (j+1))),(0,.buf 9 [Rec.D r]),(4,.buf 3 [bw.D r.needs[i]!]),(2,.bld (some 44) (kH r i++dS r.needs[i]! (j+1)).length true),(23,.buf 4 [di.D r.needs[i]!.any[j]!])]) (hc:=λK' hK=>hB [rU,r.needs[i]!.any[j]!.name,(cw [44] r.needs[i]!.any[j]!.feats),rQ,r.needs[i]!.any[j]!.range] (kH r i++dS r.needs[i]! j) 2 43 _ _ K' (.inr ⟨3,true,cZ,cZ⟩) ah eB eB (.mk aU lU (du.2 ⟨aU,du.2 ⟨ae,du.2 ⟨by first|omega|decide,du.2 ⟨aU,du.2 ⟨ae,λ_ h=>nomatch h⟩⟩⟩⟩⟩) mX) (by rw[show(kH r i++dS r.needs[i]! j)++cx [rU,r.needs[i]!.any[j]!.name,(cw [44] r.needs[i]!.any[j]!.feats),rQ,r.needs[i]!.any[j]!.range]=kH r i++dS r.needs[i]! (j+1)from by rw[hwl,hwj,fF]];exact hK)) (hn:=aU) ?_;refine zg ?_;exact iC (j+1) [(0,0),(4,4),(2,2),(44,3)]
   refine zc ?_ ?_<;>intro hc3
   .refine eX ?_;have hwl:cx [rU,r.needs[i]!.any[j]!.name,[45],rO,r.needs[i]!.any[j]!.range]=j0 r.needs[i]!.any[j]! :=by
     unfold j0 sY;first|rw[ak (show r.needs[i]!.any[j]!.feats.length=0 by omega)]|rw[ai (show ¬r.needs[i]!.any[j]!.feats.length=0 by omega)]
     rw[hc3];rfl
    have hwj:=ov (n:=r.needs[i]!) (j:=j) ae;refine kF ?_;refine bc [(.str _),(.str _),(.str _),(.str _),(.str _)] ?_;refine dK (nx':=35) (v:=.tup []) (m':=[(41,.row (kH r i++dS r.needs[i]! (j+1))),(0,.buf 9 [Rec.D r]),(4,.buf 3 [bw.D r.needs[i]!]),(2,.bld (some 41) (kH r i++dS r.needs[i]! (j+1)).length true),(23,.buf 4 [di.D r.needs[i]!.any[j]!])]) (hc:=λK' hK=>hB [rU,r.needs[i]!.any[j]!.name,[45],rO,r.needs[i]!.any[j]!.range] (kH r i++dS r.needs[i]! j) 2 40 _ _ K' (.inr ⟨3,true,cZ,cZ⟩) ah eB eB (.mk aU lU (du.2 ⟨aU,du.2 ⟨ae,du.2 ⟨by first|omega|decide,du.2 ⟨aU,du.2 ⟨ae,λ_ h=>nomatch h⟩⟩⟩⟩⟩) mX) (by rw[show(kH r i++dS r.needs[i]! j)++cx [rU,r.needs[i]!.any[j]!.name,[45],rO,r.needs[i]!.any[j]!.range]=kH r i++dS r.needs[i]! (j+1)from by rw[hwl,hwj,fF]];exact hK)) (hn:=aU) ?_;refine zg ?_;exact iC (j+1) [(0,0),(4,4),(2,2),(41,3)]
   refine cC ?_;have hwl:cx [rU,r.needs[i]!.any[j]!.name,[45],rQ,r.needs[i]!.any[j]!.range]=j0 r.needs[i]!.any[j]! :=by
    unfold j0 sY;first|rw[ak (show r.needs[i]!.any[j]!.feats.length=0 by omega)]|rw[ai (show ¬r.needs[i]!.any[j]!.feats.length=0 by omega)]
    rw[hc3];rfl
   have hwj:=ov (n:=r.needs[i]!) (j:=j) ae;refine kF ?_;refine bc [(.str _),(.str _),(.str _),(.str _),(.str _)] ?_;refine dK (nx':=34) (v:=.tup []) (m':=[(40,.row (kH r i++dS r.needs[i]! (j+1))),(0,.buf 9 [Rec.D r]),(4,.buf 3 [bw.D r.needs[i]!]),(2,.bld (some 40) (kH r i++dS r.needs[i]! (j+1)).length true),(23,.buf 4 [di.D r.needs[i]!.any[j]!])]) (hc:=λK' hK=>hB [rU,r.needs[i]!.any[j]!.name,[45],rQ,r.needs[i]!.any[j]!.range] (kH r i++dS r.needs[i]! j) 2 39 _ _ K' (.inr ⟨3,true,cZ,cZ⟩) ah eB eB (.mk aU lU (du.2 ⟨aU,du.2 ⟨ae,du.2 ⟨by first|omega|decide,du.2 ⟨aU,du.2 ⟨ae,λ_ h=>nomatch h⟩⟩⟩⟩⟩) mX) (by rw[show(kH r i++dS r.needs[i]! j)++cx [rU,r.needs[i]!.any[j]!.name,[45],rQ,r.needs[i]!.any[j]!.range]=kH r i++dS r.needs[i]! (j+1)from by rw[hwl,hwj,fF]];exact hK)) (hn:=aU) ?_;refine zg ?_;exact iC (j+1) [(0,0),(4,4),(2,2),(40,3)]
  refine eX ?_;have hnA:=y8 (n:=r.needs[i]!) (j:=j) ae;have w4:=nV hnf.2.1;have w5:=hnf.2.2;have w6:=hnf.2.1;refine zc ?_ ?_<;>intro hc4
  .refine cN ?_;have hwt:kC r.needs[i]!.when'=cx [yu,r.needs[i]!.when']:=ai hc4;refine cC ?_;refine bc [(.str _),(.str _)] ?_;refine dK (nx':=25) (v:=.tup []) (m':=[(27,.row (kH r i++(dS r.needs[i]! j++kC r.needs[i]!.when'))),(0,.buf 9 [Rec.D r]),(4,.buf 3 [bw.D r.needs[i]!]),(2,.bld (some 27) (kH r i++(dS r.needs[i]! j++kC r.needs[i]!.when')).length true)]) (hc:=λK' hK=>hB [yu,r.needs[i]!.when'] (kH r i++dS r.needs[i]! j) 2 26 _ _ K' (.inr ⟨3,true,cZ,cZ⟩) ah eB eB (.mk aU lU (du.2 ⟨aU,du.2 ⟨ae,λ_ h=>nomatch h⟩⟩) mX) (by rw[show(kH r i++dS r.needs[i]! j)++cx [yu,r.needs[i]!.when']=kH r i++(dS r.needs[i]! j++kC r.needs[i]!.when')from by rw[hwt,fF]];exact hK)) (hn:=aU) ?_;refine zc ?_ ?_<;>intro hc5
   .refine cN ?_;have hot:xO r.needs[i]!.option=cx [nJ,r.needs[i]!.option]:=ai hc5;refine cC ?_;refine bc [(.str _),(.str _)] ?_;refine dK (nx':=33) (v:=.tup []) (m':=[(35,.row (kH r (i+1))),(0,.buf 9 [Rec.D r]),(4,.buf 3 [bw.D r.needs[i]!]),(2,.bld (some 35) (kH r (i+1)).length true)]) (hc:=λK' hK=>hB [nJ,r.needs[i]!.option] (kH r i++(dS r.needs[i]! j++kC r.needs[i]!.when')) 2 34 _ _ K' (.inr ⟨27,true,cZ,cZ⟩) ah eB eB (.mk aU lU (du.2 ⟨aU,du.2 ⟨ae,λ_ h=>nomatch h⟩⟩) mX) (by rw[show(kH r i++(dS r.needs[i]! j++kC r.needs[i]!.when'))++cx [nJ,r.needs[i]!.option]=kH r (i+1)from by rw[mI ae,hnA,hot];simp only[fF,gF]];exact hK)) (hn:=aU) ?_;refine zg ?_;exact iC (i+1) [(0,0),(2,2),(35,3)]
   refine dI ?_;have hno:xO r.needs[i]!.option=[]:=ak o8;refine zg ?_;exact⟨i+1,ae,ae,(aY.to [(0,0),(2,2),(27,3)] ah ah O9 (by refine bp.vO ah ah ah ?_;refine bp.bl 2 ah ah ah (aw List.length (by rw[mI ae,hnA,hno];simp only[fF,gF])) rfl ?_;refine bp.rw 27 ah ah (by rw[mI ae,hnA,hno];simp only[fF,gF]) ?_;exact bp.nil))⟩
  refine cC ?_;have hnw:kC r.needs[i]!.when'=[]:=ak (by simpa using hc4);refine zc ?_ ?_<;>intro hc5
  .refine cN ?_;have hot:xO r.needs[i]!.option=cx [nJ,r.needs[i]!.option]:=ai hc5;refine cC ?_;refine bc [(.str _),(.str _)] ?_;refine dK (nx':=28) (v:=.tup []) (m':=[(30,.row (kH r (i+1))),(0,.buf 9 [Rec.D r]),(4,.buf 3 [bw.D r.needs[i]!]),(2,.bld (some 30) (kH r (i+1)).length true)]) (hc:=λK' hK=>hB [nJ,r.needs[i]!.option] (kH r i++dS r.needs[i]! j) 2 29 _ _ K' (.inr ⟨3,true,cZ,cZ⟩) ah eB eB (.mk aU lU (du.2 ⟨aU,du.2 ⟨ae,λ_ h=>nomatch h⟩⟩) mX) (by rw[show(kH r i++dS r.needs[i]! j)++cx [nJ,r.needs[i]!.option]=kH r (i+1)from by rw[mI ae,hnA,hot,hnw];simp only[fF,gF]];exact hK)) (hn:=aU) ?_;refine zg ?_;exact iC (i+1) [(0,0),(2,2),(30,3)]
  refine dI ?_;have hno:xO r.needs[i]!.option=[]:=ak o8;refine zg ?_;exact⟨i+1,ae,ae,(aY.to [(0,0),(2,2),(3,3)] ah ah O9 (by refine bp.vO ah ah ah ?_;refine bp.bl 2 ah ah ah (aw List.length (by rw[mI ae,hnA,hno,hnw];simp only[fF,gF])) rfl ?_;refine bp.rw 3 ah ah (by rw[mI ae,hnA,hno,hnw];simp only[fF,gF]) ?_;exact bp.nil))⟩
 refine eX ?_;have h33:i=r.needs.length:=ae;subst h33;refine zg ?_;intro u3;refine gp hm (ι:=Nat) (λi=>[.un,.un,⟨true,.ptr 0 9 0 0⟩,⟨true,.ptr 2 2 0 0⟩,.un,.un,.un,.un,.un,.un,.un,.un,.un,.un,.un,.un,.un,.un,.un,.un,⟨true,.int .i64 (i:Nat)⟩,⟨true,.int .i64 (r.bars.length:Nat)⟩,.un,⟨true,.sl 3 (r.bars.map mM.D)⟩,.un,.un,.un,.un,.un,.un,.un]) (λi=>[(0,.buf 9 [Rec.D r]),(2,.bld (some 3) (D9 r i).length true),(3,.row (D9 r i))]) 10 (λi=>i<=r.bars.length) (λi=>r.bars.length-i) 0 ae (aY.to [(0,0),(2,2),(3,3)] ah ah O9 (by refine bp.vO ah ah ah ?_;refine bp.bl 2 ah ah ah (aw List.length (by rw[Z5])) rfl ?_;refine bp.rw 3 ah ah (by rw[Z5]) ?_;exact bp.nil)) ?_;intro i hi;have q1:=It hft i hi;refine zc ?_ ?_<;>intro hc6
 .refine dI ?_;have q4:=hft.b _ (aq (show i<r.bars.length by omega));have q5:=q4.1;have q6:=q4.2.1.len;have q7:=q4.2.2.len;have hbt:GR r.bars[i]! =cx [zz,r.bars[i]!.name,r.bars[i]!.range]++kC r.bars[i]!.when':=rfl;have hxb:=Ns (r:=r) (i:=i) ae;have w7:=nV q7;refine uQ ?_;refine bc [(.str _),(.str _),(.str _)] ?_;refine dK (nx':=16) (v:=.tup []) (m':=[(20,.row (D9 r i++cx [zz,r.bars[i]!.name,r.bars[i]!.range])),(0,.buf 9 [Rec.D r]),(2,.bld (some 20) (D9 r i++cx [zz,r.bars[i]!.name,r.bars[i]!.range]).length true),(13,.buf 3 [mM.D r.bars[i]!])]) (hc:=λK' hK=>hB [zz,r.bars[i]!.name,r.bars[i]!.range] (D9 r i) 2 19 _ _ K' (.inr ⟨3,true,cZ,cZ⟩) ah eB eB (.mk aU lU (du.2 ⟨aU,du.2 ⟨ae,du.2 ⟨ae,λ_ h=>nomatch h⟩⟩⟩) mX) (by rw[show(D9 r i)++cx [zz,r.bars[i]!.name,r.bars[i]!.range]=D9 r i++cx [zz,r.bars[i]!.name,r.bars[i]!.range]from rfl];exact hK)) (hn:=aU) ?_;refine cC ?_;have w8:(cx [zz,r.bars[i]!.name,r.bars[i]!.range]).length<=2200000:=by unfold cx;simp only[cw,zz,cu,bE,b8];omega
  refine zc ?_ ?_<;>intro hc7
  .refine cN ?_;have hwt:kC r.bars[i]!.when'=cx [yu,r.bars[i]!.when']:=ai hc7;refine cC ?_;refine bc [(.str _),(.str _)] ?_;refine dK (nx':=26) (v:=.tup []) (m':=[(28,.row (D9 r (i+1))),(0,.buf 9 [Rec.D r]),(2,.bld (some 28) (D9 r (i+1)).length true),(13,.buf 3 [mM.D r.bars[i]!])]) (hc:=λK' hK=>hB [yu,r.bars[i]!.when'] (D9 r i++cx [zz,r.bars[i]!.name,r.bars[i]!.range]) 2 27 _ _ K' (.inr ⟨20,true,cZ,cZ⟩) ah eB eB (.mk aU lU (du.2 ⟨aU,du.2 ⟨ae,λ_ h=>nomatch h⟩⟩) mX) (by rw[show(D9 r i++cx [zz,r.bars[i]!.name,r.bars[i]!.range])++cx [yu,r.bars[i]!.when']=D9 r (i+1)from by rw[hxb,hbt,hwt,fF]];exact hK)) (hn:=aU) ?_;refine zg ?_;exact iC (i+1) [(0,0),(2,2),(28,3)]
  refine dI ?_;have hno:kC r.bars[i]!.when'=[]:=ak (by simpa using hc7);refine zg ?_;exact⟨i+1,ae,ae,(aY.to [(0,0),(2,2),(20,3)] ah ah O9 (by refine bp.vO ah ah ah ?_;refine bp.bl 2 ah ah ah (aw List.length (by rw[hxb,hbt,hno,gF])) rfl ?_;refine bp.rw 20 ah ah (by rw[hxb,hbt,hno,gF]) ?_;exact bp.nil))⟩
 refine eX ?_;have h33:i=r.bars.length:=ae;subst h33;refine zg ?_;intro u4;refine gp hm (ι:=Nat) (λi=>[.un,.un,⟨true,.ptr 0 9 0 0⟩,⟨true,.ptr 2 2 0 0⟩,.un,.un,.un,.un,.un,.un,.un,.un,.un,.un,.un,.un,.un,.un,.un,.un,.un,.un,.un,.un,.un,.un,⟨true,.int .i64 (i:Nat)⟩,⟨true,.int .i64 (r.feats.length:Nat)⟩,.un,⟨true,.sl 2 (r.feats.map cn.D)⟩,.un]) (λi=>[(0,.buf 9 [Rec.D r]),(2,.bld (some 3) (Gp r i).length true),(3,.row (Gp r i))]) 10 (λi=>i<=r.feats.length) (λi=>r.feats.length-i) 0 ae (aY.to [(0,0),(2,2),(3,3)] ah ah O9 (by refine bp.vO ah ah ah ?_;refine bp.bl 2 ah ah ah (aw List.length (by rw[Z6])) rfl ?_;refine bp.rw 3 ah ah (by rw[Z6]) ?_;exact bp.nil)) ?_;intro i hi;have q1:=SB hft i hi;refine zc ?_ ?_<;>intro hc8
 .refine dI ?_;have q4:=hft.f _ (aq (show i<r.feats.length by omega));have q5:=q4.1.1;have q6:=q4.2;have q8:∀t∈r.feats[i]!.of,t.length<=2097200:=λt ht=>eR (q4.1.2.2 t ht) aU
  have hxf:=Nt (r:=r) (i:=i) ae;refine qx ?_;refine bc [(.str _),(.str _)] ?_;refine cC ?_;refine rE (zs:=([jZ,r.feats[i]!.name]++r.feats[i]!.of).map D.str) (n:=([jZ,r.feats[i]!.name]++r.feats[i]!.of).length) (ha:=aB) (he:=lW.sl) (hz:=by rw[cR];rfl) (hn:=by simp<;>omega) (hb:=lU) ?_;refine dK (nx':=16) (v:=.tup []) (m':=[(21,.row (Gp r (i+1))),(0,.buf 9 [Rec.D r]),(2,.bld (some 21) (Gp r (i+1)).length true),(13,.buf 2 [cn.D r.feats[i]!])]) (hc:=λK' hK=>hB ([jZ,r.feats[i]!.name]++r.feats[i]!.of) (Gp r i) 2 20 _ _ K' (.inr ⟨3,true,cZ,cZ⟩) ah eB eB (.mk (l:=r.feats[i]!.name::r.feats[i]!.of) aU lU (du.2 ⟨aU,du.2 ⟨ae,q8⟩⟩) mX) (by rw[show(Gp r i)++cx ([jZ,r.feats[i]!.name]++r.feats[i]!.of)=Gp r (i+1)from by rw[hxf];rfl];exact hK)) (hn:=aU) ?_;refine zg ?_;exact iC (i+1) [(0,0),(2,2),(21,3)]
 refine zg ?_;have h33:i=r.feats.length:=ae;subst h33;have hne:Gp r r.feats.length≠[]:=by
  rw[Iu];unfold D7 uZ cx;simp[cw,qj]
 refine dK (nx':=11) (v:=.str (Gp r r.feats.length)) (m':=[(0,.buf 9 [Rec.D r])]) (hc:=λK' hK=>hD _ _ K' ⟨2,Gp r r.feats.length,rfl,.inr ⟨3,true,cZ,cZ⟩,hne,hK⟩) (hn:=aU) ?_;refine zr ?_;exact Iu r
def Ms:aj:=bj 236
def w211 (hA:S6 Y)(hB:C444 Y):IM (cz Y Ms):=λr name rng hp0=>by
 refine zc ?_ ?_<;>intro hc0
 .refine zr ?_;rw[gR,ak hc0]
 refine zc ?_ ?_<;>intro hc1
 .refine zr ?_;rw[gR,ai jN,ak hc1]
 refine zc ?_ ?_<;>intro hc2
 .refine zr ?_;rw[gR,ai jN,ai hc1,ak hc2]
 refine zr ?_;rw[gR,ai jN,ai hc1,ai (by simp[hc2])]
def Mt:aj:=bj 268
def w443 (hA:C211 Y)(hB:S8 Y):uf (cz Y Mt):=λr w al hp0=>by
 refine ID ?_;refine aG (hc:=hA r w.name w.range hp0.1.2) ?_;refine zc ?_ ?_<;>intro hc0
 .refine zr ?_;rw[lG,ak hc0]
 refine zg ?_;intro u0;refine aR (λhc1=>?_) (λhc1=>?_)
 .have hq:(decide (w.feats.length<=6)&&(al ||decide (w.feats.length=0)))=false:=by rw[<-cG,<-aak];exact hc1
  refine zr ?_;rw[lG,ai jN,ak (by unfold nK;rw[hq];rfl)]
 have hq:(decide (w.feats.length<=6)&&(al ||decide (w.feats.length=0)))=true:=by rw[<-dq,<-aak];exact hc1
 refine zg ?_;intro u1;refine zf hm (λi=>[.u 2,.e (.bool al),.u 1,.p 0 9,.p 1 4,.u 3,.i i,.i w.feats.length,.u 1,.m 1 w.feats D.str,.u 3]) (λi=>[(0,.buf 9 [Rec.D r]),(1,.buf 4 [di.D w])]) 30 (λi=>i<=w.feats.length/\nK w.feats al=b9 (wfB w.feats) i w.feats.length) (λi=>w.feats.length-i) ⟨ae,by unfold nK;rw[hq,eu]⟩ [(0,0),(1,1)] ?_;rintro i ⟨hi,hr⟩;refine zc ?_ ?_<;>intro hc2
 .refine iw ?_;refine qo ?_;refine cM (i-1) ?_;refine zg ?_;refine wp_cond (λhc3=>?_) (λhc3=>?_)
  .have hz:wfB w.feats i=false:=by rw[<-cG,<-wf_c];exact hc3
   refine zr ?_;rw[lG,ai jN,ak (by rw[hr,aA ae,hz];rfl)]
  have hz:wfB w.feats i=true:=by rw[<-dq,<-wf_c];exact hc3
  refine gI (i+1) [(0,0),(1,1)] ?_;rw[hr,aA ae,hz];rfl
 refine zr ?_;rw[lG,ai jN,ai (by rw[hr,bI ae];simp)]
def Mq:aj:=bj 235
def w210 (hA:C212 Y)(hB:S8 Y)(hC:C443 Y):tT (cz Y Mq):=λr n hp0=>by
 refine zg ?_;intro u0;refine dN ?_ ?_<;>intro hc0
 .refine zr ?_;rw[jF,ak ae]
 refine zg ?_;intro u1;refine dN ?_ ?_<;>intro hc1
 .refine zr ?_;rw[jF,ai ae,ak ae]
 refine zg ?_;intro u2;refine zf hm (λi=>[.u 3,.p 1 3,.u 2,.i i,.i n.any.length,.u 1,.m 4 n.any di.D,.p 0 9,.u 5]) (λi=>[(0,.buf 9 [Rec.D r]),(1,.buf 3 [bw.D n])]) 15 (λi=>i<=n.any.length/\nL r n.any=fZ (λi=>lG r n.any[i]! (decide ((n.any.length:Int)=1))) i n.any.length) (λi=>n.any.length-i) ⟨ae,rfl⟩ [(0,0),(1,1)] ?_;rintro i ⟨hi,hr⟩;refine zc ?_ ?_<;>intro hc2
 .refine En ?_;intro u3;refine aG (hc:=hC r n.any[i]! _ (hp0.1 _ (aq ae))) ?_;refine zc ?_ ?_<;>intro hc3
  .refine zr ?_;have hw:nL r n.any=lG r n.any[i]! (decide ((n.any.length:Int)=1)):=by rw[hr,lJ ae hc3]
   rw[jF,ai ae,ai ae,ak (by rw[hw];exact hc3),hw]
  refine gI (i+1) [(0,0),(1,1)] ?_;rw[hr,pP ae hc3]
 refine eX ?_;have hw0:nL r n.any=0:=by rw[hr,pO ae]
 refine cC ?_;refine aG (hc:=hA n.when' hp0.2.1) ?_;refine zg ?_;refine aR (λhc4=>?_) (λhc4=>?_)
 .try simp only[gJ]at hc4
  refine zr ?_;rw[jF,ai ae,ai ae,ai me,ak hc4]
 simp only[dq]at hc4;refine zg ?_;refine aR (λhc5=>?_) (λhc5=>?_)
 .try simp only[gJ]at hc5
  refine zr ?_;rw[jF,ai ae,ai ae,ai me,ai (by simp[hc4]),ak hc5]
 simp only[er,dq,aV]at hc5;refine zr ?_;rw[jF,ai ae,ai ae,ai me,ai (by simp[hc4]),ai (by rintro⟨g1,g2⟩;rcases hc5 with h|h;exact g1 h;rw[g2]at h;cases h)]
def Mp:aj:=bj 239
def w214 (hA:C448 Y):IN (cz Y Mp):=λr s hp0=>by
 refine zg ?_;intro u0;refine zf hm (λi=>[.u 3,.p 0 9,.i i,.i r.needs.length,.u 1,.m 3 r.needs bw.D,.i (bP s).1,.u 1,.e (.str (bP s).2.1),.u 4]) (λi=>[(0,.buf 9 [Rec.D r])]) 15 (λi=>i<=r.needs.length/\oe r s=(if(r.needs.drop i).any (itC (bP s).1 (bP s).2.1)=true then 0 else itE (bP s).1)) (λi=>r.needs.length-i) ⟨ae,Xw r s⟩ [(0,0)] ?_;rintro i ⟨hi,hr⟩;refine zc ?_ ?_<;>intro hc0
 .refine iw ?_;refine iw ?_;refine cN ?_;refine cM 0 (hb:=λh=>Kw) ?_;refine cN ?_;refine dd (q:=di.D) (xs:=r.needs[i]!.any) (i:=0) (hi:=λh=>Kw) (v:=(.str r.needs[i]!.any[0]!.name)) ?_;refine zg ?_;refine wp_cond (λhc1=>?_) (λhc1=>?_)
  .have hz:itC (bP s).1 (bP s).2.1 r.needs[i]! =true:=hc1;refine zr ?_;rw[hr,wP ae hz];rfl
  have hz:itC (bP s).1 (bP s).2.1 r.needs[i]! =false:=hc1;refine gI (i+1) [(0,0)] ?_;rw[hr,B2 ae hz]
 refine eX ?_;have he:oe r s=itE (bP s).1:=by rw[hr,wO ae];rfl
 refine zc ?_ ?_<;>intro hc2
 .refine zr ?_;rw[he,itE,ak hc2]
 refine zc ?_ ?_<;>intro hc3
 .refine zr ?_;rw[he,itE,ai hc2,ak hc3]
 refine zr ?_;rw[he,itE,ai hc2,ai hc3]
def OO:aj:=bj 31
def w268 (hA:C25 Y)(hB:C159 Y):IW (cz Y OO):=λw l hp0=>by
 refine zg ?_;intro u0;refine dN ?_ ?_<;>intro hc0
 .refine zr ?_;rw[ord_z ae];rfl
 refine zg ?_;refine zf hm (λu=>[.u 1,.m 1 l (D.int .i64),.u 2,.i u,.p 1 1,.u 11,.o 0 1 (p8 w.us l u).length]) (λu=>[(0,.buf 1 ((p8 w.us l u).map jS)),(1,.buf 1 [bR.D w])]) 7 (λu=>u<=w.us.length) (λu=>w.us.length-u) ae [(0,1)] ?_;intro u hu;have hol:=Ug w.us l u;refine zg ?_;intro u1;refine dN ?_ ?_<;>intro hc1
 .refine kF ?_;have hu16:=(hp0.1 _ (aq (show u<w.us.length by omega))).1;refine zk17 ?_;intro u2;obtain⟨hk0,hk1⟩:=c9 (atI l ((u:Nat):Int)) 24 aU;rw[show bo (atI l ((u:Nat):Int)) 24=jA w.us l u from rfl]at hk0 hk1⊢;refine zg ?_;refine zf hm (λi=>[.u 1,.m 1 l (D.int .i64),.u 2,.i u,.p 1 1,.u 1,.i i,.i (w.us[u]!.cands.length:Nat),.i ((jA w.us l u)),.u 2,.o 2 1 (kE w.us[u]!.cands.length (jA w.us l u) i).length,.u 4,.o 0 1 (p8 w.us l u).length]) (λi=>[(0,.buf 1 ((p8 w.us l u).map jS)),(1,.buf 1 [bR.D w]),(2,.buf 1 ((kE w.us[u]!.cands.length (jA w.us l u) i).map (D.int .i64)))]) 27 (λi=>i<=xP w.us[u]!.cands.length (jA w.us l u)) (λi=>w.us[u]!.cands.length-i) ae [(0,0),(1,1)] ?_;intro i hi;have hoc:xP w.us[u]!.cands.length (jA w.us l u)<=w.us[u]!.cands.length:=by unfold xP;omega
  have hil:=Ma (n:=w.us[u]!.cands.length) (k:=(jA w.us l u)) i;refine qx ?_;refine Aq ((jA w.us l u)%5) (hn:=λ_=>aU) (hb:=λ_=>ZE hk0) ?_;refine zc ?_ ?_<;>intro hc2
  .refine dI ?_;have hvb:=aj3 (i:=i) (k:=(jA w.us l u)) ae;refine cC ?_;refine Aq ((jA w.us l u)%3) (hn:=λ_=>aU) (hb:=λ_=>ZE hk0) ?_;refine cN ?_;refine xX (hb:=ae) ?_;refine dI ?_;refine Aq (E2 w.us[u]!.cands.length (jA w.us l u) i) (hn:=λ_=>ae) (hb:=λ_=>ZE ae) ?_;refine zg ?_;refine zf hm (λj=>[.u 1,.m 1 l (D.int .i64),.u 2,.i u,.p 1 1,.u 1,.i i,.i (w.us[u]!.cands.length:Nat),.i ((jA w.us l u)),.u 1,.i j,.o 2 1 (kE w.us[u]!.cands.length (jA w.us l u) i).length,.u 1,.e (.bool (oK (λk=>decide ((kE w.us[u]!.cands.length (jA w.us l u) i)[k]! =(E2 w.us[u]!.cands.length (jA w.us l u) i))) 0 j)),.i ((E2 w.us[u]!.cands.length (jA w.us l u) i)),.u 1,.o 0 1 (p8 w.us l u).length]) (λj=>[(0,.buf 1 ((p8 w.us l u).map jS)),(1,.buf 1 [bR.D w]),(2,.buf 1 ((kE w.us[u]!.cands.length (jA w.us l u) i).map (D.int .i64)))]) 48 (λj=>j<=(kE w.us[u]!.cands.length (jA w.us l u) i).length) (λj=>(kE w.us[u]!.cands.length (jA w.us l u) i).length-j) ae [(0,0),(1,1),(2,2)] ?_;intro j hj;refine zg ?_;intro _;refine dN ?_ ?_<;>intro hc3
   .refine qx ?_;refine oX (q:=D.int .i64) (xs:=(kE w.us[u]!.cands.length (jA w.us l u) i)) (v:=.int .i64 (kE w.us[u]!.cands.length (jA w.us l u) i)[j]!) (hi:=λ_=>ae) (hv:=λ_=>uD) ?_;refine zg ?_;rw[Xa ae];exact iC (j+1) [(0,0),(1,1),(2,2)]
   refine cC ?_;obtain rfl:j=(kE w.us[u]!.cands.length (jA w.us l u) i).length:=ae;refine zc ?_ ?_<;>intro hc4
   .refine dI ?_;refine bc [.int .i64 (E2 w.us[u]!.cands.length (jA w.us l u) i)] ?_;refine cL (q:=D.int .i64) (xs:=(kE w.us[u]!.cands.length (jA w.us l u) i)) (e:=(E2 w.us[u]!.cands.length (jA w.us l u) i)) (hb:=ae) ?_;refine zg ?_;rw[aj0 hc4];refine zl (i+1) [(0,0),(1,1),(57,2)] ?_;exact(by unfold xP;omega)
   refine zg ?_;rw[ajZ hc4];refine zl (i+1) [(0,0),(1,1),(2,2)] ?_;exact(by unfold xP;omega)
  refine cC ?_;obtain rfl:i=xP w.us[u]!.cands.length (jA w.us l u):=by unfold xP at hi⊢;omega
  rw[show kE w.us[u]!.cands.length (jA w.us l u) (xP w.us[u]!.cands.length (jA w.us l u))=E1 w.us l u from rfl]at hil⊢;refine bm 2 ?_ (he:=Km) (hm:=Km);refine dI ?_;refine bc [jS (E1 w.us l u)] ?_;refine cL (q:=jS) (xs:=(p8 w.us l u)) (e:=E1 w.us l u) (hb:=ae) ?_;refine zg ?_;rw[adO];exact iC (u+1) [(39,0),(1,1)]
 refine cC ?_;obtain rfl:u=w.us.length:=ae;rw[<-ord_e ae];refine bm 0 ?_ (he:=Km) (hm:=Km);exact mK
def qL:aj:=bj 27
def w266 (hm:(Y.at 1).cb)(hA:GH (Y.at 1))(hB:C110 (Y.at 1))(hC:C111 (Y.at 1))(hD:C112 (Y.at 1))(hE:C503 (Y.at 1))(hF:C504 (Y.at 1))(g:Gs)(l:List bM)(hp0:0<=g.i/\g.i<=960000)(hp1:jl l/\1<=l.length/\l.length<=100):dx (Y.at 1) qL.body (GL qL 2 (.sl 2 ((lR g l).1.map bM.D)) (Gs.D (lR g l).2):Ex->List ba->St->Prop) (fU qL (.ptr 0 2 0 0::[.sl 2 (l.map bM.D)])) ⟨1,[(0,.buf 2 [(Gs.D g)])]⟩:=by
 show dx _ _ _ [⟨true,.ptr 0 2 0 0⟩,⟨true,.sl 2 (l.map bM.D)⟩,.un,.un,.un,.un,.un,.un,.un,.un,.un,.un,.un,.un] ⟨1,[(0,.buf 2 [(Gs.D g)])]⟩;refine aQ ?_;refine dI ?_;obtain⟨hsh,hl1,hl2⟩:=hp1;have rk:=g.eQ l.length ae;have r1:=g.aS.eQ 4 ae;have r2:=g.aS.aS.eQ 4 ae;have hk:g.val l.length=(((kG g l):Nat):Int):=by unfold kG;omega
 have hkl:(kG g l)<l.length:=by unfold kG;omega
 refine dI ?_;intro u0;refine dj (hc:=hA g l.length ae ae) ?_;refine kI ?_;refine dj (hc:=hA g.aS 4 ae iK) ?_;refine cM (g.aS.val 4).toNat (hj:=λ_=>ae) (hb:=λ_=>pF) ?_;refine Dm (v:=.str cI[(g.aS.val 4).toNat]!) (hi:=λ_=>pF) ?_;refine cC ?_;refine dj (hc:=hA g.aS.aS 4 ae iK) ?_;refine cM (g.aS.aS.val 4).toNat (hj:=λ_=>ae) (hb:=λ_=>by simp[bJ];omega) ?_;refine dd (v:=ca.D bJ[(g.aS.aS.val 4).toNat]!) (hi:=λ_=>by simp[bJ];omega) ?_;refine cC ?_;refine bY (ca.D (vrG g)) (he:=cZ) ?_;refine cN ?_;refine bm 17 ?_ (he:=aaJ) (hm:=aaJ);refine cC ?_;refine qU (ys:=l.map bM.D) (n:=l.length) (he:=lW.sl) (hn:=aB) (hb:=ae) ?_;refine kI ?_;refine dj (hc:=hA g.aS.aS.aS 6 ae iK) ?_;refine zc ?_ ?_<;>intro hc0
 .refine kF ?_;refine Dm (v:=bM.D l[(kG g l)]!) (hi:=λ_=>ae) ?_;refine cN ?_;refine Pf (v:=ca.D (vrG g)) ?_;refine cN ?_;refine dj (hc:=hA g.aS.aS.aS.aS 3 ae iK) ?_;refine cN ?_;refine aG (hc:=hE l[(kG g l)]! (nmG g) (vrG g) (decide (0<g.aS.aS.aS.aS.val 3)) ⟨G8 hsh _,tK _⟩) ?_;refine eX ?_;refine bY (bM.D (Vj g l).1) (he:=cZ) ?_;refine zc ?_ ?_<;>intro hc1
  .refine kI ?_;refine lD ((l.set (kG g l) (Vj g l).1).map bM.D) (hi:=lj) (he:=Im ae rfl) ?_;refine cC ?_;rw[show D.own 21 2 0 l.length=D.own 21 2 0 (l.set (kG g l) (Vj g l).1).length from by rw[List.length_set]];refine eX ?_;refine bm 21 ?_;refine zg ?_;refine ja trivial jC (dm ah (?_)) (by rw[YM hc0 hc1];exact rfl) ah ah;rw[YM hc0 hc1];rfl
  refine kF ?_;refine bm 21 ?_;refine zg ?_;refine ja trivial jC (dm ah (?_)) (by rw[YN hc0 hc1];exact rfl) ah ah;rw[YN hc0 hc1];rfl
 refine kF ?_;refine Dm (v:=bM.D l[(kG g l)]!) (hi:=λ_=>ae) ?_;refine dI ?_;refine dj (hc:=hB g.aS.aS.aS.aS (nmG g) (vrG g) 2 Kv aU) ?_;refine aG (hc:=hF l[(kG g l)]! (rcG g).1 ⟨G8 hsh _,Zo _ (y6 _) (tK _)⟩) ?_;refine eX ?_;refine bY (bM.D (Vh g l).1) (he:=cZ) ?_;refine zc ?_ ?_<;>intro hc2
 .refine kI ?_;refine lD ((l.set (kG g l) (Vh g l).1).map bM.D) (hi:=lj) (he:=Im ae rfl) ?_;refine cN ?_;rw[show D.own 21 2 0 l.length=D.own 21 2 0 (l.set (kG g l) (Vh g l).1).length from by rw[List.length_set]];refine eX ?_;refine bm 21 ?_;refine zg ?_;refine ja trivial jC (dm ah (?_)) (by rw[YO hc0 hc2];exact rfl) ah ah;rw[YO hc0 hc2];rfl
 refine kI ?_;refine bm 21 ?_;refine zg ?_;refine ja trivial jC (dm ah (?_)) (by rw[YP hc0 hc2];exact rfl) ah ah;rw[YP hc0 hc2];rfl
def pz:aj:=bj 151
def w755 (hm:(Y.at 3).cb)(y:cF)(ns:List au)(nm:au)(hA:C909 (Y.at 3))(hp0:pG y)(hp1:ns.length<=1000):dx (Y.at 3) pz.body (uG pz (KG y (eV ns nm) (uM (dL y nm))):Ex->List ba->St->Prop) (fU pz [cF.D y (.ptr 0 2 0 0),.str nm]) ⟨3,[(0,.buf 2 [eO 1 2 ns.length]),(1,.buf 1 (ns.map D.str)),(2,.buf 1 (dp y ns))]⟩:=by
 show dx _ _ _ [⟨true,cF.D y (.ptr 0 2 0 0)⟩,⟨true,.str nm⟩,.un,.un,.un,.un,.un,.un] ⟨3,[(0,.buf 2 [eO 1 2 ns.length]),(1,.buf 1 (ns.map D.str)),(2,.buf 1 (dp y ns))]⟩;refine aQ ?_;refine zg ?_;refine zf hm (λi=>[.u 1,.e (.str nm),.u 1,.i i,.p 3 8,.u 3]) (λi=>[(0,.buf 2 [eO 1 2 ns.length]),(1,.buf 1 (ns.map D.str)),(2,.buf 1 (dp y ns)),(3,.buf 8 [cF.D y (.ptr 0 2 0 0)])]) 6 (λi=>i<=ns.length/\∀j,j<i->ns[j]! ≠nm) (λi=>ns.length-i) ⟨ae,λj h=>ae⟩ [(3,3)] ?_;rintro i ⟨hi,hr⟩;refine zg ?_;intro _;refine dN ?_ ?_<;>intro hc0
 .refine uQ ?_;refine oX (q:=D.str) (xs:=ns) (v:=.str ns[i]!) (hi:=λ_=>ae) (hv:=λ_=>uD) ?_;refine zc ?_ ?_<;>intro hc1
  .refine qx ?_;refine oX (q:=λnm=>uM (dL y nm)) (xs:=ns) (v:=uM (dL y ns[i]!)) (hi:=λ_=>ae) (hv:=λ_=>uD) ?_;refine cN ?_;refine bB (env':=[_,_,⟨_,(.sl _ _)⟩,_,_,_,_,_]) ?_;refine zg ?_;refine ei trivial jC (dm ah (?_)) ah ⟨by first|(rw[<-hc1];done)|(rw[<-hc1];exact rfl),1,2,⟨ae,ae,ae⟩,by rw[abQ ae hc1];refine⟨?_, ?_, ?_⟩<;>first|exact rfl|(rw[nB];exact rfl)|(rw[nA];exact rfl)⟩;rfl
  refine gI (i+1) [(3,3)] ?_;exact λj h=>by rcases Nat.lt_succ_iff_lt_or_eq.1 h with h|rfl;exact hr j h;exact hc1
 refine dI ?_;have hout:=VW (ns:=ns) (nm:=nm) λj h=>hr j ae
 refine cC ?_;refine dK (nx':=16) (v:=uM (dL y nm)) (m':=[(16,.buf 1 ((ns).map D.str)),(17,.buf 1 (dp y (ns))),(0,.buf 2 [eO 16 17 (ns).length]),(3,.buf 8 [cF.D y (.ptr 0 2 0 0)])]) (hc:=λK' hK=>hA y ns nm hp0 _ 0 1 2 _ K' eB eB eB aU ⟨rfl,rfl,rfl⟩ hK) (hn:=aU) ?_;refine cN ?_;refine bB (env':=[_,_,_,_,_,_,_,⟨_,(.sl _ _)⟩]) ?_;refine cC ?_;refine Y8 (v:=.ptr 0 2 0 0) ?_;refine cN ?_;refine Y8 (v:=.ptr 0 2 0 0) ?_;refine kF ?_;refine bc [.str nm] ?_;refine cL (q:=D.str) (xs:=ns) (e:=nm) (hb:=ae) ?_;refine cN ?_;refine zj (v:=.ptr 0 2 0 0) ?_;refine cC ?_;refine zj (v:=.own 17 1 0 ns.length) ?_;refine cN ?_;refine bc [uM (dL y nm)] ?_;refine cL (q:=λnm=>uM (dL y nm)) (xs:=ns) (e:=nm) (hb:=ae) ?_;refine cC ?_;refine afC (.agg [.own 31 1 0 (ns++[nm]).length,.own 17 1 0 ns.length]) ?_;refine cC ?_;refine afC (eO 31 39 (ns++[nm]).length) ?_;refine zg ?_;refine ei trivial jC (dm ah (?_)) ah ⟨cZ,31,39,⟨ae,ae,ae⟩,by rw[hout];refine⟨?_, ?_, ?_⟩<;>first|exact rfl|(rw[nB];exact rfl)|(rw[nA];exact rfl)⟩;rfl
def Px:aj:=bj 58
def w360 (hA:Vn Y)(hB:C581 Y):I5 (cz Y Px):=λl hp0=>by
 refine cN ?_;have hya:=yw hp0;refine bK ?_;refine bK ?_;refine bB (env':=[_,⟨_,.aL⟩,⟨_,(.int _ _)⟩,_,_,_,_,_,_,_,_,_,_]) ?_;refine gh ?_;refine aQ ?_;refine bK ?_;refine aG (hc:=hA (l) (by first|assumption|omega)) ?_;refine bK ?_;refine kY (.int _ _) ?_;refine kY (.int _ _) ?_;refine bK ?_;refine bK ?_;refine bB (env':=[_,_,_,⟨_,(.int _ _)⟩,_,_,_,_,_,_,_,_,_]) ?_;refine gh ?_;refine aQ ?_;refine bK ?_;refine po ?_;refine bB (env':=[_,_,_,_,⟨_,(.bool _)⟩,_,_,_,_,_,_,_,_]) ?_;refine dN ?_ ?_<;>intro hc0
 .exact absurd trivial hc0
 refine dI ?_;refine bB (env':=[_,_,_,_,_,_,_,_,_,⟨_,.aL⟩,_,_,_]) ?_;refine iu (aY.nz _ [_,_,_,_,_,_,_,_,_,⟨true,.sl 2 []⟩,_,_,_] _ _ _ ⟨⟨rfl,.refl _⟩,⟨rfl,.refl _⟩,⟨rfl,.refl _⟩,⟨rfl,.refl _⟩,⟨rfl,.refl _⟩,⟨rfl,.refl _⟩,⟨rfl,.refl _⟩,⟨rfl,.refl _⟩,⟨rfl,.refl _⟩,⟨rfl,.nil 2⟩,⟨rfl,.refl _⟩,⟨rfl,.refl _⟩,⟨rfl,.refl _⟩,trivial⟩ QI.nil) ?_;refine dI ?_;refine bB (env':=[_,_,_,_,_,⟨_,(.int _ _)⟩,_,_,_,_,_,_,_]) ?_;refine zf hm (λi=>[.m 11 l hR.D,.u 4,.i i,.u 3,.m 2 ((gN l).take (if i=0 then 0 else(gN l).length)) iN.D,.u 3]) (λi=>[]) 13 (λi=>i<=l.length) (λi=>l.length-i) ae [] ?_;intro i hi;refine zg ?_;intro u0;refine dN ?_ ?_<;>intro hc1
 .refine dI ?_;obtain rfl:i=0:=by have:=hya.1;omega
  obtain⟨hyp1,hyp2,hyp3,hyp4⟩:=tN hp0 (i:=0) ae;rw[ak rfl];refine zg ?_;refine zfL hm (λk=>[.m 11 l hR.D,.u 4,.i 0,.u 1,.i k,.u 1,.m 2 ((gN l).take k) iN.D,.u 3]) (λk=>[]) 18 (λk=>k<=(gN l).length) (λk=>(gN l).length-k) ae [] ?_;intro k hk;refine qo ?_;refine dd (v:=.sl 2 ((gN l).map iN.D)) (hi:=λ_=>ae) ?_;refine zg ?_;intro u1;refine dN ?_ ?_<;>intro hc2
  .refine dI ?_;have hk0:k=0:=by have:(gN l).length<=1:=hyp3;omega
   have hpp:=YC hk0 (l:=gN l) ae;refine kI ?_;refine dd (v:=.sl 2 ((gN l).map iN.D)) (hi:=λ_=>ae) ?_;refine zc ?_ ?_<;>intro hc3
   .exfalso;rw[hpp]at hc3;exact absurd hc3 aB
   refine zg ?_;rw[hpp];exact iC (k+1) []
  refine zg ?_;obtain rfl:k=(gN l).length:=ae;exact iC (0+1) []
 refine zr ?_;rw[ai (by have:=hya.1;omega),List.take_length];rfl
def Uw:aj:=⟨2,8,[⟨2,none⟩,⟨3,none⟩],[[.sl 2 [.a,.a]],[.a]],(sq (rg [gb 2 s1,gm (.c (.aL)),gm cbF] [(5,0),(2,1),(3,2)]) (sq (r1 [gm yE] 4 0) (sq (.block 0 (.loop (sq (sq (r2 [gm s4,gm s0,gl l1,ou l0 l2,gm l3,gmt 4 s0,gmt 4 s4,A2 4 (.ia 2 l5 l6),Ri 4 0 l7,gdt 4 l8,Ri 4 0 s5,gdt 4 l10,A2 4 (ae6 l9 l11),ga1 l4 l12] 6 13) (gce s6 0)) (.block 1 (r1 [gm s4,qP l0 TN,gm l1] 4 2))))) (sq (sq (r2 [gm s4,gm s0,gl l1,ou l0 l2,gm l3,gmt 4 s0,gmt 4 s4,A2 4 (.ia 2 l5 l6),Ri 4 0 l7,gdt 4 l8,Ri 4 0 s5,gdt 4 l10,A2 4 (zP l9 l11),ga1 l4 l12] 7 13) (.cond s7 (sq (rt [gm s0,gm s0,gm s4,ga 2 l1 l2,gk 2 true l3,gk 2 true s5,gn (.eqA false true [.s,.s] l4 l5),gm l0,gm l6] [(2,7),(3,8)]) .ret) .skip)) (sq (rt [gm s0,gm s4,gn (.slA 2 l0 none (some l1)),gn (.appN 2 l2),gk 2 true s5,gn (.bsl 2 (.agg [.str [],.str []]) 1 [(0,l4)]),gn (.app 2 l3 l5),gm s0,gm s4,gn (.slA 2 l7 (some l8) none),gn (.app 2 l6 l9),gm l10,gm cbT] [(2,11),(3,12)]) .ret)))))⟩
def w581:Jz (cz Y Uw):=λl p hp0=>by
 refine zg ?_;refine zf hm (λi=>[.m 2 l iN.D,.u 3,.i i,.p 0 2,.u 2]) (λi=>[(0,.buf 2 [iN.D p])]) 4 (λi=>i<=l.length/\lP.kPin l p 0=lP.kPin l p i) (λi=>l.length-i) ⟨ae,rfl⟩ [(0,0)] ?_;rintro i ⟨hi,hr⟩;refine zc ?_ ?_<;>intro hc0
 .refine gI (i+1) [(0,0)] ?_;rw[hr,TU ae hc0.2]
 refine eX ?_;have hk:lP.kPin l p 0=i:=by rw[hr];exact TV (λh=>by rcases hc0 with h1|h1;omega;exact h1)
 refine zc ?_ ?_<;>intro hc1
 .refine zr ?_;unfold lP;rw[hk,ak ⟨ae,hc1.2⟩];rfl
 refine kI ?_;refine xU (he:=lW.sl) (n:=(l.take i).length) (hn:=aB) (hb:=zM) ?_;refine cN ?_;refine bc [iN.D p] ?_;refine cL (q:=iN.D) (xs:=l.take i) (e:=p) (hb:=zM) ?_;refine dI ?_;refine pk (xs:=l.take i++[p]) (ys:=l.drop i) (he:=lW.sl) (hb:=Qx) ?_;refine dI ?_;refine bm 42 ?_;refine zr ?_;unfold lP;rw[hk,ai S3];rfl
def XO:aj:=bj 37
def w315 (hA:C138 Y)(hB:C553 Y):IZ (cz Y XO):=λl hp0=>by
 refine zg ?_;intro u0;refine zf hm (λi=>[.u 2,.p 0 4,.i i,.i l.lines.length,.u 1,.m 9 l.lines dr.D,.u 3]) (λi=>[(0,.buf 4 [kD.D l])]) 6 (λi=>i<=l.lines.length/\b9 (xq l.lines) 0 l.lines.length=b9 (xq l.lines) i l.lines.length) (λi=>l.lines.length-i) ⟨ae,rfl⟩ [(0,0)] ?_;rintro i ⟨hi,hr⟩;refine zc ?_ ?_<;>intro hc0
 .refine qx ?_;refine bY _ ?_;refine dI ?_;refine bg (dr.D l.lines[i]!) ?_;refine aG (hc:=hB l.lines[i]! (hp0.2.1 _ (aq ae))) ?_;refine yx ?_;refine cM (i-1) ?_;refine zc ?_ ?_<;>intro hc1
  .refine zr ?_;have hz:xq l.lines i=false:=by
    simp only[xq];revert hc1;generalize Ho l.lines[i]! =z0;generalize Op.bytesLess l.lines[i-1]!.name l.lines[i]!.name=z1;by_cases e0:0<i<;>cases z0<;>cases z1<;>simp_all
   simp only[LF];rw[hr,aA ae,hz];simp
  refine zg ?_;have hz:xq l.lines i=true:=by
   simp only[xq];revert hc1;generalize Ho l.lines[i]! =z0;generalize Op.bytesLess l.lines[i-1]!.name l.lines[i]!.name=z1;by_cases e0:0<i<;>cases z0<;>cases z1<;>simp_all
  refine gI (i+1) [(0,0)] ?_;rw[hr,aA ae,hz];rfl
 refine zr ?_;simp only[LF];rw[hr,bI ae,gG];have h9:decide ((l.lines.length:Int)<=48)=decide (l.lines.length<=48):=lT.2 ae;rw[h9]
def UG:aj:=bj 157
def w381:I6 (cz Y UG):=λn hp0=>by
 refine cN ?_;obtain⟨j,rfl⟩:∃j:Nat,n=(j:Int):=⟨n.toNat,ae⟩
 simp only[Int.toNat_natCast];refine zg ?_;refine zf hm (λi=>[.i j,.u 1,.i i,.u 1,.i ((2^i))]) (λi=>[]) 3 (λi=>i<=j) (λi=>j-i) ae [] ?_;intro i hi;have hpb:=FU (k:=i) ae;have hpp:=qa i;refine zc ?_ ?_<;>intro hc0
 .refine eX ?_;refine xX (hb:=ae) ?_;refine zg ?_;rw[show(2:Int)^i*2=2^(i+1)from(Int.pow_succ 2 i).symm];exact iC (i+1) []
 refine cC ?_;obtain rfl:i=j:=ae;exact mK
def PM:aj:=bj 107
def w158 (hm:(Y.at 0).cb)(hA:C381 Y):II (cz Y PM):=λw u hp0=>by
 refine zc ?_ ?_<;>intro hc0
 .refine zr ?_;unfold n9;rw[ak ae]
 refine cC ?_;obtain⟨j,rfl⟩:∃j:Nat,u=(j:Int):=⟨u.toNat,ae⟩
 have hjl:j<w.us.length:=ae;have hju:=(hp0 _ (aq hjl)).1;have hpb:=FU (k:=w.us[j]!.cands.length+1) ae;have hpp:=qa (w.us[j]!.cands.length+1);refine qo ?_;intro u0;refine r_mn ((w.us[j]!.cands.length:Nat):Int) (hv:=λ_=>ai ae) ?_;refine cC ?_;refine BN (hb:=by simp only[Int.toNat_natCast,show(((w.us[j]!.cands.length:Nat):Int)+1).toNat=w.us[j]!.cands.length+1 from rfl];omega) ?_;refine zr ?_;unfold n9;rw[ai ae];rfl
def H3:aj:=bj 226
def w1012 (hm:(Y.at 0).cb)(hA:Vn Y)(hB:C356 Y):Ep (cz Y H3):=λl nm hp0=>by
 refine cN ?_;refine bK ?_;refine bB (env':=[_,_,⟨_,(.int _ _)⟩,_,_]) ?_;refine gh ?_;refine aQ ?_;refine bK ?_;refine aG (hc:=hA (l) (by first|assumption|omega)) ?_;refine bK ?_;refine kY (.int _ _) ?_;refine kY (.int _ _) ?_;refine bK ?_;refine bK ?_;refine bB (env':=[_,_,_,⟨_,(.int _ _)⟩,_]) ?_;refine gh ?_;refine aQ ?_;refine bK ?_;refine po ?_;refine bB (env':=[_,_,_,_,⟨_,(.bool _)⟩]) ?_;refine dN ?_ ?_<;>intro hc0
 .exact absurd trivial hc0
 refine kF ?_;refine bB (env':=[_,_,⟨_,(.int _ _)⟩,_,_]) ?_;exact mK
def Pu:aj:=bj 288
def w1120 (hA:GJ Y):Ey (cz Y Pu):=λl=>by
 refine zg ?_;refine zf hm (λi=>[.m 2 l iN.D,.u 1,.i i,.u 2]) (λi=>[]) 2 (λi=>i<=l.length/\Al l=b9 (λi=>decide (Mf l i=0)) i l.length) (λi=>l.length-i) ⟨ae,rfl⟩ [] ?_;rintro i ⟨hi,hr⟩;refine zg ?_;intro u0;refine dN ?_ ?_<;>intro hc0
 .refine iw ?_;refine ID ?_;refine cM ((i-1)) (hj:=λhf=>cv) (hb:=λhf=>cv) ?_;refine zc ?_ ?_<;>intro hc1
  .refine zr ?_;rw[hr,aA ae,YA (by rcases hc1 with(h|h)|⟨h,h2⟩<;>simp_all)];rfl
  refine gI (i+1) [] ?_;rw[hr,aA ae,Uj (by rintro((h|h)|⟨h,h2⟩)<;>simp_all)];rfl
 refine zr ?_;rw[hr,bI ae]
def Mz:aj:=bj 59
def w361 (hm:(Y.at 0).cb)(hA:C359 Y):uc (cz Y Mz):=λl nm=>by
 exact mK
end Go.Abs
end
