/- A part of the proofs. -/
import Derived.Test.YtgdpmljblomcfaaGreatDoorP04
set_option linter.all false
set_option maxRecDepth 60000
set_option maxHeartbeats 2000000
noncomputable section
namespace Go.Abs
variable {Y:Ctx}(hm:(Y.at 0).bR)
def L2:aj:=bc 208
def w215 (hA:C242 Y)(hB:C450 Y)(hC:C451 Y)(hD:C452 Y):tL (cu Y L2):=fun r hp0=>by
 show dp _ _ _ [⟨_,_⟩,_,_,_,_,_,_,_,_,_,_,_,_,_,_,_,_,_,_,_,_,_,_,_,_,_,_,_,_,_,_] _;have hft:=tn hp0;have q0:=hft.nm;have q00:=Eb r.v hft.v;have hs:=hp0.2;refine aO ?_;refine Bo ?_;refine aB (hc:=hC r.v hft.v) ?_;refine ba [(.str _),(.str _),(.str _)] ?_;refine dC (nx':=4) (v:=.tup []) (m':=[(9,.row (uS r)),(0,.buf 9 [Rec.D r]),(2,.bld (some 9) (uS r).length true)]) (hc:=fun K' hK=>hB [qe,r.name,uI r.v] ([]) 2 8 _ _ K' (.inl ⟨false,cW,rfl⟩) ah ep ep (.mk aT lK (dr.2 ⟨aT,dr.2 ⟨ae,dr.2 ⟨ae,fun _ h=>nomatch h⟩⟩⟩) mJ) (by rw[show([])++cw [qe,r.name,uI r.v]=uS r from rfl];exact hK)) (hn:=aT) ?_;refine zg ?_;intro u0;refine fP hm (ι:=Nat) (fun i=>[.un,.un,⟨true,.ptr 0 9 0 0⟩,⟨true,.ptr 2 2 0 0⟩,⟨true,.int .i64 (i:Nat)⟩,⟨true,.int .i64 (r.needs.length:Nat)⟩,.un,⟨true,.sl 3 (r.needs.map br.D)⟩,.un,.un,.un,.un,.un,.un,.un,.un,.un,.un,.un,.un,.un,.un,.un,.un,.un,.un,.un,.un,.un,.un,.un]) (fun i=>[(0,.buf 9 [Rec.D r]),(2,.bld (some 3) (ku r i).length true),(3,.row (ku r i))]) 10 (fun i=>i<=r.needs.length) (fun i=>r.needs.length-i) 0 ae (aV.to [(0,0),(2,2),(9,3)] ah ah OQ (by refine bo.vI ah ah ah ?_;refine bo.bl 2 ah ah ah (aw List.length (by rw[Zy])) rfl ?_;refine bo.rw 9 ah ah (by rw[Zy]) ?_;exact bo.nil)) ?_;intro i hi;have q1:=Ig hft i hi;refine zc ?_ ?_<;>intro hc0
 .refine dx ?_;have hnf:=hft.n _ (aq (show i<r.needs.length by omega));have hn3:=hnf.1.1;refine jS ?_;refine ba [(.str _)] ?_;refine dC (nx':=16) (v:=.tup []) (m':=[(16,.row (ku r i++dP r.needs[i]! 0)),(0,.buf 9 [Rec.D r]),(2,.bld (some 16) (ku r i++dP r.needs[i]! 0).length true),(13,.buf 3 [br.D r.needs[i]!])]) (hc:=fun K' hK=>hB [Gm] (ku r i) 2 15 _ _ K' (.inr ⟨3,true,cW,cW⟩) ah ep ep (.mk aT lK (dr.2 ⟨aT,fun _ h=>nomatch h⟩) mJ) (by rw[show(ku r i)++cw [Gm]=ku r i++dP r.needs[i]! 0 from rfl];exact hK)) (hn:=aT) ?_;refine zg ?_;intro u1;refine zf hm (fun j=>[.u 2,.p 0 9,.p 2 2,.i i,.i r.needs.length,.u 1,.m 3 r.needs br.D,.p 4 3,.i j,.i (r.needs[i]!.any.length:Nat),.u 1,.m 4 (r.needs[i]!.any) de.D,.u 18]) (fun j=>[(0,.buf 9 [Rec.D r]),(4,.buf 3 [br.D r.needs[i]!]),(2,.bld (some 3) (ku r i++dP r.needs[i]! j).length true),(3,.row (ku r i++dP r.needs[i]! j))]) 20 (fun j=>j<=r.needs[i]!.any.length) (fun j=>r.needs[i]!.any.length-j) ae [(0,0),(13,4),(2,2),(16,3)] ?_;intro j hj;have q2:=FD hnf j ae;refine zc ?_ ?_<;>intro hc1
  .refine dx ?_;have hwf:=hnf.1.2 _ (aq (show j<r.needs[i]!.any.length by omega));have q3:=Io hwf;have q4:=hwf.1.1.1;have q5:=hwf.1.1.2.len;refine zg ?_;intro u2;refine dE ?_ ?_<;>intro hc2
   .refine dx ?_;refine aB (hc:=hA r.needs[i]!.any[j]!.feats [44] (by have:=hwf.2.1;omega) aT (fun t ht=>by have:=hwf.2.2 t ht;omega)) ?_;refine zc ?_ ?_<;>intro hc3
    .refine ez ?_;have hwl:cw [rK,r.needs[i]!.any[j]!.name,(cv [44] r.needs[i]!.any[j]!.feats),rE,r.needs[i]!.any[j]!.range]=jR r.needs[i]!.any[j]! :=by
      unfold jR sU;first|rw[ak (show r.needs[i]!.any[j]!.feats.length=0 by omega)]|rw[ai (show ¬r.needs[i]!.any[j]!.feats.length=0 by omega)]
      rw[hc3];rfl
     have hwj:=n9 (n:=r.needs[i]!) (j:=j) ae;refine jS ?_;refine ba [(.str _),(.str _),(.str _),(.str _),(.str _)] ?_;refine dC (nx':=39) (v:=.tup []) (m':=[(45,.row (ku r i++dP r.needs[i]! (j+1))),(0,.buf 9 [Rec.D r]),(4,.buf 3 [br.D r.needs[i]!]),(2,.bld (some 45) (ku r i++dP r.needs[i]! (j+1)).length true),(23,.buf 4 [de.D r.needs[i]!.any[j]!])]) (hc:=fun K' hK=>hB [rK,r.needs[i]!.any[j]!.name,(cv [44] r.needs[i]!.any[j]!.feats),rE,r.needs[i]!.any[j]!.range] (ku r i++dP r.needs[i]! j) 2 44 _ _ K' (.inr ⟨3,true,cW,cW⟩) ah ep ep (.mk aT lK (dr.2 ⟨aT,dr.2 ⟨ae,dr.2 ⟨by first|omega|decide,dr.2 ⟨aT,dr.2 ⟨ae,fun _ h=>nomatch h⟩⟩⟩⟩⟩) mJ) (by rw[show(ku r i++dP r.needs[i]! j)++cw [rK,r.needs[i]!.any[j]!.name,(cv [44] r.needs[i]!.any[j]!.feats),rE,r.needs[i]!.any[j]!.range]=ku r i++dP r.needs[i]! (j+1)from by rw[hwl,hwj,fj]];exact hK)) (hn:=aT) ?_;refine zg ?_;exact iq (j+1) [(0,0),(4,4),(2,2),(45,3)]
    refine cx ?_;have hwl:cw [rK,r.needs[i]!.any[j]!.name,(cv [44] r.needs[i]!.any[j]!.feats),rH,r.needs[i]!.any[j]!.range]=jR r.needs[i]!.any[j]! :=by
     unfold jR sU;first|rw[ak (show r.needs[i]!.any[j]!.feats.length=0 by omega)]|rw[ai (show ¬r.needs[i]!.any[j]!.feats.length=0 by omega)]
     rw[hc3];rfl
    have hwj:=n9 (n:=r.needs[i]!) (j:=j) ae;refine jS ?_;refine ba [(.str _),(.str _),(.str _),(.str _),(.str _)] ?_;refine dC (nx':=38) (v:=.tup []) (m':=[(44,.row (ku r i++dP r.needs[i]! (j+1))),(0,.buf 9 [Rec.D r]),(4,.buf 3 [br.D r.needs[i]!]),(2,.bld (some 44) (ku r i++dP r.needs[i]! (j+1)).length true),(23,.buf 4 [de.D r.needs[i]!.any[j]!])]) (hc:=fun K' hK=>hB [rK,r.needs[i]!.any[j]!.name,(cv [44] r.needs[i]!.any[j]!.feats),rH,r.needs[i]!.any[j]!.range] (ku r i++dP r.needs[i]! j) 2 43 _ _ K' (.inr ⟨3,true,cW,cW⟩) ah ep ep (.mk aT lK (dr.2 ⟨aT,dr.2 ⟨ae,dr.2 ⟨by first|omega|decide,dr.2 ⟨aT,dr.2 ⟨ae,fun _ h=>nomatch h⟩⟩⟩⟩⟩) mJ) (by rw[show(ku r i++dP r.needs[i]! j)++cw [rK,r.needs[i]!.any[j]!.name,(cv [44] r.needs[i]!.any[j]!.feats),rH,r.needs[i]!.any[j]!.range]=ku r i++dP r.needs[i]! (j+1)from by rw[hwl,hwj,fj]];exact hK)) (hn:=aT) ?_;refine zg ?_;exact iq (j+1) [(0,0),(4,4),(2,2),(44,3)]
   refine zc ?_ ?_<;>intro hc3
   .refine ez ?_;have hwl:cw [rK,r.needs[i]!.any[j]!.name,[45],rE,r.needs[i]!.any[j]!.range]=jR r.needs[i]!.any[j]! :=by
     unfold jR sU;first|rw[ak (show r.needs[i]!.any[j]!.feats.length=0 by omega)]|rw[ai (show ¬r.needs[i]!.any[j]!.feats.length=0 by omega)]
     rw[hc3];rfl
    have hwj:=n9 (n:=r.needs[i]!) (j:=j) ae;refine jS ?_;refine ba [(.str _),(.str _),(.str _),(.str _),(.str _)] ?_;refine dC (nx':=35) (v:=.tup []) (m':=[(41,.row (ku r i++dP r.needs[i]! (j+1))),(0,.buf 9 [Rec.D r]),(4,.buf 3 [br.D r.needs[i]!]),(2,.bld (some 41) (ku r i++dP r.needs[i]! (j+1)).length true),(23,.buf 4 [de.D r.needs[i]!.any[j]!])]) (hc:=fun K' hK=>hB [rK,r.needs[i]!.any[j]!.name,[45],rE,r.needs[i]!.any[j]!.range] (ku r i++dP r.needs[i]! j) 2 40 _ _ K' (.inr ⟨3,true,cW,cW⟩) ah ep ep (.mk aT lK (dr.2 ⟨aT,dr.2 ⟨ae,dr.2 ⟨by first|omega|decide,dr.2 ⟨aT,dr.2 ⟨ae,fun _ h=>nomatch h⟩⟩⟩⟩⟩) mJ) (by rw[show(ku r i++dP r.needs[i]! j)++cw [rK,r.needs[i]!.any[j]!.name,[45],rE,r.needs[i]!.any[j]!.range]=ku r i++dP r.needs[i]! (j+1)from by rw[hwl,hwj,fj]];exact hK)) (hn:=aT) ?_;refine zg ?_;exact iq (j+1) [(0,0),(4,4),(2,2),(41,3)]
   refine cx ?_;have hwl:cw [rK,r.needs[i]!.any[j]!.name,[45],rH,r.needs[i]!.any[j]!.range]=jR r.needs[i]!.any[j]! :=by
    unfold jR sU;first|rw[ak (show r.needs[i]!.any[j]!.feats.length=0 by omega)]|rw[ai (show ¬r.needs[i]!.any[j]!.feats.length=0 by omega)]
    rw[hc3];rfl
   have hwj:=n9 (n:=r.needs[i]!) (j:=j) ae;refine jS ?_;refine ba [(.str _),(.str _),(.str _),(.str _),(.str _)] ?_;refine dC (nx':=34) (v:=.tup []) (m':=[(40,.row (ku r i++dP r.needs[i]! (j+1))),(0,.buf 9 [Rec.D r]),(4,.buf 3 [br.D r.needs[i]!]),(2,.bld (some 40) (ku r i++dP r.needs[i]! (j+1)).length true),(23,.buf 4 [de.D r.needs[i]!.any[j]!])]) (hc:=fun K' hK=>hB [rK,r.needs[i]!.any[j]!.name,[45],rH,r.needs[i]!.any[j]!.range] (ku r i++dP r.needs[i]! j) 2 39 _ _ K' (.inr ⟨3,true,cW,cW⟩) ah ep ep (.mk aT lK (dr.2 ⟨aT,dr.2 ⟨ae,dr.2 ⟨by first|omega|decide,dr.2 ⟨aT,dr.2 ⟨ae,fun _ h=>nomatch h⟩⟩⟩⟩⟩) mJ) (by rw[show(ku r i++dP r.needs[i]! j)++cw [rK,r.needs[i]!.any[j]!.name,[45],rH,r.needs[i]!.any[j]!.range]=ku r i++dP r.needs[i]! (j+1)from by rw[hwl,hwj,fj]];exact hK)) (hn:=aT) ?_;refine zg ?_;exact iq (j+1) [(0,0),(4,4),(2,2),(40,3)]
  refine ez ?_;have hnA:=y7 (n:=r.needs[i]!) (j:=j) ae;have w4:=nJ hnf.2.1;have w5:=hnf.2.2;have w6:=hnf.2.1;refine zc ?_ ?_<;>intro hc4
  .refine cH ?_;have hwt:kn r.needs[i]!.when'=cw [yw,r.needs[i]!.when']:=ai hc4;refine cx ?_;refine ba [(.str _),(.str _)] ?_;refine dC (nx':=25) (v:=.tup []) (m':=[(27,.row (ku r i++(dP r.needs[i]! j++kn r.needs[i]!.when'))),(0,.buf 9 [Rec.D r]),(4,.buf 3 [br.D r.needs[i]!]),(2,.bld (some 27) (ku r i++(dP r.needs[i]! j++kn r.needs[i]!.when')).length true)]) (hc:=fun K' hK=>hB [yw,r.needs[i]!.when'] (ku r i++dP r.needs[i]! j) 2 26 _ _ K' (.inr ⟨3,true,cW,cW⟩) ah ep ep (.mk aT lK (dr.2 ⟨aT,dr.2 ⟨ae,fun _ h=>nomatch h⟩⟩) mJ) (by rw[show(ku r i++dP r.needs[i]! j)++cw [yw,r.needs[i]!.when']=ku r i++(dP r.needs[i]! j++kn r.needs[i]!.when')from by rw[hwt,fj]];exact hK)) (hn:=aT) ?_;refine zc ?_ ?_<;>intro hc5
   .refine cH ?_;have hot:xN r.needs[i]!.option=cw [nA,r.needs[i]!.option]:=ai hc5;refine cx ?_;refine ba [(.str _),(.str _)] ?_;refine dC (nx':=33) (v:=.tup []) (m':=[(35,.row (ku r (i+1))),(0,.buf 9 [Rec.D r]),(4,.buf 3 [br.D r.needs[i]!]),(2,.bld (some 35) (ku r (i+1)).length true)]) (hc:=fun K' hK=>hB [nA,r.needs[i]!.option] (ku r i++(dP r.needs[i]! j++kn r.needs[i]!.when')) 2 34 _ _ K' (.inr ⟨27,true,cW,cW⟩) ah ep ep (.mk aT lK (dr.2 ⟨aT,dr.2 ⟨ae,fun _ h=>nomatch h⟩⟩) mJ) (by rw[show(ku r i++(dP r.needs[i]! j++kn r.needs[i]!.when'))++cw [nA,r.needs[i]!.option]=ku r (i+1)from by rw[mj ae,hnA,hot];simp only[fj,gD]];exact hK)) (hn:=aT) ?_;refine zg ?_;exact iq (i+1) [(0,0),(2,2),(35,3)]
   refine dx ?_;have hno:xN r.needs[i]!.option=[]:=ak oW;refine zg ?_;exact⟨i+1,ae,ae,(aV.to [(0,0),(2,2),(27,3)] ah ah OQ (by refine bo.vI ah ah ah ?_;refine bo.bl 2 ah ah ah (aw List.length (by rw[mj ae,hnA,hno];simp only[fj,gD])) rfl ?_;refine bo.rw 27 ah ah (by rw[mj ae,hnA,hno];simp only[fj,gD]) ?_;exact bo.nil))⟩
  refine cx ?_;have hnw:kn r.needs[i]!.when'=[]:=ak (by simpa using hc4);refine zc ?_ ?_<;>intro hc5
  .refine cH ?_;have hot:xN r.needs[i]!.option=cw [nA,r.needs[i]!.option]:=ai hc5;refine cx ?_;refine ba [(.str _),(.str _)] ?_;refine dC (nx':=28) (v:=.tup []) (m':=[(30,.row (ku r (i+1))),(0,.buf 9 [Rec.D r]),(4,.buf 3 [br.D r.needs[i]!]),(2,.bld (some 30) (ku r (i+1)).length true)]) (hc:=fun K' hK=>hB [nA,r.needs[i]!.option] (ku r i++dP r.needs[i]! j) 2 29 _ _ K' (.inr ⟨3,true,cW,cW⟩) ah ep ep (.mk aT lK (dr.2 ⟨aT,dr.2 ⟨ae,fun _ h=>nomatch h⟩⟩) mJ) (by rw[show(ku r i++dP r.needs[i]! j)++cw [nA,r.needs[i]!.option]=ku r (i+1)from by rw[mj ae,hnA,hot,hnw];simp only[fj,gD]];exact hK)) (hn:=aT) ?_;refine zg ?_;exact iq (i+1) [(0,0),(2,2),(30,3)]
  refine dx ?_;have hno:xN r.needs[i]!.option=[]:=ak oW;refine zg ?_;exact⟨i+1,ae,ae,(aV.to [(0,0),(2,2),(3,3)] ah ah OQ (by refine bo.vI ah ah ah ?_;refine bo.bl 2 ah ah ah (aw List.length (by rw[mj ae,hnA,hno,hnw];simp only[fj,gD])) rfl ?_;refine bo.rw 3 ah ah (by rw[mj ae,hnA,hno,hnw];simp only[fj,gD]) ?_;exact bo.nil))⟩
 refine ez ?_;have h33:i=r.needs.length:=ae;subst h33;refine zg ?_;intro u3;refine fP hm (ι:=Nat) (fun i=>[.un,.un,⟨true,.ptr 0 9 0 0⟩,⟨true,.ptr 2 2 0 0⟩,.un,.un,.un,.un,.un,.un,.un,.un,.un,.un,.un,.un,.un,.un,.un,.un,⟨true,.int .i64 (i:Nat)⟩,⟨true,.int .i64 (r.bars.length:Nat)⟩,.un,⟨true,.sl 3 (r.bars.map my.D)⟩,.un,.un,.un,.un,.un,.un,.un]) (fun i=>[(0,.buf 9 [Rec.D r]),(2,.bld (some 3) (D6 r i).length true),(3,.row (D6 r i))]) 10 (fun i=>i<=r.bars.length) (fun i=>r.bars.length-i) 0 ae (aV.to [(0,0),(2,2),(3,3)] ah ah OQ (by refine bo.vI ah ah ah ?_;refine bo.bl 2 ah ah ah (aw List.length (by rw[Zz])) rfl ?_;refine bo.rw 3 ah ah (by rw[Zz]) ?_;exact bo.nil)) ?_;intro i hi;have q1:=Ih hft i hi;refine zc ?_ ?_<;>intro hc6
 .refine dx ?_;have q4:=hft.b _ (aq (show i<r.bars.length by omega));have q5:=q4.1;have q6:=q4.2.1.len;have q7:=q4.2.2.len;have hbt:GM r.bars[i]! =cw [zy,r.bars[i]!.name,r.bars[i]!.range]++kn r.bars[i]!.when':=rfl;have hxb:=M3 (r:=r) (i:=i) ae;have w7:=nJ q7;refine uK ?_;refine ba [(.str _),(.str _),(.str _)] ?_;refine dC (nx':=16) (v:=.tup []) (m':=[(20,.row (D6 r i++cw [zy,r.bars[i]!.name,r.bars[i]!.range])),(0,.buf 9 [Rec.D r]),(2,.bld (some 20) (D6 r i++cw [zy,r.bars[i]!.name,r.bars[i]!.range]).length true),(13,.buf 3 [my.D r.bars[i]!])]) (hc:=fun K' hK=>hB [zy,r.bars[i]!.name,r.bars[i]!.range] (D6 r i) 2 19 _ _ K' (.inr ⟨3,true,cW,cW⟩) ah ep ep (.mk aT lK (dr.2 ⟨aT,dr.2 ⟨ae,dr.2 ⟨ae,fun _ h=>nomatch h⟩⟩⟩) mJ) (by rw[show(D6 r i)++cw [zy,r.bars[i]!.name,r.bars[i]!.range]=D6 r i++cw [zy,r.bars[i]!.name,r.bars[i]!.range]from rfl];exact hK)) (hn:=aT) ?_;refine cx ?_;have w8:(cw [zy,r.bars[i]!.name,r.bars[i]!.range]).length<=2200000:=by unfold cw;simp only[cv,zy,ct,bE,b7];omega
  refine zc ?_ ?_<;>intro hc7
  .refine cH ?_;have hwt:kn r.bars[i]!.when'=cw [yw,r.bars[i]!.when']:=ai hc7;refine cx ?_;refine ba [(.str _),(.str _)] ?_;refine dC (nx':=26) (v:=.tup []) (m':=[(28,.row (D6 r (i+1))),(0,.buf 9 [Rec.D r]),(2,.bld (some 28) (D6 r (i+1)).length true),(13,.buf 3 [my.D r.bars[i]!])]) (hc:=fun K' hK=>hB [yw,r.bars[i]!.when'] (D6 r i++cw [zy,r.bars[i]!.name,r.bars[i]!.range]) 2 27 _ _ K' (.inr ⟨20,true,cW,cW⟩) ah ep ep (.mk aT lK (dr.2 ⟨aT,dr.2 ⟨ae,fun _ h=>nomatch h⟩⟩) mJ) (by rw[show(D6 r i++cw [zy,r.bars[i]!.name,r.bars[i]!.range])++cw [yw,r.bars[i]!.when']=D6 r (i+1)from by rw[hxb,hbt,hwt,fj]];exact hK)) (hn:=aT) ?_;refine zg ?_;exact iq (i+1) [(0,0),(2,2),(28,3)]
  refine dx ?_;have hno:kn r.bars[i]!.when'=[]:=ak (by simpa using hc7);refine zg ?_;exact⟨i+1,ae,ae,(aV.to [(0,0),(2,2),(20,3)] ah ah OQ (by refine bo.vI ah ah ah ?_;refine bo.bl 2 ah ah ah (aw List.length (by rw[hxb,hbt,hno,gD])) rfl ?_;refine bo.rw 20 ah ah (by rw[hxb,hbt,hno,gD]) ?_;exact bo.nil))⟩
 refine ez ?_;have h33:i=r.bars.length:=ae;subst h33;refine zg ?_;intro u4;refine fP hm (ι:=Nat) (fun i=>[.un,.un,⟨true,.ptr 0 9 0 0⟩,⟨true,.ptr 2 2 0 0⟩,.un,.un,.un,.un,.un,.un,.un,.un,.un,.un,.un,.un,.un,.un,.un,.un,.un,.un,.un,.un,.un,.un,⟨true,.int .i64 (i:Nat)⟩,⟨true,.int .i64 (r.feats.length:Nat)⟩,.un,⟨true,.sl 2 (r.feats.map ch.D)⟩,.un]) (fun i=>[(0,.buf 9 [Rec.D r]),(2,.bld (some 3) (Gk r i).length true),(3,.row (Gk r i))]) 10 (fun i=>i<=r.feats.length) (fun i=>r.feats.length-i) 0 ae (aV.to [(0,0),(2,2),(3,3)] ah ah OQ (by refine bo.vI ah ah ah ?_;refine bo.bl 2 ah ah ah (aw List.length (by rw[ZA])) rfl ?_;refine bo.rw 3 ah ah (by rw[ZA]) ?_;exact bo.nil)) ?_;intro i hi;have q1:=Si hft i hi;refine zc ?_ ?_<;>intro hc8
 .refine dx ?_;have q4:=hft.f _ (aq (show i<r.feats.length by omega));have q5:=q4.1.1;have q6:=q4.2;have q8:∀t∈r.feats[i]!.of,t.length<=2097200:=fun t ht=>eJ (q4.1.2.2 t ht) aT
  have hxf:=M4 (r:=r) (i:=i) ae;refine pA ?_;refine ba [(.str _),(.str _)] ?_;refine cx ?_;refine rv (zs:=([jQ,r.feats[i]!.name]++r.feats[i]!.of).map D.str) (n:=([jQ,r.feats[i]!.name]++r.feats[i]!.of).length) (ha:=aG) (he:=lT.sl) (hz:=by rw[cT];rfl) (hn:=by simp<;>omega) (hb:=lK) ?_;refine dC (nx':=16) (v:=.tup []) (m':=[(21,.row (Gk r (i+1))),(0,.buf 9 [Rec.D r]),(2,.bld (some 21) (Gk r (i+1)).length true),(13,.buf 2 [ch.D r.feats[i]!])]) (hc:=fun K' hK=>hB ([jQ,r.feats[i]!.name]++r.feats[i]!.of) (Gk r i) 2 20 _ _ K' (.inr ⟨3,true,cW,cW⟩) ah ep ep (.mk (l:=r.feats[i]!.name::r.feats[i]!.of) aT lK (dr.2 ⟨aT,dr.2 ⟨ae,q8⟩⟩) mJ) (by rw[show(Gk r i)++cw ([jQ,r.feats[i]!.name]++r.feats[i]!.of)=Gk r (i+1)from by rw[hxf];rfl];exact hK)) (hn:=aT) ?_;refine zg ?_;exact iq (i+1) [(0,0),(2,2),(21,3)]
 refine zg ?_;have h33:i=r.feats.length:=ae;subst h33;have hne:Gk r r.feats.length≠[]:=by
  rw[Ii];unfold D4 uS cw;simp[cv,qe]
 refine dC (nx':=11) (v:=.str (Gk r r.feats.length)) (m':=[(0,.buf 9 [Rec.D r])]) (hc:=fun K' hK=>hD _ _ K' ⟨2,Gk r r.feats.length,rfl,.inr ⟨3,true,cW,cW⟩,hne,hK⟩) (hn:=aT) ?_;refine zr ?_;exact Ii r
def L3:aj:=bc 241
def w211 (hA:SK Y)(hB:C444 Y):IA (cu Y L3):=fun r name rng hp0=>by
 refine zc ?_ ?_<;>intro hc0
 .refine zr ?_;rw[gM,ak hc0]
 refine zc ?_ ?_<;>intro hc1
 .refine zr ?_;rw[gM,ai jF,ak hc1]
 refine zc ?_ ?_<;>intro hc2
 .refine zr ?_;rw[gM,ai jF,ai hc1,ak hc2]
 refine zr ?_;rw[gM,ai jF,ai hc1,ai (by simp[hc2])]
def L4:aj:=bc 274
def w443 (hA:C211 Y)(hB:SM Y):tZ (cu Y L4):=fun r w al hp0=>by
 refine Fa ?_;refine aB (hc:=hA r w.name w.range hp0.1.2) ?_;refine zc ?_ ?_<;>intro hc0
 .refine zr ?_;rw[lj,ak hc0]
 refine zg ?_;intro u0;refine aQ (fun hc1=>?_) (fun hc1=>?_)
 .have hq:(decide (w.feats.length<=6)&&(al ||decide (w.feats.length=0)))=false:=by rw[<-cG,<-ZO];exact hc1
  refine zr ?_;rw[lj,ai jF,ak (by unfold nB;rw[hq];rfl)]
 have hq:(decide (w.feats.length<=6)&&(al ||decide (w.feats.length=0)))=true:=by rw[<-dH,<-ZO];exact hc1
 refine zg ?_;intro u1;refine zf hm (fun i=>[.u 2,.e (.bool al),.u 1,.p 0 9,.p 1 4,.u 3,.i i,.i w.feats.length,.u 1,.m 1 w.feats D.str,.u 3]) (fun i=>[(0,.buf 9 [Rec.D r]),(1,.buf 4 [de.D w])]) 30 (fun i=>i<=w.feats.length/\nB w.feats al=bO (wfB w.feats) i w.feats.length) (fun i=>w.feats.length-i) ⟨ae,by unfold nB;rw[hq,fT]⟩ [(0,0),(1,1)] ?_;rintro i ⟨hi,hr⟩;refine zc ?_ ?_<;>intro hc2
 .refine fG ?_;refine qo ?_;refine cz (i-1) ?_;refine zg ?_;refine wp_cond (fun hc3=>?_) (fun hc3=>?_)
  .have hz:wfB w.feats i=false:=by rw[<-cG,<-wf_c];exact hc3
   refine zr ?_;rw[lj,ai jF,ak (by rw[hr,ay ae,hz];rfl)]
  have hz:wfB w.feats i=true:=by rw[<-dH,<-wf_c];exact hc3
  refine gh (i+1) [(0,0),(1,1)] ?_;rw[hr,ay ae,hz];rfl
 refine zr ?_;rw[lj,ai jF,ai (by rw[hr,bB ae];simp)]
def L1:aj:=bc 240
def w210 (hA:C212 Y)(hB:SM Y)(hC:C443 Y):tK (cu Y L1):=fun r n hp0=>by
 refine zg ?_;intro u0;refine dE ?_ ?_<;>intro hc0
 .refine zr ?_;rw[jz,ak ae]
 refine zg ?_;intro u1;refine dE ?_ ?_<;>intro hc1
 .refine zr ?_;rw[jz,ai ae,ak ae]
 refine zg ?_;intro u2;refine zf hm (fun i=>[.u 3,.p 1 3,.u 2,.i i,.i n.any.length,.u 1,.m 4 n.any de.D,.p 0 9,.u 5]) (fun i=>[(0,.buf 9 [Rec.D r]),(1,.buf 3 [br.D n])]) 15 (fun i=>i<=n.any.length/\nC r n.any=fM (fun i=>lj r n.any[i]! (decide ((n.any.length:Int)=1))) i n.any.length) (fun i=>n.any.length-i) ⟨ae,rfl⟩ [(0,0),(1,1)] ?_;rintro i ⟨hi,hr⟩;refine zc ?_ ?_<;>intro hc2
 .refine Bq ?_;intro u3;refine aB (hc:=hC r n.any[i]! _ (hp0.1 _ (aq ae))) ?_;refine zc ?_ ?_<;>intro hc3
  .refine zr ?_;have hw:nC r n.any=lj r n.any[i]! (decide ((n.any.length:Int)=1)):=by rw[hr,lu ae hc3]
   rw[jz,ai ae,ai ae,ak (by rw[hw];exact hc3),hw]
  refine gh (i+1) [(0,0),(1,1)] ?_;rw[hr,pK ae hc3]
 refine ez ?_;have hw0:nC r n.any=0:=by rw[hr,pJ ae]
 refine cx ?_;refine aB (hc:=hA n.when' hp0.2.1) ?_;refine zg ?_;refine aQ (fun hc4=>?_) (fun hc4=>?_)
 .try simp only[gF]at hc4
  refine zr ?_;rw[jz,ai ae,ai ae,ai lS,ak hc4]
 simp only[dH]at hc4;refine zg ?_;refine aQ (fun hc5=>?_) (fun hc5=>?_)
 .try simp only[gF]at hc5
  refine zr ?_;rw[jz,ai ae,ai ae,ai lS,ai (by simp[hc4]),ak hc5]
 simp only[eo,dH,bn]at hc5;refine zr ?_;rw[jz,ai ae,ai ae,ai lS,ai (by simp[hc4]),ai (by rintro⟨g1,g2⟩;rcases hc5 with h|h;exact g1 h;rw[g2]at h;cases h)]
def LZ:aj:=bc 244
def w214 (hA:C448 Y):IB (cu Y LZ):=fun r s hp0=>by
 refine zg ?_;intro u0;refine zf hm (fun i=>[.u 3,.p 0 9,.i i,.i r.needs.length,.u 1,.m 3 r.needs br.D,.i (bL s).1,.u 1,.e (.str (bL s).2.1),.u 4]) (fun i=>[(0,.buf 9 [Rec.D r])]) 15 (fun i=>i<=r.needs.length/\nU r s=(if(r.needs.drop i).any (itC (bL s).1 (bL s).2.1)=true then 0 else itE (bL s).1)) (fun i=>r.needs.length-i) ⟨ae,W9 r s⟩ [(0,0)] ?_;rintro i ⟨hi,hr⟩;refine zc ?_ ?_<;>intro hc0
 .refine fG ?_;refine fG ?_;refine cH ?_;refine cz 0 (hb:=fun h=>Ki) ?_;refine cH ?_;refine c8 (q:=de.D) (xs:=r.needs[i]!.any) (i:=0) (hi:=fun h=>Ki) (v:=(.str r.needs[i]!.any[0]!.name)) ?_;refine zg ?_;refine wp_cond (fun hc1=>?_) (fun hc1=>?_)
  .have hz:itC (bL s).1 (bL s).2.1 r.needs[i]! =true:=hc1;refine zr ?_;rw[hr,wK ae hz];rfl
  have hz:itC (bL s).1 (bL s).2.1 r.needs[i]! =false:=hc1;refine gh (i+1) [(0,0)] ?_;rw[hr,B0 ae hz]
 refine ez ?_;have he:nU r s=itE (bL s).1:=by rw[hr,wJ ae];rfl
 refine zc ?_ ?_<;>intro hc2
 .refine zr ?_;rw[he,itE,ak hc2]
 refine zc ?_ ?_<;>intro hc3
 .refine zr ?_;rw[he,itE,ai hc2,ak hc3]
 refine zr ?_;rw[he,itE,ai hc2,ai hc3]
def Ot:aj:=bc 25
def w268 (hA:C25 Y)(hB:C159 Y):IF (cu Y Ot):=fun w l hp0=>by
 refine zg ?_;intro u0;refine dE ?_ ?_<;>intro hc0
 .refine zr ?_;rw[ord_z ae];rfl
 refine zg ?_;refine zf hm (fun u=>[.u 1,.m 1 l (D.int .i64),.u 2,.i u,.p 1 1,.u 11,.o 0 1 (pW w.us l u).length]) (fun u=>[(0,.buf 1 ((pW w.us l u).map jK)),(1,.buf 1 [b6.D w])]) 7 (fun u=>u<=w.us.length) (fun u=>w.us.length-u) ae [(0,1)] ?_;intro u hu;have hol:=TX w.us l u;refine zg ?_;intro u1;refine dE ?_ ?_<;>intro hc1
 .refine jS ?_;have hu16:=(hp0.1 _ (aq (show u<w.us.length by omega))).1;refine zk17 ?_;intro u2;obtain⟨hk0,hk1⟩:=du (atI l ((u:Nat):Int)) 24 aT;rw[show bY (atI l ((u:Nat):Int)) 24=jr w.us l u from rfl]at hk0 hk1⊢;refine zg ?_;refine zf hm (fun i=>[.u 1,.m 1 l (D.int .i64),.u 2,.i u,.p 1 1,.u 1,.i i,.i (w.us[u]!.cands.length:Nat),.i ((jr w.us l u)),.u 2,.o 2 1 (kq w.us[u]!.cands.length (jr w.us l u) i).length,.u 4,.o 0 1 (pW w.us l u).length]) (fun i=>[(0,.buf 1 ((pW w.us l u).map jK)),(1,.buf 1 [b6.D w]),(2,.buf 1 ((kq w.us[u]!.cands.length (jr w.us l u) i).map (D.int .i64)))]) 27 (fun i=>i<=xO w.us[u]!.cands.length (jr w.us l u)) (fun i=>w.us[u]!.cands.length-i) ae [(0,0),(1,1)] ?_;intro i hi;have hoc:xO w.us[u]!.cands.length (jr w.us l u)<=w.us[u]!.cands.length:=by unfold xO;omega
  have hil:=LM (n:=w.us[u]!.cands.length) (k:=(jr w.us l u)) i;refine pA ?_;refine Ao ((jr w.us l u)%5) (hn:=fun _=>aT) (hb:=fun _=>Zb hk0) ?_;refine zc ?_ ?_<;>intro hc2
  .refine dx ?_;have hvb:=ajF (i:=i) (k:=(jr w.us l u)) ae;refine cx ?_;refine Ao ((jr w.us l u)%3) (hn:=fun _=>aT) (hb:=fun _=>Zb hk0) ?_;refine cH ?_;refine xY (hb:=ae) ?_;refine dx ?_;refine Ao (EZ w.us[u]!.cands.length (jr w.us l u) i) (hn:=fun _=>ae) (hb:=fun _=>Zb ae) ?_;refine zg ?_;refine zf hm (fun j=>[.u 1,.m 1 l (D.int .i64),.u 2,.i u,.p 1 1,.u 1,.i i,.i (w.us[u]!.cands.length:Nat),.i ((jr w.us l u)),.u 1,.i j,.o 2 1 (kq w.us[u]!.cands.length (jr w.us l u) i).length,.u 1,.e (.bool (oA (fun k=>decide ((kq w.us[u]!.cands.length (jr w.us l u) i)[k]! =(EZ w.us[u]!.cands.length (jr w.us l u) i))) 0 j)),.i ((EZ w.us[u]!.cands.length (jr w.us l u) i)),.u 1,.o 0 1 (pW w.us l u).length]) (fun j=>[(0,.buf 1 ((pW w.us l u).map jK)),(1,.buf 1 [b6.D w]),(2,.buf 1 ((kq w.us[u]!.cands.length (jr w.us l u) i).map (D.int .i64)))]) 48 (fun j=>j<=(kq w.us[u]!.cands.length (jr w.us l u) i).length) (fun j=>(kq w.us[u]!.cands.length (jr w.us l u) i).length-j) ae [(0,0),(1,1),(2,2)] ?_;intro j hj;refine zg ?_;intro _;refine dE ?_ ?_<;>intro hc3
   .refine pA ?_;refine oS (q:=D.int .i64) (xs:=(kq w.us[u]!.cands.length (jr w.us l u) i)) (v:=.int .i64 (kq w.us[u]!.cands.length (jr w.us l u) i)[j]!) (hi:=fun _=>ae) (hv:=fun _=>uy) ?_;refine zg ?_;rw[WM ae];exact iq (j+1) [(0,0),(1,1),(2,2)]
   refine cx ?_;obtain rfl:j=(kq w.us[u]!.cands.length (jr w.us l u) i).length:=ae;refine zc ?_ ?_<;>intro hc4
   .refine dx ?_;refine ba [.int .i64 (EZ w.us[u]!.cands.length (jr w.us l u) i)] ?_;refine cJ (q:=D.int .i64) (xs:=(kq w.us[u]!.cands.length (jr w.us l u) i)) (e:=(EZ w.us[u]!.cands.length (jr w.us l u) i)) (hb:=ae) ?_;refine zg ?_;rw[ajC hc4];refine zl (i+1) [(0,0),(1,1),(57,2)] ?_;exact(by unfold xO;omega)
   refine zg ?_;rw[ajB hc4];refine zl (i+1) [(0,0),(1,1),(2,2)] ?_;exact(by unfold xO;omega)
  refine cx ?_;obtain rfl:i=xO w.us[u]!.cands.length (jr w.us l u):=by unfold xO at hi⊢;omega
  rw[show kq w.us[u]!.cands.length (jr w.us l u) (xO w.us[u]!.cands.length (jr w.us l u))=EY w.us l u from rfl]at hil⊢;refine bh 2 ?_ (he:=J8) (hm:=J8);refine dx ?_;refine ba [jK (EY w.us l u)] ?_;refine cJ (q:=jK) (xs:=(pW w.us l u)) (e:=EY w.us l u) (hb:=ae) ?_;refine zg ?_;rw[ade];exact iq (u+1) [(39,0),(1,1)]
 refine cx ?_;obtain rfl:u=w.us.length:=ae;rw[<-ord_e ae];refine bh 0 ?_ (he:=J8) (hm:=J8);exact mr
def Ps:aj:=bc 253
def w882:JR (cu Y Ps):=fun n hp0=>by
 refine ko ?_;refine Ao ((n%10:Nat):Int) (hn:=by intro _;omega) (hb:=fun _=>rfl) ?_;refine pY ((n%10:Nat):Int) (hb:=fun _=>IntWalk.u8_in _ ae) ?_;refine OS (((dg (n%10)).toNat:Nat):Int) (hb:=fun _=>by rw[aeD ae];exact IntWalk.u8_in _ ae) ?_;refine ba [.int .u8 _] ?_;refine Yw [dg (n%10)] (he:=fun _=>lT.all ah rfl) (hs:=fun _=>rfl) ?_;refine zg ?_;have h0:nL n=(if n<10 then []else nL (n/10))++[dg (n%10)]:=by
  split
  .rename_i h;rw[By h,Nat.mod_eq_of_lt h];rfl
  .rw[Bx ae]
 refine zfx hm ((n,[dg (n%10)]):(Nat×av)) (fun p=>[.e (.int .u64 (p.1:Nat)),.u 2,.e (.str p.2)]) (fun p=>[]) 8 (fun p=>p.1<=9999/\p.2.length<=9999-p.1+1/\nL n=(if p.1<10 then []else nL (p.1/10))++p.2) (fun p=>p.1) ⟨hp0,aG,h0⟩ [] ?_;rintro⟨k,s⟩ ⟨hk,hs,hr⟩;dsimp only at hk hs hr⊢;refine zc ?_ ?_<;>intro hc0
 .refine ez ?_;refine RN ((k/10:Nat):Int) (hn:=by intro _;omega) (hb:=fun _=>by rw[show((k:Int).tdiv 10)=((k/10:Nat):Int)from rfl,IntKind.wrap_u64];omega) ?_;refine ez ?_;refine Ao (((k/10)%10:Nat):Int) (hn:=by intro _;omega) (hb:=fun _=>rfl) ?_;refine pY (((k/10)%10:Nat):Int) (hb:=fun _=>IntWalk.u8_in _ ae) ?_;refine OS (((dg ((k/10)%10)).toNat:Nat):Int) (hb:=fun _=>by rw[aeD ae];exact IntWalk.u8_in _ ae) ?_;refine ba [.int .u8 _] ?_;refine Yw [dg ((k/10)%10)] (he:=fun _=>lT.all ah rfl) (hs:=fun _=>rfl) ?_;refine zg ?_;have h1:nL n=(if k/10<10 then []else nL (k/10/10))++([dg (k/10%10)]++s):=by
   rw[hr,ai ae];split
   .rename_i h;rw[By h,Nat.mod_eq_of_lt h];rfl
   .rw[Bx ae,fj]
  exact⟨(k/10,[dg (k/10%10)]++s),⟨mw,dN,h1⟩,mw,(gtt [])⟩
 refine zr ?_;rw[hr,ak ae];rfl
def Mo:aj:=bc 215
def w734 {Y:Ctx}(hm:(Y.at 0).bR)(hA:C882 Y):oV (cu Y Mo):=fun n hp0=>by
 refine zc ?_ ?_<;>intro hc0
 .omega
 refine cx ?_;obtain⟨k,rfl⟩:∃k:Nat,n=k:=⟨n.toNat,ae⟩
 refine cH ?_;refine pY (k:Int) (hb:=fun _=>yA) ?_;exact mr
def Pq:aj:=bc 170
def w470:ue (cu Y Pq):=fun s b hp0=>by
 refine zg ?_;refine fP hm (ι:=(Nat×Nat×List av)) (fun p:Nat×Nat×List av=>[⟨true,.str s⟩,⟨true,.int .u8 b⟩,.un,⟨true,.int .i64 (p.1:Nat)⟩,.un,.un,⟨true,.own 0 1 0 p.2.2.length⟩,⟨true,.int .i64 (p.2.1:Nat)⟩]) (fun p=>[(0,.buf 1 (p.2.2.map D.str))]) 4 (fun p=>p.1<=s.length/\p.2.1<=p.1/\p.2.2.length<=p.1/\bd s b=p.2.2++fh b (s.drop p.1) ((s.take p.1).drop p.2.1)) (fun p=>s.length-p.1) (0,0,[]) ⟨aG,aG,aG,rfl⟩ (aV.to [] ah ah aar (by repeat(first|exact bo.nil|refine bo.mt ah ah ah ah ?_))) ?_;rintro⟨i,fr,acc⟩ ⟨hi,hf,ha,hr⟩;dsimp only at hi hf ha hr⊢;refine zg ?_;intro u0;refine dE ?_ ?_<;>intro hc0
 .refine zg ?_;refine wp_cond (fun hc1=>?_) (fun hc1=>?_)
  .try simp only[gF]at hc1
   refine jS ?_;refine ba [(.str _)] ?_;refine zg ?_;exact⟨(i+1,i+1,acc++[(s.take i).drop fr]),⟨mw,mw,dN,by rw[hr,F9 ae hc1];simp⟩,mw,(aV.to [(19,0)] ah ah OR (by refine bo.nl 19 ah ah ah dV ?_;exact bo.nil))⟩
  simp only[cK]at hc1;refine zg ?_;exact⟨(i+1,fr,acc),⟨mw,mw,mw,by rw[hr,Ga ae ae hc1]⟩,mw,(aV.to [(0,0)] ah ah OR J3)⟩
 refine qo ?_;refine ba [(.str _)] ?_;refine dx ?_;refine bh 13 ?_;refine zr ?_;have hs:bd s b=acc++[s.drop fr]:=by rw[hr,DX ae]
 rw[hs];exact rfl
def cmp_isNaN_int:aj:=bc 162
def w714 {Y:Ctx}(hm:(Y.at 0).bR):JE (cu Y cmp_isNaN_int):=fun x=>by
 refine pA ?_;refine bp (env':=[_,⟨_,(.bool _)⟩]) ?_;refine zr ?_;simp
def EG:aj:=bc 159
def w704 {Y:Ctx}(hm:(Y.at 0).bR):JD (cu Y EG):=fun x=>by
 refine pA ?_;refine bp (env':=[_,⟨_,(.bool _)⟩]) ?_;refine zr ?_;simp
def cmp_Compare_int:aj:=bc 114
def w532 {Y:Ctx}(hm:(Y.at 0).bR)(hA:C714 Y):ud (cu Y cmp_Compare_int):=fun a b=>by
 refine zg ?_;refine aQ (t:=false) (fun h=>ca) (fun _=>?_);refine zg ?_;refine aQ (t:=false) (fun h=>ca) (fun _=>?_);refine zc ?_ ?_<;>intro hc3
 .refine zr ?_;simp[dq,hc3]
 refine zc ?_ ?_<;>intro hc4
 .refine zr ?_;unfold dq;rw[ai hc3,ak hc4]
 refine zr ?_;unfold dq;rw[ai hc3,ai hc4]
def AZ:aj:=bc 109
def w516 {Y:Ctx}(hm:(Y.at 0).bR)(hA:C704 Y):uc (cu Y AZ):=fun a b=>by
 refine zg ?_;refine aQ (t:=false) (fun h=>ca) (fun _=>?_);refine zg ?_;refine aQ (t:=false) (fun h=>ca) (fun _=>?_);refine zc ?_ ?_<;>intro hc3
 .refine zr ?_;simp[pH,hc3]
 refine zc ?_ ?_<;>intro hc4
 .refine zr ?_;simp_all[pH]
 refine zr ?_;simp_all[pH]
def ag2:aj:=bc 108
def w531:Jg (cu Y ag2):=fun l=>by
 refine zg ?_;intro u0;refine zf hm (fun i=>[.u 2,.i i,.i l.length,.u 1,.m 1 l (D.int .i64),.u 1,.i 0,.u 1]) (fun i=>[]) 5 (fun i=>i<=l.length/\fM (fun i=>l[i]!) 0 l.length=fM (fun i=>l[i]!) i l.length) (fun i=>l.length-i) ⟨ae,rfl⟩ [] ?_;rintro i ⟨hi,hr⟩;refine zc ?_ ?_<;>intro hc0
 .refine zc ?_ ?_<;>intro hc1
  .refine zr ?_;rw[hr,lu ae hc1]
  refine gh (i+1) [] ?_;rw[hr,pK ae hc1]
 refine zr ?_;rw[hr,pJ ae]
def Ik:aj:=bc 113
def w530 {Y:Ctx}(hm:(Y.at 0).bR):Jf (cu Y Ik):=fun v=>by
 refine uK ?_;refine bS _ ?_;exact mr
def Na:aj:=bc 116
def w534 {Y:Ctx}(hm:(Y.at 0).bR)(hA:C516 Y)(hB:C532 Y)(hC:C658 Y)(hD:C659 Y):uf (cu Y Na):=fun a b=>by
 refine zc ?_ ?_<;>intro hc0
 .refine zr ?_;unfold yr;rw[ak hc0]
 refine zg ?_;refine aQ (fun hc1=>?_) (fun hc1=>?_)
 .simp only[cG,cK]at hc1;refine zc ?_ ?_<;>intro hc2
  .refine zr ?_;have hn:¬(cP a=true/\cP b=true):=by rintro⟨h1,h2⟩;simp[h1,h2]at hc0
   unfold yr;rw[ai hn];rw[ak hc2]
  refine zr ?_;have hn:¬(cP a=true/\cP b=true):=by rintro⟨h1,h2⟩;simp[h1,h2]at hc0
  unfold yr;rw[ai hn];rw[ai (by simp[hc2]),ak (by cases h:cP b with|true=>rfl|false=>exact absurd (hc2.trans h.symm) hc1)]
 simp only[dH,bn]at hc1;refine zr ?_;have hn:¬(cP a=true/\cP b=true):=by rintro⟨h1,h2⟩;simp[h1,h2]at hc0
 unfold yr;rw[ai hn];have h1:cP a=false:=by cases h:cP a with|false=>rfl|true=>exact absurd ⟨h,hc1▸h⟩ hn
 rw[ai (by simp[h1]),ai (by rw[<-hc1];simp[h1])]
def Lk:aj:=bc 4
def w89 {Y:Ctx}(hm:(Y.at 0).bR)(hA:C29 Y)(hB:C264 Y)(hC:C265 Y)    :wkk Y Lk (.bool true) []:=by
 refine ez ?_;refine bM [.int .i64 0,.int .i64 0,.int .i64 0,.str [],.str [],.int .i64 (-1),.aJ,.aJ] ?_;refine ba [.agg [.int .i64 0,.int .i64 0,.int .i64 0,.str [],.str [],.int .i64 (-1),.aJ,.aJ]] ?_;refine bM [.str [],.str [],.own 2 8 0 1] ?_;refine ba [.agg [.str [],.str [],.own 2 8 0 1]] ?_;refine bM [.own 4 3 0 1] ?_;refine dx ?_;refine AO [(2,.buf 8 [ei.D ⟨zV,-1,[],[]⟩]),(4,.buf 3 [.agg [.str [],.str [],.own 2 8 0 1]]),(6,.buf 1 [.agg [.own 4 3 0 1]])] (.bf ah (.cons (.ag (.cons (.refl _) (.cons (.refl _) (.cons (.refl _) (.cons (.refl _) (.cons (.refl _) (.cons (.refl _) (.cons (.nil 1) (.cons (.nil 3) .nil))))))))) .nil) (.id ah (.id ah .nil))) ?_;refine bh 2 ?_;refine bh 4 ?_;refine cH ?_;refine bM [.str [],.str [],.str []] ?_;refine pZ (v:=b6.D Qv) ?_;refine bM [.str [],.str [],.str [],.aJ] ?_;refine aB (hc:=hB [] eZ Qv ⟨eZ,[]⟩ (Qw ⟨aT,(fun _ h=>ca),(fun i=>by unfold Env.at;split<;>decide)⟩)) ?_;refine pA ?_;rw[awk_1];refine cH ?_;refine bM [.str [],.str [],.str []] ?_;refine pZ (v:=b6.D Qv) ?_;refine bM [.str [],.str [],.str [],.aJ] ?_;refine aB (hc:=hC [] eZ Qv ⟨eZ,[]⟩ (Qw ⟨aT,(fun _ h=>ca),(fun i=>by unfold Env.at;split<;>decide)⟩)) ?_;refine jS ?_;rw[awk_2];refine cH ?_;refine bM [.str [],.str [],.str []] ?_;refine pZ (v:=b6.D Qv) ?_;refine cH ?_;refine bM [.str (ff 1).e0,.str (ff 1).e1,.str (ff 1).e2,.aJ] ?_;refine aB (hc:=hC [] eZ Qv ⟨ff 1,[]⟩ (Qw ⟨aT,(fun _ h=>ca),ah8 1⟩)) ?_;refine jS ?_;rw[awk_3];refine cH ?_;refine bM [.str [],.str [],.str []] ?_;refine pZ (v:=b6.D Qv) ?_;refine bM [.str [97,110,116],.int .i64 0,.int .i64 0,.int .i64 0,.str [],.str [],.str [],.int .u64 0,.aJ] ?_;refine ba [.agg [.str [97,110,116],.int .i64 0,.int .i64 0,.int .i64 0,.str [],.str [],.str [],.int .u64 0,.aJ]] ?_;refine bM [.str [],.str [],.str [],.own 41 9 0 1] ?_;refine aB (hc:=hC [] eZ Qv ⟨eZ,[antL]⟩ (Qw ⟨aT,(fun x hx=>by rw[aC.1 hx];exact⟨⟨aT,aT⟩,aT,aT,aT,fun _ h=>ca⟩),(fun i=>by unfold Env.at;split<;>decide)⟩)) (hp:=fun _=>by repeat' first|exact trivial|exact rfl|refine And.intro ?_ ?_|(intro e he;obtain rfl:=aC.1 he)|simp) ?_;refine jS ?_;rw[awk_4];refine ko ?_;refine zzn ?_;refine ez ?_;refine cz 0 (hj:=fun _=>rfl) (hb:=fun _=>aT) ?_;refine c8 (v:=.int .i64 0) (hi:=fun _=>aT) ?_;refine fG ?_;refine ko ?_;refine bp (env':=[⟨_,(.bool _)⟩,_,_,_,_,_,_,_]) ?_;refine zr ?_;decide
def Uj:aj:=bc 134
def w249:ID (cu Y Uj):=fun l x hp0=>by
 refine zg ?_;refine zf hm (fun i=>[.m 1 l D.str,.e (.int .u8 (x.toNat:Nat)),.u 1,.i i,.u 2,.e (.str (cv [x] (l.take i)))]) (fun i=>[]) 3 (fun i=>i<=l.length) (fun i=>l.length-i) ae [] ?_;intro i hi;refine zg ?_;intro u0;refine dE ?_ ?_<;>intro hc0
 .refine ez ?_;have hj:=Fy [x] l (i+1);refine zg ?_;refine aQ (fun hc1=>?_) (fun hc1=>?_)
  .simp only[bn]at hc1;have ht:=CL [x] l i ae;rw[ak ae]at ht;have htl:=aw List.length ht;simp only[ct,List.length_singleton]at htl;refine dx ?_;refine ba [.int .u8 _] ?_;refine Yw [x] (he:=fun _=>lT.all ah rfl) (hs:=fun _=>rfl) ?_;refine zg ?_;exact⟨i+1,ae,ae,(aV.to [] ah ah (by repeat(first|exact fk.nil|refine fk.un ?_|refine fk.eq ah ?_|refine fk.nl (aw D.str (by rw[ht])) ah ?_)) Dh)⟩
  simp only[cK]at hc1;have ht:=CL [x] l i ae;rw[ai ae]at ht;have htl:=aw List.length ht;simp only[ct,b7]at htl;have hi0:i=0:=ae;refine qo ?_;refine OT (hb:=fun _=>by first|(simp only[ct,List.length_singleton];omega)|(subst hi0;simp only[List.take_zero,cv,b7]at htl⊢;omega)) ?_;refine zg ?_;exact⟨i+1,ae,ae,(aV.to [] ah ah (by repeat(first|exact fk.nil|refine fk.un ?_|refine fk.eq ah ?_|refine fk.nl (aw D.str (by rw[ht];subst hi0;rfl)) ah ?_)) Dh)⟩
 refine zr ?_;rw[eU ae]
def Mq:aj:=bc 214
def w815:JM (cu Y Mq):=fun l=>by
 refine zg ?_;refine zfx hm (1:Nat) (fun i=>[.m 1 l D.str,.u 1,.i i,.u 2]) (fun i=>[]) 2 (fun i=>1<=i/\(i<=l.length\/i=1)/\rising l=bO (fun i=>Op.bytesLess l[i-1]! l[i]!) i l.length) (fun i=>l.length-i) ⟨ae,ae,rfl⟩ [] ?_;rintro i ⟨h1,hi,hr⟩;refine zg ?_;intro u0;refine dE ?_ ?_<;>intro hc0
 .refine jS ?_;refine cz (i-1) ?_;refine zg ?_;refine wp_cond (fun hc1=>?_) (fun hc1=>?_)
  .simp only[cG]at hc1;refine zr ?_;rw[hr,ay ae,hc1];rfl
  simp only[dH]at hc1;refine zl (i+1) [] ?_;exact⟨ae,ae,by rw[hr,ay ae,hc1];rfl⟩
 refine zr ?_;rw[hr,bB ae]
def HS:aj:=bc 95
def w692 (hA:C184 Y)(hB:C829 Y):Jv (cu Y HS):=fun m al c hp0=>by
 refine cH ?_;obtain⟨⟨hmp,hcp⟩,rfl⟩:=hp0;have hfp:=KW hmp hcp;have hml:=hmp.1;have hcl:=hcp.1;refine zg ?_;refine zf hm (fun u=>[.u 1,.m 1 ([]:List Int) (D.int .i64),.m 1 c (D.int .i64),.u 1,.i u,.u 1,.p 0 3,.u 1]) (fun u=>[(0,.buf 3 [j7.D m])]) 3 (fun u=>u<=c.length/\yK m c=bO (vy m c) u c.length) (fun u=>c.length-u) ⟨ae,rfl⟩ [(0,0)] ?_;rintro u ⟨hu,hr⟩;refine zg ?_;intro u0;refine dE ?_ ?_<;>intro hc0
 .refine dx ?_;have hfu:=fun h=>hfp.2 u ae h
  refine fG ?_;refine jS ?_;refine c8 (v:=.sl 1 (((m.bars)[u]!).map Ic)) (hi:=fun hf=>cr) ?_;refine ez ?_;refine cz c[u]!.toNat (hj:=fun hf=>by have hcu:0<=c[u]! :=Decidable.byContradiction fun hn=>(by rw[bI hn]at hf;revert hf;decide);omega) (hb:=fun hf=>aas) ?_;refine c8 (v:=.sl 2 (m.bars[u]![c[u]!.toNat]!.map dU.D)) (hi:=fun hf=>aas) ?_;refine zg ?_;refine wp_cond (fun hc1=>?_) (fun hc1=>?_)
  .have hcx:vy m c u=false:=by
    unfold vy;by_cases hq:c[u]! <0
    .rw[bI (show ¬0<=c[u]! by omega)]at hc1;cases hc1
    .rw[bz (show 0<=c[u]! by omega)]at hc1;rw[bI hq,show kd c m.bars[u]![c[u]!.toNat]! =true from hc1];rfl
   refine zr ?_;rw[hr,ay ae,hcx,Bool.false_and]
  have hcx:vy m c u=true:=by
   unfold vy;by_cases hq:c[u]! <0
   .rw[bz hq];rfl
   .rw[bz (show 0<=c[u]! by omega)]at hc1;rw[bI hq,show kd c m.bars[u]![c[u]!.toNat]! =false from hc1];rfl
  refine gh (u+1) [(0,0)] ?_;rw[hr,ay ae,hcx,fT]
 refine zr ?_;rw[hr,bB ae]
def Md:aj:=bc 43
def w345 (hA:EA Y)(hB:C572 Y):IJ (cu Y Md):=fun l hp0=>by
 refine zg ?_;refine zf hm (fun i=>[.m 2 l kv.D,.u 2,.i i,.u 3]) (fun i=>[]) 3 (fun i=>i<=l.length/\Cy l=gO (Cw l) i l.length) (fun i=>l.length-i) ⟨ae,rfl⟩ [] ?_;rintro i ⟨hi,hr⟩;refine zg ?_;intro u0;refine dE ?_ ?_<;>intro hc0
 .refine fG ?_;refine ez ?_;refine cz (i-1) (hj:=fun hf=>BT) (hb:=fun hf=>BT) ?_;refine zg ?_;refine aQ (fun hc1=>?_) (fun hc1=>?_)
  .simp only[gF]at hc1;simp only[gt_iff_lt,Int.natCast_pos]at hc1;have hz:=acv hc1;refine zg ?_;refine fw (bX (aw (D.int .i64) ?_) (aw (D.int .i64) ?_));all_goals rw[hr,gP ae (by rw[hz];decide),hz]
  simp only[gF]at hc1;simp only[gt_iff_lt,Int.natCast_pos]at hc1;have hq:¬(dn l[i]!.name=false\/(0<i/\Op.bytesLess l[i-1]!.name l[i]!.name=false)):=by rintro(h|⟨h,h2⟩)<;>simp_all
  refine zg ?_;refine wp_cond (fun hc2=>?_) (fun hc2=>?_)
  .simp only[gF]at hc2;have hz:=acw hq hc2;refine zg ?_;refine fw (bX (aw (D.int .i64) ?_) (aw (D.int .i64) ?_));all_goals rw[hr,gP ae (by rw[hz];decide),hz]
  simp only[gF]at hc2;have hz:=WQ hq hc2;refine gh (i+1) [] ?_;rw[hr,j9 ae hz]
 refine zg ?_;refine fw (bX (aw (D.int .i64) ?_) (aw (D.int .i64) ?_));all_goals rw[hr,j8 ae]
def Mc:aj:=bc 19
def w136 {Y:Ctx}(hm:(Y.at 0).bR)(hA:C71 Y)(hB:C344 Y)(hC:C345 Y):Is (cu Y Mc):=fun m hp0=>by
 refine wA ?_;refine aB (hc:=hA m.r hp0.1) ?_;refine zg ?_;refine aQ (fun hc0=>?_) (fun hc0=>?_)
 .simp only[gF]at hc0;refine zg ?_;refine fw (bX (aw (D.int .i64) ?_) (aw (D.int .i64) ?_));all_goals rw[VX hc0]
 simp only[gF]at hc0;have q0:¬¬(c7 m.r).1=0:=fun h=>h hc0
 refine zg ?_;intro u0;refine aQ (fun hc1=>?_) (fun hc1=>?_)
 .simp only[gF]at hc1;have hz:=VV q0 ae;refine zg ?_;refine fw (bX (aw (D.int .i64) ?_) (aw (D.int .i64) ?_));all_goals rw[hz]
 simp only[gF]at hc1;have q1:¬(8<m.ps.length\/8<m.hs.length):=ae;refine zg ?_;refine aQ (fun hc2=>?_) (fun hc2=>?_)
 .simp only[gF]at hc2;have hz:=VW q0 q1 rfl hc2;refine zg ?_;refine fw (bX (aw (D.int .i64) ?_) (aw (D.int .i64) ?_));all_goals rw[hz]
 simp only[gF]at hc2;have hz:=VU q0 q1 hc2 rfl;refine ez ?_;refine aB (hc:=hC m.hs hp0.2) ?_;refine zg ?_;refine fw (bX (aw (D.int .i64) ?_) (aw (D.int .i64) ?_));all_goals rw[hz]
def Ms:aj:=bc 198
def w416 {Y:Ctx}(hm:(Y.at 0).bR):IW (cu Y Ms):=fun c x hp0=>by
 refine ko ?_;obtain⟨j,hj⟩:∃j:Nat,x.u=(j:Int):=⟨x.u.toNat,by have:=hp0.1;omega⟩
 obtain⟨hjl,hj30⟩:=hp0;rw[hj,Int.toNat_natCast]at hj30;refine fG ?_;refine pY (c[j]!) (hb:=fun hf=>by have hf:0<=c[j]! :=Kd;rw[IntKind.wrap_u64];omega) ?_;refine FR (2^(c[j]!.toNat+1)) (hn:=fun hf=>wx) (hb:=fun hf=>by have hf:0<=c[j]! :=Kd;exact DU (n:=c[j]!.toNat) ae ae) ?_;refine Dj (GR x.m (2^(c[j]!.toNat+1))) (hb:=fun _=>rfl) ?_;refine zr ?_;unfold CZ;rw[hj,Int.toNat_natCast];simp
def Pu:aj:=bc 149
def w184 (hA:C416 Y):Iz (cu Y Pu):=fun c l hp0=>by
 refine zg ?_;refine zf hm (fun i=>[.m 1 c (D.int .i64),.m 2 l dU.D,.u 1,.i i,.u 2]) (fun i=>[]) 2 (fun i=>i<=l.length/\kd c l=oA (fun i=>CZ c l[i]!) i l.length) (fun i=>l.length-i) ⟨ae,rfl⟩ [] ?_;rintro i ⟨hi,hr⟩;refine zg ?_;intro u0;refine dE ?_ ?_<;>intro hc0
 .refine zc ?_ ?_<;>intro hc1
  .refine zr ?_;rw[hr,jU ae];simp only[hc1,Bool.true_or]
  refine gh (i+1) [] ?_;rw[hr,jU ae];simp only[hc1,Bool.false_or]
 refine zr ?_;rw[hr,td ae]
end Go.Abs
end
