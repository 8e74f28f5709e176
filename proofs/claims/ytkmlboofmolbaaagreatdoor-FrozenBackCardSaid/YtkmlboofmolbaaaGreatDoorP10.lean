/- A part of the proofs. -/
import Derived.Test.YtkmlboofmolbaaaGreatDoorP09
set_option linter.all false
set_option maxRecDepth 60000
set_option maxHeartbeats 2000000
noncomputable section
namespace Go.Abs
variable {Y:Ctx}(hm:(Y.at 0).bV)
def L1:aj:=ba 204
def w215 (hA:C242 Y)(hB:C450 Y)(hC:C451 Y)(hD:C452 Y):tt (cq Y L1):=fun r hp0=>by
 show dn _ _ _ [⟨_,_⟩,_,_,_,_,_,_,_,_,_,_,_,_,_,_,_,_,_,_,_,_,_,_,_,_,_,_,_,_,_,_] _;have hft:=sQ hp0;have q0:=hft.nm;have q00:=DL r.v hft.v;have hs:=hp0.2;refine aP ?_;refine Ih ?_;refine aE (hc:=hC r.v hft.v) ?_;refine bc [(.str _),(.str _),(.str _)] ?_;refine dA (nx':=4) (v:=.tup []) (m':=[(9,.row (uB r)),(0,.buf 9 [Rec.D r]),(2,.bld (some 9) (uB r).length true)]) (hc:=fun K' hK=>hB [pR,r.name,um r.v] ([]) 2 8 _ _ K' (.inl ⟨false,cY,rfl⟩) ai eo eo (.mk aU lJ (di.2 ⟨aU,di.2 ⟨ae,di.2 ⟨ae,fun _ h=>nomatch h⟩⟩⟩) mM) (by rw[show([])++cj [pR,r.name,um r.v]=uB r from rfl];exact hK)) (hn:=aU) ?_;refine zg ?_;intro u0;refine fX hm (ι:=Nat) (fun i=>[.un,.un,⟨true,.ptr 0 9 0 0⟩,⟨true,.ptr 2 2 0 0⟩,⟨true,.int .i64 (i:Nat)⟩,⟨true,.int .i64 (r.needs.length:Nat)⟩,.un,⟨true,.sl 3 (r.needs.map bj.D)⟩,.un,.un,.un,.un,.un,.un,.un,.un,.un,.un,.un,.un,.un,.un,.un,.un,.un,.un,.un,.un,.un,.un,.un]) (fun i=>[(0,.buf 9 [Rec.D r]),(2,.bld (some 3) (kj r i).length true),(3,.row (kj r i))]) 10 (fun i=>i<=r.needs.length) (fun i=>r.needs.length-i) 0 ae (aY.to [(0,0),(2,2),(9,3)] ai ai OI (by refine bm.AA ai ai ai ?_;refine bm.bl 2 ai ai ai (aw List.length (by rw[Zr])) rfl ?_;refine bm.rw 9 ai ai (by rw[Zr]) ?_;exact bm.nil)) ?_;intro i hi;have q1:=H4 hft i hi;refine zc ?_ ?_<;>intro hc0
 .refine dD ?_;have hnf:=hft.n _ (aq (show i<r.needs.length by omega));have hn3:=hnf.1.1;refine kn ?_;refine bc [(.str _)] ?_;refine dA (nx':=16) (v:=.tup []) (m':=[(16,.row (kj r i++dJ r.needs[i]! 0)),(0,.buf 9 [Rec.D r]),(2,.bld (some 16) (kj r i++dJ r.needs[i]! 0).length true),(13,.buf 3 [bj.D r.needs[i]!])]) (hc:=fun K' hK=>hB [F4] (kj r i) 2 15 _ _ K' (.inr ⟨3,true,cY,cY⟩) ai eo eo (.mk aU lJ (di.2 ⟨aU,fun _ h=>nomatch h⟩) mM) (by rw[show(kj r i)++cj [F4]=kj r i++dJ r.needs[i]! 0 from rfl];exact hK)) (hn:=aU) ?_;refine zg ?_;intro u1;refine zf hm (fun j=>[.u 2,.p 0 9,.p 2 2,.i i,.i r.needs.length,.u 1,.m 3 r.needs bj.D,.p 4 3,.i j,.i (r.needs[i]!.any.length:Nat),.u 1,.m 4 (r.needs[i]!.any) cZ.D,.u 18]) (fun j=>[(0,.buf 9 [Rec.D r]),(4,.buf 3 [bj.D r.needs[i]!]),(2,.bld (some 3) (kj r i++dJ r.needs[i]! j).length true),(3,.row (kj r i++dJ r.needs[i]! j))]) 20 (fun j=>j<=r.needs[i]!.any.length) (fun j=>r.needs[i]!.any.length-j) ae [(0,0),(13,4),(2,2),(16,3)] ?_;intro j hj;have q2:=Fl hnf j ae;refine zc ?_ ?_<;>intro hc1
  .refine dD ?_;have hwf:=hnf.1.2 _ (aq (show j<r.needs[i]!.any.length by omega));have q3:=Ib hwf;have q4:=hwf.1.1.1;have q5:=hwf.1.1.2.len;refine zg ?_;intro u2;refine dG ?_ ?_<;>intro hc2
   .refine dD ?_;refine aE (hc:=hA r.needs[i]!.any[j]!.feats [44] (by have:=hwf.2.1;omega) aU (fun t ht=>by have:=hwf.2.2 t ht;omega)) ?_;refine zc ?_ ?_<;>intro hc3
    .refine fk ?_;have hwl:cj [rq,r.needs[i]!.any[j]!.name,(ch [44] r.needs[i]!.any[j]!.feats),rl,r.needs[i]!.any[j]!.range]=jM r.needs[i]!.any[j]! :=by
      unfold jM sz;first|rw[ak (show r.needs[i]!.any[j]!.feats.length=0 by omega)]|rw[ah (show ¬r.needs[i]!.any[j]!.feats.length=0 by omega)]
      rw[hc3];rfl
     have hwj:=nY (n:=r.needs[i]!) (j:=j) ae;refine kn ?_;refine bc [(.str _),(.str _),(.str _),(.str _),(.str _)] ?_;refine dA (nx':=39) (v:=.tup []) (m':=[(45,.row (kj r i++dJ r.needs[i]! (j+1))),(0,.buf 9 [Rec.D r]),(4,.buf 3 [bj.D r.needs[i]!]),(2,.bld (some 45) (kj r i++dJ r.needs[i]! (j+1)).length true),(23,.buf 4 [cZ.D r.needs[i]!.any[j]!])]) (hc:=fun K' hK=>hB [rq,r.needs[i]!.any[j]!.name,(ch [44] r.needs[i]!.any[j]!.feats),rl,r.needs[i]!.any[j]!.range] (kj r i++dJ r.needs[i]! j) 2 44 _ _ K' (.inr ⟨3,true,cY,cY⟩) ai eo eo (.mk aU lJ (di.2 ⟨aU,di.2 ⟨ae,di.2 ⟨by first|omega|decide,di.2 ⟨aU,di.2 ⟨ae,fun _ h=>nomatch h⟩⟩⟩⟩⟩) mM) (by rw[show(kj r i++dJ r.needs[i]! j)++cj [rq,r.needs[i]!.any[j]!.name,(ch [44] r.needs[i]!.any[j]!.feats),rl,r.needs[i]!.any[j]!.range]=kj r i++dJ r.needs[i]! (j+1)from by rw[hwl,hwj,fm]];exact hK)) (hn:=aU) ?_;refine zg ?_;exact ij (j+1) [(0,0),(4,4),(2,2),(45,3)]
    refine cU ?_;have hwl:cj [rq,r.needs[i]!.any[j]!.name,(ch [44] r.needs[i]!.any[j]!.feats),rm,r.needs[i]!.any[j]!.range]=jM r.needs[i]!.any[j]! :=by
     unfold jM sz;first|rw[ak (show r.needs[i]!.any[j]!.feats.length=0 by omega)]|rw[ah (show ¬r.needs[i]!.any[j]!.feats.length=0 by omega)]
     rw[hc3];rfl
    have hwj:=nY (n:=r.needs[i]!) (j:=j) ae;refine kn ?_;refine bc [(.str _),(.str _),(.str _),(.str _),(.str _)] ?_;refine dA (nx':=38) (v:=.tup []) (m':=[(44,.row (kj r i++dJ r.needs[i]! (j+1))),(0,.buf 9 [Rec.D r]),(4,.buf 3 [bj.D r.needs[i]!]),(2,.bld (some 44) (kj r i++dJ r.needs[i]! (j+1)).length true),(23,.buf 4 [cZ.D r.needs[i]!.any[j]!])]) (hc:=fun K' hK=>hB [rq,r.needs[i]!.any[j]!.name,(ch [44] r.needs[i]!.any[j]!.feats),rm,r.needs[i]!.any[j]!.range] (kj r i++dJ r.needs[i]! j) 2 43 _ _ K' (.inr ⟨3,true,cY,cY⟩) ai eo eo (.mk aU lJ (di.2 ⟨aU,di.2 ⟨ae,di.2 ⟨by first|omega|decide,di.2 ⟨aU,di.2 ⟨ae,fun _ h=>nomatch h⟩⟩⟩⟩⟩) mM) (by rw[show(kj r i++dJ r.needs[i]! j)++cj [rq,r.needs[i]!.any[j]!.name,(ch [44] r.needs[i]!.any[j]!.feats),rm,r.needs[i]!.any[j]!.range]=kj r i++dJ r.needs[i]! (j+1)from by rw[hwl,hwj,fm]];exact hK)) (hn:=aU) ?_;refine zg ?_;exact ij (j+1) [(0,0),(4,4),(2,2),(44,3)]
   refine zc ?_ ?_<;>intro hc3
   .refine fk ?_;have hwl:cj [rq,r.needs[i]!.any[j]!.name,[45],rl,r.needs[i]!.any[j]!.range]=jM r.needs[i]!.any[j]! :=by
     unfold jM sz;first|rw[ak (show r.needs[i]!.any[j]!.feats.length=0 by omega)]|rw[ah (show ¬r.needs[i]!.any[j]!.feats.length=0 by omega)]
     rw[hc3];rfl
    have hwj:=nY (n:=r.needs[i]!) (j:=j) ae;refine kn ?_;refine bc [(.str _),(.str _),(.str _),(.str _),(.str _)] ?_;refine dA (nx':=35) (v:=.tup []) (m':=[(41,.row (kj r i++dJ r.needs[i]! (j+1))),(0,.buf 9 [Rec.D r]),(4,.buf 3 [bj.D r.needs[i]!]),(2,.bld (some 41) (kj r i++dJ r.needs[i]! (j+1)).length true),(23,.buf 4 [cZ.D r.needs[i]!.any[j]!])]) (hc:=fun K' hK=>hB [rq,r.needs[i]!.any[j]!.name,[45],rl,r.needs[i]!.any[j]!.range] (kj r i++dJ r.needs[i]! j) 2 40 _ _ K' (.inr ⟨3,true,cY,cY⟩) ai eo eo (.mk aU lJ (di.2 ⟨aU,di.2 ⟨ae,di.2 ⟨by first|omega|decide,di.2 ⟨aU,di.2 ⟨ae,fun _ h=>nomatch h⟩⟩⟩⟩⟩) mM) (by rw[show(kj r i++dJ r.needs[i]! j)++cj [rq,r.needs[i]!.any[j]!.name,[45],rl,r.needs[i]!.any[j]!.range]=kj r i++dJ r.needs[i]! (j+1)from by rw[hwl,hwj,fm]];exact hK)) (hn:=aU) ?_;refine zg ?_;exact ij (j+1) [(0,0),(4,4),(2,2),(41,3)]
   refine cU ?_;have hwl:cj [rq,r.needs[i]!.any[j]!.name,[45],rm,r.needs[i]!.any[j]!.range]=jM r.needs[i]!.any[j]! :=by
    unfold jM sz;first|rw[ak (show r.needs[i]!.any[j]!.feats.length=0 by omega)]|rw[ah (show ¬r.needs[i]!.any[j]!.feats.length=0 by omega)]
    rw[hc3];rfl
   have hwj:=nY (n:=r.needs[i]!) (j:=j) ae;refine kn ?_;refine bc [(.str _),(.str _),(.str _),(.str _),(.str _)] ?_;refine dA (nx':=34) (v:=.tup []) (m':=[(40,.row (kj r i++dJ r.needs[i]! (j+1))),(0,.buf 9 [Rec.D r]),(4,.buf 3 [bj.D r.needs[i]!]),(2,.bld (some 40) (kj r i++dJ r.needs[i]! (j+1)).length true),(23,.buf 4 [cZ.D r.needs[i]!.any[j]!])]) (hc:=fun K' hK=>hB [rq,r.needs[i]!.any[j]!.name,[45],rm,r.needs[i]!.any[j]!.range] (kj r i++dJ r.needs[i]! j) 2 39 _ _ K' (.inr ⟨3,true,cY,cY⟩) ai eo eo (.mk aU lJ (di.2 ⟨aU,di.2 ⟨ae,di.2 ⟨by first|omega|decide,di.2 ⟨aU,di.2 ⟨ae,fun _ h=>nomatch h⟩⟩⟩⟩⟩) mM) (by rw[show(kj r i++dJ r.needs[i]! j)++cj [rq,r.needs[i]!.any[j]!.name,[45],rm,r.needs[i]!.any[j]!.range]=kj r i++dJ r.needs[i]! (j+1)from by rw[hwl,hwj,fm]];exact hK)) (hn:=aU) ?_;refine zg ?_;exact ij (j+1) [(0,0),(4,4),(2,2),(40,3)]
  refine fk ?_;have hnA:=yD (n:=r.needs[i]!) (j:=j) ae;have w4:=nE hnf.2.1;have w5:=hnf.2.2;have w6:=hnf.2.1;refine zc ?_ ?_<;>intro hc4
  .refine cV ?_;have hwt:kf r.needs[i]!.when'=cj [xT,r.needs[i]!.when']:=ah hc4;refine cU ?_;refine bc [(.str _),(.str _)] ?_;refine dA (nx':=25) (v:=.tup []) (m':=[(27,.row (kj r i++(dJ r.needs[i]! j++kf r.needs[i]!.when'))),(0,.buf 9 [Rec.D r]),(4,.buf 3 [bj.D r.needs[i]!]),(2,.bld (some 27) (kj r i++(dJ r.needs[i]! j++kf r.needs[i]!.when')).length true)]) (hc:=fun K' hK=>hB [xT,r.needs[i]!.when'] (kj r i++dJ r.needs[i]! j) 2 26 _ _ K' (.inr ⟨3,true,cY,cY⟩) ai eo eo (.mk aU lJ (di.2 ⟨aU,di.2 ⟨ae,fun _ h=>nomatch h⟩⟩) mM) (by rw[show(kj r i++dJ r.needs[i]! j)++cj [xT,r.needs[i]!.when']=kj r i++(dJ r.needs[i]! j++kf r.needs[i]!.when')from by rw[hwt,fm]];exact hK)) (hn:=aU) ?_;refine zc ?_ ?_<;>intro hc5
   .refine cV ?_;have hot:xb r.needs[i]!.option=cj [nt,r.needs[i]!.option]:=ah hc5;refine cU ?_;refine bc [(.str _),(.str _)] ?_;refine dA (nx':=33) (v:=.tup []) (m':=[(35,.row (kj r (i+1))),(0,.buf 9 [Rec.D r]),(4,.buf 3 [bj.D r.needs[i]!]),(2,.bld (some 35) (kj r (i+1)).length true)]) (hc:=fun K' hK=>hB [nt,r.needs[i]!.option] (kj r i++(dJ r.needs[i]! j++kf r.needs[i]!.when')) 2 34 _ _ K' (.inr ⟨27,true,cY,cY⟩) ai eo eo (.mk aU lJ (di.2 ⟨aU,di.2 ⟨ae,fun _ h=>nomatch h⟩⟩) mM) (by rw[show(kj r i++(dJ r.needs[i]! j++kf r.needs[i]!.when'))++cj [nt,r.needs[i]!.option]=kj r (i+1)from by rw[mr ae,hnA,hot];simp only[fm,fZ]];exact hK)) (hn:=aU) ?_;refine zg ?_;exact ij (i+1) [(0,0),(2,2),(35,3)]
   refine dD ?_;have hno:xb r.needs[i]!.option=[]:=ak oJ;refine zg ?_;exact⟨i+1,ae,ae,(aY.to [(0,0),(2,2),(27,3)] ai ai OI (by refine bm.AA ai ai ai ?_;refine bm.bl 2 ai ai ai (aw List.length (by rw[mr ae,hnA,hno];simp only[fm,fZ])) rfl ?_;refine bm.rw 27 ai ai (by rw[mr ae,hnA,hno];simp only[fm,fZ]) ?_;exact bm.nil))⟩
  refine cU ?_;have hnw:kf r.needs[i]!.when'=[]:=ak (by simpa using hc4);refine zc ?_ ?_<;>intro hc5
  .refine cV ?_;have hot:xb r.needs[i]!.option=cj [nt,r.needs[i]!.option]:=ah hc5;refine cU ?_;refine bc [(.str _),(.str _)] ?_;refine dA (nx':=28) (v:=.tup []) (m':=[(30,.row (kj r (i+1))),(0,.buf 9 [Rec.D r]),(4,.buf 3 [bj.D r.needs[i]!]),(2,.bld (some 30) (kj r (i+1)).length true)]) (hc:=fun K' hK=>hB [nt,r.needs[i]!.option] (kj r i++dJ r.needs[i]! j) 2 29 _ _ K' (.inr ⟨3,true,cY,cY⟩) ai eo eo (.mk aU lJ (di.2 ⟨aU,di.2 ⟨ae,fun _ h=>nomatch h⟩⟩) mM) (by rw[show(kj r i++dJ r.needs[i]! j)++cj [nt,r.needs[i]!.option]=kj r (i+1)from by rw[mr ae,hnA,hot,hnw];simp only[fm,fZ]];exact hK)) (hn:=aU) ?_;refine zg ?_;exact ij (i+1) [(0,0),(2,2),(30,3)]
  refine dD ?_;have hno:xb r.needs[i]!.option=[]:=ak oJ;refine zg ?_;exact⟨i+1,ae,ae,(aY.to [(0,0),(2,2),(3,3)] ai ai OI (by refine bm.AA ai ai ai ?_;refine bm.bl 2 ai ai ai (aw List.length (by rw[mr ae,hnA,hno,hnw];simp only[fm,fZ])) rfl ?_;refine bm.rw 3 ai ai (by rw[mr ae,hnA,hno,hnw];simp only[fm,fZ]) ?_;exact bm.nil))⟩
 refine fk ?_;have h33:i=r.needs.length:=ae;subst h33;refine zg ?_;intro u3;refine fX hm (ι:=Nat) (fun i=>[.un,.un,⟨true,.ptr 0 9 0 0⟩,⟨true,.ptr 2 2 0 0⟩,.un,.un,.un,.un,.un,.un,.un,.un,.un,.un,.un,.un,.un,.un,.un,.un,⟨true,.int .i64 (i:Nat)⟩,⟨true,.int .i64 (r.bars.length:Nat)⟩,.un,⟨true,.sl 3 (r.bars.map mA.D)⟩,.un,.un,.un,.un,.un,.un,.un]) (fun i=>[(0,.buf 9 [Rec.D r]),(2,.bld (some 3) (DF r i).length true),(3,.row (DF r i))]) 10 (fun i=>i<=r.bars.length) (fun i=>r.bars.length-i) 0 ae (aY.to [(0,0),(2,2),(3,3)] ai ai OI (by refine bm.AA ai ai ai ?_;refine bm.bl 2 ai ai ai (aw List.length (by rw[Zs])) rfl ?_;refine bm.rw 3 ai ai (by rw[Zs]) ?_;exact bm.nil)) ?_;intro i hi;have q1:=H5 hft i hi;refine zc ?_ ?_<;>intro hc6
 .refine dD ?_;have q4:=hft.b _ (aq (show i<r.bars.length by omega));have q5:=q4.1;have q6:=q4.2.1.len;have q7:=q4.2.2.len;have hbt:Gt r.bars[i]! =cj [y0,r.bars[i]!.name,r.bars[i]!.range]++kf r.bars[i]!.when':=rfl;have hxb:=MY (r:=r) (i:=i) ae;have w7:=nE q7;refine uq ?_;refine bc [(.str _),(.str _),(.str _)] ?_;refine dA (nx':=16) (v:=.tup []) (m':=[(20,.row (DF r i++cj [y0,r.bars[i]!.name,r.bars[i]!.range])),(0,.buf 9 [Rec.D r]),(2,.bld (some 20) (DF r i++cj [y0,r.bars[i]!.name,r.bars[i]!.range]).length true),(13,.buf 3 [mA.D r.bars[i]!])]) (hc:=fun K' hK=>hB [y0,r.bars[i]!.name,r.bars[i]!.range] (DF r i) 2 19 _ _ K' (.inr ⟨3,true,cY,cY⟩) ai eo eo (.mk aU lJ (di.2 ⟨aU,di.2 ⟨ae,di.2 ⟨ae,fun _ h=>nomatch h⟩⟩⟩) mM) (by rw[show(DF r i)++cj [y0,r.bars[i]!.name,r.bars[i]!.range]=DF r i++cj [y0,r.bars[i]!.name,r.bars[i]!.range]from rfl];exact hK)) (hn:=aU) ?_;refine cU ?_;have w8:(cj [y0,r.bars[i]!.name,r.bars[i]!.range]).length<=2200000:=by unfold cj;simp only[ch,y0,cn,bD,b9];omega
  refine zc ?_ ?_<;>intro hc7
  .refine cV ?_;have hwt:kf r.bars[i]!.when'=cj [xT,r.bars[i]!.when']:=ah hc7;refine cU ?_;refine bc [(.str _),(.str _)] ?_;refine dA (nx':=26) (v:=.tup []) (m':=[(28,.row (DF r (i+1))),(0,.buf 9 [Rec.D r]),(2,.bld (some 28) (DF r (i+1)).length true),(13,.buf 3 [mA.D r.bars[i]!])]) (hc:=fun K' hK=>hB [xT,r.bars[i]!.when'] (DF r i++cj [y0,r.bars[i]!.name,r.bars[i]!.range]) 2 27 _ _ K' (.inr ⟨20,true,cY,cY⟩) ai eo eo (.mk aU lJ (di.2 ⟨aU,di.2 ⟨ae,fun _ h=>nomatch h⟩⟩) mM) (by rw[show(DF r i++cj [y0,r.bars[i]!.name,r.bars[i]!.range])++cj [xT,r.bars[i]!.when']=DF r (i+1)from by rw[hxb,hbt,hwt,fm]];exact hK)) (hn:=aU) ?_;refine zg ?_;exact ij (i+1) [(0,0),(2,2),(28,3)]
  refine dD ?_;have hno:kf r.bars[i]!.when'=[]:=ak (by simpa using hc7);refine zg ?_;exact⟨i+1,ae,ae,(aY.to [(0,0),(2,2),(20,3)] ai ai OI (by refine bm.AA ai ai ai ?_;refine bm.bl 2 ai ai ai (aw List.length (by rw[hxb,hbt,hno,fZ])) rfl ?_;refine bm.rw 20 ai ai (by rw[hxb,hbt,hno,fZ]) ?_;exact bm.nil))⟩
 refine fk ?_;have h33:i=r.bars.length:=ae;subst h33;refine zg ?_;intro u4;refine fX hm (ι:=Nat) (fun i=>[.un,.un,⟨true,.ptr 0 9 0 0⟩,⟨true,.ptr 2 2 0 0⟩,.un,.un,.un,.un,.un,.un,.un,.un,.un,.un,.un,.un,.un,.un,.un,.un,.un,.un,.un,.un,.un,.un,⟨true,.int .i64 (i:Nat)⟩,⟨true,.int .i64 (r.feats.length:Nat)⟩,.un,⟨true,.sl 2 (r.feats.map b6.D)⟩,.un]) (fun i=>[(0,.buf 9 [Rec.D r]),(2,.bld (some 3) (F1 r i).length true),(3,.row (F1 r i))]) 10 (fun i=>i<=r.feats.length) (fun i=>r.feats.length-i) 0 ae (aY.to [(0,0),(2,2),(3,3)] ai ai OI (by refine bm.AA ai ai ai ?_;refine bm.bl 2 ai ai ai (aw List.length (by rw[Zt])) rfl ?_;refine bm.rw 3 ai ai (by rw[Zt]) ?_;exact bm.nil)) ?_;intro i hi;have q1:=R4 hft i hi;refine zc ?_ ?_<;>intro hc8
 .refine dD ?_;have q4:=hft.f _ (aq (show i<r.feats.length by omega));have q5:=q4.1.1;have q6:=q4.2;have q8:∀t∈r.feats[i]!.of,t.length<=2097200:=fun t ht=>eX (q4.1.2.2 t ht) aU
  have hxf:=MZ (r:=r) (i:=i) ae;refine p9 ?_;refine bc [(.str _),(.str _)] ?_;refine cU ?_;refine xg (zs:=([jL,r.feats[i]!.name]++r.feats[i]!.of).map D.str) (n:=([jL,r.feats[i]!.name]++r.feats[i]!.of).length) (ha:=aF) (he:=nF.sl) (hz:=by rw[dI];rfl) (hn:=by simp<;>omega) (hb:=lJ) ?_;refine dA (nx':=16) (v:=.tup []) (m':=[(21,.row (F1 r (i+1))),(0,.buf 9 [Rec.D r]),(2,.bld (some 21) (F1 r (i+1)).length true),(13,.buf 2 [b6.D r.feats[i]!])]) (hc:=fun K' hK=>hB ([jL,r.feats[i]!.name]++r.feats[i]!.of) (F1 r i) 2 20 _ _ K' (.inr ⟨3,true,cY,cY⟩) ai eo eo (.mk (l:=r.feats[i]!.name::r.feats[i]!.of) aU lJ (di.2 ⟨aU,di.2 ⟨ae,q8⟩⟩) mM) (by rw[show(F1 r i)++cj ([jL,r.feats[i]!.name]++r.feats[i]!.of)=F1 r (i+1)from by rw[hxf];rfl];exact hK)) (hn:=aU) ?_;refine zg ?_;exact ij (i+1) [(0,0),(2,2),(21,3)]
 refine zg ?_;have h33:i=r.feats.length:=ae;subst h33;have hne:F1 r r.feats.length≠[]:=by
  rw[H6];unfold DC uB cj;simp[ch,pR]
 refine dA (nx':=11) (v:=.str (F1 r r.feats.length)) (m':=[(0,.buf 9 [Rec.D r])]) (hc:=fun K' hK=>hD _ _ K' ⟨2,F1 r r.feats.length,rfl,.inr ⟨3,true,cY,cY⟩,hne,hK⟩) (hn:=aU) ?_;refine zr ?_;exact H6 r
def L7:aj:=ba 93
def w218 (hA:C457 Y)(hB:C458 Y)(hC:C459 Y)(hD:C460 Y):Iv (cq Y L7):=fun r hp0=>by
 refine zg ?_;refine zf hm (fun i=>[.u 3,.i i,.p 0 9,.u 12]) (fun i=>[(0,.buf 9 [Rec.D r])]) 4 (fun i=>i<=r.needs.length/\lz r=gI (fun i=>js r r.needs[i]!) i r.needs.length) (fun i=>r.needs.length-i) ⟨ae,rfl⟩ [(0,0)] ?_;rintro i ⟨hi,hr⟩;refine zg ?_;intro u0;refine dG ?_ ?_<;>intro hc0
 .refine x9 ?_;refine aE (hc:=hA r r.needs[i]! (hp0.2.1 _ (aq ae))) ?_;refine zc ?_ ?_<;>intro hc1
  .refine zg ?_;refine fE (bS (aw (D.int .i64) ?_) (aw (D.int .i64) ?_));all_goals
    have hq:ea r=(js r r.needs[i]!,((i:Nat):Int)):=by
     exact LJ (by rw[hr,gJ ae hc1]) hc1
    rw[hq];first|done|rfl
  refine gD (i+1) [(0,0)] ?_;rw[hr,j5 ae hc1]
 refine fk ?_;have hn0:lz r=(0,0):=by rw[hr,j4 ae]
 refine zg ?_;refine zf hm (fun i=>[.u 4,.p 0 9,.u 3,.i i,.u 8]) (fun i=>[(0,.buf 9 [Rec.D r])]) 10 (fun i=>i<=r.bars.length/\uw r=gI (fun i=>rv r r.bars[i]!) i r.bars.length) (fun i=>r.bars.length-i) ⟨ae,rfl⟩ [(0,0)] ?_;rintro i ⟨hi,hr⟩;refine zg ?_;intro u1;refine dG ?_ ?_<;>intro hc2
 .refine x9 ?_;refine aE (hc:=hB r r.bars[i]! (hp0.2.2.1 _ (aq ae))) ?_;refine zc ?_ ?_<;>intro hc3
  .refine zg ?_;refine fE (bS (aw (D.int .i64) ?_) (aw (D.int .i64) ?_));all_goals
    have hq:ea r=(rv r r.bars[i]!,((i:Nat):Int)):=by
     exact CE hn0 (by rw[hr,gJ ae hc3]) hc3
    rw[hq];first|done|rfl
  refine gD (i+1) [(0,0)] ?_;rw[hr,j5 ae hc3]
 refine fk ?_;have hb0:uw r=(0,0):=by rw[hr,j4 ae]
 refine cU ?_;refine aE (hc:=hC r.feats hp0.2.2.2) ?_;refine zg ?_;refine aQ (fun hc4=>?_) (fun hc4=>?_)
 .try simp only[gF]at hc4
  refine zg ?_;refine fE (bS (aw (D.int .i64) ?_) (aw (D.int .i64) ?_));all_goals
   have hq:ea r=(11,0):=by
    exact LK hn0 hb0 hc4
   rw[hq];first|done|rfl
 simp only[df]at hc4;refine zg ?_;refine zf hm (fun i=>[.u 4,.p 0 9,.u 8,.i i,.u 3]) (fun i=>[(0,.buf 9 [Rec.D r])]) 20 (fun i=>i<=r.feats.length/\GG r=gI (fun i=>mE r r.feats[i]!.of) i r.feats.length) (fun i=>r.feats.length-i) ⟨ae,rfl⟩ [(0,0)] ?_;rintro i ⟨hi,hr⟩;refine zg ?_;intro u2;refine dG ?_ ?_<;>intro hc5
 .refine uq ?_;refine aE (hc:=hD r r.feats[i]!.of (jh.it hp0.2.2.2 _ (aq ae))) ?_;refine zc ?_ ?_<;>intro hc6
  .refine zg ?_;refine fE (bS (aw (D.int .i64) ?_) (aw (D.int .i64) ?_));all_goals
    have hq:ea r=(mE r r.feats[i]!.of,((i:Nat):Int)):=by
     exact xe hn0 hb0 hc4 (by rw[hr,gJ (f:=(fun i=>mE r r.feats[i]!.of)) ae hc6])
    rw[hq];first|done|rfl
  refine gD (i+1) [(0,0)] ?_;rw[hr,j5 (f:=(fun i=>mE r r.feats[i]!.of)) ae hc6]
 refine zg ?_;refine fE (bS (aw (D.int .i64) ?_) (aw (D.int .i64) ?_));all_goals
  have hq:ea r=(0,0):=by
   exact xe hn0 hb0 hc4 (by rw[hr,j4 ae])
  rw[hq];first|done|rfl
def L4:aj:=ba 50
def w71 (hA:Gj Y)(hB:Bv Y)(hC:C218 Y)(hD:C219 Y):y5 (cq Y L4):=fun r hp0=>by
 refine zg ?_;refine wp_cond (fun hc0=>?_) (fun hc0=>?_)
 .try simp only[gF]at hc0
  refine zg ?_;refine fE (bS (aw (D.int .i64) ?_) (aw (D.int .i64) ?_));all_goals (have hq:cS r=(4,0):=(by rw[cS,ak hc0]);rw[hq];first|done|rfl)
 simp only[df]at hc0;refine dD ?_;refine aE (hc:=hB r.v hp0.1.2) ?_;refine zg ?_;refine wp_cond (fun hc1=>?_) (fun hc1=>?_)
 .try simp only[gF]at hc1
  refine zg ?_;refine fE (bS (aw (D.int .i64) ?_) (aw (D.int .i64) ?_));all_goals (have hq:cS r=(5,0):=(by rw[cS,ah jB,ak hc1]);rw[hq];first|done|rfl)
 simp only[df]at hc1;refine zg ?_;intro u0;refine A3 ?_ ?_<;>intro hc2
 .refine zg ?_;refine fE (bS (aw (D.int .i64) ?_) (aw (D.int .i64) ?_));all_goals (have hq:cS r=(3,0):=(by rw[cS,ah jB,ah (by simp[hc1]),ak ae]);rw[hq];first|done|rfl)
 refine zg ?_;refine aQ (fun hc3=>?_) (fun hc3=>?_)
 .try simp only[gF]at hc3
  refine zg ?_;refine fE (bS (aw (D.int .i64) ?_) (aw (D.int .i64) ?_));all_goals
   have hq:cS r=ea r:=by
    exact pk hc0 hc1 ae ae rfl hc3
   rw[hq];first|done|rfl
 simp only[df,aW]at hc3;have hpz:ea r=(0,0):=LL hc3;have hgd:E9 r:=⟨⟨hc0,hc1⟩,⟨ae,ae⟩,hpz⟩;refine fP ?_;refine fO ?_;refine aP ?_;refine mf ?_;refine aE (hc:=hD r ⟨hgd,hp0⟩) ?_;refine CT fun u1=>?_;specialize u1 rfl rfl
 refine oS ?_;refine bp (env':=[_,_,_,_,_,_,_,_,_,_,⟨_,(.bool _)⟩]) ?_;refine dG ?_ ?_<;>intro hc4
 .refine zg ?_;refine fE (bS (aw (D.int .i64) ?_) (aw (D.int .i64) ?_));all_goals
   have hq:cS r=(3,0):=by
    rw[wo hc0 hc1 ae ae hpz,ak ae]
   rw[hq];first|done|rfl
 refine zg ?_;refine fE (bS (aw (D.int .i64) ?_) (aw (D.int .i64) ?_));all_goals
  have hq:cS r=(0,0):=by
   rw[wo hc0 hc1 ae ae hpz,ah ae]
  rw[hq];first|done|rfl
def qB:aj:=⟨2,12,[⟨2,none⟩],[[.sl 1 [.sl 4 [.a,.a,.sl 14 [.a,.a,.a,.a,.a,.a,.a,.a,.a,.a,.a,.a,.a,.a],.sl 14 [.a,.a,.a,.a,.a,.a,.a,.a,.a,.a,.a,.a,.a,.a]]]]],(sq (rg [gb 8 s0,gb 2 s1,gm (.c (.aK))] [(5,0),(3,1),(2,2)]) (sq (sq (r1 [gk 2 true s3,gn (.build [.str [],.str []] []),gn (.eqA false true [.s,.s] l0 l1)] 4 2) (.cond s4 (sq (r1 [gk 8 true s5,gn (.callM 751 [l0]),gm l1] 2 2) .ret) .skip)) (sq (r1 [gm (.c (.aK))] 10 0) (sq (sq (rg [gk 8 true s5,gk 2 true s3,gn (.callM 752 [l0,l1]),gl l2,gm x8] [(9,2),(7,3),(6,4)]) (.block 0 (.loop (sq (r1 [nX s6 s7] 8 0) (sq (gce s8 0) (sq (.block 1 (sq (r1 [ga 10 s9 s6,gk 10 true l0,gb 10 (.c (.agg [.str [],.int .i64 0,.int .i64 0,.int .i64 0,.str [],.str [],.aK,.aK,.aK,.int .i64 0])),gt 10 l2 l1] 11 2) (r1 [gm Un,gf 0 s11,gk 9 true l1,gf 2 s5,gk 3 true l3,gf 1 s3,gd l5,gx 753 [l2,l4,l6] [zzh1,[.a,.a,.a],[.a]],gn (.app 1 l0 l7),gm l8] 10 9))) (r1 [qu s6 Tk,gm l0] 6 1))))))) (sq (r1 [gm Un,gm l0] 2 1) .ret)))))⟩
def w748 {Y:Ctx}(hm:(Y.at 3).bV)(y:cx)(ns:List av)(k:Key)(hA:C751 (Y.at 3))(hB:C752 (Y.at 3))(hC:C753 (Y.at 3))(hp0:qa y/\kX y.e)(hp1:ns.length<=998):dn (Y.at 3) qB.body (uc qB (Kj y (jk ns k) (.sl 1 ((cT y k).map dL))):Ex->List aX->St->Prop) (fI qB [cx.D y (.ptr 0 2 0 0),Key.D k]) ⟨3,[(0,.buf 2 [eG 1 2 ns.length]),(1,.buf 1 (ns.map D.str)),(2,.buf 1 (de y ns))]⟩:=by
 show dn _ _ _ [⟨true,cx.D y (.ptr 0 2 0 0)⟩,⟨true,Key.D k⟩,.un,.un,.un,.un,.un,.un,.un,.un,.un,.un] ⟨3,[(0,.buf 2 [eG 1 2 ns.length]),(1,.buf 1 (ns.map D.str)),(2,.buf 1 (de y ns))]⟩;refine aP ?_;refine qL ?_;refine a8 (Key.D fD) ?_;refine zc ?_ ?_<;>intro hc0
 .refine dD ?_;refine dA (nx':=11) (v:=.sl 1 ((eC y.l).map dL)) (m':=[(10,.buf 1 ((ns).map D.str)),(11,.buf 1 (de y (ns))),(0,.buf 2 [eG 10 11 (ns).length]),(3,.buf 8 [cx.D y (.ptr 0 2 0 0)]),(4,.buf 2 [Key.D k])]) (hc:=fun K' hK=>hA y ns hp0.1.m (Sf hp0.1.p) _ 0 1 2 _ K' eo eo eo aU ⟨rfl,rfl,rfl⟩ hK) (hn:=aU) ?_;refine zg ?_;refine dY trivial jo (dc ai (?_)) ai ⟨by first|(rw[RP hc0];done)|(rw[RP hc0];exact rfl),10,11,⟨ae,ae,ae⟩,by rw[W2 hc0];refine⟨?_, ?_, ?_⟩<;>first|exact rfl|(rw[nb];exact rfl)|(rw[na];exact rfl)⟩;rfl
 refine p9 ?_;refine dA (nx':=12) (v:=uj (eF y k)) (m':=[(12,.buf 1 ((eL ns k.n).map D.str)),(13,.buf 1 (de y (eL ns k.n))),(0,.buf 2 [eG 12 13 (eL ns k.n).length]),(3,.buf 8 [cx.D y (.ptr 0 2 0 0)]),(4,.buf 2 [Key.D k])]) (hc:=fun K' hK=>hB y ns k hp0.1.p ae _ 0 1 2 _ K' eo eo eo aU ⟨rfl,rfl,rfl⟩ hK) (hn:=aU) ?_;refine cU ?_;intro u0;refine bp (env':=[_,_,_,_,_,_,⟨_,(.int _ _)⟩,⟨_,(.int _ _)⟩,_,⟨_,(.sl _ _)⟩,_,_]) ?_;refine zf hm (fun i=>[.u 3,.p 4 2,.u 1,.p 3 8,.i i,.i ((eF y k).length:Nat),.u 1,.m 10 (eF y k) ub.D,.o 7 1 (((eF y k).take i).flatMap fun x=>cH x.r y.e k.f).length,.u 1]) (fun i=>[(0,.buf 2 [eG 5 6 (eL ns k.n).length]),(5,.buf 1 ((eL ns k.n).map D.str)),(6,.buf 1 (de y (eL ns k.n))),(3,.buf 8 [cx.D y (.ptr 0 2 0 0)]),(4,.buf 2 [Key.D k]),(7,.buf 1 ((((eF y k).take i).flatMap fun x=>cH x.r y.e k.f).map dL))]) 20 (fun i=>i<=(eF y k).length) (fun i=>(eF y k).length-i) ae [(12,5),(13,6),(3,3),(4,4)] ?_;intro i hi;have hof:=(wY hp0.1.p k).1;have hrl:=ic (f:=fun x:ub=>cH x.r y.e k.f) (B:=385) (l:=(eF y k).take i) fun x hx=>(lA ((wY hp0.1.p k).2 x (DB hx)).1).1
 rw[ek]at hrl;refine zc ?_ ?_<;>intro hc1
 .refine kn ?_;refine cy _ ?_;refine cU ?_;obtain⟨hxp,hxv⟩:=aeR hp0.1 (k:=k) (i:=i) ae;have hql:=(lA (e:=y.e) (ft:=k.f) hxp).1;refine p9 ?_;refine oR (q:=dL) (xs:=(((eF y k).take i).flatMap fun x=>cH x.r y.e k.f)) (ys:=cH (eF y k)[i]!.r y.e k.f) (he:=nF.sl) (hb:=ae) ?_;refine zg ?_;rw[<-nL (f:=fun x:ub=>cH x.r y.e k.f) (l:=eF y k) (i:=i) ae];exact ij (i+1) [(3,3),(4,4),(5,5),(6,6),(33,7)]
 refine cU ?_;obtain rfl:i=(eF y k).length:=ae;rw[List.take_length];refine bB 7 ?_;refine zg ?_;refine dY trivial jo (dc ai (?_)) ai ⟨by first|(rw[RO hc0];done)|(rw[RO hc0];exact rfl),5,6,⟨ae,ae,ae⟩,by rw[N6 hc0];refine⟨?_, ?_, ?_⟩<;>first|exact rfl|(rw[nb];exact rfl)|(rw[na];exact rfl)⟩;rfl
def Pu:aj:=ba 73
def w355 {Y:Ctx}(hm:(Y.at 0).bV):IH (cq Y Pu):=fun x s=>by
 exact my
def Pv:aj:=ba 72
def w354 (hA:C355 Y):IG (cq Y Pv):=fun l s=>by
 refine zg ?_;intro u0;refine zf hm (fun i=>[.m 2 l bJ.D,.e (.fn 355 [.ref 2 [bJ.D s] 0 0]),.u 1,.i i,.i l.length,.u 1,.m 2 l bJ.D,.u 3]) (fun i=>[]) 4 (fun i=>i<=l.length/\mi l s.name=gu (Fb s.name) (l.drop i) i) (fun i=>l.length-i) ⟨ae,rfl⟩ [] ?_;rintro i ⟨hi,hr⟩;refine zc ?_ ?_<;>intro hc0
 .refine p9 ?_;refine cy _ ?_;refine fk ?_;refine Bm (hc:=fun _=>hA l[i]! s) ?_;refine zc ?_ ?_<;>intro hc1
  .refine zr ?_;rw[hr,kD ae hc1]
  refine gD (i+1) [] ?_;rw[hr,jj ae hc1]
 refine zr ?_;rw[hr,lX ae]
def Zj:aj:=ba 35
def w142 (hA:C353 Y)(hB:C354 Y):tl (cq Y Zj):=fun l hp0=>by
 refine zg ?_;intro u0;refine dG ?_ ?_<;>intro hc0
 .refine zr ?_;unfold eJ;rw[bG ae,Bool.false_and]
 refine zg ?_;intro u1;refine zf hm (fun i=>[.m 2 l bJ.D,.u 2,.i i,.i l.length,.u 1,.m 2 l bJ.D,.u 3]) (fun i=>[]) 7 (fun i=>i<=l.length/\eJ l=bU (AP l) i l.length) (fun i=>l.length-i) ⟨ae,by unfold eJ;rw[bo ae,ew]⟩ [] ?_;rintro i ⟨hi,hr⟩;refine zc ?_ ?_<;>intro hc1
 .refine uq ?_;refine bB 11 ?_ (he:=Z5) (hm:=Z5);refine cU ?_;refine aE (hc:=hA (l[i]!) (by first|assumption|omega|exact hp0 _ (aq ae)|exact hp0.1|exact hp0.2)) ?_;refine dD ?_;refine Rz [.ref 2 [bJ.D l[i]!] 0 0] ?_;refine zc ?_ ?_<;>intro hc2
  .refine zr ?_;rw[hr,az ae,Zl hc2];rfl
  refine gD (i+1) [] ?_;rw[hr,az ae,Uq ae hc2];rfl
 refine zr ?_;rw[hr,bA ae]
def Ma:aj:=ba 98
def w359:tC (cq Y Ma):=fun l nm=>by
 refine zg ?_;refine zf hm (fun i=>[.m 2 l bJ.D,.e (.str nm),.u 1,.i i,.u 2]) (fun i=>[]) 2 (fun i=>i<=l.length/\mi l nm=gu (Fb nm) (l.drop i) i) (fun i=>l.length-i) ⟨ae,rfl⟩ [] ?_;rintro i ⟨hi,hr⟩;refine zg ?_;intro u0;refine dG ?_ ?_<;>intro hc0
 .refine zc ?_ ?_<;>intro hc1
  .refine zr ?_;rw[hr,kD ae (by simpa[Fb]using hc1)]
  refine gD (i+1) [] ?_;rw[hr,jj ae (by simpa[Fb]using hc1)]
 refine zr ?_;rw[hr,lX ae]
def T0:aj:=ba 56
def w145 (hA:SC Y)(hB:C359 Y):tl (cq Y T0):=fun l hp0=>by
 refine zg ?_;intro u0;refine dG ?_ ?_<;>intro hc0
 .refine zr ?_;unfold eJ;rw[bG ae,Bool.false_and]
 refine zg ?_;refine zf hm (fun i=>[.m 2 l bJ.D,.u 2,.i i,.u 2]) (fun i=>[]) 5 (fun i=>i<=l.length/\eJ l=bU (AP l) i l.length) (fun i=>l.length-i) ⟨ae,by unfold eJ;rw[bo ae,ew]⟩ [] ?_;rintro i ⟨hi,hr⟩;refine zg ?_;intro u1;refine dG ?_ ?_<;>intro hc1
 .refine qL ?_;refine aE (hc:=hA ((l)[i]!) (by first|assumption|omega|exact hp0 _ (aq ae)|exact hp0.1|exact hp0.2)) ?_;refine zc ?_ ?_<;>intro hc2
  .refine zr ?_;rw[hr,az ae,adM hc2];rfl
  refine gD (i+1) [] ?_;rw[hr,az ae,MO hc2];rfl
 refine zr ?_;rw[hr,bA ae]
def Pt:aj:=ba 78
def w274 {Y:Ctx}(hm:(Y.at 0).bV)(hA:C353 Y)(hB:C511 Y):tw (cq Y Pt):=fun s nm v hp0=>by
 refine zc ?_ ?_<;>intro hc0
 .refine zr ?_;unfold jE;rw[ak hc0]
 refine kn ?_;refine aE (hc:=hB (s.es) (nm) (v) (by first|assumption|omega|exact hp0.1|exact⟨fun x hx=>(hp0.1 x hx).1.2,hp0.2⟩)) ?_;refine zr ?_;unfold jE;rw[ah (by rw[hc0];simp)]
def OV:aj:=ba 110
def w695 {Y:Ctx}(hm:(Y.at 0).bV)(hA:SC Y)(hB:UX Y):tw (cq Y OV):=fun s nm v hp0=>by
 refine zc ?_ ?_<;>intro hc0
 .refine zr ?_;unfold jE;rw[ak hc0]
 refine kn ?_;refine aE (hc:=hB (s.es) (nm) (v) (by first|assumption|omega|exact hp0.1|exact⟨fun x hx=>(hp0.1 x hx).1.2,hp0.2⟩)) ?_;refine zr ?_;unfold jE;rw[ah (by rw[hc0];simp)]
def cmp_isNaN_int:aj:=ba 164
def w714 {Y:Ctx}(hm:(Y.at 0).bV):Jy (cq Y cmp_isNaN_int):=fun x=>by
 refine p9 ?_;refine bp (env':=[_,⟨_,(.bool _)⟩]) ?_;refine zr ?_;simp
def Ej:aj:=ba 161
def w704 {Y:Ctx}(hm:(Y.at 0).bV):Jx (cq Y Ej):=fun x=>by
 refine p9 ?_;refine bp (env':=[_,⟨_,(.bool _)⟩]) ?_;refine zr ?_;simp
def cmp_Compare_int:aj:=ba 117
def w532 {Y:Ctx}(hm:(Y.at 0).bV)(hA:C714 Y):tJ (cq Y cmp_Compare_int):=fun a b=>by
 refine zg ?_;refine aQ (t:=false) (fun h=>bZ) (fun _=>?_);refine zg ?_;refine aQ (t:=false) (fun h=>bZ) (fun _=>?_);refine zc ?_ ?_<;>intro hc3
 .refine zr ?_;simp[dh,hc3]
 refine zc ?_ ?_<;>intro hc4
 .refine zr ?_;unfold dh;rw[ah hc3,ak hc4]
 refine zr ?_;unfold dh;rw[ah hc3,ah hc4]
def Au:aj:=ba 112
def w516 {Y:Ctx}(hm:(Y.at 0).bV)(hA:C704 Y):tI (cq Y Au):=fun a b=>by
 refine zg ?_;refine aQ (t:=false) (fun h=>bZ) (fun _=>?_);refine zg ?_;refine aQ (t:=false) (fun h=>bZ) (fun _=>?_);refine zc ?_ ?_<;>intro hc3
 .refine zr ?_;simp[pn,hc3]
 refine zc ?_ ?_<;>intro hc4
 .refine zr ?_;simp_all[pn]
 refine zr ?_;simp_all[pn]
def agK:aj:=ba 111
def w531:Jc (cq Y agK):=fun l=>by
 refine zg ?_;intro u0;refine zf hm (fun i=>[.u 2,.i i,.i l.length,.u 1,.m 1 l (D.int .i64),.u 1,.i 0,.u 1]) (fun i=>[]) 5 (fun i=>i<=l.length/\fM (fun i=>l[i]!) 0 l.length=fM (fun i=>l[i]!) i l.length) (fun i=>l.length-i) ⟨ae,rfl⟩ [] ?_;rintro i ⟨hi,hr⟩;refine zc ?_ ?_<;>intro hc0
 .refine zc ?_ ?_<;>intro hc1
  .refine zr ?_;rw[hr,lq ae hc1]
  refine gD (i+1) [] ?_;rw[hr,py ae hc1]
 refine zr ?_;rw[hr,px ae]
def H8:aj:=ba 116
def w530 {Y:Ctx}(hm:(Y.at 0).bV):Jb (cq Y H8):=fun v=>by
 refine uq ?_;refine cy _ ?_;exact my
def M6:aj:=ba 119
def w534 {Y:Ctx}(hm:(Y.at 0).bV)(hA:C516 Y)(hB:C532 Y)(hC:C658 Y)(hD:C659 Y):tL (cq Y M6):=fun a b=>by
 refine zc ?_ ?_<;>intro hc0
 .refine zr ?_;unfold xP;rw[ak hc0]
 refine zg ?_;refine aQ (fun hc1=>?_) (fun hc1=>?_)
 .simp only[cz,cv]at hc1;refine zc ?_ ?_<;>intro hc2
  .refine zr ?_;have hn:¬(cK a=true/\cK b=true):=by rintro⟨h1,h2⟩;simp[h1,h2]at hc0
   unfold xP;rw[ah hn];rw[ak hc2]
  refine zr ?_;have hn:¬(cK a=true/\cK b=true):=by rintro⟨h1,h2⟩;simp[h1,h2]at hc0
  unfold xP;rw[ah hn];rw[ah (by simp[hc2]),ak (by cases h:cK b with|true=>rfl|false=>exact absurd (hc2.trans h.symm) hc1)]
 simp only[df,aW]at hc1;refine zr ?_;have hn:¬(cK a=true/\cK b=true):=by rintro⟨h1,h2⟩;simp[h1,h2]at hc0
 unfold xP;rw[ah hn];have h1:cK a=false:=by cases h:cK a with|false=>rfl|true=>exact absurd ⟨h,hc1▸h⟩ hn
 rw[ah (by simp[h1]),ah (by rw[<-hc1];simp[h1])]
def O9:aj:=ba 223
def w1009 (hA:C908 Y)(hB:aed Y):DV (cq Y O9):=fun n hp0=>by
 refine x9 ?_;have hna:=hp0.1.1;refine zg ?_;intro u0;refine dG ?_ ?_<;>intro hc0
 .refine dD ?_;have hul:=(oc n.any[0]!).2;have hfl:=hp0.1.2 _ (aq (show 0<n.any.length by omega));refine cU ?_;refine cF 0 (hj:=fun _=>rfl) (hb:=fun _=>ae) ?_;refine zg ?_;intro u1;refine zf hm (fun i=>[.u 2,.p 1 3,.u 1,.i i,.i ((eV n.any[0]!).length:Nat),.u 1,.m 2 (eV n.any[0]!) Key.D,.o 0 1 (yU n i).length,.u 4]) (fun i=>[(0,.buf 1 ((yU n i).map dL)),(1,.buf 3 [bj.D n])]) 14 (fun i=>i<=(eV n.any[0]!).length) (fun i=>(eV n.any[0]!).length-i) ae [(0,1)] ?_;intro i hi;have hrl:=Za n i;refine zc ?_ ?_<;>intro hc1
  .refine EO ?_;refine cF 0 (hj:=fun _=>rfl) (hb:=fun _=>ae) ?_;refine cU ?_;refine aE (hc:=hA (n.any[0]!.range) P1) ?_;refine a8 (je.D (⟨(eV n.any[0]!)[i]!,eU n.any[0]!.range⟩:je)) ?_;refine bc [je.D (⟨(eV n.any[0]!)[i]!,eU n.any[0]!.range⟩:je)] ?_;refine bc [.own 28 4 0 1] ?_;refine xg ((yU n i).map dL++[.own 28 4 0 1]) (n:=((yU n i)++[[(⟨(eV n.any[0]!)[i]!,eU n.any[0]!.range⟩:je)]]).length) (ha:=lL) (he:=nF.own rfl (by first|rfl|simp)) (hz:=xY) (hn:=D8) (hb:=Ea) ?_;refine dD ?_;refine bB 28 ?_ (he:=lj) (hm:=lj);refine zg ?_;rw[pg,show yU n i++[[(⟨(eV n.any[0]!)[i]!,eU n.any[0]!.range⟩:je)]]=yU n (i+1)from aj4 ae];exact ij (i+1) [(30,0),(1,1)]
  refine dD ?_;obtain rfl:i=(eV n.any[0]!).length:=ae;rw[aj3 hc0];refine bB 0 ?_ (he:=lj) (hm:=lj);exact my
 refine zg ?_;refine zf hm (fun i=>[.u 2,.p 1 3,.u 5,.e .aK,.u 1,.i i,.u 1,.o 0 4 (AH n i).length]) (fun i=>[(0,.buf 4 ((AH n i).map je.D)),(1,.buf 3 [bj.D n])]) 9 (fun i=>i<=n.any.length) (fun i=>n.any.length-i) ae [(0,1)] ?_;intro i hi;have hol:=XG n i;refine zg ?_;intro u2;refine dG ?_ ?_<;>intro hc2
 .refine dD ?_;have hul:=(oc n.any[i]!).1;refine kn ?_;refine aE (hc:=hB ((n.any)[i]!) P1) ?_;refine p9 ?_;refine aE (hc:=hA ((n.any)[i]!.range) P1) ?_;refine a8 (je.D (XH n.any[i]!)) ?_;refine bc [je.D (XH n.any[i]!)] ?_;refine cI (q:=je.D) (xs:=AH n i) (e:=XH n.any[i]!) (hb:=ae) ?_;refine zg ?_;rw[ai4 ae];exact ij (i+1) [(32,0),(1,1)]
 refine cU ?_;obtain rfl:i=n.any.length:=ae;refine bB 0 ?_ (he:=lj) (hm:=lj);refine dD ?_;refine bc [dL (AH n n.any.length)] ?_;refine yM (ys:=[dL (AH n n.any.length)]) (n:=1) (he:=nF.all rfl rfl) (hn:=rfl) (hb:=ae) ?_;refine cU ?_;refine bB 17 ?_;refine zr ?_;rw[<-ai3 hc0];rfl
def T8:aj:=ba 130
def w249:Iw (cq Y T8):=fun l x hp0=>by
 refine zg ?_;refine zf hm (fun i=>[.m 1 l D.str,.e (.int .u8 (x.toNat:Nat)),.u 1,.i i,.u 2,.e (.str (ch [x] (l.take i)))]) (fun i=>[]) 3 (fun i=>i<=l.length) (fun i=>l.length-i) ae [] ?_;intro i hi;refine zg ?_;intro u0;refine dG ?_ ?_<;>intro hc0
 .refine fk ?_;have hj:=Fc [x] l (i+1);refine zg ?_;refine aQ (fun hc1=>?_) (fun hc1=>?_)
  .simp only[aW]at hc1;have ht:=Ch [x] l i ae;rw[ak ae]at ht;have htl:=aw List.length ht;simp only[cn,List.length_singleton]at htl;refine dD ?_;refine bc [.int .u8 _] ?_;refine Yq [x] (he:=fun _=>nF.all ai rfl) (hs:=fun _=>rfl) ?_;refine zg ?_;exact⟨i+1,ae,ae,(aY.to [] ai ai (by repeat(first|exact fq.nil|refine fq.un ?_|refine fq.eq ai ?_|refine fq.nl (aw D.str (by rw[ht])) ai ?_)) CO)⟩
  simp only[cv]at hc1;have ht:=Ch [x] l i ae;rw[ah ae]at ht;have htl:=aw List.length ht;simp only[cn,b9]at htl;have hi0:i=0:=ae;refine qL ?_;refine OJ (hb:=fun _=>by first|(simp only[cn,List.length_singleton];omega)|(subst hi0;simp only[List.take_zero,ch,b9]at htl⊢;omega)) ?_;refine zg ?_;exact⟨i+1,ae,ae,(aY.to [] ai ai (by repeat(first|exact fq.nil|refine fq.un ?_|refine fq.eq ai ?_|refine fq.nl (aw D.str (by rw[ht];subst hi0;rfl)) ai ?_)) CO)⟩
 refine zr ?_;rw[gK ae]
def Mp:aj:=ba 211
def w815:JG (cq Y Mp):=fun l=>by
 refine zg ?_;refine zfx hm (1:Nat) (fun i=>[.m 1 l D.str,.u 1,.i i,.u 2]) (fun i=>[]) 2 (fun i=>1<=i/\(i<=l.length\/i=1)/\rising l=bU (fun i=>Op.bytesLess l[i-1]! l[i]!) i l.length) (fun i=>l.length-i) ⟨ae,ae,rfl⟩ [] ?_;rintro i ⟨h1,hi,hr⟩;refine zg ?_;intro u0;refine dG ?_ ?_<;>intro hc0
 .refine kn ?_;refine cF (i-1) ?_;refine zg ?_;refine wp_cond (fun hc1=>?_) (fun hc1=>?_)
  .simp only[cz]at hc1;refine zr ?_;rw[hr,az ae,hc1];rfl
  simp only[df]at hc1;refine zl (i+1) [] ?_;exact⟨ae,ae,by rw[hr,az ae,hc1];rfl⟩
 refine zr ?_;rw[hr,bA ae]
def Pa:aj:=ba 146
def w750 (hA:C903 Y):JA (cq Y Pa):=fun all l hp0=>by
 refine zg ?_;intro u0;refine zf hm (fun i=>[.m 2 all Key.D,.u 2,.i i,.i l.length,.u 1,.m 1 l dL,.u 7,.o 0 1 (dy all (l.take i)).length]) (fun i=>[(0,.buf 1 ((dy all (l.take i)).map jv))]) 5 (fun i=>i<=l.length) (fun i=>l.length-i) ae [] ?_;intro i hi;have htl:=Uw all l i;refine zc ?_ ?_<;>intro hc0
 .refine fk ?_;refine c7 (v:=.sl 4 (((l)[i]!).map je.D)) (hi:=fun hf=>cg) ?_;refine dD ?_;have hrl:=hp0.2 _ (aq (show i<l.length by omega));refine zg ?_;intro u1;refine zf hm (fun j=>[.m 2 all Key.D,.u 2,.i i,.i l.length,.u 1,.m 1 l dL,.u 1,.i j,.i (l[i]!.length:Nat),.u 1,.m 4 (l[i]!) je.D,.o 1 3 (ri all l[i]! j).length,.u 1,.o 0 1 (dy all (l.take i)).length]) (fun j=>[(0,.buf 1 ((dy all (l.take i)).map jv)),(1,.buf 3 ((ri all l[i]! j).map Want.D))]) 13 (fun j=>j<=l[i]!.length) (fun j=>l[i]!.length-j) ae [(0,0)] ?_;intro j hj;have htl2:=Ux all l[i]! j;refine zc ?_ ?_<;>intro hc1
  .refine kn ?_;refine cy _ ?_;refine x9 ?_;refine a8 (Want.D ⟨ec all l[i]![j]!.k,l[i]![j]!.s⟩) ?_;refine bc [Want.D ⟨ec all l[i]![j]!.k,l[i]![j]!.s⟩] ?_;refine cI (q:=Want.D) (xs:=ri all l[i]! j) (e:=⟨ec all l[i]![j]!.k,l[i]![j]!.s⟩) (hb:=ae) ?_;refine zg ?_;rw[adU ae];exact ij (j+1) [(0,0),(27,1)]
  refine cU ?_;obtain rfl:j=l[i]!.length:=ae;refine bB 1 ?_ (he:=J1) (hm:=J1);refine dD ?_;refine bc [jv (ri all l[i]! l[i]!.length)] ?_;refine cI (q:=jv) (xs:=dy all (l.take i)) (e:=ri all l[i]! l[i]!.length) (hb:=ae) ?_;refine zg ?_;rw[adT ae];exact ij (i+1) [(17,0)]
 refine cU ?_;obtain rfl:i=l.length:=ae;rw[List.take_length];refine bB 0 ?_ (he:=J1) (hm:=J1);exact my
def se:aj:=ba 240
def w450 {Y:Ctx}(hm:(Y.at 3).bV)(ws:List av)(t:av)(m0:List (Nat×bd))(hA:C242 (Y.at 3))(hB:C489 (Y.at 3))(hC:C664 (Y.at 3))(hp0:ur m0 0 t)(hp1:look m0 1=some (.buf 1 (ws.map D.str)))(hp2:Gk ws t):dn (Y.at 3) se.body (uc se (fun d m=>d=.tup []/\look m 0=some (.bld (some 9) (t++cj ws).length true)/\look m 9=some (.row (t++cj ws))):Ex->List aX->St->Prop) (fI se [.ptr 0 2 0 0,.own 1 1 0 ws.length]) ⟨3,m0⟩:=by
 show dn _ _ _ [⟨true,.ptr 0 2 0 0⟩,⟨true,.own 1 1 0 ws.length⟩] ⟨3,m0⟩;obtain⟨⟨q1,q2⟩,q3,q4⟩:=hp2;have hlt:t++cj ws=t++ch [32] ws++[10]:=by unfold cj;simp
 refine aP ?_;refine cU ?_;refine aE (hc:=hA ws [32] q2 aU q3) (ha:=fun _=>aw (fun d=>[d,D.str [32]]) (th (q:=D.str) (fun _=>rfl) hp1)) (hp:=fun _=>⟨pT (q:=D.str) (fun _=>rfl) hp1,rfl,trivial⟩) ?_;refine dA (nx':=4) (v:=.any) (m':=rA m0 0 6 (t++ch [32] ws)) (hc:=fun K' hK=>hB _ _ K' ⟨_,0,t,rfl,hp0,jd (by decide:0<3) (Nat.le_add_right _ _),q1,ae,hK⟩) (hn:=aU) ?_;refine dD ?_;refine dA (nx':=9) (v:=.any) (m':=rA (rA m0 0 6 (t++ch [32] ws)) 0 9 (t++ch [32] ws++[10])) (hc:=fun K' hK=>hC _ _ K' ⟨10,0,t++ch [32] ws,rfl,abj aU,jd (by decide:0<8) (Nat.le_add_right _ _),aF,by rw[cn];exact q4,hK⟩) (hn:=aU) ?_;refine zg ?_

 refine dY trivial jo (dc ai (?_)) ai ⟨rfl,by rw[hlt];exact(yw aU).1,by rw[hlt];exact(yw aU).2⟩;rfl
def C1:aj:=ba 65
def w507:I8 (cq Y C1):=fun w c nm hp0=>by
 refine zg ?_;refine zfx hm (1:Nat) (fun i=>[.u 1,.m 1 c (D.int .i64),.e (.str nm),.u 1,.i i,.p 1 1,.u 2,.o 0 1 (fL w.us c nm i).length]) (fun i=>[(0,.buf 1 ((fL w.us c nm i).map D.str)),(1,.buf 1 [bT.D w])]) 4 (fun i=>1<=i/\i<=w.us.length) (fun i=>w.us.length-i) ⟨ae,ae⟩ [(0,1)] ?_;rintro i ⟨hi0,hi⟩;have hfl:=va (us:=w.us) (c:=c) nm i;refine zg ?_;intro u0;refine dG ?_ ?_<;>intro hc0
 .refine zc ?_ ?_<;>intro hc1
  .refine p9 ?_;refine bc [.str w.us[i]!.feat] ?_;refine cI (q:=D.str) (xs:=fL w.us c nm i) (e:=w.us[i]!.feat) (hb:=ae) ?_;refine zg ?_;rw[<-Wk (us:=w.us) (c:=c) (i:=i) ⟨ae,hc1⟩];refine gD (i+1) [(41,0),(1,1)] ?_;omega
  refine zg ?_;rw[<-Wj (us:=w.us) (c:=c) (i:=i) (nm:=nm) (by rintro⟨_,⟨h1,h2⟩,h3⟩;rcases hc1 with(h|h)|h;exact h h1;exact h2 h;exact h h3)];refine gD (i+1) [(0,0),(1,1)] ?_;omega
 refine cU ?_;obtain rfl:i=w.us.length:=ae;refine bB 0 ?_;exact my
def L5:aj:=ba 42
def w73 {Y:Ctx}(hm:(Y.at 0).bV)(hA:C71 Y)(hB:C219 Y):y6 (cq Y L5):=fun r hp0=>by
 refine zc ?_ ?_<;>intro hc0
 .refine zg ?_;refine fE (bS (aw D.str ?_) (aw (D.int .i64) ?_));all_goals
   simp[fh,hc0]
 refine cU ?_;have hgd:=lS hc0;refine zg ?_;refine fE (bS (aw D.str ?_) (aw (D.int .i64) ?_));all_goals
  simp[fh,hc0]
def TV:aj:=ba 18
def w75 {Y:Ctx}(hm:(Y.at 0).bV)(hA:C73 Y)(hB:C221 Y):y7 (cq Y TV):=fun r hp0=>by
 refine zc ?_ ?_<;>intro hc0
 .refine zg ?_;refine fE (bS (aw (D.int .u64) ?_) (aw (D.int .i64) ?_));all_goals
   simp[vL,hc0]
 refine fk ?_;refine aE (hc:=hB (fh r).1) (ha:=fun _=>aw (fun d=>[d]) (th (q:=fun b:UInt8=>D.int .u8 b.toNat) (fun _=>rfl) ai)) (hp:=fun _=>⟨pT (q:=fun b:UInt8=>D.int .u8 b.toNat) (fun _=>rfl) ai,trivial⟩) ?_;refine zg ?_;refine fE (bS (aw (D.int .u64) ?_) (aw (D.int .i64) ?_));all_goals
  simp[vL,hc0]
def EG:aj:=ba 152
def w829 {Y:Ctx}(hm:(Y.at 0).bV):JI (cq Y EG):=fun al u p hp0=>by
 refine cV ?_;subst hp0;refine ib ?_;intro u0;refine cF 0 (hj:=fun hf=>Bool.noConfusion hf) (hb:=fun hf=>Bool.noConfusion hf) ?_;refine c7 (v:=.int .i64 0) (hi:=fun hf=>Bool.noConfusion hf) (hv:=fun hf=>Bool.noConfusion hf) ?_;refine cV ?_;refine lO (hb:=fun hf=>Bool.noConfusion hf) ?_;refine qY 0 (hb:=fun hf=>Bool.noConfusion hf) ?_;refine FB 0 (hn:=fun hf=>Bool.noConfusion hf) (hb:=fun hf=>Bool.noConfusion hf) ?_;refine CR 0 (hb:=fun hf=>Bool.noConfusion hf) ?_;refine fk ?_;refine bp (env':=[_,_,_,⟨_,(.bool _)⟩]) ?_;exact my
def OQ:aj:=ba 222
def w955:JT (cq Y OQ):=fun l nm=>by
 refine zg ?_;refine zf hm (fun i=>[.m 2 l b6.D,.e (.str nm),.u 1,.i i,.u 2]) (fun i=>[]) 2 (fun i=>i<=l.length/\findF l nm 0=findF l nm i) (fun i=>l.length-i) ⟨ae,rfl⟩ [] ?_;rintro i ⟨hi,hr⟩;refine zg ?_;intro u0;refine dG ?_ ?_<;>intro hc0
 .refine zc ?_ ?_<;>intro hc1
  .refine zr ?_;rw[hr,Wm ae hc1]
  refine gD (i+1) [] ?_;rw[hr,Wn ae hc1]
 refine zr ?_;rw[hr,S5 ae]
end Go.Abs
end
