/- A part of the proofs. -/
import Derived.Test.YtfijeeijkndliaaGreatDoorP07
set_option linter.all false
set_option maxRecDepth 60000
set_option maxHeartbeats 2000000
namespace Go.Abs
variable {Y:Ctx}(hm:(Y.at 0).cP)
noncomputable def ki:aN:=dy 69
def w222 {Y:Ctx}(hm:(Y.at 1).cP)(h466:Yr (Y.at 1))(h467:VA (Y.at 1))(h468:NV (Y.at 1))(h469:Ys (Y.at 1))(h9465:wX (Y.at 1))(r:Ld)  (hp0:r.sm):cg (Y.at 1) ki.body (VW ki 2 (.tup [Rec.D (gF r.rest).1,.bool (pA r.rest).isSome]) (Ld.D (r.to (gF r.rest).2)):Ex->List cA->St->Prop) (gz ki (.ptr 0 2 0 0::[])) ⟨1,[(0,.buf 2 [(Ld.D r)])]⟩:=by
 show cg _ _ _ [⟨true,.ptr 0 2 0 0⟩,.un,.un,.un,.un,.un,.un,.un,.un,.un,.un,.un,.un,.un,.un,.un,.un,.un,.un,.un] ⟨1,[(0,.buf 2 [(Ld.D r)])]⟩;have hself:=Ld.Kg hp0;have hq1:=r.F6;have hll:=hp0.1.2;refine ay ?_;refine aU ?_;refine r_mkf _ ?_;refine aF ?_;rw[show Ld.D r=Ld.D (r.to r.rest)by rw[hself]];refine aE ?_;refine p0 (n:=1000465) (am7:=[.ptr 0 2 0 0,.str ee,.int .i64 ((3:Nat):Int),.bool false]) (ι:=Unit) (fun _=>True) (fun _=>.tup [Bl (cu ee 3 false r.rest),.bool (cu ee 3 false r.rest).isSome]) 6 (fun _=>[(0,.buf 2 [Ld.D (r.to (fI ee 3 false r.rest))]),(1,.buf 9 [dM])]) (fun _ _=>?_) (hc:=fun K' hK=>CZ h9465 hp0 hq1 (w:=ee) (n:=3) (op:=false) aG aG ah (hK () trivial)) (hn:=aG);refine aE ?_;refine fJ _ ?_;refine dJ ?_;refine az (fun hc0=>?_) (fun hc0=>?_)
 .simp only[bE]at hc0;have hq:=kX hc0;have hnr:fI ee 3 false r.rest=r.rest:=by simp only[fI,hq]
  rw[hnr];have hrp:pA r.rest=none:=by simp only[pA,hq]
  have hrv:gF r.rest=(lh,r.rest):=by simp only[gF,hrp]
  rw[hrv,hrp];refine aD ?_;refine bj dM ?_;refine aR dM (he:=aW) ?_;refine aD ?_;refine mR [(0,.buf 2 [Ld.D (r.to r.rest)]),(1,.buf 9 [Rec.D lh])] (.id ah (.bf ah (.cons nU .nil) .nil)) ?_;refine aE ?_;refine js trivial CB (cn ah (aS ?_ ?_)) ah ah ah;all_goals rfl
 simp only[cq]at hc0;obtain⟨⟨l,q0⟩,hq⟩:=kY hc0;have hnr:fI ee 3 false r.rest=q0:=by simp only[fI,hq]
 obtain⟨hl,hlm,hq0,hqp⟩:=ra hp0 hq1 hq;rw[hnr,hq];obtain hl:l.length=3:=by rcases hl with h|h;cases h;exact h
 refine aF ?_;refine bz 2 (hb:=fun _=>ae) ?_;refine bp (v:=.str l[2]!) (hi:=fun _=>ae) ?_;refine au (hc:=h466 l[2]! (hlm _ (bL ae))) ?_;refine aE ?_;refine fJ (dz.D _) ?_;refine aD ?_;refine aR (dz.D ((hH l[2]!).getD hX)) (he:=aW) ?_;refine bw ?_;refine az (fun hc1=>?_) (fun hc1=>?_)
 .simp only[bE,bC]at hc1;have hv:=ai3 hc1;have hrp:pA r.rest=none:=by simp only[pA,hq,hv]
  have hrv:gF r.rest=(lh,r.rest):=by simp only[gF,hrp]
  rw[hrv,hrp];obtain⟨t,hpt,_⟩:=eL hq;refine aD ?_;obtain⟨hab1,hab2⟩:=(hp0.to q0).1;refine aF ?_;refine aV (v:=.int .i64 ((r.to q0).at':Nat)) ?_;refine aF ?_;refine aR (Ld.D (r.to r.rest)) (he:=by rw[hpt];exact Ld.back (hpt▸hq1)) ?_;refine aF ?_;refine bj dM ?_;refine aR dM (he:=aW) ?_;refine aD ?_;refine mR [(0,.buf 2 [Ld.D (r.to r.rest)]),(1,.buf 9 [Rec.D lh]),(22,.buf 5 [dz.D ((hH l[2]!).getD hX)])] (.id ah (.bf ah (.cons nU .nil) (.id ah .nil))) ?_;refine aE ?_;refine js trivial CB (cn ah (aS ?_ ?_)) ah ah ah;all_goals rfl
 simp only[cq,bh]at hc1;obtain⟨v,hv⟩:=ai4 hc1;rw[hv];have hrp:pA r.rest=some (rJ l[1]! v q0):=by simp only[pA,hq,hv]
 have hrv:gF r.rest=rJ l[1]! v q0:=by simp only[gF,hrp]
 rw[hrv,hrp];generalize hnm:l[1]! =nm;have hq01:=hq0.length_le;refine aD ?_;rw[<-hnm];refine aE ?_;refine bz 1 (hb:=fun _=>ae) ?_;refine bp (v:=.str l[1]!) (hi:=fun _=>ae) ?_;refine cO (d:=dz.D v) ?_;refine bj (se l[1]! v .bg .bg .bg) ?_;refine aE ?_;refine aR (se l[1]! v .bg .bg .bg) (he:=aW) ?_;refine aE ?_;rw[hnm];refine br hm (ι:=(List bo×List av)) (fun z=>[⟨true,.ptr 0 2 0 0⟩,⟨true,.ptr 1 9 0 0⟩,⟨true,.bool false⟩,⟨true,.fn 1000465 [.ptr 0 2 0 0]⟩,.un,.un,.un,.un,.un,.un,.un,.un,⟨true,.ptr 2 9 0 0⟩,.un,.un,.un,.un,.un,.un,.un]) (fun z=>[(0,.buf 2 [Ld.D (r.to z.2)]),(1,.buf 9 [dM]),(2,.buf 9 [se nm v (.own 3 3 0 (z.1).length) (.bg) (.bg)]),(3,.buf 3 (z.1.map bo.D))]) 10 (fun z=>z.2<:+r.ls/\z.1.length+z.2.length<=r.ls.length/\fj q0=(z.1++(fj z.2).1,(fj z.2).2)) (fun z=>z.2.length) ([],q0) ⟨hq0,by simpa using hq01,aI⟩ (bm.to [(1,1),(32,2)] ah ah fC (by refine bF.iM ah ah ah ?_;refine bF.iM ah ah ah ?_;refine bF.ni 32 ah ah (by exact⟨_,_,rfl,⟨_,rfl,⟨_,_,rfl,⟨rfl,rfl⟩,⟨_,_,rfl,⟨rfl,rfl⟩,⟨_,_,rfl,⟨rfl,rfl⟩,⟨_,_,rfl,⟨rfl,rfl⟩,⟨_,_,rfl,⟨rfl,rfl⟩,⟨_,_,rfl,⟨rfl,rfl⟩,⟨_,_,rfl,Or.inr ⟨_,_,_,rfl⟩,⟨_,_,rfl,Or.inl rfl,⟨_,_,rfl,Or.inl rfl,rfl⟩⟩⟩⟩⟩⟩⟩⟩⟩⟩,rfl⟩) ?_;refine bF.mt ah ah ah ah ?_;exact bF.nil)) ?_;rintro⟨N,p⟩ ⟨hq1,hlen,hw⟩;dsimp only at hq1 hlen hw⊢;refine aK ?_;refine p0 (n:=1000465) (am7:=[.ptr 0 2 0 0,.str eX,.int .i64 ((1:Nat):Int),.bool false]) (ι:=Unit) (fun _=>True) (fun _=>.tup [Bl (cu eX 1 false p),.bool (cu eX 1 false p).isSome]) 10 (fun _=>[(0,.buf 2 [Ld.D (r.to (fI eX 1 false p))]),(1,.buf 9 [dM]),(2,.buf 9 [se nm v (.own 3 3 0 (N).length) (.bg) (.bg)]),(3,.buf 3 (N.map bo.D))]) (fun _ _=>?_) (hc:=fun K' hK=>CZ h9465 hp0 hq1 (w:=eX) (n:=1) (op:=false) aG aG ah (hK () trivial)) (hn:=aG);refine aE ?_;refine fJ _ ?_;refine dJ ?_;refine az (fun hc2=>?_) (fun hc2=>?_)
 .simp only[bE]at hc2;have hq:=kX hc2;have hnr:fI eX 1 false p=p:=by simp only[fI,hq]
  rw[hnr];have hn2:fj q0=(N,p):=by rw[hw,qZ hq,gQ]
  have hpl:=hq1.length_le;refine aF ?_;refine e7 3 (hn:=bA (fun _=>rfl) _) (he:=by simp only[j8,ig,ij,ku,kW,cM,Nat.reduceEqDiff,ba,aZ,cC,cj,cb,cH,cK,bI,bB,aH,bR,aL,reduceCtorEq,aM,aX,Nat.reduceAdd,Nat.reduceLeDiff,Ld.D,dM,se];exact rfl) (hm:=by simp only[j8,ig,ij,ku,kW,cM,Nat.reduceEqDiff,ba,aZ,cC,cj,cb,cH,cK,bI,bB,aH,bR,aL,reduceCtorEq,aM,aX,Nat.reduceAdd,Nat.reduceLeDiff,Ld.D,dM,se];exact rfl) ?_;refine br hm (ι:=(List fZ×List av)) (fun z=>[⟨true,.ptr 0 2 0 0⟩,⟨true,.ptr 1 9 0 0⟩,⟨true,.bool false⟩,⟨true,.fn 1000465 [.ptr 0 2 0 0]⟩,.un,.un,.un,.un,.un,.un,.un,.un,⟨true,.ptr 2 9 0 0⟩,.un,.un,.un,.un,.un,.un,.un]) (fun z=>[(0,.buf 2 [Ld.D (r.to z.2)]),(1,.buf 9 [dM]),(2,.buf 9 [se nm v ((.sl 3 (N.map bo.D))) (.own 3 3 0 (z.1).length) (.bg)]),(3,.buf 3 (z.1.map fZ.D))]) 10 (fun z=>z.2<:+r.ls/\z.1.length+z.2.length<=r.ls.length/\jx p=(z.1++(jx z.2).1,(jx z.2).2)) (fun z=>z.2.length) ([],p) ⟨hq1,by simpa using hpl,aI⟩ (bm.to [(1,1),(2,2)] ah ah fC (by refine bF.iM ah ah ah ?_;refine bF.iM ah ah ah ?_;refine bF.ni 2 ah ah (by exact⟨_,_,rfl,⟨_,rfl,⟨_,_,rfl,⟨rfl,rfl⟩,⟨_,_,rfl,⟨rfl,rfl⟩,⟨_,_,rfl,⟨rfl,rfl⟩,⟨_,_,rfl,⟨rfl,rfl⟩,⟨_,_,rfl,⟨rfl,rfl⟩,⟨_,_,rfl,⟨rfl,rfl⟩,⟨_,_,rfl,⟨rfl,rfl⟩,⟨_,_,rfl,Or.inr ⟨_,_,_,rfl⟩,⟨_,_,rfl,Or.inl rfl,rfl⟩⟩⟩⟩⟩⟩⟩⟩⟩⟩,rfl⟩) ?_;refine bF.mt ah ah ah ah ?_;exact bF.nil)) ?_;rintro⟨B,pb⟩ ⟨hq1,hlen,hw⟩;dsimp only at hq1 hlen hw⊢;refine aF ?_;refine p0 (n:=1000465) (am7:=[.ptr 0 2 0 0,.str gG,.int .i64 ((3:Nat):Int),.bool true]) (ι:=Unit) (fun _=>True) (fun _=>.tup [Bl (cu gG 3 true pb),.bool (cu gG 3 true pb).isSome]) 10 (fun _=>[(0,.buf 2 [Ld.D (r.to (fI gG 3 true pb))]),(1,.buf 9 [dM]),(2,.buf 9 [se nm v ((.sl 3 (N.map bo.D))) (.own 3 3 0 (B).length) (.bg)]),(3,.buf 3 (B.map fZ.D))]) (fun _ _=>?_) (hc:=fun K' hK=>CZ h9465 hp0 hq1 (w:=gG) (n:=3) (op:=true) aG aG ah (hK () trivial)) (hn:=aG);refine aE ?_;refine fJ _ ?_;refine dJ ?_;refine az (fun hc3=>?_) (fun hc3=>?_)
  .simp only[bE]at hc3;have hq:=kX hc3;have hnr:fI gG 3 true pb=pb:=by simp only[fI,hq]
   rw[hnr];have GQ:jx p=(B,pb):=by rw[hw,sM hq,gQ]
   have hpl2:=hq1.length_le;refine aF ?_;refine e7 3 (hn:=bA (fun _=>rfl) _) (he:=by simp only[j8,ig,ij,ku,kW,cM,Nat.reduceEqDiff,ba,aZ,cC,cj,cb,cH,cK,bI,bB,aH,bR,aL,reduceCtorEq,aM,aX,Nat.reduceAdd,Nat.reduceLeDiff,Ld.D,dM,se];exact rfl) (hm:=by simp only[j8,ig,ij,ku,kW,cM,Nat.reduceEqDiff,ba,aZ,cC,cj,cb,cH,cK,bI,bB,aH,bR,aL,reduceCtorEq,aM,aX,Nat.reduceAdd,Nat.reduceLeDiff,Ld.D,dM,se];exact rfl) ?_;refine br hm (ι:=(List ct×List av)) (fun z=>[⟨true,.ptr 0 2 0 0⟩,⟨true,.ptr 1 9 0 0⟩,⟨true,.bool false⟩,⟨true,.fn 1000465 [.ptr 0 2 0 0]⟩,.un,.un,.un,.un,.un,.un,.un,.un,⟨true,.ptr 2 9 0 0⟩,.un,.un,.un,.un,.un,.un,.un]) (fun z=>[(0,.buf 2 [Ld.D (r.to z.2)]),(1,.buf 9 [dM]),(2,.buf 9 [se nm v ((.sl 3 (N.map bo.D))) ((.sl 3 (B.map fZ.D))) (.own 3 2 0 (z.1).length)]),(3,.buf 2 (z.1.map ct.D))]) 10 (fun z=>z.2<:+r.ls/\z.1.length+z.2.length<=r.ls.length/\dS pb=(z.1++(dS z.2).1,(dS z.2).2)) (fun z=>z.2.length) ([],pb) ⟨hq1,by simpa using hpl2,aI⟩ (bm.to [(1,1),(2,2)] ah ah fC (by refine bF.iM ah ah ah ?_;refine bF.iM ah ah ah ?_;refine bF.ni 2 ah ah (by exact⟨_,_,rfl,⟨_,rfl,⟨_,_,rfl,⟨rfl,rfl⟩,⟨_,_,rfl,⟨rfl,rfl⟩,⟨_,_,rfl,⟨rfl,rfl⟩,⟨_,_,rfl,⟨rfl,rfl⟩,⟨_,_,rfl,⟨rfl,rfl⟩,⟨_,_,rfl,⟨rfl,rfl⟩,⟨_,_,rfl,⟨rfl,rfl⟩,⟨_,_,rfl,⟨rfl,rfl⟩,⟨_,_,rfl,Or.inr ⟨_,_,_,rfl⟩,rfl⟩⟩⟩⟩⟩⟩⟩⟩⟩⟩,rfl⟩) ?_;refine bF.mt ah ah ah ah ?_;exact bF.nil)) ?_;rintro⟨Z,pf⟩ ⟨hq1,hlen,hw⟩;dsimp only at hq1 hlen hw⊢;refine aF ?_;refine p0 (n:=1000465) (am7:=[.ptr 0 2 0 0,.str cw,.int .i64 ((0:Nat):Int),.bool false]) (ι:=Unit) (fun _=>True) (fun _=>.tup [Bl (cu cw 0 false pf),.bool (cu cw 0 false pf).isSome]) 10 (fun _=>[(0,.buf 2 [Ld.D (r.to (fI cw 0 false pf))]),(1,.buf 9 [dM]),(2,.buf 9 [se nm v ((.sl 3 (N.map bo.D))) ((.sl 3 (B.map fZ.D))) (.own 3 2 0 (Z).length)]),(3,.buf 2 (Z.map ct.D))]) (fun _ _=>?_) (hc:=fun K' hK=>CZ h9465 hp0 hq1 (w:=cw) (n:=0) (op:=false) aG aG ah (hK () trivial)) (hn:=aG);refine aE ?_;refine fJ _ ?_;refine dJ ?_;refine az (fun hc4=>?_) (fun hc4=>?_)
   .simp only[bE]at hc4;have hq:=kX hc4;have hnr:fI cw 0 false pf=pf:=by simp only[fI,hq]
    rw[hnr];have hf2:dS pb=(Z,pf):=by rw[hw,LD hq,gQ]
    refine aF ?_;have hbd:rJ nm v q0=(⟨nm,v,N,B,Z⟩,pf):=by simp only[rJ,hn2,GQ,hf2]
    rw[hbd];refine e7 3 (hn:=bA (fun _=>rfl) _) (he:=by simp only[j8,ig,ij,ku,kW,cM,Nat.reduceEqDiff,ba,aZ,cC,cj,cb,cH,cK,bI,bB,aH,bR,aL,reduceCtorEq,aM,aX,Nat.reduceAdd,Nat.reduceLeDiff,Ld.D,dM,se];exact rfl) (hm:=by simp only[j8,ig,ij,ku,kW,cM,Nat.reduceEqDiff,ba,aZ,cC,cj,cb,cH,cK,bI,bB,aH,bR,aL,reduceCtorEq,aM,aX,Nat.reduceAdd,Nat.reduceLeDiff,Ld.D,dM,se];exact rfl) ?_;refine aE ?_;refine cO (d:=Rec.D ⟨nm,v,N,B,Z⟩) ?_;refine aR (Rec.D ⟨nm,v,N,B,Z⟩) (he:=aW) ?_;refine aF ?_;refine js trivial CB (cn ah (aS ?_ ?_)) ah ah ah;all_goals rfl
   simp only[cq]at hc4;obtain⟨⟨l,q2⟩,hq⟩:=kY hc4;have hnr:fI cw 0 false pf=q2:=by simp only[fI,hq]
   obtain⟨hl,hlm,hq2,hqp⟩:=ra hp0 hq1 hq;rw[hnr,hq];have hll2:=aay hp0 hq1 hq;refine aU ?_;intro u0;refine aD ?_;refine di (fun hc5=>?_) fun hc5=>?_
   .refine aD ?_;have hf2:dS pb=(Z,pf):=by rw[hw,Wi hq ae,gQ]
    obtain⟨t,hpt,_⟩:=eL hq;obtain⟨hab1,hab2⟩:=(hp0.to q2).1;refine aF ?_;refine aV (v:=.int .i64 ((r.to q2).at':Nat)) ?_;refine aF ?_;refine aR (Ld.D (r.to pf)) (he:=by rw[hpt];exact Ld.back (hpt▸hq1)) ?_;refine aK ?_;have hbd:rJ nm v q0=(⟨nm,v,N,B,Z⟩,pf):=by simp only[rJ,hn2,GQ,hf2]
    rw[hbd];refine e7 3 (hn:=bA (fun _=>rfl) _) (he:=by simp only[j8,ig,ij,ku,kW,cM,Nat.reduceEqDiff,ba,aZ,cC,cj,cb,cH,cK,bI,bB,aH,bR,aL,reduceCtorEq,aM,aX,Nat.reduceAdd,Nat.reduceLeDiff,Ld.D,dM,se];exact rfl) (hm:=by simp only[j8,ig,ij,ku,kW,cM,Nat.reduceEqDiff,ba,aZ,cC,cj,cb,cH,cK,bI,bB,aH,bR,aL,reduceCtorEq,aM,aX,Nat.reduceAdd,Nat.reduceLeDiff,Ld.D,dM,se];exact rfl) ?_;refine aE ?_;refine cO (d:=Rec.D ⟨nm,v,N,B,Z⟩) ?_;refine aR (Rec.D ⟨nm,v,N,B,Z⟩) (he:=aW) ?_;refine aF ?_;refine js trivial CB (cn ah (aS ?_ ?_)) ah ah ah;all_goals rfl
   refine aD ?_;have h2l:2<=l.length:=ae;refine aE ?_;refine aV (v:=.own 3 2 0 Z.length) ?_;refine aE ?_;refine bz 1 (hb:=fun _=>ae) ?_;refine bp (v:=.str l[1]!) (hi:=fun _=>ae) ?_;refine aE ?_;refine sk 2 (hb:=fun _=>ae) ?_;refine au (hc:=h469 (l.drop 2) (by rw[kT];omega)) ?_;refine bj (ct.D ⟨l[1]!,l.drop 2⟩) ?_;refine dq [ct.D ⟨l[1]!,l.drop 2⟩] ?_;refine iG (q:=ct.D) (xs:=Z) (e:=⟨l[1]!,l.drop 2⟩) ?_;refine aE ?_;refine aR (se nm v (.sl 3 (N.map bo.D)) (.sl 3 (B.map fZ.D)) (.own 32 2 0 (Z++[(⟨l[1]!,l.drop 2⟩:ct)]).length)) (he:=aW) ?_;refine aF ?_;have hsl:=aH 0;exact⟨(Z++[⟨l[1]!,l.drop 2⟩],q2),⟨hq2,by simp only[bH,aM,aX];omega,by rw[hw,R3 hq h2l];simp⟩,dE,(bm.to [(1,1),(2,2),(32,3)] ah ah fC (by refine bF.iM ah ah ah ?_;refine bF.iM ah ah ah ?_;refine bF.eq 2 ah ah ah ?_;refine bF.nl 32 ah ah rfl (by exact bA (fun _=>rfl) _) ?_;exact bF.nil))⟩
  simp only[cq]at hc3;obtain⟨⟨l,q2⟩,hq⟩:=kY hc3;have hnr:fI gG 3 true pb=q2:=by simp only[fI,hq]
  obtain⟨hl,hlm,hq2,hqp⟩:=ra hp0 hq1 hq;rw[hnr,hq];obtain hl:l.length=3:=by rcases hl with h|h;cases h;exact h
  refine aF ?_;refine abg (v:=.own 3 3 0 B.length) ?_;refine aE ?_;refine bz 1 (hb:=fun _=>ae) ?_;refine abh (v:=.str l[1]!) (hi:=fun _=>ae) ?_;refine aE ?_;refine bz 2 (hb:=fun _=>ae) ?_;refine abh (v:=.str l[2]!) (hi:=fun _=>ae) ?_;refine aE ?_;refine pQ (hc:=Kr h468 hp0 hq2) ?_;refine bj (fZ.D ⟨l[1]!,l[2]!,(cI q2).1⟩) ?_;refine dq [fZ.D ⟨l[1]!,l[2]!,(cI q2).1⟩] ?_;refine iG (q:=fZ.D) (xs:=B) (e:=⟨l[1]!,l[2]!,(cI q2).1⟩) ?_;refine aE ?_;refine aR (se nm v (.sl 3 (N.map bo.D)) (.own 31 3 0 (B++[(⟨l[1]!,l[2]!,(cI q2).1⟩:fZ)]).length) .bg) (he:=aW) ?_;refine aF ?_;have hsl:=(lU q2).length_le;exact⟨(B++[⟨l[1]!,l[2]!,(cI q2).1⟩],(cI q2).2),⟨(lU q2).trans hq2,by simp only[bH,aM,aX];omega,by rw[hw,xp hq];simp⟩,dE,(bm.to [(1,1),(2,2),(31,3)] ah ah fC (by refine bF.iM ah ah ah ?_;refine bF.iM ah ah ah ?_;refine bF.eq 2 ah ah ah ?_;refine bF.nl 31 ah ah rfl (by exact bA (fun _=>rfl) _) ?_;exact bF.nil))⟩
 simp only[cq]at hc2;obtain⟨⟨l,q2⟩,hq⟩:=kY hc2;have hnr:fI eX 1 false p=q2:=by simp only[fI,hq]
 obtain⟨hl,hlm,hq2,hqp⟩:=ra hp0 hq1 hq;rw[hnr,hq];refine aF ?_;refine abg (v:=.own 3 3 0 N.length) ?_;refine aE ?_;refine pQ (hc:=adt h467 hp0 hq2) ?_;refine dq [bo.D (eQ q2).1] ?_;refine iG (q:=bo.D) (xs:=N) (e:=(eQ q2).1) ?_;refine aE ?_;refine aR (se nm v (.own 24 3 0 (N++[(eQ q2).1]).length) .bg .bg) (he:=aW) ?_;refine aF ?_;have hsl:=(wj q2).length_le;exact⟨(N++[(eQ q2).1],(eQ q2).2),⟨(wj q2).trans hq2,by simp only[bH,aM,aX];omega,by rw[hw,uL hq];simp⟩,dE,(bm.to [(1,1),(2,2),(24,3)] ah ah fC (by refine bF.iM ah ah ah ?_;refine bF.iM ah ah ah ?_;refine bF.eq 2 ah ah ah ?_;refine bF.nl 24 ah ah rfl (by exact bA (fun _=>rfl) _) ?_;exact bF.nil))⟩
noncomputable def JX:aN:=dy 23
def w70 (h208:K0 Y)(h209:K1 Y)(h210:XS Y)(h211:Vq Y)(h212:Vr Y)(h213:XT Y)(h214:XU Y)(h215:Vs Y)(r:Rec)  (hp0:mD r):dX Y JX (.tup [.int .i64 (cE r).1,.int .i64 (cE r).2]) [Rec.D r]:=by
 show cg _ _ _ (⟨true,Rec.D r⟩::.un::.un::.un::.un::.un::.un::.un::.un::.un::.un::.un::.un::.un::.un::.un::.un::.un::.un::.un::.un::.un::.un::.un::.un::.un::.un::.un::.un::.un::.un::.un::.un::.un::.un::.un::.un::.un::.un::[]) ⟨0,[]⟩;refine ay ?_;refine bW ?_;refine au (hc:=h208 _) ?_;refine aF ?_;refine wp_cond (fun hc0=>?_) (fun hc0=>?_)
 .try simp only[cX]at hc0
  refine aQ ?_;refine bT (aS (ak (D.int .i64) ?_) (ak (D.int .i64) ?_));all_goals (have hq:cE r=(4,0):=(by rw[cE,aC hc0]);rw[hq];first|done|rfl)
 simp only[cq]at hc0;refine aD ?_;refine aV (v:=dz.D r.v) ?_;refine au (hc:=h209 r.v hp0.1.2) ?_;refine aF ?_;refine wp_cond (fun hc1=>?_) (fun hc1=>?_)
 .try simp only[cX]at hc1
  refine aQ ?_;refine bT (aS (ak (D.int .i64) ?_) (ak (D.int .i64) ?_));all_goals (have hq:cE r=(5,0):=(by rw[cE,ar (by simp[hc0]),aC hc1]);rw[hq];first|done|rfl)
 simp only[cq]at hc1;refine aK ?_;intro u0;refine aK ?_;refine gN ?_;refine aK ?_;refine iI (fun hc2=>?_) fun hc2=>?_
 .refine aQ ?_;refine bT (aS (ak (D.int .i64) ?_) (ak (D.int .i64) ?_));all_goals (have hq:cE r=(3,0):=(by rw[cE,ar (by simp[hc0]),ar (by simp[hc1]),aC ae]);rw[hq];first|done|rfl)
 refine bw ?_;intro u1;refine aD ?_;refine br hm (ι:=Nat) (fun i=>(.un::.un::.un::⟨true,.ptr 0 9 0 0⟩::.un::.un::.un::⟨true,.int .i64 (i:Nat)⟩::⟨true,.int .i64 (r.needs.length:Nat)⟩::.un::⟨true,.sl 3 (r.needs.map bo.D)⟩::.un::.un::.un::.un::.un::.un::.un::.un::.un::.un::.un::.un::.un::.un::.un::.un::.un::.un::.un::.un::.un::.un::.un::.un::.un::.un::.un::.un::[])) (fun i=>[(0,.buf 9 [Rec.D r])]) 28 (fun i=>i<=r.needs.length/\nB r=gA (fun i=>jS r r.needs[i]!) i r.needs.length) (fun i=>r.needs.length-i) 0 ⟨ae,rfl⟩ (dQ [(0,0)]) ?_;rintro i ⟨hi,hr⟩;refine aF ?_;refine di (fun hc3=>?_) fun hc3=>?_
 .refine aU ?_;first|refine bp (v:=(bo.D _)) ?_|refine gI (v:=(bo.D _)) ?_
  refine aD ?_;refine aR (bo.D r.needs[i]!) (he:=aW) ?_;refine aK ?_;refine au (hc:=h210 r r.needs[i]! (hp0.2.1 _ (bL ae))) ?_;refine aQ ?_;refine iI (fun hc4=>?_) fun hc4=>?_
  .refine dJ ?_;refine bT (aS (ak (D.int .i64) ?_) (ak (D.int .i64) ?_));all_goals
    have hq:cE r=(jS r r.needs[i]!,((i:Nat):Int)):=by
     exact rK hc0 hc1 ae ae (Mo (by rw[hr,gl ae hc4]) hc4) hc4
    rw[hq];first|done|rfl
  refine bw ?_;exact⟨i+1,⟨ae,by rw[hr,iq ae hc4]⟩,ae,(dQ [(0,0)])⟩
 refine aK ?_;have hn0:nB r=(0,0):=by rw[hr,fT ae]
 refine aF ?_;intro u2;refine aD ?_;refine br hm (ι:=Nat) (fun i=>(.un::.un::.un::⟨true,.ptr 0 9 0 0⟩::.un::.un::.un::.un::.un::.un::.un::.un::.un::.un::.un::⟨true,.int .i64 (i:Nat)⟩::⟨true,.int .i64 (r.bars.length:Nat)⟩::.un::⟨true,.sl 3 (r.bars.map fZ.D)⟩::.un::.un::.un::.un::.un::.un::.un::.un::.un::.un::.un::.un::.un::.un::.un::.un::.un::.un::.un::.un::[])) (fun i=>[(0,.buf 9 [Rec.D r])]) 33 (fun i=>i<=r.bars.length/\wZ r=gA (fun i=>rH r r.bars[i]!) i r.bars.length) (fun i=>r.bars.length-i) 0 ⟨ae,rfl⟩ (dQ [(0,0)]) ?_;rintro i ⟨hi,hr⟩;refine aF ?_;refine di (fun hc5=>?_) fun hc5=>?_
 .refine aU ?_;first|refine bp (v:=(fZ.D _)) ?_|refine gI (v:=(fZ.D _)) ?_
  refine aD ?_;refine aR (fZ.D r.bars[i]!) (he:=aW) ?_;refine bW ?_;refine au (hc:=h211 r r.bars[i]!.name r.bars[i]!.range (hp0.2.2.1 _ (bL ae)).2.1) ?_;refine bw ?_;refine az (fun hc6=>?_) (fun hc6=>?_)
  .simp only[bE,bC]at hc6;have hbe:rH r r.bars[i]! =gS r r.bars[i]!.name r.bars[i]!.range:=by rw[rH,aC hc6]
   refine ja ?_;refine bT (aS (ak (D.int .i64) ?_) (ak (D.int .i64) ?_));all_goals
    have hq:cE r=(gS r r.bars[i]!.name r.bars[i]!.range,((i:Nat):Int)):=by
     exact rK hc0 hc1 ae ae (FH hn0 (by rw[hr,gl ae (by rw[hbe];exact hc6),hbe]) hc6) hc6
    rw[hq];first|done|rfl
  try simp only[cX]at hc6
  refine aK ?_;refine au (hc:=h212 _) ?_;refine aD ?_;refine wp_cond (fun hc7=>?_) (fun hc7=>?_)
  .simp only[bE]at hc7;have hbe:rH r r.bars[i]! =7:=by rw[rH,ar (fun h=>h hc6),aC hc7]
   refine bW ?_;refine bT (aS (ak (D.int .i64) ?_) (ak (D.int .i64) ?_));all_goals
    have hq:cE r=((7:Int),((i:Nat):Int)):=by
     exact rK hc0 hc1 ae ae (FH hn0 (by rw[hr,gl ae (by rw[hbe];decide),hbe]) (show(7:Int)≠0 by decide)) (show(7:Int)≠0 by decide)
    rw[hq];first|done|rfl
  simp only[cq]at hc7;have hbz:rH r r.bars[i]! =0:=by rw[rH,ar (fun h=>h hc6),ar (by rw[hc7];simp)]
  refine bw ?_;exact⟨i+1,⟨ae,by rw[hr,iq ae hbz]⟩,ae,(dQ [(0,0)])⟩
 refine aK ?_;have hb0:wZ r=(0,0):=by rw[hr,fT ae]
 refine aD ?_;refine au (hc:=h213 r.feats hp0.2.2.2) ?_;refine aD ?_;refine az (fun hc8=>?_) (fun hc8=>?_)
 .try simp only[cX]at hc8
  refine aQ ?_;refine bT (aS (ak (D.int .i64) ?_) (ak (D.int .i64) ?_));all_goals
   have hq:cE r=(11,0):=by
    exact rK hc0 hc1 ae ae (Mp hn0 hb0 hc8) aG
   rw[hq];first|done|rfl
 simp only[cq]at hc8;refine aQ ?_;intro u3;refine aD ?_;refine br hm (ι:=Nat) (fun i=>(.un::.un::.un::⟨true,.ptr 0 9 0 0⟩::.un::.un::.un::.un::.un::.un::.un::.un::.un::.un::.un::.un::.un::.un::.un::.un::.un::.un::.un::.un::.un::⟨true,.int .i64 (i:Nat)⟩::⟨true,.int .i64 (r.feats.length:Nat)⟩::.un::⟨true,.sl 2 (r.feats.map ct.D)⟩::.un::.un::.un::.un::.un::.un::.un::.un::.un::.un::[])) (fun i=>[(0,.buf 9 [Rec.D r])]) 42 (fun i=>i<=r.feats.length/\xG r=gA (fun i=>mj r r.feats[i]!.of) i r.feats.length) (fun i=>r.feats.length-i) 0 ⟨ae,rfl⟩ (dQ [(0,0)]) ?_;rintro i ⟨hi,hr⟩;refine aF ?_;refine di (fun hc9=>?_) fun hc9=>?_
 .refine aU ?_;first|refine bp (v:=(ct.D _)) ?_|refine gI (v:=(ct.D _)) ?_
  refine aD ?_;refine aR (ct.D r.feats[i]!) (he:=aW) ?_;refine aU ?_;intro u4;refine aD ?_;refine rl hm (ι:=Nat) (fun j=>(.un::.un::.un::⟨true,.ptr 0 9 0 0⟩::.un::.un::.un::.un::.un::.un::.un::.un::.un::.un::.un::.un::.un::.un::.un::.un::.un::.un::.un::.un::.un::⟨true,.int .i64 (i:Nat)⟩::⟨true,.int .i64 (r.feats.length:Nat)⟩::.un::⟨true,.sl 2 (r.feats.map ct.D)⟩::.un::⟨true,.int .i64 (j:Nat)⟩::⟨true,.int .i64 (r.feats[i]!.of.length:Nat)⟩::.un::⟨true,.sl 1 (r.feats[i]!.of.map D.str)⟩::.un::.un::.un::⟨true,.int .i64 (i:Nat)⟩::.un::[])) (fun j=>[(0,.buf 9 [Rec.D r])]) 53 (fun j=>j<=r.feats[i]!.of.length/\mj r r.feats[i]!.of=kO (fun j=>kZ r r.feats[i]!.of[j]!) j r.feats[i]!.of.length) (fun j=>r.feats[i]!.of.length-j) 0 ⟨ae,rfl⟩ (dQ [(0,0)]) ?_;rintro j ⟨hj,hjr⟩;refine aF ?_;refine di (fun hc10=>?_) fun hc10=>?_
  .refine ja ?_;refine au (hc:=h214 r r.feats[i]!.of[j]! ((hp0.2.2.2 _ (bL ae)).2.2 _ (bL ae))) ?_;refine aQ ?_;refine iI (fun hc11=>?_) fun hc11=>?_
   .refine gE ?_;refine bT (aS (ak (D.int .i64) ?_) (ak (D.int .i64) ?_));all_goals
     have hq:cE r=(kZ r r.feats[i]!.of[j]!,((i:Nat):Int)):=by
      have hie:mj r r.feats[i]!.of=kZ r r.feats[i]!.of[j]! :=by rw[hjr,qn ae hc11]
      exact rK hc0 hc1 ae ae (uQ hn0 hb0 hc8 (by rw[hr,gl (f:=(fun i=>mj r r.feats[i]!.of)) ae (by rw[hie];exact hc11),hie])) hc11
     rw[hq];first|done|rfl
   refine bw ?_;exact⟨j+1,⟨ae,by rw[hjr,rR ae hc11]⟩,ae,(dQ [(0,0)])⟩
  refine bW ?_;exact⟨i+1,⟨ae,by rw[hr,iq (f:=(fun i=>mj r r.feats[i]!.of)) ae (by rw[hjr,rQ ae])]⟩,ae,(dQ [(0,0)])⟩
 refine aK ?_;have hpz:fP r=(0,0):=uQ hn0 hb0 hc8 (by rw[hr,fT ae]);have hgd:zf r:=⟨⟨hc0,hc1⟩,⟨ae,ae⟩,hpz⟩;refine aE ?_;refine au (hc:=h215 r ⟨hgd,hp0⟩) ?_;refine aE ?_;intro u5;refine aD ?_;refine di (fun hc12=>?_) fun hc12=>?_
 .refine aQ ?_;refine bT (aS (ak (D.int .i64) ?_) (ak (D.int .i64) ?_));all_goals
   have hq:cE r=(3,0):=by
    rw[ui hc0 hc1 ae ae hpz,aC ae]
   rw[hq];first|done|rfl
 refine aQ ?_;refine bT (aS (ak (D.int .i64) ?_) (ak (D.int .i64) ?_));all_goals
  have hq:cE r=(0,0):=by
   rw[ui hc0 hc1 ae ae hpz,ar ae]
  rw[hq];first|done|rfl
noncomputable def Tg:aN:=dy 60
def w684 (h242:K3 Y)(h827:N2 Y)(h828:VN Y)(r:Eu)  (hp0:qK r):dX Y Tg (.tup [.str (if lV r=true then J8 r else []),.bool (lV r)]) [iN r]:=by
 show cg _ _ _ [⟨_,_⟩,_,_,_,_,_,_,_,_,_,_,_,_,_,_,_,_,_,_] _;refine ay ?_;refine dJ ?_;intro u0;refine aK ?_;refine gN ?_;refine aF ?_;refine di (fun hc0=>?_) fun hc0=>?_
 .refine aQ ?_;refine bT (aS (ak D.str ?_) (ak D.bool ?_));all_goals
   have hq:lV r=false:=by
    simp only[lV];rcases hc0 with h|h
    .rw[cy ae];rfl
    .rw[cy (by omega:¬r.length<=6),Bool.and_false];rfl
   simp[hq]
 refine dJ ?_;intro u1;refine aD ?_;have hb:lV r=c9 (fun i=>l5 r[i]!) 0 r.length:=by simp only[lV];rw[bY ae,bY ae];rfl
 refine br hm (ι:=Nat) (fun i=>[.un,.un,.un,⟨true,.ptr 0 1 0 0⟩,.un,⟨true,.int .i64 (i:Nat)⟩,⟨true,.int .i64 (r.length:Nat)⟩,.un,⟨true,.sl 1 (r.map tZ)⟩,.un,.un,.un,.un,.un,.un,.un,.un,.un,⟨true,.own 1 1 0 ((r.map kK).take i).length⟩]) (fun i=>[(0,.buf 1 [iN r]),(1,.buf 1 (((r.map kK).take i).map D.str))]) 18 (fun i=>i<=r.length/\lV r=c9 (fun i=>l5 r[i]!) i r.length/\1<=r.length/\r.length<=6) (fun i=>r.length-i) 0 ⟨ae,hb,ae,ae⟩ (bm.to [(0,0)] ah ah (by repeat(first|exact de.nil|refine de.un ?_|refine de.eq ah ?_|refine de.nl ah ah ?_|refine de.ni (Or.inr ⟨_,_,_,rfl⟩) ?_)) (by refine hY ?_;refine bF.mt ah ah ah ah ?_;exact bF.nil)) ?_;rintro i ⟨hi,hr,hr1,hr6⟩;have hti:((r.map kK).take i).length<=i:=by rw[eF];omega
 refine aF ?_;refine di (fun hc1=>?_) fun hc1=>?_
 .refine gE ?_;intro u2;refine aF ?_;refine gN ?_;refine aF ?_;refine di (fun hc2=>?_) fun hc2=>?_
  .refine bW ?_;refine bT (aS (ak D.str ?_) (ak D.bool ?_));all_goals
    have hq:lV r=false:=by
     rw[hr,bc ae];have:l5 r[i]! =false:=by
      simp only[l5];rcases hc2 with h|h
      .rw[cy ae];rfl
      .rw[cy (by omega:¬r[i]!.length<=6),Bool.and_false];rfl
     rw[this];rfl
    simp[hq]
  refine bW ?_;intro u3;refine aD ?_;have hal:1<=r[i]!.length/\r[i]!.length<=6:=ae;have hkb:l5 r[i]! =c9 (fun k=>pJ r[i]![k]!) 0 r[i]!.length:=by simp only[l5];rw[bY ae,bY ae];rfl
  refine br hm (ι:=Nat) (fun k=>[.un,.un,.un,⟨true,.ptr 0 1 0 0⟩,.un,⟨true,.int .i64 (i:Nat)⟩,⟨true,.int .i64 (r.length:Nat)⟩,.un,⟨true,.sl 1 (r.map tZ)⟩,.un,.un,⟨true,.int .i64 (k:Nat)⟩,⟨true,.int .i64 (r[i]!.length:Nat)⟩,.un,⟨true,.sl 7 (r[i]!.map dZ.D)⟩,.un,.un,⟨true,.own 2 1 0 ((r[i]!.map eY).take k).length⟩,⟨true,.own 1 1 0 ((r.map kK).take i).length⟩]) (fun k=>[(0,.buf 1 [iN r]),(1,.buf 1 (((r.map kK).take i).map D.str)),(2,.buf 1 (((r[i]!.map eY).take k).map D.str))]) 34 (fun k=>k<=r[i]!.length/\l5 r[i]! =c9 (fun k=>pJ r[i]![k]!) k r[i]!.length) (fun k=>r[i]!.length-k) 0 ⟨ae,hkb⟩ (bm.to [(0,0),(1,1)] ah ah (by repeat(first|exact de.nil|refine de.un ?_|refine de.eq ah ?_|refine de.nl ah ah ?_|refine de.ni (Or.inr ⟨_,_,_,rfl⟩) ?_)) (by refine hY ?_;refine hY ?_;refine bF.mt ah ah ah ah ?_;exact bF.nil)) ?_;rintro k ⟨hk,hkr⟩;have htk:((r[i]!.map eY).take k).length<=k:=by rw[eF];omega
  refine aF ?_;refine di (fun hc3=>?_) fun hc3=>?_
  .refine aK ?_;first|refine bp (v:=(dZ.D _)) ?_|refine gI (v:=(dZ.D _)) ?_
   refine aE ?_;refine aR (dZ.D r[i]![k]!) (he:=aW) ?_;refine aF ?_;have hlo:=hp0 r[i]! (bL ae) _ (bL (show k<r[i]!.length by omega));refine aE ?_;refine au (hc:=h827 r[i]![k]! hlo.sm) ?_;refine aD ?_;refine az (fun hc4=>?_) (fun hc4=>?_)
   .simp only[bE]at hc4;refine ja ?_;refine bT (aS (ak D.str ?_) (ak D.bool ?_));all_goals
     have hq:lV r=false:=by rw[hr,bc ae,hkr,bc ae,hc4];rfl
     simp[hq]
   simp only[cq]at hc4;refine aK ?_;refine au (hc:=h828 r[i]![k]! hlo.sm) ?_;refine dq [(.str _)] ?_;refine dJ ?_;have hq:=jI eY r[i]! (show k<r[i]!.length by omega);rw[<-hq];exact⟨k+1,⟨ae,by rw[hkr,bc ae,hc4];rfl⟩,ae,(bm.to [(0,0),(1,1),(46,2)] ah ah fC (by refine hY ?_;refine hY ?_;refine bF.nl 46 ah ah ah fM ?_;exact bF.nil))⟩
  refine aF ?_;obtain rfl:k=r[i]!.length:=ae;have hok:l5 r[i]! =true:=by rw[hkr,cL ae]
  rw[fq (show(r[i]!.map eY).length<=r[i]!.length by rw[bB];exact aH _)];have hj:∀t∈(r[i]!.map eY),t.length<=2097200:=fun t ht=>by
   obtain⟨c,hc,rfl⟩:=eG.1 ht;exact c7 (EN (hp0 r[i]! (bL ae) c hc)) aG
  refine aD ?_;refine au (hc:=h242 (r[i]!.map eY) [44,32] (by rw[bB];omega) aI hj) (ha:=fun _=>ak (fun d=>[d,D.str [44,32]]) (zC (q:=D.str) (fun _=>rfl) ah)) (hp:=fun _=>⟨vB (q:=D.str) (fun _=>rfl) ah,rfl,trivial⟩) ?_;refine dq [.str (kK r[i]!)] ?_;refine dJ ?_;have hq:=jI kK r (show i<r.length by omega);rw[<-hq];exact⟨i+1,⟨ae,by rw[hr,bc ae,hok];rfl,hr1,hr6⟩,ae,(bm.to [(0,0),(39,1)] ah ah fC (by refine hY ?_;refine bF.nl 39 ah ah ah fM ?_;exact bF.nil))⟩
 refine aF ?_;obtain rfl:i=r.length:=ae;have hfw:lV r=true:=by rw[hr,cL ae]
 rw[fq (show(r.map kK).length<=r.length by rw[bB];exact aH _)];have hj:∀t∈(r.map kK),t.length<=2097200:=fun t ht=>by
  obtain⟨a,ha,rfl⟩:=eG.1 ht;obtain⟨i,hi,rfl⟩:=List.mem_iff_getElem.1 ha;have h1:=ET hfw hi;rw[show r[i]! =r[i]by simp[hi]]at h1;exact c7 (Ew (hp0 _ ha) (AF h1).2) aG
 refine aE ?_;refine au (hc:=h242 (r.map kK) [32,124,124,32] (by rw[bB];omega) aI hj) (ha:=fun _=>ak (fun d=>[d,D.str [32,124,124,32]]) (zC (q:=D.str) (fun _=>rfl) ah)) (hp:=fun _=>⟨vB (q:=D.str) (fun _=>rfl) ah,rfl,trivial⟩) ?_;refine aK ?_;refine bT (aS (ak D.str ?_) (ak D.bool ?_));all_goals (simp only[hfw,ba];first|done|rfl)
noncomputable def Xt:aN:=dy 61
def w685 {Y:Ctx}(hm:(Y.at 0).cP)(h684:N1 Y)(r:Eu)  (hp0:qK r):dX Y Xt (.bool (ya r)) [iN r]:=by
 show cg _ _ _ [⟨_,_⟩,_,_,_,_] _;refine ay ?_;refine aU ?_;refine au (hc:=h684 r hp0) ?_;refine ja ?_;refine gN ?_;refine aU ?_;refine cd ?_;cases hf:lV r with
 |false=>simp[ya,hf]
 |true=>simp only[ya,hf,ba,gM];exact jO.2 ae
noncomputable def M8:aN:=dy 26
def w496 {Y:Ctx}(hm:(Y.at 0).cP)(h684:N1 Y)(r:Eu)  (hp0:qK r):dX Y M8 (.str (B7 r)) [iN r]:=by
 show cg _ _ _ [⟨_,_⟩,_,_,_,_,_] _;refine ay ?_;refine aQ ?_;refine au (hc:=h684 r hp0) ?_;refine gE ?_;refine gN ?_;refine aF ?_;refine az (fun hc0=>?_) (fun hc0=>?_)
 .simp only[bM,bh]at hc0;refine aQ ?_;refine du ?_;have hm:ya r=true:=by simp only[ya,hc0.1,gM,bh];have:=hc0.2;rw[hc0.1,aC rfl]at this;omega
  simp only[B7,hm,hc0.1,ba]
 skip
 refine aU ?_;refine du ?_;have hm:ya r=false:=by
  cases hf:lV r with
  |false=>simp[ya,hf]
  |true=>
   rw[hf]at hc0;simp only[ba,gM,bC]at hc0;simp only[ya,hf,gM,bC];omega
 simp[B7,hm]
noncomputable def S8:aN:=dy 176
def w897 {Y:Ctx}(hm:(Y.at 0).cP)(h470:wI Y)(h482:NX Y)(h1006:KR Y)(h1007:KS Y)(h1008:KT Y)(s:av)  (hp0:s.length<=1048576):dX Y S8 (.tup [dZ.D ((fG s).getD fH),.int .i64 (if(fG s).isSome=true then 0 else 6)]) [.str s]:=by
 show cg _ _ _ [⟨_,_⟩,_,_,_,_,_,_,_,_,_,_,_,_,_,_] _;have hsl:=Gf s;generalize hO:iT s=O at hsl;have hpl:=FM O.2;generalize hA:jA O.2 0=A at hpl;have hln:=cJ A.1 46;have hlp:1<=(ai A.1 46).length:=eN _ _ _;generalize hL:ai A.1 46=L at hln hlp;have hq0:fG s=if B1 s O.1 (Ih O.1 L) A.2=true then some (iv O.1 (Ih O.1 L) A.2)else none:=by subst hO;subst hA;subst hL;rfl
 refine ay ?_;refine aU ?_;refine au (hc:=h1006 s) ?_;rw[hO];refine bW ?_;refine au (hc:=h1007 O.2) ?_;rw[hA];refine bW ?_;refine au (hc:=h470 A.1 46 ae) ?_;rw[hL];refine bw ?_;refine az (fun hc0=>?_) (fun hc0=>?_)
 .simp only[bh]at hc0;have hq1:fG s=if B1 s O.1 (L.take (L.length-1)) A.2=true then some (iv O.1 (L.take (L.length-1)) A.2)else none:=by rw[hq0];simp only[Ih,aC hc0]
  refine aK ?_;intro u0;refine aE ?_;refine my (L.length-1) (hj:=fun _=>ae) (hb:=fun _=>ae) ?_;refine aK ?_;refine au (hc:=h1008 (L.take (L.length-1))) ?_;refine aE ?_;refine fJ (dz.D _) ?_;refine aD ?_;refine aR (dz.D (Fz (L.take (L.length-1)))) (he:=aW) ?_;refine bw ?_;refine az (fun hc1=>?_) (fun hc1=>?_)
  .simp only[bE]at hc1;refine aD ?_;refine bj (dZ.D fH) ?_;refine aK ?_;refine bT (aS ?_ (ak (D.int .i64) ?_));all_goals (have hk:B1 s O.1 (L.take (L.length-1)) A.2=false:=(by simp only[B1,hc1];rfl);rw[hq1,hk];rfl)
  simp only[cq]at hc1;have hnr:Fz (L.take (L.length-1))=aaD (L.take (L.length-1)):=by simp only[Fz,hc1,ba]
  rw[hnr];have hsm:(iv O.1 (L.take (L.length-1)) A.2).v.sm:=⟨by show A.2.length<=_;omega,by show([]:av).length<=_;simp⟩;refine aK ?_;refine aR (dz.D (iv O.1 (L.take (L.length-1)) A.2).v) (he:=aW) ?_;refine aU ?_;intro u1;refine cO (d:=dz.D (iv O.1 (L.take (L.length-1)) A.2).v) ?_;refine bj (dZ.D (iv O.1 (L.take (L.length-1)) A.2)) ?_;refine aE ?_;refine aR (dZ.D (iv O.1 (L.take (L.length-1)) A.2)) (he:=aW) ?_;refine aF ?_;refine cO (d:=dZ.D (iv O.1 (L.take (L.length-1)) A.2)) ?_;refine au (hc:=h482 (iv O.1 (L.take (L.length-1)) A.2) hsm) ?_;refine mZ ?_;refine dD (hb:=fun _=>dk) ?_;refine aK ?_;refine az (fun hc2=>?_) (fun hc2=>?_)
  .have hk:B1 s O.1 (L.take (L.length-1)) A.2=false:=by simp only[B1,hc1,gM];exact ak (!·) hc2
   refine aD ?_;refine bj (dZ.D fH) ?_;refine aK ?_;refine bT (aS ?_ (ak (D.int .i64) ?_));all_goals (rw[hq1,hk];rfl)
  have hk:B1 s O.1 (L.take (L.length-1)) A.2=true:=by simp only[B1,hc1,gM];exact ak (!·) hc2
  refine aD ?_;refine cO (d:=dZ.D (iv O.1 (L.take (L.length-1)) A.2)) ?_;refine aK ?_;refine bT (aS ?_ (ak (D.int .i64) ?_));all_goals (rw[hq1,hk];rfl)
 simp only[bC]at hc0;have hq1:fG s=if B1 s O.1 L A.2=true then some (iv O.1 L A.2)else none:=by rw[hq0];simp only[Ih,ar hc0]
 refine aF ?_;refine au (hc:=h1008 L) ?_;refine aE ?_;refine fJ (dz.D _) ?_;refine aD ?_;refine aR (dz.D (Fz L)) (he:=aW) ?_;refine bw ?_;refine az (fun hc1=>?_) (fun hc1=>?_)
 .simp only[bE]at hc1;refine aD ?_;refine bj (dZ.D fH) ?_;refine aK ?_;refine bT (aS ?_ (ak (D.int .i64) ?_));all_goals (have hk:B1 s O.1 L A.2=false:=(by simp only[B1,hc1];rfl);rw[hq1,hk];rfl)
 simp only[cq]at hc1;have hnr:Fz L=aaD L:=by simp only[Fz,hc1,ba]
 rw[hnr];have hsm:(iv O.1 L A.2).v.sm:=⟨by show A.2.length<=_;omega,by show([]:av).length<=_;simp⟩;refine aK ?_;refine aR (dz.D (iv O.1 L A.2).v) (he:=aW) ?_;refine aU ?_;intro u1;refine cO (d:=dz.D (iv O.1 L A.2).v) ?_;refine bj (dZ.D (iv O.1 L A.2)) ?_;refine aE ?_;refine aR (dZ.D (iv O.1 L A.2)) (he:=aW) ?_;refine aF ?_;refine cO (d:=dZ.D (iv O.1 L A.2)) ?_;refine au (hc:=h482 (iv O.1 L A.2) hsm) ?_;refine mZ ?_;refine dD (hb:=fun _=>dk) ?_;refine aK ?_;refine az (fun hc2=>?_) (fun hc2=>?_)
 .have hk:B1 s O.1 L A.2=false:=by simp only[B1,hc1,gM];exact ak (!·) hc2
  refine aD ?_;refine bj (dZ.D fH) ?_;refine aK ?_;refine bT (aS ?_ (ak (D.int .i64) ?_));all_goals (rw[hq1,hk];rfl)
 have hk:B1 s O.1 L A.2=true:=by simp only[B1,hc1,gM];exact ak (!·) hc2
 refine aD ?_;refine cO (d:=dZ.D (iv O.1 L A.2)) ?_;refine aK ?_;refine bT (aS ?_ (ak (D.int .i64) ?_));all_goals (rw[hq1,hk];rfl)
noncomputable def abw:aN:=dy 145
def w676 {Y:Ctx}(hm:(Y.at 0).cP)(h217:K2 Y)(c:dZ)  (hp0:c.v.sm):dX Y abw (.bool (pJ c)) [dZ.D c]:=by
 show cg _ _ _ [⟨_,_⟩,_,_,_,_,_,_,_] _;refine ay ?_;refine GK ?_;refine aV (v:=dz.D c.v) ?_;refine eD (hc:=fun hf=>h217 c.v hp0) ?_;refine dJ ?_;refine az (fun hc0=>?_) (fun hc0=>?_)
 .have hq:=Lx hc0;refine aU ?_;refine cd ?_;rw[hq]
 have hy:=Hy hc0;refine gE ?_;refine az (fun hc1=>?_) (fun hc1=>?_)
 .simp only[bh]at hc1;have hz:=vV hy (lo:=0) (hi:=2) (aC hc1) (aC hc1);refine acg ?_;refine az (fun hc2=>?_) (fun hc2=>?_)
  .rw[hc2]at hz;refine aU ?_;refine cd ?_;rw[hz];rfl
  rw[hc2]at hz;refine agR ?_;refine cd ?_;rw[hz];rfl
 simp only[bC]at hc1;have hz:=vV hy (lo:=1) (hi:=3) (ar hc1) (ar hc1);refine agQ ?_;refine az (fun hc2=>?_) (fun hc2=>?_)
 .rw[hc2]at hz;refine aU ?_;refine cd ?_;rw[hz];rfl
 rw[hc2]at hz;refine agR ?_;refine cd ?_;rw[hz];rfl
noncomputable def ZL:aN:=dy 110
def w827 {Y:Ctx}(hm:(Y.at 0).cP)(h209:K1 Y)(c:dZ)  (hp0:c.v.sm):dX Y ZL (.bool (pJ c)) [dZ.D c]:=by
 show cg _ _ _ [⟨_,_⟩,_,_,_,_,_,_,_,_,_,_,_,_,_] _;refine ay ?_;refine GK ?_;refine aV (v:=dz.D c.v) ?_;refine eD (hc:=fun hf=>h209 c.v hp0) ?_;refine dJ ?_;refine az (fun hc0=>?_) (fun hc0=>?_)
 .have hq:=Lx hc0;refine aU ?_;refine cd ?_;rw[hq]
 have hy:=Hy hc0;refine gE ?_;refine az (fun hc1=>?_) (fun hc1=>?_)
 .simp only[bh]at hc1;have hz:=vV hy (lo:=0) (hi:=2) (aC hc1) (aC hc1);refine acg ?_;refine az (fun hc2=>?_) (fun hc2=>?_)
  .rw[Bool.and_comm (!decide (c.v.pre=[]))]at hc2;rw[hc2]at hz;refine aU ?_;refine cd ?_;rw[hz];simp[tG]<;>simp_all<;>omega
  rw[Bool.and_comm (!decide (c.v.pre=[]))]at hc2;rw[hc2]at hz;refine GL ?_;refine di (fun hc3=>?_) fun hc3=>?_
  .refine bW ?_;refine iI (fun hc6=>?_) fun hc6=>?_
   .refine bw ?_;refine cd ?_;rw[hz];simp[tG]<;>simp_all<;>omega
   refine bW ?_;refine iI (fun hc7=>?_) fun hc7=>?_
   .refine aQ ?_;refine cd ?_;rw[hz];simp[tG]<;>simp_all<;>omega
   refine jX ?_;refine cd ?_;rw[hz];simp[tG]<;>simp_all<;>omega
  refine bw ?_;refine di (fun hc4=>?_) fun hc4=>?_
  .refine dJ ?_;refine iI (fun hc7=>?_) fun hc7=>?_
   .refine aQ ?_;refine cd ?_;rw[hz];simp[tG]<;>simp_all<;>omega
   refine jX ?_;refine cd ?_;rw[hz];simp[tG]<;>simp_all<;>omega
  refine aQ ?_;refine di (fun hc5=>?_) fun hc5=>?_
  .refine vN ?_;refine cd ?_;rw[hz];simp[tG]<;>simp_all<;>omega
  refine ja ?_;refine cd ?_;rw[hz];simp[tG]<;>simp_all<;>omega
 simp only[bC]at hc1;have hz:=vV hy (lo:=1) (hi:=3) (ar hc1) (ar hc1);refine agQ ?_;refine az (fun hc2=>?_) (fun hc2=>?_)
 .rw[Bool.and_comm (!decide (c.v.pre=[]))]at hc2;rw[hc2]at hz;refine aU ?_;refine cd ?_;rw[hz];simp[tG]<;>simp_all<;>omega
 rw[Bool.and_comm (!decide (c.v.pre=[]))]at hc2;rw[hc2]at hz;refine GL ?_;refine di (fun hc3=>?_) fun hc3=>?_
 .refine bW ?_;refine iI (fun hc6=>?_) fun hc6=>?_
  .refine bw ?_;refine cd ?_;rw[hz];simp[tG]<;>simp_all<;>omega
  refine bW ?_;refine iI (fun hc7=>?_) fun hc7=>?_
  .refine aQ ?_;refine cd ?_;rw[hz];simp[tG]<;>simp_all<;>omega
  refine jX ?_;refine cd ?_;rw[hz];simp[tG]<;>simp_all<;>omega
 refine bw ?_;refine di (fun hc4=>?_) fun hc4=>?_
 .refine dJ ?_;refine iI (fun hc7=>?_) fun hc7=>?_
  .refine aQ ?_;refine cd ?_;rw[hz];simp[tG]<;>simp_all<;>omega
  refine jX ?_;refine cd ?_;rw[hz];simp[tG]<;>simp_all<;>omega
 refine aQ ?_;refine di (fun hc5=>?_) fun hc5=>?_
 .refine vN ?_;refine cd ?_;rw[hz];simp[tG]<;>simp_all<;>omega
 refine ja ?_;refine cd ?_;rw[hz];simp[tG]<;>simp_all<;>omega
noncomputable def Cy:aN:=dy 213
def w946 {Y:Ctx}(hm:(Y.at 0).cP)  (w:List av)(es:List D)(b:Bool)   :dX Y Cy (.str (bD w)) [.ref 3 [jG w (.sl 5 es) b] 0 0]:=by
 show cg _ _ _ [⟨_,_⟩,_,_] _;refine ay ?_;refine bw ?_;refine gI (v:=.sl 1 (w.map D.str)) ?_;refine aE ?_;intro u0;refine aD ?_;refine di (fun hc0=>?_) fun hc0=>?_
 .refine aU ?_;refine du ?_;have:w=[]:=pB.1 ae;subst this;rfl
 refine aU ?_;refine gI (v:=.sl 1 (w.map D.str)) ?_;refine bz 0 ?_;refine aK ?_;refine du ?_
 match w,hc0 with
 |[],h=>exact absurd rfl h
 |x::r,_=>rfl
noncomputable def nA:aN:=dy 214
def w947 {Y:Ctx}(hm:(Y.at 2).cP)(w:List av)(nd:List Nd)(b:Bool)(h946:VP (Y.at 2))  :cg (Y.at 2) nA.body (kJ nA (TI 3 jG nd (fun o=>o=⟨0,cv w,nd,eu w b⟩) (fun _=>.str (bD w))):Ex->List cA->St->Prop) (gz nA [.ptr 0 3 0 0]) ⟨2,[(0,.buf 3 [jG w (.own 1 5 0 nd.length) b]),(1,.buf 5 (nd.map Nd.D))]⟩:=by
 show cg _ _ _ [⟨true,.ptr 0 3 0 0⟩,.un,.un,.un] ⟨2,[(0,.buf 3 [jG w (.own 1 5 0 nd.length) b]),(1,.buf 5 (nd.map Nd.D))]⟩;refine ay ?_;refine aK ?_;refine au (hc:=h946 w _ b) (hp:=fun _=>aaC ah ah) ?_;refine bw ?_;refine di (fun hc0=>?_) fun hc0=>?_
 .refine aU ?_;refine aR (jG w (.own 1 5 0 nd.length) true) (he:=aW) ?_;refine aQ ?_;refine ch trivial eP (cn ah (ak D.str ?_)) ah ⟨⟨0,cv w,nd,eu w b⟩,rfl,rfl,by simp only[cv,eu,hc0,ba];rfl,rfl⟩;exact hc0.symm
 refine aQ ?_;refine aV (v:=.sl 1 (w.map D.str)) ?_;refine sk 1 (hb:=fun _=>by have:=abN hc0;omega) ?_;refine aD ?_;refine aR (jG (w.drop 1) (.own 1 5 0 nd.length) b) (he:=aW) ?_;refine aQ ?_;refine ch trivial eP (cn ah (ak D.str ?_)) ah ⟨⟨0,cv w,nd,eu w b⟩,rfl,rfl,by simp only[cv,eu,hc0,aZ];rfl,rfl⟩;rfl
noncomputable def pw:aN:=dy 215
def w948 {Y:Ctx}(hm:(Y.at 2).cP)(x:Nd)(w:List av)(nd:List Nd)(b:Bool)  (hp0:nd.length<=2000):cg (Y.at 2) pw.body (kJ pw (Ch 3 jG (fun o=>o=⟨(nd.length:Nat),w,nd++[x],b⟩) Va):Ex->List cA->St->Prop) (gz pw [.ptr 0 3 0 0,Nd.D x]) ⟨2,[(0,.buf 3 [jG w (.own 1 5 0 nd.length) b]),(1,.buf 5 (nd.map Nd.D))]⟩:=by
 show cg _ _ _ [⟨true,.ptr 0 3 0 0⟩,⟨true,Nd.D x⟩,.un,.un] ⟨2,[(0,.buf 3 [jG w (.own 1 5 0 nd.length) b]),(1,.buf 5 (nd.map Nd.D))]⟩;refine ay ?_;refine bW ?_;refine aV (v:=.own 1 5 0 nd.length) ?_;refine cO (d:=Nd.D x) ?_;refine dq [Nd.D x] ?_;refine iG (q:=Nd.D) (xs:=nd) (e:=x) ?_;refine aD ?_;refine aR (jG w (.own 11 5 0 (nd++[x]).length) b) (he:=aW) ?_;refine aU ?_;refine aV (v:=.own 11 5 0 (nd++[x]).length) ?_;refine aE ?_;intro u0;refine aK ?_;refine ch trivial eP (cn ah (ak (D.int .i64) ?_)) ah ⟨⟨(nd.length:Nat),w,nd++[x],b⟩,11,aG,rfl,rfl,rfl,rfl⟩;simp
noncomputable def S6:aN:=dy 210
def w741  (s:av)(b:Int)   :dX Y S6 (.int .i64 ((aP s b).2.length:Nat)) [.str s,.int .u8 b]:=by
 show cg _ _ _ [⟨_,_⟩,⟨_,_⟩,_,_,_,_] _;refine ay ?_;refine aQ ?_;refine br hm (ι:=Nat) (fun i=>[⟨true,.str s⟩,⟨true,.int .u8 b⟩,.un,⟨true,.int .i64 (i:Nat)⟩,.un,.un]) (fun i=>[]) 2 (fun i=>i<=s.length/\aP s b=ji s b i) (fun i=>s.length-i) 0 ⟨ae,rfl⟩ (dQ []) ?_;rintro i ⟨hi,hr⟩;refine aU ?_;intro u0;refine aD ?_;refine di (fun hc0=>?_) fun hc0=>?_
 .refine dJ ?_;refine iI (fun hc1=>?_) fun hc1=>?_
  .refine bw ?_;refine gu ?_;rw[hr,EF ae hc1];simp only[eF];omega
  refine bW ?_;exact⟨i+1,⟨ae,by rw[hr,EG ae hc1]⟩,ae,(dQ [])⟩
 refine aU ?_;intro u1;refine aF ?_;refine gu ?_;rw[hr,BM ae]
noncomputable def S7:aN:=dy 211
def w742 {Y:Ctx}(hm:(Y.at 0).cP)(h667:N0 Y)(l:List av)   :dX Y S7 (.tup [dz.D (eS l).1,.bool (eS l).2]) [.sl 1 (l.map D.str)]:=by
 show cg _ _ _ [⟨_,_⟩,_,_,_,_,_,_,_,_,_,_] _;refine ay ?_;refine ja ?_;intro u0;refine aD ?_;refine di (fun hc0=>?_) fun hc0=>?_
 .refine aD ?_;refine aV (v:=dz.D hX) ?_;refine aR (dz.D hX) (he:=aW) ?_;refine aF ?_;refine bT (aS ?_ (ak D.bool ?_));all_goals (rw[eS,ar ae];first|done|rfl)
 refine aF ?_;refine bz 0 (hb:=fun _=>ae) ?_;refine bp (v:=.str l[0]!) (hi:=fun _=>ae) ?_;refine au (hc:=h667 l[0]!) ?_;refine bW ?_;refine bz 1 (hb:=fun _=>ae) ?_;refine bp (v:=.str l[1]!) (hi:=fun _=>ae) ?_;refine au (hc:=h667 l[1]!) ?_;refine bW ?_;refine bz 2 (hb:=fun _=>ae) ?_;refine bp (v:=.str l[2]!) (hi:=fun _=>ae) ?_;refine au (hc:=h667 l[2]!) ?_;refine ja ?_;refine bj (dz.D ⟨fe l[0]!,fe l[1]!,fe l[2]!,[],[]⟩) ?_;refine bw ?_;refine aR (dz.D ⟨fe l[0]!,fe l[1]!,fe l[2]!,[],[]⟩) (he:=aW) ?_;refine aF ?_;refine bT (aS ?_ (ak D.bool ?_));all_goals (rw[eS,aC ae];first|done|rfl)
noncomputable def L6:aN:=dy 9
def w81 {Y:Ctx}(hm:(Y.at 0).cP)(h82:C82 Y)(h238:NS Y)    :dX Y L6 (.bool true) []:=by
 show cg _ _ _ [_,_,_,_,_,_,_,_] _;refine ay ?_;refine aF ?_;refine au (v:=.tup [fD.D V2,.int .i64 0,.int .i64 0]) (hc:=by have:=h82 awM1 aG;rw[awm_1]at this;exact this) ?_;refine aE ?_;refine fJ (fD.D _) ?_;refine aF ?_;refine aR (fD.D V2) (he:=aW) ?_;refine aK ?_;refine cO (d:=fD.D V2) ?_;refine au (v:=.tup [.str awM1,.int .i64 0]) (hc:=by have:=h238 V2 ahZ;rw[awm_p]at this;exact this) ?_;refine bw ?_;refine au (v:=.tup [fD.D (gD awM2).1,.int .i64 2,.int .i64 3]) (hc:=by have:=h82 awM2 aG;rw[ak Prod.fst agl,ak Prod.snd agl]at this;exact this) ?_;refine aE ?_;refine fJ (fD.D _) ?_;refine aF ?_;refine aR (fD.D (gD awM2).1) (he:=aW) ?_;refine GL ?_;refine aV (v:=.sl 2 (V2.ps.map dH.D)) ?_;refine gN ?_;refine aK ?_;refine aV (v:=.sl 2 (V2.hs.map bV.D)) ?_;refine gN ?_;refine aK ?_;refine gN ?_;refine mZ ?_;refine cd ?_;decide
end Go.Abs
