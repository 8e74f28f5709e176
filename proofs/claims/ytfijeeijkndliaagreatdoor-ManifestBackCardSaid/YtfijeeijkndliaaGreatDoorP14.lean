/- A part of the proofs. -/
import Derived.Test.YtfijeeijkndliaaGreatDoorP07
set_option linter.all false
set_option maxRecDepth 60000
set_option maxHeartbeats 2000000
namespace Go.Abs
variable {Y:Ctx}(hm:(Y.at 0).cP)
noncomputable def lF:aN:=dy 129
def w467 {Y:Ctx}(hm:(Y.at 1).cP)(h124:KZ (Y.at 1))(h465:NU (Y.at 1))(h468:NV (Y.at 1))(r:Ld)  (hp0:r.sm):cg (Y.at 1) lF.body (VW lF 2 (bo.D (eQ r.rest).1) (Ld.D (r.to (eQ r.rest).2)):Ex->List cA->St->Prop) (gz lF (.ptr 0 2 0 0::[])) ⟨1,[(0,.buf 2 [(Ld.D r)])]⟩:=by
 show cg _ _ _ [⟨true,.ptr 0 2 0 0⟩,.un,.un,.un,.un,.un,.un,.un,.un,.un,.un,.un] ⟨1,[(0,.buf 2 [(Ld.D r)])]⟩;have hself:=Ld.Kg hp0;have hq0:=r.F6;refine ay ?_;refine aU ?_;refine br hm (ι:=(List bX×List av)) (fun p=>[⟨true,.ptr 0 2 0 0⟩,⟨true,.ptr 1 3 0 0⟩,.un,.un,.un,.un,.un,.un,⟨true,.ptr 2 3 0 0⟩,.un,.un,.un]) (fun p=>[(0,.buf 2 [Ld.D (r.to p.2)]),(1,.buf 3 [.agg [.bg,.str [],.str []]]),(2,.buf 3 [.agg [.own 3 4 0 (p.1).length,.str [],.str []]]),(3,.buf 4 (p.1.map bX.N))]) 10 (fun p=>p.2<:+r.ls/\p.1.length+p.2.length<=r.ls.length/\cV r.rest=(p.1++(cV p.2).1,(cV p.2).2)) (fun p=>p.2.length) ([],r.rest) ⟨hq0,by simpa using hq0.length_le,aI⟩ (bm.to [(1,1),(2,2)] ah ah fC (by refine bF.nl 0 ah ah (by rw[hself]) ah ?_;refine bF.iM ah ah ah ?_;refine bF.ni 2 ah ah (by exact⟨_,_,rfl,⟨_,rfl,⟨_,_,rfl,Or.inr ⟨_,_,_,rfl⟩,⟨_,_,rfl,⟨rfl,rfl⟩,⟨_,_,rfl,⟨rfl,rfl⟩,rfl⟩⟩⟩⟩,rfl⟩) ?_;refine bF.mt ah ah ah ah ?_;exact bF.nil)) ?_;rintro⟨A,p⟩ ⟨hq1,hlen,hw⟩;dsimp only at hq1 hlen hw⊢;have hll:=hp0.1.2;refine aF ?_;refine pQ (hc:=CY h465 hp0 (p:=p) hq1 (w:=ib) (n:=5) (op:=true) aG aG) ?_;refine aE ?_;refine fJ _ ?_;refine dJ ?_;refine az (fun hc0=>?_) (fun hc0=>?_)
 .simp only[bE]at hc0;have hq:=kX hc0;have hnr:fI ib 5 true p=p:=by simp only[fI,hq]
  rw[hnr];have hw2:cV r.rest=(A,p):=by rw[hw,zB hq,gQ]
  refine aK ?_;have hq3:=(lU p).trans hq1;refine aE ?_;refine pQ (hc:=Kr h468 hp0 hq1) ?_;refine aE ?_;refine aR (.agg [.own 3 4 0 A.length,.str (cI p).1,.str []]) (he:=aW) ?_;refine aK ?_;refine pQ (hc:=CY h465 hp0 (p:=(cI p).2) hq3 (w:=dh) (n:=2) (op:=false) aG aG) ?_;refine aE ?_;refine fJ _ ?_;refine bW ?_;refine di (fun hc3=>?_) fun hc3=>?_
  .refine aE ?_;obtain⟨⟨l,q2⟩,hq⟩:=kY hc3;have hnr:fI dh 2 false (cI p).2=q2:=by simp only[fI,hq]
   obtain⟨hl,hlm,hq2,hqp⟩:=ra hp0 hq3 hq;rw[hnr,hq];obtain hl:l.length=2:=by rcases hl with h|h;cases h;exact h
   refine aE ?_;refine bz 1 (hb:=fun _=>ae) ?_;refine bp (v:=.str l[1]!) (hi:=fun _=>ae) ?_;refine aE ?_;refine aR (.agg [.own 3 4 0 A.length,.str (cI p).1,.str l[1]!]) (he:=aW) ?_;refine aE ?_;have hnp:eQ r.rest=(⟨A,(cI p).1,l[1]!⟩,q2):=by simp only[eQ,hw2,qD,hq]
   rw[hnp];refine e7 3 (hn:=bA bX.qV _) (he:=by simp only[j8,ig,ij,ku,kW,cM,Nat.reduceEqDiff,ba,aZ,cC,cj,cb,cH,cK,bI,bB,aH,bR,aL,reduceCtorEq,aM,aX,Nat.reduceAdd,Nat.reduceLeDiff,Ld.D];exact rfl) (hm:=by simp only[j8,ig,ij,ku,kW,cM,Nat.reduceEqDiff,ba,aZ,cC,cj,cb,cH,cK,bI,bB,aH,bR,aL,reduceCtorEq,aM,aX,Nat.reduceAdd,Nat.reduceLeDiff,Ld.D];exact rfl) ?_;refine mR [(0,.buf 2 [Ld.D (r.to q2)]),(1,.buf 3 [.agg [.bg,.str [],.str []]]),(2,.buf 3 [bo.D ⟨A,(cI p).1,l[1]!⟩])] (.id ah (.id ah (.bf ah (.cons (.ag (.cons (.ss (.map fun x _=>x.wk)) (.rf _))) .nil) .nil))) ?_;refine aE ?_;refine cO (d:=bo.D ⟨A,(cI p).1,l[1]!⟩) ?_;refine aR (bo.D ⟨A,(cI p).1,l[1]!⟩) (he:=aW) ?_;refine aD ?_;refine js trivial CB (cn ah (?_)) ah ah ah;rfl
  refine aE ?_;have hq:=kX hc3;have hnr:fI dh 2 false (cI p).2=(cI p).2:=by simp only[fI,hq]
  rw[hnr];have hnp:eQ r.rest=(⟨A,(cI p).1,[]⟩,(cI p).2):=by simp only[eQ,hw2,qD,hq]
  rw[hnp];refine e7 3 (hn:=bA bX.qV _) (he:=by simp only[j8,ig,ij,ku,kW,cM,Nat.reduceEqDiff,ba,aZ,cC,cj,cb,cH,cK,bI,bB,aH,bR,aL,reduceCtorEq,aM,aX,Nat.reduceAdd,Nat.reduceLeDiff,Ld.D];exact rfl) (hm:=by simp only[j8,ig,ij,ku,kW,cM,Nat.reduceEqDiff,ba,aZ,cC,cj,cb,cH,cK,bI,bB,aH,bR,aL,reduceCtorEq,aM,aX,Nat.reduceAdd,Nat.reduceLeDiff,Ld.D];exact rfl) ?_;refine mR [(0,.buf 2 [Ld.D (r.to (cI p).2)]),(1,.buf 3 [.agg [.bg,.str [],.str []]]),(2,.buf 3 [bo.D ⟨A,(cI p).1,[]⟩])] (.id ah (.id ah (.bf ah (.cons (.ag (.cons (.ss (.map fun x _=>x.wk)) (.rf _))) .nil) .nil))) ?_;refine aE ?_;refine cO (d:=bo.D ⟨A,(cI p).1,[]⟩) ?_;refine aR (bo.D ⟨A,(cI p).1,[]⟩) (he:=aW) ?_;refine aD ?_;refine js trivial CB (cn ah (?_)) ah ah ah;rfl
 simp only[cq]at hc0;obtain⟨⟨l,q2⟩,hq⟩:=kY hc0;have hnr:fI ib 5 true p=q2:=by simp only[fI,hq]
 obtain⟨hl,hlm,hq2,hqp⟩:=ra hp0 hq1 hq;rw[hnr,hq];obtain hl:l.length=5:=by rcases hl with h|h;cases h;exact h
 refine aK ?_;refine bz 3 (hb:=fun _=>ae) ?_;refine bp (v:=.str l[3]!) (hi:=fun _=>ae) ?_;refine aF ?_;refine bz 3 (hb:=fun _=>ae) ?_;refine bp (v:=.str l[3]!) (hi:=fun _=>ae) ?_;refine aF ?_;refine az (fun hc1=>?_) (fun hc1=>?_)
 .simp only[bM,bE,bC]at hc1;have hho:mi l=false:=by unfold mi;rw[cy (show ¬l[3]! =dW from hc1.1),cy (show ¬l[3]! =jV from hc1.2)];rfl
  have hw2:cV r.rest=(A,p):=by rw[hw,Ty hq hho,gQ]
  obtain⟨t,hpt,_⟩:=eL hq;refine aD ?_;obtain⟨hab1,hab2⟩:=(hp0.to q2).1;refine aF ?_;refine aV (v:=.int .i64 ((r.to q2).at':Nat)) ?_;refine aF ?_;refine aR (Ld.D (r.to p)) (he:=by rw[hpt];exact Ld.back (hpt▸hq1)) ?_;refine aU ?_;have hq3:=(lU p).trans hq1;refine aE ?_;refine pQ (hc:=Kr h468 hp0 hq1) ?_;refine aE ?_;refine aR (.agg [.own 3 4 0 A.length,.str (cI p).1,.str []]) (he:=aW) ?_;refine aK ?_;refine pQ (hc:=CY h465 hp0 (p:=(cI p).2) hq3 (w:=dh) (n:=2) (op:=false) aG aG) ?_;refine aE ?_;refine fJ _ ?_;refine bW ?_;refine di (fun hc3=>?_) fun hc3=>?_
  .refine aE ?_;obtain⟨⟨l,q2⟩,hq⟩:=kY hc3;have hnr:fI dh 2 false (cI p).2=q2:=by simp only[fI,hq]
   obtain⟨hl,hlm,hq2,hqp⟩:=ra hp0 hq3 hq;rw[hnr,hq];obtain hl:l.length=2:=by rcases hl with h|h;cases h;exact h
   refine aE ?_;refine bz 1 (hb:=fun _=>ae) ?_;refine bp (v:=.str l[1]!) (hi:=fun _=>ae) ?_;refine aE ?_;refine aR (.agg [.own 3 4 0 A.length,.str (cI p).1,.str l[1]!]) (he:=aW) ?_;refine aE ?_;have hnp:eQ r.rest=(⟨A,(cI p).1,l[1]!⟩,q2):=by simp only[eQ,hw2,qD,hq]
   rw[hnp];refine e7 3 (hn:=bA bX.qV _) (he:=by simp only[j8,ig,ij,ku,kW,cM,Nat.reduceEqDiff,ba,aZ,cC,cj,cb,cH,cK,bI,bB,aH,bR,aL,reduceCtorEq,aM,aX,Nat.reduceAdd,Nat.reduceLeDiff,Ld.D];exact rfl) (hm:=by simp only[j8,ig,ij,ku,kW,cM,Nat.reduceEqDiff,ba,aZ,cC,cj,cb,cH,cK,bI,bB,aH,bR,aL,reduceCtorEq,aM,aX,Nat.reduceAdd,Nat.reduceLeDiff,Ld.D];exact rfl) ?_;refine mR [(0,.buf 2 [Ld.D (r.to q2)]),(1,.buf 3 [.agg [.bg,.str [],.str []]]),(2,.buf 3 [bo.D ⟨A,(cI p).1,l[1]!⟩])] (.id ah (.id ah (.bf ah (.cons (.ag (.cons (.ss (.map fun x _=>x.wk)) (.rf _))) .nil) .nil))) ?_;refine aE ?_;refine cO (d:=bo.D ⟨A,(cI p).1,l[1]!⟩) ?_;refine aR (bo.D ⟨A,(cI p).1,l[1]!⟩) (he:=aW) ?_;refine aD ?_;refine js trivial CB (cn ah (?_)) ah ah ah;rfl
  refine aE ?_;have hq:=kX hc3;have hnr:fI dh 2 false (cI p).2=(cI p).2:=by simp only[fI,hq]
  rw[hnr];have hnp:eQ r.rest=(⟨A,(cI p).1,[]⟩,(cI p).2):=by simp only[eQ,hw2,qD,hq]
  rw[hnp];refine e7 3 (hn:=bA bX.qV _) (he:=by simp only[j8,ig,ij,ku,kW,cM,Nat.reduceEqDiff,ba,aZ,cC,cj,cb,cH,cK,bI,bB,aH,bR,aL,reduceCtorEq,aM,aX,Nat.reduceAdd,Nat.reduceLeDiff,Ld.D];exact rfl) (hm:=by simp only[j8,ig,ij,ku,kW,cM,Nat.reduceEqDiff,ba,aZ,cC,cj,cb,cH,cK,bI,bB,aH,bR,aL,reduceCtorEq,aM,aX,Nat.reduceAdd,Nat.reduceLeDiff,Ld.D];exact rfl) ?_;refine mR [(0,.buf 2 [Ld.D (r.to (cI p).2)]),(1,.buf 3 [.agg [.bg,.str [],.str []]]),(2,.buf 3 [bo.D ⟨A,(cI p).1,[]⟩])] (.id ah (.id ah (.bf ah (.cons (.ag (.cons (.ss (.map fun x _=>x.wk)) (.rf _))) .nil) .nil))) ?_;refine aE ?_;refine cO (d:=bo.D ⟨A,(cI p).1,[]⟩) ?_;refine aR (bo.D ⟨A,(cI p).1,[]⟩) (he:=aW) ?_;refine aD ?_;refine js trivial CB (cn ah (?_)) ah ah ah;rfl
 simp only[ef,cq,bh]at hc1;have hho:mi l=true:=by
  unfold mi;rcases hc1 with h|h
  .rw[bY (show l[3]! =dW from h)];rfl
  .rw[bY (show l[3]! =jV from h),Bool.or_true]
 have hwy:=Ce hq hho;refine aF ?_;refine bz 1 (hb:=fun _=>ae) ?_;refine bp (v:=.str l[1]!) (hi:=fun _=>ae) ?_;refine aE ?_;refine bz 4 (hb:=fun _=>ae) ?_;refine bp (v:=.str l[4]!) (hi:=fun _=>ae) ?_;refine aE ?_;refine bz 3 (hb:=fun _=>ae) ?_;refine bp (v:=.str l[3]!) (hi:=fun _=>ae) ?_;refine aE ?_;refine bj (.agg [.str l[1]!,.str l[4]!,.bg,.bool (decide (l[3]! =dW))]) ?_;refine aE ?_;refine aR (.agg [.str l[1]!,.str l[4]!,.bg,.bool (decide (l[3]! =dW))]) (he:=aW) ?_;refine aK ?_;refine bz 2 (hb:=fun _=>ae) ?_;refine bp (v:=.str l[2]!) (hi:=fun _=>ae) ?_;refine aD ?_;refine di (fun hc2=>?_) fun hc2=>?_
 .refine aD ?_;refine bz 2 (hb:=fun _=>ae) ?_;refine bp (v:=.str l[2]!) (hi:=fun _=>ae) ?_;refine au (hc:=h124 l[2]! 44 (hlm _ (bL ae))) ?_;refine aE ?_;refine aR (bX.N (iH l)) (he:=by show _=D.agg [.str l[1]!,.str l[4]!,nlS (if l[2]! =[45]then []else ai l[2]! 44),.bool (decide (l[3]! =dW))];rw[ar hc2,aaz (p9 _ _)];exact rfl) ?_;refine aF ?_;refine aV (v:=.own 3 4 0 A.length) ?_;refine cO (d:=bX.N (iH l)) ?_;refine dq [bX.N (iH l)] ?_;refine iG (q:=bX.N) (xs:=A) (e:=iH l) ?_;refine aE ?_;refine aR (.agg [.own 56 4 0 (A++[iH l]).length,.str [],.str []]) (he:=aW) ?_;refine aF ?_;exact⟨(A++[iH l],q2),⟨hq2,by simp only[bH,aM,aX];omega,by rw[hw,hwy];simp⟩,dE,(bm.to [(1,1),(2,2),(56,3)] ah ah fC (by refine bF.iM ah ah ah ?_;refine bF.iM ah ah ah ?_;refine bF.eq 2 ah ah ah ?_;refine bF.nl 56 ah ah rfl (by exact bA bX.qV _) ?_;exact bF.nil))⟩
 refine aD ?_;rw[show(D.agg [.str l[1]!,.str l[4]!,.bg,.bool (decide (l[3]! =dW))])=bX.N (iH l)by show _=D.agg [.str l[1]!,.str l[4]!,nlS (if l[2]! =[45]then []else ai l[2]! 44),.bool (decide (l[3]! =dW))];rw[aC hc2];rfl];refine aE ?_;refine aV (v:=.own 3 4 0 A.length) ?_;refine cO (d:=bX.N (iH l)) ?_;refine dq [bX.N (iH l)] ?_;refine iG (q:=bX.N) (xs:=A) (e:=iH l) ?_;refine aE ?_;refine aR (.agg [.own 50 4 0 (A++[iH l]).length,.str [],.str []]) (he:=aW) ?_;refine aF ?_;exact⟨(A++[iH l],q2),⟨hq2,by simp only[bH,aM,aX];omega,by rw[hw,hwy];simp⟩,dE,(bm.to [(1,1),(2,2),(50,3)] ah ah fC (by refine bF.iM ah ah ah ?_;refine bF.iM ah ah ah ?_;refine bF.eq 2 ah ah ah ?_;refine bF.nl 50 ah ah rfl (by exact bA bX.qV _) ?_;exact bF.nil))⟩
noncomputable def mw:aN:=dy 189
def Nx {Y:Ctx}(hm:(Y.at 2).cP)(part:List av->List Nd->PR)(pn:Nat)(wd:av)(op:Int)(w:List av)(nd:List Nd)(h946:VP (Y.at 2))(h947:Cg (Y.at 2))(h948:Dn (Y.at 2))(hp0:nd.length+2*w.length<=1000)(hp1:yH part)(hp2:pn<1000000)(hp3:wd≠[])(hp4:∀(w2:List av)(nd2:List Nd),w2.length<=w.length->nd2.length+2*w2.length<=1000->ru (Y.at 2) 3 jG pn [] w2 nd2 false (fh (part w2 nd2) w2 nd2) Va):cg (Y.at 2) mw.body (kJ mw (Ch 3 jG (fh (jK part wd op w nd) w nd) Va):Ex->List cA->St->Prop) (gz mw [.ptr 0 3 0 0,.str wd,.int .i64 op,.fn pn []]) ⟨2,[(0,.buf 3 [jG w (.own 1 5 0 nd.length) false]),(1,.buf 5 (nd.map Nd.D))]⟩:=by
 show cg _ _ _ [⟨true,.ptr 0 3 0 0⟩,⟨true,.str wd⟩,⟨true,.int .i64 op⟩,⟨true,.fn pn []⟩,.un,.un,.un,.un] ⟨2,[(0,.buf 3 [jG w (.own 1 5 0 nd.length) false]),(1,.buf 5 (nd.map Nd.D))]⟩;have hpn:G0 pn=pn:=aC hp2;have hpa:∀am7:List D,EH pn am7 []=am7:=fun am7=>by rw[EH,aC hp2,gQ]
 refine ay ?_;refine aU ?_;refine p0 (am7:=[.ptr 0 3 0 0]) (fh (part w nd) w nd) Va 4 (fun o=>[(5,.buf 5 (o.nd.map Nd.D)),(0,.buf 3 [jG o.w (.own 5 5 0 o.nd.length) o.bad])]) (fun o0 ho0=>?_) (hc:=fun K' hK=>by rw[hpn];exact hp4 w nd (aH _) ae _ 0 1 _ K' ah ah cD cD (fun o ho=>hK o ho)) (hn:=aG) (hn2:=ae) (ha:=hpa _);refine aD ?_;refine br hm (ι:=PO) (fun o=>[⟨true,.ptr 0 3 0 0⟩,⟨true,.str wd⟩,⟨true,.int .i64 op⟩,⟨true,.fn pn []⟩,.un,.un,⟨true,.int .i64 o.a⟩,.un]) (fun o=>[(0,.buf 3 [jG o.w (.own 2 5 0 o.nd.length) o.bad]),(2,.buf 5 (o.nd.map Nd.D))]) 8 (fun o=>NN part wd op (jK part wd op w nd) w nd o) (fun o=>o.w.length) o0 (NN.first ho0) (bm.to [(5,2)] ah ah fC (by refine hY ?_;refine bF.nl 5 ah ah ah fM ?_;exact bF.nil)) ?_;rintro⟨a,w1,nd1,bad⟩ hI;dsimp only;have hpb:=hI.2;have hl1:=hpb.1;have hl2:=hpb.2.1;dsimp only at hl1 hl2;refine dJ ?_;refine eD (hc:=fun _=>h946 w1 _ bad) (hp:=fun _=>aaC ah ah) ?_;refine aK ?_;refine az (fun hc0=>?_) (fun hc0=>?_)
 .simp only[bM,bE,bh]at hc0;obtain⟨rfl,hts⟩:=hc0;obtain⟨r,rfl⟩:=wE hp3 hts;simp only[aM]at hl1 hl2;refine aK ?_;refine dd (nx':=19) (v:=.str wd) (m':=[(0,.buf 3 [jG r (.own 2 5 0 nd1.length) false]),(2,.buf 5 (nd1.map Nd.D))]) (hc:=fun K' hK=>take_cons h947 hp3 r nd1 false _ 0 2 _ K' ah ah cD cD (fun o ho=>by subst ho;exact hK)) (hn:=aG) ?_;refine aK ?_;refine p0 (am7:=[.ptr 0 3 0 0]) (fh (part r nd1) r nd1) Va 22 (fun o=>[(23,.buf 5 (o.nd.map Nd.D)),(0,.buf 3 [jG o.w (.own 23 5 0 o.nd.length) o.bad])]) (fun o2 ho2=>?_) (hc:=fun K' hK=>by rw[hpn];exact hp4 r nd1 ae ae _ 0 2 _ K' ah ah cD cD (fun o ho=>hK o ho)) (hn:=aG) (hn2:=ae) (ha:=hpa _);have hl3:=ho2.2.2.1;have hl4:=ho2.2.1;refine bw ?_;refine bj (Nd.D (⟨op,a,o2.a,0,[]⟩:Nd)) ?_;refine dd (nx':=27) (v:=.int .i64 (o2.nd.length:Nat)) (m':=[(31,.buf 5 ((o2.nd++[(⟨op,a,o2.a,0,[]⟩:Nd)]).map Nd.D)),(0,.buf 3 [jG o2.w (.own 31 5 0 (o2.nd++[(⟨op,a,o2.a,0,[]⟩:Nd)]).length) o2.bad])]) (hc:=fun K' hK=>h948 (⟨op,a,o2.a,0,[]⟩:Nd) o2.w o2.nd o2.bad ae _ 0 23 _ K' ah ah cD cD (fun o ho=>by subst ho;exact hK)) (hn:=aG) ?_;refine aK ?_;exact⟨⟨(o2.nd.length:Nat),o2.w,o2.nd++[(⟨op,a,o2.a,0,[]⟩:Nd)],o2.bad⟩,NN.next hp1 hI ho2,by dsimp only;simp only[aM];omega,(bm.to [(31,2)] ah ah fC (by refine hY ?_;refine bF.nl 31 ah ah ah fM ?_;exact bF.nil))⟩
 have hx:=V6 hc0;refine bw ?_;refine ch trivial eP (cn ah (ak (D.int .i64) ?_)) ah ⟨⟨a,w1,nd1,bad⟩,2,aG,hI.last hx,rfl,rfl,rfl⟩;rfl
noncomputable def pr:aN:=dy 152
def w660 {Y:Ctx}(hm:(Y.at 2).cP)(w:List av)(nd:List Nd)(h808:Hj (Y.at 2) (6*w.length+4))(hp0:nd.length+2*w.length<=1000):cg (Y.at 2) pr.body (kJ pr (Ch 3 jG (fh (jR w nd) w nd) Va):Ex->List cA->St->Prop) (gz pr [.ptr 0 3 0 0]) ⟨2,[(0,.buf 3 [jG w (.own 1 5 0 nd.length) false]),(1,.buf 5 (nd.map Nd.D))]⟩:=by
 show cg _ _ _ [⟨true,.ptr 0 3 0 0⟩,.un] ⟨2,[(0,.buf 3 [jG w (.own 1 5 0 nd.length) false]),(1,.buf 5 (nd.map Nd.D))]⟩;refine ay ?_;refine aK ?_;refine iC (fh (jR w nd) w nd) Va 4 (fun o=>[(4,.buf 5 (o.nd.map Nd.D)),(0,.buf 3 [jG o.w (.own 4 5 0 o.nd.length) o.bad])]) (fun o1 ho1=>?_) (hc:=fun K' hK=>h808.1 w nd hp0 ae _ 0 1 _ K' ah ah cD cD (fun o ho=>hK o ho)) (hn:=aG);refine aF ?_;refine ch trivial eP (cn ah (ak (D.int .i64) ?_)) ah ⟨o1,4,aG,ho1,rfl,rfl,rfl⟩;rfl
noncomputable def ny:aN:=dy 190
def w809 {Y:Ctx}(hm:(Y.at 2).cP)(w:List av)(nd:List Nd)(h808:Hj (Y.at 2) (6*w.length+2))(hp0:nd.length+2*w.length<=1000):cg (Y.at 2) ny.body (kJ ny (Ch 3 jG (fh (kG w nd) w nd) Va):Ex->List cA->St->Prop) (gz ny [.ptr 0 3 0 0]) ⟨2,[(0,.buf 3 [jG w (.own 1 5 0 nd.length) false]),(1,.buf 5 (nd.map Nd.D))]⟩:=by
 show cg _ _ _ [⟨true,.ptr 0 3 0 0⟩,.un] ⟨2,[(0,.buf 3 [jG w (.own 1 5 0 nd.length) false]),(1,.buf 5 (nd.map Nd.D))]⟩;refine ay ?_;refine aK ?_;refine iC (fh (kG w nd) w nd) Va 4 (fun o=>[(4,.buf 5 (o.nd.map Nd.D)),(0,.buf 3 [jG o.w (.own 4 5 0 o.nd.length) o.bad])]) (fun o1 ho1=>?_) (hc:=fun K' hK=>h808.2 w nd hp0 ae _ 0 1 _ K' ah ah cD cD (fun o ho=>hK o ho)) (hn:=aG);refine aF ?_;refine ch trivial eP (cn ah (ak (D.int .i64) ?_)) ah ⟨o1,4,aG,ho1,rfl,rfl,rfl⟩;rfl
noncomputable def po:aN:=dy 216
def w949 {Y:Ctx}(hm:(Y.at 2).cP)(w:List av)(nd:List Nd)(h660:K6 (Y.at 2) (6*w.length))(h947:Cg (Y.at 2))(h948:Dn (Y.at 2))(h949:K8 (Y.at 2) (6*w.length))(h1031:yC (Y.at 2))(hp0:nd.length+2*w.length<=1000):cg (Y.at 2) po.body (kJ po (Ch 3 jG (fh (kq w nd) w nd) Va):Ex->List cA->St->Prop) (gz po [.ptr 0 3 0 0]) ⟨2,[(0,.buf 3 [jG w (.own 1 5 0 nd.length) false]),(1,.buf 5 (nd.map Nd.D))]⟩:=by
 show cg _ _ _ [⟨true,.ptr 0 3 0 0⟩,.un,.un,.un,.un,.un,.un,.un,.un,.un] ⟨2,[(0,.buf 3 [jG w (.own 1 5 0 nd.length) false]),(1,.buf 5 (nd.map Nd.D))]⟩;refine ay ?_;refine dJ ?_;refine az (fun hc0=>?_) (fun hc0=>?_)
 .skip
  exact absurd hc0 aG
 skip
 refine aF ?_;refine dd (nx':=7) (v:=.str (bD w)) (m':=[(0,.buf 3 [jG (cv w) (.own 1 5 0 nd.length) (eu w false)]),(1,.buf 5 (nd.map Nd.D))]) (hc:=fun K' hK=>h947 w nd false _ 0 1 _ K' ah ah cD cD (fun o ho=>by subst ho;exact hK)) (hn:=aG) ?_;refine ja ?_;refine wp_cond (fun hc1=>?_) (fun hc1=>?_)
 .simp only[bh]at hc1;obtain⟨r,rfl⟩:=wE aG hc1;rw[lJ aG,lI aG];simp only[aM]at hp0;refine aD ?_;refine iC (fh (kq r nd) r nd) Va 14 (fun o=>[(14,.buf 5 (o.nd.map Nd.D)),(0,.buf 3 [jG o.w (.own 14 5 0 o.nd.length) o.bad])]) (fun o1 ho1=>?_) (hc:=fun K' hK=>h949 r nd ae (by simp only[aM];omega) _ 0 1 _ K' ah ah cD cD (fun o ho=>hK o ho)) (hn:=aG);have hl3:=ho1.2.2.1;have hl4:=ho1.2.1;refine aU ?_;refine bj (Nd.D (⟨2,o1.a,0,0,[]⟩:Nd)) ?_;refine dd (nx':=18) (v:=.int .i64 (o1.nd.length:Nat)) (m':=[(20,.buf 5 ((o1.nd++[(⟨2,o1.a,0,0,[]⟩:Nd)]).map Nd.D)),(0,.buf 3 [jG o1.w (.own 20 5 0 (o1.nd++[(⟨2,o1.a,0,0,[]⟩:Nd)]).length) o1.bad])]) (hc:=fun K' hK=>h948 (⟨2,o1.a,0,0,[]⟩:Nd) o1.w o1.nd o1.bad ae _ 0 14 _ K' ah ah cD cD (fun o ho=>by subst ho;exact hK)) (hn:=aG) ?_;refine aK ?_;refine ch trivial eP (cn ah (ak (D.int .i64) ?_)) ah ⟨⟨(o1.nd.length:Nat),o1.w,o1.nd++[(⟨2,o1.a,0,0,[]⟩:Nd)],o1.bad⟩,20,aG,UB ho1,rfl,rfl,rfl⟩;rfl
 simp only[bC]at hc1;refine aK ?_;refine wp_cond (fun hc2=>?_) (fun hc2=>?_)
 .simp only[bh]at hc2;obtain⟨r,rfl⟩:=wE aG hc2;rw[lJ aG,lI aG];simp only[aM]at hp0;refine aD ?_;refine iC (fh (jR r nd) r nd) Va 16 (fun o=>[(16,.buf 5 (o.nd.map Nd.D)),(0,.buf 3 [jG o.w (.own 16 5 0 o.nd.length) o.bad])]) (fun o1 ho1=>?_) (hc:=fun K' hK=>h660 r nd ae (by simp only[aM];omega) _ 0 1 _ K' ah ah cD cD (fun o ho=>hK o ho)) (hn:=aG);refine aU ?_;refine dd (nx':=19) (v:=.str (bD o1.w)) (m':=[(16,.buf 5 (o1.nd.map Nd.D)),(0,.buf 3 [jG (cv o1.w) (.own 16 5 0 o1.nd.length) (eu o1.w o1.bad)])]) (hc:=fun K' hK=>h947 o1.w o1.nd o1.bad _ 0 16 _ K' ah ah cD cD (fun o ho=>by subst ho;exact hK)) (hn:=aG) ?_;refine aD ?_;refine az (fun hc3=>?_) (fun hc3=>?_)
  .simp only[bE,bC]at hc3;refine aK ?_;refine aR (jG (cv o1.w) (.own 16 5 0 o1.nd.length) true) (he:=aW) ?_;refine bw ?_;refine ch trivial eP (cn ah (ak (D.int .i64) ?_)) ah ⟨⟨o1.a,cv o1.w,o1.nd,true⟩,16,aG,Mn ho1 hc3,rfl,rfl,rfl⟩;rfl
  simp only[cq,bh]at hc3;refine bw ?_;refine ch trivial eP (cn ah (ak (D.int .i64) ?_)) ah ⟨⟨o1.a,cv o1.w,o1.nd,eu o1.w o1.bad⟩,16,aG,aaV ho1 hc3,rfl,rfl,rfl⟩;rfl
 simp only[bC]at hc2;have hfa:=ZS (nd:=nd) hc1 hc2;have htl:=(sx w nd).1;refine aF ?_;refine iC (fh (qg (eu w false) (bD w) (cv w) nd) (cv w) nd) Va 16 (fun o=>[(17,.buf 5 (o.nd.map Nd.D)),(0,.buf 3 [jG o.w (.own 17 5 0 o.nd.length) o.bad])]) (fun o1 ho1=>?_) (hc:=fun K' hK=>h1031 (bD w) (cv w) nd (eu w false) ae _ 0 1 _ K' ah ah cD cD (fun o ho=>hK o ho)) (hn:=aG);refine aK ?_;refine ch trivial eP (cn ah (ak (D.int .i64) ?_)) ah ⟨o1,17,aG,aaU hfa ho1,rfl,rfl,rfl⟩;rfl
noncomputable def LZ:aN:=dy 149
def w533  (s:av)(b:Int)  (hp0:s.length<=1048576):dX Y LZ (.sl 1 ((ai s b).map D.str)) [.str s,.int .u8 b]:=by
 show cg _ _ _ [⟨_,_⟩,⟨_,_⟩,_,_,_,_,_,_,_,_] _;refine ay ?_;refine jX ?_;intro u0;refine aD ?_;refine br hm (ι:=(Nat×Nat×List av)) (fun p:Nat×Nat×List av=>[⟨true,.str s⟩,⟨true,.int .u8 b⟩,.un,⟨true,.int .i64 (p.1:Nat)⟩,⟨true,.int .i64 (s.length:Nat)⟩,.un,.un,.un,⟨true,.own 0 1 0 p.2.2.length⟩,⟨true,.int .i64 (p.2.1:Nat)⟩]) (fun p=>[(0,.buf 1 (p.2.2.map D.str))]) 6 (fun p=>p.1<=s.length/\p.2.1<=p.1/\p.2.2.length<=p.1/\ai s b=p.2.2++cQ b (s.drop p.1) ((s.take p.1).drop p.2.1)) (fun p=>s.length-p.1) (0,0,[]) ⟨aI,aI,aI,rfl⟩ (bm.to [] ah ah (by repeat(first|exact de.nil|refine de.un ?_|refine de.eq ah ?_|refine de.nl ah ah ?_|refine de.ni (Or.inr ⟨0,1,0,rfl⟩) ?_)) (by repeat(first|exact bF.nil|refine bF.mt ah ah ah ah ?_))) ?_;rintro⟨i,fr,acc⟩ ⟨hi,hf,ha,hr⟩;dsimp only at hi hf ha hr⊢;refine aF ?_;refine di (fun hc0=>?_) fun hc0=>?_
 .refine mZ ?_;refine wp_cond (fun hc1=>?_) (fun hc1=>?_)
  .try simp only[cX]at hc1
   refine aU ?_;refine FR _ _ ?_;refine dq [(.str _)] ?_;refine vN ?_;exact⟨(i+1,i+1,acc++[(s.take i).drop fr]),⟨dE,dE,dk,by rw[hr,Iq ae hc1];simp⟩,dE,(bm.to [(20,0)] ah ah pz (by refine bF.nl 20 ah ah ah fM ?_;exact bF.nil))⟩
  simp only[bC]at hc1;refine bw ?_;exact⟨(i+1,fr,acc),⟨dE,dE,dE,by rw[hr,Ir ae ae hc1]⟩,dE,(bm.to [(0,0)] ah ah pz (by refine bF.nl 0 ah ah ah fM ?_;exact bF.nil))⟩
 refine aQ ?_;refine ga _ ?_;refine dq [(.str _)] ?_;refine aF ?_;refine e7 12 ?_;refine aE ?_;refine bT (?_);have hs:ai s b=acc++[s.drop fr]:=by rw[hr,Gj ae]
 rw[hs];exact rfl
noncomputable def CE:aN:=dy 151
def w659  (t:av)   :dX Y CE (.bool (jz t)) [.str t]:=by
 show cg _ _ _ [⟨_,_⟩,_,_,_,_,_,_] _;refine ay ?_;refine aQ ?_;intro u0;refine aD ?_;refine br hm (ι:=Nat) (fun i=>[⟨true,.str t⟩,.un,⟨true,.int .i64 (i:Nat)⟩,⟨true,.int .i64 (t.length:Nat)⟩,.un,.un,.un]) (fun i=>[]) 4 (fun i=>i<=t.length/\c9 (fun i=>bJ (at8 t i)) 0 t.length=c9 (fun i=>bJ (at8 t i)) i t.length) (fun i=>t.length-i) 0 ⟨ae,rfl⟩ (dQ []) ?_;rintro i ⟨hi,hr⟩;refine aF ?_;refine di (fun hc0=>?_) fun hc0=>?_
 .refine acf ?_;refine iI (fun hc1=>?_) fun hc1=>?_
  .refine aQ ?_;refine cd ?_;simp only[jz];rw[hr,bc ae];rcases hc1 with h|h<;>simp[bJ]<;>omega
  refine bw ?_;exact⟨i+1,⟨ae,by rw[hr,bc ae];rw[show bJ (at8 t i)=true by simp only[bJ,bM,bh];omega];rfl⟩,ae,(dQ [])⟩
 refine bW ?_;refine cd ?_;simp only[jz];rw[hr,cL ae];cases t<;>simp
noncomputable def Kn:aN:=dy 89
def w440 {Y:Ctx}(hm:(Y.at 0).cP)  (n:Int)   :dX Y Kn (.bool (sZ n)) [.int .i64 n]:=by
 show cg _ _ _ [⟨_,_⟩,_] _;refine ay ?_;refine jX ?_;exact cd rfl
noncomputable def Gx:aN:=dy 184
def w675  (s:av)(b:Int)   :dX Y Gx (.tup [.str (aP s b).1,.str (aP s b).2]) [.str s,.int .u8 b]:=by
 show cg _ _ _ [⟨_,_⟩,⟨_,_⟩,_,_,_,_,_,_,_] _;refine ay ?_;refine bw ?_;intro u0;refine aD ?_;refine br hm (ι:=Nat) (fun i=>[⟨true,.str s⟩,⟨true,.int .u8 b⟩,.un,.un,⟨true,.int .i64 (i:Nat)⟩,⟨true,.int .i64 (s.length:Nat)⟩,.un,.un,.un]) (fun i=>[]) 5 (fun i=>i<=s.length/\aP s b=ji s b i) (fun i=>s.length-i) 0 ⟨ae,rfl⟩ (dQ []) ?_;rintro i ⟨hi,hr⟩;refine aF ?_;refine di (fun hc0=>?_) fun hc0=>?_
 .refine mZ ?_;refine iI (fun hc1=>?_) fun hc1=>?_
  .refine aK ?_;refine ga (i+1) ?_;refine aD ?_;refine lf _ ?_;refine aQ ?_;refine bT (aS (ak D.str ?_) (ak D.str ?_));all_goals rw[hr,EF ae hc1]
  refine bw ?_;exact⟨i+1,⟨ae,by rw[hr,EG ae hc1]⟩,ae,(dQ [])⟩
 refine bW ?_;refine bT (aS (ak D.str ?_) (ak D.str ?_));all_goals rw[hr,BM ae]
noncomputable def Ko:aN:=dy 91
def w442 (h533:K5 Y)(s:av)  (hp0:s.length<=1048576):dX Y Ko (.bool (rh s false)) [.str s]:=by
 show cg _ _ _ [⟨_,_⟩,_,_,_,_,_,_,_,_,_,_,_,_,_,_] _;refine ay ?_;refine aK ?_;refine au (hc:=h533 _ _ ?_) ?_;rotate_left;first|assumption|omega;have hlen:=cJ s 46
 refine aU ?_;intro u0;refine bW ?_;intro u1;refine aD ?_;refine br hm (ι:=Nat) (fun i=>[.un,.un,⟨true,.sl 1 ((ai s 46).map D.str)⟩,⟨true,.int .i64 (i:Nat)⟩,⟨true,.int .i64 ((ai s 46).length:Nat)⟩,.un,⟨true,.sl 1 ((ai s 46).map D.str)⟩,.un,.un,.un,.un,.un,.un,.un,⟨true,.bool (decide (((ai s 46).length:Int)<=4))⟩]) (fun i=>[]) 11 (fun i=>i<=(ai s 46).length/\rh s false=(decide ((ai s 46).length<=4)&&c9 (fun i=>jC false (ai s 46)[i]!) i (ai s 46).length)) (fun i=>(ai s 46).length-i) 0 ⟨ae,rfl⟩ (dQ []) ?_;rintro i ⟨hi,hr⟩;refine aF ?_;refine di (fun hc0=>?_) fun hc0=>?_
 .refine dJ ?_;generalize ht:(ai s 46)[i]! =t;refine aK ?_;refine gN ?_;refine aF ?_;refine di (fun hc1=>?_) fun hc1=>?_
  .refine jX ?_;refine cd ?_;first
    |(rw[hr,cL ae,kn];exact jO.2 ae)
    |(have hb:vv t=false:=by
       first
       |(simp only[vv];rcases hc1 with h|h
         .subst h;simp
         .rw[cy (by omega:¬t.length<=8)];simp)
       |(have hz:pS (at8 t j)=false:=by
          rcases hcw with⟨_,h,_⟩|⟨_,h⟩<;>(simp only[pS,jq,bJ,dt,ef,bC];omega)
         rw[hj,bc hnx,hz];rfl)
      rw[hr,bc ae,show jC false (ai s 46)[i]! =false from(by simp only[jC,ht,hb,Bool.false_and])];simp)
  refine aU ?_;have hT:vv t=c9 (fun i=>pS (at8 t i)) 0 t.length:=by
   have:=List.length_pos_iff.2 hc1.1;simp only[vv];rw[bY ae,bY ae];rfl
  refine rl hm (ι:=Nat) (fun j=>[.un,.un,⟨true,.sl 1 ((ai s 46).map D.str)⟩,⟨true,.int .i64 (i:Nat)⟩,⟨true,.int .i64 ((ai s 46).length:Nat)⟩,.un,⟨true,.sl 1 ((ai s 46).map D.str)⟩,.un,.un,⟨true,.it 23⟩,.un,.un,.un,.un,⟨true,.bool (decide (((ai s 46).length:Int)<=4))⟩]) (fun j=>[(23,.iter t j)]) 24 (fun j=>j<=t.length/\vv t=c9 (fun i=>pS (at8 t i)) j t.length) (fun j=>t.length-j) 0 ⟨ae,hT⟩ (dQ [(23,23)]) ?_;rintro j ⟨hj0,hj⟩;refine aE ?_;by_cases hnx:j<t.length
  .obtain⟨c,w,hdec,hw,hcw⟩:=yT t j hnx;refine JV c w (hp:=hnx) (hc:=hdec) ?_;refine aD ?_;refine az (t:=true) (fun _=>?_) (fun h=>by cases h);refine zzz26 ?_;refine iI (fun hc3=>?_) fun hc3=>?_
   .refine mZ ?_;refine cd ?_;first
     |(rw[hr,cL ae,kn];exact jO.2 ae)
     |(have hb:vv t=false:=by
        first
        |(simp only[vv];rcases hc1 with h|h
          .subst h;simp
          .rw[cy (by omega:¬t.length<=8)];simp)
        |(have hz:pS (at8 t j)=false:=by
           rcases hcw with⟨_,h,_⟩|⟨_,h⟩<;>(simp only[pS,jq,bJ,dt,ef,bC];omega)
          rw[hj,bc hnx,hz];rfl)
       rw[hr,bc ae,show jC false (ai s 46)[i]! =false from(by simp only[jC,ht,hb,Bool.false_and])];simp)
   refine aF ?_;obtain⟨rfl,hat,-⟩:w=1/\(c:Int)=at8 t j/\c<128:=by
    rcases hcw with h|h
    .exact h
    .omega
   have hz:pS (at8 t j)=true:=by
    simp only[pS,jq,bJ,dw,bM,bh];omega
   exact⟨j+1,⟨ae,by rw[hj,bc hnx,hz];rfl⟩,ae,(dQ [(23,23)])⟩
  .refine JU (hp:=hnx) ?_;refine aD ?_;refine az (t:=false) (fun h=>by cases h) (fun _=>?_);refine bW ?_;exact⟨i+1,⟨ae,by rw[hr,bc ae];rw[show jC false (ai s 46)[i]! =true from(by simp only[jC,Bool.false_and,Bool.not_false,kn];rw[ht,hj,cL ae])];rfl⟩,ae,(dQ [])⟩
 refine bw ?_;refine cd ?_;first
  |(rw[hr,cL ae,kn];exact jO.2 ae)
  |(have hb:vv t=false:=by
     first
     |(simp only[vv];rcases hc1 with h|h
       .subst h;simp
       .rw[cy (by omega:¬t.length<=8)];simp)
     |(have hz:pS (at8 t j)=false:=by
        rcases hcw with⟨_,h,_⟩|⟨_,h⟩<;>(simp only[pS,jq,bJ,dt,ef,bC];omega)
       rw[hj,bc hnx,hz];rfl)
    rw[hr,bc ae,show jC false (ai s 46)[i]! =false from(by simp only[jC,ht,hb,Bool.false_and])];simp)
noncomputable def WL:aN:=dy 22
def w1201  (s:RQ)   :dX Y WL (.bool (LH s)) [RQ.D s]:=by
 show cg _ _ _ [⟨_,_⟩,_,_,_,_,_,_,_,_,_,_] _;refine ay ?_;refine aQ ?_;refine aV (v:=.sl 11 (s.es.map yA.D)) ?_;refine aE ?_;intro u0;refine aF ?_;refine aV (v:=.str s.name) ?_;refine gN ?_;refine aF ?_;refine az (fun hc0=>?_) (fun hc0=>?_)
 .simp only[dw,bh]at hc0;refine aU ?_;refine cd ?_;unfold LH;rcases hc0 with h|h
  .rw[cy (show ¬s.es.length<=6 by omega)];rfl
  .rw[cy (show ¬s.name.length<=60 by omega)];simp
 simp only[dt,bC]at hc0;refine aU ?_;refine br hm (ι:=Nat) (fun i=>[.un,⟨true,.bool false⟩,⟨true,.ptr 0 2 0 0⟩,.un,⟨true,.int .i64 (i:Nat)⟩,.un,.un,.un,.un,.un,.un]) (fun i=>[(0,.buf 2 [RQ.D s])]) 13 (fun i=>i<=s.es.length/\LH s=c9 (fun i=>Wl s.es[i]!.r) i s.es.length) (fun i=>s.es.length-i) 0 ⟨ae,by unfold LH;rw[bY (show s.es.length<=6 by omega),bY (show s.name.length<=60 by omega)];rfl⟩ (dQ [(0,0)]) ?_;rintro i ⟨hi,hr⟩;refine aK ?_;refine aV (v:=.sl 11 (s.es.map yA.D)) ?_;refine aE ?_;intro u1;refine aD ?_;refine di (fun hc1=>?_) fun hc1=>?_
 .refine aK ?_;refine aV (v:=.sl 11 (s.es.map yA.D)) ?_;refine aE ?_;refine bz i (hb:=fun _=>ae) ?_;refine aE ?_;refine bp (v:=Rec.D s.es[i]!.r) (hi:=fun _=>ae) ?_;refine aE ?_;refine aR (Rec.D s.es[i]!.r) (he:=aW) ?_;refine aK ?_;refine aV (v:=.str s.es[i]!.r.name) ?_;refine aE ?_;intro u2;refine aD ?_;refine aV (v:=.str s.es[i]!.r.v.pre) ?_;refine aE ?_;intro u3;refine yi (sumA s.es[i]!.r) (hb:=fun _=>rfl) ?_;refine aD ?_;refine aV (v:=.str s.es[i]!.r.v.build) ?_;refine aE ?_;intro u4;refine yi (sumH s.es[i]!.r) (hb:=fun _=>rfl) ?_;refine aF ?_;refine aV (v:=.sl 3 (s.es[i]!.r.needs.map bo.D)) ?_;refine gN ?_;refine aK ?_;refine aV (v:=.sl 3 (s.es[i]!.r.bars.map fZ.D)) ?_;refine gN ?_;refine aK ?_;refine aV (v:=.sl 2 (s.es[i]!.r.feats.map ct.D)) ?_;refine gN ?_;refine aF ?_;refine az (fun hc2=>?_) (fun hc2=>?_)
  .simp only[dw,bh]at hc2;refine bw ?_;refine cd ?_;have hG:ZV s.es[i]!.r=false:=by
    unfold ZV;rcases hc2 with((h|h)|h)|h
    .rw[bY (show 200<sumH s.es[i]!.r by omega)];rfl
    .rw[bY (show 9<s.es[i]!.r.needs.length by omega)];simp
    .rw[bY (show 9<s.es[i]!.r.bars.length by omega)];simp
    .rw[bY (show 9<s.es[i]!.r.feats.length by omega)];simp
   rw[hr,bc ae];unfold Wl;rw[hG];rfl
  simp only[dt,bC]at hc2;have hG:ZV s.es[i]!.r=true:=by unfold ZV;rw[cy (show ¬200<sumH s.es[i]!.r by omega),cy (show ¬9<s.es[i]!.r.needs.length by omega),cy (show ¬9<s.es[i]!.r.bars.length by omega),cy (show ¬9<s.es[i]!.r.feats.length by omega)];rfl
  refine aK ?_;refine rl hm (ι:=Nat) (fun k=>[.un,⟨true,.bool false⟩,⟨true,.ptr 0 2 0 0⟩,.un,⟨true,.int .i64 (i:Nat)⟩,.un,⟨true,.ptr 1 9 0 0⟩,.un,⟨true,.int .i64 (k:Nat)⟩,.un,.un]) (fun k=>[(0,.buf 2 [RQ.D s]),(1,.buf 9 [Rec.D s.es[i]!.r])]) 60 (fun k=>k<=s.es[i]!.r.needs.length/\c9 (fun k=>R7 s.es[i]!.r.needs[k]!) 0 s.es[i]!.r.needs.length=c9 (fun k=>R7 s.es[i]!.r.needs[k]!) k s.es[i]!.r.needs.length) (fun k=>s.es[i]!.r.needs.length-k) 0 ⟨ae,rfl⟩ (bm.to [(0,0),(24,1)] ah ah fC (by refine bF.iM ah ah ah ?_;first|(refine bF.iM ah ah ah ?_;exact bF.nil)|(refine bF.nl 24 ah ah rfl ah ?_;exact bF.nil))) ?_;rintro k ⟨hk,hr2⟩;refine aK ?_;refine aV (v:=.sl 3 (s.es[i]!.r.needs.map bo.D)) ?_;refine aE ?_;intro u5;refine aD ?_;refine di (fun hc3=>?_) fun hc3=>?_
  .refine aK ?_;refine aV (v:=.sl 3 (s.es[i]!.r.needs.map bo.D)) ?_;refine aE ?_;refine bz k (hb:=fun _=>ae) ?_;refine aE ?_;refine bp (v:=.sl 4 (s.es[i]!.r.needs[k]!.any.map bX.D)) (hi:=fun _=>ae) ?_;refine gN ?_;refine aF ?_;refine aV (v:=.sl 3 (s.es[i]!.r.needs.map bo.D)) ?_;refine aE ?_;refine bz k (hb:=fun _=>ae) ?_;refine aE ?_;refine bp (v:=.str s.es[i]!.r.needs[k]!.when') (hi:=fun _=>ae) ?_;refine gN ?_;refine aE ?_;refine aV (v:=.sl 3 (s.es[i]!.r.needs.map bo.D)) ?_;refine aE ?_;refine bz k (hb:=fun _=>ae) ?_;refine aE ?_;refine bp (v:=.str s.es[i]!.r.needs[k]!.option) (hi:=fun _=>ae) ?_;refine gN ?_;refine yi (sumN s.es[i]!.r.needs[k]!) (hb:=fun _=>rfl) ?_;refine aF ?_;refine wp_cond (fun hc4=>?_) (fun hc4=>?_)
   .simp only[dw,bh]at hc4;refine bW ?_;refine cd ?_;have hnk:R7 s.es[i]!.r.needs[k]! =false:=by
     unfold R7;rcases hc4 with h|h
     .rw[bY (show 4<s.es[i]!.r.needs[k]!.any.length by omega)];rfl
     .rw[bY (show 200<sumN s.es[i]!.r.needs[k]! by omega),Bool.or_true];rfl
    rw[hr,bc ae];unfold Wl;rw[hG,hr2,bc ae,hnk];rfl
   simp only[dt,bC]at hc4;have hnk:R7 s.es[i]!.r.needs[k]! =true:=by unfold R7;rw[cy ae,cy ae];rfl
   refine bW ?_;exact⟨k+1,⟨ae,by rw[hr2,bc ae,hnk];rfl⟩,ae,(bm.to [(0,0),(1,1)] ah ah fC (by refine bF.iM ah ah ah ?_;first|(refine bF.iM ah ah ah ?_;exact bF.nil)|(refine bF.nl 24 ah ah rfl ah ?_;exact bF.nil)))⟩
  refine aK ?_;have hni:Wl s.es[i]!.r=true:=by unfold Wl;rw[hG,hr2,cL ae];rfl
  refine aU ?_;exact⟨i+1,⟨ae,by rw[hr,bc ae,hni];rfl⟩,ae,(dQ [(0,0)])⟩
 refine aQ ?_;refine cd ?_;rw[hr,cL ae]
noncomputable def S3:aN:=dy 212
def w882  (n:Nat)  (hp0:n<=9999):dX Y S3 (.str (ea n)) [.int .u64 (n:Nat)]:=by
 show cg _ _ _ [⟨_,_⟩,_,_,_] _;refine ay ?_;refine aK ?_;refine UI ((n%10:Nat):Int) (hn:=by intro _;omega) (hb:=fun _=>rfl) ?_;refine B4 ((n%10:Nat):Int) (hb:=fun _=>IntWalk.u8_in _ ae) ?_;refine yi (((dg (n%10)).toNat:Nat):Int) (hb:=fun _=>by rw[Hz ae];exact IntWalk.u8_in _ ae) ?_;refine dq [.int .u8 _] ?_;refine abb [dg (n%10)] (he:=fun _=>vO.all ah rfl) (hs:=fun _=>rfl) ?_;refine aD ?_;have h0:ea n=(if n<10 then []else ea (n/10))++[dg (n%10)]:=by
  split
  .rename_i h;rw[nS h,Nat.mod_eq_of_lt h];rfl
  .rw[pL ae]
 refine br hm (ι:=(Nat×av)) (fun p=>[⟨true,.int .u64 (p.1:Nat)⟩,.un,.un,⟨true,.str p.2⟩]) (fun p=>[]) 8 (fun p=>p.1<=9999/\p.2.length<=9999-p.1+1/\ea n=(if p.1<10 then []else ea (p.1/10))++p.2) (fun p=>p.1) (n,[dg (n%10)]) ⟨hp0,aI,h0⟩ (dQ []) ?_;rintro⟨k,s⟩ ⟨hk,hs,hr⟩;dsimp only at hk hs hr⊢;refine aU ?_;refine di (fun hc0=>?_) fun hc0=>?_
 .refine aK ?_;refine r_quo ((k/10:Nat):Int) (hn:=by intro _;omega) (hb:=fun _=>by rw[show((k:Int).tdiv 10)=((k/10:Nat):Int)from rfl,IntKind.wrap_u64];omega) ?_;refine aK ?_;refine UI (((k/10)%10:Nat):Int) (hn:=by intro _;omega) (hb:=fun _=>rfl) ?_;refine B4 (((k/10)%10:Nat):Int) (hb:=fun _=>IntWalk.u8_in _ ae) ?_;refine yi (((dg ((k/10)%10)).toNat:Nat):Int) (hb:=fun _=>by rw[Hz ae];exact IntWalk.u8_in _ ae) ?_;refine dq [.int .u8 _] ?_;refine abb [dg ((k/10)%10)] (he:=fun _=>vO.all ah rfl) (hs:=fun _=>rfl) ?_;refine aE ?_;refine dD (hb:=fun _=>dk) ?_;refine aK ?_;have h1:ea n=(if k/10<10 then []else ea (k/10/10))++([dg (k/10%10)]++s):=by
   rw[hr,ar ae];split
   .rename_i h;rw[nS h,Nat.mod_eq_of_lt h];rfl
   .rw[pL ae,eh]
  exact⟨(k/10,[dg (k/10%10)]++s),⟨dE,dk,h1⟩,dE,(dQ [])⟩
 refine bw ?_;refine du ?_;rw[hr,aC ae];rfl
noncomputable def MW:aN:=dy 188
def w734 {Y:Ctx}(hm:(Y.at 0).cP)(h882:YY Y)(n:Int)  (hp0:0<=n/\n<=9999):dX Y MW (.str (ea n.toNat)) [.int .i64 n]:=by
 show cg _ _ _ [⟨_,_⟩,_,_] _;refine ay ?_;refine bw ?_;refine di (fun hc0=>?_) fun hc0=>?_
 .omega
 refine aD ?_;obtain⟨k,rfl⟩:∃k:Nat,n=k:=⟨n.toNat,ae⟩
 refine aE ?_;refine B4 (k:Int) (hb:=fun _=>by rw[IntKind.wrap_u64];omega) ?_;refine au (hc:=h882 _ ?_) ?_;rotate_left;first|assumption|omega
 refine aF ?_;exact du rfl
noncomputable def S1:aN:=dy 78
def w470  (s:av)(b:Int)  (hp0:s.length<=1048576):dX Y S1 (.sl 1 ((ai s b).map D.str)) [.str s,.int .u8 b]:=by
 show cg _ _ _ [⟨_,_⟩,⟨_,_⟩,_,_,_,_,_,_] _;refine ay ?_;refine jX ?_;refine br hm (ι:=(Nat×Nat×List av)) (fun p:Nat×Nat×List av=>[⟨true,.str s⟩,⟨true,.int .u8 b⟩,.un,⟨true,.int .i64 (p.1:Nat)⟩,.un,.un,⟨true,.own 0 1 0 p.2.2.length⟩,⟨true,.int .i64 (p.2.1:Nat)⟩]) (fun p=>[(0,.buf 1 (p.2.2.map D.str))]) 4 (fun p=>p.1<=s.length/\p.2.1<=p.1/\p.2.2.length<=p.1/\ai s b=p.2.2++cQ b (s.drop p.1) ((s.take p.1).drop p.2.1)) (fun p=>s.length-p.1) (0,0,[]) ⟨aI,aI,aI,rfl⟩ (bm.to [] ah ah (by repeat(first|exact de.nil|refine de.un ?_|refine de.eq ah ?_|refine de.nl ah ah ?_|refine de.ni (Or.inr ⟨0,1,0,rfl⟩) ?_)) (by repeat(first|exact bF.nil|refine bF.mt ah ah ah ah ?_))) ?_;rintro⟨i,fr,acc⟩ ⟨hi,hf,ha,hr⟩;dsimp only at hi hf ha hr⊢;refine aU ?_;intro u0;refine aD ?_;refine di (fun hc0=>?_) fun hc0=>?_
 .refine dJ ?_;refine wp_cond (fun hc1=>?_) (fun hc1=>?_)
  .try simp only[cX]at hc1
   refine aU ?_;refine FR _ _ ?_;refine dq [(.str _)] ?_;refine GK ?_;exact⟨(i+1,i+1,acc++[(s.take i).drop fr]),⟨dE,dE,dk,by rw[hr,Iq ae hc1];simp⟩,dE,(bm.to [(19,0)] ah ah pz (by refine bF.nl 19 ah ah ah fM ?_;exact bF.nil))⟩
  simp only[bC]at hc1;refine bW ?_;exact⟨(i+1,fr,acc),⟨dE,dE,dE,by rw[hr,Ir ae ae hc1]⟩,dE,(bm.to [(0,0)] ah ah pz (by refine bF.nl 0 ah ah ah fM ?_;exact bF.nil))⟩
 refine aQ ?_;refine ga _ ?_;refine dq [(.str _)] ?_;refine aF ?_;refine e7 13 ?_;refine aE ?_;refine bT (?_);have hs:ai s b=acc++[s.drop fr]:=by rw[hr,Gj ae]
 rw[hs];exact rfl
noncomputable def Sq:aN:=dy 95
def w445 {Y:Ctx}(hm:(Y.at 0).cP)(h124:KZ Y)(h660:IY Y)(h661:VE Y)(s:av)   :dX Y Sq (.tup [mU (oU s).1,.int .i64 (oU s).2]) [.str s]:=by
 show cg _ _ _ [⟨_,_⟩,_,_,_,_,_,_,_] _;refine ay ?_;refine aQ ?_;refine gN ?_;refine aD ?_;refine di (fun hc0=>?_) fun hc0=>?_
 .refine aD ?_;refine dL [.bg] ?_;refine aR (.agg [.bg]) (he:=aW) ?_;refine aF ?_;refine bT (aS ?_ (ak (D.int .i64) ?_));all_goals (have hq:oU s=([],3):=(by simp only[oU];rw[aC ae]);rw[hq];first|done|rfl)
 refine aQ ?_;refine az (fun hc1=>?_) (fun hc1=>?_)
 .try simp only[cX]at hc1
  refine aD ?_;refine dL [.bg] ?_;refine aR (.agg [.bg]) (he:=aW) ?_;refine aF ?_;refine bT (aS ?_ (ak (D.int .i64) ?_));all_goals (have hq:oU s=([],0):=(by simp only[oU];rw[ar ae,aC hc1]);rw[hq];first|done|rfl)
 simp only[bC]at hc1;have hnl:¬96<s.length:=ae;have hsl:=cJ s 32;refine aF ?_;refine au (hc:=h124 s 32 ae) ?_;refine bj (jG (ai s 32) .bg false) ?_;refine aF ?_;refine iW (bm.to (env':=[⟨true,.str s⟩,⟨true,.ptr 0 1 0 0⟩,.un,.un,.un,⟨true,.ptr 1 3 0 0⟩,.un,.un]) (c:=20) (nx':=20) (m':=[(0,.buf 1 [.agg [.bg]]),(1,.buf 3 [jG (ai s 32) (.own 2 5 0 ([]:List Nd).length) false]),(2,.buf 5 (([]:List Nd).map Nd.D))]) [(0,0),(10,1)] rfl ah fC (by refine bF.iM ah ah ah ?_;refine bF.ni 10 ah ah (by exact⟨_,_,rfl,⟨_,rfl,⟨_,_,rfl,⟨rfl,rfl⟩,⟨_,_,rfl,Or.inr ⟨_,_,_,rfl⟩,⟨_,_,rfl,⟨rfl,rfl⟩,rfl⟩⟩⟩⟩,rfl⟩) ?_;refine bF.mt ah ah ah ah ?_;exact bF.nil)) ?_;refine aD ?_;refine iC (fh (jR (ai s 32) []) (ai s 32) []) Va 21 (fun o=>[(21,.buf 5 (o.nd.map Nd.D)),(0,.buf 1 [.agg [.bg]]),(1,.buf 3 [jG o.w (.own 21 5 0 o.nd.length) o.bad])]) (fun o1 ho1=>?_) (hc:=fun K' hK=>h660 (ai s 32) [] (by simp only[aX];omega) _ 1 2 _ K' ah ah cD cD (fun o ho=>hK o ho)) (hn:=aG);refine aE ?_;refine e7 21 ?_ (he:=by simp only[j8,ig,ij,ku,kW,cM,Nat.reduceEqDiff,ba,aZ,cC,cj,cb,cH,cK,bI,bB,aH,bR,aL,reduceCtorEq,aM,aX,Nat.reduceAdd,Nat.reduceLeDiff,jG];exact rfl) (hm:=by simp only[j8,ig,ij,ku,kW,cM,Nat.reduceEqDiff,ba,aZ,cC,cj,cb,cH,cK,bI,bB,aH,bR,aL,reduceCtorEq,aM,aX,Nat.reduceAdd,Nat.reduceLeDiff,jG];exact rfl);refine aK ?_;refine aV (v:=.sl 5 (o1.nd.map Nd.D)) ?_;refine bj (mU o1.nd) ?_;refine aE ?_;refine aR (mU o1.nd) (he:=aW) ?_;refine aQ ?_;refine aV (v:=.bool o1.bad) ?_;refine aK ?_;refine aV (v:=.sl 1 (o1.w.map D.str)) ?_;refine gN ?_;refine aF ?_;refine cO (d:=mU o1.nd) ?_;refine au (hc:=h661 o1.nd) ?_;refine aF ?_;refine az (fun hc2=>?_) (fun hc2=>?_)
 .have hmx:=aau ho1 hc2;refine aD ?_;refine dL [.bg] ?_;refine aR (.agg [.bg]) (he:=aW) ?_;refine aF ?_;refine bT (aS ?_ (ak (D.int .i64) ?_));all_goals (have hq:=Uq hnl hc1 hmx;rw[hq];first|done|rfl)
 have hmx:=Us ho1 hc2;refine aD ?_;refine cO (d:=mU o1.nd) ?_;refine aR (mU o1.nd) (he:=aW) ?_;refine aF ?_;refine bT (aS ?_ (ak (D.int .i64) ?_));all_goals (have hq:=Ur hnl hc1 hmx;rw[hq];first|done|rfl)
noncomputable def Hd:aN:=dy 53
def w212 {Y:Ctx}(hm:(Y.at 0).cP)(h445:Yf Y)(h446:Yg Y)(s:av)   :dX Y Hd (.bool (tf s)) [.str s]:=by
 show cg _ _ _ [⟨_,_⟩,_,_,_] _;refine ay ?_;refine aK ?_;refine au (hc:=h445 s) ?_;refine aE ?_;refine fJ (mU _) ?_;refine aD ?_;refine aR (mU (oU s).1) (he:=aW) ?_;refine aQ ?_;refine cO (d:=mU (oU s).1) ?_;refine au (hc:=h446 (oU s).1) ?_;refine aQ ?_;exact cd rfl
noncomputable def J5:aN:=dy 205
def U3 (h667:N0 Y)(l:List av)   :dX Y J5 (.tup [dz.D (Fz l),.bool (gJ l)]) [.sl 1 (l.map D.str)]:=by
 show cg _ _ _ [⟨_,_⟩,_,_,_,_,_,_,_,_,_] _;refine ay ?_;refine ja ?_;intro u0;refine aD ?_;refine di (fun hc0=>?_) fun hc0=>?_
 .refine aD ?_;refine bj (dz.D hX) ?_;refine aK ?_;refine bT (aS ?_ (ak D.bool ?_));all_goals (have hq:gJ l=false:=(by simp only[gJ];rw[cy ae];rfl);first|(rw[hq];done)|(simp only[Fz,hq,gP,aZ,ba];rfl))
 refine aU ?_;have hb:gJ l=c9 (fun i=>gV l[i]!) 0 l.length:=by simp only[gJ];rw[bY ae];rfl
 refine br hm (ι:=Nat) (fun i=>[⟨true,.sl 1 (l.map D.str)⟩,⟨true,.ptr 0 5 0 0⟩,.un,.un,⟨true,.int .i64 (i:Nat)⟩,.un,.un,.un,.un,⟨true,.ptr 2 3 0 0⟩]) (fun i=>[(0,.buf 5 [dz.D hX]),(2,.buf 3 [WW l i])]) 7 (fun i=>i<=l.length/\gJ l=c9 (fun i=>gV l[i]!) i l.length) (fun i=>l.length-i) 0 ⟨ae,hb⟩ (dQ [(0,0),(2,2)]) ?_;rintro i ⟨hi,hr⟩;refine aU ?_;intro u1;refine aD ?_;refine di (fun hc1=>?_) fun hc1=>?_
 .refine bw ?_;refine au (hc:=h667 _) ?_;refine gE ?_;refine az (fun hc2=>?_) (fun hc2=>?_)
  .simp only[bE]at hc2;refine aD ?_;refine bj (dz.D hX) ?_;refine aQ ?_;refine bT (aS ?_ (ak D.bool ?_));all_goals (have hq:gJ l=false:=(by rw[hr,bc ae,hc2];rfl);first|(rw[hq];done)|(simp only[Fz,hq,gP,aZ,ba];rfl))
  simp only[cq]at hc2;refine aK ?_;refine uV i ?_;refine aR (WW l (i+1)) (he:=Me l i ae) ?_;refine bW ?_;exact⟨i+1,⟨ae,by rw[hr,bc ae,hc2];rfl⟩,ae,(dQ [(0,0),(2,2)])⟩
 refine aF ?_;obtain rfl:i=l.length:=ae;have hok:gJ l=true:=by rw[hr,cL ae]
 refine uV 0 ?_;refine aV (v:=.int .i64 (if 0<l.length then fe l[0]! else 0)) ?_;refine uV 1 ?_;refine aV (v:=.int .i64 (if 1<l.length then fe l[1]! else 0)) ?_;refine uV 2 ?_;refine aV (v:=.int .i64 (if 2<l.length then fe l[2]! else 0)) ?_;refine bj (dz.D (aaD l)) ?_;refine aK ?_;refine bT (aS ?_ (ak D.bool ?_));all_goals (have hq:=hok;first|(rw[hq];done)|(simp only[Fz,hq,gP,aZ,ba];rfl))
noncomputable def lH:aN:=dy 130
def w468 {Y:Ctx}(hm:(Y.at 1).cP)(h465:NU (Y.at 1))(r:Ld)  (hp0:r.sm):cg (Y.at 1) lH.body (VW lH 2 (.str (cI r.rest).1) (Ld.D (r.to (cI r.rest).2)):Ex->List cA->St->Prop) (gz lH (.ptr 0 2 0 0::[])) ⟨1,[(0,.buf 2 [(Ld.D r)])]⟩:=by
 show cg _ _ _ [⟨true,.ptr 0 2 0 0⟩,.un,.un,.un,.un] ⟨1,[(0,.buf 2 [(Ld.D r)])]⟩;have hself:=Ld.Kg hp0;have hq1:=r.F6;refine ay ?_;refine aK ?_;rw[show Ld.D r=Ld.D (r.to r.rest)by rw[hself]];refine aE ?_;refine pQ (hc:=CY h465 hp0 (p:=r.rest) hq1 (w:=fo) (n:=2) (op:=true) aG aG) ?_;refine aE ?_;refine fJ _ ?_;refine bW ?_;refine di (fun hc0=>?_) fun hc0=>?_
 .refine aD ?_;obtain⟨⟨l,q2⟩,hq⟩:=kY hc0;have hnr:fI fo 2 true r.rest=q2:=by simp only[fI,hq]
  obtain⟨hl,hlm,hq2,hqp⟩:=ra hp0 hq1 hq;rw[hnr,hq];have hwp:cI r.rest=(l[1]!,q2):=by simp only[cI,hq]
  rw[hwp];refine aE ?_;refine bz 1 (hb:=fun _=>ae) ?_;refine bp (v:=.str l[1]!) (hi:=fun _=>ae) ?_;refine aF ?_;refine js trivial eP (cn ah (ak D.str ?_)) ah ah ah;rfl
 refine aD ?_;have hq:=kX hc0;have hnr:fI fo 2 true r.rest=r.rest:=by simp only[fI,hq]
 rw[hnr];have hwp:cI r.rest=([],r.rest):=by simp only[cI,hq]
 rw[hwp];refine aF ?_;refine js trivial eP (cn ah (ak D.str ?_)) ah ah ah;rfl
end Go.Abs
