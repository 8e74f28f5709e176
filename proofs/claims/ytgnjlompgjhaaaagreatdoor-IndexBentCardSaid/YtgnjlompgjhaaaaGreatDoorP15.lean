/- A part of the proofs. -/
import Derived.Test.YtgnjlompgjhaaaaGreatDoorP08
set_option linter.all false
set_option maxRecDepth 60000
set_option maxHeartbeats 2000000
namespace Go.Abs
variable {Y:Ctx}(hm:(Y.at 0).b8)
noncomputable def kr:aC:=cR 116
def w467 {Y:Ctx}(hm:(Y.at 1).b8)(h124:N4 (Y.at 1))(h465:Uz (Y.at 1))(h468:UA (Y.at 1))(r:Ld)  (hp0:r.sm):bK (Y.at 1) kr.body (Oh kr 2 (bp.D (eR r.rest).1) (Ld.D (r.to (eR r.rest).2)):Ex->List ch->St->Prop) (fF kr (.ptr 0 2 0 0::[])) ⟨1,[(0,.buf 2 [(Ld.D r)])]⟩:=by
 show bK _ _ _ [⟨true,.ptr 0 2 0 0⟩,.un,.un,.un,.un,.un,.un,.un,.un,.un,.un,.un] ⟨1,[(0,.buf 2 [(Ld.D r)])]⟩;have hself:=Ld.FP hp0;have hq0:=r.BW;refine ar ?_;refine aE ?_;refine ba hm (ι:=(List bT×List au)) (fun p=>[⟨true,.ptr 0 2 0 0⟩,⟨true,.ptr 1 3 0 0⟩,.un,.un,.un,.un,.un,.un,⟨true,.ptr 2 3 0 0⟩,.un,.un,.un]) (fun p=>[(0,.buf 2 [Ld.D (r.to p.2)]),(1,.buf 3 [.agg [.bq,.str [],.str []]]),(2,.buf 3 [.agg [.own 3 4 0 (p.1).length,.str [],.str []]]),(3,.buf 4 (p.1.map bT.N))]) 10 (fun p=>p.2<:+r.ls/\p.1.length+p.2.length<=r.ls.length/\cF r.rest=(p.1++(cF p.2).1,(cF p.2).2)) (fun p=>p.2.length) ([],r.rest) ⟨hq0,by simpa using hq0.length_le,aJ⟩ (a7.to [(1,1),(2,2)] ah ah ei (by refine bo.nl 0 ah ah (by rw[hself]) ah ?_;refine bo.fY ah ah ah ?_;refine bo.ni 2 ah ah (by exact⟨_,_,rfl,⟨_,rfl,⟨_,_,rfl,Or.inr ⟨_,_,_,rfl⟩,⟨_,_,rfl,⟨rfl,rfl⟩,⟨_,_,rfl,⟨rfl,rfl⟩,rfl⟩⟩⟩⟩,rfl⟩) ?_;refine bo.mt ah ah ah ah ?_;exact bo.nil)) ?_;rintro⟨A,p⟩ ⟨hq1,hlen,hw⟩;dsimp only at hq1 hlen hw⊢;have hll:=hp0.1.2;refine ay ?_;refine nV (hc:=zk h465 hp0 (p:=p) hq1 (w:=gA) (n:=5) (op:=true) aF aF) ?_;refine aA ?_;refine eZ _ ?_;refine c7 ?_;refine av (fun hc0=>?_) (fun hc0=>?_)
 .simp only[bd]at hc0;have hq:=j7 hc0;have hnr:eS gA 5 true p=p:=by simp only[eS,hq]
  rw[hnr];have hw2:cF r.rest=(A,p):=by rw[hw,wh hq,gX]
  refine aB ?_;have hq3:=(kO p).trans hq1;refine aA ?_;refine nV (hc:=F1 h468 hp0 hq1) ?_;refine aA ?_;refine aI (.agg [.own 3 4 0 A.length,.str (cz p).1,.str []]) (he:=aQ) ?_;refine aB ?_;refine nV (hc:=zk h465 hp0 (p:=(cz p).2) hq3 (w:=cU) (n:=2) (op:=false) aF aF) ?_;refine aA ?_;refine eZ _ ?_;refine bN ?_;refine cG (fun hc3=>?_) fun hc3=>?_
  .refine aA ?_;obtain⟨⟨l,q2⟩,hq⟩:=j8 hc3;have hnr:eS cU 2 false (cz p).2=q2:=by simp only[eS,hq]
   obtain⟨hl,hlm,hq2,hqp⟩:=po hp0 hq3 hq;rw[hnr,hq];obtain hl:l.length=2:=by rcases hl with h|h;cases h;exact h
   refine aA ?_;refine bI 1 (hb:=fun _=>ae) ?_;refine bE (v:=.str l[1]!) (hi:=fun _=>ae) ?_;refine aA ?_;refine aI (.agg [.own 3 4 0 A.length,.str (cz p).1,.str l[1]!]) (he:=aQ) ?_;refine aA ?_;have hnp:eR r.rest=(⟨A,(cz p).1,l[1]!⟩,q2):=by simp only[eR,hw2,oI,hq]
   rw[hnp];refine eI 3 (hn:=br bT.pd _) (he:=by simp only[lf,iL,iV,lQ,nk,cJ,Nat.reduceEqDiff,aW,aX,cO,ct,cu,cT,cX,bR,bO,aL,bZ,aN,reduceCtorEq,aP,a8,Nat.reduceAdd,Nat.reduceLeDiff,Ld.D];exact rfl) (hm:=by simp only[lf,iL,iV,lQ,nk,cJ,Nat.reduceEqDiff,aW,aX,cO,ct,cu,cT,cX,bR,bO,aL,bZ,aN,reduceCtorEq,aP,a8,Nat.reduceAdd,Nat.reduceLeDiff,Ld.D];exact rfl) ?_;refine kP [(0,.buf 2 [Ld.D (r.to q2)]),(1,.buf 3 [.agg [.bq,.str [],.str []]]),(2,.buf 3 [bp.D ⟨A,(cz p).1,l[1]!⟩])] (.id ah (.id ah (.bf ah (.cons (.ag (.cons (.ss (.map fun x _=>x.wk)) (.rf _))) .nil) .nil))) ?_;refine aA ?_;refine cA (d:=bp.D ⟨A,(cz p).1,l[1]!⟩) ?_;refine aI (bp.D ⟨A,(cz p).1,l[1]!⟩) (he:=aQ) ?_;refine ax ?_;refine iI trivial sj (bS ah (?_)) ah ah ah;rfl
  refine aA ?_;have hq:=j7 hc3;have hnr:eS cU 2 false (cz p).2=(cz p).2:=by simp only[eS,hq]
  rw[hnr];have hnp:eR r.rest=(⟨A,(cz p).1,[]⟩,(cz p).2):=by simp only[eR,hw2,oI,hq]
  rw[hnp];refine eI 3 (hn:=br bT.pd _) (he:=by simp only[lf,iL,iV,lQ,nk,cJ,Nat.reduceEqDiff,aW,aX,cO,ct,cu,cT,cX,bR,bO,aL,bZ,aN,reduceCtorEq,aP,a8,Nat.reduceAdd,Nat.reduceLeDiff,Ld.D];exact rfl) (hm:=by simp only[lf,iL,iV,lQ,nk,cJ,Nat.reduceEqDiff,aW,aX,cO,ct,cu,cT,cX,bR,bO,aL,bZ,aN,reduceCtorEq,aP,a8,Nat.reduceAdd,Nat.reduceLeDiff,Ld.D];exact rfl) ?_;refine kP [(0,.buf 2 [Ld.D (r.to (cz p).2)]),(1,.buf 3 [.agg [.bq,.str [],.str []]]),(2,.buf 3 [bp.D ⟨A,(cz p).1,[]⟩])] (.id ah (.id ah (.bf ah (.cons (.ag (.cons (.ss (.map fun x _=>x.wk)) (.rf _))) .nil) .nil))) ?_;refine aA ?_;refine cA (d:=bp.D ⟨A,(cz p).1,[]⟩) ?_;refine aI (bp.D ⟨A,(cz p).1,[]⟩) (he:=aQ) ?_;refine ax ?_;refine iI trivial sj (bS ah (?_)) ah ah ah;rfl
 simp only[bM]at hc0;obtain⟨⟨l,q2⟩,hq⟩:=j8 hc0;have hnr:eS gA 5 true p=q2:=by simp only[eS,hq]
 obtain⟨hl,hlm,hq2,hqp⟩:=po hp0 hq1 hq;rw[hnr,hq];obtain hl:l.length=5:=by rcases hl with h|h;cases h;exact h
 refine aB ?_;refine bI 3 (hb:=fun _=>ae) ?_;refine bE (v:=.str l[3]!) (hi:=fun _=>ae) ?_;refine ay ?_;refine bI 3 (hb:=fun _=>ae) ?_;refine bE (v:=.str l[3]!) (hi:=fun _=>ae) ?_;refine ay ?_;refine av (fun hc1=>?_) (fun hc1=>?_)
 .simp only[bC,bd,bc]at hc1;have hho:lh l=false:=by unfold lh;rw[cI (show ¬l[3]! =dG from hc1.1),cI (show ¬l[3]! =jj from hc1.2)];rfl
  have hw2:cF r.rest=(A,p):=by rw[hw,KV hq hho,gX]
  obtain⟨t,hpt,_⟩:=dY hq;refine ax ?_;obtain⟨hab1,hab2⟩:=(hp0.to q2).1;refine ay ?_;refine aT (v:=.int .i64 ((r.to q2).at':Nat)) ?_;refine ay ?_;refine aI (Ld.D (r.to p)) (he:=by rw[hpt];exact Ld.back (hpt▸hq1)) ?_;refine aE ?_;have hq3:=(kO p).trans hq1;refine aA ?_;refine nV (hc:=F1 h468 hp0 hq1) ?_;refine aA ?_;refine aI (.agg [.own 3 4 0 A.length,.str (cz p).1,.str []]) (he:=aQ) ?_;refine aB ?_;refine nV (hc:=zk h465 hp0 (p:=(cz p).2) hq3 (w:=cU) (n:=2) (op:=false) aF aF) ?_;refine aA ?_;refine eZ _ ?_;refine bN ?_;refine cG (fun hc3=>?_) fun hc3=>?_
  .refine aA ?_;obtain⟨⟨l,q2⟩,hq⟩:=j8 hc3;have hnr:eS cU 2 false (cz p).2=q2:=by simp only[eS,hq]
   obtain⟨hl,hlm,hq2,hqp⟩:=po hp0 hq3 hq;rw[hnr,hq];obtain hl:l.length=2:=by rcases hl with h|h;cases h;exact h
   refine aA ?_;refine bI 1 (hb:=fun _=>ae) ?_;refine bE (v:=.str l[1]!) (hi:=fun _=>ae) ?_;refine aA ?_;refine aI (.agg [.own 3 4 0 A.length,.str (cz p).1,.str l[1]!]) (he:=aQ) ?_;refine aA ?_;have hnp:eR r.rest=(⟨A,(cz p).1,l[1]!⟩,q2):=by simp only[eR,hw2,oI,hq]
   rw[hnp];refine eI 3 (hn:=br bT.pd _) (he:=by simp only[lf,iL,iV,lQ,nk,cJ,Nat.reduceEqDiff,aW,aX,cO,ct,cu,cT,cX,bR,bO,aL,bZ,aN,reduceCtorEq,aP,a8,Nat.reduceAdd,Nat.reduceLeDiff,Ld.D];exact rfl) (hm:=by simp only[lf,iL,iV,lQ,nk,cJ,Nat.reduceEqDiff,aW,aX,cO,ct,cu,cT,cX,bR,bO,aL,bZ,aN,reduceCtorEq,aP,a8,Nat.reduceAdd,Nat.reduceLeDiff,Ld.D];exact rfl) ?_;refine kP [(0,.buf 2 [Ld.D (r.to q2)]),(1,.buf 3 [.agg [.bq,.str [],.str []]]),(2,.buf 3 [bp.D ⟨A,(cz p).1,l[1]!⟩])] (.id ah (.id ah (.bf ah (.cons (.ag (.cons (.ss (.map fun x _=>x.wk)) (.rf _))) .nil) .nil))) ?_;refine aA ?_;refine cA (d:=bp.D ⟨A,(cz p).1,l[1]!⟩) ?_;refine aI (bp.D ⟨A,(cz p).1,l[1]!⟩) (he:=aQ) ?_;refine ax ?_;refine iI trivial sj (bS ah (?_)) ah ah ah;rfl
  refine aA ?_;have hq:=j7 hc3;have hnr:eS cU 2 false (cz p).2=(cz p).2:=by simp only[eS,hq]
  rw[hnr];have hnp:eR r.rest=(⟨A,(cz p).1,[]⟩,(cz p).2):=by simp only[eR,hw2,oI,hq]
  rw[hnp];refine eI 3 (hn:=br bT.pd _) (he:=by simp only[lf,iL,iV,lQ,nk,cJ,Nat.reduceEqDiff,aW,aX,cO,ct,cu,cT,cX,bR,bO,aL,bZ,aN,reduceCtorEq,aP,a8,Nat.reduceAdd,Nat.reduceLeDiff,Ld.D];exact rfl) (hm:=by simp only[lf,iL,iV,lQ,nk,cJ,Nat.reduceEqDiff,aW,aX,cO,ct,cu,cT,cX,bR,bO,aL,bZ,aN,reduceCtorEq,aP,a8,Nat.reduceAdd,Nat.reduceLeDiff,Ld.D];exact rfl) ?_;refine kP [(0,.buf 2 [Ld.D (r.to (cz p).2)]),(1,.buf 3 [.agg [.bq,.str [],.str []]]),(2,.buf 3 [bp.D ⟨A,(cz p).1,[]⟩])] (.id ah (.id ah (.bf ah (.cons (.ag (.cons (.ss (.map fun x _=>x.wk)) (.rf _))) .nil) .nil))) ?_;refine aA ?_;refine cA (d:=bp.D ⟨A,(cz p).1,[]⟩) ?_;refine aI (bp.D ⟨A,(cz p).1,[]⟩) (he:=aQ) ?_;refine ax ?_;refine iI trivial sj (bS ah (?_)) ah ah ah;rfl
 simp only[dz,bM,aK]at hc1;have hho:lh l=true:=by
  unfold lh;rcases hc1 with h|h
  .rw[ca (show l[3]! =dG from h)];rfl
  .rw[ca (show l[3]! =jj from h),Bool.or_true]
 have hwy:=yC hq hho;refine ay ?_;refine bI 1 (hb:=fun _=>ae) ?_;refine bE (v:=.str l[1]!) (hi:=fun _=>ae) ?_;refine aA ?_;refine bI 4 (hb:=fun _=>ae) ?_;refine bE (v:=.str l[4]!) (hi:=fun _=>ae) ?_;refine aA ?_;refine bI 3 (hb:=fun _=>ae) ?_;refine bE (v:=.str l[3]!) (hi:=fun _=>ae) ?_;refine aA ?_;refine bg (.agg [.str l[1]!,.str l[4]!,.bq,.bool (decide (l[3]! =dG))]) ?_;refine aA ?_;refine aI (.agg [.str l[1]!,.str l[4]!,.bq,.bool (decide (l[3]! =dG))]) (he:=aQ) ?_;refine aB ?_;refine bI 2 (hb:=fun _=>ae) ?_;refine bE (v:=.str l[2]!) (hi:=fun _=>ae) ?_;refine ax ?_;refine cG (fun hc2=>?_) fun hc2=>?_
 .refine ax ?_;refine bI 2 (hb:=fun _=>ae) ?_;refine bE (v:=.str l[2]!) (hi:=fun _=>ae) ?_;refine aq (hc:=h124 l[2]! 44 (hlm _ (bF ae))) ?_;refine aA ?_;refine aI (bT.N (gW l)) (he:=by show _=D.agg [.str l[1]!,.str l[4]!,VR (if l[2]! =[45]then []else ai l[2]! 44),.bool (decide (l[3]! =dG))];rw[ak hc2,Sw (om _ _)];exact rfl) ?_;refine ay ?_;refine aT (v:=.own 3 4 0 A.length) ?_;refine cA (d:=bT.N (gW l)) ?_;refine dh [bT.N (gW l)] ?_;refine gV (q:=bT.N) (xs:=A) (e:=gW l) ?_;refine aA ?_;refine aI (.agg [.own 56 4 0 (A++[gW l]).length,.str [],.str []]) (he:=aQ) ?_;refine ay ?_;exact⟨(A++[gW l],q2),⟨hq2,by simp only[bQ,aP,a8];omega,by rw[hw,hwy];simp⟩,dF,(a7.to [(1,1),(2,2),(56,3)] ah ah ei (by refine bo.fY ah ah ah ?_;refine bo.fY ah ah ah ?_;refine bo.eq 2 ah ah ah ?_;refine bo.nl 56 ah ah rfl (by exact br bT.pd _) ?_;exact bo.nil))⟩
 refine ax ?_;rw[show(D.agg [.str l[1]!,.str l[4]!,.bq,.bool (decide (l[3]! =dG))])=bT.N (gW l)by show _=D.agg [.str l[1]!,.str l[4]!,VR (if l[2]! =[45]then []else ai l[2]! 44),.bool (decide (l[3]! =dG))];rw[aw hc2];rfl];refine aA ?_;refine aT (v:=.own 3 4 0 A.length) ?_;refine cA (d:=bT.N (gW l)) ?_;refine dh [bT.N (gW l)] ?_;refine gV (q:=bT.N) (xs:=A) (e:=gW l) ?_;refine aA ?_;refine aI (.agg [.own 50 4 0 (A++[gW l]).length,.str [],.str []]) (he:=aQ) ?_;refine ay ?_;exact⟨(A++[gW l],q2),⟨hq2,by simp only[bQ,aP,a8];omega,by rw[hw,hwy];simp⟩,dF,(a7.to [(1,1),(2,2),(50,3)] ah ah ei (by refine bo.fY ah ah ah ?_;refine bo.fY ah ah ah ?_;refine bo.eq 2 ah ah ah ?_;refine bo.nl 50 ah ah rfl (by exact br bT.pd _) ?_;exact bo.nil))⟩
noncomputable def Fv:aC:=cR 56
def w70 (h208:N5 Y)(h209:I8 Y)(h210:C210 Y)(h211:Xx Y)(h212:Xy Y)(h213:C213 Y)(h214:C214 Y)(h215:Xz Y)(r:Rec)  (hp0:fC r):di Y Fv (.tup [.int .i64 (cM r).1,.int .i64 (cM r).2]) [Rec.D r]:=by
 show bK _ _ _ (⟨true,Rec.D r⟩::.un::.un::.un::.un::.un::.un::.un::.un::.un::.un::.un::.un::.un::.un::.un::.un::.un::.un::.un::.un::.un::.un::.un::.un::.un::.un::.un::.un::.un::.un::.un::.un::.un::.un::.un::.un::.un::.un::[]) ⟨0,[]⟩;refine ar ?_;refine bN ?_;refine aq (hc:=h208 _) ?_;refine ay ?_;refine wp_cond (fun hc0=>?_) (fun hc0=>?_)
 .try simp only[dq]at hc0
  refine aD ?_;refine bG (aH (aj (D.int .i64) ?_) (aj (D.int .i64) ?_));all_goals (have hq:cM r=(4,0):=(by rw[cM,aw hc0]);rw[hq];first|done|rfl)
 simp only[bM]at hc0;refine ax ?_;refine aT (v:=cq.D r.v) ?_;refine aq (hc:=h209 r.v hp0.1.2) ?_;refine ay ?_;refine wp_cond (fun hc1=>?_) (fun hc1=>?_)
 .try simp only[dq]at hc1
  refine aD ?_;refine bG (aH (aj (D.int .i64) ?_) (aj (D.int .i64) ?_));all_goals (have hq:cM r=(5,0):=(by rw[cM,ak (by simp[hc0]),aw hc1]);rw[hq];first|done|rfl)
 simp only[bM]at hc1;refine aB ?_;intro u0;refine aB ?_;refine iy ?_;refine aB ?_;refine fO (fun hc2=>?_) fun hc2=>?_
 .refine aD ?_;refine bG (aH (aj (D.int .i64) ?_) (aj (D.int .i64) ?_));all_goals (have hq:cM r=(3,0):=(by rw[cM,ak (by simp[hc0]),ak (by simp[hc1]),aw ae]);rw[hq];first|done|rfl)
 refine aZ ?_;intro u1;refine ax ?_;refine ba hm (ι:=Nat) (fun i=>(.un::.un::.un::⟨true,.ptr 0 9 0 0⟩::.un::.un::.un::⟨true,.int .i64 (i:Nat)⟩::⟨true,.int .i64 (r.needs.length:Nat)⟩::.un::⟨true,.sl 3 (r.needs.map bp.D)⟩::.un::.un::.un::.un::.un::.un::.un::.un::.un::.un::.un::.un::.un::.un::.un::.un::.un::.un::.un::.un::.un::.un::.un::.un::.un::.un::.un::.un::[])) (fun i=>[(0,.buf 9 [Rec.D r])]) 28 (fun i=>i<=r.needs.length/\ml r=iF (fun i=>jh r r.needs[i]!) i r.needs.length) (fun i=>r.needs.length-i) 0 ⟨ae,rfl⟩ (du [(0,0)]) ?_;rintro i ⟨hi,hr⟩;refine ay ?_;refine cG (fun hc3=>?_) fun hc3=>?_
 .refine aE ?_;first|refine bE (v:=(bp.D _)) ?_|refine ff (v:=(bp.D _)) ?_
  refine ax ?_;refine aI (bp.D r.needs[i]!) (he:=aQ) ?_;refine aB ?_;refine aq (hc:=h210 r r.needs[i]! (hp0.2.1 _ (bF ae))) ?_;refine aD ?_;refine fO (fun hc4=>?_) fun hc4=>?_
  .refine c7 ?_;refine bG (aH (aj (D.int .i64) ?_) (aj (D.int .i64) ?_));all_goals
    have hq:cM r=(jh r r.needs[i]!,((i:Nat):Int)):=by
     exact pP hc0 hc1 ae ae (Hy (by rw[hr,ko ae hc4]) hc4) hc4
    rw[hq];first|done|rfl
  refine aZ ?_;exact⟨i+1,⟨ae,by rw[hr,mb ae hc4]⟩,ae,(du [(0,0)])⟩
 refine aB ?_;have hn0:ml r=(0,0):=by rw[hr,ma ae]
 refine ay ?_;intro u2;refine ax ?_;refine ba hm (ι:=Nat) (fun i=>(.un::.un::.un::⟨true,.ptr 0 9 0 0⟩::.un::.un::.un::.un::.un::.un::.un::.un::.un::.un::.un::⟨true,.int .i64 (i:Nat)⟩::⟨true,.int .i64 (r.bars.length:Nat)⟩::.un::⟨true,.sl 3 (r.bars.map fA.D)⟩::.un::.un::.un::.un::.un::.un::.un::.un::.un::.un::.un::.un::.un::.un::.un::.un::.un::.un::.un::.un::[])) (fun i=>[(0,.buf 9 [Rec.D r])]) 33 (fun i=>i<=r.bars.length/\tQ r=iF (fun i=>pL r r.bars[i]!) i r.bars.length) (fun i=>r.bars.length-i) 0 ⟨ae,rfl⟩ (du [(0,0)]) ?_;rintro i ⟨hi,hr⟩;refine ay ?_;refine cG (fun hc5=>?_) fun hc5=>?_
 .refine aE ?_;first|refine bE (v:=(fA.D _)) ?_|refine ff (v:=(fA.D _)) ?_
  refine ax ?_;refine aI (fA.D r.bars[i]!) (he:=aQ) ?_;refine bN ?_;refine aq (hc:=h211 r r.bars[i]!.name r.bars[i]!.range (hp0.2.2.1 _ (bF ae)).2.1) ?_;refine aZ ?_;refine av (fun hc6=>?_) (fun hc6=>?_)
  .simp only[bd,bc]at hc6;have hbe:pL r r.bars[i]! =fT r r.bars[i]!.name r.bars[i]!.range:=by rw[pL,aw hc6]
   refine fU ?_;refine bG (aH (aj (D.int .i64) ?_) (aj (D.int .i64) ?_));all_goals
    have hq:cM r=(fT r r.bars[i]!.name r.bars[i]!.range,((i:Nat):Int)):=by
     exact pP hc0 hc1 ae ae (Bu hn0 (by rw[hr,ko ae (by rw[hbe];exact hc6),hbe]) hc6) hc6
    rw[hq];first|done|rfl
  try simp only[dq]at hc6
  refine aB ?_;refine aq (hc:=h212 _) ?_;refine ax ?_;refine wp_cond (fun hc7=>?_) (fun hc7=>?_)
  .simp only[bd]at hc7;have hbe:pL r r.bars[i]! =7:=by rw[pL,ak (fun h=>h hc6),aw hc7]
   refine bN ?_;refine bG (aH (aj (D.int .i64) ?_) (aj (D.int .i64) ?_));all_goals
    have hq:cM r=((7:Int),((i:Nat):Int)):=by
     exact pP hc0 hc1 ae ae (Bu hn0 (by rw[hr,ko ae (by rw[hbe];decide),hbe]) (show(7:Int)≠0 by decide)) (show(7:Int)≠0 by decide)
    rw[hq];first|done|rfl
  simp only[bM]at hc7;have hbz:pL r r.bars[i]! =0:=by rw[pL,ak (fun h=>h hc6),ak (by rw[hc7];simp)]
  refine aZ ?_;exact⟨i+1,⟨ae,by rw[hr,mb ae hbz]⟩,ae,(du [(0,0)])⟩
 refine aB ?_;have hb0:tQ r=(0,0):=by rw[hr,ma ae]
 refine ax ?_;refine aq (hc:=h213 r.feats hp0.2.2.2) ?_;refine ax ?_;refine av (fun hc8=>?_) (fun hc8=>?_)
 .try simp only[dq]at hc8
  refine aD ?_;refine bG (aH (aj (D.int .i64) ?_) (aj (D.int .i64) ?_));all_goals
   have hq:cM r=(11,0):=by
    exact pP hc0 hc1 ae ae (Hz hn0 hb0 hc8) aF
   rw[hq];first|done|rfl
 simp only[bM]at hc8;refine aD ?_;intro u3;refine ax ?_;refine ba hm (ι:=Nat) (fun i=>(.un::.un::.un::⟨true,.ptr 0 9 0 0⟩::.un::.un::.un::.un::.un::.un::.un::.un::.un::.un::.un::.un::.un::.un::.un::.un::.un::.un::.un::.un::.un::⟨true,.int .i64 (i:Nat)⟩::⟨true,.int .i64 (r.feats.length:Nat)⟩::.un::⟨true,.sl 2 (r.feats.map b7.D)⟩::.un::.un::.un::.un::.un::.un::.un::.un::.un::.un::[])) (fun i=>[(0,.buf 9 [Rec.D r])]) 42 (fun i=>i<=r.feats.length/\um r=iF (fun i=>lj r r.feats[i]!.of) i r.feats.length) (fun i=>r.feats.length-i) 0 ⟨ae,rfl⟩ (du [(0,0)]) ?_;rintro i ⟨hi,hr⟩;refine ay ?_;refine cG (fun hc9=>?_) fun hc9=>?_
 .refine aE ?_;first|refine bE (v:=(b7.D _)) ?_|refine ff (v:=(b7.D _)) ?_
  refine ax ?_;refine aI (b7.D r.feats[i]!) (he:=aQ) ?_;refine aE ?_;intro u4;refine ax ?_;refine qU hm (ι:=Nat) (fun j=>(.un::.un::.un::⟨true,.ptr 0 9 0 0⟩::.un::.un::.un::.un::.un::.un::.un::.un::.un::.un::.un::.un::.un::.un::.un::.un::.un::.un::.un::.un::.un::⟨true,.int .i64 (i:Nat)⟩::⟨true,.int .i64 (r.feats.length:Nat)⟩::.un::⟨true,.sl 2 (r.feats.map b7.D)⟩::.un::⟨true,.int .i64 (j:Nat)⟩::⟨true,.int .i64 (r.feats[i]!.of.length:Nat)⟩::.un::⟨true,.sl 1 (r.feats[i]!.of.map D.str)⟩::.un::.un::.un::⟨true,.int .i64 (i:Nat)⟩::.un::[])) (fun j=>[(0,.buf 9 [Rec.D r])]) 53 (fun j=>j<=r.feats[i]!.of.length/\lj r r.feats[i]!.of=fL (fun j=>j9 r r.feats[i]!.of[j]!) j r.feats[i]!.of.length) (fun j=>r.feats[i]!.of.length-j) 0 ⟨ae,rfl⟩ (du [(0,0)]) ?_;rintro j ⟨hj,hjr⟩;refine ay ?_;refine cG (fun hc10=>?_) fun hc10=>?_
  .refine fU ?_;refine aq (hc:=h214 r r.feats[i]!.of[j]! ((hp0.2.2.2 _ (bF ae)).2.2 _ (bF ae))) ?_;refine aD ?_;refine fO (fun hc11=>?_) fun hc11=>?_
   .refine fK ?_;refine bG (aH (aj (D.int .i64) ?_) (aj (D.int .i64) ?_));all_goals
     have hq:cM r=(j9 r r.feats[i]!.of[j]!,((i:Nat):Int)):=by
      have hie:lj r r.feats[i]!.of=j9 r r.feats[i]!.of[j]! :=by rw[hjr,mc ae hc11]
      exact pP hc0 hc1 ae ae (sc hn0 hb0 hc8 (by rw[hr,ko (f:=(fun i=>lj r r.feats[i]!.of)) ae (by rw[hie];exact hc11),hie])) hc11
     rw[hq];first|done|rfl
   refine aZ ?_;exact⟨j+1,⟨ae,by rw[hjr,n5 ae hc11]⟩,ae,(du [(0,0)])⟩
  refine bN ?_;exact⟨i+1,⟨ae,by rw[hr,mb (f:=(fun i=>lj r r.feats[i]!.of)) ae (by rw[hjr,nZ ae])]⟩,ae,(du [(0,0)])⟩
 refine aB ?_;have hpz:eY r=(0,0):=sc hn0 hb0 hc8 (by rw[hr,ma ae]);have hgd:yi r:=⟨⟨hc0,hc1⟩,⟨ae,ae⟩,hpz⟩;refine aA ?_;refine aq (hc:=h215 r ⟨hgd,hp0⟩) ?_;refine aA ?_;intro u5;refine ax ?_;refine cG (fun hc12=>?_) fun hc12=>?_
 .refine aD ?_;refine bG (aH (aj (D.int .i64) ?_) (aj (D.int .i64) ?_));all_goals
   have hq:cM r=(3,0):=by
    rw[rH hc0 hc1 ae ae hpz,aw ae]
   rw[hq];first|done|rfl
 refine aD ?_;refine bG (aH (aj (D.int .i64) ?_) (aj (D.int .i64) ?_));all_goals
  have hq:cM r=(0,0):=by
   rw[rH hc0 hc1 ae ae hpz,ak ae]
  rw[hq];first|done|rfl
noncomputable def TG:aC:=cR 252
def w899 (h676:Yc Y)(r:An)  (hp0:oQ r):di Y TG (.bool (kQ r)) [iJ r]:=by
 show bK _ _ _ [⟨_,_⟩,_,_,_,_,_,_,_,_,_] _;refine ar ?_;refine bN ?_;intro u0;refine aB ?_;refine iy ?_;refine ay ?_;refine cG (fun hc0=>?_) fun hc0=>?_
 .refine aE ?_;refine bV ?_;symm;simp only[kQ];rcases hc0 with h|h
  .rw[cI ae];rfl
  .rw[cI (by omega:¬r.length<=6),Bool.and_false];rfl
 refine aE ?_;have hb:kQ r=cS (fun i=>kU r[i]!) 0 r.length:=by simp only[kQ];rw[ca ae,ca ae];rfl
 refine ba hm (ι:=Nat) (fun i=>[.un,.un,⟨true,.ptr 0 1 0 0⟩,.un,⟨true,.int .i64 (i:Nat)⟩,.un,.un,.un,.un,.un]) (fun i=>[(0,.buf 1 [iJ r])]) 13 (fun i=>i<=r.length/\kQ r=cS (fun i=>kU r[i]!) i r.length) (fun i=>r.length-i) 0 ⟨ae,hb⟩ (du [(0,0)]) ?_;rintro i ⟨hi,hr⟩;refine aD ?_;intro u1;refine ax ?_;refine cG (fun hc1=>?_) fun hc1=>?_
 .refine fU ?_;intro u2;refine aZ ?_;refine iy ?_;refine ay ?_;refine cG (fun hc2=>?_) fun hc2=>?_
  .refine aZ ?_;refine bV ?_;rw[hr,aU ae];have:kU r[i]! =false:=by
    simp only[kU];rcases hc2 with h|h
    .rw[cI ae];rfl
    .rw[cI (by omega:¬r[i]!.length<=6),Bool.and_false];rfl
   rw[this];rfl
  refine aB ?_;have hkb:kU r[i]! =cS (fun k=>nN r[i]![k]!) 0 r[i]!.length:=by simp only[kU];rw[ca ae,ca ae];rfl
  refine qU hm (ι:=Nat) (fun k=>[.un,.un,⟨true,.ptr 0 1 0 0⟩,.un,⟨true,.int .i64 (i:Nat)⟩,.un,.un,⟨true,.int .i64 (k:Nat)⟩,.un,.un]) (fun k=>[(0,.buf 1 [iJ r])]) 35 (fun k=>k<=r[i]!.length/\kU r[i]! =cS (fun k=>nN r[i]![k]!) k r[i]!.length) (fun k=>r[i]!.length-k) 0 ⟨ae,hkb⟩ (du [(0,0)]) ?_;rintro k ⟨hk,hkr⟩;refine c7 ?_;intro u3;refine ax ?_;refine cG (fun hc3=>?_) fun hc3=>?_
  .refine fU ?_;first|refine bE (v:=(dI.D _)) ?_|refine ff (v:=(dI.D _)) ?_
   refine aq (hc:=h676 r[i]![k]! (hp0 r[i]! (bF ae) _ (bF ae)).sm) ?_;refine ax ?_;refine wp_cond (fun hc4=>?_) (fun hc4=>?_)
   .simp only[bd]at hc4;refine bN ?_;refine bV ?_;rw[hr,aU ae,hkr,aU ae,hc4];rfl
   simp only[bM]at hc4;refine bN ?_;exact⟨k+1,⟨ae,by rw[hkr,aU ae,hc4];rfl⟩,ae,(du [(0,0)])⟩
  refine c7 ?_;exact⟨i+1,⟨ae,by rw[hr,aU ae,hkr,cn ae];rfl⟩,ae,(du [(0,0)])⟩
 refine aD ?_;refine bV ?_;rw[hr,cn ae]
noncomputable def P6:aC:=cR 253
def w900 (h482:UD Y)(r:An)  (hp0:kQ r=true/\oQ r):di Y P6 (.str (FG r)) [iJ r]:=by
 show bK _ _ _ [⟨_,_⟩,_,_,_,_,_,_,_,_,_] _;have hlen:=TM hp0.1 hp0.2;have hjl:=fun i=>tf [32,124,124,32] (r.map jR) i
 have hrl:∀i,(aS [32,124,124,32] ((r.map jR).take i)).length<=40000:=fun i=>dp (hjl i) hlen
 have hpl:∀i,(tL [32,124,124,32] (r.map jR) i).length<=40004:=fun i=>by
  unfold tL;split
  .have:=hrl i;simp only[bQ,aP,a8];omega
  .simp
 refine ar ?_;refine fU ?_;refine ba hm (ι:=Nat) (fun i=>[.un,.un,⟨true,.int .i64 (i:Nat)⟩,⟨true,.ptr 0 1 0 0⟩,.un,.un,⟨true,.str (aS [32,124,124,32] ((r.map jR).take i))⟩,.un,.un,.un]) (fun i=>[(0,.buf 1 [iJ r])]) 4 (fun i=>i<=r.length) (fun i=>r.length-i) 0 ae (du [(0,0)]) ?_;intro i hi;have hil:=hrl i;refine aD ?_;intro u0;refine ax ?_;refine cG (fun hc0=>?_) fun hc0=>?_
 .refine aZ ?_;refine sO hm (ι:=Unit) (fun _=>[.un,.un,⟨true,.int .i64 (i:Nat)⟩,⟨true,.ptr 0 1 0 0⟩,.un,.un,⟨true,.str (tL [32,124,124,32] (r.map jR) i)⟩,.un,.un,.un]) (fun _=>[(0,.buf 1 [iJ r])]) 50 (fun _=>True) ?_ ?_
  .refine fO (fun hc1=>?_) fun hc1=>?_
   .refine ax ?_;refine dk (hb:=fun _=>cd) ?_;refine ay ?_;rw[show aS [32,124,124,32] ((r.map jR).take i)++[32,124,124,32]=tL [32,124,124,32] (r.map jR) i from(aw ae).symm];exact⟨(),trivial,(du [(0,0)])⟩
   refine ax ?_;rw[S1 [32,124,124,32] (r.map jR) (show ¬0<i by omega)];exact⟨(),trivial,(du [(0,0)])⟩
  .rintro _-
   have hpi:=hpl i;have hao:=wv (AK hp0.1 (show i<r.length by omega));have hcl:∀k,k<r[i]!.length->(ep r[i]![k]!).length<=1100:=fun k hk=>AE (hp0.2 r[i]! (bF ae) _ (bF hk))
   have hal:=Ao (hp0.2 r[i]! (bF ae)) hao.2;have hkl:∀k,(aS [44,32] ((r[i]!.map ep).take k)).length<=6612:=fun k=>dp (tf _ _ _) hal
   refine ay ?_;rw[show tL [32,124,124,32] (r.map jR) i=tL [32,124,124,32] (r.map jR) i++aS [44,32] ((r[i]!.map ep).take 0)by simp[aS]];refine qU hm (ι:=Nat) (fun k=>[.un,.un,⟨true,.int .i64 (i:Nat)⟩,⟨true,.ptr 0 1 0 0⟩,.un,.un,⟨true,.str (tL [32,124,124,32] (r.map jR) i++aS [44,32] ((r[i]!.map ep).take k))⟩,⟨true,.int .i64 (k:Nat)⟩,.un,.un]) (fun k=>[(0,.buf 1 [iJ r])]) 51 (fun k=>k<=r[i]!.length) (fun k=>r[i]!.length-k) 0 ae (du [(0,0)]) ?_;intro k hk;have hkk:=hkl k;refine c7 ?_;intro u1;refine ax ?_;refine cG (fun hc2=>?_) fun hc2=>?_
   .refine aZ ?_;refine cG (fun hc3=>?_) fun hc3=>?_
    .refine ax ?_;refine fH ?_;refine ay ?_;have hjk:=wZ [44,32] (r[i]!.map ep) k (by rw[bO];omega);rw[Fa ep r[i]! (show k<r[i]!.length by omega)]at hjk;refine bN ?_;first|refine bE (v:=(dI.D _)) ?_|refine ff (v:=(dI.D _)) ?_
     refine aq (hc:=h482 r[i]![k]! (hp0.2 r[i]! (bF ae) _ (bF ae)).sm) ?_;refine dk (hb:=fun _=>by have:=hcl k ae;simp only[bQ,aP,a8];omega) ?_;refine c7 ?_;rw[show tL [32,124,124,32] (r.map jR) i++aS [44,32] ((r[i]!.map ep).take k)++[44,32]++ep r[i]![k]! =tL [32,124,124,32] (r.map jR) i++aS [44,32] ((r[i]!.map ep).take (k+1))by rw[hjk,show tL [44,32] (r[i]!.map ep) k=aS [44,32] ((r[i]!.map ep).take k)++[44,32]from aw ae];simp only[ey]];exact⟨k+1,ae,ae,(du [(0,0)])⟩
    refine ax ?_;have hjk:=wZ [44,32] (r[i]!.map ep) k (by rw[bO];omega);rw[Fa ep r[i]! (show k<r[i]!.length by omega)]at hjk;refine bN ?_;first|refine bE (v:=(dI.D _)) ?_|refine ff (v:=(dI.D _)) ?_
    refine aq (hc:=h482 r[i]![k]! (hp0.2 r[i]! (bF ae) _ (bF ae)).sm) ?_;refine dk (hb:=fun _=>by have:=hcl k ae;simp only[bQ,aP,a8];omega) ?_;refine c7 ?_;rw[show tL [32,124,124,32] (r.map jR) i++aS [44,32] ((r[i]!.map ep).take k)++ep r[i]![k]! =tL [32,124,124,32] (r.map jR) i++aS [44,32] ((r[i]!.map ep).take (k+1))by rw[hjk,S1 [44,32] (r[i]!.map ep) (show ¬0<k by omega)];simp only[ey]];exact⟨k+1,ae,ae,(du [(0,0)])⟩
   refine c7 ?_;obtain rfl:k=r[i]!.length:=ae;have hji:=wZ [32,124,124,32] (r.map jR) i (by rw[bO];omega);rw[Fa jR r (show i<r.length by omega)]at hji;rw[show tL [32,124,124,32] (r.map jR) i++aS [44,32] ((r[i]!.map ep).take r[i]!.length)=aS [32,124,124,32] ((r.map jR).take (i+1))by rw[hji,ee (by rw[bO];exact aL _)];rfl];exact⟨i+1,ae,ae,(du [(0,0)])⟩
 refine aZ ?_;refine dc ?_;rw[ee cZ];rfl
noncomputable def TF:aC:=cR 254
def w901 {Y:Ctx}(hm:(Y.at 0).b8)(h899:Yi Y)(h900:UI Y)(r:An)  (hp0:oQ r):di Y TF (.bool (uH r)) [iJ r]:=by
 show bK _ _ _ [⟨_,_⟩,_,_] _;refine ar ?_;refine aE ?_;refine aq (hc:=h899 r hp0) ?_;refine ax ?_;refine c9 (hc:=fun hf=>h900 r ⟨by simpa using hf,hp0⟩) ?_;refine iy ?_;refine aE ?_;refine bV ?_;simp only[uH];congr 1;exact gY.2 ae
noncomputable def KA:aC:=cR 220
def w745 {Y:Ctx}(hm:(Y.at 0).b8)(h900:UI Y)(h901:C901 Y)(r:An)  (hp0:oQ r):di Y KA (.str (yv r)) [iJ r]:=by
 show bK _ _ _ [⟨_,_⟩,_,_,_] _;refine ar ?_;refine aD ?_;refine aq (hc:=h901 r hp0) ?_;refine ax ?_;refine av (fun hc0=>?_) (fun hc0=>?_)
 .simp only[bd]at hc0;refine aE ?_;refine dc ?_;simp[yv,hc0]
 simp only[bM]at hc0;have hfw:kQ r=true:=by simp only[uH,bC]at hc0;exact hc0.1
 refine ay ?_;refine aq (hc:=h900 r ⟨hfw,hp0⟩) ?_;refine ay ?_;refine dc ?_;simp[yv,hc0]
noncomputable def PX:aC:=cR 77
def w249  (l:List au)(x:UInt8)  (hp0:(aS [x] l).length<=1099511627776):di Y PX (.str (aS [x] l)) [.sl 1 (l.map D.str),.int .u8 (x.toNat:Nat)]:=by
 show bK _ _ _ [⟨_,_⟩,⟨_,_⟩,_,_,_,_,_] _;refine ar ?_;refine c7 ?_;refine ba hm (ι:=Nat) (fun i=>[⟨true,.sl 1 (l.map D.str)⟩,⟨true,.int .u8 (x.toNat:Nat)⟩,.un,⟨true,.int .i64 (i:Nat)⟩,.un,.un,⟨true,.str (aS [x] (l.take i))⟩]) (fun i=>[]) 3 (fun i=>i<=l.length) (fun i=>l.length-i) 0 ae (du []) ?_;intro i hi;refine aE ?_;intro u0;refine ax ?_;refine cG (fun hc0=>?_) fun hc0=>?_
 .refine aB ?_;have hj:=tf [x] l (i+1);refine ay ?_;refine av (fun hc1=>?_) (fun hc1=>?_)
  .simp only[aK]at hc1;have ht:=qE [x] l i ae;rw[aw ae]at ht;have htl:=aj List.length ht;simp only[bQ,List.length_singleton]at htl;refine ay ?_;refine dh [.int .u8 _] ?_;refine HD [x] (he:=fun _=>sR.all ah rfl) (hs:=fun _=>rfl) ?_;refine dk (hb:=fun _=>by simp only[List.length_singleton];omega) ?_;refine bN ?_;refine dk (hb:=fun _=>by first|(simp only[bQ,List.length_singleton];omega)|(subst hi0;simp only[List.take_zero,aS,a8]at htl⊢;omega)) ?_;refine c7 ?_;exact⟨i+1,ae,ae,(a7.to [] ah ah (by repeat(first|exact dr.nil|refine dr.un ?_|refine dr.eq ah ?_|refine dr.nl (aj D.str (by rw[ht])) ah ?_)) qd)⟩
  simp only[bc]at hc1;have ht:=qE [x] l i ae;rw[ak ae]at ht;have htl:=aj List.length ht;simp only[bQ,a8]at htl;have hi0:i=0:=ae;refine aZ ?_;refine dk (hb:=fun _=>by first|(simp only[bQ,List.length_singleton];omega)|(subst hi0;simp only[List.take_zero,aS,a8]at htl⊢;omega)) ?_;refine c7 ?_;exact⟨i+1,ae,ae,(a7.to [] ah ah (by repeat(first|exact dr.nil|refine dr.un ?_|refine dr.eq ah ?_|refine dr.nl (aj D.str (by rw[ht];subst hi0;rfl)) ah ?_)) qd)⟩
 refine aZ ?_;refine dc ?_;rw[ee ae]
noncomputable def BP:aC:=cR 128
def w226  (a:List au)(b:List au)   :di Y BP (.bool (decide (a=b))) [.sl 1 (a.map D.str),.sl 1 (b.map D.str)]:=by
 show bK _ _ _ [⟨_,_⟩,⟨_,_⟩,_,_,_,_,_] _;refine ar ?_;refine aD ?_;intro u0;refine ax ?_;intro u1;refine ax ?_;refine cG (fun hc0=>?_) fun hc0=>?_
 .refine aE ?_;refine bV ?_;symm;rw[bc];rintro rfl;exact hc0 rfl
 refine aE ?_;have hab:a.length=b.length:=ae;have hb:=qh hab;refine ba hm (ι:=Nat) (fun i=>[⟨true,.sl 1 (a.map D.str)⟩,⟨true,.sl 1 (b.map D.str)⟩,.un,.un,⟨true,.int .i64 (i:Nat)⟩,.un,.un]) (fun i=>[]) 7 (fun i=>i<=a.length/\decide (a=b)=cS (fun i=>decide (a[i]! =b[i]!)) i a.length) (fun i=>a.length-i) 0 ⟨ae,hb⟩ (du []) ?_;rintro i ⟨hi,hr⟩;refine aE ?_;intro u2;refine ax ?_;refine cG (fun hc1=>?_) fun hc1=>?_
 .refine lX ?_;refine wp_cond (fun hc2=>?_) (fun hc2=>?_)
  .simp only[bd,bc]at hc2;refine aD ?_;refine bV ?_;rw[hr,aU ae,cI hc2];rfl
  simp only[bM,aK]at hc2;refine bN ?_;exact⟨i+1,⟨ae,by rw[hr,aU ae,ca hc2];rfl⟩,ae,(du [])⟩
 refine aD ?_;refine bV ?_;rw[hr,cn ae]
noncomputable def H6:aC:=cR 221
def w815  (l:List au)   :di Y H6 (.bool (rising l)) [.sl 1 (l.map D.str)]:=by
 show bK _ _ _ [⟨_,_⟩,_,_,_,_] _;refine ar ?_;refine aD ?_;refine ba hm (ι:=Nat) (fun i=>[⟨true,.sl 1 (l.map D.str)⟩,.un,⟨true,.int .i64 (i:Nat)⟩,.un,.un]) (fun i=>[]) 2 (fun i=>1<=i/\(i<=l.length\/i=1)/\rising l=cS (fun i=>Op.bytesLess l[i-1]! l[i]!) i l.length) (fun i=>l.length-i) 1 ⟨ae,ae,rfl⟩ (du []) ?_;rintro i ⟨h1,hi,hr⟩;refine aE ?_;intro u0;refine ax ?_;refine cG (fun hc0=>?_) fun hc0=>?_
 .refine aD ?_;refine bI (i-1) ?_;refine aZ ?_;refine wp_cond (fun hc1=>?_) (fun hc1=>?_)
  .simp only[bd]at hc1;refine aD ?_;refine bV ?_;rw[hr,aU ae,hc1];rfl
  simp only[bM]at hc1;refine bN ?_;exact⟨i+1,⟨ae,ae,by rw[hr,aU ae,hc1];rfl⟩,ae,(du [])⟩
 refine aD ?_;refine bV ?_;rw[hr,cn ae]
noncomputable def CE:aC:=cR 141
def w447  (l:List au)   :di Y CE (.bool (rising l)) [.sl 1 (l.map D.str)]:=by
 show bK _ _ _ [⟨_,_⟩,_,_,_,_] _;refine ar ?_;refine aD ?_;refine ba hm (ι:=Nat) (fun i=>[⟨true,.sl 1 (l.map D.str)⟩,.un,⟨true,.int .i64 (i:Nat)⟩,.un,.un]) (fun i=>[]) 2 (fun i=>1<=i/\(i<=l.length\/i=1)/\rising l=cS (fun i=>Op.bytesLess l[i-1]! l[i]!) i l.length) (fun i=>l.length-i) 1 ⟨ae,ae,rfl⟩ (du []) ?_;rintro i ⟨h1,hi,hr⟩;refine aE ?_;intro u0;refine ax ?_;refine cG (fun hc0=>?_) fun hc0=>?_
 .refine aD ?_;refine bI (i-1) ?_;refine aZ ?_;refine wp_cond (fun hc1=>?_) (fun hc1=>?_)
  .simp only[bd]at hc1;refine aD ?_;refine bV ?_;rw[hr,aU ae,hc1];rfl
  simp only[bM]at hc1;refine bN ?_;exact⟨i+1,⟨ae,ae,by rw[hr,aU ae,hc1];rfl⟩,ae,(du [])⟩
 refine aD ?_;refine bV ?_;rw[hr,cn ae]
noncomputable def CU:aC:=cR 115
def w466 (h209:I8 Y)(h451:XO Y)(h533:N8 Y)(h658:QO Y)(h675:C675 Y)(s:au)  (hp0:s.length<=1048576):di Y CU (.tup [cq.D ((gv s).getD gz),.int .i64 (o9 s)]) [.str s]:=by
 show bK _ _ _ [⟨_,_⟩,_,_,_,_,_,_,_,_,_,_,_,_,_,_,_,_,_] _;have hb1:=kE s 43;have tJ:=kE (aG s 43).2 45;generalize hA:aG s 43=A at hb1 tJ;generalize hB:aG A.2 45=B at tJ;have hsl:=dm B.2 46;generalize hL:ai B.2 46=L at hsl;have hq0:gv s=if L.length=3/\fW L[0]! =true/\fW L[1]! =true/\fW L[2]! =true then(if e8 ⟨eg L[0]!,eg L[1]!,eg L[2]!,B.1,A.1⟩=true/\kf ⟨eg L[0]!,eg L[1]!,eg L[2]!,B.1,A.1⟩=s then some ⟨eg L[0]!,eg L[1]!,eg L[2]!,B.1,A.1⟩else none)else none:=by subst hA;subst hB;subst hL;rfl
 refine ar ?_;refine gD ?_;refine aq (hc:=h675 s 43) ?_;rw[hA];refine aB ?_;refine aI (cq.D ⟨0,0,0,[],A.1⟩) (he:=aQ) ?_;refine aB ?_;refine aq (hc:=h675 A.2 45) ?_;rw[hB];refine aB ?_;refine aI (cq.D ⟨0,0,0,B.1,A.1⟩) (he:=aQ) ?_;refine aB ?_;refine aq (hc:=h533 B.2 46 ae) ?_;rw[hL];refine aD ?_;intro u0;refine ax ?_;refine cG (fun hc0=>?_) fun hc0=>?_
 .refine ax ?_;refine bg (cq.D gz) ?_;refine aB ?_;refine bG (aH ?_ (aj (D.int .i64) ?_));all_goals
   have hq:gv s=none:=by rw[hq0,ak (fun h=>by have:=h.1;omega)]
   simp only[o9,hq];rfl
 refine bN ?_;intro u1;refine ax ?_;refine ba hm (ι:=Nat) (fun i=>[⟨true,.str s⟩,⟨true,.ptr 0 5 0 0⟩,.un,.un,⟨true,.ptr 2 5 0 0⟩,.un,.un,⟨true,.int .i64 (i:Nat)⟩,⟨true,.int .i64 (L.length:Nat)⟩,.un,⟨true,.sl 1 (L.map D.str)⟩,.un,.un,.un,.un,.un,⟨true,.ptr 27 3 0 0⟩,.un]) (fun i=>[(0,.buf 5 [cq.D gz]),(2,.buf 5 [cq.D ⟨0,0,0,B.1,A.1⟩]),(27,.buf 3 [Pn L i])]) 31 (fun i=>i<=3/\∀j,j<i->fW L[j]! =true) (fun i=>3-i) 0 ⟨ae,fun j hj=>ae⟩ (du [(0,0),(2,2),(27,27)]) ?_;rintro i ⟨hi,hr⟩;refine ay ?_;refine cG (fun hc1=>?_) fun hc1=>?_
 .refine fK ?_;refine aq (hc:=h658 L[i]!) ?_;refine fK ?_;refine av (fun hc2=>?_) (fun hc2=>?_)
  .simp only[bd]at hc2;refine ax ?_;refine bg (cq.D gz) ?_;refine aD ?_;refine bG (aH ?_ (aj (D.int .i64) ?_));all_goals
    have hq:gv s=none:=by
     rw[hq0,ak];rintro⟨_,h1,h2,h3⟩;rcases(show i=0\/i=1\/i=2 by omega)with rfl|rfl|rfl
     .rw[h1]at hc2;cases hc2
     .rw[h2]at hc2;cases hc2
     .rw[h3]at hc2;cases hc2
    simp only[o9,hq];rfl
  simp only[bM]at hc2;refine aB ?_;refine sk i ?_;refine aI (Pn L (i+1)) (he:=Hn L i ae) ?_;refine aZ ?_;have hr2:∀j,j<i+1->fW L[j]! =true:=by
   intro j hj;rcases Nat.eq_or_lt_of_le (Nat.lt_succ_iff.1 hj)with rfl|h
   .exact hc2
   .exact hr j h
  exact⟨i+1,⟨ae,hr2⟩,ae,(du [(0,0),(2,2),(27,27)])⟩
 refine ax ?_;refine eI 27 ?_;refine aA ?_;have h3:i=3:=ae;subst h3;refine J3 0 ?_;refine ff (v:=.int .i64 (eg L[0]!)) ?_;refine J3 1 ?_;refine BF (v:=.int .i64 (eg L[1]!)) ?_;refine J3 2 ?_;refine BF (v:=.int .i64 (eg L[2]!)) ?_;refine aA ?_;refine aI (cq.D ⟨eg L[0]!,0,0,B.1,A.1⟩) (he:=aQ) ?_;refine aA ?_;refine aI (cq.D ⟨eg L[0]!,eg L[1]!,0,B.1,A.1⟩) (he:=aQ) ?_;refine aA ?_;refine aI (cq.D ⟨eg L[0]!,eg L[1]!,eg L[2]!,B.1,A.1⟩) (he:=aQ) ?_;refine ay ?_;have hsm:cq.sm ⟨eg L[0]!,eg L[1]!,eg L[2]!,B.1,A.1⟩:=⟨by simp only;omega,by simp only;omega⟩;generalize hV:(⟨eg L[0]!,eg L[1]!,eg L[2]!,B.1,A.1⟩:cq)=V at hsm hq0⊢;refine aA ?_;refine aq (hc:=h209 V hsm) ?_;refine ay ?_;refine c9 (hc:=fun _=>h451 V hsm) ?_;refine aB ?_;refine av (fun hc3=>?_) (fun hc3=>?_)
 .simp only[cN,bd,bc]at hc3;refine ax ?_;refine bg (cq.D gz) ?_;refine aB ?_;refine bG (aH ?_ (aj (D.int .i64) ?_));all_goals
   have hq:gv s=none:=by
    rw[hq0];split
    .rw[ak];rintro⟨h1,h2⟩;rcases hc3 with h|h
     .rw[h1]at h;cases h
     .exact h h2
    .rfl
   simp only[o9,hq];rfl
 simp only[de,bM,aK]at hc3;refine aZ ?_;refine bG (aH ?_ (aj (D.int .i64) ?_));all_goals
  have hq:gv s=some V:=by
   rw[hq0,aw ⟨ae,hr 0 ae,hr 1 ae,hr 2 ae⟩,aw hc3]
  simp only[o9,hq];rfl
noncomputable def yO:aC:=cR 239
def w946 {Y:Ctx}(hm:(Y.at 0).b8)  (w:List au)(es:List D)(b:Bool)   :di Y yO (.str (bA w)) [.ref 3 [iW w (.sl 5 es) b] 0 0]:=by
 show bK _ _ _ [⟨_,_⟩,_,_] _;refine ar ?_;refine aZ ?_;refine ff (v:=.sl 1 (w.map D.str)) ?_;refine aA ?_;intro u0;refine ax ?_;refine cG (fun hc0=>?_) fun hc0=>?_
 .refine aE ?_;refine dc ?_;have:w=[]:=qV.1 ae;subst this;rfl
 refine aE ?_;refine ff (v:=.sl 1 (w.map D.str)) ?_;refine bI 0 ?_;refine aB ?_;refine dc ?_
 match w,hc0 with
 |[],h=>exact absurd rfl h
 |x::r,_=>rfl
noncomputable def mj:aC:=cR 240
def w947 {Y:Ctx}(hm:(Y.at 2).b8)(w:List au)(nd:List Nd)(b:Bool)(h946:Yj (Y.at 2))  :bK (Y.at 2) mj.body (j5 mj (K3 3 iW nd (fun o=>o=⟨0,bY w,nd,dR w b⟩) (fun _=>.str (bA w))):Ex->List ch->St->Prop) (fF mj [.ptr 0 3 0 0]) ⟨2,[(0,.buf 3 [iW w (.own 1 5 0 nd.length) b]),(1,.buf 5 (nd.map Nd.D))]⟩:=by
 show bK _ _ _ [⟨true,.ptr 0 3 0 0⟩,.un,.un,.un] ⟨2,[(0,.buf 3 [iW w (.own 1 5 0 nd.length) b]),(1,.buf 5 (nd.map Nd.D))]⟩;refine ar ?_;refine aB ?_;refine aq (hc:=h946 w _ b) (hp:=fun _=>Sz ah ah) ?_;refine aZ ?_;refine cG (fun hc0=>?_) fun hc0=>?_
 .refine aE ?_;refine aI (iW w (.own 1 5 0 nd.length) true) (he:=aQ) ?_;refine aD ?_;refine bP trivial eh (bS ah (aj D.str ?_)) ah ⟨⟨0,bY w,nd,dR w b⟩,rfl,rfl,by simp only[bY,dR,hc0,aW];rfl,rfl⟩;exact hc0.symm
 refine aD ?_;refine aT (v:=.sl 1 (w.map D.str)) ?_;refine sr 1 (hb:=fun _=>by have:=TX hc0;omega) ?_;refine ax ?_;refine aI (iW (w.drop 1) (.own 1 5 0 nd.length) b) (he:=aQ) ?_;refine aD ?_;refine bP trivial eh (bS ah (aj D.str ?_)) ah ⟨⟨0,bY w,nd,dR w b⟩,rfl,rfl,by simp only[bY,dR,hc0,aX];rfl,rfl⟩;rfl
noncomputable def ny:aC:=cR 241
def w948 {Y:Ctx}(hm:(Y.at 2).b8)(x:Nd)(w:List au)(nd:List Nd)(b:Bool)  (hp0:nd.length<=2000):bK (Y.at 2) ny.body (j5 ny (yE 3 iW (fun o=>o=⟨(nd.length:Nat),w,nd++[x],b⟩) Va):Ex->List ch->St->Prop) (fF ny [.ptr 0 3 0 0,Nd.D x]) ⟨2,[(0,.buf 3 [iW w (.own 1 5 0 nd.length) b]),(1,.buf 5 (nd.map Nd.D))]⟩:=by
 show bK _ _ _ [⟨true,.ptr 0 3 0 0⟩,⟨true,Nd.D x⟩,.un,.un] ⟨2,[(0,.buf 3 [iW w (.own 1 5 0 nd.length) b]),(1,.buf 5 (nd.map Nd.D))]⟩;refine ar ?_;refine bN ?_;refine aT (v:=.own 1 5 0 nd.length) ?_;refine cA (d:=Nd.D x) ?_;refine dh [Nd.D x] ?_;refine gV (q:=Nd.D) (xs:=nd) (e:=x) ?_;refine ax ?_;refine aI (iW w (.own 11 5 0 (nd++[x]).length) b) (he:=aQ) ?_;refine aE ?_;refine aT (v:=.own 11 5 0 (nd++[x]).length) ?_;refine aA ?_;intro u0;refine aB ?_;refine bP trivial eh (bS ah (aj (D.int .i64) ?_)) ah ⟨⟨(nd.length:Nat),w,nd++[x],b⟩,11,aF,rfl,rfl,rfl,rfl⟩;simp
noncomputable def GM:aC:=cR 98
def w213 (h349:Jc Y)(h447:C447 Y)(h448:XM Y)(h449:C449 Y)(l:List b7)  (hp0:zd l):di Y GM (.bool (iE l)) [.sl 2 (l.map b7.D)]:=by
 show bK _ _ _ [⟨_,_⟩,_,_,_,_,_,_,_,_,_,_,_,_,_,_,_,_,_] _;refine ar ?_;refine aD ?_;intro u0;refine ax ?_;refine cG (fun hc0=>?_) fun hc0=>?_
 .refine aE ?_;refine bV ?_;symm;simp only[iE];rw[cI ae];rfl
 refine aE ?_;intro u1;refine ax ?_;have hb:iE l=cS (jT l) 0 l.length:=by simp only[iE];rw[ca ae];rfl
 refine ba hm (ι:=Nat) (fun i=>[⟨true,.sl 2 (l.map b7.D)⟩,.un,.un,⟨true,.int .i64 (i:Nat)⟩,⟨true,.int .i64 (l.length:Nat)⟩,.un,⟨true,.sl 2 (l.map b7.D)⟩,.un,.un,.un,.un,.un,.un,.un,.un,.un,.un,.un]) (fun i=>[]) 7 (fun i=>i<=l.length/\iE l=cS (jT l) i l.length) (fun i=>l.length-i) 0 ⟨ae,hb⟩ (du []) ?_;rintro i ⟨hi,hr⟩;refine ay ?_;refine cG (fun hc1=>?_) fun hc1=>?_
 .refine aE ?_;first|refine bE (v:=(b7.D _)) ?_|refine ff (v:=(b7.D _)) ?_
  refine ax ?_;refine aI (b7.D l[i]!) (he:=aQ) ?_;refine aE ?_;refine aq (hc:=h349 _) ?_;refine bN ?_;refine bI (i-1) ?_;refine fU ?_;refine iy ?_;refine aE ?_;refine aq (hc:=h447 _) ?_;refine ay ?_;refine av (fun hc2=>?_) (fun hc2=>?_)
  .have hfo:=OK hc2;refine aZ ?_;refine bV ?_;rw[hr,aU ae,hfo];rfl
  have hfo:=OL hc2;refine aE ?_;intro u2;refine ax ?_;refine qU hm (ι:=Nat) (fun j=>[⟨true,.sl 2 (l.map b7.D)⟩,.un,.un,⟨true,.int .i64 (i:Nat)⟩,⟨true,.int .i64 (l.length:Nat)⟩,.un,⟨true,.sl 2 (l.map b7.D)⟩,.un,.un,.un,⟨true,.int .i64 (j:Nat)⟩,⟨true,.int .i64 (l[i]!.of.length:Nat)⟩,.un,⟨true,.sl 1 (l[i]!.of.map D.str)⟩,.un,.un,.un,.un]) (fun j=>[]) 49 (fun j=>j<=l[i]!.of.length/\jT l i=cS (fun j=>jb l l[i]!.of[j]!) j l[i]!.of.length) (fun j=>l[i]!.of.length-j) 0 ⟨ae,hfo⟩ (du []) ?_;rintro j ⟨hj,hjr⟩;refine ay ?_;refine cG (fun hc3=>?_) fun hc3=>?_
  .refine c7 ?_;refine aq (hc:=h448 l[i]!.of[j]! ((hp0 _ (bF ae)).2.2 _ (bF ae))) ?_;refine Cq ?_;refine aq (hc:=h449 _ _) ?_;refine aB ?_;refine wp_cond (fun hc4=>?_) (fun hc4=>?_)
   .have hz:jb l l[i]!.of[j]! =false:=by simp only[jb,hc4];rfl
    refine bN ?_;refine bV ?_;rw[hr,aU ae,hjr,aU ae,hz];rfl
   have hz:jb l l[i]!.of[j]! =true:=by simp only[jb,hc4];rfl
   refine aZ ?_;exact⟨j+1,⟨ae,by rw[hjr,aU ae,hz];rfl⟩,ae,(du [])⟩
  refine bN ?_;exact⟨i+1,⟨ae,by rw[hr,aU ae,hjr,cn ae];rfl⟩,ae,(du [])⟩
 refine aD ?_;refine bV ?_;rw[hr,cn ae]
end Go.Abs
