/- A part of the proofs. -/
import Derived.Test.YtgnjlompgjhaaaaGreatDoorP08
set_option linter.all false
set_option maxRecDepth 60000
set_option maxHeartbeats 2000000
namespace Go.Abs
variable {Y:Ctx}(hm:(Y.at 0).b8)
noncomputable def jz:aC:=cR 70
def w222 {Y:Ctx}(hm:(Y.at 1).b8)(h466:C466 (Y.at 1))(h467:XQ (Y.at 1))(h468:UA (Y.at 1))(h469:C469 (Y.at 1))(h9465:KZ (Y.at 1))(r:Ld)  (hp0:r.sm):bK (Y.at 1) jz.body (Oh jz 2 (.tup [Rec.D (gy r.rest).1,.bool (oX r.rest).isSome]) (Ld.D (r.to (gy r.rest).2)):Ex->List ch->St->Prop) (fF jz (.ptr 0 2 0 0::[])) ⟨1,[(0,.buf 2 [(Ld.D r)])]⟩:=by
 show bK _ _ _ [⟨true,.ptr 0 2 0 0⟩,.un,.un,.un,.un,.un,.un,.un,.un,.un,.un,.un,.un,.un,.un,.un,.un,.un,.un,.un] ⟨1,[(0,.buf 2 [(Ld.D r)])]⟩;have hself:=Ld.FP hp0;have hq1:=r.BW;have hll:=hp0.1.2;refine ar ?_;refine aE ?_;refine Xm _ ?_;refine ay ?_;rw[show Ld.D r=Ld.D (r.to r.rest)by rw[hself]];refine aA ?_;refine od (n:=1000465) (apT:=[.ptr 0 2 0 0,.str dN,.int .i64 ((3:Nat):Int),.bool false]) (ι:=Unit) (fun _=>True) (fun _=>.tup [CL (cj dN 3 false r.rest),.bool (cj dN 3 false r.rest).isSome]) 6 (fun _=>[(0,.buf 2 [Ld.D (r.to (eS dN 3 false r.rest))]),(1,.buf 9 [dy])]) (fun _ _=>?_) (hc:=fun K' hK=>zl h9465 hp0 hq1 (w:=dN) (n:=3) (op:=false) aF aF ah (hK () trivial)) (hn:=aF);refine aA ?_;refine eZ _ ?_;refine c7 ?_;refine av (fun hc0=>?_) (fun hc0=>?_)
 .simp only[bd]at hc0;have hq:=j7 hc0;have hnr:eS dN 3 false r.rest=r.rest:=by simp only[eS,hq]
  rw[hnr];have hrp:oX r.rest=none:=by simp only[oX,hq]
  have hrv:gy r.rest=(hH,r.rest):=by simp only[gy,hrp]
  rw[hrv,hrp];refine ax ?_;refine bg dy ?_;refine aI dy (he:=aQ) ?_;refine ax ?_;refine kP [(0,.buf 2 [Ld.D (r.to r.rest)]),(1,.buf 9 [Rec.D hH])] (.id ah (.bf ah (.cons mN .nil) .nil)) ?_;refine aA ?_;refine iI trivial sj (bS ah (aH ?_ ?_)) ah ah ah;all_goals rfl
 simp only[bM]at hc0;obtain⟨⟨l,q0⟩,hq⟩:=j8 hc0;have hnr:eS dN 3 false r.rest=q0:=by simp only[eS,hq]
 obtain⟨hl,hlm,hq0,hqp⟩:=po hp0 hq1 hq;rw[hnr,hq];obtain hl:l.length=3:=by rcases hl with h|h;cases h;exact h
 refine ay ?_;refine bI 2 (hb:=fun _=>ae) ?_;refine bE (v:=.str l[2]!) (hi:=fun _=>ae) ?_;refine aq (hc:=h466 l[2]! (hlm _ (bF ae))) ?_;refine aA ?_;refine eZ (cq.D _) ?_;refine ax ?_;refine aI (cq.D ((gv l[2]!).getD gz)) (he:=aQ) ?_;refine aZ ?_;refine av (fun hc1=>?_) (fun hc1=>?_)
 .simp only[bd,bc]at hc1;have hv:=ZY hc1;have hrp:oX r.rest=none:=by simp only[oX,hq,hv]
  have hrv:gy r.rest=(hH,r.rest):=by simp only[gy,hrp]
  rw[hrv,hrp];obtain⟨t,hpt,_⟩:=dY hq;refine ax ?_;obtain⟨hab1,hab2⟩:=(hp0.to q0).1;refine ay ?_;refine aT (v:=.int .i64 ((r.to q0).at':Nat)) ?_;refine ay ?_;refine aI (Ld.D (r.to r.rest)) (he:=by rw[hpt];exact Ld.back (hpt▸hq1)) ?_;refine ay ?_;refine bg dy ?_;refine aI dy (he:=aQ) ?_;refine ax ?_;refine kP [(0,.buf 2 [Ld.D (r.to r.rest)]),(1,.buf 9 [Rec.D hH]),(22,.buf 5 [cq.D ((gv l[2]!).getD gz)])] (.id ah (.bf ah (.cons mN .nil) (.id ah .nil))) ?_;refine aA ?_;refine iI trivial sj (bS ah (aH ?_ ?_)) ah ah ah;all_goals rfl
 simp only[bM,aK]at hc1;obtain⟨v,hv⟩:=ZZ hc1;rw[hv];have hrp:oX r.rest=some (pO l[1]! v q0):=by simp only[oX,hq,hv]
 have hrv:gy r.rest=pO l[1]! v q0:=by simp only[gy,hrp]
 rw[hrv,hrp];generalize hnm:l[1]! =nm;have hq01:=hq0.length_le;refine ax ?_;rw[<-hnm];refine aA ?_;refine bI 1 (hb:=fun _=>ae) ?_;refine bE (v:=.str l[1]!) (hi:=fun _=>ae) ?_;refine cA (d:=cq.D v) ?_;refine bg (qa l[1]! v .bq .bq .bq) ?_;refine aA ?_;refine aI (qa l[1]! v .bq .bq .bq) (he:=aQ) ?_;refine aA ?_;rw[hnm];refine ba hm (ι:=(List bp×List au)) (fun z=>[⟨true,.ptr 0 2 0 0⟩,⟨true,.ptr 1 9 0 0⟩,⟨true,.bool false⟩,⟨true,.fn 1000465 [.ptr 0 2 0 0]⟩,.un,.un,.un,.un,.un,.un,.un,.un,⟨true,.ptr 2 9 0 0⟩,.un,.un,.un,.un,.un,.un,.un]) (fun z=>[(0,.buf 2 [Ld.D (r.to z.2)]),(1,.buf 9 [dy]),(2,.buf 9 [qa nm v (.own 3 3 0 (z.1).length) (.bq) (.bq)]),(3,.buf 3 (z.1.map bp.D))]) 10 (fun z=>z.2<:+r.ls/\z.1.length+z.2.length<=r.ls.length/\eE q0=(z.1++(eE z.2).1,(eE z.2).2)) (fun z=>z.2.length) ([],q0) ⟨hq0,by simpa using hq01,aJ⟩ (a7.to [(1,1),(32,2)] ah ah ei (by refine bo.fY ah ah ah ?_;refine bo.fY ah ah ah ?_;refine bo.ni 32 ah ah (by exact⟨_,_,rfl,⟨_,rfl,⟨_,_,rfl,⟨rfl,rfl⟩,⟨_,_,rfl,⟨rfl,rfl⟩,⟨_,_,rfl,⟨rfl,rfl⟩,⟨_,_,rfl,⟨rfl,rfl⟩,⟨_,_,rfl,⟨rfl,rfl⟩,⟨_,_,rfl,⟨rfl,rfl⟩,⟨_,_,rfl,Or.inr ⟨_,_,_,rfl⟩,⟨_,_,rfl,Or.inl rfl,⟨_,_,rfl,Or.inl rfl,rfl⟩⟩⟩⟩⟩⟩⟩⟩⟩⟩,rfl⟩) ?_;refine bo.mt ah ah ah ah ?_;exact bo.nil)) ?_;rintro⟨N,p⟩ ⟨hq1,hlen,hw⟩;dsimp only at hq1 hlen hw⊢;refine aB ?_;refine od (n:=1000465) (apT:=[.ptr 0 2 0 0,.str ek,.int .i64 ((1:Nat):Int),.bool false]) (ι:=Unit) (fun _=>True) (fun _=>.tup [CL (cj ek 1 false p),.bool (cj ek 1 false p).isSome]) 10 (fun _=>[(0,.buf 2 [Ld.D (r.to (eS ek 1 false p))]),(1,.buf 9 [dy]),(2,.buf 9 [qa nm v (.own 3 3 0 (N).length) (.bq) (.bq)]),(3,.buf 3 (N.map bp.D))]) (fun _ _=>?_) (hc:=fun K' hK=>zl h9465 hp0 hq1 (w:=ek) (n:=1) (op:=false) aF aF ah (hK () trivial)) (hn:=aF);refine aA ?_;refine eZ _ ?_;refine c7 ?_;refine av (fun hc2=>?_) (fun hc2=>?_)
 .simp only[bd]at hc2;have hq:=j7 hc2;have hnr:eS ek 1 false p=p:=by simp only[eS,hq]
  rw[hnr];have hn2:eE q0=(N,p):=by rw[hw,pj hq,gX]
  have hpl:=hq1.length_le;refine ay ?_;refine eI 3 (hn:=br (fun _=>rfl) _) (he:=by simp only[lf,iL,iV,lQ,nk,cJ,Nat.reduceEqDiff,aW,aX,cO,ct,cu,cT,cX,bR,bO,aL,bZ,aN,reduceCtorEq,aP,a8,Nat.reduceAdd,Nat.reduceLeDiff,Ld.D,dy,qa];exact rfl) (hm:=by simp only[lf,iL,iV,lQ,nk,cJ,Nat.reduceEqDiff,aW,aX,cO,ct,cu,cT,cX,bR,bO,aL,bZ,aN,reduceCtorEq,aP,a8,Nat.reduceAdd,Nat.reduceLeDiff,Ld.D,dy,qa];exact rfl) ?_;refine ba hm (ι:=(List fA×List au)) (fun z=>[⟨true,.ptr 0 2 0 0⟩,⟨true,.ptr 1 9 0 0⟩,⟨true,.bool false⟩,⟨true,.fn 1000465 [.ptr 0 2 0 0]⟩,.un,.un,.un,.un,.un,.un,.un,.un,⟨true,.ptr 2 9 0 0⟩,.un,.un,.un,.un,.un,.un,.un]) (fun z=>[(0,.buf 2 [Ld.D (r.to z.2)]),(1,.buf 9 [dy]),(2,.buf 9 [qa nm v ((.sl 3 (N.map bp.D))) (.own 3 3 0 (z.1).length) (.bq)]),(3,.buf 3 (z.1.map fA.D))]) 10 (fun z=>z.2<:+r.ls/\z.1.length+z.2.length<=r.ls.length/\iM p=(z.1++(iM z.2).1,(iM z.2).2)) (fun z=>z.2.length) ([],p) ⟨hq1,by simpa using hpl,aJ⟩ (a7.to [(1,1),(2,2)] ah ah ei (by refine bo.fY ah ah ah ?_;refine bo.fY ah ah ah ?_;refine bo.ni 2 ah ah (by exact⟨_,_,rfl,⟨_,rfl,⟨_,_,rfl,⟨rfl,rfl⟩,⟨_,_,rfl,⟨rfl,rfl⟩,⟨_,_,rfl,⟨rfl,rfl⟩,⟨_,_,rfl,⟨rfl,rfl⟩,⟨_,_,rfl,⟨rfl,rfl⟩,⟨_,_,rfl,⟨rfl,rfl⟩,⟨_,_,rfl,⟨rfl,rfl⟩,⟨_,_,rfl,Or.inr ⟨_,_,_,rfl⟩,⟨_,_,rfl,Or.inl rfl,rfl⟩⟩⟩⟩⟩⟩⟩⟩⟩⟩,rfl⟩) ?_;refine bo.mt ah ah ah ah ?_;exact bo.nil)) ?_;rintro⟨B,pb⟩ ⟨hq1,hlen,hw⟩;dsimp only at hq1 hlen hw⊢;refine ay ?_;refine od (n:=1000465) (apT:=[.ptr 0 2 0 0,.str fG,.int .i64 ((3:Nat):Int),.bool true]) (ι:=Unit) (fun _=>True) (fun _=>.tup [CL (cj fG 3 true pb),.bool (cj fG 3 true pb).isSome]) 10 (fun _=>[(0,.buf 2 [Ld.D (r.to (eS fG 3 true pb))]),(1,.buf 9 [dy]),(2,.buf 9 [qa nm v ((.sl 3 (N.map bp.D))) (.own 3 3 0 (B).length) (.bq)]),(3,.buf 3 (B.map fA.D))]) (fun _ _=>?_) (hc:=fun K' hK=>zl h9465 hp0 hq1 (w:=fG) (n:=3) (op:=true) aF aF ah (hK () trivial)) (hn:=aF);refine aA ?_;refine eZ _ ?_;refine c7 ?_;refine av (fun hc3=>?_) (fun hc3=>?_)
  .simp only[bd]at hc3;have hq:=j7 hc3;have hnr:eS fG 3 true pb=pb:=by simp only[eS,hq]
   rw[hnr];have tJ:iM p=(B,pb):=by rw[hw,qq hq,gX]
   have hpl2:=hq1.length_le;refine ay ?_;refine eI 3 (hn:=br (fun _=>rfl) _) (he:=by simp only[lf,iL,iV,lQ,nk,cJ,Nat.reduceEqDiff,aW,aX,cO,ct,cu,cT,cX,bR,bO,aL,bZ,aN,reduceCtorEq,aP,a8,Nat.reduceAdd,Nat.reduceLeDiff,Ld.D,dy,qa];exact rfl) (hm:=by simp only[lf,iL,iV,lQ,nk,cJ,Nat.reduceEqDiff,aW,aX,cO,ct,cu,cT,cX,bR,bO,aL,bZ,aN,reduceCtorEq,aP,a8,Nat.reduceAdd,Nat.reduceLeDiff,Ld.D,dy,qa];exact rfl) ?_;refine ba hm (ι:=(List b7×List au)) (fun z=>[⟨true,.ptr 0 2 0 0⟩,⟨true,.ptr 1 9 0 0⟩,⟨true,.bool false⟩,⟨true,.fn 1000465 [.ptr 0 2 0 0]⟩,.un,.un,.un,.un,.un,.un,.un,.un,⟨true,.ptr 2 9 0 0⟩,.un,.un,.un,.un,.un,.un,.un]) (fun z=>[(0,.buf 2 [Ld.D (r.to z.2)]),(1,.buf 9 [dy]),(2,.buf 9 [qa nm v ((.sl 3 (N.map bp.D))) ((.sl 3 (B.map fA.D))) (.own 3 2 0 (z.1).length)]),(3,.buf 2 (z.1.map b7.D))]) 10 (fun z=>z.2<:+r.ls/\z.1.length+z.2.length<=r.ls.length/\dC pb=(z.1++(dC z.2).1,(dC z.2).2)) (fun z=>z.2.length) ([],pb) ⟨hq1,by simpa using hpl2,aJ⟩ (a7.to [(1,1),(2,2)] ah ah ei (by refine bo.fY ah ah ah ?_;refine bo.fY ah ah ah ?_;refine bo.ni 2 ah ah (by exact⟨_,_,rfl,⟨_,rfl,⟨_,_,rfl,⟨rfl,rfl⟩,⟨_,_,rfl,⟨rfl,rfl⟩,⟨_,_,rfl,⟨rfl,rfl⟩,⟨_,_,rfl,⟨rfl,rfl⟩,⟨_,_,rfl,⟨rfl,rfl⟩,⟨_,_,rfl,⟨rfl,rfl⟩,⟨_,_,rfl,⟨rfl,rfl⟩,⟨_,_,rfl,⟨rfl,rfl⟩,⟨_,_,rfl,Or.inr ⟨_,_,_,rfl⟩,rfl⟩⟩⟩⟩⟩⟩⟩⟩⟩⟩,rfl⟩) ?_;refine bo.mt ah ah ah ah ?_;exact bo.nil)) ?_;rintro⟨Z,pf⟩ ⟨hq1,hlen,hw⟩;dsimp only at hq1 hlen hw⊢;refine ay ?_;refine od (n:=1000465) (apT:=[.ptr 0 2 0 0,.str b9,.int .i64 ((0:Nat):Int),.bool false]) (ι:=Unit) (fun _=>True) (fun _=>.tup [CL (cj b9 0 false pf),.bool (cj b9 0 false pf).isSome]) 10 (fun _=>[(0,.buf 2 [Ld.D (r.to (eS b9 0 false pf))]),(1,.buf 9 [dy]),(2,.buf 9 [qa nm v ((.sl 3 (N.map bp.D))) ((.sl 3 (B.map fA.D))) (.own 3 2 0 (Z).length)]),(3,.buf 2 (Z.map b7.D))]) (fun _ _=>?_) (hc:=fun K' hK=>zl h9465 hp0 hq1 (w:=b9) (n:=0) (op:=false) aF aF ah (hK () trivial)) (hn:=aF);refine aA ?_;refine eZ _ ?_;refine c7 ?_;refine av (fun hc4=>?_) (fun hc4=>?_)
   .simp only[bd]at hc4;have hq:=j7 hc4;have hnr:eS b9 0 false pf=pf:=by simp only[eS,hq]
    rw[hnr];have hf2:dC pb=(Z,pf):=by rw[hw,GL hq,gX]
    refine ay ?_;have hbd:pO nm v q0=(⟨nm,v,N,B,Z⟩,pf):=by simp only[pO,hn2,tJ,hf2]
    rw[hbd];refine eI 3 (hn:=br (fun _=>rfl) _) (he:=by simp only[lf,iL,iV,lQ,nk,cJ,Nat.reduceEqDiff,aW,aX,cO,ct,cu,cT,cX,bR,bO,aL,bZ,aN,reduceCtorEq,aP,a8,Nat.reduceAdd,Nat.reduceLeDiff,Ld.D,dy,qa];exact rfl) (hm:=by simp only[lf,iL,iV,lQ,nk,cJ,Nat.reduceEqDiff,aW,aX,cO,ct,cu,cT,cX,bR,bO,aL,bZ,aN,reduceCtorEq,aP,a8,Nat.reduceAdd,Nat.reduceLeDiff,Ld.D,dy,qa];exact rfl) ?_;refine aA ?_;refine cA (d:=Rec.D ⟨nm,v,N,B,Z⟩) ?_;refine aI (Rec.D ⟨nm,v,N,B,Z⟩) (he:=aQ) ?_;refine ay ?_;refine iI trivial sj (bS ah (aH ?_ ?_)) ah ah ah;all_goals rfl
   simp only[bM]at hc4;obtain⟨⟨l,q2⟩,hq⟩:=j8 hc4;have hnr:eS b9 0 false pf=q2:=by simp only[eS,hq]
   obtain⟨hl,hlm,hq2,hqp⟩:=po hp0 hq1 hq;rw[hnr,hq];have hll2:=Sv hp0 hq1 hq;refine aE ?_;intro u0;refine ax ?_;refine cG (fun hc5=>?_) fun hc5=>?_
   .refine ax ?_;have hf2:dC pb=(Z,pf):=by rw[hw,ON hq ae,gX]
    obtain⟨t,hpt,_⟩:=dY hq;obtain⟨hab1,hab2⟩:=(hp0.to q2).1;refine ay ?_;refine aT (v:=.int .i64 ((r.to q2).at':Nat)) ?_;refine ay ?_;refine aI (Ld.D (r.to pf)) (he:=by rw[hpt];exact Ld.back (hpt▸hq1)) ?_;refine aB ?_;have hbd:pO nm v q0=(⟨nm,v,N,B,Z⟩,pf):=by simp only[pO,hn2,tJ,hf2]
    rw[hbd];refine eI 3 (hn:=br (fun _=>rfl) _) (he:=by simp only[lf,iL,iV,lQ,nk,cJ,Nat.reduceEqDiff,aW,aX,cO,ct,cu,cT,cX,bR,bO,aL,bZ,aN,reduceCtorEq,aP,a8,Nat.reduceAdd,Nat.reduceLeDiff,Ld.D,dy,qa];exact rfl) (hm:=by simp only[lf,iL,iV,lQ,nk,cJ,Nat.reduceEqDiff,aW,aX,cO,ct,cu,cT,cX,bR,bO,aL,bZ,aN,reduceCtorEq,aP,a8,Nat.reduceAdd,Nat.reduceLeDiff,Ld.D,dy,qa];exact rfl) ?_;refine aA ?_;refine cA (d:=Rec.D ⟨nm,v,N,B,Z⟩) ?_;refine aI (Rec.D ⟨nm,v,N,B,Z⟩) (he:=aQ) ?_;refine ay ?_;refine iI trivial sj (bS ah (aH ?_ ?_)) ah ah ah;all_goals rfl
   refine ax ?_;have h2l:2<=l.length:=ae;refine aA ?_;refine aT (v:=.own 3 2 0 Z.length) ?_;refine aA ?_;refine bI 1 (hb:=fun _=>ae) ?_;refine bE (v:=.str l[1]!) (hi:=fun _=>ae) ?_;refine aA ?_;refine sr 2 (hb:=fun _=>ae) ?_;refine aq (hc:=h469 (l.drop 2) (by rw[jY];omega)) ?_;refine bg (b7.D ⟨l[1]!,l.drop 2⟩) ?_;refine dh [b7.D ⟨l[1]!,l.drop 2⟩] ?_;refine gV (q:=b7.D) (xs:=Z) (e:=⟨l[1]!,l.drop 2⟩) ?_;refine aA ?_;refine aI (qa nm v (.sl 3 (N.map bp.D)) (.sl 3 (B.map fA.D)) (.own 32 2 0 (Z++[(⟨l[1]!,l.drop 2⟩:b7)]).length)) (he:=aQ) ?_;refine ay ?_;have hsl:=aL 0;exact⟨(Z++[⟨l[1]!,l.drop 2⟩],q2),⟨hq2,by simp only[bQ,aP,a8];omega,by rw[hw,Ju hq h2l];simp⟩,dF,(a7.to [(1,1),(2,2),(32,3)] ah ah ei (by refine bo.fY ah ah ah ?_;refine bo.fY ah ah ah ?_;refine bo.eq 2 ah ah ah ?_;refine bo.nl 32 ah ah rfl (by exact br (fun _=>rfl) _) ?_;exact bo.nil))⟩
  simp only[bM]at hc3;obtain⟨⟨l,q2⟩,hq⟩:=j8 hc3;have hnr:eS fG 3 true pb=q2:=by simp only[eS,hq]
  obtain⟨hl,hlm,hq2,hqp⟩:=po hp0 hq1 hq;rw[hnr,hq];obtain hl:l.length=3:=by rcases hl with h|h;cases h;exact h
  refine ay ?_;refine Tl (v:=.own 3 3 0 B.length) ?_;refine aA ?_;refine bI 1 (hb:=fun _=>ae) ?_;refine Tm (v:=.str l[1]!) (hi:=fun _=>ae) ?_;refine aA ?_;refine bI 2 (hb:=fun _=>ae) ?_;refine Tm (v:=.str l[2]!) (hi:=fun _=>ae) ?_;refine aA ?_;refine nV (hc:=F1 h468 hp0 hq2) ?_;refine bg (fA.D ⟨l[1]!,l[2]!,(cz q2).1⟩) ?_;refine dh [fA.D ⟨l[1]!,l[2]!,(cz q2).1⟩] ?_;refine gV (q:=fA.D) (xs:=B) (e:=⟨l[1]!,l[2]!,(cz q2).1⟩) ?_;refine aA ?_;refine aI (qa nm v (.sl 3 (N.map bp.D)) (.own 31 3 0 (B++[(⟨l[1]!,l[2]!,(cz q2).1⟩:fA)]).length) .bq) (he:=aQ) ?_;refine ay ?_;have hsl:=(kO q2).length_le;exact⟨(B++[⟨l[1]!,l[2]!,(cz q2).1⟩],(cz q2).2),⟨(kO q2).trans hq2,by simp only[bQ,aP,a8];omega,by rw[hw,ua hq];simp⟩,dF,(a7.to [(1,1),(2,2),(31,3)] ah ah ei (by refine bo.fY ah ah ah ?_;refine bo.fY ah ah ah ?_;refine bo.eq 2 ah ah ah ?_;refine bo.nl 31 ah ah rfl (by exact br (fun _=>rfl) _) ?_;exact bo.nil))⟩
 simp only[bM]at hc2;obtain⟨⟨l,q2⟩,hq⟩:=j8 hc2;have hnr:eS ek 1 false p=q2:=by simp only[eS,hq]
 obtain⟨hl,hlm,hq2,hqp⟩:=po hp0 hq1 hq;rw[hnr,hq];refine ay ?_;refine Tl (v:=.own 3 3 0 N.length) ?_;refine aA ?_;refine nV (hc:=VN h467 hp0 hq2) ?_;refine dh [bp.D (eR q2).1] ?_;refine gV (q:=bp.D) (xs:=N) (e:=(eR q2).1) ?_;refine aA ?_;refine aI (qa nm v (.own 24 3 0 (N++[(eR q2).1]).length) .bq .bq) (he:=aQ) ?_;refine ay ?_;have hsl:=(tl q2).length_le;exact⟨(N++[(eR q2).1],(eR q2).2),⟨(tl q2).trans hq2,by simp only[bQ,aP,a8];omega,by rw[hw,r7 hq];simp⟩,dF,(a7.to [(1,1),(2,2),(24,3)] ah ah ei (by refine bo.fY ah ah ah ?_;refine bo.fY ah ah ah ?_;refine bo.eq 2 ah ah ah ?_;refine bo.nl 24 ah ah rfl (by exact br (fun _=>rfl) _) ?_;exact bo.nil))⟩
noncomputable def G4:aC:=cR 122
def w533  (s:au)(b:Int)  (hp0:s.length<=1048576):di Y G4 (.sl 1 ((ai s b).map D.str)) [.str s,.int .u8 b]:=by
 show bK _ _ _ [⟨_,_⟩,⟨_,_⟩,_,_,_,_,_,_,_,_] _;refine ar ?_;refine gD ?_;intro u0;refine ax ?_;refine ba hm (ι:=(Nat×Nat×List au)) (fun p:Nat×Nat×List au=>[⟨true,.str s⟩,⟨true,.int .u8 b⟩,.un,⟨true,.int .i64 (p.1:Nat)⟩,⟨true,.int .i64 (s.length:Nat)⟩,.un,.un,.un,⟨true,.own 0 1 0 p.2.2.length⟩,⟨true,.int .i64 (p.2.1:Nat)⟩]) (fun p=>[(0,.buf 1 (p.2.2.map D.str))]) 6 (fun p=>p.1<=s.length/\p.2.1<=p.1/\p.2.2.length<=p.1/\ai s b=p.2.2++cE b (s.drop p.1) ((s.take p.1).drop p.2.1)) (fun p=>s.length-p.1) (0,0,[]) ⟨aJ,aJ,aJ,rfl⟩ (a7.to [] ah ah (by repeat(first|exact dr.nil|refine dr.un ?_|refine dr.eq ah ?_|refine dr.nl ah ah ?_|refine dr.ni (Or.inr ⟨0,1,0,rfl⟩) ?_)) (by repeat(first|exact bo.nil|refine bo.mt ah ah ah ah ?_))) ?_;rintro⟨i,fr,acc⟩ ⟨hi,hf,ha,hr⟩;dsimp only at hi hf ha hr⊢;refine ay ?_;refine cG (fun hc0=>?_) fun hc0=>?_
 .refine lX ?_;refine wp_cond (fun hc1=>?_) (fun hc1=>?_)
  .try simp only[dq]at hc1
   refine aE ?_;refine BH _ _ ?_;refine dh [(.str _)] ?_;refine sQ ?_;exact⟨(i+1,i+1,acc++[(s.take i).drop fr]),⟨dF,dF,cZ,by rw[hr,D6 ae hc1];simp⟩,dF,(a7.to [(20,0)] ah ah lP (by refine bo.nl 20 ah ah ah eL ?_;exact bo.nil))⟩
  simp only[bc]at hc1;refine aZ ?_;exact⟨(i+1,fr,acc),⟨dF,dF,dF,by rw[hr,D7 ae ae hc1]⟩,dF,(a7.to [(0,0)] ah ah lP (by refine bo.nl 0 ah ah ah eL ?_;exact bo.nil))⟩
 refine aD ?_;refine fB _ ?_;refine dh [(.str _)] ?_;refine ay ?_;refine eI 12 ?_;refine aA ?_;refine bG (?_);have hs:ai s b=acc++[s.drop fr]:=by rw[hr,B6 ae]
 rw[hs];exact rfl
noncomputable def yU:aC:=cR 165
def w659  (t:au)   :di Y yU (.bool (dd t)) [.str t]:=by
 show bK _ _ _ [⟨_,_⟩,_,_,_,_,_,_] _;refine ar ?_;refine aD ?_;intro u0;refine ax ?_;refine ba hm (ι:=Nat) (fun i=>[⟨true,.str t⟩,.un,⟨true,.int .i64 (i:Nat)⟩,⟨true,.int .i64 (t.length:Nat)⟩,.un,.un,.un]) (fun i=>[]) 4 (fun i=>i<=t.length/\cS (fun i=>bn (at8 t i)) 0 t.length=cS (fun i=>bn (at8 t i)) i t.length) (fun i=>t.length-i) 0 ⟨ae,rfl⟩ (du []) ?_;rintro i ⟨hi,hr⟩;refine ay ?_;refine cG (fun hc0=>?_) fun hc0=>?_
 .refine Xt ?_;refine fO (fun hc1=>?_) fun hc1=>?_
  .refine aD ?_;refine bV ?_;simp only[dd];rw[hr,aU ae];rcases hc1 with h|h<;>simp[bn]<;>omega
  refine aZ ?_;exact⟨i+1,⟨ae,by rw[hr,aU ae];rw[show bn (at8 t i)=true by simp only[bn,bC,aK];omega];rfl⟩,ae,(du [])⟩
 refine bN ?_;refine bV ?_;simp only[dd];rw[hr,cn ae];cases t<;>simp
noncomputable def FY:aC:=cR 133
def w440 {Y:Ctx}(hm:(Y.at 0).b8)  (n:Int)   :di Y FY (.bool (qz n)) [.int .i64 n]:=by
 show bK _ _ _ [⟨_,_⟩,_] _;refine ar ?_;refine gD ?_;exact bV rfl
noncomputable def Cf:aC:=cR 161
def w675  (s:au)(b:Int)   :di Y Cf (.tup [.str (aG s b).1,.str (aG s b).2]) [.str s,.int .u8 b]:=by
 show bK _ _ _ [⟨_,_⟩,⟨_,_⟩,_,_,_,_,_,_,_] _;refine ar ?_;refine aZ ?_;intro u0;refine ax ?_;refine ba hm (ι:=Nat) (fun i=>[⟨true,.str s⟩,⟨true,.int .u8 b⟩,.un,.un,⟨true,.int .i64 (i:Nat)⟩,⟨true,.int .i64 (s.length:Nat)⟩,.un,.un,.un]) (fun i=>[]) 5 (fun i=>i<=s.length/\aG s b=iz s b i) (fun i=>s.length-i) 0 ⟨ae,rfl⟩ (du []) ?_;rintro i ⟨hi,hr⟩;refine ay ?_;refine cG (fun hc0=>?_) fun hc0=>?_
 .refine lX ?_;refine fO (fun hc1=>?_) fun hc1=>?_
  .refine aB ?_;refine fB (i+1) ?_;refine ax ?_;refine lu _ ?_;refine aD ?_;refine bG (aH (aj D.str ?_) (aj D.str ?_));all_goals rw[hr,Aw ae hc1]
  refine aZ ?_;exact⟨i+1,⟨ae,by rw[hr,Ax ae hc1]⟩,ae,(du [])⟩
 refine bN ?_;refine bG (aH (aj D.str ?_) (aj D.str ?_));all_goals rw[hr,xY ae]
noncomputable def FZ:aC:=cR 135
def w442 (h533:N8 Y)(s:au)  (hp0:s.length<=1048576):di Y FZ (.bool (px s false)) [.str s]:=by
 show bK _ _ _ [⟨_,_⟩,_,_,_,_,_,_,_,_,_,_,_,_,_,_] _;refine ar ?_;refine aB ?_;refine aq (hc:=h533 _ _ ?_) ?_;rotate_left;first|assumption|omega;have hlen:=dm s 46
 refine aE ?_;intro u0;refine bN ?_;intro u1;refine ax ?_;refine ba hm (ι:=Nat) (fun i=>[.un,.un,⟨true,.sl 1 ((ai s 46).map D.str)⟩,⟨true,.int .i64 (i:Nat)⟩,⟨true,.int .i64 ((ai s 46).length:Nat)⟩,.un,⟨true,.sl 1 ((ai s 46).map D.str)⟩,.un,.un,.un,.un,.un,.un,.un,⟨true,.bool (decide (((ai s 46).length:Int)<=4))⟩]) (fun i=>[]) 11 (fun i=>i<=(ai s 46).length/\px s false=(decide ((ai s 46).length<=4)&&cS (fun i=>iT false (ai s 46)[i]!) i (ai s 46).length)) (fun i=>(ai s 46).length-i) 0 ⟨ae,rfl⟩ (du []) ?_;rintro i ⟨hi,hr⟩;refine ay ?_;refine cG (fun hc0=>?_) fun hc0=>?_
 .refine c7 ?_;generalize ht:(ai s 46)[i]! =t;refine aB ?_;refine iy ?_;refine ay ?_;refine cG (fun hc1=>?_) fun hc1=>?_
  .refine gD ?_;refine bV ?_;first
    |(rw[hr,cn ae,nE];exact gY.2 ae)
    |(have hb:sJ t=false:=by
       first
       |(simp only[sJ];rcases hc1 with h|h
         .subst h;simp
         .rw[cI (by omega:¬t.length<=8)];simp)
       |(have hz:nX (at8 t j)=false:=by
          rcases hcw with⟨_,h,_⟩|⟨_,h⟩<;>(simp only[nX,iG,bn,de,dz,bc];omega)
         rw[hj,aU hnx,hz];rfl)
      rw[hr,aU ae,show iT false (ai s 46)[i]! =false from(by simp only[iT,ht,hb,Bool.false_and])];simp)
  refine aE ?_;have hT:sJ t=cS (fun i=>nX (at8 t i)) 0 t.length:=by
   have:=List.length_pos_iff.2 hc1.1;simp only[sJ];rw[ca ae,ca ae];rfl
  refine qU hm (ι:=Nat) (fun j=>[.un,.un,⟨true,.sl 1 ((ai s 46).map D.str)⟩,⟨true,.int .i64 (i:Nat)⟩,⟨true,.int .i64 ((ai s 46).length:Nat)⟩,.un,⟨true,.sl 1 ((ai s 46).map D.str)⟩,.un,.un,⟨true,.it 23⟩,.un,.un,.un,.un,⟨true,.bool (decide (((ai s 46).length:Int)<=4))⟩]) (fun j=>[(23,.iter t j)]) 24 (fun j=>j<=t.length/\sJ t=cS (fun i=>nX (at8 t i)) j t.length) (fun j=>t.length-j) 0 ⟨ae,hT⟩ (du [(23,23)]) ?_;rintro j ⟨hj0,hj⟩;refine aA ?_;by_cases hnx:j<t.length
  .obtain⟨c,w,hdec,hw,hcw⟩:=vE t j hnx;refine Ft c w (hp:=hnx) (hc:=hdec) ?_;refine ax ?_;refine av (t:=true) (fun _=>?_) (fun h=>by cases h);refine zzz26 ?_;refine fO (fun hc3=>?_) fun hc3=>?_
   .refine lX ?_;refine bV ?_;first
     |(rw[hr,cn ae,nE];exact gY.2 ae)
     |(have hb:sJ t=false:=by
        first
        |(simp only[sJ];rcases hc1 with h|h
          .subst h;simp
          .rw[cI (by omega:¬t.length<=8)];simp)
        |(have hz:nX (at8 t j)=false:=by
           rcases hcw with⟨_,h,_⟩|⟨_,h⟩<;>(simp only[nX,iG,bn,de,dz,bc];omega)
          rw[hj,aU hnx,hz];rfl)
       rw[hr,aU ae,show iT false (ai s 46)[i]! =false from(by simp only[iT,ht,hb,Bool.false_and])];simp)
   refine ay ?_;obtain⟨rfl,hat,-⟩:w=1/\(c:Int)=at8 t j/\c<128:=by
    rcases hcw with h|h
    .exact h
    .omega
   have hz:nX (at8 t j)=true:=by
    simp only[nX,iG,bn,cN,bC,aK];omega
   exact⟨j+1,⟨ae,by rw[hj,aU hnx,hz];rfl⟩,ae,(du [(23,23)])⟩
  .refine Fs (hp:=hnx) ?_;refine ax ?_;refine av (t:=false) (fun h=>by cases h) (fun _=>?_);refine bN ?_;exact⟨i+1,⟨ae,by rw[hr,aU ae];rw[show iT false (ai s 46)[i]! =true from(by simp only[iT,Bool.false_and,Bool.not_false,nE];rw[ht,hj,cn ae])];rfl⟩,ae,(du [])⟩
 refine aZ ?_;refine bV ?_;first
  |(rw[hr,cn ae,nE];exact gY.2 ae)
  |(have hb:sJ t=false:=by
     first
     |(simp only[sJ];rcases hc1 with h|h
       .subst h;simp
       .rw[cI (by omega:¬t.length<=8)];simp)
     |(have hz:nX (at8 t j)=false:=by
        rcases hcw with⟨_,h,_⟩|⟨_,h⟩<;>(simp only[nX,iG,bn,de,dz,bc];omega)
       rw[hj,aU hnx,hz];rfl)
    rw[hr,aU ae,show iT false (ai s 46)[i]! =false from(by simp only[iT,ht,hb,Bool.false_and])];simp)
noncomputable def uZ:aC:=cR 64
def w239 {Y:Ctx}(hm:(Y.at 0).b8)(h331:C331 Y)(s:au)  (hp0:s.length<=1048576):di Y uZ (.sl 1 ((jL s).map D.str)) [.str s,.str [10]]:=by
 show bK _ _ _ [⟨_,_⟩,⟨_,_⟩,_] _;refine ar ?_;refine aZ ?_;intro u0;refine aq (hc:=h331 s hp0) ?_;refine ay ?_;refine bG (?_);rfl
noncomputable def G8:aC:=cR 28
def w252 {Y:Ctx}(hm:(Y.at 0).b8)(h239:C239 Y)(s:au)  (hp0:s.length<=1048576):di Y G8 (.sl 1 ((cD s).map D.str)) [.str s]:=by
 show bK _ _ _ [⟨_,_⟩,_,_,_] _;have hpl:=SZ s;have hpz:cD s=if(jL s)[(jL s).length-1]! =[]then(jL s).take ((jL s).length-1)else jL s:=S0 s
 refine ar ?_;refine aB ?_;refine aq (hc:=h239 s hp0) ?_;refine aZ ?_;intro u0;refine aA ?_;refine bI ((jL s).length-1) ?_;refine bE (v:=.str (jL s)[(jL s).length-1]!) ?_;refine ax ?_;refine cG (fun hc0=>?_) fun hc0=>?_
 .refine aB ?_;intro u1;refine aA ?_;refine oJ ((jL s).length-1) ?_;refine aZ ?_;refine bG (?_);rw[hpz,aw hc0];rfl
 refine aD ?_;refine bG (?_);rw[hpz,ak hc0];rfl
noncomputable def G9:aC:=cR 29
def w253 {Y:Ctx}(hm:(Y.at 0).b8)(h244:C244 Y)(s:au)  (hp0:s.length<=1048576):di Y G9 (.tup [.str (bW s).1,.bool (bW s).2]) [.str s]:=by
 show bK _ _ _ [⟨_,_⟩,_,_] _;refine ar ?_;refine aE ?_;refine aq (hc:=h244 s hp0) ?_;refine aD ?_;refine bG (aH (aj D.str ?_) (aj D.bool ?_));all_goals rfl
noncomputable def index_first:aC:=cR 33
def w256 {Y:Ctx}(hm:(Y.at 0).b8)(h253:Uw Y)(h487:XX Y)(s:au)  (hp0:s.length<=1048576):di Y index_first (.bool (wN s)) [.str s]:=by
 show bK _ _ _ [⟨_,_⟩,_,_] _;refine ar ?_;refine aB ?_;refine aq (hc:=h253 s hp0) ?_;refine aZ ?_;have hwl:=qT s;refine aA ?_;refine aq (hc:=h487 (bW s).1 32 ae) ?_;refine gD ?_;exact bV rfl
noncomputable def G7:aC:=cR 32
def w255 {Y:Ctx}(hm:(Y.at 0).b8)(h124:N4 Y)(h253:Uw Y)(h499:C499 Y)(s:au)  (hp0:s.length<=1048576):di Y G7 (.tup [.int .u64 (iN s).1,.bool (iN s).2.1,.bool (iN s).2.2]) [.str s]:=by
 show bK _ _ _ [⟨_,_⟩,_,_,_,_,_,_,_,_] _;refine ar ?_;refine aD ?_;refine aq (hc:=h253 s hp0) ?_;refine aZ ?_;have hwl:=qT s;refine aA ?_;refine aq (v:=.sl 1 ((ai (bW s).1 32).map D.str)) (hc:=h124 (bW s).1 32 ae) ?_;refine bN ?_;refine iy ?_;refine aB ?_;refine bI 0 (hb:=fun hf=>by simp at hf;omega) ?_;refine bE (v:=.str (ai (bW s).1 32)[0]!) (hi:=fun hf=>by simp at hf;omega) ?_;refine aB ?_;refine bI 2 (hb:=fun hf=>by simp at hf;omega) ?_;refine bE (v:=.str (ai (bW s).1 32)[2]!) (hi:=fun hf=>by simp at hf;omega) ?_;refine ay ?_;refine bI 2 (hb:=fun hf=>by simp at hf;omega) ?_;refine bE (v:=.str (ai (bW s).1 32)[2]!) (hi:=fun hf=>by simp at hf;omega) ?_;refine aB ?_;refine av (fun hc0=>?_) (fun hc0=>?_)
 .simp only[dq]at hc0;have hz:=YW hc0;refine aZ ?_;refine bG (dj (aj (D.int .u64) ?_) (aj D.bool ?_) (aj D.bool ?_));all_goals
   rw[iN,ak hz];first|done|rfl
 simp only[dq]at hc0;obtain⟨hz,hl3⟩:=U6 hc0;refine ay ?_;refine bI 1 (hb:=fun _=>ae) ?_;refine bE (v:=.str (ai (bW s).1 32)[1]!) (hi:=fun _=>ae) ?_;refine aq (hc:=h499 (ai (bW s).1 32)[1]!) ?_;refine c7 ?_;refine bI 2 (hb:=fun _=>ae) ?_;refine bE (v:=.str (ai (bW s).1 32)[2]!) (hi:=fun _=>ae) ?_;refine aZ ?_;refine bG (dj (aj (D.int .u64) ?_) (aj D.bool ?_) (aj D.bool ?_));all_goals
  rw[iN,aw hz];first|done|rfl
noncomputable def JG:aC:=cR 36
def w257 (h74:C74 Y)(h295:XJ Y)(s:fR)(r:Rec)(n:Int)  (hp0:fC r/\∀x∈s.es,x.r.v.sm):di Y JG (.int .i64 (jg s.es r n)) [fR.D s,Rec.D r,.int .u64 n]:=by
 show bK _ _ _ [⟨_,_⟩,⟨_,_⟩,⟨_,_⟩,_,_,_,_,_,_,_,_,_,_,_,_] _;refine ar ?_;refine aD ?_;refine cA (d:=Rec.D r) ?_;refine aq (hc:=h74 r hp0.1) ?_;refine gD ?_;refine av (fun hc0=>?_) (fun hc0=>?_)
 .simp only[bd,bc]at hc0;refine aE ?_;refine cY ?_;unfold jg;rw[aw hc0]
 simp only[bM,aK]at hc0;refine aB ?_;refine aT (v:=.sl 11 (s.es.map cx.D)) ?_;refine aA ?_;intro u0;refine ax ?_;refine ba hm (ι:=Nat) (fun i=>[.un,.un,.un,.un,⟨true,.ptr 1 9 0 0⟩,.un,.un,⟨true,.ptr 0 2 0 0⟩,⟨true,.int .i64 (i:Nat)⟩,⟨true,.int .i64 (s.es.length:Nat)⟩,.un,⟨true,.sl 11 (s.es.map cx.D)⟩,.un,.un,.un]) (fun i=>[(0,.buf 2 [fR.D s]),(1,.buf 9 [Rec.D r])]) 17 (fun i=>i<=s.es.length/\qR s.es r=(s.es.drop i).any (Uu r)) (fun i=>s.es.length-i) 0 ⟨ae,rfl⟩ (du [(0,0),(1,1)]) ?_;rintro i ⟨hi,hr⟩;refine ay ?_;refine cG (fun hc1=>?_) fun hc1=>?_
 .refine ay ?_;refine bI i ?_;refine bE (v:=cx.D s.es[i]!) ?_;refine aA ?_;refine aI (cx.D s.es[i]!) (he:=aQ) ?_;refine aB ?_;refine aT (v:=.str s.es[i]!.r.name) ?_;refine aA ?_;refine aT (v:=.str r.name) ?_;refine aB ?_;refine aT (v:=cq.D s.es[i]!.r.v) ?_;refine aA ?_;refine aT (v:=cq.D r.v) ?_;refine c9 (hc:=fun hf=>h295 s.es[i]!.r.v r.v ⟨hp0.2 _ (bF ae),hp0.1.1.2⟩) ?_;refine ay ?_;refine wp_cond (fun hc2=>?_) (fun hc2=>?_)
  .have htw:Uu r s.es[i]! =true:=by unfold Uu;simpa using hc2
   refine aD ?_;refine cY ?_;have htz:qR s.es r=true:=by rw[hr,vv ae htw]
   unfold jg;rw[ak (fun h=>h hc0),aw htz]
  have htw:Uu r s.es[i]! =false:=by unfold Uu;simpa using hc2
  refine aZ ?_;exact⟨i+1,⟨ae,by rw[hr,Ap ae htw]⟩,ae,(du [(0,0),(1,1)])⟩
 refine aB ?_;have htz:qR s.es r=false:=by rw[hr,vu ae]
 refine aA ?_;refine aT (v:=.sl 11 (s.es.map cx.D)) ?_;refine aA ?_;intro u1;refine ax ?_;refine cG (fun hc3=>?_) fun hc3=>?_
 .refine aE ?_;refine cY ?_;unfold jg;rw[ak (fun h=>h hc0),ak (by simp[htz]),aw ae]
 refine aE ?_;refine cY ?_;unfold jg;rw[ak (fun h=>h hc0),ak (by simp[htz]),ak ae]
noncomputable def HR:aC:=cR 191
def w671 (h672:Yb Y)(h815:Yg Y)(h816:C816 Y)(l:List b7)(of:List au)  (hp0:∀t∈of,t.length<=1048576):di Y HR (.bool (mg l of)) [.sl 2 (l.map b7.D),.sl 1 (of.map D.str)]:=by
 show bK _ _ _ [⟨_,_⟩,⟨_,_⟩,_,_,_,_,_,_,_] _;refine ar ?_;refine aD ?_;intro u0;refine ay ?_;refine aq (hc:=h815 _) ?_;refine ay ?_;refine av (fun hc0=>?_) (fun hc0=>?_)
 .simp only[cN,aK,bd]at hc0;refine aE ?_;refine bV ?_;symm;simp only[mg];rcases hc0 with h|h
  .rw[cI ae];rfl
  .rw[h,Bool.and_false];rfl
 simp only[de,bc,bM]at hc0;refine aE ?_;have hb:mg l of=cS (fun i=>jb l of[i]!) 0 of.length:=by simp only[mg,hc0.2];rw[ca ae];rfl
 refine ba hm (ι:=Nat) (fun i=>[⟨true,.sl 2 (l.map b7.D)⟩,⟨true,.sl 1 (of.map D.str)⟩,.un,.un,⟨true,.int .i64 (i:Nat)⟩,.un,.un,.un,.un]) (fun i=>[]) 10 (fun i=>i<=of.length/\mg l of=cS (fun i=>jb l of[i]!) i of.length) (fun i=>of.length-i) 0 ⟨ae,hb⟩ (du []) ?_;rintro i ⟨hi,hr⟩;refine aE ?_;intro u1;refine ax ?_;refine cG (fun hc1=>?_) fun hc1=>?_
 .refine aZ ?_;refine aq (hc:=h672 of[i]! (hp0 _ (bF ae))) ?_;refine Cq ?_;refine aq (hc:=h816 _ _) ?_;refine aB ?_;refine wp_cond (fun hc2=>?_) (fun hc2=>?_)
  .have hz:jb l of[i]! =false:=by simp only[jb,hc2];rfl
   refine aD ?_;refine bV ?_;rw[hr,aU ae,hz];rfl
  have hz:jb l of[i]! =true:=by simp only[jb,hc2];rfl
  refine bN ?_;exact⟨i+1,⟨ae,by rw[hr,aU ae,hz];rfl⟩,ae,(du [])⟩
 refine aD ?_;refine bV ?_;rw[hr,cn ae]
noncomputable def PQ:aC:=cR 151
def w459 (h357:Jd Y)(h671:C671 Y)(l:List b7)  (hp0:zd l):di Y PQ (.bool (iE l)) [.sl 2 (l.map b7.D)]:=by
 show bK _ _ _ [⟨_,_⟩,_,_,_,_,_] _;refine ar ?_;refine aD ?_;intro u0;refine ax ?_;refine cG (fun hc0=>?_) fun hc0=>?_
 .refine aE ?_;refine bV ?_;symm;simp only[iE];rw[cI ae];rfl
 refine aE ?_;have hb:iE l=cS (jT l) 0 l.length:=by simp only[iE];rw[ca ae];rfl
 refine ba hm (ι:=Nat) (fun i=>[⟨true,.sl 2 (l.map b7.D)⟩,.un,.un,⟨true,.int .i64 (i:Nat)⟩,.un,.un]) (fun i=>[]) 5 (fun i=>i<=l.length/\iE l=cS (jT l) i l.length) (fun i=>l.length-i) 0 ⟨ae,hb⟩ (du []) ?_;rintro i ⟨hi,hr⟩;refine aE ?_;intro u1;refine ax ?_;refine cG (fun hc1=>?_) fun hc1=>?_
 .refine bN ?_;refine aq (hc:=h357 _) ?_;refine bN ?_;refine bI (i-1) ?_;refine Cq ?_;refine aq (hc:=h671 l l[i]!.of (hp0 _ (bF ae)).2.2) ?_;refine ay ?_;refine fO (fun hc2=>?_) fun hc2=>?_
  .refine aD ?_;refine bV ?_;have hz:jT l i=false:=by
    simp only[jT];revert hc2;generalize cW l[i]!.name=z0;generalize Op.bytesLess l[i-1]!.name l[i]!.name=z1;generalize mg l l[i]!.of=z2;by_cases e0:0<i<;>cases z0<;>cases z1<;>cases z2<;>simp_all
   rw[hr,aU ae,hz];rfl
  refine bN ?_;have hz:jT l i=true:=by
   simp only[jT];revert hc2;generalize cW l[i]!.name=z0;generalize Op.bytesLess l[i-1]!.name l[i]!.name=z1;generalize mg l l[i]!.of=z2;by_cases e0:0<i<;>cases z0<;>cases z1<;>cases z2<;>simp_all
  exact⟨i+1,⟨ae,by rw[hr,aU ae,hz];rfl⟩,ae,(du [])⟩
 refine aD ?_;refine bV ?_;rw[hr,cn ae]
noncomputable def ET:aC:=cR 142
def w448 {Y:Ctx}(hm:(Y.at 0).b8)(h208:N5 Y)(h254:XH Y)(h349:Jc Y)(h487:XX Y)(s:au)  (hp0:s.length<=1048576):di Y ET (.tup [.int .i64 (dK s).1,.str (dK s).2.1,.str (dK s).2.2]) [.str s]:=by
 show bK _ _ _ [⟨_,_⟩,_,_,_,_,_,_,_,_,_,_,_] _;refine ar ?_;refine aZ ?_;refine aq (hc:=h349 _) ?_;refine aA ?_;refine cG (fun hc0=>?_) fun hc0=>?_
 .refine bN ?_;refine bG (dj (aj (D.int .i64) ?_) (aj D.str ?_) (aj D.str ?_));all_goals rw[Lz hc0]
 refine aB ?_;refine aq (hc:=h254 s [63] hp0 aF) ?_;refine fK ?_;refine aq (hc:=h349 _) ?_;refine ax ?_;refine cG (fun hc1=>?_) fun hc1=>?_
 .refine bN ?_;refine bG (dj (aj (D.int .i64) ?_) (aj D.str ?_) (aj D.str ?_));all_goals rw[VD hc0 hc1]
 refine aB ?_;refine aq (hc:=h487 s 47 hp0) ?_;refine lX ?_;refine aq (hc:=h208 _) ?_;refine ay ?_;refine aq (hc:=h349 _) ?_;refine ax ?_;refine cG (fun hc2=>?_) fun hc2=>?_
 .refine c7 ?_;refine bG (dj (aj (D.int .i64) ?_) (aj D.str ?_) (aj D.str ?_));all_goals rw[VE hc0 hc1 hc2]
 refine aZ ?_;refine bG (dj (aj (D.int .i64) ?_) (aj D.str ?_) (aj D.str ?_));all_goals rw[VC hc0 hc1 hc2]
noncomputable def lB:aC:=cR 267
def w1033 {Y:Ctx}(hm:(Y.at 2).b8)(s:au)(W:List au)(w:List au)(nd:List Nd)(b:Bool)  (hp0:w<:+W/\W.length<=1000):bK (Y.at 2) lB.body (j5 lB (K3 4 (jn W) nd (fun o=>o=⟨0,pk w s,nd,b⟩) (fun _=>.bool (gZ w s))):Ex->List ch->St->Prop) (fF lB [.ptr 0 4 0 0,.str s]) ⟨2,[(0,.buf 4 [jn W w (.own 1 5 0 nd.length) b]),(1,.buf 5 (nd.map Nd.D))]⟩:=by
 show bK _ _ _ [⟨true,.ptr 0 4 0 0⟩,⟨true,.str s⟩,.un,.un] ⟨2,[(0,.buf 4 [jn W w (.own 1 5 0 nd.length) b]),(1,.buf 5 (nd.map Nd.D))]⟩;refine ar ?_;refine gD ?_;refine iy ?_;refine fU ?_;refine bI (W.length-w.length) (hb:=fun h=>by simp only[gH,beq_iff_eq,aK]at h;omega) ?_;refine aE ?_;refine av (fun hc0=>?_) (fun hc0=>?_)
 .have hh:gZ w s=true:=(LY hp0.1 s).symm.trans hc0;obtain⟨r,rfl⟩:=oc hh;refine c7 ?_;refine aI (jn W r (.own 1 5 0 nd.length) b) (he:=Me hp0.1.length_le) ?_;refine aD ?_;refine bP trivial eh (bS ah (aj D.bool ?_)) ah ⟨⟨0,pk (s::r) s,nd,b⟩,rfl,rfl,by rw[mr];rfl,rfl⟩;exact(uJ s r).symm
 have hh:gZ w s=false:=(LY hp0.1 s).symm.trans hc0;refine aE ?_;refine bP trivial eh (bS ah (aj D.bool ?_)) ah ⟨⟨0,pk w s,nd,b⟩,rfl,rfl,by rw[p9 hh];rfl,rfl⟩;exact hh.symm
noncomputable def lC:aC:=cR 291
def w1141 {Y:Ctx}(hm:(Y.at 2).b8)(W:List au)(w:List au)(nd:List Nd)(b:Bool)  (hp0:w<:+W/\W.length<=1000):bK (Y.at 2) lC.body (j5 lC (K3 4 (jn W) nd (fun o=>o=⟨0,w.drop 1,nd,rB w b⟩) (fun _=>.str (bA w))):Ex->List ch->St->Prop) (fF lC [.ptr 0 4 0 0]) ⟨2,[(0,.buf 4 [jn W w (.own 1 5 0 nd.length) b]),(1,.buf 5 (nd.map Nd.D))]⟩:=by
 show bK _ _ _ [⟨true,.ptr 0 4 0 0⟩,.un,.un] ⟨2,[(0,.buf 4 [jn W w (.own 1 5 0 nd.length) b]),(1,.buf 5 (nd.map Nd.D))]⟩;refine ar ?_;refine gD ?_;refine iy ?_;refine ax ?_;refine av (fun hc0=>?_) (fun hc0=>?_)
 .simp only[aK]at hc0;have hle:=hp0.1.length_le;obtain rfl:w=[]:=qV.1 ae;refine aE ?_;refine aI (jn W [] (.own 1 5 0 nd.length) true) (he:=aQ) ?_;refine aD ?_;refine bP trivial eh (bS ah (aj D.str ?_)) ah ⟨⟨0,([]:List au).drop 1,nd,rB [] b⟩,rfl,rfl,rfl,rfl⟩;rfl
 simp only[bc]at hc0;have hle:=hp0.1.length_le;obtain⟨x,r,rfl⟩:∃x r,w=x::r:=by
  cases w with
  |nil=>exact absurd aJ hc0
  |cons x r=>exact⟨x,r,rfl⟩
 refine c7 ?_;refine aI (jn W r (.own 1 5 0 nd.length) b) (he:=Me hle) ?_;refine fK ?_;refine bI (W.length-(x::r).length) (hj:=fun _=>by simp only[aP]at hle⊢;omega) (hb:=fun _=>by simp only[aP]at hle⊢;omega) ?_;refine aB ?_;refine bP trivial eh (bS ah (aj D.str ?_)) ah ⟨⟨0,(x::r).drop 1,nd,rB (x::r) b⟩,rfl,rfl,rfl,rfl⟩;exact(Mn hp0.1 aJ).2
noncomputable def mC:aC:=cR 268
def w1034 {Y:Ctx}(hm:(Y.at 2).b8)(x:Nd)(W:List au)(w:List au)(nd:List Nd)(b:Bool)  (hp0:nd.length<=2000):bK (Y.at 2) mC.body (j5 mC (yE 4 (jn W) (fun o=>o=⟨(nd.length:Nat),w,nd++[x],b⟩) Va):Ex->List ch->St->Prop) (fF mC [.ptr 0 4 0 0,Nd.D x]) ⟨2,[(0,.buf 4 [jn W w (.own 1 5 0 nd.length) b]),(1,.buf 5 (nd.map Nd.D))]⟩:=by
 show bK _ _ _ [⟨true,.ptr 0 4 0 0⟩,⟨true,Nd.D x⟩,.un,.un] ⟨2,[(0,.buf 4 [jn W w (.own 1 5 0 nd.length) b]),(1,.buf 5 (nd.map Nd.D))]⟩;refine ar ?_;refine bN ?_;refine aT (v:=.own 1 5 0 nd.length) ?_;refine cA (d:=Nd.D x) ?_;refine dh [Nd.D x] ?_;refine gV (q:=Nd.D) (xs:=nd) (e:=x) ?_;refine ax ?_;refine aI (jn W w (.own 11 5 0 (nd++[x]).length) b) (he:=aQ) ?_;refine aE ?_;refine aT (v:=.own 11 5 0 (nd++[x]).length) ?_;refine aA ?_;intro u0;refine aB ?_;refine bP trivial eh (bS ah (aj (D.int .i64) ?_)) ah ⟨⟨(nd.length:Nat),w,nd++[x],b⟩,11,aF,rfl,rfl,rfl,rfl⟩;simp
noncomputable def TE:aC:=cR 272
def w1007  (s:au)   :di Y TE (.tup [.str (iP s 0).1,.str (iP s 0).2]) [.str s]:=by
 show bK _ _ _ [⟨_,_⟩,_,_,_,_,_] _;refine ar ?_;refine aZ ?_;refine ba hm (ι:=Nat) (fun i=>[⟨true,.str s⟩,.un,.un,⟨true,.int .i64 (i:Nat)⟩,.un,.un]) (fun i=>[]) 3 (fun i=>i<=s.length/\iP s 0=iP s i) (fun i=>s.length-i) 0 ⟨ae,rfl⟩ (du []) ?_;rintro i ⟨hi,hr⟩;refine aE ?_;intro u0;refine ax ?_;refine cG (fun hc0=>?_) fun hc0=>?_
 .refine bN ?_;refine fO (fun hc1=>?_) fun hc1=>?_
  .refine ay ?_;refine lu _ ?_;refine ay ?_;refine fB (i+1) ?_;refine aD ?_;refine bG (aH (aj D.str ?_) (aj D.str ?_));all_goals rw[hr,L7 ae hc1]
  refine bN ?_;exact⟨i+1,⟨ae,by rw[hr,L8 ae hc1]⟩,ae,(du [])⟩
 refine bN ?_;refine bG (aH (aj D.str ?_) (aj D.str ?_));all_goals rw[hr,HC ae]
noncomputable def Kx:aC:=cR 271
def w1006 (h678:Ye Y)(h1079:WG Y)(s:au)   :di Y Kx (.tup [.int .i64 (ie s).1,.str (ie s).2]) [.str s]:=by
 show bK _ _ _ [⟨_,_⟩,_,_,_,_,_,_,_,_] _;refine ar ?_;refine aB ?_;refine dh [(.int _ _),(.int _ _),(.int _ _),(.int _ _),(.int _ _),(.int _ _),(.int _ _),(.int _ _)] ?_;refine aD ?_;refine eI 2 ?_;refine ba hm (ι:=Nat) (fun i=>[⟨true,.str s⟩,.un,.un,⟨true,.int .i64 (i:Nat)⟩,⟨true,.sl 1 (opsL.map (D.int .i64))⟩,.un,.un,.un,.un]) (fun i=>[]) 5 (fun i=>i<=8/\qK s 0=qK s i) (fun i=>8-i) 0 ⟨ae,rfl⟩ (du []) ?_;rintro i ⟨hi,hr⟩;have hn8:opsL.length=8:=rfl;refine aE ?_;intro u0;refine ax ?_;refine cG (fun hc0=>?_) fun hc0=>?_
 .refine aZ ?_;refine aq (hc:=h678 _) ?_;refine aE ?_;refine aq (hc:=h1079 _ _) ?_;refine aA ?_;refine wp_cond (fun hc1=>?_) (fun hc1=>?_)
  .have hbl:(dQ opsL[i]!).length<=s.length:=by simp only[uc,bC,aK]at hc1;exact hc1.1
   refine aZ ?_;refine iy ?_;refine fB (dQ opsL[i]!).length (hb:=fun _=>hbl) ?_;refine aD ?_;refine bG (aH (aj (D.int .i64) ?_) (aj D.str ?_));all_goals simp only[ie,hr,L2 (show i<8 by omega) hc1]
  skip
  refine bN ?_;exact⟨i+1,⟨ae,by rw[hr,L3 ae hc1]⟩,ae,(du [])⟩
 refine aD ?_;intro u1;refine aB ?_;refine iy ?_;refine aA ?_;refine qe (s.length-1) ?_;refine ay ?_;refine cG (fun hc2=>?_) fun hc2=>?_
 .refine aZ ?_;refine bG (aH (aj (D.int .i64) ?_) (aj D.str ?_));all_goals (have ho:qK s 0=none:=(by rw[hr,Bq ae]);simp only[ie,ho,aw (show 0<s.length/\at8 s (s.length-1)=42 from⟨ae,hc2.2⟩)])
 refine aZ ?_;refine bG (aH (aj (D.int .i64) ?_) (aj D.str ?_));all_goals (have ho:qK s 0=none:=(by rw[hr,Bq ae]);have hn:¬(0<s.length/\at8 s (s.length-1)=42):=(by rintro⟨h1,h2⟩;rcases hc2 with h|h;exact h ae;exact h h2);simp only[ie,ho,ak hn])
noncomputable def HV:aC:=cR 26
def w73 {Y:Ctx}(hm:(Y.at 0).b8)(h71:C71 Y)(h219:XA Y)(r:Rec)  (hp0:fC r):di Y HV (.tup [.str (dw r).1,.int .i64 (dw r).2]) [Rec.D r]:=by
 show bK _ _ _ [⟨_,_⟩,_,_,_,_,_] _;refine ar ?_;refine aZ ?_;refine aq (hc:=h71 r hp0) ?_;refine fK ?_;refine cG (fun hc0=>?_) fun hc0=>?_
 .refine aZ ?_;refine bG (aH (aj D.str ?_) (aj (D.int .i64) ?_));all_goals
   simp[dw,hc0]
 refine ax ?_;have hgd:=pe hc0;refine aA ?_;refine aq (hc:=h219 r ⟨hgd,hp0⟩) ?_;refine aB ?_;refine bG (aH (aj D.str ?_) (aj (D.int .i64) ?_));all_goals
  simp[dw,hc0]
noncomputable def PS:aC:=cR 60
def w75 {Y:Ctx}(hm:(Y.at 0).b8)(h73:C73 Y)(h221:C221 Y)(r:Rec)  (hp0:fC r):di Y PS (.tup [.int .u64 (m9 r),.int .i64 (dw r).2]) [Rec.D r]:=by
 show bK _ _ _ [⟨_,_⟩,_,_,_,_,_,_] _;refine ar ?_;refine aD ?_;refine aq (hc:=h73 r hp0) ?_;refine fK ?_;refine cG (fun hc0=>?_) fun hc0=>?_
 .refine aZ ?_;refine bG (aH (aj (D.int .u64) ?_) (aj (D.int .i64) ?_));all_goals
   simp[m9,hc0]
 refine aB ?_;refine aq (hc:=h221 (dw r).1) (ha:=fun _=>aj (fun d=>[d]) (pB (q:=fun b:UInt8=>D.int .u8 b.toNat) (fun _=>rfl) ah)) (hp:=fun _=>⟨nj (q:=fun b:UInt8=>D.int .u8 b.toNat) (fun _=>rfl) ah,trivial⟩) ?_;refine aB ?_;refine bG (aH (aj (D.int .u64) ?_) (aj (D.int .i64) ?_));all_goals
  simp[m9,hc0]
end Go.Abs
