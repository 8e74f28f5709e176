/- A part of the proofs. -/
import Derived.Test.YtgnjlompgjhaaaaGreatDoorP08
set_option linter.all false
set_option maxRecDepth 4000
namespace Go.Abs
variable {Y:Ctx}(hm:(Y.at 0).cj)
def jm:aE:=⟨1,20,[⟨1,some (9,true)⟩,⟨2,none⟩],[[.a,.a,.a,.a,.a,.a,.sl 3 [.sl 4 [.a,.a,.sl 1 [.a],.a],.a,.a],.sl 3 [.a,.a,.a],.sl 2 [.a,.sl 1 [.a]]],[.a]],(sq (rg [gb 9 (.c (.agg [.str [],.int .i64 0,.int .i64 0,.int .i64 0,.str [],.str [],.aF,.aF,.aF])),gm cZ] [(1,0),(2,1)]) (sq (r1 [gm s0,gn (.mkf 1000465 [l0]),gm l1] 3 2) (sq (rg [gm s3,gn (.callvM l0 [(cs [112,97,99,107,97,103,101]),kJ,cZ]),gm l1,ge l2 0,ge l2 1,gm l3,gm l4] [(6,5),(4,6)]) (sq (sq (r1 [gm s4,iY l0] 5 1) (.cond s5 (sq (r1 [gn (.build [.str [],.int .i64 0,.int .i64 0,.int .i64 0,.str [],.str [],.aF,.aF,.aF] []),gt 9 s1 l0,gm cZ] 2 2) .ret) .skip)) (sq (rg [gm s6,ga 1 l0 jC,gd l1,gx 466 [l2] b8,gm l3,ge l4 0,ge l4 1,gb 5 (.c (.agg [.int .i64 0,.int .i64 0,.int .i64 0,.str [],.str []])),gt 5 l7 l5,gm l6] [(9,7),(7,9)]) (sq (sq (r1 [gm s7,bO l0 bx] 8 1) (.cond s8 (sq (rg [gm s0,gc l0,gf 1 l1,gd l2,dV l3 cl,gc l0,gf 1 l5,gt 1 l6 l4] []) (sq (r1 [gn (.build [.str [],.int .i64 0,.int .i64 0,.int .i64 0,.str [],.str [],.aF,.aF,.aF] []),gt 9 s1 l0,gm cZ] 2 2) .ret)) .skip)) (sq (r2 [gm s6,ga 1 l0 cl,gd l1,gk 5 true s9,gn (.build [.str [],.int .i64 0,.int .i64 0,.int .i64 0,.str [],.str [],.aF,.aF,.aF] [(0,1,l2),(1,5,l3)]),gb 9 (.c (.agg [.str [],.int .i64 0,.int .i64 0,.int .i64 0,.str [],.str [],.aF,.aF,.aF])),gt 9 l5 l4] 12 5) (sq (.block 0 (.loop (.block 1 (sq (sq (r1 [gm s3,gn (.callvM l0 [(cs [110,101,101,100]),cl,cZ]),gm l1,ge l2 0,ge l2 1,gm l3,gm l4] 10 6) (sq (r1 [gm ik,iY l0] 11 1) (.cond jR (.exit 0) .skip))) (rt [gf 6 kr,gn (.ldU 1 false l0),gm s0,gn (.callF 467 l2 [] []),gn (.bsl 3 (.agg [.aF,.str [],.str []]) 1 [(0,l3)]),gn (.app 3 l1 l4),gf 6 kr,gt 1 l6 l5] []))))) (sq (.block 2 (.loop (.block 3 (sq (rg [gm s3,gn (.callvM l0 [(cs [98,97,114]),kJ,m5]),gm l1,ge l2 0,ge l2 1,gm l3,gm l4] [(15,5),(13,6)]) (sq (sq (r1 [gm qb,iY l0] 14 1) (.cond tw (.exit 2) .skip)) (rt [gf 7 kr,gn (.ldU 1 false l0),gm tx,ga 1 l2 cl,gn (.ldU 1 false l3),gm tx,ga 1 l5 jC,gn (.ldU 1 false l6),gm s0,gn (.callF 468 l8 [] []),gn (.build [.str [],.str [],.str []] [(0,1,l4),(1,1,l7),(2,1,l9)]),gn (.bsl 3 (.agg [.str [],.str [],.str []]) 1 [(0,l10)]),gn (.app 3 l1 fZ),gf 7 kr,gt 1 jr iv] [])))))) (sq (.block 4 (.loop (.block 5 (sq (rg [gm s3,gn (.callvM l0 [(cs [102,101,97,116,117,114,101]),bx,cZ]),gm l1,ge l2 0,ge l2 1,gm l3,gm l4] [(18,5),(16,6)]) (sq (sq (r1 [gm AQ,iY l0] 17 1) (.cond DG (.exit 4) .skip)) (sq (sq (r1 [gm D7,gl l0,aX l1 jC] 19 2) (.cond QH (sq (rg [gm s0,gc l0,gf 1 l1,gd l2,dV l3 cl,gc l0,gf 1 l5,gt 1 l6 l4] []) (.exit 4)) .skip)) (rt [gf 8 kr,gd l0,gm D7,ga 1 l2 cl,gd l3,gm D7,gn (.slA 1 l5 (some jC) none),gx 469 [l6] [[.sl 1 [.a]]],gn (.build [.str [],.aF] [(0,1,l4),(1,1,l7)]),gn (.bsl 2 (.agg [.str [],.aF]) 1 [(0,l8)]),gn (.app 2 l1 l9),gf 8 kr,gt 1 fZ l10] []))))))) (sq (r1 [gk 9 true kr,gt 9 s1 l0,gm m5] 2 2) .ret)))))))))))⟩
def w222 {Y:Ctx}(hm:(Y.at 1).cj)(h466:WW (Y.at 1))(h467:TJ (Y.at 1))(h468:QO (Y.at 1))(h469:WX (Y.at 1))(h9465:Iz (Y.at 1))(r:Ld)  (hp0:r.sm):bP (Y.at 1) jm.body (Lo jm 2 (.tup [Rec.D (gz r.rest).1,.bool (pD r.rest).isSome]) (Ld.D (r.to (gz r.rest).2)):Ex->List cd->St->Prop) (fH jm (.ptr 0 2 0 0::[])) ⟨1,[(0,.buf 2 [(Ld.D r)])]⟩:=by
 show bP _ _ _ [⟨true,.ptr 0 2 0 0⟩,.un,.un,.un,.un,.un,.un,.un,.un,.un,.un,.un,.un,.un,.un,.un,.un,.un,.un,.un] ⟨1,[(0,.buf 2 [(Ld.D r)])]⟩;have hself:=Ld.DL hp0;have hq1:=r.Ah;have hll:=hp0.1.2;refine aq ?_;refine aI ?_;refine Tg _ ?_;refine aA ?_;rw[show Ld.D r=Ld.D (r.to r.rest)by rw[hself]];refine aH ?_;refine nG (n:=1000465) (akq:=[.ptr 0 2 0 0,.str ef,.int .i64 ((3:Nat):Int),.bool false]) (ι:=Unit) (fun _=>True) (fun _=>.tup [Ba (cD ef 3 false r.rest),.bool (cD ef 3 false r.rest).isSome]) 6 (fun _=>[(0,.buf 2 [Ld.D (r.to (eK ef 3 false r.rest))]),(1,.buf 9 [dP])]) (fun _ _=>?_) (hc:=fun K' hK=>xI h9465 hp0 hq1 (w:=ef) (n:=3) (op:=false) aM aM ah (hK () trivial)) (hn:=aM);refine aH ?_;refine e7 _ ?_;refine di ?_;refine av (fun hc0=>?_) (fun hc0=>?_)
 .simp only[bg]at hc0;have hq:=jN hc0;have hnr:eK ef 3 false r.rest=r.rest:=by simp only[eK,hq]
  rw[hnr];have hrp:pD r.rest=none:=by simp only[pD,hq]
  have hrv:gz r.rest=(gT,r.rest):=by simp only[gz,hrp]
  rw[hrv,hrp];refine ay ?_;refine bA dP ?_;refine aY dP (he:=aZ) ?_;refine ay ?_;refine nk [(0,.buf 2 [Ld.D (r.to r.rest)]),(1,.buf 9 [Rec.D gT])] (.id ah (.bf ah (.cons mf .nil) .nil)) ?_;refine aH ?_;refine iw trivial xf (bV ah (aK ?_ ?_)) ah ah ah;all_goals rfl
 simp only[bN]at hc0;obtain⟨⟨l,q0⟩,hq⟩:=jO hc0;have hnr:eK ef 3 false r.rest=q0:=by simp only[eK,hq]
 obtain⟨hl,hlm,hq0,hqp⟩:=oD hp0 hq1 hq;rw[hnr,hq];obtain hl:l.length=3:=by rcases hl with h|h;cases h;exact h
 refine aA ?_;refine bL 2 (hb:=fun _=>ae) ?_;refine bH (v:=.str l[2]!) (hi:=fun _=>ae) ?_;refine ar (hc:=h466 l[2]! (hlm _ (bR ae))) ?_;refine aH ?_;refine e7 (cy.D _) ?_;refine ay ?_;refine aY (cy.D ((gL l[2]!).getD gr)) (he:=aZ) ?_;refine ba ?_;refine av (fun hc1=>?_) (fun hc1=>?_)
 .simp only[bg,bm]at hc1;have hv:=VO hc1;have hrp:pD r.rest=none:=by simp only[pD,hq,hv]
  have hrv:gz r.rest=(gT,r.rest):=by simp only[gz,hrp]
  rw[hrv,hrp];obtain⟨t,hpt,_⟩:=dW hq;refine ay ?_;obtain⟨hab1,hab2⟩:=(hp0.to q0).1;refine aA ?_;refine bd (v:=.int .i64 ((r.to q0).at':Nat)) ?_;refine aA ?_;refine aY (Ld.D (r.to r.rest)) (he:=by rw[hpt];exact Ld.back (hpt▸hq1)) ?_;refine aA ?_;refine bA dP ?_;refine aY dP (he:=aZ) ?_;refine ay ?_;refine nk [(0,.buf 2 [Ld.D (r.to r.rest)]),(1,.buf 9 [Rec.D gT]),(22,.buf 5 [cy.D ((gL l[2]!).getD gr)])] (.id ah (.bf ah (.cons mf .nil) (.id ah .nil))) ?_;refine aH ?_;refine iw trivial xf (bV ah (aK ?_ ?_)) ah ah ah;all_goals rfl
 simp only[bN,aT]at hc1;obtain⟨v,hv⟩:=VP hc1;rw[hv];have hrp:pD r.rest=some (sA l[1]! v q0):=by simp only[pD,hq,hv]
 have hrv:gz r.rest=sA l[1]! v q0:=by simp only[gz,hrp]
 rw[hrv,hrp];generalize hnm:l[1]! =nm;have hq01:=hq0.length_le;refine ay ?_;rw[<-hnm];refine aH ?_;refine bL 1 (hb:=fun _=>ae) ?_;refine bH (v:=.str l[1]!) (hi:=fun _=>ae) ?_;refine de (d:=cy.D v) ?_;refine bA (px l[1]! v .aF .aF .aF) ?_;refine aH ?_;refine aY (px l[1]! v .aF .aF .aF) (he:=aZ) ?_;refine aH ?_;rw[hnm];refine bh hm (ι:=(List bw×List au)) (fun z=>[⟨true,.ptr 0 2 0 0⟩,⟨true,.ptr 1 9 0 0⟩,⟨true,.bool false⟩,⟨true,.fn 1000465 [.ptr 0 2 0 0]⟩,.un,.un,.un,.un,.un,.un,.un,.un,⟨true,.ptr 2 9 0 0⟩,.un,.un,.un,.un,.un,.un,.un]) (fun z=>[(0,.buf 2 [Ld.D (r.to z.2)]),(1,.buf 9 [dP]),(2,.buf 9 [px nm v (.own 3 3 0 (z.1).length) (.aF) (.aF)]),(3,.buf 3 (z.1.map bw.D))]) 10 (fun z=>z.2<:+r.ls/\z.1.length+z.2.length<=r.ls.length/\eD q0=(z.1++(eD z.2).1,(eD z.2).2)) (fun z=>z.2.length) ([],q0) ⟨hq0,by simpa using hq01,aR⟩ (br.to [(1,1),(32,2)] ah ah et (by refine bJ.lE ah ah ah ?_;refine bJ.lE ah ah ah ?_;refine bJ.ni 32 ah ah (by exact⟨_,_,rfl,⟨_,rfl,⟨_,_,rfl,⟨rfl,rfl⟩,⟨_,_,rfl,⟨rfl,rfl⟩,⟨_,_,rfl,⟨rfl,rfl⟩,⟨_,_,rfl,⟨rfl,rfl⟩,⟨_,_,rfl,⟨rfl,rfl⟩,⟨_,_,rfl,⟨rfl,rfl⟩,⟨_,_,rfl,Or.inr ⟨_,_,_,rfl⟩,⟨_,_,rfl,Or.inl rfl,⟨_,_,rfl,Or.inl rfl,rfl⟩⟩⟩⟩⟩⟩⟩⟩⟩⟩,rfl⟩) ?_;refine bJ.mt ah ah ah ah ?_;exact bJ.nil)) ?_;rintro⟨N,p⟩ ⟨hq1,hlen,hw⟩;dsimp only at hq1 hlen hw⊢;refine aD ?_;refine nG (n:=1000465) (akq:=[.ptr 0 2 0 0,.str ff,.int .i64 ((1:Nat):Int),.bool false]) (ι:=Unit) (fun _=>True) (fun _=>.tup [Ba (cD ff 1 false p),.bool (cD ff 1 false p).isSome]) 10 (fun _=>[(0,.buf 2 [Ld.D (r.to (eK ff 1 false p))]),(1,.buf 9 [dP]),(2,.buf 9 [px nm v (.own 3 3 0 (N).length) (.aF) (.aF)]),(3,.buf 3 (N.map bw.D))]) (fun _ _=>?_) (hc:=fun K' hK=>xI h9465 hp0 hq1 (w:=ff) (n:=1) (op:=false) aM aM ah (hK () trivial)) (hn:=aM);refine aH ?_;refine e7 _ ?_;refine di ?_;refine av (fun hc2=>?_) (fun hc2=>?_)
 .simp only[bg]at hc2;have hq:=jN hc2;have hnr:eK ff 1 false p=p:=by simp only[eK,hq]
  rw[hnr];have hn2:eD q0=(N,p):=by rw[hw,qY hq,iz]
  have hpl:=hq1.length_le;refine aA ?_;refine fE 3 (hn:=bB (fun _=>rfl) _) (he:=by simp only[ll,iQ,iX,mq,nt,cL,Nat.reduceEqDiff,a7,a8,cR,cu,cx,cT,cX,bT,bQ,aQ,cg,aP,reduceCtorEq,ax,aB,Nat.reduceAdd,Nat.reduceLeDiff,Ld.D,dP,px];exact rfl) (hm:=by simp only[ll,iQ,iX,mq,nt,cL,Nat.reduceEqDiff,a7,a8,cR,cu,cx,cT,cX,bT,bQ,aQ,cg,aP,reduceCtorEq,ax,aB,Nat.reduceAdd,Nat.reduceLeDiff,Ld.D,dP,px];exact rfl) ?_;refine bh hm (ι:=(List fM×List au)) (fun z=>[⟨true,.ptr 0 2 0 0⟩,⟨true,.ptr 1 9 0 0⟩,⟨true,.bool false⟩,⟨true,.fn 1000465 [.ptr 0 2 0 0]⟩,.un,.un,.un,.un,.un,.un,.un,.un,⟨true,.ptr 2 9 0 0⟩,.un,.un,.un,.un,.un,.un,.un]) (fun z=>[(0,.buf 2 [Ld.D (r.to z.2)]),(1,.buf 9 [dP]),(2,.buf 9 [px nm v ((.sl 3 (N.map bw.D))) (.own 3 3 0 (z.1).length) (.aF)]),(3,.buf 3 (z.1.map fM.D))]) 10 (fun z=>z.2<:+r.ls/\z.1.length+z.2.length<=r.ls.length/\iU p=(z.1++(iU z.2).1,(iU z.2).2)) (fun z=>z.2.length) ([],p) ⟨hq1,by simpa using hpl,aR⟩ (br.to [(1,1),(2,2)] ah ah et (by refine bJ.lE ah ah ah ?_;refine bJ.lE ah ah ah ?_;refine bJ.ni 2 ah ah (by exact⟨_,_,rfl,⟨_,rfl,⟨_,_,rfl,⟨rfl,rfl⟩,⟨_,_,rfl,⟨rfl,rfl⟩,⟨_,_,rfl,⟨rfl,rfl⟩,⟨_,_,rfl,⟨rfl,rfl⟩,⟨_,_,rfl,⟨rfl,rfl⟩,⟨_,_,rfl,⟨rfl,rfl⟩,⟨_,_,rfl,⟨rfl,rfl⟩,⟨_,_,rfl,Or.inr ⟨_,_,_,rfl⟩,⟨_,_,rfl,Or.inl rfl,rfl⟩⟩⟩⟩⟩⟩⟩⟩⟩⟩,rfl⟩) ?_;refine bJ.mt ah ah ah ah ?_;exact bJ.nil)) ?_;rintro⟨B,pb⟩ ⟨hq1,hlen,hw⟩;dsimp only at hq1 hlen hw⊢;refine aA ?_;refine nG (n:=1000465) (akq:=[.ptr 0 2 0 0,.str ie,.int .i64 ((3:Nat):Int),.bool true]) (ι:=Unit) (fun _=>True) (fun _=>.tup [Ba (cD ie 3 true pb),.bool (cD ie 3 true pb).isSome]) 10 (fun _=>[(0,.buf 2 [Ld.D (r.to (eK ie 3 true pb))]),(1,.buf 9 [dP]),(2,.buf 9 [px nm v ((.sl 3 (N.map bw.D))) (.own 3 3 0 (B).length) (.aF)]),(3,.buf 3 (B.map fM.D))]) (fun _ _=>?_) (hc:=fun K' hK=>xI h9465 hp0 hq1 (w:=ie) (n:=3) (op:=true) aM aM ah (hK () trivial)) (hn:=aM);refine aH ?_;refine e7 _ ?_;refine di ?_;refine av (fun hc3=>?_) (fun hc3=>?_)
  .simp only[bg]at hc3;have hq:=jN hc3;have hnr:eK ie 3 true pb=pb:=by simp only[eK,hq]
   rw[hnr];have fA:iU p=(B,pb):=by rw[hw,sJ hq,iz]
   have hpl2:=hq1.length_le;refine aA ?_;refine fE 3 (hn:=bB (fun _=>rfl) _) (he:=by simp only[ll,iQ,iX,mq,nt,cL,Nat.reduceEqDiff,a7,a8,cR,cu,cx,cT,cX,bT,bQ,aQ,cg,aP,reduceCtorEq,ax,aB,Nat.reduceAdd,Nat.reduceLeDiff,Ld.D,dP,px];exact rfl) (hm:=by simp only[ll,iQ,iX,mq,nt,cL,Nat.reduceEqDiff,a7,a8,cR,cu,cx,cT,cX,bT,bQ,aQ,cg,aP,reduceCtorEq,ax,aB,Nat.reduceAdd,Nat.reduceLeDiff,Ld.D,dP,px];exact rfl) ?_;refine bh hm (ι:=(List cv×List au)) (fun z=>[⟨true,.ptr 0 2 0 0⟩,⟨true,.ptr 1 9 0 0⟩,⟨true,.bool false⟩,⟨true,.fn 1000465 [.ptr 0 2 0 0]⟩,.un,.un,.un,.un,.un,.un,.un,.un,⟨true,.ptr 2 9 0 0⟩,.un,.un,.un,.un,.un,.un,.un]) (fun z=>[(0,.buf 2 [Ld.D (r.to z.2)]),(1,.buf 9 [dP]),(2,.buf 9 [px nm v ((.sl 3 (N.map bw.D))) ((.sl 3 (B.map fM.D))) (.own 3 2 0 (z.1).length)]),(3,.buf 2 (z.1.map cv.D))]) 10 (fun z=>z.2<:+r.ls/\z.1.length+z.2.length<=r.ls.length/\dJ pb=(z.1++(dJ z.2).1,(dJ z.2).2)) (fun z=>z.2.length) ([],pb) ⟨hq1,by simpa using hpl2,aR⟩ (br.to [(1,1),(2,2)] ah ah et (by refine bJ.lE ah ah ah ?_;refine bJ.lE ah ah ah ?_;refine bJ.ni 2 ah ah (by exact⟨_,_,rfl,⟨_,rfl,⟨_,_,rfl,⟨rfl,rfl⟩,⟨_,_,rfl,⟨rfl,rfl⟩,⟨_,_,rfl,⟨rfl,rfl⟩,⟨_,_,rfl,⟨rfl,rfl⟩,⟨_,_,rfl,⟨rfl,rfl⟩,⟨_,_,rfl,⟨rfl,rfl⟩,⟨_,_,rfl,⟨rfl,rfl⟩,⟨_,_,rfl,⟨rfl,rfl⟩,⟨_,_,rfl,Or.inr ⟨_,_,_,rfl⟩,rfl⟩⟩⟩⟩⟩⟩⟩⟩⟩⟩,rfl⟩) ?_;refine bJ.mt ah ah ah ah ?_;exact bJ.nil)) ?_;rintro⟨Z,pf⟩ ⟨hq1,hlen,hw⟩;dsimp only at hq1 hlen hw⊢;refine aA ?_;refine nG (n:=1000465) (akq:=[.ptr 0 2 0 0,.str cN,.int .i64 ((0:Nat):Int),.bool false]) (ι:=Unit) (fun _=>True) (fun _=>.tup [Ba (cD cN 0 false pf),.bool (cD cN 0 false pf).isSome]) 10 (fun _=>[(0,.buf 2 [Ld.D (r.to (eK cN 0 false pf))]),(1,.buf 9 [dP]),(2,.buf 9 [px nm v ((.sl 3 (N.map bw.D))) ((.sl 3 (B.map fM.D))) (.own 3 2 0 (Z).length)]),(3,.buf 2 (Z.map cv.D))]) (fun _ _=>?_) (hc:=fun K' hK=>xI h9465 hp0 hq1 (w:=cN) (n:=0) (op:=false) aM aM ah (hK () trivial)) (hn:=aM);refine aH ?_;refine e7 _ ?_;refine di ?_;refine av (fun hc4=>?_) (fun hc4=>?_)
   .simp only[bg]at hc4;have hq:=jN hc4;have hnr:eK cN 0 false pf=pf:=by simp only[eK,hq]
    rw[hnr];have hf2:dJ pb=(Z,pf):=by rw[hw,EA hq,iz]
    refine aA ?_;have hbd:sA nm v q0=(⟨nm,v,N,B,Z⟩,pf):=by simp only[sA,hn2,fA,hf2]
    rw[hbd];refine fE 3 (hn:=bB (fun _=>rfl) _) (he:=by simp only[ll,iQ,iX,mq,nt,cL,Nat.reduceEqDiff,a7,a8,cR,cu,cx,cT,cX,bT,bQ,aQ,cg,aP,reduceCtorEq,ax,aB,Nat.reduceAdd,Nat.reduceLeDiff,Ld.D,dP,px];exact rfl) (hm:=by simp only[ll,iQ,iX,mq,nt,cL,Nat.reduceEqDiff,a7,a8,cR,cu,cx,cT,cX,bT,bQ,aQ,cg,aP,reduceCtorEq,ax,aB,Nat.reduceAdd,Nat.reduceLeDiff,Ld.D,dP,px];exact rfl) ?_;refine aH ?_;refine de (d:=Rec.D ⟨nm,v,N,B,Z⟩) ?_;refine aY (Rec.D ⟨nm,v,N,B,Z⟩) (he:=aZ) ?_;refine aA ?_;refine iw trivial xf (bV ah (aK ?_ ?_)) ah ah ah;all_goals rfl
   simp only[bN]at hc4;obtain⟨⟨l,q2⟩,hq⟩:=jO hc4;have hnr:eK cN 0 false pf=q2:=by simp only[eK,hq]
   obtain⟨hl,hlm,hq2,hqp⟩:=oD hp0 hq1 hq;rw[hnr,hq];have hll2:=OQ hp0 hq1 hq;refine aI ?_;intro u0;refine ay ?_;refine cM (fun hc5=>?_) fun hc5=>?_
   .refine ay ?_;have hf2:dJ pb=(Z,pf):=by rw[hw,LM hq ae,iz]
    obtain⟨t,hpt,_⟩:=dW hq;obtain⟨hab1,hab2⟩:=(hp0.to q2).1;refine aA ?_;refine bd (v:=.int .i64 ((r.to q2).at':Nat)) ?_;refine aA ?_;refine aY (Ld.D (r.to pf)) (he:=by rw[hpt];exact Ld.back (hpt▸hq1)) ?_;refine aD ?_;have hbd:sA nm v q0=(⟨nm,v,N,B,Z⟩,pf):=by simp only[sA,hn2,fA,hf2]
    rw[hbd];refine fE 3 (hn:=bB (fun _=>rfl) _) (he:=by simp only[ll,iQ,iX,mq,nt,cL,Nat.reduceEqDiff,a7,a8,cR,cu,cx,cT,cX,bT,bQ,aQ,cg,aP,reduceCtorEq,ax,aB,Nat.reduceAdd,Nat.reduceLeDiff,Ld.D,dP,px];exact rfl) (hm:=by simp only[ll,iQ,iX,mq,nt,cL,Nat.reduceEqDiff,a7,a8,cR,cu,cx,cT,cX,bT,bQ,aQ,cg,aP,reduceCtorEq,ax,aB,Nat.reduceAdd,Nat.reduceLeDiff,Ld.D,dP,px];exact rfl) ?_;refine aH ?_;refine de (d:=Rec.D ⟨nm,v,N,B,Z⟩) ?_;refine aY (Rec.D ⟨nm,v,N,B,Z⟩) (he:=aZ) ?_;refine aA ?_;refine iw trivial xf (bV ah (aK ?_ ?_)) ah ah ah;all_goals rfl
   refine ay ?_;have h2l:2<=l.length:=ae;refine aH ?_;refine bd (v:=.own 3 2 0 Z.length) ?_;refine aH ?_;refine bL 1 (hb:=fun _=>ae) ?_;refine bH (v:=.str l[1]!) (hi:=fun _=>ae) ?_;refine aH ?_;refine uw 2 (hb:=fun _=>ae) ?_;refine ar (hc:=h469 (l.drop 2) (by rw[mZ];omega)) ?_;refine bA (cv.D ⟨l[1]!,l.drop 2⟩) ?_;refine dA [cv.D ⟨l[1]!,l.drop 2⟩] ?_;refine kM (q:=cv.D) (xs:=Z) (e:=⟨l[1]!,l.drop 2⟩) ?_;refine aH ?_;refine aY (px nm v (.sl 3 (N.map bw.D)) (.sl 3 (B.map fM.D)) (.own 32 2 0 (Z++[(⟨l[1]!,l.drop 2⟩:cv)]).length)) (he:=aZ) ?_;refine aA ?_;have hsl:=aQ 0;exact⟨(Z++[⟨l[1]!,l.drop 2⟩],q2),⟨hq2,by simp only[cb,ax,aB];omega,by rw[hw,G9 hq h2l];simp⟩,fq,(br.to [(1,1),(2,2),(32,3)] ah ah et (by refine bJ.lE ah ah ah ?_;refine bJ.lE ah ah ah ?_;refine bJ.eq 2 ah ah ah ?_;refine bJ.nl 32 ah ah rfl (by exact bB (fun _=>rfl) _) ?_;exact bJ.nil))⟩
  simp only[bN]at hc3;obtain⟨⟨l,q2⟩,hq⟩:=jO hc3;have hnr:eK ie 3 true pb=q2:=by simp only[eK,hq]
  obtain⟨hl,hlm,hq2,hqp⟩:=oD hp0 hq1 hq;rw[hnr,hq];obtain hl:l.length=3:=by rcases hl with h|h;cases h;exact h
  refine aA ?_;refine Py (v:=.own 3 3 0 B.length) ?_;refine aH ?_;refine bL 1 (hb:=fun _=>ae) ?_;refine Pz (v:=.str l[1]!) (hi:=fun _=>ae) ?_;refine aH ?_;refine bL 2 (hb:=fun _=>ae) ?_;refine Pz (v:=.str l[2]!) (hi:=fun _=>ae) ?_;refine aH ?_;refine nA (hc:=DU h468 hp0 hq2) ?_;refine bA (fM.D ⟨l[1]!,l[2]!,(cB q2).1⟩) ?_;refine dA [fM.D ⟨l[1]!,l[2]!,(cB q2).1⟩] ?_;refine kM (q:=fM.D) (xs:=B) (e:=⟨l[1]!,l[2]!,(cB q2).1⟩) ?_;refine aH ?_;refine aY (px nm v (.sl 3 (N.map bw.D)) (.own 31 3 0 (B++[(⟨l[1]!,l[2]!,(cB q2).1⟩:fM)]).length) .aF) (he:=aZ) ?_;refine aA ?_;have hsl:=(ku q2).length_le;exact⟨(B++[⟨l[1]!,l[2]!,(cB q2).1⟩],(cB q2).2),⟨(ku q2).trans hq2,by simp only[cb,ax,aB];omega,by rw[hw,yN hq];simp⟩,fq,(br.to [(1,1),(2,2),(31,3)] ah ah et (by refine bJ.lE ah ah ah ?_;refine bJ.lE ah ah ah ?_;refine bJ.eq 2 ah ah ah ?_;refine bJ.nl 31 ah ah rfl (by exact bB (fun _=>rfl) _) ?_;exact bJ.nil))⟩
 simp only[bN]at hc2;obtain⟨⟨l,q2⟩,hq⟩:=jO hc2;have hnr:eK ff 1 false p=q2:=by simp only[eK,hq]
 obtain⟨hl,hlm,hq2,hqp⟩:=oD hp0 hq1 hq;rw[hnr,hq];refine aA ?_;refine Py (v:=.own 3 3 0 N.length) ?_;refine aH ?_;refine nA (hc:=RR h467 hp0 hq2) ?_;refine dA [bw.D (eY q2).1] ?_;refine kM (q:=bw.D) (xs:=N) (e:=(eY q2).1) ?_;refine aH ?_;refine aY (px nm v (.own 24 3 0 (N++[(eY q2).1]).length) .aF .aF) (he:=aZ) ?_;refine aA ?_;have hsl:=(rW q2).length_le;exact⟨(N++[(eY q2).1],(eY q2).2),⟨(rW q2).trans hq2,by simp only[cb,ax,aB];omega,by rw[hw,wE hq];simp⟩,fq,(br.to [(1,1),(2,2),(24,3)] ah ah et (by refine bJ.lE ah ah ah ?_;refine bJ.lE ah ah ah ?_;refine bJ.eq 2 ah ah ah ?_;refine bJ.nl 24 ah ah rfl (by exact bB (fun _=>rfl) _) ?_;exact bJ.nil))⟩
def Wh (Y:Ctx):Prop:=∀(r:Ld),(r.sm)->Y.fp 222 (Ld.D r) []/\Y.fv 222 (Ld.D r) []=.tup [Rec.D (gz r.rest).1,.bool (pD r.rest).isSome]/\Y.fs 222 (Ld.D r) []=Ld.D (r.to (gz r.rest).2)
def AN (p:List au):Prop:=∀t∈p,t.length<=1048576
def AN.get {l:List au}(h:AN l)(i:Nat):l[i]!.length<=1048576:=by
 rcases hX i l.length with hi|hi
 .exact h _ (bR hi)
 .simp[hi];exact Nat.zero_le _
def AN.next {p:List au}(hp:AN p){w:au}{n:Nat}{op:Bool}{l q:List au}(h:cD w n op p=some (l,q)):AN l/\AN q/\l.length<=1048577:=by
 obtain⟨t,rfl,ht⟩:=dW h;obtain⟨_,_,h3⟩:=vF ht;have h0:=hp t (.head _);refine⟨fun u hu=>?_,fun u hu=>hp u (.tail _ hu), ?_⟩
 .rw[h3]at hu;have:=Gn hu;omega
 grind [CA]
def AN.uO {p q:List au}(hp:AN p)(h:q<:+p):AN q:=fun t ht=>hp t (h.subset ht)
def M5 {l:List au}(h:AN l):(gZ l).sm:=by
 refine⟨⟨h.get 1,h.get 4⟩,fun t ht=>?_⟩;unfold gZ at ht;simp only at ht;split at ht
 .cases ht
 .have:=dK _ _ ht;have:=h.get 2;omega
def Jn {w:au}{n:Nat}{op:Bool}{t:au}{r l:List au}(h:eB w n op t=some l):cD w n op (t::r)=some (l,r):=by simp only[cD,h]
def AG:∀p:List au,AN p->∀x∈(cG p).1,x.sm
 |[],_,x,hx=>by simp[cG]at hx
 |t::r,hp,x,hx=>by
  have ih:=AG r (fun u hu=>hp u (.tail _ hu));simp only[cG]at hx;split at hx
  .rename_i l hl;split at hx
   .simp only[dp]at hx;rcases hx with rfl|hx
    .exact M5 (hp.next (Jn (r:=r) hl)).1
    .exact ih x hx
   .simp at hx
  .simp at hx
def Gl {p:List au}(hp:AN p):(cB p).1.length<=1048576:=by
 unfold cB;split
 .rename_i h;exact(hp.next h).1.get 1
 .simp
def R1 {p:List au}(hp:AN p):(oT p).1.length<=1048576:=by
 unfold oT;split
 .rename_i h;exact(hp.next h).1.get 1
 .simp
theorem OO {p:List au}(hp:AN p):(eY p).1.sm:=⟨AG p hp,Gl (hp.uO (oL p)),R1 ((hp.uO (oL p)).uO (ku _))⟩
def BS:∀(f:Nat) (p:List au),AN p->(∀x∈(mU f p).1,x.sm)/\(mU f p).2<:+p
 |0,p,_=>⟨fun x hx=>by simp[mU]at hx,lZ _⟩
 |f+1,p,hp=>by
  simp only[mU];split
  .rename_i l r h;have hr:=(hp.next h).2.1;obtain⟨i1,i2⟩:=BS f (eY r).2 (hr.uO (rW r));refine⟨fun x hx=>?_,i2.trans ((rW r).trans (pr h))⟩
   grind [OO]
  grind
def En:∀(f:Nat) (p:List au),AN p->(∀x∈(qk f p).1,x.sm)/\(qk f p).2<:+p
 |0,p,_=>⟨fun x hx=>by simp[qk]at hx,lZ _⟩
 |f+1,p,hp=>by
  simp only[qk];split
  .rename_i l r h;obtain⟨hl,hr,_⟩:=hp.next h;obtain⟨i1,i2⟩:=En f (cB r).2 (hr.uO (ku r));refine⟨fun x hx=>?_,i2.trans ((ku r).trans (pr h))⟩;simp only[dp]at hx;rcases hx with rfl|hx
   .exact⟨hl.get 1,hl.get 2,Gl hr⟩
   .exact i1 x hx
  grind
def By:∀(p:List au),AN p->(∀x∈(dJ p).1,x.sm)/\(dJ p).2<:+p
 |[],_=>⟨fun x hx=>by simp[dJ]at hx,lZ _⟩
 |t::r,hp=>by
  obtain⟨i1,i2⟩:=By r (fun u hu=>hp u (.tail _ hu));simp only[dJ];split
  .rename_i l hl;obtain⟨hlm,_,hll⟩:=hp.next (Jn (r:=r) hl);split
   .refine⟨fun x hx=>?_,i2.trans (List.suffix_cons _ _)⟩;simp only[dp]at hx;rcases hx with rfl|hx
    .refine⟨hlm.get 1, ?_,fun u hu=>hlm u (List.mem_of_mem_drop hu)⟩;simp only[mZ];omega
    .exact i1 x hx
   .exact⟨fun x hx=>by simp at hx,lZ _⟩
  .exact⟨fun x hx=>by simp at hx,lZ _⟩
theorem xM:gW gT:=⟨⟨aM,aM,aM⟩,fun n hn=>(by cases hn),fun n hn=>(by cases hn),fun n hn=>(by cases hn)⟩
theorem Dq {p:List au}(hp:AN p):gW (gz p).1/\(gz p).2<:+p:=by
 unfold gz pD;cases h:cD ef 3 false p with
 |none=>exact⟨xM,lZ _⟩
 |some lq=>
  obtain⟨l,r⟩:=lq;obtain⟨hl,hr,_⟩:=hp.next h;simp only;cases hv:gL l[2]! with
  |none=>exact⟨xM,lZ _⟩
  |some v=>
   have hvs:=Ss (hl.get 2);rw[hv]at hvs;obtain⟨n1,n2⟩:=BS r.length r hr;obtain⟨b1,b2⟩:=En (eD r).2.length (eD r).2 (hr.uO n2);obtain⟨f1,f2⟩:=By (iU (eD r).2).2 ((hr.uO n2).uO b2);exact⟨⟨⟨hl.get 1,hvs⟩,n1,b1,f1⟩,f2.trans (b2.trans (n2.trans (pr h)))⟩
def cF (s:au):Rec×Int×Int:=
 if 4096<s.length then(gT,3,0)
 else
  let ls:=(ai s 10).take ((ai s 10).length-1)
  if(pD ls).isSome=false\/(gz ls).2≠[]\/(ai s 10)[(ai s 10).length-1]! ≠[]then(gT,2,((ls.length-(gz ls).2.length:Nat):Int)+1)
  else if(c7 (gz ls).1).1≠0 then(gT,(c7 (gz ls).1).1,0)
  else((gz ls).1,0,0)
def Fv:aE:=⟨3,8,[⟨3,none⟩],b8,(sq (rg [gb 9 s0,gm bx] [(5,0),(3,1)]) (sq (.block 0 (sq (r1 [gm s1,gx 208 [l0] b8,iY l1,gm l2] 4 3) (.cond s4 (sq (r1 [gm wC] 3 0) .ret) (sq (r1 [gm s1,gf 0 s5,gd l1,aL l0 l2,gm l3] 6 4) (.cond s6 (sq (r1 [gm EP] 3 0) .ret) (sq (r1 [gm s2,gx 444 [l0] b8,iY l1,gm l2] 7 3) (.cond s7 (sq (r1 [gm xB] 3 0) .ret) .skip))))))) (sq (r1 [gm bx] 3 0) .ret)))⟩
def w211 {Y:Ctx}(hm:(Y.at 0).cj)(h208:La Y)(h444:WG Y)(r:Rec)(name:au)(uB:au)  (hp0:uB.length<=1048576):dn Y Fv (.int .i64 (gR r name uB)) [Rec.D r,.str name,.str uB]:=by
 show bP _ _ _ [⟨_,_⟩,⟨_,_⟩,⟨_,_⟩,_,_,_,_,_] _;refine aq ?_;refine aG ?_;refine ar (hc:=h208 _) ?_;refine aA ?_;refine fP (fun hc0=>?_) fun hc0=>?_
 .refine aI ?_;refine c8 ?_;rw[gR,aw hc0]
 refine ba ?_;refine fP (fun hc1=>?_) fun hc1=>?_
 .refine aI ?_;refine c8 ?_;rw[gR,ak (by simp[hc0]),aw hc1]
 refine ay ?_;refine ar (hc:=h444 uB hp0) ?_;refine aA ?_;refine fP (fun hc2=>?_) fun hc2=>?_
 .refine aI ?_;refine c8 ?_;rw[gR,ak (by simp[hc0]),ak hc1,aw hc2]
 refine aG ?_;refine c8 ?_;rw[gR,ak (by simp[hc0]),ak hc1,ak (by simp[hc2])]
def JU (T:List D->D->Prop):Prop:=∀(r:Rec) (name:au) (uB:au),(uB.length<=1048576)->T [Rec.D r,.str name,.str uB] (.int .i64 (gR r name uB))
def Tu (Y:Ctx):Prop:=JU (bD Y 211)
def Fw:aE:=⟨3,16,[⟨3,none⟩],b8,(sq (rg [gb 9 s0,gb 4 s1,gm bx] [(4,0),(5,1),(3,2)]) (sq (sq (r1 [gk 9 true s4,gf 0 s5,gd l1,gf 1 s5,gd l3,gx 211 [l0,l2,l4] [[.a,.a,.a,.a,.a,.a,.sl 3 [.sl 4 [.a,.a,.sl 1 [.a],.a],.a,.a],.sl 3 [.a,.a,.a],.sl 2 [.a,.sl 1 [.a]]],[.a],[.a]],gm l5] 6 6) (sq (r1 [gm s6,bO l0 bx] 7 1) (.cond s7 (sq (r1 [gm s6,gm l0] 3 1) .ret) .skip))) (sq (sq (r1 [gf 2 s5,gd l0,gl l1,dj l2 xB,gm l3,ig 4 2 s5,hZ 4 l5,cn 4 (.len l6),cn 4 (eG l7 bx),ek 4 l8,gmt 9 s2,cr 9 (.un .not l10),zf 4 l9 fZ,eW l4 iv] 8 13) (.cond s8 (sq (r1 [gm (i6 11)] 3 0) .ret) .skip)) (sq (sq (rg [gf 2 s5,gd l0,gl l1,gm bx] [(12,1),(10,2),(9,3)]) (.block 0 (.loop (sq (r1 [aX s9 ik] 11 0) (sq (fC jR 0) (sq (.block 1 (sq (rg [gm s9,ga 1 kr s9,gd l1,gm l0,gm l2] [(14,3),(13,4)]) (sq (r1 [gm qb,gx 349 [l0] b8,iY l1,gm l2,ek 3 tw,cn 3 (eG l4 bx),ek 3 l5,kn 6 2 s5,jM 6 l7,gmt 6 tw,cr 6 (jK l9 cl),cr 6 (.ia 1 l8 l10),jM 6 fZ,gmt 6 qb,cr 6 (tN iv jr),zf 3 l6 jT,eW l3 lg] 15 16) (.cond tx (sq (r1 [gm (i6 11)] 3 0) .ret) .skip)))) (r1 [az s9 cl,gm l0] 9 1))))))) (sq (r1 [gm bx] 3 0) .ret)))))⟩
def w443 (h211:Tu Y)(h349:GR Y)(r:Rec)(w:ch)(al:Bool)  (hp0:w.sm):dn Y Fw (.int .i64 (kZ r w al)) [Rec.D r,ch.D w,.bool al]:=by
 show bP _ _ _ [⟨_,_⟩,⟨_,_⟩,⟨_,_⟩,_,_,_,_,_,_,_,_,_,_,_,_,_] _;refine aq ?_;refine fK ?_;refine ar (hc:=h211 r w.name w.range hp0.1.2) ?_;refine ba ?_;refine cM (fun hc0=>?_) fun hc0=>?_
 .refine aG ?_;refine c8 ?_;rw[kZ,aw hc0]
 refine aG ?_;intro u0;refine aD ?_;refine iJ ?_;refine ba ?_;refine av (fun hc1=>?_) (fun hc1=>?_)
 .have hq:(decide (w.feats.length<=6)&&(al ||decide (w.feats.length=0)))=false:=by rw[<-bg,<-Qp];exact hc1
  refine aI ?_;refine c8 ?_;rw[kZ,ak (by simp[hc0]),aw (by unfold mh;rw[hq];rfl)]
 have hq:(decide (w.feats.length<=6)&&(al ||decide (w.feats.length=0)))=true:=by rw[<-bN,<-Qp];exact hc1
 refine aG ?_;intro u1;refine ay ?_;refine bh hm (ι:=Nat) (fun i=>[.un,.un,⟨true,.bool al⟩,.un,⟨true,.ptr 0 9 0 0⟩,⟨true,.ptr 1 4 0 0⟩,.un,.un,.un,⟨true,.int .i64 (i:Nat)⟩,⟨true,.int .i64 (w.feats.length:Nat)⟩,.un,⟨true,.sl 1 (w.feats.map D.str)⟩,.un,.un,.un]) (fun i=>[(0,.buf 9 [Rec.D r]),(1,.buf 4 [ch.D w])]) 30 (fun i=>i<=w.feats.length/\mh w.feats al=cQ (Tn w.feats) i w.feats.length) (fun i=>w.feats.length-i) 0 ⟨ae,by unfold mh;rw[hq,gC]⟩ (dy [(0,0),(1,1)]) ?_;rintro i ⟨hi,hr⟩;refine aA ?_;refine cM (fun hc2=>?_) fun hc2=>?_
 .refine fK ?_;refine ar (hc:=h349 _) ?_;refine di ?_;refine bL (i-1) ?_;refine aG ?_;refine wp_cond (fun hc3=>?_) (fun hc3=>?_)
  .have hz:Tn w.feats i=false:=by rw[<-bg,<-wf_c];exact hc3
   refine aG ?_;refine c8 ?_;rw[kZ,ak (by simp[hc0]),aw (by rw[hr,aS ae,hz];rfl)]
  have hz:Tn w.feats i=true:=by rw[<-bN,<-wf_c];exact hc3
  refine ba ?_;exact⟨i+1,⟨ae,by rw[hr,aS ae,hz];rfl⟩,ae,(dy [(0,0),(1,1)])⟩
 refine aG ?_;refine c8 ?_;rw[kZ,ak (by simp[hc0]),ak (by rw[hr,cq ae];simp)]
def yb (T:List D->D->Prop):Prop:=∀(r:Rec) (w:ch) (al:Bool),(w.sm)->T [Rec.D r,ch.D w,.bool al] (.int .i64 (kZ r w al))
def WE (Y:Ctx):Prop:=yb (bD Y 443)
def Ft:aE:=⟨2,16,[⟨2,none⟩],b8,(sq (rg [gb 9 s0,gb 3 s1,gm bx] [(10,0),(3,1),(2,2)]) (sq (sq (r1 [gf 0 s3,gd l0,gl l1,aL l2 bx] 4 3) (.cond s4 (sq (r1 [gm LY] 2 0) .ret) .skip)) (sq (sq (r1 [gf 0 s3,gd l0,gl l1,dj l2 kJ] 5 3) (.cond s5 (sq (r1 [gm kJ] 2 0) .ret) .skip)) (sq (sq (rg [gf 0 s3,gd l0,gl l1,gm bx] [(9,1),(7,2),(6,3)]) (.block 0 (.loop (sq (r1 [aX s6 s7] 8 0) (sq (fC s8 0) (sq (.block 1 (sq (r1 [ga 4 s9 s6,gk 4 true l0,gb 4 (.c (.agg [.str [],.str [],.aF,.bool false])),gt 4 l2 l1] 11 2) (sq (r1 [gk 9 true ik,gk 4 true jR,gf 0 s3,gd l2,gl l3,aL l4 cl,gx 443 [l0,l1,l5] [[.a,.a,.a,.a,.a,.a,.sl 3 [.sl 4 [.a,.a,.sl 1 [.a],.a],.a,.a],.sl 3 [.a,.a,.a],.sl 2 [.a,.sl 1 [.a]]],[.a,.a,.sl 1 [.a],.a],[.a]],gm l6] 12 7) (sq (r1 [gm kr,bO l0 bx] 13 1) (.cond qb (sq (r1 [gm kr,gm l0] 2 1) .ret) .skip))))) (r1 [az s6 cl,gm l0] 6 1))))))) (sq (sq (r1 [gf 1 s3,gd l0,gx 212 [l1] b8,iY l2] 14 3) (.cond tw (sq (r1 [gm Nf] 2 0) .ret) .skip)) (sq (sq (r1 [gf 2 s3,gd l0,bO l1 cse,gm l2,kn 3 2 s3,jM 3 l4,cr 3 (.call 349 [l5] b8),cr 3 (.un .not l6),eX l3 l7] 15 8) (.cond tx (sq (r1 [gm (i6 14)] 2 0) .ret) .skip)) (sq (r1 [gm bx] 2 0) .ret)))))))⟩
def w210 (h212:Tv Y)(h349:GR Y)(h443:WE Y)(r:Rec)(n:bw)  (hp0:n.sm):dn Y Ft (.int .i64 (jD r n)) [Rec.D r,bw.D n]:=by
 show bP _ _ _ [⟨_,_⟩,⟨_,_⟩,_,_,_,_,_,_,_,_,_,_,_,_,_,_] _;refine aq ?_;refine di ?_;intro u0;refine ay ?_;refine cM (fun hc0=>?_) fun hc0=>?_
 .refine aI ?_;refine c8 ?_;rw[jD,aw ae]
 refine aG ?_;intro u1;refine ay ?_;refine cM (fun hc1=>?_) fun hc1=>?_
 .refine aI ?_;refine c8 ?_;rw[jD,ak ae,aw ae]
 refine aG ?_;intro u2;refine ay ?_;refine bh hm (ι:=Nat) (fun i=>[.un,.un,.un,⟨true,.ptr 1 3 0 0⟩,.un,.un,⟨true,.int .i64 (i:Nat)⟩,⟨true,.int .i64 (n.any.length:Nat)⟩,.un,⟨true,.sl 4 (n.any.map ch.D)⟩,⟨true,.ptr 0 9 0 0⟩,.un,.un,.un,.un,.un]) (fun i=>[(0,.buf 9 [Rec.D r]),(1,.buf 3 [bw.D n])]) 15 (fun i=>i<=n.any.length/\oK r n.any=fQ (fun i=>kZ r n.any[i]! (decide ((n.any.length:Int)=1))) i n.any.length) (fun i=>n.any.length-i) 0 ⟨ae,rfl⟩ (dy [(0,0),(1,1)]) ?_;rintro i ⟨hi,hr⟩;refine aA ?_;refine cM (fun hc2=>?_) fun hc2=>?_
 .refine aD ?_;first|refine bH (v:=(ch.D _)) ?_|refine e8 (v:=(ch.D _)) ?_
  refine aH ?_;refine aY (ch.D n.any[i]!) (he:=aZ) ?_;refine ba ?_;intro u3;refine aH ?_;refine ar (hc:=h443 r n.any[i]! _ (hp0.1 _ (bR ae))) ?_;refine aG ?_;refine fP (fun hc3=>?_) fun hc3=>?_
  .refine ba ?_;refine c8 ?_;have hw:oK r n.any=kZ r n.any[i]! (decide ((n.any.length:Int)=1)):=by rw[hr,lD ae hc3]
   rw[jD,ak ae,ak ae,aw (by rw[hw];exact hc3),hw]
  refine ba ?_;exact⟨i+1,⟨ae,by rw[hr,pe ae hc3]⟩,ae,(dy [(0,0),(1,1)])⟩
 refine aD ?_;have hw0:oK r n.any=0:=by rw[hr,pd ae]
 refine ay ?_;refine ar (hc:=h212 _) ?_;refine ay ?_;refine av (fun hc4=>?_) (fun hc4=>?_)
 .try simp only[dq]at hc4
  refine aI ?_;refine c8 ?_;rw[jD,ak ae,ak ae,ak (by simp[hw0]),aw hc4]
 simp only[bN]at hc4;refine di ?_;refine ar (hc:=h349 _) ?_;refine aA ?_;refine av (fun hc5=>?_) (fun hc5=>?_)
 .try simp only[dq]at hc5
  refine aI ?_;refine c8 ?_;rw[jD,ak ae,ak ae,ak (by simp[hw0]),ak (by simp[hc4]),aw hc5]
 simp only[dR,bN,aT]at hc5;refine aI ?_;refine c8 ?_;rw[jD,ak ae,ak ae,ak (by simp[hw0]),ak (by simp[hc4]),ak (by rintro⟨g1,g2⟩;rcases hc5 with h|h;exact g1 h;rw[g2]at h;cases h)]
def xT (T:List D->D->Prop):Prop:=∀(r:Rec) (n:bw),(n.sm)->T [Rec.D r,bw.D n] (.int .i64 (jD r n))
def Wb (Y:Ctx):Prop:=xT (bD Y 210)
def Fs:aE:=⟨2,15,[⟨2,none⟩],b8,(sq (rg [gb 9 s0,gm bx] [(3,0),(2,1)]) (sq (rg [gm s1,gx 448 [l0] b8,gm l1,ge l2 0,ge l2 1,ge l2 2,gm l3,gm l4,gm l5] [(8,6),(10,7)]) (sq (sq (rg [gf 6 s3,gd l0,gl l1,gm bx] [(7,1),(5,2),(4,3)]) (.block 0 (.loop (sq (r1 [aX s4 s5] 6 0) (sq (fC s6 0) (sq (.block 1 (sq (r1 [ga 3 s7 s4,gk 3 true l0,gb 3 (.c (.agg [.aF,.str [],.str []])),gt 3 l2 l1] 9 2) (sq (r1 [gm s8,aL l0 jC,gm l1,kn 2 2 s9,jM 2 l3,gmt 2 ik,cr 2 (cV l4 l5),eX l2 l6,gm l7,ek 8 s8,cn 8 (cV l9 kJ),ek 8 l10,kn 11 0 s9,jM 11 iv,cr 11 (.len jr),cr 11 (cV jT cl),zf 8 fZ lg,ek 8 nw,kn 17 0 s9,jM 17 pL,cr 17 (.ia 4 qx bx),kn 17 0 uN,jM 17 xc,gmt 17 ik,cr 17 (cV zm C6),zf 8 oU D5,eW l8 GM] 11 26) (.cond jR (sq (r1 [gm bx] 2 0) .ret) .skip)))) (r1 [az s4 cl,gm l0] 4 1))))))) (sq (sq (r1 [gm s8] 12 0) (.block 2 (sq (r1 [aL kr jC,gm l0] 13 1) (.cond qb (sq (r1 [gm (i6 14)] 2 0) .ret) (sq (r1 [aL kr kJ,gm l0] 14 1) (.cond tw (sq (r1 [gm (i6 16)] 2 0) .ret) .skip)))))) (sq (r1 [gm bx] 2 0) .ret)))))⟩
def w214 (h448:TF Y)(r:Rec)(s:au)  (hp0:s.length<=1048576):dn Y Fs (.int .i64 (m9 r s)) [Rec.D r,.str s]:=by
 show bP _ _ _ [⟨_,_⟩,⟨_,_⟩,_,_,_,_,_,_,_,_,_,_,_,_,_] _;refine aq ?_;refine aI ?_;refine ar (hc:=h448 s hp0) ?_;refine lA ?_;intro u0;refine ay ?_;refine bh hm (ι:=Nat) (fun i=>[.un,.un,.un,⟨true,.ptr 0 9 0 0⟩,⟨true,.int .i64 (i:Nat)⟩,⟨true,.int .i64 (r.needs.length:Nat)⟩,.un,⟨true,.sl 3 (r.needs.map bw.D)⟩,⟨true,.int .i64 (dU s).1⟩,.un,⟨true,.str (dU s).2.1⟩,.un,.un,.un,.un]) (fun i=>[(0,.buf 9 [Rec.D r])]) 15 (fun i=>i<=r.needs.length/\m9 r s=(if(r.needs.drop i).any (Zu (dU s).1 (dU s).2.1)=true then 0 else UX (dU s).1)) (fun i=>r.needs.length-i) 0 ⟨ae,Oz r s⟩ (dy [(0,0)]) ?_;rintro i ⟨hi,hr⟩;refine aA ?_;refine cM (fun hc0=>?_) fun hc0=>?_
 .refine aD ?_;first|refine bH (v:=(bw.D _)) ?_|refine e8 (v:=(bw.D _)) ?_
  refine aH ?_;refine aY (bw.D r.needs[i]!) (he:=aZ) ?_;refine AK ?_;refine iJ ?_;refine aI ?_;refine bL 0 (hb:=fun h=>by simp only[gC,beq_iff_eq,bG,aT]at h;omega) ?_;refine aH ?_;refine bH (q:=ch.D) (xs:=r.needs[i]!.any) (i:=0) (hi:=fun h=>by simp only[gC,beq_iff_eq,bG,aT]at h;omega) (v:=(.str r.needs[i]!.any[0]!.name)) ?_;refine aI ?_;refine wp_cond (fun hc1=>?_) (fun hc1=>?_)
  .have hz:Zu (dU s).1 (dU s).2.1 r.needs[i]! =true:=hc1;refine aG ?_;refine c8 ?_;rw[hr,tL ae hz];rfl
  have hz:Zu (dU s).1 (dU s).2.1 r.needs[i]! =false:=hc1;refine ba ?_;exact⟨i+1,⟨ae,by rw[hr,yH ae hz]⟩,ae,(dy [(0,0)])⟩
 refine aD ?_;have he:m9 r s=UX (dU s).1:=by rw[hr,tK ae];rfl
 refine ba ?_;refine fP (fun hc2=>?_) fun hc2=>?_
 .refine aI ?_;refine c8 ?_;rw[he,UX,aw hc2]
 refine aD ?_;refine fP (fun hc3=>?_) fun hc3=>?_
 .refine aI ?_;refine c8 ?_;rw[he,UX,ak hc2,aw hc3]
 refine aG ?_;refine c8 ?_;rw[he,UX,ak hc2,ak hc3]
def JV (T:List D->D->Prop):Prop:=∀(r:Rec) (s:au),(s.length<=1048576)->T [Rec.D r,.str s] (.int .i64 (m9 r s))
def Wd (Y:Ctx):Prop:=JV (bD Y 214)
def Dr:aE:=⟨1,39,[⟨1,none⟩,⟨2,none⟩],fA,(sq (rg [gb 9 s0,gm bx,gm bx] [(3,0),(1,1),(2,2)]) (sq (.block 0 (sq (r1 [gf 0 s3,gd l0,gx 208 [l1] b8,iY l2,gm l3] 4 4) (.cond s4 (sq (rg [gm wC,gm bx] [(1,0),(2,1)]) .ret) (sq (r1 [gf 1 s3,gk 5 true l0,gx 209 [l1] xA,iY l2,gm l3] 5 4) (.cond s5 (sq (rg [gm Hj,gm bx] [(1,0),(2,1)]) .ret) (sq (r1 [gf 6 s3,gd l0,gl l1,dj l2 EP,gm l3,ig 4 7 s3,hZ 4 l5,cn 4 (.len l6),cn 4 (eG l7 EP),eW l4 l8,gm l9] 6 10) (.cond s6 (sq (rg [gm kJ,gm bx] [(1,0),(2,1)]) .ret) .skip))))))) (sq (sq (rg [gf 6 s3,gd l0,gl l1,gm bx] [(10,1),(8,2),(7,3)]) (.block 1 (.loop (sq (r1 [aX s7 s8] 9 0) (sq (fC s9 1) (sq (.block 2 (sq (rg [gm s7,ga 3 ik s7,gk 3 true l1,gb 3 (.c (.agg [.aF,.str [],.str []])),gm l0,gt 3 l3 l2] [(11,3),(14,4)]) (sq (r1 [gk 9 true s3,gk 3 true jR,gx 210 [l0,l1] [[.a,.a,.a,.a,.a,.a,.sl 3 [.sl 4 [.a,.a,.sl 1 [.a],.a],.a,.a],.sl 3 [.a,.a,.a],.sl 2 [.a,.sl 1 [.a]]],[.sl 4 [.a,.a,.sl 1 [.a],.a],.a,.a]],gm l2] 12 3) (sq (r1 [gm kr,bO l0 bx] 13 1) (.cond qb (sq (rg [gm kr,gm tw,gm l0,gm l1] [(1,2),(2,3)]) .ret) .skip))))) (r1 [az s7 cl,gm l0] 7 1))))))) (sq (sq (rg [gf 7 s3,gd l0,gl l1,gm bx] [(18,1),(16,2),(15,3)]) (.block 3 (.loop (sq (r1 [aX tx AQ] 17 0) (sq (fC DG 3) (sq (.block 4 (sq (rg [gm tx,ga 3 D7 tx,gk 3 true l1,gb 3 (.c (.agg [.str [],.str [],.str []])),gm l0,gt 3 l3 l2] [(19,3),(22,4)]) (sq (sq (r1 [gk 9 true s3,gf 0 QH,gd l1,gf 1 QH,gd l3,gx 211 [l0,l2,l4] [[.a,.a,.a,.a,.a,.a,.sl 3 [.sl 4 [.a,.a,.sl 1 [.a],.a],.a,.a],.sl 3 [.a,.a,.a],.sl 2 [.a,.sl 1 [.a]]],[.a],[.a]],gm l5] 20 6) (sq (r1 [gm Ig,bO l0 bx] 21 1) (.cond V1 (sq (rg [gm Ig,gm V2,gm l0,gm l1] [(1,2),(2,3)]) .ret) .skip))) (sq (r1 [gf 2 QH,gd l0,gx 212 [l1] b8,iY l2] 23 3) (.cond s23 (sq (rg [gm V2,gm Nf,gm l0] [(1,1),(2,2)]) .ret) .skip))))) (r1 [az tx cl,gm l0] 15 1))))))) (sq (sq (r1 [gf 8 s3,gd l0,gx 213 [l1] [[.sl 2 [.a,.sl 1 [.a]]]],iY l2] 24 3) (.cond VG (sq (rg [gm (i6 11),gm bx] [(1,0),(2,1)]) .ret) .skip)) (sq (sq (rg [gf 8 s3,gd l0,gl l1,gm bx] [(28,1),(26,2),(25,3)]) (.block 5 (.loop (sq (r1 [aX V3 ZR] 27 0) (sq (fC s27 5) (sq (.block 6 (sq (rg [gm V3,ga 2 s28 V3,gk 2 true l1,gb 2 (.c (.agg [.str [],.aF])),gm l0,gt 2 l3 l2] [(29,3),(37,4)]) (sq (rg [gf 1 s29,gd l0,gl l1,gm bx] [(33,1),(31,2),(30,3)]) (.block 7 (.loop (sq (r1 [aX Tk s31] 32 0) (sq (fC s32 7) (sq (.block 8 (sq (r1 [ga 1 s33 Tk,gd l0,gm l1] 34 2) (sq (r1 [gk 9 true s3,gm s34,gx 214 [l0,l1] [[.a,.a,.a,.a,.a,.a,.sl 3 [.sl 4 [.a,.a,.sl 1 [.a],.a],.a,.a],.sl 3 [.a,.a,.a],.sl 2 [.a,.sl 1 [.a]]],[.a]],gm l2] 35 3) (sq (r1 [gm s35,bO l0 bx] 36 1) (.cond s36 (sq (rg [gm s35,gm s37,gm l0,gm l1] [(1,2),(2,3)]) .ret) .skip))))) (r1 [az Tk cl,gm l0] 30 1))))))))) (r1 [az V3 cl,gm l0] 25 1))))))) (sq (sq (r1 [gk 9 true s3,gx 215 [l0] [[.a,.a,.a,.a,.a,.a,.sl 3 [.sl 4 [.a,.a,.sl 1 [.a],.a],.a,.a],.sl 3 [.a,.a,.a],.sl 2 [.a,.sl 1 [.a]]]],ov l1,dj l2 (i6 4096)] 38 3) (.cond s38 (sq (rg [gm kJ,gm bx] [(1,0),(2,1)]) .ret) .skip)) (sq (rg [gm bx,gm bx] [(1,0),(2,1)]) .ret))))))))⟩
def w70 (h208:La Y)(h209:GP Y)(h210:Wb Y)(h211:Tu Y)(h212:Tv Y)(h213:Wc Y)(h214:Wd Y)(h215:Tw Y)(r:Rec)  (hp0:gW r):dn Y Dr (.tup [.int .i64 (c7 r).1,.int .i64 (c7 r).2]) [Rec.D r]:=by
 show bP _ _ _ (⟨true,Rec.D r⟩::.un::.un::.un::.un::.un::.un::.un::.un::.un::.un::.un::.un::.un::.un::.un::.un::.un::.un::.un::.un::.un::.un::.un::.un::.un::.un::.un::.un::.un::.un::.un::.un::.un::.un::.un::.un::.un::.un::[]) ⟨0,[]⟩;refine aq ?_;refine bU ?_;refine ar (hc:=h208 _) ?_;refine aA ?_;refine wp_cond (fun hc0=>?_) (fun hc0=>?_)
 .try simp only[dq]at hc0
  refine aG ?_;refine bI (aK (aj (D.int .i64) ?_) (aj (D.int .i64) ?_));all_goals (have hq:c7 r=(4,0):=(by rw[c7,aw hc0]);rw[hq];first|done|rfl)
 simp only[bN]at hc0;refine ay ?_;refine bd (v:=cy.D r.v) ?_;refine ar (hc:=h209 r.v hp0.1.2) ?_;refine aA ?_;refine wp_cond (fun hc1=>?_) (fun hc1=>?_)
 .try simp only[dq]at hc1
  refine aG ?_;refine bI (aK (aj (D.int .i64) ?_) (aj (D.int .i64) ?_));all_goals (have hq:c7 r=(5,0):=(by rw[c7,ak (by simp[hc0]),aw hc1]);rw[hq];first|done|rfl)
 simp only[bN]at hc1;refine aD ?_;intro u0;refine aD ?_;refine iJ ?_;refine aD ?_;refine fP (fun hc2=>?_) fun hc2=>?_
 .refine aG ?_;refine bI (aK (aj (D.int .i64) ?_) (aj (D.int .i64) ?_));all_goals (have hq:c7 r=(3,0):=(by rw[c7,ak (by simp[hc0]),ak (by simp[hc1]),aw ae]);rw[hq];first|done|rfl)
 refine ba ?_;intro u1;refine ay ?_;refine bh hm (ι:=Nat) (fun i=>(.un::.un::.un::⟨true,.ptr 0 9 0 0⟩::.un::.un::.un::⟨true,.int .i64 (i:Nat)⟩::⟨true,.int .i64 (r.needs.length:Nat)⟩::.un::⟨true,.sl 3 (r.needs.map bw.D)⟩::.un::.un::.un::.un::.un::.un::.un::.un::.un::.un::.un::.un::.un::.un::.un::.un::.un::.un::.un::.un::.un::.un::.un::.un::.un::.un::.un::.un::[])) (fun i=>[(0,.buf 9 [Rec.D r])]) 28 (fun i=>i<=r.needs.length/\n7 r=ji (fun i=>jD r r.needs[i]!) i r.needs.length) (fun i=>r.needs.length-i) 0 ⟨ae,rfl⟩ (dy [(0,0)]) ?_;rintro i ⟨hi,hr⟩;refine aA ?_;refine cM (fun hc3=>?_) fun hc3=>?_
 .refine aI ?_;first|refine bH (v:=(bw.D _)) ?_|refine e8 (v:=(bw.D _)) ?_
  refine ay ?_;refine aY (bw.D r.needs[i]!) (he:=aZ) ?_;refine aD ?_;refine ar (hc:=h210 r r.needs[i]! (hp0.2.1 _ (bR ae))) ?_;refine aG ?_;refine fP (fun hc4=>?_) fun hc4=>?_
  .refine di ?_;refine bI (aK (aj (D.int .i64) ?_) (aj (D.int .i64) ?_));all_goals
    have hq:c7 r=(jD r r.needs[i]!,((i:Nat):Int)):=by
     exact o9 hc0 hc1 ae ae (Fg (by rw[hr,j5 ae hc4]) hc4) hc4
    rw[hq];first|done|rfl
  refine ba ?_;exact⟨i+1,⟨ae,by rw[hr,nD ae hc4]⟩,ae,(dy [(0,0)])⟩
 refine aD ?_;have hn0:n7 r=(0,0):=by rw[hr,nC ae]
 refine aA ?_;intro u2;refine ay ?_;refine bh hm (ι:=Nat) (fun i=>(.un::.un::.un::⟨true,.ptr 0 9 0 0⟩::.un::.un::.un::.un::.un::.un::.un::.un::.un::.un::.un::⟨true,.int .i64 (i:Nat)⟩::⟨true,.int .i64 (r.bars.length:Nat)⟩::.un::⟨true,.sl 3 (r.bars.map fM.D)⟩::.un::.un::.un::.un::.un::.un::.un::.un::.un::.un::.un::.un::.un::.un::.un::.un::.un::.un::.un::.un::[])) (fun i=>[(0,.buf 9 [Rec.D r])]) 33 (fun i=>i<=r.bars.length/\tO r=ji (fun i=>qt r r.bars[i]!) i r.bars.length) (fun i=>r.bars.length-i) 0 ⟨ae,rfl⟩ (dy [(0,0)]) ?_;rintro i ⟨hi,hr⟩;refine aA ?_;refine cM (fun hc5=>?_) fun hc5=>?_
 .refine aI ?_;first|refine bH (v:=(fM.D _)) ?_|refine e8 (v:=(fM.D _)) ?_
  refine ay ?_;refine aY (fM.D r.bars[i]!) (he:=aZ) ?_;refine bU ?_;refine ar (hc:=h211 r r.bars[i]!.name r.bars[i]!.range (hp0.2.2.1 _ (bR ae)).2.1) ?_;refine ba ?_;refine av (fun hc6=>?_) (fun hc6=>?_)
  .simp only[bg,bm]at hc6;have hbe:qt r r.bars[i]! =gR r r.bars[i]!.name r.bars[i]!.range:=by rw[qt,aw hc6]
   refine gv ?_;refine bI (aK (aj (D.int .i64) ?_) (aj (D.int .i64) ?_));all_goals
    have hq:c7 r=(gR r r.bars[i]!.name r.bars[i]!.range,((i:Nat):Int)):=by
     exact o9 hc0 hc1 ae ae (zK hn0 (by rw[hr,j5 ae (by rw[hbe];exact hc6),hbe]) hc6) hc6
    rw[hq];first|done|rfl
  try simp only[dq]at hc6
  refine aD ?_;refine ar (hc:=h212 _) ?_;refine ay ?_;refine wp_cond (fun hc7=>?_) (fun hc7=>?_)
  .simp only[bg]at hc7;have hbe:qt r r.bars[i]! =7:=by rw[qt,ak (fun h=>h hc6),aw hc7]
   refine bU ?_;refine bI (aK (aj (D.int .i64) ?_) (aj (D.int .i64) ?_));all_goals
    have hq:c7 r=((7:Int),((i:Nat):Int)):=by
     exact o9 hc0 hc1 ae ae (zK hn0 (by rw[hr,j5 ae (by rw[hbe];decide),hbe]) (show(7:Int)≠0 by decide)) (show(7:Int)≠0 by decide)
    rw[hq];first|done|rfl
  simp only[bN]at hc7;have hbz:qt r r.bars[i]! =0:=by rw[qt,ak (fun h=>h hc6),ak (by rw[hc7];simp)]
  refine ba ?_;exact⟨i+1,⟨ae,by rw[hr,nD ae hbz]⟩,ae,(dy [(0,0)])⟩
 refine aD ?_;have hb0:tO r=(0,0):=by rw[hr,nC ae]
 refine ay ?_;refine ar (hc:=h213 r.feats hp0.2.2.2) ?_;refine ay ?_;refine av (fun hc8=>?_) (fun hc8=>?_)
 .try simp only[dq]at hc8
  refine aG ?_;refine bI (aK (aj (D.int .i64) ?_) (aj (D.int .i64) ?_));all_goals
   have hq:c7 r=(11,0):=by
    exact o9 hc0 hc1 ae ae (Fh hn0 hb0 hc8) aM
   rw[hq];first|done|rfl
 simp only[bN]at hc8;refine aG ?_;intro u3;refine ay ?_;refine bh hm (ι:=Nat) (fun i=>(.un::.un::.un::⟨true,.ptr 0 9 0 0⟩::.un::.un::.un::.un::.un::.un::.un::.un::.un::.un::.un::.un::.un::.un::.un::.un::.un::.un::.un::.un::.un::⟨true,.int .i64 (i:Nat)⟩::⟨true,.int .i64 (r.feats.length:Nat)⟩::.un::⟨true,.sl 2 (r.feats.map cv.D)⟩::.un::.un::.un::.un::.un::.un::.un::.un::.un::.un::[])) (fun i=>[(0,.buf 9 [Rec.D r])]) 42 (fun i=>i<=r.feats.length/\yY r=ji (fun i=>lH r r.feats[i]!.of) i r.feats.length) (fun i=>r.feats.length-i) 0 ⟨ae,rfl⟩ (dy [(0,0)]) ?_;rintro i ⟨hi,hr⟩;refine aA ?_;refine cM (fun hc9=>?_) fun hc9=>?_
 .refine aI ?_;first|refine bH (v:=(cv.D _)) ?_|refine e8 (v:=(cv.D _)) ?_
  refine ay ?_;refine aY (cv.D r.feats[i]!) (he:=aZ) ?_;refine aI ?_;intro u4;refine ay ?_;refine qi hm (ι:=Nat) (fun j=>(.un::.un::.un::⟨true,.ptr 0 9 0 0⟩::.un::.un::.un::.un::.un::.un::.un::.un::.un::.un::.un::.un::.un::.un::.un::.un::.un::.un::.un::.un::.un::⟨true,.int .i64 (i:Nat)⟩::⟨true,.int .i64 (r.feats.length:Nat)⟩::.un::⟨true,.sl 2 (r.feats.map cv.D)⟩::.un::⟨true,.int .i64 (j:Nat)⟩::⟨true,.int .i64 (r.feats[i]!.of.length:Nat)⟩::.un::⟨true,.sl 1 (r.feats[i]!.of.map D.str)⟩::.un::.un::.un::⟨true,.int .i64 (i:Nat)⟩::.un::[])) (fun j=>[(0,.buf 9 [Rec.D r])]) 53 (fun j=>j<=r.feats[i]!.of.length/\lH r r.feats[i]!.of=fQ (fun j=>m9 r r.feats[i]!.of[j]!) j r.feats[i]!.of.length) (fun j=>r.feats[i]!.of.length-j) 0 ⟨ae,rfl⟩ (dy [(0,0)]) ?_;rintro j ⟨hj,hjr⟩;refine aA ?_;refine cM (fun hc10=>?_) fun hc10=>?_
  .refine gv ?_;refine ar (hc:=h214 r r.feats[i]!.of[j]! ((hp0.2.2.2 _ (bR ae)).2.2 _ (bR ae))) ?_;refine aG ?_;refine fP (fun hc11=>?_) fun hc11=>?_
   .refine fK ?_;refine bI (aK (aj (D.int .i64) ?_) (aj (D.int .i64) ?_));all_goals
     have hq:c7 r=(m9 r r.feats[i]!.of[j]!,((i:Nat):Int)):=by
      have hie:lH r r.feats[i]!.of=m9 r r.feats[i]!.of[j]! :=by rw[hjr,lD ae hc11]
      exact o9 hc0 hc1 ae ae (uv hn0 hb0 hc8 (by rw[hr,j5 (f:=(fun i=>lH r r.feats[i]!.of)) ae (by rw[hie];exact hc11),hie])) hc11
     rw[hq];first|done|rfl
   refine ba ?_;exact⟨j+1,⟨ae,by rw[hjr,pe ae hc11]⟩,ae,(dy [(0,0)])⟩
  refine bU ?_;exact⟨i+1,⟨ae,by rw[hr,nD (f:=(fun i=>lH r r.feats[i]!.of)) ae (by rw[hjr,pd ae])]⟩,ae,(dy [(0,0)])⟩
 refine aD ?_;have hpz:eQ r=(0,0):=uv hn0 hb0 hc8 (by rw[hr,nC ae]);have hgd:zi r:=⟨⟨hc0,hc1⟩,⟨ae,ae⟩,hpz⟩;refine aH ?_;refine ar (hc:=h215 r ⟨hgd,hp0⟩) ?_;refine aH ?_;intro u5;refine ay ?_;refine cM (fun hc12=>?_) fun hc12=>?_
 .refine aG ?_;refine bI (aK (aj (D.int .i64) ?_) (aj (D.int .i64) ?_));all_goals
   have hq:c7 r=(3,0):=by
    rw[tT hc0 hc1 ae ae hpz,aw ae]
   rw[hq];first|done|rfl
 refine aG ?_;refine bI (aK (aj (D.int .i64) ?_) (aj (D.int .i64) ?_));all_goals
  have hq:c7 r=(0,0):=by
   rw[tT hc0 hc1 ae ae hpz,ak ae]
  rw[hq];first|done|rfl
def DX (T:List D->D->Prop):Prop:=∀(r:Rec),(gW r)->T [Rec.D r] (.tup [.int .i64 (c7 r).1,.int .i64 (c7 r).2])
def C70 (Y:Ctx):Prop:=DX (bD Y 70)
def Ds:aE:=⟨1,12,[⟨1,some (9,true)⟩,⟨2,none⟩,⟨3,none⟩],[[.a,.a,.a,.a,.a,.a,.sl 3 [.sl 4 [.a,.a,.sl 1 [.a],.a],.a,.a],.sl 3 [.a,.a,.a],.sl 2 [.a,.sl 1 [.a]]],[.a],[.a]],(sq (rg [gb 9 (.c (.agg [.str [],.int .i64 0,.int .i64 0,.int .i64 0,.str [],.str [],.aF,.aF,.aF])),gm bx,gm bx] [(1,0),(2,1),(3,2)]) (sq (sq (r1 [gm s0,ov l0,dj l1 (i6 4096)] 4 2) (.cond s4 (sq (rg [gn (.build [.str [],.int .i64 0,.int .i64 0,.int .i64 0,.str [],.str [],.aF,.aF,.aF] []),gt 9 s1 l0,gm kJ,gm bx] [(2,2),(3,3)]) .ret) .skip)) (sq (r1 [gm s0,gx 124 [l0,(cs [10])] fA,gm l1] 5 2) (sq (r1 [gm s5,gm s5,gl l1,dV l2 cl,gn (.slA 1 l0 none (some l3)),gn (.build [.aF,.int .i64 0] [(0,1,l4)]),gb 2 l5,gm l6] 6 7) (sq (rg [gm s6,gn (.callF 222 l0 [] []),gm l1,ge l2 0,ge l2 1,gb 9 (.c (.agg [.str [],.int .i64 0,.int .i64 0,.int .i64 0,.str [],.str [],.aF,.aF,.aF])),gt 9 l5 l3,gm l4] [(9,5),(7,7)]) (sq (sq (r2 [gm s7,iY l0,gm l1,ek 2 s6,cn 2 (.nilck l3),ig 2 1 l4,hZ 2 l5,ek 2 s6,cn 2 (.nilck l7),ig 2 0 l8,hZ 2 l9,cn 2 (.len l10),cn 2 (oW l6 fZ),eW l2 iv,gm jr,ek 14 s5,ek 14 s5,cn 14 (.len nw),cn 14 (jK oU cl),cn 14 (.ia 1 lg pL),hZ 14 qx,cn 14 (dS uN cse),eW jT xc] 8 22) (.cond s8 (sq (rt [gn (.build [.str [],.int .i64 0,.int .i64 0,.int .i64 0,.str [],.str [],.aF,.aF,.aF] []),gm s6,gc l1,gf 1 l2,gn (.ldI 1 false l3),az l4 cl,gt 9 s1 l0,gm jC,gm l5] [(2,7),(3,8)]) .ret) .skip)) (sq (sq (r1 [gk 9 true s9,gx 70 [l0] [[.a,.a,.a,.a,.a,.a,.sl 3 [.sl 4 [.a,.a,.sl 1 [.a],.a],.a,.a],.sl 3 [.a,.a,.a],.sl 2 [.a,.sl 1 [.a]]]],gm l1,ge l2 0,ge l2 1,gm l3,gm l4] 10 5) (sq (r1 [gm ik,bO l0 bx] 11 1) (.cond jR (sq (rg [gn (.build [.str [],.int .i64 0,.int .i64 0,.int .i64 0,.str [],.str [],.aF,.aF,.aF] []),gm ik,gt 9 s1 l0,gm l1,gm bx] [(2,3),(3,4)]) .ret) .skip))) (sq (rg [gk 9 true s9,gt 9 s1 l0,gm bx,gm bx] [(2,2),(3,3)]) .ret))))))))⟩
def w76 (hm:(Y.at 0).cj)(h70:C70 Y)(h124:K9 Y)(h222:Wh Y)(s:au)   :dn Y Ds (.tup [Rec.D (cF s).1,.int .i64 (cF s).2.1,.int .i64 (cF s).2.2]) [.str s]:=by
 show bP _ _ _ [⟨_,_⟩,_,_,_,_,_,_,_,_,_,_,_] _;refine aq ?_;refine bU ?_;intro u0;refine ay ?_;refine av (fun hc0=>?_) (fun hc0=>?_)
 .simp only[aT]at hc0;have hrr:cF s=(gT,3,0):=by unfold cF;rw[aw ae]
  rw[hrr];refine ay ?_;refine bA dP ?_;refine aY dP (he:=aZ) ?_;refine aA ?_;refine nk [(0,.buf 9 [Rec.D gT])] (.bf ah (.cons mf .nil) .nil) ?_;refine aH ?_;refine bI (dc ?_ (aj (D.int .i64) ?_) (aj (D.int .i64) ?_));all_goals rfl
 simp only[bm]at hc0;have hsp:=eE 10 s [];have hsp:1<=(ai s 10).length:=hsp;have hsl:=dd s 10;refine aA ?_;refine ar (v:=.sl 1 ((ai s 10).map D.str)) (hc:=h124 s 10 ae) ?_;refine aG ?_;intro u1;refine aH ?_;refine pC ((ai s 10).length-1) (hj:=fun _=>ae) (hb:=fun _=>ae) ?_;refine bA (Ld.D ⟨((ai s 10).take ((ai s 10).length-1)),0⟩) ?_;refine aD ?_;generalize hLS:((ai s 10).take ((ai s 10).length-1))=LS;have hLl:LS.length=(ai s 10).length-1:=by rw[<-hLS,fX];omega
 have hLm:AN LS:=fun t ht=>by
  rw[<-hLS]at ht;have:=dK s 10 (lf ht);omega
 have hsm0:(⟨LS,0⟩:Ld).sm:=⟨⟨Nat.zero_le _,by simp only;omega⟩,hLm⟩;obtain⟨hrs,hsf⟩:=Dq hLm;have hsfl:=hsf.length_le;refine aH ?_;refine nA (v:=.tup [Rec.D (gz LS).1,.bool (pD LS).isSome]) (e:=Ld.D ((⟨LS,0⟩:Ld).to (gz LS).2)) (hc:=h222 ⟨LS,0⟩ hsm0) ?_;refine aH ?_;refine e7 (Rec.D _) ?_;refine ay ?_;refine aY (Rec.D (gz LS).1) (he:=aZ) ?_;refine gv ?_;refine bd (v:=.int .i64 ((LS.length-(gz LS).2.length:Nat):Int)) ?_;refine aA ?_;refine bd (v:=.sl 1 (LS.map D.str)) ?_;refine iJ ?_;refine aI ?_;refine iJ ?_;refine aH ?_;refine bL ((ai s 10).length-1) (hj:=fun _=>ae) (hb:=fun _=>ae) ?_;refine bH (v:=.str (ai s 10)[(ai s 10).length-1]!) (hi:=fun _=>ae) ?_;refine aA ?_;refine av (fun hc1=>?_) (fun hc1=>?_)
 .simp only[cS,bg,aT,bm]at hc1;have hrr:cF s=(gT,2,((LS.length-(gz LS).2.length:Nat):Int)+1):=by
   unfold cF;rw[ak ae];simp only[hLS];rw[aw];rcases hc1 with(h|h)|h
   .exact .inl h
   .refine .inr (.inl fun e=>?_);rw[e]at h;simp only[aB]at h;omega
   .exact .inr (.inr h)
  rw[hrr];refine aH ?_;refine fE 15 (he:=by simp only[ll,iQ,iX,mq,nt,cL,Nat.reduceEqDiff,a7,a8,cR,cu,cx,cT,cX,bT,bQ,aQ,cg,aP,reduceCtorEq,ax,aB,Nat.reduceAdd,Nat.reduceLeDiff,Ld.D,dP,px];exact rfl) (hm:=by simp only[ll,iQ,iX,mq,nt,cL,Nat.reduceEqDiff,a7,a8,cR,cu,cx,cT,cX,bT,bQ,aQ,cg,aP,reduceCtorEq,ax,aB,Nat.reduceAdd,Nat.reduceLeDiff,Ld.D,dP,Rec.D];exact rfl) ?_;refine aH ?_;refine bA dP ?_;refine aA ?_;refine Dl (v:=.int .i64 ((LS.length-(gz LS).2.length:Nat):Int)) ?_;refine aH ?_;refine aY dP (he:=aZ) ?_;refine aA ?_;refine nk [(0,.buf 9 [Rec.D gT]),(22,.buf 9 [Rec.D (gz LS).1])] (.bf ah (.cons mf .nil) (.id ah .nil)) ?_;refine aH ?_;refine bI (dc ?_ (aj (D.int .i64) ?_) (aj (D.int .i64) ?_));all_goals rfl
 simp only[dh,bN,aT,bm]at hc1;have hrr:cF s=if(c7 (gz LS).1).1≠0 then(gT,(c7 (gz LS).1).1,0)else((gz LS).1,0,0):=by
  unfold cF;rw[ak ae];simp only[hLS];rw[ak];rintro(h|h|h)
  .rw[hc1.1.1]at h;cases h
  .exact h (lY (by have:=hc1.1.2;omega))
  .exact h hc1.2
 rw[hrr];refine aA ?_;refine de (d:=Rec.D (gz LS).1) ?_;refine ar (hc:=h70 (gz LS).1 hrs) ?_;refine fK ?_;refine av (fun hc2=>?_) (fun hc2=>?_)
 .simp only[bg,bm]at hc2;rw[aw hc2];refine ay ?_;refine bA dP ?_;refine aH ?_;refine aY dP (he:=aZ) ?_;refine aA ?_;refine nk [(0,.buf 9 [Rec.D gT]),(15,.buf 2 [Ld.D ((⟨LS,0⟩:Ld).to (gz LS).2)]),(22,.buf 9 [Rec.D (gz LS).1])] (.bf ah (.cons mf .nil) (.id ah (.id ah .nil))) ?_;refine aH ?_;refine bI (dc ?_ (aj (D.int .i64) ?_) (aj (D.int .i64) ?_));all_goals rfl
 simp only[bN,aT]at hc2;rw[ak (by rw[hc2];simp)];refine ay ?_;refine de (d:=Rec.D (gz LS).1) ?_;refine aY (Rec.D (gz LS).1) (he:=aZ) ?_;refine aD ?_;refine bI (dc ?_ (aj (D.int .i64) ?_) (aj (D.int .i64) ?_));all_goals rfl
def D0 (T:List D->D->Prop):Prop:=∀(s:au),T [.str s] (.tup [Rec.D (cF s).1,.int .i64 (cF s).2.1,.int .i64 (cF s).2.2])
def C76 (Y:Ctx):Prop:=D0 (bD Y 76)
def tu (t:au)(n:Nat):Bool:=decide (n<(ai t 32).length)&&cQ (fun i=>!decide ((ai t 32)[i]! =[])) 0 n
def gQ (t:au)(n:Nat):List au×au×Bool:=if tu t n=true then((ai t 32).take n,aV [32] ((ai t 32).drop n),!decide (aV [32] ((ai t 32).drop n)=[]))else([],[],false)
theorem Da {l:List au}{n:Nat}{x:au}(hn:n<=l.length):x∈l.take n↔∃i,i<n/\l[i]! =x:=by
 constructor
 .intro h;obtain⟨i,hi,e⟩:=List.mem_iff_getElem.1 h;rw[fX]at hi;refine⟨i,ae, ?_⟩
  grind
 .rintro⟨i,hi,rfl⟩;have:l[i]! =(l.take n)[i]! :=by simp[hi,show i<l.length by omega]
  grind
theorem DB (t:au)(n:Nat):oa t n=if(gQ t n).2.2=true then some ((gQ t n).1,(gQ t n).2.1)else none:=by
 grind [oa,gQ,tu,ai,cQ,fG,Da,aV]
def Fc (l:List au)(n:Nat):vI l n=(decide (l.length=n)&&cQ (fun i=>!decide (l[i]! =[])) 0 l.length):=by
 grind [ra,fG,bR,uo]
def aC (s:au):List au×Bool:=if(ai s 10)[(ai s 10).length-1]! =[]then((ai s 10).take ((ai s 10).length-1),true)else(ai s 10,false)
def HQ:aE:=⟨2,11,[⟨2,none⟩,⟨3,none⟩,⟨4,none⟩],[[.sl 1 [.a]],[.a],[.a]],(sq (rg [gm (.c (.aF)),gm cse,gm cZ] [(2,0),(3,1),(4,2)]) (sq (r1 [gm s0,gx 470 [l0,(i8 32)] fA,gm l1] 5 2) (sq (sq (r1 [gm s5,gl l0,gm s1,zx l1 l2] 6 3) (.cond s6 (sq (rg [gm (.c (.aF)),gm cse,gm cZ] [(2,0),(3,1),(4,2)]) .ret) .skip)) (sq (sq (r1 [gm bx] 7 0) (.block 0 (.loop (sq (sq (r1 [gm s7,gm s1,aX l0 l1] 8 2) (fC s8 0)) (sq (.block 1 (sq (r1 [gm s5,gm s7,ga 1 l0 l1,gd l2,aL l3 cse] 9 4) (.cond s9 (sq (rg [gm (.c (.aF)),gm cse,gm cZ] [(2,0),(3,1),(4,2)]) .ret) .skip))) (r1 [gm s7,az l0 cl,gm l1] 7 2)))))) (sq (r1 [gm s5,gm s1,gn (.slA 1 l0 (some l1) none),gx 249 [l2,(i8 32)] [[.sl 1 [.a]],[.a]],gm l3] 10 4) (sq (rg [gm s5,gm s1,gn (.slA 1 l0 none (some l1)),gm ik,gm ik,bO l4 cse,gm l2,gm l3,gm l5] [(2,6),(3,7),(4,8)]) .ret))))))⟩
def w475 (h249:Lc Y)(h470:sI Y)(s:au)(n:Nat)  (hp0:s.length<=1048576)(hp1:n<=100):dn Y HQ (.tup [.sl 1 ((gQ s n).1.map D.str),.str (gQ s n).2.1,.bool (gQ s n).2.2]) [.str s,.int .i64 (n:Nat)]:=by
 show bP _ _ _ [⟨_,_⟩,⟨_,_⟩,_,_,_,_,_,_,_,_,_] _;have hsl:=dd s 32;refine aq ?_;refine aG ?_;refine ar (v:=.sl 1 ((ai s 32).map D.str)) (hc:=h470 s 32 hp0) ?_;refine aG ?_;intro u0;refine aA ?_;refine av (fun hc0=>?_) (fun hc0=>?_)
 .simp only[aT]at hc0;have hrd:gQ s n=([],[],false):=by unfold gQ tu;rw[cJ ae];rfl
  rw[hrd];refine ba ?_;refine bI (dc ?_ ?_ ?_);all_goals rfl
 simp only[bm]at hc0;have hlt:n<(ai s 32).length:=ae;refine aI ?_;refine bh hm (ι:=Nat) (fun i=>[⟨true,.str s⟩,⟨true,.int .i64 (n:Nat)⟩,⟨true,.aF⟩,⟨true,.str []⟩,⟨true,.bool false⟩,⟨true,.sl 1 ((ai s 32).map D.str)⟩,.un,⟨true,.int .i64 (i:Nat)⟩,.un,.un,.un]) (fun i=>[]) 11 (fun i=>i<=n/\tu s n=cQ (fun i=>!decide ((ai s 32)[i]! =[])) i n) (fun i=>n-i) 0 ⟨ae,by unfold tu;rw[b9 hlt];rfl⟩ (dy []) ?_;rintro i ⟨hi,hr⟩;refine aG ?_;refine cM (fun hc1=>?_) fun hc1=>?_
 .refine aI ?_;refine bL i (hb:=fun _=>ae) ?_;refine bH (v:=.str (ai s 32)[i]!) (hi:=fun _=>ae) ?_;refine ay ?_;refine fP (fun hc2=>?_) fun hc2=>?_
  .refine aH ?_;have hrd:gQ s n=([],[],false):=by unfold gQ;rw[hr,aS ae,b9 hc2];rfl
   rw[hrd];refine ba ?_;refine bI (dc ?_ ?_ ?_);all_goals rfl
  refine bU ?_;exact⟨i+1,⟨ae,by rw[hr,aS ae,cJ hc2];rfl⟩,ae,(dy [])⟩
 refine aA ?_;have hro:tu s n=true:=by rw[hr,cq ae]
 have hrd:gQ s n=((ai s 32).take n,aV [32] ((ai s 32).drop n),!decide (aV [32] ((ai s 32).drop n)=[])):=by unfold gQ;rw[aw hro]
 rw[hrd];refine ay ?_;refine uw n (hb:=fun _=>ae) ?_;refine ar (v:=.str (aV [32] ((ai s 32).drop n))) (hc:=h249 ((ai s 32).drop n) 32 (by have:=nV 32 (ai s 32) n;rw[ko (b:=32) (x:=32) rfl s]at this;omega)) ?_;refine aI ?_;refine pC n (hb:=fun _=>ae) ?_;refine bU ?_;refine bI (dc ?_ ?_ ?_);all_goals rfl
def Ky (T:List D->D->Prop):Prop:=∀(s:au) (n:Nat),(s.length<=1048576)->(n<=100)->T [.str s,.int .i64 (n:Nat)] (.tup [.sl 1 ((gQ s n).1.map D.str),.str (gQ s n).2.1,.bool (gQ s n).2.2])
def QP (Y:Ctx):Prop:=Ky (bD Y 475)
def Mu:aE:=⟨2,7,[⟨2,none⟩],b8,(sq (r1 [gm cZ] 2 0) (sq (sq (r1 [gm s0,gl l0,gm s1,bO l1 l2] 3 3) (.cond s3 (sq (r1 [gm cZ] 2 0) .ret) .skip)) (sq (sq (r1 [gm bx] 4 0) (.block 0 (.loop (sq (sq (r1 [gm s4,gm s0,gl l1,aX l0 l2] 5 3) (fC s5 0)) (sq (.block 1 (sq (r1 [gm s0,gm s4,ga 1 l0 l1,gd l2,aL l3 cse] 6 4) (.cond s6 (sq (r1 [gm cZ] 2 0) .ret) .skip))) (r1 [gm s4,az l0 cl,gm l1] 4 2)))))) (sq (r1 [gm m5] 2 0) .ret))))⟩
def w474  (l:List au)(n:Nat)   :dn Y Mu (.bool (vI l n)) [.sl 1 (l.map D.str),.int .i64 (n:Nat)]:=by
 show bP _ _ _ [⟨_,_⟩,⟨_,_⟩,_,_,_,_,_] _;refine aq ?_;refine aG ?_;intro u0;refine aA ?_;refine cM (fun hc0=>?_) fun hc0=>?_
 .refine aI ?_;refine bX ?_;rw[Fc,cJ ae];rfl
 refine aI ?_;refine bh hm (ι:=Nat) (fun i=>[⟨true,.sl 1 (l.map D.str)⟩,⟨true,.int .i64 (n:Nat)⟩,⟨true,.bool false⟩,.un,⟨true,.int .i64 (i:Nat)⟩,.un,.un]) (fun i=>[]) 6 (fun i=>i<=l.length/\vI l n=cQ (fun i=>!decide (l[i]! =[])) i l.length) (fun i=>l.length-i) 0 ⟨ae,by rw[Fc,b9 ae];rfl⟩ (dy []) ?_;rintro i ⟨hi,hr⟩;refine aI ?_;intro u1;refine ay ?_;refine cM (fun hc1=>?_) fun hc1=>?_
 .refine aI ?_;refine bL i (hb:=fun _=>ae) ?_;refine bH (v:=.str l[i]!) (hi:=fun _=>ae) ?_;refine ay ?_;refine fP (fun hc2=>?_) fun hc2=>?_
  .refine aG ?_;refine bX ?_;rw[hr,aS ae,b9 hc2];rfl
  refine bU ?_;exact⟨i+1,⟨ae,by rw[hr,aS ae,cJ hc2];rfl⟩,ae,(dy [])⟩
 refine aG ?_;refine bX ?_;rw[hr,cq ae]
def Kx (T:List D->D->Prop):Prop:=∀(l:List au) (n:Nat),T [.sl 1 (l.map D.str),.int .i64 (n:Nat)] (.bool (vI l n))
def TN (Y:Ctx):Prop:=Kx (bD Y 474)
def FD:aE:=⟨1,6,[⟨1,none⟩,⟨2,none⟩],[[.sl 1 [.a]],[.a]],(sq (rg [gm (.c (.aF)),gm cZ] [(1,0),(2,1)]) (sq (r1 [gm s0,gx 470 [l0,(i8 10)] fA,gm l1] 3 2) (sq (r1 [gm s3,gl l0,dV l1 cl,gm l2] 4 3) (sq (sq (r1 [gm s3,gm s4,ga 1 l0 l1,gd l2,aL l3 cse] 5 4) (.cond s5 (sq (rg [gm s3,gm s4,gn (.slA 1 l0 none (some l1)),gm l2,gm m5] [(1,3),(2,4)]) .ret) .skip)) (sq (rg [gm s3,gm l0,gm cZ] [(1,1),(2,2)]) .ret)))))⟩
def w223 {Y:Ctx}(hm:(Y.at 0).cj)(h470:sI Y)(s:au)  (hp0:s.length<=1048576):dn Y FD (.tup [.sl 1 ((aC s).1.map D.str),.bool (aC s).2]) [.str s]:=by
 show bP _ _ _ [⟨_,_⟩,_,_,_,_,_] _;have hsp:1<=(ai s 10).length:=eE 10 s [];have hsl:=dd s 10;refine aq ?_;refine aI ?_;refine ar (v:=.sl 1 ((ai s 10).map D.str)) (hc:=h470 s 10 hp0) ?_;refine aI ?_;intro u0;refine ba ?_;refine bL ((ai s 10).length-1) (hj:=fun _=>ae) (hb:=fun _=>ae) ?_;refine bH (v:=.str (ai s 10)[(ai s 10).length-1]!) (hi:=fun _=>ae) ?_;refine ay ?_;refine cM (fun hc0=>?_) fun hc0=>?_
 .refine ay ?_;have hlx:aC s=(((ai s 10).take ((ai s 10).length-1)),true):=by unfold aC;rw[aw hc0]
  rw[hlx];refine ay ?_;refine pC ((ai s 10).length-1) (hj:=fun _=>ae) (hb:=fun _=>ae) ?_;refine aD ?_;refine bI (aK ?_ ?_);all_goals rfl
 refine ay ?_;have hlx:aC s=((ai s 10),false):=by unfold aC;rw[ak hc0]
 rw[hlx];refine aI ?_;refine bI (aK ?_ ?_);all_goals rfl
def JX (T:List D->D->Prop):Prop:=∀(s:au),(s.length<=1048576)->T [.str s] (.tup [.sl 1 ((aC s).1.map D.str),.bool (aC s).2])
def Ty (Y:Ctx):Prop:=JX (bD Y 223)
end Go.Abs
section
namespace Go.Abs
variable {Y:Ctx}(hm:(Y.at 0).cj)
def vT (t:au)(n:Nat)(h:(gQ t n).2.2=true):(gQ t n).1.length=n:=by
 grind [gQ,tu]
def Af (t:au)(n:Nat):∀w∈(gQ t n).1,w.length<=t.length:=by
 unfold gQ;split
 .intro w hw;exact dK t 32 (lf hw)
 .intro w hw;cases hw
def lu (j:Nat)(n:bw):D:=.agg [.own j 4 0 n.any.length,.str n.when',.str n.option]
def eF (j:Nat):List bw->List D
 |[]=>[]
 |[n]=>[lu j n]
 |a::b::r=>bw.D a::eF j (b::r)
def mL:List bw->List D
 |[]=>[]
 |[n]=>n.any.map ch.N
 |_::b::r=>mL (b::r)
def gH (j:Nat)(n:bw):∀N:List bw,eF j (N++[n])=N.map bw.D++[lu j n]
 |[]=>rfl
 |[a]=>rfl
 |a::b::r=>by
  have:=gH j n (b::r)
  grind [eF]
def jt (n:bw):∀N:List bw,mL (N++[n])=n.any.map ch.N
 |[]=>rfl
 |[a]=>rfl
 |a::b::r=>by
  have:=jt n (b::r)
  grind [mL]
def r8 {α:Type}{l:List α}(h:l≠[]):∃a x,l=a++[x]:=⟨l.dropLast,l.getLast h,(List.dropLast_concat_getLast h).symm⟩
def nT {α:Type}(l:List α)(a d:α)(n:Nat)(h:n=l.length):(l++[a]).getD n d=a:=by subst h;simp[List.getD]
def ru {α:Type}(l:List α)(a b:α)(n:Nat)(h:n=l.length):(l++[a]).set n b=l++[b]:=by subst h;simp
def nI (nm:au)(v:cy)(a b c:Nat)(st:Int)(j1 j3 j4:Nat):D:=.agg [.str nm,.int .i64 v.major,.int .i64 v.minor,.int .i64 v.patch,.str v.pre,.str v.build,.own j1 3 0 a,.own j3 3 0 b,.own j4 2 0 c,.int .i64 st]
def Us (x:jc)(j0 j1 j2 j3 j4:Nat):List (Nat×b7):=[(j0,.buf 10 [nI x.r.name x.r.v x.r.needs.length x.r.bars.length x.r.feats.length (x.st:Nat) j1 j3 j4]),(j1,.buf 3 (eF j2 x.r.needs)),(j2,.buf 4 (mL x.r.needs)),(j3,.buf 3 (x.r.bars.map fM.D)),(j4,.buf 2 (x.r.feats.map cv.D))]
structure Q4 (m:List (Nat×b7))(x:jc)(j0 j1 j2 j3 j4:Nat):Prop where
 a0:look m j0=some (.buf 10 [nI x.r.name x.r.v x.r.needs.length x.r.bars.length x.r.feats.length (x.st:Nat) j1 j3 j4])
 a1:look m j1=some (.buf 3 (eF j2 x.r.needs))
 a2:look m j2=some (.buf 4 (mL x.r.needs))
 a3:look m j3=some (.buf 3 (x.r.bars.map fM.D))
 a4:look m j4=some (.buf 2 (x.r.feats.map cv.D))
def sW (a b c d e:Nat):Bool:=!(Nat.beq a b ||Nat.beq a c ||Nat.beq a d ||Nat.beq a e ||Nat.beq b c ||Nat.beq b d ||Nat.beq b e ||Nat.beq c d ||Nat.beq c e ||Nat.beq d e)
def uS (o:Option jc)(j0 L:Nat):List (Nat×b7):=match o with
 |some y=>Us y j0 L (L+1) (L+2) (L+3)
 |none=>[]
def Eb (m:List (Nat×b7))(j0 j1 j2 j3 j4:Nat):List (Nat×b7):=cL (cL (cL (cL (cL m j0) j1) j2) j3) j4
def Ut (out:Option jc):D->List (Nat×b7)->Prop:=fun d m=>d=.bool out.isSome/\∀y,out=some y->∃j1 j2 j3 j4,sW 0 j1 j2 j3 j4=true/\Q4 m y 0 j1 j2 j3 j4
def Za (Y:Ctx)(n:Nat)(akq:List D)(x:jc)(out:Option jc):Prop:=∀(nx j0 j1 j2 j3 j4:Nat) (m:List (Nat×b7)) (K:D->St->Prop),Q4 m x j0 j1 j2 j3 j4->sW j0 j1 j2 j3 j4=true->(j0<nx/\j1<nx/\j2<nx/\j3<nx/\j4<nx)->
 K (.bool out.isSome) ⟨nx+4,uS out j0 nx++Eb m j0 j1 j2 j3 j4⟩->Y.tr n (.ptr j0 10 0 0::akq) ⟨nx,m⟩ K
def jc.ok (x:jc):Prop:=(x.st=0->x.r.needs=[]/\x.r.bars=[]/\x.r.feats=[])/\((x.st=2\/x.st=3)->x.r.needs≠[])/\(x.st=5->x.r.bars≠[])
def sC (l:List bw):Nat:=(l.getLast?.map fun n=>n.any.length).getD 0
def jc.sz (x:jc):Nat:=x.r.needs.length+x.r.bars.length+x.r.feats.length+sC x.r.needs
def pY (N:List bw)(n:bw):sC (N++[n])=n.any.length:=by simp[sC]
def qT (x:jc)(l:List au):Option jc:=if(l.length=3/\l[0]! =ef)/\l[1]! ≠[]then(match gL l[2]! with
 |some v=>some ⟨⟨l[1]!,v,x.r.needs,x.r.bars,x.r.feats⟩,1⟩
 |none=>none)else none
def I0 {x:jc}(h:x.ok)(h0:x.st=0)(l:List au):qT x l=zj l:=by
 obtain⟨h1,h2,h3⟩:=h.1 h0;unfold qT zj
 grind
def lB:∀N:List bw,bE (mL N)=true
 |[]=>rfl
 |[a]=>bB ch.oz _
 |a::b::r=>lB (b::r)
end Go.Abs
namespace Go.Abs
variable {Y:Ctx}(hm:(Y.at 0).cj)
def vD (l k:Nat)(es:List D)(hl:l≠2):∀N:List bw,iX l k es (eF 2 N)=eF 2 N
 |[]=>rfl
 |[n]=>by simp only[eF,lu,iX,iQ,show ¬2=l from fun e=>hl e.symm,cT,a8]
 |a::b::r=>by
  have:=vD l k es hl (b::r);have ha:iQ l k es (bw.D a)=bw.D a:=rfl;simp only[eF,iX,this,ha]
def vl (l k:Nat)(es:List D)(N:List bw):iX l k es (mL N)=mL N:=pU l k es _ (lB N)
def sX (l k:Nat)(es:List D)(B:List fM):iX l k es (B.map fM.D)=B.map fM.D:=pU l k es _ (bB (fun _=>rfl) _)
def sY (l k:Nat)(es:List D)(Z:List cv):iX l k es (Z.map cv.D)=Z.map cv.D:=pU l k es _ (bB (fun _=>rfl) _)
end Go.Abs
end
namespace Go.Abs
variable {Y:Ctx}(hm:(Y.at 0).cj)
section
def NF (ob:Ea):Prop:=∀(σ:List (Nat×Nat)) (l l':Nat) (w:List au) (n:Nat) (b:Bool),lV 0 σ l=some l'->rp 0 σ (ob w (.own l 5 0 n) b)=some (ob w (.own l' 5 0 n) b)
def rh:NF iK:=fun σ l l' w n b h=>by simp only[iK,rp,ow,Ca,h]
def tp (W:List au):NF (jb W):=fun σ l l' w n b h=>by simp only[jb,rp,ow,Ca,h]
def PY:D->Nat
 | .agg [.sl _ ws,_,_]=>ws.length
 | .agg [.sl _ ws,.int _ i,_,_]=>ws.length-i.toNat
 |_=>0
def Db (c:List D->Nat)(ds:List D)(st:St):Nat:=match ds with
 | .ptr l _ _ _::akq=>(match look st.m l with
  |some (.buf _ [o])=>6*PY o+c akq
  |_=>0)
 |_=>0
def Se (w:List au)(X:D)(b:Bool):PY (iK w X b)=w.length:=by simp[PY,iK]
def Sf {W w:List au}(h:w<:+W)(X:D)(b:Bool):PY (jb W w X b)=w.length:=by
 grind [PY,jb]
def nZ {c:List D->Nat}{l k nx:Nat}{akq:List D}{m:List (Nat×b7)}{w:List au}{X:D}{b:Bool}(h:look m l=some (.buf k [iK w X b])):Db c (.ptr l k 0 0::akq) ⟨nx,m⟩=6*w.length+c akq:=by
 simp only[Db,h,Se]
def tg {c:List D->Nat}{l k nx:Nat}{akq:List D}{m:List (Nat×b7)}{W w:List au}{X:D}{b:Bool}(hw:w<:+W)(h:look m l=some (.buf k [jb W w X b])):Db c (.ptr l k 0 0::akq) ⟨nx,m⟩=6*w.length+c akq:=by
 simp only[Db,h,Sf hw]
def Hx (nd:List Nd):bE (nd.map Nd.D)=true:=bB (fun _=>rfl) _
section
variable [dI] {P:Program} {ν:List (Nat×Nat)} {cU:List Nat} {t:List (Nat×qq)} {fid n key u k:Nat} {af:aE} {ob:Ea} {akq:List D} {w:List au} {nd:List Nd} {b:Bool} {lp ln nx:Nat} {m:List (Nat×b7)} {K:D->St->Prop} {Pp:PO->Prop} {V:PO->D}
def Pl (hob:NF ob)(hk5:k≠5)(has:bE akq=true)(h1:look m lp=some (.buf k [ob w (.own ln 5 0 nd.length) b]))(h2:look m ln=some (.buf 5 (nd.map Nd.D))):
  lp≠ln/\(∀i,i<(D.ptr lp k 0 0::akq).length->QE 0 [(lp,0),(ln,1)] ((D.ptr lp k 0 0::akq).getD i .any) ((D.ptr 0 k 0 0::akq).getD i .any))/\gS 0 2 [(lp,0),(ln,1)]=true/\(∀l i,(l,i)∈[(lp,0),(ln,1)]->look m l≠none)/\
   ∀i bb,look [(0,.buf k [ob w (.own 1 5 0 nd.length) b]),(1,.buf 5 (nd.map Nd.D))] i=some bb->∃l b',(l,i)∈[(lp,0),(ln,1)]/\look m l=some b'/\rH 0 [(lp,0),(ln,1)] b' bb:=by
 have hne:lp≠ln:=by
  rintro rfl;rw[h1]at h2;exact hk5 (b7.buf.inj (bM h2)).1
 have hb:Nat.beq lp ln=false:=by cases h:Nat.beq lp ln with
  |false=>rfl
  |true=>exact absurd (Nat.eq_of_beq_eq_true h) hne
 have hb':Nat.beq ln lp=false:=by cases h:Nat.beq ln lp with
  |false=>rfl
  |true=>exact absurd (Nat.eq_of_beq_eq_true h).symm hne
 refine⟨hne,fun i hi=>?_, ?_,fun l i h=>?_,fun i bb h=>?_⟩
 .match i with
  |0=>exact .inr (.inl (by simp[rp,Ca,lV]))
  |i+1=>exact .inl ⟨rfl,dz has i⟩
 .simp[gS,hb,hb'];rfl
 .grind
 .simp only[look]at h;split at h
  .rename_i e;subst e;obtain rfl:=bM h;exact⟨lp,_,.head _,h1,rfl,.inr (.inl (by simp only[ow,hob _ ln 1 w nd.length b (show lV 0 [(lp,0),(ln,1)] ln=some 1 by simp[lV,hb])]))⟩
  .split at h
   .rename_i e;subst e;obtain rfl:=bM h;exact⟨ln,_,.tail _ (.head _),h2,rfl,.inl ⟨rfl,Hx nd⟩⟩
   .cases h
def gE (hob:NF ob)(hk5:k≠5)(has:bE akq=true)(hV:∀o,(V o).bK=true)(hmix:P.follows .mixedOrders=true)(hC:Li P ν cU fid af)(hnp:akq.length+1=af.np)
  (h1:look m lp=some (.buf k [ob w (.own ln 5 0 nd.length) b])) (h2:look m ln=some (.buf 5 (nd.map Nd.D))) (h3:lp<nx) (h4:ln<nx)
  (hK:∀o,Pp o->K (V o) ⟨nx+1,(nx,.buf 5 (o.nd.map Nd.D))::dE (cL m ln) lp (.buf k [ob o.w (.own nx 5 0 o.nd.length) o.bad])⟩)
  (hw:bP ((under t key u).at 2) af.body (kv af (wT k ob Pp V)) (fH af (.ptr 0 k 0 0::akq)) ⟨2,[(0,.buf k [ob w (.own 1 5 0 nd.length) b]),(1,.buf 5 (nd.map Nd.D))]⟩):oV P ν cU (under t key u) fid (.ptr lp k 0 0::akq) ⟨nx,m⟩ K:=by
 obtain⟨hne,g2,g3,g4,g5⟩:=Pl hob hk5 has h1 h2;refine zh (σi:=[(lp,0),(ln,1)]) (cs:=.ptr 0 k 0 0::akq) (fun q=>wR t key u q) hmix hC aR g2 (by simpa using hnp) g3 g4 g5 hw ?_;rintro d m1 ⟨o,j,hj,hP,rfl,e0,ej⟩;have hb0:Nat.beq 0 j=false:=by cases j<;>first|omega|rfl
 have hbj:Nat.beq j 0=false:=by cases j<;>first|omega|rfl
 have hbl:Nat.beq lp nx=false:=by cases h:Nat.beq lp nx with
  |false=>rfl
  |true=>have:=Nat.eq_of_beq_eq_true h;omega
 have hbl':Nat.beq nx lp=false:=by cases h:Nat.beq nx lp with
  |false=>rfl
  |true=>have:=Nat.eq_of_beq_eq_true h;omega
 refine⟨[(0,lp),(j,nx)],j+1,_,V o,⟨g3, ?_,Nat.le_succ _,g4, ?_,g5, ?_⟩,.inl ⟨rfl,hV o⟩,hK o hP⟩
 .simp[gS,hbj,hb0,hbl,hbl'];omega
 .intro i l h;rcases dp.1 h with h|h
  .obtain⟨rfl,rfl⟩:=Prod.mk.inj h;exact .inl (.head _)
  .obtain⟨rfl,rfl⟩:=Prod.mk.inj (dw.1 h);exact .inr (aQ _)
 .intro l bb h;simp only[look]at h;split at h
  .rename_i e;subst e;obtain rfl:=bM h;exact .inl ⟨j,_,.tail _ (.head _),ej,rfl,.inl ⟨rfl,Hx _⟩⟩
  .rename_i hln;rw[cH]at h;split at h
   .rename_i e;subst e;obtain rfl:=bM h;exact .inl ⟨0,_,.head _,e0,rfl,.inr (.inl (by simp only[ow,hob _ j nx o.w o.nd.length o.bad (show lV 0 [(0,l),(j,nx)] j=some nx by simp[lV,hb0])]))⟩
   .rename_i hlp;rw[fL]at h;split at h
    .cases h
    .rename_i hl2;refine .inr ⟨by simp only[mr,ak (fun e=>hlp (Eq.symm e)),ak hln],fun i hi=>?_,h⟩;rcases dp.1 hi with hi|hi
     .exact hlp (Prod.mk.inj hi).1
     .exact hl2 (Prod.mk.inj (dw.1 hi)).1
def vM (hob:NF ob)(hk5:k≠5)(has:bE akq=true)(hV:∀o,(V o).bK=true)(hmix:P.follows .mixedOrders=true)(hC:Li P ν cU fid af)(hnp:akq.length+1=af.np)
  (h1:look m lp=some (.buf k [ob w (.own ln 5 0 nd.length) b])) (h2:look m ln=some (.buf 5 (nd.map Nd.D))) (h3:lp<nx) (h4:ln<nx)
  (hK:∀o,Pp o->K (V o) ⟨nx,dE m lp (.buf k [ob o.w (.own ln 5 0 nd.length) o.bad])⟩)
  (hw:bP ((under t key u).at 2) af.body (kv af (IC k ob nd Pp V)) (fH af (.ptr 0 k 0 0::akq)) ⟨2,[(0,.buf k [ob w (.own 1 5 0 nd.length) b]),(1,.buf 5 (nd.map Nd.D))]⟩):oV P ν cU (under t key u) fid (.ptr lp k 0 0::akq) ⟨nx,m⟩ K:=by
 obtain⟨hne,g2,g3,g4,g5⟩:=Pl hob hk5 has h1 h2;refine zh (σi:=[(lp,0),(ln,1)]) (cs:=.ptr 0 k 0 0::akq) (fun q=>wR t key u q) hmix hC aR g2 (by simpa using hnp) g3 g4 g5 hw ?_;rintro d m1 ⟨o,hP,rfl,e0,ej⟩;have hbl:Nat.beq lp ln=false:=by cases h:Nat.beq lp ln with
  |false=>rfl
  |true=>exact absurd (Nat.eq_of_beq_eq_true h) hne
 have hbl':Nat.beq ln lp=false:=by cases h:Nat.beq ln lp with
  |false=>rfl
  |true=>exact absurd (Nat.eq_of_beq_eq_true h).symm hne
 refine⟨[(0,lp),(1,ln)],2,⟨nx,dE m lp (.buf k [ob o.w (.own ln 5 0 nd.length) o.bad])⟩,V o,⟨g3, ?_,aQ _,g4, ?_,g5, ?_⟩,.inl ⟨rfl,hV o⟩,hK o hP⟩
 .simp[gS,hbl,hbl'];exact⟨h3,rfl,h4⟩
 .intro i l h;rcases dp.1 h with h|h
  .obtain⟨rfl,rfl⟩:=Prod.mk.inj h;exact .inl (.head _)
  .obtain⟨rfl,rfl⟩:=Prod.mk.inj (dw.1 h);exact .inl (.tail _ (.head _))
 .intro l bb h;simp only at h;rw[cH]at h;split at h
  .rename_i e;subst e;obtain rfl:=bM h;exact .inl ⟨0,_,.head _,e0,rfl,.inr (.inl (by simp only[ow,hob _ 1 ln o.w nd.length o.bad (show lV 0 [(0,l),(1,ln)] 1=some ln from rfl)]))⟩
  .rename_i hlp;by_cases hl2:l=ln
   .subst hl2;rw[h2]at h;obtain rfl:=bM h;exact .inl ⟨1,_,.tail _ (.head _),ej,rfl,.inl ⟨rfl,Hx _⟩⟩
   .refine .inr ⟨by simp only[mr,ak (fun e=>hlp (Eq.symm e)),ak (fun e=>hl2 (Eq.symm e))],fun i hi=>?_,h⟩;rcases dp.1 hi with hi|hi
    .exact hlp (Prod.mk.inj hi).1
    .exact hl2 (Prod.mk.inj (dw.1 hi)).1
def qE {a b:Nat}(h:a≠b):Nat.beq a b=false:=by
 cases h2:Nat.beq a b with
 |false=>rfl
 |true=>exact absurd (Nat.eq_of_beq_eq_true h2) h
def Aj {m:List (Nat×b7)}{l lw:Nat}(h:l≠lw):gA (cL m lw) l=match look m l with
 |some (.bld (some l2) _ _)=>cL (cL m lw) l2
 |_=>cL m lw:=by
 grind [gA,fL,look]
def L1 {ws:List au}{s:au}{l lw:Nat}(hmix:P.follows .mixedOrders=true)(hC:Li P ν cU fid af)(hnp:2=af.np)
  (h1:sx m l s) (h2:look m lw=some (.buf 1 (ws.map D.str))) (h3:l<nx) (h4:lw<nx) (hK:K (.tup []) ⟨nx+1,qF (cL m lw) l nx (s++cw ws)⟩)
  (hw:∀m0,sx m0 0 s->look m0 1=some (.buf 1 (ws.map D.str))->bP ((under t key u).at 3) af.body (kv af (fun d m=>d=.tup []/\look m 0=some (.bld (some 9) (s++cw ws).length true)/\look m 9=some (.row (s++cw ws)))) (fH af [.ptr 0 2 0 0,.own 1 1 0 ws.length]) ⟨3,m0⟩):
  oV P ν cU (under t key u) fid [.ptr l 2 0 0,.own lw 1 0 ws.length] ⟨nx,m⟩ K:=by
 have hlw:l≠lw:=by
  rintro rfl;rcases h1 with⟨u,h,_⟩|⟨l2,u,h,_⟩<;>rw[h2]at h<;>cases h
 have hnl:bE (ws.map D.str)=true:=bB (fun _=>rfl) _;have b1:=qE hlw;have b2:=qE (Ne.symm hlw);have b3:=qE (show l≠nx by omega);have b4:=qE (show nx≠l by omega)

 have fin:∀(σi:List (Nat×Nat)) (m0:List (Nat×b7)),gS 0 3 σi=true->(l,0)∈σi->(∀l i,(l,i)∈σi->look m l≠none)->(∀i b,look m0 i=some b->∃l b',(l,i)∈σi/\look m l=some b'/\rH 0 σi b' b)->
   (∀l' b,look (gA (cL m lw) l) l'=some b->l'≠l->look m l'=some b/\∀i,(l',i)∉σi)->∀d m1,(d=.tup []/\look m1 0=some (.bld (some 9) (s++cw ws).length true)/\look m1 9=some (.row (s++cw ws)))->
   ∃(σo:List (Nat×Nat)) (q1:Nat) (st':St) (vd':D),Fr σi σo 3 q1 m0 m1 ⟨nx,m⟩ st'/\QE 0 σo d vd'/\K vd' st':=by
  rintro σi m0 oki hm hlt hm0 hoff d m1 ⟨rfl,e0,e9⟩;refine⟨[(0,l),(9,nx)],10,⟨nx+1,qF (cL m lw) l nx (s++cw ws)⟩,.tup [],⟨oki, ?_,Nat.le_succ _,hlt, ?_,hm0, ?_⟩,.inl ⟨rfl,rfl⟩,hK⟩
  .simp[gS,b3,b4];exact⟨ae,rfl⟩
  .intro i l' h;rcases dp.1 h with h|h
   .obtain⟨rfl,rfl⟩:=Prod.mk.inj h;exact .inl hm
   .obtain⟨rfl,rfl⟩:=Prod.mk.inj (dw.1 h);exact .inr (aQ _)
  .intro l' bb h;simp only[qF,look]at h;split at h
   .rename_i e;subst e;obtain rfl:=bM h;exact .inl ⟨9,_,.tail _ (.head _),e9,rfl⟩
   .rename_i hln;rw[cH]at h;split at h
    .rename_i e;subst e;obtain rfl:=bM h;exact .inl ⟨0,_,.head _,e0,⟨nx,rfl,rfl⟩,rfl,rfl⟩
    .rename_i hl;obtain⟨g1,g2⟩:=hoff l' bb h hl;exact .inr ⟨by simp only[mr,ak (fun e=>hl (Eq.symm e)),ak hln],g2,g1⟩
 rcases h1 with⟨u,h1,rfl⟩|⟨l2,u,h1,h5⟩
 .have g4:∀l' i,(l',i)∈[(l,0),(lw,1)]->look m l'≠none:=by
   intro l' i h;rcases dp.1 h with h|h
   .obtain⟨rfl,rfl⟩:=Prod.mk.inj h;rw[h1];simp
   .obtain⟨rfl,rfl⟩:=Prod.mk.inj (dw.1 h);rw[h2];simp
  have g3:gS 0 3 [(l,0),(lw,1)]=true:=by simp[gS,b1,b2];rfl
  have g5:∀i b,look [(0,b7.bld none 0 u),(1,.buf 1 (ws.map D.str))] i=some b->∃l' b',(l',i)∈[(l,0),(lw,1)]/\look m l'=some b'/\rH 0 [(l,0),(lw,1)] b' b:=by
   intro i b h;simp only[look]at h;split at h
   .rename_i e;subst e;obtain rfl:=bM h;exact⟨l,_,.head _,h1,rfl,rfl,rfl⟩
   .split at h
    .rename_i e;subst e;obtain rfl:=bM h;exact⟨lw,_,.tail _ (.head _),h2,rfl,.inl ⟨rfl,hnl⟩⟩
    .cases h
  refine zh (σi:=[(l,0),(lw,1)]) (cs:=[.ptr 0 2 0 0,.own 1 1 0 ws.length]) (fun q=>wR t key _ q) hmix hC rfl ?_ hnp g3 g4 g5 (hw _ (.inl ⟨u,rfl,rfl⟩) rfl) (fin _ _ g3 (.head _) g4 g5 ?_)
  .intro i hi
   match i,hi with
   |0,_=>exact .inr (.inl (by simp[rp,Ca,lV]))
   |1,_=>exact .inr (.inl (by simp[rp,Ca,lV,b1]))
  .intro l' b h hl;rw[Aj hlw]at h;simp only[h1]at h;rw[fL]at h;split at h
   .cases h
   .rename_i hw';refine⟨h,fun i hi=>?_⟩;rcases dp.1 hi with hi|hi
    .exact hl (Prod.mk.inj hi).1
    .exact hw' (Prod.mk.inj (dw.1 hi)).1
 .have c1:l2≠l:=by rintro rfl;rw[h1]at h5;cases h5
  have c2:l2≠lw:=by rintro rfl;rw[h2]at h5;cases h5
  have d1:=qE c1;have d2:=qE c2;have d3:=qE (Ne.symm c1);have d4:=qE (Ne.symm c2);have g4:∀l' i,(l',i)∈[(l,0),(lw,1),(l2,2)]->look m l'≠none:=by
   intro l' i h;rcases dp.1 h with h|h
   .obtain⟨rfl,rfl⟩:=Prod.mk.inj h;rw[h1];simp
   .rcases dp.1 h with h|h
    .obtain⟨rfl,rfl⟩:=Prod.mk.inj h;rw[h2];simp
    .obtain⟨rfl,rfl⟩:=Prod.mk.inj (dw.1 h);rw[h5];simp
  have g3:gS 0 3 [(l,0),(lw,1),(l2,2)]=true:=by simp[gS,b1,b2,d1,d2,d3,d4];exact⟨⟨rfl,rfl⟩,rfl⟩
  have g5:∀i b,look [(0,b7.bld (some 2) s.length u),(1,.buf 1 (ws.map D.str)),(2,.row s)] i=some b->∃l' b',(l',i)∈[(l,0),(lw,1),(l2,2)]/\look m l'=some b'/\rH 0 [(l,0),(lw,1),(l2,2)] b' b:=by
   intro i b h;simp only[look]at h;split at h
   .rename_i e;subst e;obtain rfl:=bM h;exact⟨l,_,.head _,h1,⟨2,by simp[lV,d3,d4],rfl⟩,rfl,rfl⟩
   .split at h
    .rename_i e;subst e;obtain rfl:=bM h;exact⟨lw,_,.tail _ (.head _),h2,rfl,.inl ⟨rfl,hnl⟩⟩
    .split at h
     .rename_i e;subst e;obtain rfl:=bM h;exact⟨l2,_,.tail _ (.tail _ (.head _)),h5,rfl⟩
     .cases h
  refine zh (σi:=[(l,0),(lw,1),(l2,2)]) (cs:=[.ptr 0 2 0 0,.own 1 1 0 ws.length]) (fun q=>wR t key _ q) hmix hC rfl ?_ hnp g3 g4 g5 (hw _ (.inr ⟨2,u,rfl,rfl⟩) rfl) (fin _ _ g3 (.head _) g4 g5 ?_)
  .intro i hi
   match i,hi with
   |0,_=>exact .inr (.inl (by simp[rp,Ca,lV]))
   |1,_=>exact .inr (.inl (by simp[rp,Ca,lV,b1]))
  .intro l' b h hl;rw[Aj hlw]at h;simp only[h1]at h;rw[fL]at h;split at h
   .cases h
   .rename_i hw2;rw[fL]at h;split at h
    .cases h
    .rename_i hw';refine⟨h,fun i hi=>?_⟩;rcases dp.1 hi with hi|hi
     .exact hl (Prod.mk.inj hi).1
     .rcases dp.1 hi with hi|hi
      .exact hw' (Prod.mk.inj hi).1
      .exact hw2 (Prod.mk.inj (dw.1 hi)).1
end
end
theorem vz {α:Type}{f:α->D}(hf:∀x y,f x=f y↔x=y):∀a b:List α,a.map f=b.map f↔a=b
 |[],[]=>aR
 |[],_::_=>aR
 |_::_,[]=>aR
 |x::a,y::b=>by simp only[List.map_cons,ot,hf,vz hf a b]
def RB (a b:Nat):((a:Nat):Int)=(b:Nat)↔a=b:=ae
theorem iU8 (x y:UInt8):((x.toNat:Nat):Int)=(y.toNat:Nat)↔x=y:=(RB _ _).trans jq
def LX (a b:List au):a.map D.str=b.map D.str↔a=b:=vz (fun _ _=>aR) a b
def iInt (a b:List Int):a.map (D.int .i64)=b.map (D.int .i64)↔a=b:=vz (fun _ _=>aR) a b
def iByt (a b:au):(a.map fun c=>D.int .u8 c.toNat)=(b.map fun c=>D.int .u8 c.toNat)↔a=b:=by grind [vz,iU8]
def iVer (a b:cy):cy.D a=cy.D b↔a=b:=by cases a;cases b;simp[cy.D]
def S5 (a b:ch):ch.D a=ch.D b↔a=b:=by cases a;cases b;simp[ch.D,LX]
def Ot (a b:List ch):a.map ch.D=b.map ch.D↔a=b:=vz S5 a b
def S4 (a b:bw):bw.D a=bw.D b↔a=b:=by cases a;cases b;simp[bw.D,Ot]
def Hi (a b:List bw):a.map bw.D=b.map bw.D↔a=b:=vz S4 a b
def Zq (a b:fM):fM.D a=fM.D b↔a=b:=by cases a;cases b;simp[fM.D]
def Oq (a b:List fM):a.map fM.D=b.map fM.D↔a=b:=vz Zq a b
def S3 (a b:cv):cv.D a=cv.D b↔a=b:=by cases a;cases b;simp[cv.D,LX]
def Hh (a b:List cv):a.map cv.D=b.map cv.D↔a=b:=vz S3 a b
def iRec (a b:Rec):Rec.D a=Rec.D b↔a=b:=by
 obtain⟨n,⟨v1,v2,v3,v4,v5⟩,x,y,z⟩:=a;obtain⟨n',⟨w1,w2,w3,w4,w5⟩,x',y',z'⟩:=b;simp[Rec.D,Hi,Oq,Hh,and_assoc]
def Zr (a b:dF):dF.D a=dF.D b↔a=b:=by
 obtain⟨n,p,v1,v2,v3,v4,v5⟩:=a;obtain⟨n',p',w1,w2,w3,w4,w5⟩:=b;simp[dF.D]
def S1 (a b:List dF):a.map dF.D=b.map dF.D↔a=b:=vz Zr a b
def iNd (a b:Nd):Nd.D a=Nd.D b↔a=b:=by cases a;cases b;simp[Nd.D]
def Zt (a b:List Nd):a.map Nd.D=b.map Nd.D↔a=b:=vz iNd a b
def UT (a b:Alt):qC a=qC b↔a=b:=by simp[qC,S1]
def iRng (a b:yF):ix a=ix b↔a=b:=by simp[ix,vz UT]
def Zp (a b:List Alt):a.map qC=b.map qC↔a=b:=vz UT a b
def iMrk (a b:SQ):lh a=lh b↔a=b:=by simp[lh,Zt]
def iLd (a b:Ld):Ld.D a=Ld.D b↔a=b:=by cases a;cases b;simp[Ld.D,LX,RB]
def iPr (w w':List au)(x x':D)(b b':Bool):iK w x b=iK w' x' b'↔w=w'/\x=x'/\b=b':=by simp[iK,LX]
def Rg {A:FT->Prop}(h:A (fun d ds v s=>A fun d' ds' v' s'=>d'=d->ds'=ds->v=v'/\s=s'):=by
 (repeat' first|apply And.intro|intro _)
 all_goals rename_i e' e
 all_goals (try simp only[ot,D.str.injEq,D.int.injEq,D.bool.injEq,D.sl.injEq,iLd,LX,iU8,jq,RB,cx,cu]at e e')
 all_goals first|rfl|(simp only[e,e'];done)|simp_all):yE (oR A):=Rh h
def atZ (l:List Int)(i:Int):Int:=if i<0\/(l.length:Int)<=i then 0 else l[i.toNat]!
def A1 (l:List Int)(i n:Int):Int:=atZ l i%n
def ph (l:List Int)(i n:Int)(h:0<n):0<=A1 l i n/\A1 l i n<n:=⟨Int.emod_nonneg _ ae,Int.emod_lt_of_pos _ h⟩
def vA (v n:Int)(h:0<n):0<=v%n/\v%n<n:=⟨Int.emod_nonneg _ ae,Int.emod_lt_of_pos _ h⟩
def nm5:List au:=[[97,112,112],[98],[99],[100],[101,45,50]]
def IX (n:Int):au:=nm5[(n%5).toNat]!
def wd4:List au:=[[120],[121],[122],[119,95,49]]
def EJ (n:Int):au:=wd4[(n%4).toNat]!
def Vg:List Int:=[9,7,6,3,1,2]
def UP (l:List Int)(i:Int):dF:=⟨Vg[(A1 l i 6).toNat]!,3,⟨A1 l (i+1) 3,A1 l (i+2) 2,0,[],[]⟩⟩
def UR (l:List Int)(i:Int):au:=if(UP l i).op=9 then [42]else eg (UP l i)
def S7:List au:=[[111,115],[97,114,99,104],[97,98,105]]
def Zl:List au:=[[32,61,32],[32,33,61,32]]
def IZ (l:List Int)(i:Int):au:=if 2<A1 l i 6 then []else S7[(A1 l i 6).toNat]! ++Zl[(A1 l (i+1) 2).toNat]! ++EJ (1+A1 l (i+1) 3)
def Nh:List au:=[[120],[121]]
def ze (l:List Int)(i:Int)(alone:Bool):List au:=if alone=true/\2<A1 l (i+5) 5 then Nh.take (A1 l (i+5) 5-2).toNat else []
def S0 (l:List Int)(i own:Int)(alone:Bool):ch:=⟨IX (own+1+A1 l i 4),UR l (i+1),ze l i alone,decide (A1 l (i+4) 3=0)⟩
def wB (l:List Int)(i:Int):Nat:=if A1 l i 5=1 then 2 else 1
def Og (l:List Int)(i own:Int)(k:Nat):List ch:=(List.range k).map fun(k:Nat)=>S0 l (i+1+6*(k:Nat)) own (decide ((wB l i:Int)=1))
def uh (l:List Int)(i own:Int):bw:=⟨Og l i own (wB l i),IZ l (i+14),if A1 l (i+16) 4=1 then EJ (atZ l (i+17))else []⟩
def Oi (l:List Int)(i:Int):wB l i<=2:=by
 unfold wB;split<;>omega
def vn (n:Int):(IX n).length<=3:=by
 obtain⟨h1,h2⟩:=vA n 5 aM;unfold IX;have:(n%5).toNat<5:=ae;revert this;generalize (n%5).toNat=k;revert k;decide
def LU (n:Int):(EJ n).length<=3:=by
 obtain⟨h1,h2⟩:=vA n 4 aM;unfold EJ;have:(n%4).toNat<4:=ae;revert this;generalize (n%4).toNat=k;revert k;decide
def gK (l:List Int)(i:Int):Nat:=(A1 l (i+3) 4%3).toNat
def Zn (l:List Int)(i:Int):gK l i<=2:=by unfold gK;omega
def SZ (l:List Int)(i own:Int)(n:Nat):List bw:=(List.range n).map fun(q:Nat)=>uh l (i+4+20*((gK l i-q:Nat):Int) -20) own
def Hd (l:List Int)(i own:Int):List bw:=SZ l i own (gK l i)
def BC (l:List Int)(i own:Int):(uh l i own).option.length<=3:=by
 show(if _ then _ else _:au).length<=3;split
 .exact LU _
 .simp
def Zm (k a b:Nat):au:=if Vg[k]! =9 then [42]else eg ⟨Vg[k]!,3,⟨(a:Nat),(b:Nat),0,[],[]⟩⟩
def Si (s:au):Prop:=ux s=true/\s.length<=8/\s≠[]/\(∀c∈s,c≠10)
instance (s:au):Decidable (Si s):=by unfold Si;infer_instance
def E6 (s:au):Prop:=rV s=true/\s.length<=16/\(∀c∈s,c≠10)
instance (s:au):Decidable (E6 s):=by unfold E6;infer_instance
def Rl:∀k,k<6->∀a,a<3->∀b,b<2->Si (Zm k a b):=by decide+kernel
theorem Qq:∀k,k<3->∀a,a<2->∀b,b<4->E6 (S7[k]! ++Zl[a]! ++wd4[b]!):=by decide+kernel
def Oj (n:Int):(n%4).toNat<4/\EJ n=wd4[(n%4).toNat]! :=by
 have:=vA n 4 aM;exact⟨ae,rfl⟩
def Rq (l:List Int)(i:Int):Si (UR l i):=by
 have a:=ph l i 6 aM;have b:=ph l (i+1) 3 aM;have c:=ph l (i+2) 2 aM;have:=Rl (A1 l i 6).toNat ae (A1 l (i+1) 3).toNat ae (A1 l (i+2) 2).toNat ae
 grind [Zm,A1,UR,UP]
def L9:E6 []:=by decide+kernel
def EI (l:List Int)(i:Int):E6 (IZ l i):=by
 unfold IZ;split
 .exact L9
 .rename_i h;have a:=ph l i 6 aM;have b:=ph l (i+1) 2 aM;have c:=Oj (1+A1 l (i+1) 3)
  grind [Qq]
def Oh (l:List Int)(i own:Int)(k:Nat):(Og l i own k).length=k:=by simp[Og]
def Rr (l:List Int)(i own:Int)(n:Nat):(SZ l i own n).length=n:=by simp[SZ]
def IY {l:List Int}{i own:Int}{n:Nat}{x:bw}(h:x∈SZ l i own n):∃k:Int,x=uh l k own:=by
 obtain⟨q,_,rfl⟩:=gD.1 h;exact⟨_,rfl⟩
def pg {α:Type}{f:α->au}{B:Nat}:∀{l:List α},(∀x∈l,(f x).length<=B)->((l.map f).flatten).length<=l.length*B
 |[],_=>aR
 |a::r,h=>by
  have h1:=h a (.head _);have h2:=pg (l:=r) fun x hx=>h x (.tail _ hx)
  simp only[List.map_cons,List.flatten_cons,cb,ax,Nat.succ_mul];omega
def nE {l:List au}{B n:Nat}(h:∀t∈l,t.length<=B)(hn:l.length<=n):(cw l).length<=n*(B+1)+1:=by
 have h1:=lI 32 B l h;have h2:=fh (B+1) hn
 grind [cw]
def JR (w:ch):Prop:=w.name.length<=3/\w.range.length<=8/\(w.feats=[]\/w.feats=Nh.take 1\/w.feats=Nh)
theorem Nb (n:Nat):Nh.take n=[]\/Nh.take n=Nh.take 1\/Nh.take n=Nh:=by
 match n with
 |0=>exact .inl rfl
 |1=>exact .inr (.inl rfl)
 |n+2=>exact .inr (.inr (ey (by simp[Nh])))
def BD (l:List Int)(i own:Int)(al:Bool):JR (S0 l i own al):=by
 refine⟨vn _,(Rq l (i+1)).2.1, ?_⟩;show ze l i al=[]\/ze l i al=Nh.take 1\/ze l i al=Nh
 grind [ze,Nb]
def M4 {w:ch}(h:JR w):(cw (nj w)).length<=46:=by
 refine nE (B:=8) (n:=5) (fun t ht=>?_) (by simp[nj]);simp only[nj,dp,gO,or_false]at ht;rcases ht with rfl|rfl|rfl|rfl|rfl
 .decide
 .have:=h.1;omega
 .rcases h.2.2 with e|e|e<;>rw[e]<;>decide
 .split<;>decide
 .exact h.2.1
theorem Cx {s:au}(h:s.length<=16):(iW s).length<=35:=by
 unfold iW;split
 .simp
 .exact nE (B:=16) (n:=2) (fun t ht=>by
   simp only[dp,gO,or_false]at ht;rcases ht with rfl|rfl
   .decide
   .exact h) aR
def O7 {s:au}(h:s.length<=6):(sr s).length<=15:=by
 unfold sr;split
 .simp
 .exact nE (B:=6) (n:=2) (fun t ht=>by
   simp only[dp,gO,or_false]at ht;rcases ht with rfl|rfl
   .decide
   .exact h) aR
def LR (l:List Int)(i own:Int):(qX (uh l i own)).length<=160:=by
 have h1:=pg (f:=fun w=>cw (nj w)) (B:=46) (l:=(uh l i own).any) fun w hw=>by
  obtain⟨q,_,rfl⟩:=gD.1 (show w∈Og l i own (wB l i)from hw);exact M4 (BD _ _ _ _)
 have h2:(uh l i own).any.length<=2:=by rw[show(uh l i own).any.length=wB l i from Oh _ _ _ _];exact Oi l i
 have h3:=Cx (EI l (i+14)).2.1;have h4:=O7 (s:=(uh l i own).option) (dD (BC l i own) aM);have h5:(cw [ff]).length<=6:=aM;unfold qX;simp only[cb];show _+(((uh l i own).any.map fun w=>cw (nj w)).flatten).length+(iW (IZ l (i+14))).length+_<=_;omega
def NO {b:fM}(h:b.name.length<=3/\b.range.length<=8/\b.when'.length<=16):(wW b).length<=63:=by
 have h1:=nE (B:=8) (n:=3) (l:=[ie,b.name,b.range]) (fun t ht=>by
  simp only[dp,gO,or_false]at ht;rcases ht with rfl|rfl|rfl
  .decide
  .omega
  .exact h.2.1) aR
 grind [Cx,wW]
def LL {f:cv}(h:f.name.length<=7/\f.of.length<=5/\∀t∈f.of,t.length<=7):(qO f).length<=57:=by
 refine nE (B:=7) (n:=7) (fun t ht=>?_) cY;simp only[List.mem_append,dp,gO,or_false]at ht;rcases ht with(rfl|rfl)|ht
 .decide
 .exact h.1
 .exact h.2.2 t ht
structure Q0 (l:List Int)(i own:Int)(r:Rec):Prop where
 nm:r.name=IX own
 ns:r.needs=Hd l i own
 v:fT r.v=true/\r.v.pre.length<=4/\r.v.build.length<=1
 bl:r.bars.length<=2
 b:∀b∈r.bars,qt r b=0/\b.name.length<=3/\b.range.length<=8/\b.when'.length<=16
 fs:jh r.feats=true/\yY r=(0,0)
 fl:r.feats.length<=4
 f:∀f∈r.feats,f.name.length<=7/\f.of.length<=5/\∀t∈f.of,t.length<=7
def He (l:List Int)(i own:Int):(Hd l i own).length<=2:=by rw[Hd,Rr];exact Zn l i
def Q0.sm {l:List Int}{i own:Int}{r:Rec}(h:Q0 l i own r):gW r:=by
 refine⟨⟨by rw[h.nm];exact dD (vn own) aM,dD h.v.2.1 aM,dD h.v.2.2 aM⟩,fun n hn=>?_,fun b hb=>?_,fun f hf=>?_⟩
 .obtain⟨k,rfl⟩:=IY (show n∈SZ l i own (gK l i)by rw[show SZ l i own (gK l i)=r.needs from h.ns.symm];exact hn);refine⟨fun w hw=>?_,dD (EI l (k+14)).2.1 aM,dD (BC l k own) aM⟩;obtain⟨q,_,rfl⟩:=gD.1 (show w∈Og l k own (wB l k)from hw);obtain⟨a,b,c⟩:=BD l (k+1+6*(q:Nat)) own (decide ((wB l k:Int)=1));refine⟨⟨dD a aM,dD b aM⟩,fun t ht=>?_⟩
  grind [Nh]
 .obtain⟨_,a,b,c⟩:=h.b b hb;exact⟨dD a aM,dD b aM,dD c aM⟩
 .obtain⟨a,b,c⟩:=h.f f hf;exact⟨dD a aM,dD b aM,fun t ht=>dD (c t ht) aM⟩
def Qm {v:cy}(h:fT v=true/\v.pre.length<=4/\v.build.length<=1):(oq v).length<=30:=by
 obtain⟨h1,h2,h3⟩:=h;have hv:=h1;simp only[fT,qw,bG,aT]at h1;have a:=eP 4 v.major.toNat ae ae;have b:=eP 4 v.minor.toNat ae ae;have c:=eP 4 v.patch.toNat ae ae
 grind [oq,M1,coreS]
def Q0.len {l:List Int}{i own:Int}{r:Rec}(h:Q0 l i own r):(pJ r).length<=800:=by
 have h1:(qS r).length<=94:=nE (B:=30) (n:=3) (fun t ht=>by
  simp only[dp,gO,or_false]at ht;rcases ht with rfl|rfl|rfl
  .decide
  .rw[h.nm];exact dD (vn own) aM
  .exact Qm h.v) aR
 have h2:=pg (f:=qX) (B:=160) (l:=r.needs) fun n hn=>by
  obtain⟨k,rfl⟩:=IY (show n∈SZ l i own (gK l i)by rw[show SZ l i own (gK l i)=r.needs from h.ns.symm];exact hn);exact LR l k own
 have h3:=pg (f:=wW) (B:=63) (l:=r.bars) fun b hb=>NO (h.b b hb).2
 have h4:=pg (f:=qO) (B:=57) (l:=r.feats) fun f hf=>LL (h.f f hf)
 have h5:=He l i own;have h6:=h.bl;have h7:=h.fl;rw[h.ns]at h2;unfold pJ;rw[h.ns];simp only[cb];omega
end Go.Abs
section
namespace Go.Abs
variable {Y:Ctx}(hm:(Y.at 0).cj)
def mN (w:au):Prop:=w≠[]/\∀c∈w,c≠32/\c≠10
def CU (w:au):Prop:=∀c∈w,c≠10
def Tb (l:List au):au:=aV [32] l
def n32 {w:au}(h:mN w):∀c∈w,(c.toNat:Int)≠32:=fun c hc e=>(h.2 c hc).1 (jq.1 (by have:(32:UInt8).toNat=32:=rfl;omega))
def F4 {l:List au}(hl:l≠[])(h:∀w∈l,mN w):ai (Tb l) 32=l:=
 rv (x:=32) rfl hl fun w hw=>n32 (h w hw)
def fw (t:au):au:=(ai t 32)[0]!
def hd (R:List au):Option au:=R.head?.map fw
structure Ze (w:ch):Prop where
 nm:mN w.name
 rg:w.range≠[]/\CU w.range
 fs:∀t∈w.feats,mN t/\∀c∈t,c≠44
 ne:aV [44] w.feats≠[45]
structure Y9 (n:bw):Prop where
 a:∀w∈n.any,Ze w
 w:CU n.when'
 o:n.option=[]\/mN n.option
structure BarW (b:fM):Prop where
 nm:mN b.name
 rg:b.range≠[]/\CU b.range
 w:CU b.when'
structure XW (f:cv):Prop where
 nm:mN f.name
 o:∀t∈f.of,mN t
end Go.Abs
namespace Go.Abs
variable {Y:Ctx}(hm:(Y.at 0).cj)
structure RecW (r:Rec):Prop where
 nm:mN r.name
 v:fT r.v=true
 n:∀n∈r.needs,Y9 n
 b:∀b∈r.bars,BarW b
 f:∀f∈r.feats,XW f
def AY (l:List au):au:=(l.map fun t=>t++[10]).flatten
def LD (t:au)(l:List au):AY (t::l)=t++[10]++AY l:=by simp[AY]
def EZ:∀ls:List au,aV [10] (ls++[[]])=AY ls
 |[]=>rfl
 |a::r=>by
  rw[fY,gM _ _ _ aR,EZ r,LD]
end Go.Abs
end
namespace Go.Abs
variable {Y:Ctx}(hm:(Y.at 0).cj)
def U2 {w:au}(h:∀c∈w,c.toNat≠32/\c.toNat≠10):∀c∈w,c≠32/\c≠10:=fun c hc=>⟨fun e=>(h c hc).1 (by rw[e];rfl),fun e=>(h c hc).2 (by rw[e];rfl)⟩
def lS:aE:=⟨2,10,[⟨2,none⟩],b8,(sq (r1 [gm cZ] 2 0) (sq (rg [gm s1,gx 475 [l0,wC] fA,gm l1,ge l2 0,ge l2 1,ge l2 2,gm l3,gm l4,gm l5] [(4,6),(6,7),(3,8)]) (sq (sq (r1 [gm s3,iY l0,gm l1,ek 2 s0,cn 2 (.nilck l3),ig 2 9 l4,hZ 2 l5,cn 2 (dS l6 jC),eW l2 l7,gm l8,ek 9 s4,cn 9 (.ia 1 l10 kJ),hZ 9 fZ,cn 9 (dS iv (cs [98,97,114,101])),ek 9 jr,gmt 14 s4,cr 14 (.ia 1 lg kJ),jM 14 nw,cr 14 (dS oU (cs [102,117,108,108])),zf 9 jT pL,eW l9 qx] 5 20) (.cond s5 (sq (r1 [gm cZ] 2 0) .ret) .skip)) (sq (r2 [gm s4,ga 1 l0 cl,gd l1,gm s6,gm s4,ga 1 l4 kJ,gd l5,aL l6 (cs [98,97,114,101]),gn (.build [.str [],.str [],.aF,.bool false] [(0,1,l2),(1,1,l3),(3,1,l7)]),gb 4 (.c (.agg [.str [],.str [],.aF,.bool false])),gt 4 l9 l8] 8 9) (sq (sq (r1 [gm s4,ga 1 l0 jC,gd l1,bO l2 (cs [45])] 7 3) (.cond s7 (rg [gm s4,ga 1 l0 jC,gd l1,gx 470 [l2,(i8 44)] fA,gf 2 s8,gt 1 l4 l3] []) .skip)) (sq (r2 [gm s0,gc l0,gf 0 l1,gf 6 l2,gd l3,gm s0,gc l5,gf 0 l6,gf 6 l7,gd l8,gl l9,dV l10 cl,ga 3 l4 fZ,gm iv] 9 13) (sq (rt [gm s9,gm s9,gc l1,gf 0 l2,gd l3,gk 4 true s8,gn (.bsl 4 (.agg [.str [],.str [],.aF,.bool false]) 1 [(0,l5)]),gn (.app 4 l4 l6),gc l0,gf 0 l8,gt 1 l9 l7] []) (sq (r1 [gm m5] 2 0) .ret))))))))⟩
def w472 {Y:Ctx}(hm:(Y.at 5).cj)(t:au)(nm:au)(v:cy)(N:List bw)(B:List fM)(Z:List cv)(st:Nat)(h470:sI (Y.at 5))(h475:QP (Y.at 5))(hp0:t.length<=1048576)(hp1:st=2->N≠[])(hp2:sC N<=1000000)(hp3:N.length<=1000000):bP (Y.at 5) lS.body (kv lS (Ut (uU ⟨⟨nm,v,N,B,Z⟩,st⟩ t)):Ex->List cd->St->Prop) (fH lS [.ptr 0 10 0 0,.str t]) ⟨5,[(0,.buf 10 [nI nm v N.length B.length Z.length ((st:Nat):Int) 1 3 4]),(1,.buf 3 (eF 2 N)),(2,.buf 4 (mL N)),(3,.buf 3 (B.map fM.D)),(4,.buf 2 (Z.map cv.D))]⟩:=by
 show bP _ _ _ [⟨true,.ptr 0 10 0 0⟩,⟨true,.str t⟩,.un,.un,.un,.un,.un,.un,.un,.un] ⟨5,[(0,.buf 10 [nI nm v N.length B.length Z.length ((st:Nat):Int) 1 3 4]),(1,.buf 3 (eF 2 N)),(2,.buf 4 (mL N)),(3,.buf 3 (B.map fM.D)),(4,.buf 2 (Z.map cv.D))]⟩;have hrl:=DB t 4;have hrn:=vT t 4;have hre:=Af t 4;obtain⟨⟨l,u,ok⟩,hq⟩:∃q,gQ t 4=q:=⟨_,rfl⟩
 rw[hq]at hrl hrn hre;dsimp only at hrl hrn hre;refine aq ?_;refine aD ?_;refine ar (v:=.tup [.sl 1 (l.map D.str),.str u,.bool ok]) (hc:=by have:=h475 t 4 hp0 aM;rw[hq]at this;exact this) ?_;refine aH ?_;refine e7 (.sl _ _) ?_;refine rE ?_;refine bd (v:=.int .i64 ((st:Nat):Int)) ?_;refine aD ?_;refine bL 3 (hb:=fun hf=>by simp at hf;have hln:=hrn (by first|exact hf|exact hf.1|exact hf.1.1|exact hf.1.1.1);omega) ?_;refine bH (v:=.str l[3]!) (hi:=fun hf=>by simp at hf;have hln:=hrn (by first|exact hf|exact hf.1|exact hf.1.1|exact hf.1.1.1);omega) ?_;refine aA ?_;refine bL 3 (hb:=fun hf=>by simp at hf;have hln:=hrn (by first|exact hf|exact hf.1|exact hf.1.1|exact hf.1.1.1);omega) ?_;refine bH (v:=.str l[3]!) (hi:=fun hf=>by simp at hf;have hln:=hrn (by first|exact hf|exact hf.1|exact hf.1.1|exact hf.1.1.1);omega) ?_;refine aD ?_;refine av (fun hc0=>?_) (fun hc0=>?_)
 .simp only[cS,bG,bg,aT,bm]at hc0;have ho:uU ⟨⟨nm,v,N,B,Z⟩,st⟩ t=none:=by
   unfold uU;rw[hrl];rcases hc0 with(h|h)|⟨h1,h2⟩
   .rw[h];rfl
   .by_cases hk:ok=true
    .rw[aw hk];simp only;rw[ak (fun hh=>h ae)]
    .rw[ak hk]
   .by_cases hk:ok=true
    .rw[aw hk];simp only;rw[ak];rintro⟨_,hh⟩;unfold lr at hh;rw[cJ (show ¬l[3]! =eh from h1),cJ (show ¬l[3]! =mH from h2)]at hh;cases hh
    .rw[ak hk]
  rw[ho];refine aI ?_;refine bW trivial ee (bV ah (aj D.bool ?_)) ah ⟨rfl,fun y hy=>by cases hy⟩;rfl
 simp only[dh,dR,bN,aT,bm]at hc0;obtain⟨⟨hk,hst⟩,hho⟩:=hc0;obtain rfl:st=2:=ae;obtain⟨N,n,rfl⟩:=r8 (hp1 rfl);rw[gH,jt];rw[pY]at hp2;have hnl:(N++[n]).length=N.length+1:=aR;have hln:=hrn hk;have hlm:∀w∈l,w.length<=1048576:=fun w hw=>dD (hre w hw) hp0
 have hhow:lr l=true:=by
  unfold lr;rcases hho with h|h
  .rw[b9 (show l[3]! =eh from h)];rfl
  .rw[b9 (show l[3]! =mH from h),Bool.or_true]
 have ho:uU ⟨⟨nm,v,N++[n],B,Z⟩,2⟩ t=some ⟨⟨nm,v,N++[⟨n.any++[(⟨l[1]!,u,if l[2]! =[45]then []else ai l[2]! 44,decide (l[3]! =eh)⟩:ch)],n.when',n.option⟩],B,Z⟩,2⟩:=by
  unfold uU;rw[hrl,aw hk];simp only;rw[aw ⟨trivial,hhow⟩,eR]
 rw[ho];refine aA ?_;refine bL 1 (hb:=fun _=>ae) ?_;refine bH (v:=.str l[1]!) (hi:=fun _=>ae) ?_;refine ay ?_;refine bL 3 (hb:=fun _=>ae) ?_;refine bH (v:=.str l[3]!) (hi:=fun _=>ae) ?_;refine aH ?_;refine bA (.agg [.str l[1]!,.str u,.aF,.bool (decide (l[3]! =eh))]) ?_;refine aH ?_;refine aY (.agg [.str l[1]!,.str u,.aF,.bool (decide (l[3]! =eh))]) (he:=aZ) ?_;refine aD ?_;refine bL 2 (hb:=fun _=>ae) ?_;refine bH (v:=.str l[2]!) (hi:=fun _=>ae) ?_;refine ay ?_;refine cM (fun hc1=>?_) fun hc1=>?_
 .refine ay ?_;refine bL 2 (hb:=fun _=>ae) ?_;refine bH (v:=.str l[2]!) (hi:=fun _=>ae) ?_;refine ar (v:=.sl 1 ((ai l[2]! 44).map D.str)) (hc:=h470 l[2]! 44 (hlm _ (bR ae))) ?_;refine aH ?_;refine aY (ch.N (⟨l[1]!,u,if l[2]! =[45]then []else ai l[2]! 44,decide (l[3]! =eh)⟩:ch)) (he:=by show _=D.agg [.str l[1]!,.str u,RW (if l[2]! =[45]then []else ai l[2]! 44),.bool (decide (l[3]! =eh))];rw[ak hc1,OT (nJ _ _)];exact rfl) ?_;refine aG ?_;refine bd (v:=.own 1 3 0 (N++[n]).length) ?_;refine aD ?_;refine bd (v:=.own 1 3 0 (N++[n]).length) ?_;refine iJ ?_;refine aH ?_;refine iD N.length (hj:=fun _=>aR) (hb:=fun _=>aR) ?_;refine ba ?_;refine Px (es:=N.map bw.D++[lu 2 n]) (.own 2 4 0 n.any.length) (hi:=fun _=>aR) (hv:=fun _=>by rw[nT _ _ _ _ aR];exact rfl) ?_;refine de (d:=ch.N (⟨l[1]!,u,if l[2]! =[45]then []else ai l[2]! 44,decide (l[3]! =eh)⟩:ch)) ?_;refine dA [ch.N (⟨l[1]!,u,if l[2]! =[45]then []else ai l[2]! 44,decide (l[3]! =eh)⟩:ch)] ?_;refine kM (q:=ch.N) (xs:=n.any) (e:=(⟨l[1]!,u,if l[2]! =[45]then []else ai l[2]! 44,decide (l[3]! =eh)⟩:ch)) ?_;refine ay ?_;refine sD (es:=N.map bw.D++[lu 2 n]) (N.map bw.D++[lu 78 ⟨n.any++[(⟨l[1]!,u,if l[2]! =[45]then []else ai l[2]! 44,decide (l[3]! =eh)⟩:ch)],n.when',n.option⟩]) (hi:=aR) (he:=by rw[nT _ _ _ _ aR,ru _ _ _ _ aR];exact rfl) ?_;refine aI ?_;refine bW trivial ee (bV ah (aj D.bool ?_)) ah ⟨rfl,fun y hy=>by cases hy;exact⟨1,78,3,4,aM,⟨(by have e:(N++[(⟨n.any++[(⟨l[1]!,u,if l[2]! =[45]then []else ai l[2]! 44,decide (l[3]! =eh)⟩:ch)],n.when',n.option⟩:bw)]).length=(N++[n]).length:=aR;show _=some (b7.buf 10 [nI nm v (N++[(⟨n.any++[(⟨l[1]!,u,if l[2]! =[45]then []else ai l[2]! 44,decide (l[3]! =eh)⟩:ch)],n.when',n.option⟩:bw)]).length B.length Z.length ((2:Nat):Int) 1 3 4]);rw[e];exact rfl),(by rw[gH];exact rfl),(by rw[jt];exact rfl),ah,ah⟩⟩⟩;rfl
 refine ay ?_;rw[show(D.agg [.str l[1]!,.str u,.aF,.bool (decide (l[3]! =eh))])=ch.N (⟨l[1]!,u,if l[2]! =[45]then []else ai l[2]! 44,decide (l[3]! =eh)⟩:ch)by show _=D.agg [.str l[1]!,.str u,RW (if l[2]! =[45]then []else ai l[2]! 44),.bool (decide (l[3]! =eh))];rw[aw hc1];rfl];refine aD ?_;refine bd (v:=.own 1 3 0 (N++[n]).length) ?_;refine aD ?_;refine bd (v:=.own 1 3 0 (N++[n]).length) ?_;refine iJ ?_;refine aH ?_;refine iD N.length (hj:=fun _=>aR) (hb:=fun _=>aR) ?_;refine ba ?_;refine Px (es:=N.map bw.D++[lu 2 n]) (.own 2 4 0 n.any.length) (hi:=fun _=>aR) (hv:=fun _=>by rw[nT _ _ _ _ aR];exact rfl) ?_;refine de (d:=ch.N (⟨l[1]!,u,if l[2]! =[45]then []else ai l[2]! 44,decide (l[3]! =eh)⟩:ch)) ?_;refine dA [ch.N (⟨l[1]!,u,if l[2]! =[45]then []else ai l[2]! 44,decide (l[3]! =eh)⟩:ch)] ?_;refine kM (q:=ch.N) (xs:=n.any) (e:=(⟨l[1]!,u,if l[2]! =[45]then []else ai l[2]! 44,decide (l[3]! =eh)⟩:ch)) ?_;refine ay ?_;refine sD (es:=N.map bw.D++[lu 2 n]) (N.map bw.D++[lu 72 ⟨n.any++[(⟨l[1]!,u,if l[2]! =[45]then []else ai l[2]! 44,decide (l[3]! =eh)⟩:ch)],n.when',n.option⟩]) (hi:=aR) (he:=by rw[nT _ _ _ _ aR,ru _ _ _ _ aR];exact rfl) ?_;refine aI ?_;refine bW trivial ee (bV ah (aj D.bool ?_)) ah ⟨rfl,fun y hy=>by cases hy;exact⟨1,72,3,4,aM,⟨(by have e:(N++[(⟨n.any++[(⟨l[1]!,u,if l[2]! =[45]then []else ai l[2]! 44,decide (l[3]! =eh)⟩:ch)],n.when',n.option⟩:bw)]).length=(N++[n]).length:=aR;show _=some (b7.buf 10 [nI nm v (N++[(⟨n.any++[(⟨l[1]!,u,if l[2]! =[45]then []else ai l[2]! 44,decide (l[3]! =eh)⟩:ch)],n.when',n.option⟩:bw)]).length B.length Z.length ((2:Nat):Int) 1 3 4]);rw[e];exact rfl),(by rw[gH];exact rfl),(by rw[jt];exact rfl),ah,ah⟩⟩⟩;rfl
def kV:aE:=⟨2,8,[⟨2,none⟩],b8,(sq (r1 [gm cZ] 2 0) (sq (rg [gm s1,gx 475 [l0,cl] fA,gm l1,ge l2 0,ge l2 1,ge l2 2,gm l3,gm l4,gm l5] [(6,7),(3,8)]) (sq (.block 0 (sq (r1 [gm s3,iY l0,gm l1] 4 2) (.cond s4 (sq (r1 [gm cZ] 2 0) .ret) (sq (r1 [gm s0,gc l0,gf 9 l1,gd l2,aL l3 jC,gm l4] 5 5) (.cond s5 (sq (rt [gm s0,gc l0,gf 0 l1,gf 6 l2,gd l3,gm s0,gc l5,gf 0 l6,gf 6 l7,gd l8,gl l9,dV l10 cl,gm s0,gm s6,ga 3 l4 fZ,gf 1 jT,gt 1 lg jr,gc iv,gf 9 oU,gt 1 pL kJ] []) (sq (r1 [gm m5] 2 0) .ret)) (sq (r1 [gm s0,gc l0,gf 9 l1,gd l2,aL l3 Hj,gm l4] 7 5) (.cond s7 (sq (rt [gm s0,gc l0,gf 0 l1,gf 7 l2,gd l3,gm s0,gc l5,gf 0 l6,gf 7 l7,gd l8,gl l9,dV l10 cl,gm s0,gm s6,ga 3 l4 fZ,gf 2 jT,gt 1 lg jr,gc iv,gf 9 oU,gt 1 pL xB] []) (sq (r1 [gm m5] 2 0) .ret)) .skip))))))) (sq (r1 [gm cZ] 2 0) .ret))))⟩
def w473 {Y:Ctx}(hm:(Y.at 5).cj)(t:au)(nm:au)(v:cy)(N:List bw)(B:List fM)(Z:List cv)(st:Nat)(h475:QP (Y.at 5))(hp0:t.length<=1048576)(hp1:st=2->N≠[])(hp2:st=5->B≠[])(hp3:N.length<=1000000)(hp4:B.length<=1000000):bP (Y.at 5) kV.body (kv kV (Ut (oJ ⟨⟨nm,v,N,B,Z⟩,st⟩ t)):Ex->List cd->St->Prop) (fH kV [.ptr 0 10 0 0,.str t]) ⟨5,[(0,.buf 10 [nI nm v N.length B.length Z.length ((st:Nat):Int) 1 3 4]),(1,.buf 3 (eF 2 N)),(2,.buf 4 (mL N)),(3,.buf 3 (B.map fM.D)),(4,.buf 2 (Z.map cv.D))]⟩:=by
 show bP _ _ _ [⟨true,.ptr 0 10 0 0⟩,⟨true,.str t⟩,.un,.un,.un,.un,.un,.un] ⟨5,[(0,.buf 10 [nI nm v N.length B.length Z.length ((st:Nat):Int) 1 3 4]),(1,.buf 3 (eF 2 N)),(2,.buf 4 (mL N)),(3,.buf 3 (B.map fM.D)),(4,.buf 2 (Z.map cv.D))]⟩;have hrl:=DB t 1;have hrn:=vT t 1;have hre:=Af t 1;obtain⟨⟨l,u,ok⟩,hq⟩:∃q,gQ t 1=q:=⟨_,rfl⟩
 rw[hq]at hrl hrn hre;dsimp only at hrl hrn hre;refine aq ?_;refine aD ?_;refine ar (v:=.tup [.sl 1 (l.map D.str),.str u,.bool ok]) (hc:=by have:=h475 t 1 hp0 aM;rw[hq]at this;exact this) ?_;refine aH ?_;refine e7 (.sl _ _) ?_;refine hY ?_;refine wp_cond (fun hc0=>?_) (fun hc0=>?_)
 .simp only[bg]at hc0;have ho:oJ ⟨⟨nm,v,N,B,Z⟩,st⟩ t=none:=by unfold oJ;rw[hrl,hc0];rfl
  rw[ho];refine aI ?_;refine bW trivial ee (bV ah (aj D.bool ?_)) ah ⟨rfl,fun y hy=>by cases hy⟩;rfl
 simp only[bN]at hc0;have hw:oJ ⟨⟨nm,v,N,B,Z⟩,st⟩ t=(if st=2 then some ⟨⟨nm,v,gp N fun n=>⟨n.any,u,n.option⟩,B,Z⟩,3⟩else if st=5 then some ⟨⟨nm,v,N,gp B fun b=>⟨b.name,b.range,u⟩,Z⟩,6⟩else none):=by
  unfold oJ;rw[hrl,aw hc0]
 refine aD ?_;refine bd (v:=.int .i64 ((st:Nat):Int)) ?_;refine aA ?_;refine wp_cond (fun hc1=>?_) (fun hc1=>?_)
 .simp only[aT]at hc1;obtain rfl:st=2:=ae;obtain⟨N,n,rfl⟩:=r8 (hp1 rfl);have hnl:(N++[n]).length=N.length+1:=aR;rw[aw rfl,eR]at hw;rw[hw,gH,jt];refine aI ?_;refine bd (v:=.own 1 3 0 (N++[n]).length) ?_;refine aD ?_;refine bd (v:=.own 1 3 0 (N++[n]).length) ?_;refine iJ ?_;refine aA ?_;refine iD N.length (hj:=fun _=>ae) (hb:=fun _=>ae) ?_;refine aH ?_;refine sD (es:=N.map bw.D++[lu 2 n]) (N.map bw.D++[lu 2 ⟨n.any,u,n.option⟩]) (hi:=aR) (he:=by rw[nT _ _ _ _ aR,ru _ _ _ _ aR];exact rfl) ?_;refine ay ?_;refine aY (nI nm v (N++[n]).length B.length Z.length ((3:Nat):Int) 1 3 4) (he:=aZ) ?_;refine aG ?_;refine bW trivial ee (bV ah (aj D.bool ?_)) ah ⟨rfl,fun y hy=>by cases hy;exact⟨1,2,3,4,aM,⟨(by have e:(N++[(⟨n.any,u,n.option⟩:bw)]).length=(N++[n]).length:=aR;show _=some (b7.buf 10 [nI nm v (N++[(⟨n.any,u,n.option⟩:bw)]).length B.length Z.length ((3:Nat):Int) 1 3 4]);rw[e];exact rfl),(by rw[gH];exact rfl),(by rw[jt];exact rfl),ah,ah⟩⟩⟩;rfl
 simp only[bm]at hc1;rw[ak (show ¬st=2 by omega)]at hw;refine aD ?_;refine bd (v:=.int .i64 ((st:Nat):Int)) ?_;refine aA ?_;refine wp_cond (fun hc2=>?_) (fun hc2=>?_)
 .simp only[aT]at hc2;obtain rfl:st=5:=ae;obtain⟨B,b,rfl⟩:=r8 (hp2 rfl);have hbl:(B++[b]).length=B.length+1:=aR;rw[aw rfl,eR]at hw;rw[hw];rw[List.map_append];refine aI ?_;refine bd (v:=.own 3 3 0 (B++[b]).length) ?_;refine aD ?_;refine bd (v:=.own 3 3 0 (B++[b]).length) ?_;refine iJ ?_;refine aA ?_;refine iD B.length (hj:=fun _=>ae) (hb:=fun _=>ae) ?_;refine aH ?_;refine sD (es:=B.map fM.D++[b].map fM.D) (B.map fM.D++[fM.D ⟨b.name,b.range,u⟩]) (hi:=aR) (he:=by rw[List.map_cons,List.map_nil,nT _ _ _ _ aR,ru _ _ _ _ aR];exact rfl) ?_;refine ay ?_;refine aY (nI nm v N.length (B++[b]).length Z.length ((6:Nat):Int) 1 3 4) (he:=aZ) ?_;refine aG ?_;refine bW trivial ee (bV ah (aj D.bool ?_)) ah ⟨rfl,fun y hy=>by cases hy;exact⟨1,2,3,4,aM,⟨(by have e:(B++[(⟨b.name,b.range,u⟩:fM)]).length=(B++[b]).length:=aR;show _=some (b7.buf 10 [nI nm v N.length (B++[(⟨b.name,b.range,u⟩:fM)]).length Z.length ((6:Nat):Int) 1 3 4]);rw[e];exact rfl),ah,ah,(by rw[List.map_append];exact rfl),ah⟩⟩⟩;rfl
 simp only[bm]at hc2;rw[ak (show ¬st=5 by omega)]at hw;rw[hw];refine aG ?_;refine bW trivial ee (bV ah (aj D.bool ?_)) ah ⟨rfl,fun y hy=>by cases hy⟩;rfl
def jn:aE:=⟨2,5,[⟨2,none⟩],b8,(sq (r1 [gm cZ] 2 0) (sq (sq (r1 [gm s1,gl l0,aX l1 jC,gm l2,ek 3 s1,ek 3 s1,cn 3 (.len l5),cn 3 (.call 474 [l4,l6] [[.sl 1 [.a]],[.a]]),cn 3 (.un .not l7),eW l3 l8] 3 9) (.cond s3 (sq (r1 [gm cZ] 2 0) .ret) .skip)) (sq (r1 [gm s1,ga 1 l0 cl,gd l1,gn (.build [.str [],.aF] [(0,1,l2)]),gb 2 (.c (.agg [.str [],.aF])),gt 2 l4 l3] 4 4) (sq (rt [gf 1 s4,gd l0,gm s1,gn (.slA 1 l2 (some jC) none),gn (.app 1 l1 l3),gf 1 s4,gt 1 l5 l4] []) (sq (rt [gm s0,gm s0,gm s0,gc l2,gf 0 l3,gf 8 l4,gd l5,gk 2 true s4,gn (.bsl 2 (.agg [.str [],.aF]) 1 [(0,l7)]),gn (.app 2 l6 l8),gc l0,gf 0 l10,gf 8 fZ,gt 1 iv l9,gc l1,gf 9 jT,gt 1 lg Nf] []) (sq (r1 [gm m5] 2 0) .ret))))))⟩
def w476 {Y:Ctx}(hm:(Y.at 5).cj)(l:List au)(nm:au)(v:cy)(N:List bw)(B:List fM)(Z:List cv)(st:Nat)(h474:TN (Y.at 5))(hp0:l.length<=1048577)(hp1:Z.length<=1000000):bP (Y.at 5) jn.body (kv jn (Ut ((if 2<=l.length/\vI l l.length=true then some (⟨⟨nm,v,N,B,Z++[⟨l[1]!,l.drop 2⟩]⟩,7⟩:jc)else none))):Ex->List cd->St->Prop) (fH jn [.ptr 0 10 0 0,.sl 1 (l.map D.str)]) ⟨5,[(0,.buf 10 [nI nm v N.length B.length Z.length ((st:Nat):Int) 1 3 4]),(1,.buf 3 (eF 2 N)),(2,.buf 4 (mL N)),(3,.buf 3 (B.map fM.D)),(4,.buf 2 (Z.map cv.D))]⟩:=by
 show bP _ _ _ [⟨true,.ptr 0 10 0 0⟩,⟨true,.sl 1 (l.map D.str)⟩,.un,.un,.un] ⟨5,[(0,.buf 10 [nI nm v N.length B.length Z.length ((st:Nat):Int) 1 3 4]),(1,.buf 3 (eF 2 N)),(2,.buf 4 (mL N)),(3,.buf 3 (B.map fM.D)),(4,.buf 2 (Z.map cv.D))]⟩;refine aq ?_;refine aG ?_;intro u0;refine aD ?_;refine iJ ?_;refine ar (hc:=h474 l l.length) ?_;refine aA ?_;refine av (fun hc0=>?_) (fun hc0=>?_)
 .simp only[cS,bg,aT]at hc0;have ho:(if 2<=l.length/\vI l l.length=true then some (⟨⟨nm,v,N,B,Z++[⟨l[1]!,l.drop 2⟩]⟩,7⟩:jc)else none)=none:=ak (by rintro⟨a,b⟩;rcases hc0 with h|h;omega;rw[b]at h;cases h);rw[ho];refine aI ?_;refine bW trivial ee (bV ah (aj D.bool ?_)) ah ⟨rfl,fun y hy=>by cases hy⟩;rfl
 simp only[dh,bN,bm]at hc0;have h2l:2<=l.length:=ae;have ho:(if 2<=l.length/\vI l l.length=true then some (⟨⟨nm,v,N,B,Z++[⟨l[1]!,l.drop 2⟩]⟩,7⟩:jc)else none)=some (⟨⟨nm,v,N,B,Z++[⟨l[1]!,l.drop 2⟩]⟩,7⟩:jc):=aw ⟨h2l,hc0.2⟩;rw[ho];refine aA ?_;refine bL 1 (hb:=fun _=>ae) ?_;refine bH (v:=.str l[1]!) (hi:=fun _=>ae) ?_;refine bA (.agg [.str l[1]!,.aF]) ?_;refine aH ?_;refine aY (.agg [.str l[1]!,.aF]) (he:=aZ) ?_;refine aA ?_;refine bd (v:=.aF) ?_;refine aH ?_;refine uw 2 (hb:=fun _=>ae) ?_;refine Vl (n:=(l.drop 2).length) (he:=uK.sl) (hn:=by rw[bQ]) (hb:=by rw[mZ];omega) ?_;refine aH ?_;refine aY (.agg [.str l[1]!,.own 26 1 0 (l.drop 2).length]) (he:=aZ) ?_;refine aH ?_;refine fE 26 (he:=by simp only[ll,iQ,iX,mq,nt,cL,Nat.reduceEqDiff,a7,a8,cR,cu,cx,cT,cX,bT,bQ,aQ,cg,aP,reduceCtorEq,ax,aB,Nat.reduceAdd,Nat.reduceLeDiff,nI];exact rfl) (hm:=by simp only[ll,iQ,iX,mq,nt,cL,Nat.reduceEqDiff,a7,a8,cR,cu,cx,cT,cX,bT,bQ,aQ,cg,aP,reduceCtorEq,ax,aB,Nat.reduceAdd,Nat.reduceLeDiff,nI,vD 26 _ _ aM,vl,sX,sY];exact rfl) ?_;refine ba ?_;refine bd (v:=.own 4 2 0 Z.length) ?_;refine de (d:=cv.D ⟨l[1]!,l.drop 2⟩) ?_;refine dA [cv.D ⟨l[1]!,l.drop 2⟩] ?_;refine kM (q:=cv.D) (xs:=Z) (e:=⟨l[1]!,l.drop 2⟩) ?_;refine aA ?_;refine aY (nI nm v N.length B.length (Z++[(⟨l[1]!,l.drop 2⟩:cv)]).length ((st:Nat):Int) 1 3 38) (he:=aZ) ?_;refine ay ?_;refine aY (nI nm v N.length B.length (Z++[(⟨l[1]!,l.drop 2⟩:cv)]).length ((7:Nat):Int) 1 3 38) (he:=aZ) ?_;refine aI ?_;refine bW trivial ee (bV ah (aj D.bool ?_)) ah ⟨rfl,fun y hy=>by cases hy;exact⟨1,2,3,38,aM,⟨ah,ah,ah,ah,ah⟩⟩⟩;rfl
def kT:aE:=⟨2,6,[⟨2,none⟩],b8,(sq (r1 [gm cZ] 2 0) (sq (sq (r1 [gm s1,gl l0,bO l1 kJ,gm l2,ek 3 s1,cn 3 (.ia 1 l4 bx),hZ 3 l5,cn 3 (dS l6 (cs [112,97,99,107,97,103,101])),eW l3 l7,gm l8,ek 9 s1,cn 9 (.ia 1 l10 cl),hZ 9 fZ,cn 9 (cV iv cse),eW l9 jr] 3 14) (.cond s3 (sq (r1 [gm cZ] 2 0) .ret) .skip)) (sq (rg [gm s1,ga 1 l0 jC,gd l1,gx 568 [l2] b8,gm l3,ge l4 0,ge l4 1,gb 5 (.c (.agg [.int .i64 0,.int .i64 0,.int .i64 0,.str [],.str []])),gt 5 l7 l5,gm l6] [(4,7),(5,9)]) (sq (rt [gm s0,gm s0,gm s0,gm s1,ga 1 l3 cl,gd l4,gn (.ldI 5 true s4),gc l0,gf 0 l7,gf 0 l8,gt 1 l9 l5,gc l1,gf 0 fZ,gf 1 iv,gt 5 jr l6,gc l2,gf 9 lg,gt 1 nw cl] []) (sq (r1 [gm s5,aL l0 bx,gm l1] 2 2) .ret)))))⟩
def w471 {Y:Ctx}(hm:(Y.at 5).cj)(l:List au)(nm:au)(v:cy)(N:List bw)(B:List fM)(Z:List cv)(st:Nat)(h568:Xc (Y.at 5))(hp0:∀w∈l,w.length<=1048576):bP (Y.at 5) kT.body (kv kT (Ut (qT ⟨⟨nm,v,N,B,Z⟩,st⟩ l)):Ex->List cd->St->Prop) (fH kT [.ptr 0 10 0 0,.sl 1 (l.map D.str)]) ⟨5,[(0,.buf 10 [nI nm v N.length B.length Z.length ((st:Nat):Int) 1 3 4]),(1,.buf 3 (eF 2 N)),(2,.buf 4 (mL N)),(3,.buf 3 (B.map fM.D)),(4,.buf 2 (Z.map cv.D))]⟩:=by
 show bP _ _ _ [⟨true,.ptr 0 10 0 0⟩,⟨true,.sl 1 (l.map D.str)⟩,.un,.un,.un,.un] ⟨5,[(0,.buf 10 [nI nm v N.length B.length Z.length ((st:Nat):Int) 1 3 4]),(1,.buf 3 (eF 2 N)),(2,.buf 4 (mL N)),(3,.buf 3 (B.map fM.D)),(4,.buf 2 (Z.map cv.D))]⟩;refine aq ?_;refine aG ?_;intro u0;refine aA ?_;refine bL 0 (hb:=fun hf=>by simp at hf;omega) ?_;refine bH (v:=.str l[0]!) (hi:=fun hf=>by simp at hf;omega) ?_;refine aD ?_;refine bL 1 (hb:=fun hf=>by simp at hf;omega) ?_;refine bH (v:=.str l[1]!) (hi:=fun hf=>by simp at hf;omega) ?_;refine aA ?_;refine av (fun hc0=>?_) (fun hc0=>?_)
 .simp only[cS,bg,aT,bm]at hc0;have ho:qT ⟨⟨nm,v,N,B,Z⟩,st⟩ l=none:=by
   unfold qT;rw[ak];rintro⟨⟨a,b⟩,c⟩;rcases hc0 with(h|h)|h
   .exact h ae
   .exact h b
   .exact c h
  rw[ho];refine aI ?_;refine bW trivial ee (bV ah (aj D.bool ?_)) ah ⟨rfl,fun y hy=>by cases hy⟩;rfl
 simp only[dh,bN,aT,bm]at hc0;obtain⟨⟨hl3,hl0⟩,hl1⟩:=hc0;obtain hl3:l.length=3:=ae;have hhx:qT ⟨⟨nm,v,N,B,Z⟩,st⟩ l=(match gL l[2]! with
  |some v=>some ⟨⟨l[1]!,v,N,B,Z⟩,1⟩
  |none=>none):=aw ⟨⟨hl3,hl0⟩,hl1⟩
 rw[hhx];refine aA ?_;refine bL 2 (hb:=fun _=>ae) ?_;refine bH (v:=.str l[2]!) (hi:=fun _=>ae) ?_;refine ar (hc:=h568 l[2]! (hp0 _ (bR ae))) ?_;refine aH ?_;refine e7 (cy.D _) ?_;refine ay ?_;refine aY (cy.D ((gL l[2]!).getD gr)) (he:=aZ) ?_;refine ay ?_;refine fE 28 (he:=by simp only[ll,iQ,iX,mq,nt,cL,Nat.reduceEqDiff,a7,a8,cR,cu,cx,cT,cX,bT,bQ,aQ,cg,aP,reduceCtorEq,ax,aB,Nat.reduceAdd,Nat.reduceLeDiff,nI,cy.D];exact rfl) (hm:=by simp only[ll,iQ,iX,mq,nt,cL,Nat.reduceEqDiff,a7,a8,cR,cu,cx,cT,cX,bT,bQ,aQ,cg,aP,reduceCtorEq,ax,aB,Nat.reduceAdd,Nat.reduceLeDiff,nI,cy.D,vD 28 _ _ aM,vl,sX,sY];exact rfl) ?_;refine aI ?_;refine bL 1 (hb:=fun _=>ae) ?_;refine bH (v:=.str l[1]!) (hi:=fun _=>ae) ?_;refine Dl (v:=cy.D ((gL l[2]!).getD gr)) ?_;refine aA ?_;refine aY (nI l[1]! v N.length B.length Z.length ((st:Nat):Int) 1 3 4) (he:=aZ) ?_;refine aA ?_;refine aY (nI l[1]! ((gL l[2]!).getD gr) N.length B.length Z.length ((st:Nat):Int) 1 3 4) (he:=aZ) ?_;refine ay ?_;refine aY (nI l[1]! ((gL l[2]!).getD gr) N.length B.length Z.length ((1:Nat):Int) 1 3 4) (he:=aZ) ?_;refine ba ?_;refine bW trivial ee (bV ah (aj D.bool ?_)) ah ⟨rfl,fun y hy=>by obtain⟨w,hv⟩:∃w,gL l[2]! =some w:=(by cases hv:gL l[2]! with|none=>rw[hv]at hy;cases hy|some w=>exact⟨w,rfl⟩);rw[hv]at hy;cases hy;exact⟨1,2,3,4,aM,⟨(by rw[hv];exact rfl),ah,ah,ah,ah⟩⟩⟩;rw[Ql];cases gL l[2]! <;>rfl
def Ez (x:jc)(l:List au):Option jc:=if 2<=l.length/\vI l l.length=true then some ⟨⟨x.r.name,x.r.v,x.r.needs,x.r.bars,x.r.feats++[⟨l[1]!,l.drop 2⟩]⟩,7⟩else none
def TK (Y:Ctx):Prop:=∀(x:jc) (l:List au),(∀w∈l,w.length<=1048576)->Za Y 471 [.sl 1 (l.map D.str)] x (qT x l)
def TL (Y:Ctx):Prop:=∀(x:jc) (t:au),t.length<=1048576->(x.st=2->x.r.needs≠[])->sC x.r.needs<=1000000->x.r.needs.length<=1000000->Za Y 472 [.str t] x (uU x t)
def TM (Y:Ctx):Prop:=∀(x:jc) (t:au),t.length<=1048576->(x.st=2->x.r.needs≠[])->(x.st=5->x.r.bars≠[])->x.r.needs.length<=1000000->x.r.bars.length<=1000000->Za Y 473 [.str t] x (oJ x t)
def TO (Y:Ctx):Prop:=∀(x:jc) (l:List au),l.length<=1048577->x.r.feats.length<=1000000->Za Y 476 [.sl 1 (l.map D.str)] x (Ez x l)
def CL {out:Option jc}{L:Nat}(h:sW 0 L (L+1) (L+2) (L+3)=true):Ut out (.bool out.isSome) (uS out 0 L++[]):=by
 refine⟨rfl,fun y hy=>?_⟩;subst hy;refine⟨L,L+1,L+2,L+3,h, ?_⟩;simp only[sW,bg,dh]at h;obtain⟨⟨⟨⟨⟨⟨⟨⟨⟨h1,h2⟩,h3⟩,h4⟩,h5⟩,h6⟩,h7⟩,h8⟩,h9⟩,h10⟩:=h;have ne:∀{a b:Nat},Nat.beq a b=false->¬a=b:=fun h e=>by subst e;simp at h
 rw[iz];unfold uS Us;constructor<;>simp only[look,a7,ne h1,ne h2,ne h3,ne h4,ne h5,ne h6,ne h7,ne h8,ne h9,ne h10,a8]
mutual
theorem Uq:∀d:D,d.bK=true->uL d d
 | .aF,_=>.inl rfl
 | .agg a,h=>⟨a,rfl,CJ a h⟩
 | .any,h=>⟨rfl,h⟩
 | .bool b,h=>⟨rfl,h⟩
 | .int k n,h=>⟨rfl,h⟩
 | .str s,h=>⟨rfl,h⟩
 | .tup s,h=>⟨rfl,h⟩
 | .sl k s,h=>⟨rfl,h⟩
 | .ref k s i o,h=>⟨rfl,h⟩
 | .nilp,h=>⟨rfl,h⟩
 | .nilf,h=>⟨rfl,h⟩
 | .fn f c,h=>⟨rfl,h⟩
theorem CJ:∀l:List D,bE l=true->CI l l
 |[],_=>rfl
 |d::r,h=>by
  simp only[bE,bG]at h;exact⟨d,r,rfl,Uq d h.1,CJ r h.2⟩
end
def zy:D:=.agg [.aF,.str [],.str []]
def Bm (j:Nat):∀N:List bw,CI (N.map bw.D++[zy]) (N.map bw.D++[lu j ⟨[],[],[]⟩])
 |[]=>⟨_,_,rfl,⟨_,rfl,⟨_,_,rfl,.inr ⟨_,_,_,rfl⟩,⟨_,_,rfl,⟨rfl,rfl⟩,⟨_,_,rfl,⟨rfl,rfl⟩,rfl⟩⟩⟩⟩,rfl⟩
 |a::r=>⟨_,_,rfl,⟨_,rfl,CJ _ rfl⟩,Bm j r⟩
def BP:∀N:List bw,GJ (iX 2 4 (mL N) (eF 2 N)) (N.map bw.D)
 |[]=>.nil
 |[n]=>by
  have e:iX 2 4 (mL [n]) (eF 2 [n])=[.agg [.sl 4 (n.any.map ch.N),.str n.when',.str n.option]]:=by
   grind [eF,mL,lu,iX,iQ,aP]
  rw[e];exact .cons (.ag (.cons (.ss (.map fun x _=>x.wk)) (.rf _))) .nil
 |a::b::r=>.cons (.refl _) (BP (b::r))
def lF {α:Type}{c:Prop} [Decidable c]{a y:α}(h:(if c then some a else none)=some y):c/\a=y:=by
 grind
def RF {α:Type}{c:Prop} [Decidable c]{a:α}:(if c then some a else none).isSome=decide c:=by
 grind
def Jd {x:jc}{t:au}(h:x.st=0):eu x t=zj (ai t 32):=by unfold eu;simp only[h,a7]
def Je {x:jc}{t:au}(h0:x.st≠0)(h:(ai t 32)[0]! =ff):eu x t=if(ai t 32).length=1/\x.st<5 then some ⟨⟨x.r.name,x.r.v,x.r.needs++[⟨[],[],[]⟩],x.r.bars,x.r.feats⟩,2⟩else none:=by
 grind [eu]
def OD {x:jc}{t:au}(h0:x.st≠0)(h:(ai t 32)[0]! =ic):eu x t=uU x t:=by
 have hw:=AD
 grind [eu]
def Jf {x:jc}{t:au}(h0:x.st≠0)(h:(ai t 32)[0]! =fV):eu x t=oJ x t:=by
 have hw:=AD
 grind [eu]
def OG {x:jc}{t:au}(h0:x.st≠0)(h:(ai t 32)[0]! =dt):eu x t=if vI (ai t 32) 2=true/\(x.st=2\/x.st=3)then some ⟨⟨x.r.name,x.r.v,gp x.r.needs fun n=>⟨n.any,n.when',(ai t 32)[1]!⟩,x.r.bars,x.r.feats⟩,4⟩else none:=by
 have hw:=AD
 grind [eu]
def OE {x:jc}{t:au}(h0:x.st≠0)(h:(ai t 32)[0]! =ie):eu x t=if(gQ t 2).2.2=true/\x.st<=6 then some ⟨⟨x.r.name,x.r.v,x.r.needs,x.r.bars++[⟨(gQ t 2).1[1]!,(gQ t 2).2.1,[]⟩],x.r.feats⟩,5⟩else none:=by
 have hw:=AD
 grind [eu,DB,gQ]
def Jc {x:jc}{t:au}(h0:x.st≠0)(h:(ai t 32)[0]! =cN):eu x t=Ez x (ai t 32):=by
 have hw:=AD
 grind [eu,Ez]
def Tc {x:jc}{t:au}(h0:x.st≠0)(h1:¬(ai t 32)[0]! =ff)(h2:¬(ai t 32)[0]! =ic)(h3:¬(ai t 32)[0]! =fV)(h4:¬(ai t 32)[0]! =dt)(h5:¬(ai t 32)[0]! =ie)(h6:¬(ai t 32)[0]! =cN):eu x t=none:=by
 grind [eu]
def kU:aE:=⟨2,18,[⟨2,none⟩],b8,(sq (r1 [gm cZ] 2 0) (sq (r1 [gm s1,gx 470 [l0,(i8 32)] fA,gm l1] 4 2) (sq (sq (r1 [gm s0,gc l0,gf 9 l1,gd l2,aL l3 bx] 3 4) (.cond s3 (sq (r1 [gm s0,gm s4,gn (.callM 471 [l0,l1]),gm l2] 2 3) .ret) .skip)) (sq (sq (r1 [gm s4,ga 1 l0 bx,gd l1] 5 2) (.block 0 (sq (r1 [aL s5 (cs [110,101,101,100]),gm l0] 6 1) (.cond s6 (sq (rg [gm s0,gm s0,gc l1,gf 0 l2,gf 6 l3,gd l4,gn (.build [.aF,.str [],.str []] []),gn (.bsl 3 (.agg [.aF,.str [],.str []]) 1 [(0,l6)]),gn (.app 3 l5 l7),gc l0,gf 0 l9,gf 6 l10,gt 1 fZ l8] []) (sq (r1 [gm s4,gl l0,aL l1 cl,gm l2,gmt 3 s0,cr 3 (.nilck l4),kn 3 9 l5,jM 3 l6,cr 3 (oW l7 Hj),eX l3 l8,gm l9] 7 10) (sq (rg [gm s0,gc l0,gf 9 l1,gt 1 l2 jC] []) (sq (r1 [gm s7,gm l0] 2 1) .ret)))) (sq (r1 [aL s5 (cs [97,110,121]),gm l0] 8 1) (.cond s8 (sq (r1 [gm s0,gm s1,gn (.callM 472 [l0,l1]),gm l2] 2 3) .ret) (sq (r1 [aL s5 (cs [119,104,101,110]),gm l0] 9 1) (.cond s9 (sq (r1 [gm s0,gm s1,gn (.callM 473 [l0,l1]),gm l2] 2 3) .ret) (sq (r1 [aL s5 (cs [111,112,116,105,111,110]),gm l0] 10 1) (.cond ik (sq (sq (r1 [gm s4,gx 474 [l0,jC] [[.sl 1 [.a]],[.a]],iY l1,gm l2,ek 3 s0,cn 3 (.nilck l4),ig 3 9 l5,hZ 3 l6,cn 3 (dS l7 jC),ek 3 l8,gmt 9 s0,cr 9 (.nilck l10),kn 9 9 fZ,jM 9 iv,cr 9 (dS jr kJ),zf 3 l9 jT,eW l3 lg] 11 16) (.cond jR (sq (r1 [gm cZ] 2 0) .ret) .skip)) (sq (rt [gm s0,gc l0,gf 0 l1,gf 6 l2,gd l3,gm s0,gc l5,gf 0 l6,gf 6 l7,gd l8,gl l9,dV l10 cl,gm s0,gm s4,ga 1 jr cl,gd jT,ga 3 l4 fZ,gf 2 nw,gt 1 oU lg,gc iv,gf 9 qx,gt 1 uN wC] []) (sq (r1 [gm m5] 2 0) .ret))) (sq (r1 [aL s5 (cs [98,97,114]),gm l0] 12 1) (.cond kr (sq (rg [gm s1,gx 475 [l0,jC] fA,gm l1,ge l2 0,ge l2 1,ge l2 2,gm l3,gm l4,gm l5] [(15,6),(16,7),(13,8)]) (sq (sq (r1 [gm qb,iY l0,gm l1,ek 2 s0,cn 2 (.nilck l3),ig 2 9 l4,hZ 2 l5,cn 2 (eG l6 xB),eW l2 l7] 14 8) (.cond tw (sq (r1 [gm cZ] 2 0) .ret) .skip)) (sq (rt [gm s0,gm s0,gm s0,gc l2,gf 0 l3,gf 7 l4,gd l5,gm tx,ga 1 l7 cl,gd l8,gm AQ,gn (.build [.str [],.str [],.str []] [(0,1,l9),(1,1,l10)]),gn (.bsl 3 (.agg [.str [],.str [],.str []]) 1 [(0,fZ)]),gn (.app 3 l6 iv),gc l0,gf 0 jT,gf 7 lg,gt 1 nw jr,gc l1,gf 9 pL,gt 1 qx Hj] []) (sq (r1 [gm m5] 2 0) .ret)))) (sq (r1 [aL s5 (cs [102,101,97,116,117,114,101]),gm l0] 17 1) (.cond DG (sq (r1 [gm s0,gm s4,gn (.callM 476 [l0,l1]),gm l2] 2 3) .ret) .skip)))))))))))))) (sq (r1 [gm cZ] 2 0) .ret)))))⟩
def w224 {Y:Ctx}(hm:(Y.at 5).cj)(s:au)(nm:au)(v:cy)(N:List bw)(B:List fM)(Z:List cv)(st:Nat)(h470:sI (Y.at 5))(h471:TK (Y.at 5))(h472:TL (Y.at 5))(h473:TM (Y.at 5))(h474:TN (Y.at 5))(h475:QP (Y.at 5))(h476:TO (Y.at 5))(hp0:s.length<=1048576)(hp1:st=0->N=[]/\B=[]/\Z=[])(hp2:st=2\/st=3->N≠[])(hp3:st=5->B≠[])(hp4:N.length<=900000/\B.length<=900000/\Z.length<=900000/\sC N<=900000):bP (Y.at 5) kU.body (kv kU (Ut (eu ⟨⟨nm,v,N,B,Z⟩,st⟩ s)):Ex->List cd->St->Prop) (fH kU [.ptr 0 10 0 0,.str s]) ⟨5,[(0,.buf 10 [nI nm v N.length B.length Z.length ((st:Nat):Int) 1 3 4]),(1,.buf 3 (eF 2 N)),(2,.buf 4 (mL N)),(3,.buf 3 (B.map fM.D)),(4,.buf 2 (Z.map cv.D))]⟩:=by
 show bP _ _ _ [⟨true,.ptr 0 10 0 0⟩,⟨true,.str s⟩,.un,.un,.un,.un,.un,.un,.un,.un,.un,.un,.un,.un,.un,.un,.un,.un] ⟨5,[(0,.buf 10 [nI nm v N.length B.length Z.length ((st:Nat):Int) 1 3 4]),(1,.buf 3 (eF 2 N)),(2,.buf 4 (mL N)),(3,.buf 3 (B.map fM.D)),(4,.buf 2 (Z.map cv.D))]⟩;have hsp:1<=(ai s 32).length:=eE 32 s [];have hsl:=dd s 32;have hlm:∀w∈ai s 32,w.length<=1048576:=fun w hw=>dD (dK s 32 hw) hp0
 obtain⟨z1,z2,z3,z4⟩:=hp4;have hrl:=DB s 2;have hrn:=vT s 2;have hre:=Af s 2;obtain⟨⟨l,u,ok⟩,hq⟩:∃q,gQ s 2=q:=⟨_,rfl⟩
 rw[hq]at hrl hrn hre;dsimp only at hrl hrn hre;refine aq ?_;refine aD ?_;refine ar (v:=.sl 1 ((ai s 32).map D.str)) (hc:=h470 s 32 hp0) ?_;refine ba ?_;refine bd (v:=.int .i64 ((st:Nat):Int)) ?_;refine ay ?_;refine av (fun hc0=>?_) (fun hc0=>?_)
 .simp only[aT]at hc0;obtain rfl:st=0:=ae;have ho:eu ⟨⟨nm,v,N,B,Z⟩,0⟩ s=qT ⟨⟨nm,v,N,B,Z⟩,0⟩ (ai s 32):=by
   rw[Jd rfl,I0 ⟨hp1,fun h=>by simp at h,fun h=>by simp at h⟩ rfl]
  rw[ho];refine aD ?_;refine cz (nx':=18) (v:=.bool (qT ⟨⟨nm,v,N,B,Z⟩,0⟩ (ai s 32)).isSome) (m':=uS (qT ⟨⟨nm,v,N,B,Z⟩,0⟩ (ai s 32)) 0 16++[]) (hc:=fun K' hK=>h471 ⟨⟨nm,v,N,B,Z⟩,0⟩ (ai s 32) hlm _ 0 1 2 3 4 _ K' ⟨aZ,aZ,aZ,aZ,aZ⟩ aM ⟨by simp only[ax,aB];omega,by simp only[ax,aB];omega,by simp only[ax,aB];omega,by simp only[ax,aB];omega,by simp only[ax,aB];omega⟩ (by exact hK)) (hn:=aM) ?_;refine aA ?_;refine bW trivial ee (bV ah (aj D.bool ?_)) ah (CL aM);rfl
 simp only[bm]at hc0;have h0:(⟨⟨nm,v,N,B,Z⟩,st⟩:jc).st≠0:=by show st≠0;omega
 refine aD ?_;refine bL 0 (hb:=fun _=>ae) ?_;refine bH (v:=.str (ai s 32)[0]!) (hi:=fun _=>ae) ?_;refine aG ?_;refine wp_cond (fun hc1=>?_) (fun hc1=>?_)
 .simp only[aT]at hc1;have hw:(ai s 32)[0]! =ff:=hc1;have ho:=Je h0 hw;dsimp only at ho;refine fE 2 (hn:=lB N) (he:=by simp only[ll,iQ,iX,mq,nt,cL,Nat.reduceEqDiff,a7,a8,cR,cu,cx,cT,cX,bT,bQ,aQ,cg,aP,reduceCtorEq,ax,aB,Nat.reduceAdd,Nat.reduceLeDiff,nI];exact rfl) (hm:=by simp only[ll,iQ,iX,mq,nt,cL,Nat.reduceEqDiff,a7,a8,cR,cu,cx,cT,cX,bT,bQ,aQ,cg,aP,reduceCtorEq,ax,aB,Nat.reduceAdd,Nat.reduceLeDiff,nI,sX,sY];exact rfl) ?_;refine nk [(0,.buf 10 [nI nm v N.length B.length Z.length ((st:Nat):Int) 1 3 4]),(1,.buf 3 (N.map bw.D)),(3,.buf 3 (B.map fM.D)),(4,.buf 2 (Z.map cv.D))] (.id ah (.bf ah (BP N) (.id ah (.id ah .nil)))) ?_;refine aG ?_;refine bd (v:=.own 1 3 0 N.length) ?_;refine bA zy ?_;refine dA [zy] ?_;refine wK (xs:=N.map bw.D) (zs:=N.map bw.D++[zy]) (n:=(N++[(⟨[],[],[]⟩:bw)]).length) (ha:=aR) (he:=uK.all (es:=[zy]) ah rfl) (hz:=by rw[cg,ey aR]) (hn:=aR) (hb:=cY) ?_;refine aA ?_;refine aY (nI nm v (N++[(⟨[],[],[]⟩:bw)]).length B.length Z.length ((st:Nat):Int) 27 3 4) (he:=aZ) ?_;refine aD ?_;intro u0;refine aI ?_;refine bd (v:=.int .i64 ((st:Nat):Int)) ?_;refine bU ?_;refine aY (nI nm v (N++[(⟨[],[],[]⟩:bw)]).length B.length Z.length ((2:Nat):Int) 27 3 4) (he:=aZ) ?_;refine aH ?_;refine hE (br.to (env':=[⟨true,.ptr 0 10 0 0⟩,.un,.un,.un,.un,.un,.un,⟨true,.bool _⟩,.un,.un,.un,.un,.un,.un,.un,.un,.un,.un]) (c:=90) (nx':=90) (m':=[(0,.buf 10 [nI nm v (N++[(⟨[],[],[]⟩:bw)]).length B.length Z.length ((2:Nat):Int) 60 3 4]),(60,.buf 3 (N.map bw.D++[lu 61 ⟨[],[],[]⟩])),(61,.buf 4 []),(3,.buf 3 (B.map fM.D)),(4,.buf 2 (Z.map cv.D))]) [(27,60)] rfl ah vO (by refine bJ.Ou ah ah ah ?_;refine bJ.ni 27 ah ah (Bm 61 N) ?_;refine bJ.mt ah ah ah ah ?_;refine bJ.lE ah ah (by exact bB (fun _=>rfl) _) ?_;refine bJ.lE ah ah (by exact bB (fun _=>rfl) _) ?_;exact bJ.nil)) ?_;refine aG ?_;refine bW trivial ee (bV ah (aj D.bool ?_)) ah ⟨rfl,fun y hy=>by rw[ho]at hy;obtain⟨_,rfl⟩:=lF hy;exact⟨60,61,3,4,aM,⟨ah,(by rw[gH];exact rfl),(by rw[jt];exact rfl),ah,ah⟩⟩⟩;rw[ho,RF,Bool.eq_iff_iff];simp only[bG,aT];omega
 simp only[bm]at hc1;have n1:¬(ai s 32)[0]! =ff:=hc1;refine aD ?_;refine wp_cond (fun hc2=>?_) (fun hc2=>?_)
 .simp only[aT]at hc2;have hw:(ai s 32)[0]! =ic:=hc2;have ho:=OD h0 hw;rw[ho];refine aA ?_;refine cz (nx':=25) (v:=.bool (uU ⟨⟨nm,v,N,B,Z⟩,st⟩ s).isSome) (m':=uS (uU ⟨⟨nm,v,N,B,Z⟩,st⟩ s) 0 23++[]) (hc:=fun K' hK=>h472 ⟨⟨nm,v,N,B,Z⟩,st⟩ s hp0 (fun h=>hp2 (.inl h)) (by show sC N<=_;omega) (by show N.length<=_;omega) _ 0 1 2 3 4 _ K' ⟨aZ,aZ,aZ,aZ,aZ⟩ aM ⟨by simp only[ax,aB];omega,by simp only[ax,aB];omega,by simp only[ax,aB];omega,by simp only[ax,aB];omega,by simp only[ax,aB];omega⟩ (by exact hK)) (hn:=aM) ?_;refine aD ?_;refine bW trivial ee (bV ah (aj D.bool ?_)) ah (CL aM);rfl
 simp only[bm]at hc2;have n2:¬(ai s 32)[0]! =ic:=hc2;refine aD ?_;refine wp_cond (fun hc3=>?_) (fun hc3=>?_)
 .simp only[aT]at hc3;have hw:(ai s 32)[0]! =fV:=hc3;have ho:=Jf h0 hw;rw[ho];refine aA ?_;refine cz (nx':=27) (v:=.bool (oJ ⟨⟨nm,v,N,B,Z⟩,st⟩ s).isSome) (m':=uS (oJ ⟨⟨nm,v,N,B,Z⟩,st⟩ s) 0 25++[]) (hc:=fun K' hK=>h473 ⟨⟨nm,v,N,B,Z⟩,st⟩ s hp0 (fun h=>hp2 (.inl h)) hp3 (by show N.length<=_;omega) (by show B.length<=_;omega) _ 0 1 2 3 4 _ K' ⟨aZ,aZ,aZ,aZ,aZ⟩ aM ⟨by simp only[ax,aB];omega,by simp only[ax,aB];omega,by simp only[ax,aB];omega,by simp only[ax,aB];omega,by simp only[ax,aB];omega⟩ (by exact hK)) (hn:=aM) ?_;refine aD ?_;refine bW trivial ee (bV ah (aj D.bool ?_)) ah (CL aM);rfl
 simp only[bm]at hc3;have n3:¬(ai s 32)[0]! =fV:=hc3;refine aD ?_;refine wp_cond (fun hc4=>?_) (fun hc4=>?_)
 .simp only[aT]at hc4;have hw:(ai s 32)[0]! =dt:=hc4;have ho:=OG h0 hw;dsimp only at ho;refine aA ?_;refine ar (hc:=h474 (ai s 32) 2) ?_;refine aI ?_;refine bd (v:=.int .i64 ((st:Nat):Int)) ?_;refine aI ?_;refine bd (v:=.int .i64 ((st:Nat):Int)) ?_;refine aD ?_;refine av (fun hc5=>?_) (fun hc5=>?_)
  .simp only[cS,bG,bg,aT,bm]at hc5;rw[ak (by rintro⟨a,b⟩;rcases hc5 with h|h;(rw[a]at h;cases h);omega)]at ho;rw[ho];refine aG ?_;refine bW trivial ee (bV ah (aj D.bool ?_)) ah ⟨rfl,fun y hy=>by cases hy⟩;rfl
  simp only[dh,dR,bN,aT,bm]at hc5;obtain⟨hon,hst⟩:=hc5;have hst:st=2\/st=3:=ae;obtain⟨N,n,rfl⟩:=r8 (hp2 hst);have hnl:(N++[n]).length=N.length+1:=aR;have hl2:(ai s 32).length=2:=(ra.1 hon).1;rw[aw ⟨hon,hst⟩,eR]at ho;rw[ho,gH,jt];refine aG ?_;refine bd (v:=.own 1 3 0 (N++[n]).length) ?_;refine aD ?_;refine bd (v:=.own 1 3 0 (N++[n]).length) ?_;refine iJ ?_;refine aA ?_;refine bL 1 (hb:=fun _=>ae) ?_;refine bH (v:=.str (ai s 32)[1]!) (hi:=fun _=>ae) ?_;refine iD N.length (hj:=fun _=>ae) (hb:=fun _=>ae) ?_;refine aH ?_;refine sD (es:=N.map bw.D++[lu 2 n]) (N.map bw.D++[lu 2 ⟨n.any,n.when',(ai s 32)[1]!⟩]) (hi:=aR) (he:=by rw[nT _ _ _ _ aR,ru _ _ _ _ aR];exact rfl) ?_;refine ay ?_;refine aY (nI nm v (N++[n]).length B.length Z.length ((4:Nat):Int) 1 3 4) (he:=aZ) ?_;refine aG ?_;refine bW trivial ee (bV ah (aj D.bool ?_)) ah ⟨rfl,fun y hy=>by cases hy;exact⟨1,2,3,4,aM,⟨(by have e:(N++[(⟨n.any,n.when',(ai s 32)[1]!⟩:bw)]).length=(N++[n]).length:=aR;show _=some (b7.buf 10 [nI nm v (N++[(⟨n.any,n.when',(ai s 32)[1]!⟩:bw)]).length B.length Z.length ((4:Nat):Int) 1 3 4]);rw[e];exact rfl),(by rw[gH];exact rfl),(by rw[jt];exact rfl),ah,ah⟩⟩⟩;rfl
 simp only[bm]at hc4;have n4:¬(ai s 32)[0]! =dt:=hc4;refine aD ?_;refine wp_cond (fun hc6=>?_) (fun hc6=>?_)
 .simp only[aT]at hc6;have hw:(ai s 32)[0]! =ie:=hc6;have ho:=OE h0 hw;rw[hq]at ho;dsimp only at ho;refine ay ?_;refine ar (v:=.tup [.sl 1 (l.map D.str),.str u,.bool ok]) (hc:=by have:=h475 s 2 hp0 aM;rw[hq]at this;exact this) ?_;refine aH ?_;refine e7 (.sl _ _) ?_;refine rE ?_;refine bd (v:=.int .i64 ((st:Nat):Int)) ?_;refine aA ?_;refine av (fun hc7=>?_) (fun hc7=>?_)
  .simp only[cS,bg,aT,bm]at hc7;rw[ak (by rintro⟨a,b⟩;rcases hc7 with h|h;(rw[a]at h;cases h);omega)]at ho;rw[ho];refine aG ?_;refine bW trivial ee (bV ah (aj D.bool ?_)) ah ⟨rfl,fun y hy=>by cases hy⟩;rfl
  simp only[dh,bN,aT,bm]at hc7;have hln:=hrn hc7.1;rw[aw ⟨hc7.1,ae⟩]at ho;rw[ho];refine bU ?_;refine bd (v:=.own 3 3 0 B.length) ?_;refine aH ?_;refine bL 1 (hb:=fun _=>ae) ?_;refine bH (v:=.str l[1]!) (hi:=fun _=>ae) ?_;refine aH ?_;refine bA (fM.D (⟨l[1]!,u,[]⟩:fM)) ?_;refine dA [fM.D (⟨l[1]!,u,[]⟩:fM)] ?_;refine kM (q:=fM.D) (xs:=B) (e:=(⟨l[1]!,u,[]⟩:fM)) ?_;refine aA ?_;refine aY (nI nm v N.length (B++[(⟨l[1]!,u,[]⟩:fM)]).length Z.length ((st:Nat):Int) 1 58 4) (he:=aZ) ?_;refine ay ?_;refine aY (nI nm v N.length (B++[(⟨l[1]!,u,[]⟩:fM)]).length Z.length ((5:Nat):Int) 1 58 4) (he:=aZ) ?_;refine aG ?_;refine bW trivial ee (bV ah (aj D.bool ?_)) ah ⟨rfl,fun y hy=>by cases hy;exact⟨1,2,58,4,aM,⟨ah,ah,ah,ah,ah⟩⟩⟩;rfl
 simp only[bm]at hc6;have n6:¬(ai s 32)[0]! =ie:=hc6;refine aD ?_;refine wp_cond (fun hc8=>?_) (fun hc8=>?_)
 .simp only[aT]at hc8;have hw:(ai s 32)[0]! =cN:=hc8;have ho:=Jc h0 hw;rw[ho];refine aA ?_;refine cz (nx':=33) (v:=.bool (Ez ⟨⟨nm,v,N,B,Z⟩,st⟩ (ai s 32)).isSome) (m':=uS (Ez ⟨⟨nm,v,N,B,Z⟩,st⟩ (ai s 32)) 0 31++[]) (hc:=fun K' hK=>h476 ⟨⟨nm,v,N,B,Z⟩,st⟩ (ai s 32) ae (by show Z.length<=_;omega) _ 0 1 2 3 4 _ K' ⟨aZ,aZ,aZ,aZ,aZ⟩ aM ⟨by simp only[ax,aB];omega,by simp only[ax,aB];omega,by simp only[ax,aB];omega,by simp only[ax,aB];omega,by simp only[ax,aB];omega⟩ (by exact hK)) (hn:=aM) ?_;refine aD ?_;refine bW trivial ee (bV ah (aj D.bool ?_)) ah (CL aM);rfl
 simp only[bm]at hc8;have n8:¬(ai s 32)[0]! =cN:=hc8;have ho:=Tc h0 n1 n2 n3 n4 n6 n8;rw[ho];refine aG ?_;refine bW trivial ee (bV ah (aj D.bool ?_)) ah ⟨rfl,fun y hy=>by cases hy⟩;rfl
def Tz (Y:Ctx):Prop:=∀(x:jc) (t:au),x.ok->x.sz<=900000->t.length<=1048576->Za Y 224 [.str t] x (eu x t)
theorem A7 {f:bw->bw}(l:List bw)(hf:∀n,(f n).any.length<=n.any.length+1):sC (gp l f)<=sC l+1:=by
 by_cases h:l=[]
 .subst h;simp[gp,sC]
 .obtain⟨a,x,rfl⟩:=r8 h;rw[eR,pY,pY];exact hf x
theorem rr {α:Type}(l:List α)(f:α->α):(gp l f).length=l.length:=by
 by_cases h:l=[]
 .subst h;rfl
 .obtain⟨a,x,rfl⟩:=r8 h;rw[eR];simp
def Am {α:Type}{l:List α}(f:α->α)(h:l≠[]):gp l f≠[]:=by
 grind [rr]
def DK {x:jc}{nm:au}{v:cy}{st:Nat}(f:bw->bw)(hf:∀n,(f n).any.length<=n.any.length+1):(⟨⟨nm,v,gp x.r.needs f,x.r.bars,x.r.feats⟩,st⟩:jc).sz<=x.sz+1:=by
 grind [A7,jc.sz,rr]
def So {x y:jc}{t:au}(h:eu x t=some y)(hx:x.ok):y.ok/\y.sz<=x.sz+1:=by
 by_cases h0:x.st=0
 .rw[Jd h0,<-I0 hx h0]at h;obtain⟨e1,e2,e3⟩:=hx.1 h0;unfold qT at h;split at h
  .split at h
   .obtain rfl:=bM h;refine⟨⟨fun h=>by simp at h,fun h=>by simp at h,fun h=>by simp at h⟩,Nat.le_succ _⟩
   .cases h
  .cases h
 by_cases h1:(ai t 32)[0]! =ff
 .rw[Je h0 h1]at h;obtain⟨_,rfl⟩:=lF h;refine⟨⟨fun h=>by simp at h,fun _=>aR,fun h=>by simp at h⟩, ?_⟩;unfold jc.sz;rw[pY];simp only[cb,ax,aB];omega
 by_cases h2:(ai t 32)[0]! =ic
 .rw[OD h0 h2]at h;unfold uU at h;split at h
  .obtain⟨hc,rfl⟩:=lF h;refine⟨⟨fun h=>by simp at h,fun _=>Am _ (hx.2.1 (.inl hc.1)),fun h=>by simp at h⟩,DK _ (fun n=>aR)⟩
  .cases h
 by_cases h3:(ai t 32)[0]! =fV
 .rw[Jf h0 h3]at h;unfold oJ at h;split at h
  .split at h
   .rename_i hc;obtain rfl:=bM h;refine⟨⟨fun h=>by simp at h,fun _=>Am _ (hx.2.1 (.inl hc)),fun h=>by simp at h⟩,DK _ (fun n=>aR)⟩
   .obtain⟨hc,rfl⟩:=lF h;refine⟨⟨fun h=>by simp at h,fun h=>by simp at h,fun h=>by simp at h⟩, ?_⟩;unfold jc.sz;simp only[rr];omega
  .cases h
 by_cases h4:(ai t 32)[0]! =dt
 .rw[OG h0 h4]at h;obtain⟨hc,rfl⟩:=lF h;refine⟨⟨fun h=>by simp at h,fun h=>by simp at h,fun h=>by simp at h⟩,DK _ (fun n=>aR)⟩
 by_cases h5:(ai t 32)[0]! =ie
 .rw[OE h0 h5]at h;obtain⟨hc,rfl⟩:=lF h;refine⟨⟨fun h=>by simp at h,fun h=>by simp at h,fun _=>aR⟩, ?_⟩;unfold jc.sz;simp only[cb,ax,aB];omega
 by_cases h6:(ai t 32)[0]! =cN
 .rw[Jc h0 h6]at h;obtain⟨hc,rfl⟩:=lF h;refine⟨⟨fun h=>by simp at h,fun h=>by simp at h,fun h=>by simp at h⟩, ?_⟩;unfold jc.sz;simp only[cb,ax,aB];omega
 rw[Tc h0 h1 h2 h3 h4 h5 h6]at h;cases h
abbrev nW (s:au):List au:=(ai s 10).take ((ai s 10).length-1)
abbrev te (s:au):au:=(ai s 10)[(ai s 10).length-1]!
theorem z6 {s:au}(h:¬4096<s.length):cF s=if(pD (nW s)).isSome=false\/(gz (nW s)).2≠[]\/te s≠[]then(gT,2,(((nW s).length-(gz (nW s)).2.length:Nat):Int)+1)
  else if(c7 (gz (nW s)).1).1≠0 then(gT,(c7 (gz (nW s)).1).1,0)else((gz (nW s)).1,0,0):=by unfold cF;rw[ak h]
def Fq {s:au}{x:jc}{i:Nat}(h:¬4096<s.length)(hi:i<=(nW s).length)(hr:lW uF (nW s)=(x,(nW s).drop i))(hn:i<(nW s).length\/te s≠[]):cF s=(gT,2,(i:Int)+1):=by
 rw[z6 h];have ha:=DF (nW s);have hl:((nW s).drop i).length=(nW s).length-i:=mZ
 grind [pD,gz,gT]
def PI {s:au}{x:jc}(h:¬4096<s.length)(hr:lW uF (nW s)=(x,[]))(h0:x.st=0):cF s=(gT,2,1):=by
 grind [DF,pD,gz,gT,z6]
def Sb {s:au}{x:jc}(h:¬4096<s.length)(hr:lW uF (nW s)=(x,[]))(h0:x.st≠0)(hl:te s=[]):gW x.r/\cF s=if(c7 x.r).1≠0 then(gT,(c7 x.r).1,0)else(x.r,0,0):=by
 have ha:=DF (nW s);cases hp:pD (nW s)with
 |none=>
  rw[hp]at ha;simp only at ha;rw[ha]at hr;simp only[ez]at hr;rw[<-hr.1]at h0;exact absurd rfl h0
 |some p=>
  obtain⟨r,rest⟩:=p;rw[hp]at ha;obtain⟨st,h1,ha⟩:=ha;rw[ha]at hr;simp only[ez]at hr;obtain⟨rfl,rfl⟩:=hr;have hv:gz (nW s)=(r,[]):=by unfold gz;rw[hp]
  have hlm:AN (nW s):=fun t ht=>by
   have:=dK s 10 (lf ht);omega
  grind [Dq,z6]
theorem Hs {s:au}(h:te s=[]):aC s=(nW s,true):=by unfold aC;rw[aw h]
theorem L2 {s:au}(h:¬te s=[]):aC s=(nW s++[te s],false):=by
 unfold aC;rw[ak h];have hp:1<=(ai s 10).length:=eE 10 s [];have:=(drop_one (l:=ai s 10) (n:=(ai s 10).length-1) ae).2;exact aj (fun l=>(l,false)) this
def vE (lo a b:Nat)(σ:List (Nat×Nat))(h:lV lo σ a=some b):∀N:List bw,ow lo σ (eF a N)=some (eF b N)
 |[]=>rfl
 |[n]=>by simp only[eF,lu,ow,rp,Ca,h]
 |c::d::r=>by
  have:=vE lo a b σ h (d::r);have hc:rp lo σ (bw.D c)=some (bw.D c):=rfl;simp only[eF,ow,this,hc]
def zz (j:Nat):∀N:List bw,GJ (iX j 4 (mL N) (eF j N)) (N.map bw.D)
 |[]=>.nil
 |[n]=>by
  have e:iX j 4 (mL [n]) (eF j [n])=[.agg [.sl 4 (n.any.map ch.N),.str n.when',.str n.option]]:=by
   grind [eF,mL,lu,iX,iQ,aP]
  rw[e];exact .cons (.ag (.cons (.ss (.map fun x _=>x.wk)) (.rf _))) .nil
 |a::b::r=>.cons (.refl _) (zz j (b::r))
def C1 (l k:Nat)(es:List D)(N:List bw):iX l k es (N.map bw.D)=N.map bw.D:=pU l k es _ (bB (fun _=>rfl) _)
def zp (s:au):((aC s).2=true/\te s=[]/\(aC s).1=nW s)\/((aC s).2=false/\te s≠[]/\(aC s).1=nW s++[te s]):=by
 by_cases h:te s=[]
 .grind [Hs]
 grind [L2]
def Cb {x:jc}{l:List au}{i:Nat}(h:i<l.length):l.drop i=l[i]! ::l.drop (i+1):=by
 rw[iT h];simp[h]
end Go.Abs
