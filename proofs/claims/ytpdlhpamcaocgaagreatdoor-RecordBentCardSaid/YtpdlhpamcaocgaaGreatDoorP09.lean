/- A part of the proofs. -/
import Derived.Test.YtpdlhpamcaocgaaGreatDoorP08
set_option linter.all false
set_option maxRecDepth 4000
namespace Go.Abs
def FY (Y:Ctx):Prop:=∀(r:Ld)(w:aq)(n:Nat)(op:Bool)(l nx:Nat)(m:List (Nat×bV))(K:D->St->Prop),r.sm->n<=1000->(op=true->1<=n)->look m l=some (.buf 2 [Ld.D r])->
 K (.tup [zC (cq w n op r.rest),.bool (cq w n op r.rest).isSome]) ⟨nx,du m l (.buf 2 [Ld.D (r.after (cq w n op r.rest))])⟩->Y.tr 465 [.ptr l 2 0 0,.str w,.int .i64 (n:Nat),.bool op] ⟨nx,m⟩ K
def wW {Y:Ctx}(h:FY Y){r:Ld}(hr:r.sm){p:List aq}(hp:p<:+r.ls){w:aq}{n:Nat}{op:Bool}(hn:n<=1000)(ho:op=true->1<=n){nx:Nat}{m:List (Nat×bV)}{K:D->St->Prop}(hl:look m 0=some (.buf 2 [Ld.D (r.to p)]))
  (hK:K (.tup [zC (cq w n op p),.bool (cq w n op p).isSome]) ⟨nx,du m 0 (.buf 2 [Ld.D (r.to (eA w n op p))])⟩):Y.tr 465 [.ptr 0 2 0 0,.str w,.int .i64 (n:Nat),.bool op] ⟨nx,m⟩ K:=by
 refine h (r.to p) w n op 0 nx m K (hr.to p) hn ho hl ?_;rw[Ld.xb hp,Ld.Cn hp];exact hK
def Nv {Y:Ctx}(h:Pa Y){r:Ld}(hr:r.sm){p:List aq}(hp:p<:+r.ls):Y.fp 467 (Ld.D (r.to p)) []/\Y.fv 467 (Ld.D (r.to p)) []=ba.D (eN p).1/\Y.fs 467 (Ld.D (r.to p)) []=Ld.D (r.to (eN p).2):=by
 have:=h (r.to p) (hr.to p);rw[Ld.xb hp]at this;exact this
def oE:∀p:List aq,(cz p).2<:+p
 |[]=>jm _
 |t::r=>by
  simp only[cz];split
  ·split
   ·exact(oE r).trans (List.suffix_cons _ _)
   ·exact jm _
  ·exact jm _
def rW (p:List aq):(eN p).2<:+p:=(KS _).trans ((kD _).trans (oE p))
def CE {p:List aq}(h:cq cG 0 false p=none):dA p=([],p):=by
 match p,h with
 |[],_=>rfl
 |t::r,h=>
  simp only[cq]at h;split at h
  ·cases h
  ·rename_i hn;simp only[dA,hn]
def HF {p l q:List aq}(h:cq cG 0 false p=some (l,q))(ho:¬2<=l.length):dA p=([],p):=by
 obtain⟨t,rfl,ht⟩:=dI h;simp only[dA,ht,ho,aI]
def EB {p l q:List aq}(h:cq cG 0 false p=some (l,q))(ho:2<=l.length):dA p=(⟨l[1]!,l.drop 2⟩::(dA q).1,(dA q).2):=by
 obtain⟨t,rfl,ht⟩:=dI h;simp only[dA,ht,ho,aH]
def fG (ls:List aq):Rec×List aq:=match pz ls with
 |some p=>p
 |none=>(jX,ls)
def dh:D:=.agg [.str [],.int .i64 0,.int .i64 0,.int .i64 0,.str [],.str [],.aC,.aC,.aC]
def mq:wL dh jX.D:=.ag (.cons (.refl _) (.cons (.refl _) (.cons (.refl _) (.cons (.refl _) (.cons (.refl _) (.cons (.refl _) (.cons (.nil 3) (.cons (.nil 3) (.cons (.nil 2) .nil)))))))))
def pk (nm:aq)(v:cM)(n b f:D):D:=.agg [.str nm,.int .i64 v.major,.int .i64 v.minor,.int .i64 v.patch,.str v.pre,.str v.build,n,b,f]
def Ra {s:aq}(h:m6 s=0):∃v,fK s=some v:=by
 unfold m6 at h;split at h
 ·rename_i hs;exact jU hs
 ·cases h
def Q9 {s:aq}(h:¬m6 s=0):fK s=none:=by
 unfold m6 at h;split at h
 ·exact absurd rfl h
 ·rename_i hs;exact jT (by simpa using hs)
def AX (n:Nat)(op:Bool)(t:aq):(eJ n op t).length<=t.length+1:=by
 have h:=de t 32;have hp:=fq 32 t [];unfold eJ;split
 ·unfold qj;split
  ·exact h
  ·simp only[bE,dq,ax,az];have:1<=(ai t 32).length:=hp;omega
 ·exact h
def KE {r:Ld}(hr:r.sm){p:List aq}(hp:p<:+r.ls){w:aq}{n:Nat}{op:Bool}{l q:List aq}(h:cq w n op p=some (l,q)):l.length<=1048577:=by
 obtain⟨t,rfl,ht⟩:=dI h;obtain⟨_,_,h3⟩:=vb ht;have:=AX n op t;have:=hr.2 t (hp.subset (.head _));rw[h3];omega
def ji:aJ:=⟨1,20,[⟨1,some (9,true)⟩,⟨2,none⟩],[[.a,.a,.a,.a,.a,.a,.sl 3 [.sl 4 [.a,.a,.sl 1 [.a],.a],.a,.a],.sl 3 [.a,.a,.a],.sl 2 [.a,.sl 1 [.a]]],[.a]],(sq (rg [gb 9 (.c (.agg [.str [],.int .i64 0,.int .i64 0,.int .i64 0,.str [],.str [],.aC,.aC,.aC])),gm dj] [(1,0),(2,1)]) (sq (r1 [gm s0,gn (.mkf 1000465 [l0]),gm l1] 3 2) (sq (rg [gm s3,gn (.callvM l0 [(cs [112,97,99,107,97,103,101]),jL,dj]),gm l1,ge l2 0,ge l2 1,gm l3,gm l4] [(6,5),(4,6)]) (sq (sq (r1 [gm s4,ke l0] 5 1) (.cond s5 (sq (r1 [gn (.build [.str [],.int .i64 0,.int .i64 0,.int .i64 0,.str [],.str [],.aC,.aC,.aC] []),gt 9 s1 l0,gm dj] 2 2) .ret) .skip)) (sq (rg [gm s6,ga 1 l0 jE,gd l1,gx 466 [l2] ct,gm l3,ge l4 0,ge l4 1,gb 5 (.c (.agg [.int .i64 0,.int .i64 0,.int .i64 0,.str [],.str []])),gt 5 l7 l5,gm l6] [(9,7),(7,9)]) (sq (sq (r1 [gm s7,cv l0 bL] 8 1) (.cond s8 (sq (rg [gm s0,gc l0,gf 1 l1,gd l2,eH l3 ch,gc l0,gf 1 l5,gt 1 l6 l4] []) (sq (r1 [gn (.build [.str [],.int .i64 0,.int .i64 0,.int .i64 0,.str [],.str [],.aC,.aC,.aC] []),gt 9 s1 l0,gm dj] 2 2) .ret)) .skip)) (sq (r2 [gm s6,ga 1 l0 ch,gd l1,gk 5 true s9,gn (.build [.str [],.int .i64 0,.int .i64 0,.int .i64 0,.str [],.str [],.aC,.aC,.aC] [(0,1,l2),(1,5,l3)]),gb 9 (.c (.agg [.str [],.int .i64 0,.int .i64 0,.int .i64 0,.str [],.str [],.aC,.aC,.aC])),gt 9 l5 l4] 12 5) (sq (.block 0 (.loop (.block 1 (sq (sq (r1 [gm s3,gn (.callvM l0 [(cs [110,101,101,100]),ch,dj]),gm l1,ge l2 0,ge l2 1,gm l3,gm l4] 10 6) (sq (r1 [gm kZ,ke l0] 11 1) (.cond nQ (.exit 0) .skip))) (rt [gf 6 mQ,gn (.ldU 1 false l0),gm s0,gn (.callF 467 l2 [] []),gn (.bsl 3 (.agg [.aC,.str [],.str []]) 1 [(0,l3)]),gn (.app 3 l1 l4),gf 6 mQ,gt 1 l6 l5] []))))) (sq (.block 2 (.loop (.block 3 (sq (rg [gm s3,gn (.callvM l0 [(cs [98,97,114]),jL,ou]),gm l1,ge l2 0,ge l2 1,gm l3,gm l4] [(15,5),(13,6)]) (sq (sq (r1 [gm rv,ke l0] 14 1) (.cond r8 (.exit 2) .skip)) (rt [gf 7 mQ,gn (.ldU 1 false l0),gm wD,ga 1 l2 ch,gn (.ldU 1 false l3),gm wD,ga 1 l5 jE,gn (.ldU 1 false l6),gm s0,gn (.callF 468 l8 [] []),gn (.build [.str [],.str [],.str []] [(0,1,l4),(1,1,l7),(2,1,l9)]),gn (.bsl 3 (.agg [.str [],.str [],.str []]) 1 [(0,l10)]),gn (.app 3 l1 gJ),gf 7 mQ,gt 1 jN iM] [])))))) (sq (.block 4 (.loop (.block 5 (sq (rg [gm s3,gn (.callvM l0 [(cs [102,101,97,116,117,114,101]),bL,dj]),gm l1,ge l2 0,ge l2 1,gm l3,gm l4] [(18,5),(16,6)]) (sq (sq (r1 [gm DN,ke l0] 17 1) (.cond BY (.exit 4) .skip)) (sq (sq (r1 [gm IL,gl l0,a8 l1 jE] 19 2) (.cond QZ (sq (rg [gm s0,gc l0,gf 1 l1,gd l2,eH l3 ch,gc l0,gf 1 l5,gt 1 l6 l4] []) (.exit 4)) .skip)) (rt [gf 8 mQ,gd l0,gm IL,ga 1 l2 ch,gd l3,gm IL,gn (.slA 1 l5 (some jE) none),gx 469 [l6] [[.sl 1 [.a]]],gn (.build [.str [],.aC] [(0,1,l4),(1,1,l7)]),gn (.bsl 2 (.agg [.str [],.aC]) 1 [(0,l8)]),gn (.app 2 l1 l9),gf 8 mQ,gt 1 gJ l10] []))))))) (sq (r1 [gk 9 true mQ,gt 9 s1 l0,gm ou] 2 2) .ret)))))))))))⟩
def w222 {Y:Ctx}(hm:(Y.at 1).bz)(h466:Sb (Y.at 1))(h467:Pa (Y.at 1))(h468:Mm (Y.at 1))(h469:Sc (Y.at 1))(h9465:FY (Y.at 1))(r:Ld)  (hp0:r.sm):bX (Y.at 1) ji.body (Hk ji 2 (.tup [Rec.D (fG r.rest).1,.bool (pz r.rest).isSome]) (Ld.D (r.to (fG r.rest).2)):Ex->List ca->St->Prop) (fI ji (.ptr 0 2 0 0::[])) ⟨1,[(0,.buf 2 [(Ld.D r)])]⟩:=by
 show bX _ _ _ [⟨true,.ptr 0 2 0 0⟩,.un,.un,.un,.un,.un,.un,.un,.un,.un,.un,.un,.un,.un,.un,.un,.un,.un,.un,.un] ⟨1,[(0,.buf 2 [(Ld.D r)])]⟩;have hself:=Ld.B2 hp0;have hq1:=r.yG;have hll:=hp0.1.2;refine au ?_;refine aT ?_;refine Uv _ ?_;refine aB ?_;rw[show Ld.D r=Ld.D (r.to r.rest)by rw[hself]];refine aE ?_;refine nN (n:=1000465) (afB:=[.ptr 0 2 0 0,.str dL,.int .i64 ((3:Nat):Int),.bool false]) (ι:=Unit) (fun _=>True) (fun _=>.tup [zC (cq dL 3 false r.rest),.bool (cq dL 3 false r.rest).isSome]) 6 (fun _=>[(0,.buf 2 [Ld.D (r.to (eA dL 3 false r.rest))]),(1,.buf 9 [dh])]) (fun _ _=>?_) (hc:=fun K' hK=>wW h9465 hp0 hq1 (w:=dL) (n:=3) (op:=false) aF aF ah (hK () trivial)) (hn:=aF);refine aE ?_;refine fB _ ?_;refine dE ?_;refine aw (fun hc0=>?_) (fun hc0=>?_)
 ·simp only[bn]at hc0;have hq:=jT hc0;have hnr:eA dL 3 false r.rest=r.rest:=by simp only[eA,hq]
  rw[hnr];have hrp:pz r.rest=none:=by simp only[pz,hq]
  have hrv:fG r.rest=(jX,r.rest):=by simp only[fG,hrp]
  rw[hrv,hrp];refine aA ?_;refine bo dh ?_;refine aR dh (he:=aZ) ?_;refine aA ?_;refine lh [(0,.buf 2 [Ld.D (r.to r.rest)]),(1,.buf 9 [Rec.D jX])] (.id ah (.bf ah (.cons mq .nil) .nil)) ?_;refine aE ?_;refine ir trivial wC (bW ah (aU ?_ ?_)) ah ah ah;all_goals rfl
 simp only[bP]at hc0;obtain⟨⟨l,q0⟩,hq⟩:=jU hc0;have hnr:eA dL 3 false r.rest=q0:=by simp only[eA,hq]
 obtain⟨hl,hlm,hq0,hqp⟩:=oB hp0 hq1 hq;rw[hnr,hq];obtain hl:l.length=3:=by rcases hl with h|h;cases h;exact h
 refine aB ?_;refine cg 2 (hb:=fun _=>ae) ?_;refine cb (v:=.str l[2]!) (hi:=fun _=>ae) ?_;refine ar (hc:=h466 l[2]! (hlm _ (bM ae))) ?_;refine aE ?_;refine fB (cM.D _) ?_;refine aA ?_;refine aR (cM.D ((fK l[2]!).getD fH)) (he:=aZ) ?_;refine br ?_;refine aw (fun hc1=>?_) (fun hc1=>?_)
 ·simp only[bn,bj]at hc1;have hv:=Q9 hc1;have hrp:pz r.rest=none:=by simp only[pz,hq,hv]
  have hrv:fG r.rest=(jX,r.rest):=by simp only[fG,hrp]
  rw[hrv,hrp];obtain⟨t,hpt,_⟩:=dI hq;refine aA ?_;obtain⟨hab1,hab2⟩:=(hp0.to q0).1;refine aB ?_;refine bA (v:=.int .i64 ((r.to q0).at':Nat)) ?_;refine aB ?_;refine aR (Ld.D (r.to r.rest)) (he:=by rw[hpt];exact Ld.back (hpt▸hq1)) ?_;refine aB ?_;refine bo dh ?_;refine aR dh (he:=aZ) ?_;refine aA ?_;refine lh [(0,.buf 2 [Ld.D (r.to r.rest)]),(1,.buf 9 [Rec.D jX]),(22,.buf 5 [cM.D ((fK l[2]!).getD fH)])] (.id ah (.bf ah (.cons mq .nil) (.id ah .nil))) ?_;refine aE ?_;refine ir trivial wC (bW ah (aU ?_ ?_)) ah ah ah;all_goals rfl
 simp only[bP,aS]at hc1;obtain⟨v,hv⟩:=Ra hc1;rw[hv];have hrp:pz r.rest=some (sC l[1]! v q0):=by simp only[pz,hq,hv]
 have hrv:fG r.rest=sC l[1]! v q0:=by simp only[fG,hrp]
 rw[hrv,hrp];generalize hnm:l[1]! =nm;have hq01:=hq0.length_le;refine aA ?_;rw[<-hnm];refine aE ?_;refine cg 1 (hb:=fun _=>ae) ?_;refine cb (v:=.str l[1]!) (hi:=fun _=>ae) ?_;refine c8 (d:=cM.D v) ?_;refine bo (pk l[1]! v .aC .aC .aC) ?_;refine aE ?_;refine aR (pk l[1]! v .aC .aC .aC) (he:=aZ) ?_;refine aE ?_;rw[hnm];refine bw hm (ι:=(List ba×List aq)) (fun z=>[⟨true,.ptr 0 2 0 0⟩,⟨true,.ptr 1 9 0 0⟩,⟨true,.bool false⟩,⟨true,.fn 1000465 [.ptr 0 2 0 0]⟩,.un,.un,.un,.un,.un,.un,.un,.un,⟨true,.ptr 2 9 0 0⟩,.un,.un,.un,.un,.un,.un,.un]) (fun z=>[(0,.buf 2 [Ld.D (r.to z.2)]),(1,.buf 9 [dh]),(2,.buf 9 [pk nm v (.own 3 3 0 (z.1).length) (.aC) (.aC)]),(3,.buf 3 (z.1.map ba.D))]) 10 (fun z=>z.2<:+r.ls/\z.1.length+z.2.length<=r.ls.length/\eh q0=(z.1++(eh z.2).1,(eh z.2).2)) (fun z=>z.2.length) ([],q0) ⟨hq0,by simpa using hq01,aN⟩ (bg.to [(1,1),(32,2)] ah ah eC (by refine aY.ez ah ah ah ?_;refine aY.ez ah ah ah ?_;refine aY.ni 32 ah ah (by exact⟨_,_,rfl,⟨_,rfl,⟨_,_,rfl,⟨rfl,rfl⟩,⟨_,_,rfl,⟨rfl,rfl⟩,⟨_,_,rfl,⟨rfl,rfl⟩,⟨_,_,rfl,⟨rfl,rfl⟩,⟨_,_,rfl,⟨rfl,rfl⟩,⟨_,_,rfl,⟨rfl,rfl⟩,⟨_,_,rfl,Or.inr ⟨_,_,_,rfl⟩,⟨_,_,rfl,Or.inl rfl,⟨_,_,rfl,Or.inl rfl,rfl⟩⟩⟩⟩⟩⟩⟩⟩⟩⟩,rfl⟩) ?_;refine aY.mt ah ah ah ah ?_;exact aY.nil)) ?_;rintro⟨N,p⟩ ⟨hq1,hlen,hw⟩;dsimp only at hq1 hlen hw⊢;refine aG ?_;refine nN (n:=1000465) (afB:=[.ptr 0 2 0 0,.str eQ,.int .i64 ((1:Nat):Int),.bool false]) (ι:=Unit) (fun _=>True) (fun _=>.tup [zC (cq eQ 1 false p),.bool (cq eQ 1 false p).isSome]) 10 (fun _=>[(0,.buf 2 [Ld.D (r.to (eA eQ 1 false p))]),(1,.buf 9 [dh]),(2,.buf 9 [pk nm v (.own 3 3 0 (N).length) (.aC) (.aC)]),(3,.buf 3 (N.map ba.D))]) (fun _ _=>?_) (hc:=fun K' hK=>wW h9465 hp0 hq1 (w:=eQ) (n:=1) (op:=false) aF aF ah (hK () trivial)) (hn:=aF);refine aE ?_;refine fB _ ?_;refine dE ?_;refine aw (fun hc2=>?_) (fun hc2=>?_)
 ·simp only[bn]at hc2;have hq:=jT hc2;have hnr:eA eQ 1 false p=p:=by simp only[eA,hq]
  rw[hnr];have hn2:eh q0=(N,p):=by rw[hw,qV hq,gI]
  have hpl:=hq1.length_le;refine aB ?_;refine eR 3 (hn:=bJ (fun _=>rfl) _) (he:=by simp only[ll,hY,iK,lO,mU,cD,Nat.reduceEqDiff,aH,aI,cr,bU,b9,cL,cN,bK,bI,aM,bR,aP,reduceCtorEq,ax,az,Nat.reduceAdd,Nat.reduceLeDiff,Ld.D,dh,pk];exact rfl) (hm:=by simp only[ll,hY,iK,lO,mU,cD,Nat.reduceEqDiff,aH,aI,cr,bU,b9,cL,cN,bK,bI,aM,bR,aP,reduceCtorEq,ax,az,Nat.reduceAdd,Nat.reduceLeDiff,Ld.D,dh,pk];exact rfl) ?_;refine bw hm (ι:=(List fh×List aq)) (fun z=>[⟨true,.ptr 0 2 0 0⟩,⟨true,.ptr 1 9 0 0⟩,⟨true,.bool false⟩,⟨true,.fn 1000465 [.ptr 0 2 0 0]⟩,.un,.un,.un,.un,.un,.un,.un,.un,⟨true,.ptr 2 9 0 0⟩,.un,.un,.un,.un,.un,.un,.un]) (fun z=>[(0,.buf 2 [Ld.D (r.to z.2)]),(1,.buf 9 [dh]),(2,.buf 9 [pk nm v ((.sl 3 (N.map ba.D))) (.own 3 3 0 (z.1).length) (.aC)]),(3,.buf 3 (z.1.map fh.D))]) 10 (fun z=>z.2<:+r.ls/\z.1.length+z.2.length<=r.ls.length/\iP p=(z.1++(iP z.2).1,(iP z.2).2)) (fun z=>z.2.length) ([],p) ⟨hq1,by simpa using hpl,aN⟩ (bg.to [(1,1),(2,2)] ah ah eC (by refine aY.ez ah ah ah ?_;refine aY.ez ah ah ah ?_;refine aY.ni 2 ah ah (by exact⟨_,_,rfl,⟨_,rfl,⟨_,_,rfl,⟨rfl,rfl⟩,⟨_,_,rfl,⟨rfl,rfl⟩,⟨_,_,rfl,⟨rfl,rfl⟩,⟨_,_,rfl,⟨rfl,rfl⟩,⟨_,_,rfl,⟨rfl,rfl⟩,⟨_,_,rfl,⟨rfl,rfl⟩,⟨_,_,rfl,⟨rfl,rfl⟩,⟨_,_,rfl,Or.inr ⟨_,_,_,rfl⟩,⟨_,_,rfl,Or.inl rfl,rfl⟩⟩⟩⟩⟩⟩⟩⟩⟩⟩,rfl⟩) ?_;refine aY.mt ah ah ah ah ?_;exact aY.nil)) ?_;rintro⟨B,pb⟩ ⟨hq1,hlen,hw⟩;dsimp only at hq1 hlen hw⊢;refine aB ?_;refine nN (n:=1000465) (afB:=[.ptr 0 2 0 0,.str ic,.int .i64 ((3:Nat):Int),.bool true]) (ι:=Unit) (fun _=>True) (fun _=>.tup [zC (cq ic 3 true pb),.bool (cq ic 3 true pb).isSome]) 10 (fun _=>[(0,.buf 2 [Ld.D (r.to (eA ic 3 true pb))]),(1,.buf 9 [dh]),(2,.buf 9 [pk nm v ((.sl 3 (N.map ba.D))) (.own 3 3 0 (B).length) (.aC)]),(3,.buf 3 (B.map fh.D))]) (fun _ _=>?_) (hc:=fun K' hK=>wW h9465 hp0 hq1 (w:=ic) (n:=3) (op:=true) aF aF ah (hK () trivial)) (hn:=aF);refine aE ?_;refine fB _ ?_;refine dE ?_;refine aw (fun hc3=>?_) (fun hc3=>?_)
  ·simp only[bn]at hc3;have hq:=jT hc3;have hnr:eA ic 3 true pb=pb:=by simp only[eA,hq]
   rw[hnr];have iB:iP p=(B,pb):=by rw[hw,sK hq,gI]
   have hpl2:=hq1.length_le;refine aB ?_;refine eR 3 (hn:=bJ (fun _=>rfl) _) (he:=by simp only[ll,hY,iK,lO,mU,cD,Nat.reduceEqDiff,aH,aI,cr,bU,b9,cL,cN,bK,bI,aM,bR,aP,reduceCtorEq,ax,az,Nat.reduceAdd,Nat.reduceLeDiff,Ld.D,dh,pk];exact rfl) (hm:=by simp only[ll,hY,iK,lO,mU,cD,Nat.reduceEqDiff,aH,aI,cr,bU,b9,cL,cN,bK,bI,aM,bR,aP,reduceCtorEq,ax,az,Nat.reduceAdd,Nat.reduceLeDiff,Ld.D,dh,pk];exact rfl) ?_;refine bw hm (ι:=(List bF×List aq)) (fun z=>[⟨true,.ptr 0 2 0 0⟩,⟨true,.ptr 1 9 0 0⟩,⟨true,.bool false⟩,⟨true,.fn 1000465 [.ptr 0 2 0 0]⟩,.un,.un,.un,.un,.un,.un,.un,.un,⟨true,.ptr 2 9 0 0⟩,.un,.un,.un,.un,.un,.un,.un]) (fun z=>[(0,.buf 2 [Ld.D (r.to z.2)]),(1,.buf 9 [dh]),(2,.buf 9 [pk nm v ((.sl 3 (N.map ba.D))) ((.sl 3 (B.map fh.D))) (.own 3 2 0 (z.1).length)]),(3,.buf 2 (z.1.map bF.D))]) 10 (fun z=>z.2<:+r.ls/\z.1.length+z.2.length<=r.ls.length/\dA pb=(z.1++(dA z.2).1,(dA z.2).2)) (fun z=>z.2.length) ([],pb) ⟨hq1,by simpa using hpl2,aN⟩ (bg.to [(1,1),(2,2)] ah ah eC (by refine aY.ez ah ah ah ?_;refine aY.ez ah ah ah ?_;refine aY.ni 2 ah ah (by exact⟨_,_,rfl,⟨_,rfl,⟨_,_,rfl,⟨rfl,rfl⟩,⟨_,_,rfl,⟨rfl,rfl⟩,⟨_,_,rfl,⟨rfl,rfl⟩,⟨_,_,rfl,⟨rfl,rfl⟩,⟨_,_,rfl,⟨rfl,rfl⟩,⟨_,_,rfl,⟨rfl,rfl⟩,⟨_,_,rfl,⟨rfl,rfl⟩,⟨_,_,rfl,⟨rfl,rfl⟩,⟨_,_,rfl,Or.inr ⟨_,_,_,rfl⟩,rfl⟩⟩⟩⟩⟩⟩⟩⟩⟩⟩,rfl⟩) ?_;refine aY.mt ah ah ah ah ?_;exact aY.nil)) ?_;rintro⟨Z,pf⟩ ⟨hq1,hlen,hw⟩;dsimp only at hq1 hlen hw⊢;refine aB ?_;refine nN (n:=1000465) (afB:=[.ptr 0 2 0 0,.str cG,.int .i64 ((0:Nat):Int),.bool false]) (ι:=Unit) (fun _=>True) (fun _=>.tup [zC (cq cG 0 false pf),.bool (cq cG 0 false pf).isSome]) 10 (fun _=>[(0,.buf 2 [Ld.D (r.to (eA cG 0 false pf))]),(1,.buf 9 [dh]),(2,.buf 9 [pk nm v ((.sl 3 (N.map ba.D))) ((.sl 3 (B.map fh.D))) (.own 3 2 0 (Z).length)]),(3,.buf 2 (Z.map bF.D))]) (fun _ _=>?_) (hc:=fun K' hK=>wW h9465 hp0 hq1 (w:=cG) (n:=0) (op:=false) aF aF ah (hK () trivial)) (hn:=aF);refine aE ?_;refine fB _ ?_;refine dE ?_;refine aw (fun hc4=>?_) (fun hc4=>?_)
   ·simp only[bn]at hc4;have hq:=jT hc4;have hnr:eA cG 0 false pf=pf:=by simp only[eA,hq]
    rw[hnr];have hf2:dA pb=(Z,pf):=by rw[hw,CE hq,gI]
    refine aB ?_;have hbd:sC nm v q0=(⟨nm,v,N,B,Z⟩,pf):=by simp only[sC,hn2,iB,hf2]
    rw[hbd];refine eR 3 (hn:=bJ (fun _=>rfl) _) (he:=by simp only[ll,hY,iK,lO,mU,cD,Nat.reduceEqDiff,aH,aI,cr,bU,b9,cL,cN,bK,bI,aM,bR,aP,reduceCtorEq,ax,az,Nat.reduceAdd,Nat.reduceLeDiff,Ld.D,dh,pk];exact rfl) (hm:=by simp only[ll,hY,iK,lO,mU,cD,Nat.reduceEqDiff,aH,aI,cr,bU,b9,cL,cN,bK,bI,aM,bR,aP,reduceCtorEq,ax,az,Nat.reduceAdd,Nat.reduceLeDiff,Ld.D,dh,pk];exact rfl) ?_;refine aE ?_;refine c8 (d:=Rec.D ⟨nm,v,N,B,Z⟩) ?_;refine aR (Rec.D ⟨nm,v,N,B,Z⟩) (he:=aZ) ?_;refine aB ?_;refine ir trivial wC (bW ah (aU ?_ ?_)) ah ah ah;all_goals rfl
   simp only[bP]at hc4;obtain⟨⟨l,q2⟩,hq⟩:=jU hc4;have hnr:eA cG 0 false pf=q2:=by simp only[eA,hq]
   obtain⟨hl,hlm,hq2,hqp⟩:=oB hp0 hq1 hq;rw[hnr,hq];have hll2:=KE hp0 hq1 hq;refine aT ?_;intro u0;refine aA ?_;refine cT (fun hc5=>?_) fun hc5=>?_
   ·refine aA ?_;have hf2:dA pb=(Z,pf):=by rw[hw,HF hq ae,gI]
    obtain⟨t,hpt,_⟩:=dI hq;obtain⟨hab1,hab2⟩:=(hp0.to q2).1;refine aB ?_;refine bA (v:=.int .i64 ((r.to q2).at':Nat)) ?_;refine aB ?_;refine aR (Ld.D (r.to pf)) (he:=by rw[hpt];exact Ld.back (hpt▸hq1)) ?_;refine aG ?_;have hbd:sC nm v q0=(⟨nm,v,N,B,Z⟩,pf):=by simp only[sC,hn2,iB,hf2]
    rw[hbd];refine eR 3 (hn:=bJ (fun _=>rfl) _) (he:=by simp only[ll,hY,iK,lO,mU,cD,Nat.reduceEqDiff,aH,aI,cr,bU,b9,cL,cN,bK,bI,aM,bR,aP,reduceCtorEq,ax,az,Nat.reduceAdd,Nat.reduceLeDiff,Ld.D,dh,pk];exact rfl) (hm:=by simp only[ll,hY,iK,lO,mU,cD,Nat.reduceEqDiff,aH,aI,cr,bU,b9,cL,cN,bK,bI,aM,bR,aP,reduceCtorEq,ax,az,Nat.reduceAdd,Nat.reduceLeDiff,Ld.D,dh,pk];exact rfl) ?_;refine aE ?_;refine c8 (d:=Rec.D ⟨nm,v,N,B,Z⟩) ?_;refine aR (Rec.D ⟨nm,v,N,B,Z⟩) (he:=aZ) ?_;refine aB ?_;refine ir trivial wC (bW ah (aU ?_ ?_)) ah ah ah;all_goals rfl
   refine aA ?_;have h2l:2<=l.length:=ae;refine aE ?_;refine bA (v:=.own 3 2 0 Z.length) ?_;refine aE ?_;refine cg 1 (hb:=fun _=>ae) ?_;refine cb (v:=.str l[1]!) (hi:=fun _=>ae) ?_;refine aE ?_;refine rl 2 (hb:=fun _=>ae) ?_;refine ar (hc:=h469 (l.drop 2) (by rw[jn];omega)) ?_;refine bo (bF.D ⟨l[1]!,l.drop 2⟩) ?_;refine c7 [bF.D ⟨l[1]!,l.drop 2⟩] ?_;refine jg (q:=bF.D) (xs:=Z) (e:=⟨l[1]!,l.drop 2⟩) ?_;refine aE ?_;refine aR (pk nm v (.sl 3 (N.map ba.D)) (.sl 3 (B.map fh.D)) (.own 32 2 0 (Z++[(⟨l[1]!,l.drop 2⟩:bF)]).length)) (he:=aZ) ?_;refine aB ?_;have hsl:=aM 0;exact⟨(Z++[⟨l[1]!,l.drop 2⟩],q2),⟨hq2,by simp only[bE,ax,az];omega,by rw[hw,EB hq h2l];simp⟩,dP,(bg.to [(1,1),(2,2),(32,3)] ah ah eC (by refine aY.ez ah ah ah ?_;refine aY.ez ah ah ah ?_;refine aY.eq 2 ah ah ah ?_;refine aY.nl 32 ah ah rfl (by exact bJ (fun _=>rfl) _) ?_;exact aY.nil))⟩
  simp only[bP]at hc3;obtain⟨⟨l,q2⟩,hq⟩:=jU hc3;have hnr:eA ic 3 true pb=q2:=by simp only[eA,hq]
  obtain⟨hl,hlm,hq2,hqp⟩:=oB hp0 hq1 hq;rw[hnr,hq];obtain hl:l.length=3:=by rcases hl with h|h;cases h;exact h
  refine aB ?_;refine Ll (v:=.own 3 3 0 B.length) ?_;refine aE ?_;refine cg 1 (hb:=fun _=>ae) ?_;refine Lm (v:=.str l[1]!) (hi:=fun _=>ae) ?_;refine aE ?_;refine cg 2 (hb:=fun _=>ae) ?_;refine Lm (v:=.str l[2]!) (hi:=fun _=>ae) ?_;refine aE ?_;refine nE (hc:=B9 h468 hp0 hq2) ?_;refine bo (fh.D ⟨l[1]!,l[2]!,(cn q2).1⟩) ?_;refine c7 [fh.D ⟨l[1]!,l[2]!,(cn q2).1⟩] ?_;refine jg (q:=fh.D) (xs:=B) (e:=⟨l[1]!,l[2]!,(cn q2).1⟩) ?_;refine aE ?_;refine aR (pk nm v (.sl 3 (N.map ba.D)) (.own 31 3 0 (B++[(⟨l[1]!,l[2]!,(cn q2).1⟩:fh)]).length) .aC) (he:=aZ) ?_;refine aB ?_;have hsl:=(kD q2).length_le;exact⟨(B++[⟨l[1]!,l[2]!,(cn q2).1⟩],(cn q2).2),⟨(kD q2).trans hq2,by simp only[bE,ax,az];omega,by rw[hw,xn hq];simp⟩,dP,(bg.to [(1,1),(2,2),(31,3)] ah ah eC (by refine aY.ez ah ah ah ?_;refine aY.ez ah ah ah ?_;refine aY.eq 2 ah ah ah ?_;refine aY.nl 31 ah ah rfl (by exact bJ (fun _=>rfl) _) ?_;exact aY.nil))⟩
 simp only[bP]at hc2;obtain⟨⟨l,q2⟩,hq⟩:=jU hc2;have hnr:eA eQ 1 false p=q2:=by simp only[eA,hq]
 obtain⟨hl,hlm,hq2,hqp⟩:=oB hp0 hq1 hq;rw[hnr,hq];refine aB ?_;refine Ll (v:=.own 3 3 0 N.length) ?_;refine aE ?_;refine nE (hc:=Nv h467 hp0 hq2) ?_;refine c7 [ba.D (eN q2).1] ?_;refine jg (q:=ba.D) (xs:=N) (e:=(eN q2).1) ?_;refine aE ?_;refine aR (pk nm v (.own 24 3 0 (N++[(eN q2).1]).length) .aC .aC) (he:=aZ) ?_;refine aB ?_;have hsl:=(rW q2).length_le;exact⟨(N++[(eN q2).1],(eN q2).2),⟨(rW q2).trans hq2,by simp only[bE,ax,az];omega,by rw[hw,vR hq];simp⟩,dP,(bg.to [(1,1),(2,2),(24,3)] ah ah eC (by refine aY.ez ah ah ah ?_;refine aY.ez ah ah ah ?_;refine aY.eq 2 ah ah ah ?_;refine aY.nl 24 ah ah rfl (by exact bJ (fun _=>rfl) _) ?_;exact aY.nil))⟩
def RJ (Y:Ctx):Prop:=∀(r:Ld),(r.sm)->Y.fp 222 (Ld.D r) []/\Y.fv 222 (Ld.D r) []=.tup [Rec.D (fG r.rest).1,.bool (pz r.rest).isSome]/\Y.fs 222 (Ld.D r) []=Ld.D (r.to (fG r.rest).2)
def zj (p:List aq):Prop:=∀t∈p,t.length<=1048576
def zj.get {l:List aq}(h:zj l)(i:Nat):l[i]!.length<=1048576:=by
 rcases fR i l.length with hi|hi
 ·exact h _ (bM hi)
 ·simp[hi];exact Nat.zero_le _
def zj.next {p:List aq}(hp:zj p){w:aq}{n:Nat}{op:Bool}{l q:List aq}(h:cq w n op p=some (l,q)):zj l/\zj q/\l.length<=1048577:=by
 obtain⟨t,rfl,ht⟩:=dI h;obtain⟨_,_,h3⟩:=vb ht;have h0:=hp t (.head _);refine⟨fun u hu=>?_,fun u hu=>hp u (.tail _ hu), ?_⟩
 ·rw[h3]at hu;have:=D6 hu;omega
 ·have:=AX n op t;rw[h3];omega
def zj.Je {p q:List aq}(hp:zj p)(h:q<:+p):zj q:=fun t ht=>hp t (h.subset ht)
def I3 {l:List aq}(h:zj l):(gX l).sm:=by
 refine⟨⟨h.get 1,h.get 4⟩,fun t ht=>?_⟩;unfold gX at ht;simp only at ht;split at ht
 ·cases ht
 ·have:=en _ _ ht;have:=h.get 2;omega
def GK {w:aq}{n:Nat}{op:Bool}{t:aq}{r l:List aq}(h:eg w n op t=some l):cq w n op (t::r)=some (l,r):=by simp only[cq,h]
def za:∀p:List aq,zj p->∀x∈(cz p).1,x.sm
 |[],_,x,hx=>by simp[cz]at hx
 |t::r,hp,x,hx=>by
  have ih:=za r (fun u hu=>hp u (.tail _ hu));simp only[cz]at hx;split at hx
  ·rename_i l hl;split at hx
   ·simp only[dr]at hx;rcases hx with rfl|hx
    ·exact I3 (hp.next (GK (r:=r) hl)).1
    ·exact ih x hx
   ·simp at hx
  ·simp at hx
def D4 {p:List aq}(hp:zj p):(cn p).1.length<=1048576:=by
 unfold cn;split
 ·rename_i h;exact(hp.next h).1.get 1
 ·simp
def NC {p:List aq}(hp:zj p):(oN p).1.length<=1048576:=by
 unfold oN;split
 ·rename_i h;exact(hp.next h).1.get 1
 ·simp
def KC {p:List aq}(hp:zj p):(eN p).1.sm:=⟨za p hp,D4 (hp.Je (oE p)),NC ((hp.Je (oE p)).Je (kD _))⟩
def Ar:∀(f:Nat)(p:List aq),zj p->(∀x∈(mZ f p).1,x.sm)/\(mZ f p).2<:+p
 |0,p,_=>⟨fun x hx=>by simp[mZ]at hx,jm _⟩
 |f+1,p,hp=>by
  simp only[mZ];split
  ·rename_i l r h;have hr:=(hp.next h).2.1;obtain⟨i1,i2⟩:=Ar f (eN r).2 (hr.Je (rW r));refine⟨fun x hx=>?_,i2.trans ((rW r).trans (pg h))⟩;simp only[dr]at hx;rcases hx with rfl|hx
   ·exact KC hr
   ·exact i1 x hx
  ·exact⟨fun x hx=>by simp at hx,jm _⟩
def Cu:∀(f:Nat)(p:List aq),zj p->(∀x∈(qb f p).1,x.sm)/\(qb f p).2<:+p
 |0,p,_=>⟨fun x hx=>by simp[qb]at hx,jm _⟩
 |f+1,p,hp=>by
  simp only[qb];split
  ·rename_i l r h;obtain⟨hl,hr,_⟩:=hp.next h;obtain⟨i1,i2⟩:=Cu f (cn r).2 (hr.Je (kD r));refine⟨fun x hx=>?_,i2.trans ((kD r).trans (pg h))⟩;simp only[dr]at hx;rcases hx with rfl|hx
   ·exact⟨hl.get 1,hl.get 2,D4 hr⟩
   ·exact i1 x hx
  ·exact⟨fun x hx=>by simp at hx,jm _⟩
def z6:∀(p:List aq),zj p->(∀x∈(dA p).1,x.sm)/\(dA p).2<:+p
 |[],_=>⟨fun x hx=>by simp[dA]at hx,jm _⟩
 |t::r,hp=>by
  obtain⟨i1,i2⟩:=z6 r (fun u hu=>hp u (.tail _ hu));simp only[dA];split
  ·rename_i l hl;obtain⟨hlm,_,hll⟩:=hp.next (GK (r:=r) hl);split
   ·refine⟨fun x hx=>?_,i2.trans (List.suffix_cons _ _)⟩;simp only[dr]at hx;rcases hx with rfl|hx
    ·refine⟨hlm.get 1, ?_,fun u hu=>hlm u (List.mem_of_mem_drop hu)⟩;simp only[jn];omega
    ·exact i1 x hx
   ·exact⟨fun x hx=>by simp at hx,jm _⟩
  ·exact⟨fun x hx=>by simp at hx,jm _⟩
def G1:gV jX:=⟨⟨aF,aF,aF⟩,fun n hn=>(by cases hn),fun n hn=>(by cases hn),fun n hn=>(by cases hn)⟩
def G0 {p:List aq}(hp:zj p):gV (fG p).1/\(fG p).2<:+p:=by
 unfold fG pz;cases h:cq dL 3 false p with
 |none=>exact⟨G1,jm _⟩
 |some lq=>
  obtain⟨l,r⟩:=lq;obtain⟨hl,hr,_⟩:=hp.next h;simp only;cases hv:fK l[2]! with
  |none=>exact⟨G1,jm _⟩
  |some v=>
   have hvs:=N2 (hl.get 2);rw[hv]at hvs;obtain⟨n1,n2⟩:=Ar r.length r hr;obtain⟨b1,b2⟩:=Cu (eh r).2.length (eh r).2 (hr.Je n2);obtain⟨f1,f2⟩:=z6 (iP (eh r).2).2 ((hr.Je n2).Je b2);exact⟨⟨⟨hl.get 1,hvs⟩,n1,b1,f1⟩,f2.trans (b2.trans (n2.trans (pg h)))⟩
def ea (s:aq):Rec×Int×Int:=
 if 4096<s.length then(jX,3,0)
 else
  let ls:=(ai s 10).take ((ai s 10).length-1)
  if(pz ls).isSome=false\/(fG ls).2≠[]\/(ai s 10)[(ai s 10).length-1]! ≠[]then(jX,2,((ls.length-(fG ls).2.length:Nat):Int)+1)
  else if(cH (fG ls).1).1≠0 then(jX,(cH (fG ls).1).1,0)
  else((fG ls).1,0,0)
def Dq:aJ:=⟨3,8,[⟨3,none⟩],ct,(sq (rg [gb 9 s0,gm bL] [(5,0),(3,1)]) (sq (.block 0 (sq (r1 [gm s1,gx 208 [l0] ct,ke l1,gm l2] 4 3) (.cond s4 (sq (r1 [gm sj] 3 0) .ret) (sq (r1 [gm s1,gf 0 s5,gd l1,aO l0 l2,gm l3] 6 4) (.cond s6 (sq (r1 [gm EI] 3 0) .ret) (sq (r1 [gm s2,gx 444 [l0] ct,ke l1,gm l2] 7 3) (.cond s7 (sq (r1 [gm uv] 3 0) .ret) .skip))))))) (sq (r1 [gm bL] 3 0) .ret)))⟩
def w211 {Y:Ctx}(hm:(Y.at 0).bz)(h208:Mi Y)(h444:RY Y)(r:Rec)(name:aq)(rng:aq)  (hp0:rng.length<=1048576):dV Y Dq (.int .i64 (fD r name rng)) [Rec.D r,.str name,.str rng]:=by
 show bX _ _ _ [⟨_,_⟩,⟨_,_⟩,⟨_,_⟩,_,_,_,_,_] _;refine au ?_;refine aK ?_;refine ar (hc:=h208 _) ?_;refine aB ?_;refine gN (fun hc0=>?_) fun hc0=>?_
 ·refine aT ?_;refine fC ?_;rw[fD,av hc0]
 refine br ?_;refine gN (fun hc1=>?_) fun hc1=>?_
 ·refine aT ?_;refine fC ?_;rw[fD,aj (by simp[hc0]),av hc1]
 refine aA ?_;refine ar (hc:=h444 rng hp0) ?_;refine aB ?_;refine gN (fun hc2=>?_) fun hc2=>?_
 ·refine aT ?_;refine fC ?_;rw[fD,aj (by simp[hc0]),aj hc1,av hc2]
 refine aK ?_;refine fC ?_;rw[fD,aj (by simp[hc0]),aj hc1,aj (by simp[hc2])]
def OV (Y:Ctx):Prop:=∀(r:Rec)(name:aq)(rng:aq),(rng.length<=1048576)->Y.pre 211 [Rec.D r,.str name,.str rng]/\Y.val 211 [Rec.D r,.str name,.str rng]=.int .i64 (fD r name rng)
def Dr:aJ:=⟨3,16,[⟨3,none⟩],ct,(sq (rg [gb 9 s0,gb 4 s1,gm bL] [(4,0),(5,1),(3,2)]) (sq (sq (r1 [gk 9 true s4,gf 0 s5,gd l1,gf 1 s5,gd l3,gx 211 [l0,l2,l4] [[.a,.a,.a,.a,.a,.a,.sl 3 [.sl 4 [.a,.a,.sl 1 [.a],.a],.a,.a],.sl 3 [.a,.a,.a],.sl 2 [.a,.sl 1 [.a]]],[.a],[.a]],gm l5] 6 6) (sq (r1 [gm s6,cv l0 bL] 7 1) (.cond s7 (sq (r1 [gm s6,gm l0] 3 1) .ret) .skip))) (sq (sq (r1 [gf 2 s5,gd l0,gl l1,dn l2 uv,gm l3,jK 4 2 s5,jQ 4 l5,cE 4 (.len l6),cE 4 (eF l7 bL),eU 4 l8,gmt 9 s2,cu 9 (.un .not l10),Bo 4 l9 gJ,fF l4 iM] 8 13) (.cond s8 (sq (r1 [gm (i6 11)] 3 0) .ret) .skip)) (sq (sq (rg [gf 2 s5,gd l0,gl l1,gm bL] [(12,1),(10,2),(9,3)]) (.block 0 (.loop (sq (r1 [a8 s9 kZ] 11 0) (sq (fY nQ 0) (sq (.block 1 (sq (rg [gm s9,ga 1 mQ s9,gd l1,gm l0,gm l2] [(14,3),(13,4)]) (sq (r1 [gm rv,gx 349 [l0] ct,ke l1,gm l2,eU 3 r8,cE 3 (eF l4 bL),eU 3 l5,mP 6 2 s5,kd 6 l7,gmt 6 r8,cu 6 (kq l9 ch),cu 6 (.ia 1 l8 l10),kd 6 gJ,gmt 6 rv,cu 6 (tz iM jN),Bo 3 l6 ku,fF l3 lx] 15 16) (.cond wD (sq (r1 [gm (i6 11)] 3 0) .ret) .skip)))) (r1 [ay s9 ch,gm l0] 9 1))))))) (sq (r1 [gm bL] 3 0) .ret)))))⟩
def w443 {Y:Ctx}(hm:(Y.at 0).bz)(h211:OV Y)(h349:Ej Y)(r:Rec)(w:bD)(al:Bool)  (hp0:w.sm):dV Y Dr (.int .i64 (iF r w al)) [Rec.D r,bD.D w,.bool al]:=by
 show bX _ _ _ [⟨_,_⟩,⟨_,_⟩,⟨_,_⟩,_,_,_,_,_,_,_,_,_,_,_,_,_] _;refine au ?_;refine hE ?_;refine ar (hc:=h211 r w.name w.range hp0.1.2) ?_;refine br ?_;refine cT (fun hc0=>?_) fun hc0=>?_
 ·refine aK ?_;refine fC ?_;rw[iF,av hc0]
 refine aK ?_;intro u0;refine aG ?_;refine js ?_;refine br ?_;refine aw (fun hc1=>?_) (fun hc1=>?_)
 ·have hq:(decide (w.feats.length<=6)&&(al ||decide (w.feats.length=0)))=false:=by rw[<-bn,<-L3];exact hc1
  refine aT ?_;refine fC ?_;rw[iF,aj (by simp[hc0]),av (by unfold iU;rw[hq];rfl)]
 have hq:(decide (w.feats.length<=6)&&(al ||decide (w.feats.length=0)))=true:=by rw[<-bP,<-L3];exact hc1
 refine aK ?_;intro u1;refine aA ?_;refine bw hm (ι:=Nat) (fun i=>[.un,.un,⟨true,.bool al⟩,.un,⟨true,.ptr 0 9 0 0⟩,⟨true,.ptr 1 4 0 0⟩,.un,.un,.un,⟨true,.int .i64 (i:Nat)⟩,⟨true,.int .i64 (w.feats.length:Nat)⟩,.un,⟨true,.sl 1 (w.feats.map D.str)⟩,.un,.un,.un]) (fun i=>[(0,.buf 9 [Rec.D r]),(1,.buf 4 [bD.D w])]) 30 (fun i=>i<=w.feats.length/\iU w.feats al=cO (N4 w.feats) i w.feats.length) (fun i=>w.feats.length-i) 0 ⟨ae,by unfold iU;rw[hq,fA]⟩ (dS [(0,0),(1,1)]) ?_;rintro i ⟨hi,hr⟩;refine aB ?_;refine cT (fun hc2=>?_) fun hc2=>?_
 ·refine hE ?_;refine ar (hc:=h349 _) ?_;refine dE ?_;refine cg (i-1) ?_;refine aK ?_;refine wp_cond (fun hc3=>?_) (fun hc3=>?_)
  ·have hz:N4 w.feats i=false:=by rw[<-bn,<-U8];exact hc3
   refine aK ?_;refine fC ?_;rw[iF,aj (by simp[hc0]),av (by rw[hr,aX ae,hz];rfl)]
  have hz:N4 w.feats i=true:=by rw[<-bP,<-U8];exact hc3
  refine br ?_;exact⟨i+1,⟨ae,by rw[hr,aX ae,hz];rfl⟩,ae,(dS [(0,0),(1,1)])⟩
 refine aK ?_;refine fC ?_;rw[iF,aj (by simp[hc0]),aj (by rw[hr,cj ae];simp)]
def RX (Y:Ctx):Prop:=∀(r:Rec)(w:bD)(al:Bool),(w.sm)->Y.pre 443 [Rec.D r,bD.D w,.bool al]/\Y.val 443 [Rec.D r,bD.D w,.bool al]=.int .i64 (iF r w al)
def Dn:aJ:=⟨2,16,[⟨2,none⟩],ct,(sq (rg [gb 9 s0,gb 3 s1,gm bL] [(10,0),(3,1),(2,2)]) (sq (sq (r1 [gf 0 s3,gd l0,gl l1,aO l2 bL] 4 3) (.cond s4 (sq (r1 [gm CT] 2 0) .ret) .skip)) (sq (sq (r1 [gf 0 s3,gd l0,gl l1,dn l2 jL] 5 3) (.cond s5 (sq (r1 [gm jL] 2 0) .ret) .skip)) (sq (sq (rg [gf 0 s3,gd l0,gl l1,gm bL] [(9,1),(7,2),(6,3)]) (.block 0 (.loop (sq (r1 [a8 s6 s7] 8 0) (sq (fY s8 0) (sq (.block 1 (sq (r1 [ga 4 s9 s6,gk 4 true l0,gb 4 (.c (.agg [.str [],.str [],.aC,.bool false])),gt 4 l2 l1] 11 2) (sq (r1 [gk 9 true kZ,gk 4 true nQ,gf 0 s3,gd l2,gl l3,aO l4 ch,gx 443 [l0,l1,l5] [[.a,.a,.a,.a,.a,.a,.sl 3 [.sl 4 [.a,.a,.sl 1 [.a],.a],.a,.a],.sl 3 [.a,.a,.a],.sl 2 [.a,.sl 1 [.a]]],[.a,.a,.sl 1 [.a],.a],[.a]],gm l6] 12 7) (sq (r1 [gm mQ,cv l0 bL] 13 1) (.cond rv (sq (r1 [gm mQ,gm l0] 2 1) .ret) .skip))))) (r1 [ay s6 ch,gm l0] 6 1))))))) (sq (sq (r1 [gf 1 s3,gd l0,gx 212 [l1] ct,ke l2] 14 3) (.cond r8 (sq (r1 [gm HX] 2 0) .ret) .skip)) (sq (sq (r1 [gf 2 s3,gd l0,cv l1 cse,gm l2,mP 3 2 s3,kd 3 l4,cu 3 (.call 349 [l5] ct),cu 3 (.un .not l6),fg l3 l7] 15 8) (.cond wD (sq (r1 [gm (i6 14)] 2 0) .ret) .skip)) (sq (r1 [gm bL] 2 0) .ret)))))))⟩
def w210 {Y:Ctx}(hm:(Y.at 0).bz)(h212:OW Y)(h349:Ej Y)(h443:RX Y)(r:Rec)(n:ba)  (hp0:n.sm):dV Y Dn (.int .i64 (gU r n)) [Rec.D r,ba.D n]:=by
 show bX _ _ _ [⟨_,_⟩,⟨_,_⟩,_,_,_,_,_,_,_,_,_,_,_,_,_,_] _;refine au ?_;refine dE ?_;intro u0;refine aA ?_;refine cT (fun hc0=>?_) fun hc0=>?_
 ·refine aT ?_;refine fC ?_;rw[gU,av ae]
 refine aK ?_;intro u1;refine aA ?_;refine cT (fun hc1=>?_) fun hc1=>?_
 ·refine aT ?_;refine fC ?_;rw[gU,aj ae,av ae]
 refine aK ?_;intro u2;refine aA ?_;refine bw hm (ι:=Nat) (fun i=>[.un,.un,.un,⟨true,.ptr 1 3 0 0⟩,.un,.un,⟨true,.int .i64 (i:Nat)⟩,⟨true,.int .i64 (n.any.length:Nat)⟩,.un,⟨true,.sl 4 (n.any.map bD.D)⟩,⟨true,.ptr 0 9 0 0⟩,.un,.un,.un,.un,.un]) (fun i=>[(0,.buf 9 [Rec.D r]),(1,.buf 3 [ba.D n])]) 15 (fun i=>i<=n.any.length/\mw r n.any=jJ (fun i=>iF r n.any[i]! (decide ((n.any.length:Int)=1))) i n.any.length) (fun i=>n.any.length-i) 0 ⟨ae,rfl⟩ (dS [(0,0),(1,1)]) ?_;rintro i ⟨hi,hr⟩;refine aB ?_;refine cT (fun hc2=>?_) fun hc2=>?_
 ·refine aG ?_;first|refine cb (v:=(bD.D _)) ?_|refine fk (v:=(bD.D _)) ?_
  refine aE ?_;refine aR (bD.D n.any[i]!) (he:=aZ) ?_;refine br ?_;intro u3;refine aE ?_;refine ar (hc:=h443 r n.any[i]! _ (hp0.1 _ (bM ae))) ?_;refine aK ?_;refine gN (fun hc3=>?_) fun hc3=>?_
  ·refine br ?_;refine fC ?_;have hw:mw r n.any=iF r n.any[i]! (decide ((n.any.length:Int)=1)):=by rw[hr,nX ae hc3]
   rw[gU,aj ae,aj ae,av (by rw[hw];exact hc3),hw]
  refine br ?_;exact⟨i+1,⟨ae,by rw[hr,oX ae hc3]⟩,ae,(dS [(0,0),(1,1)])⟩
 refine aG ?_;have hw0:mw r n.any=0:=by rw[hr,oW ae]
 refine aA ?_;refine ar (hc:=h212 _) ?_;refine aA ?_;refine aw (fun hc4=>?_) (fun hc4=>?_)
 ·try simp only[iz]at hc4
  refine aT ?_;refine fC ?_;rw[gU,aj ae,aj ae,aj (by simp[hw0]),av hc4]
 simp only[bP]at hc4;refine dE ?_;refine ar (hc:=h349 _) ?_;refine aB ?_;refine aw (fun hc5=>?_) (fun hc5=>?_)
 ·try simp only[iz]at hc5
  refine aT ?_;refine fC ?_;rw[gU,aj ae,aj ae,aj (by simp[hw0]),aj (by simp[hc4]),av hc5]
 simp only[dt,bP,aS]at hc5;refine aT ?_;refine fC ?_;rw[gU,aj ae,aj ae,aj (by simp[hw0]),aj (by simp[hc4]),aj (by rintro⟨g1,g2⟩;rcases hc5 with h|h;exact g1 h;rw[g2]at h;cases h)]
def RF (Y:Ctx):Prop:=∀(r:Rec)(n:ba),(n.sm)->Y.pre 210 [Rec.D r,ba.D n]/\Y.val 210 [Rec.D r,ba.D n]=.int .i64 (gU r n)
def Dm:aJ:=⟨2,15,[⟨2,none⟩],ct,(sq (rg [gb 9 s0,gm bL] [(3,0),(2,1)]) (sq (rg [gm s1,gx 448 [l0] ct,gm l1,ge l2 0,ge l2 1,ge l2 2,gm l3,gm l4,gm l5] [(8,6),(10,7)]) (sq (sq (rg [gf 6 s3,gd l0,gl l1,gm bL] [(7,1),(5,2),(4,3)]) (.block 0 (.loop (sq (r1 [a8 s4 s5] 6 0) (sq (fY s6 0) (sq (.block 1 (sq (r1 [ga 3 s7 s4,gk 3 true l0,gb 3 (.c (.agg [.aC,.str [],.str []])),gt 3 l2 l1] 9 2) (sq (r1 [gm s8,aO l0 jE,gm l1,mP 2 2 s9,kd 2 l3,gmt 2 kZ,cu 2 (cP l4 l5),fg l2 l6,gm l7,eU 8 s8,cE 8 (cP l9 jL),eU 8 l10,mP 11 0 s9,kd 11 iM,cu 11 (.len jN),cu 11 (cP ku ch),Bo 8 gJ lx,eU 8 n9,mP 17 0 s9,kd 17 qu,cu 17 (.ia 4 sn bL),mP 17 0 wv,kd 17 zg,gmt 17 kZ,cu 17 (cP Ak Ee),Bo 8 pV Ef,fF l8 EL] 11 26) (.cond nQ (sq (r1 [gm bL] 2 0) .ret) .skip)))) (r1 [ay s4 ch,gm l0] 4 1))))))) (sq (sq (r1 [gm s8] 12 0) (.block 2 (sq (r1 [aO mQ jE,gm l0] 13 1) (.cond rv (sq (r1 [gm (i6 14)] 2 0) .ret) (sq (r1 [aO mQ jL,gm l0] 14 1) (.cond r8 (sq (r1 [gm (i6 16)] 2 0) .ret) .skip)))))) (sq (r1 [gm bL] 2 0) .ret)))))⟩
def w214 {Y:Ctx}(hm:(Y.at 0).bz)(h448:O5 Y)(r:Rec)(s:aq)  (hp0:s.length<=1048576):dV Y Dm (.int .i64 (jF r s)) [Rec.D r,.str s]:=by
 show bX _ _ _ [⟨_,_⟩,⟨_,_⟩,_,_,_,_,_,_,_,_,_,_,_,_,_] _;refine au ?_;refine aT ?_;refine ar (hc:=h448 s hp0) ?_;refine mO ?_;intro u0;refine aA ?_;refine bw hm (ι:=Nat) (fun i=>[.un,.un,.un,⟨true,.ptr 0 9 0 0⟩,⟨true,.int .i64 (i:Nat)⟩,⟨true,.int .i64 (r.needs.length:Nat)⟩,.un,⟨true,.sl 3 (r.needs.map ba.D)⟩,⟨true,.int .i64 (cU s).1⟩,.un,⟨true,.str (cU s).2.1⟩,.un,.un,.un,.un]) (fun i=>[(0,.buf 9 [Rec.D r])]) 15 (fun i=>i<=r.needs.length/\jF r s=(if(r.needs.drop i).any (Md (cU s).1 (cU s).2.1)=true then 0 else Qn (cU s).1)) (fun i=>r.needs.length-i) 0 ⟨ae,Kk r s⟩ (dS [(0,0)]) ?_;rintro i ⟨hi,hr⟩;refine aB ?_;refine cT (fun hc0=>?_) fun hc0=>?_
 ·refine aG ?_;first|refine cb (v:=(ba.D _)) ?_|refine fk (v:=(ba.D _)) ?_
  refine aE ?_;refine aR (ba.D r.needs[i]!) (he:=aZ) ?_;refine zd ?_;refine js ?_;refine aT ?_;refine cg 0 (hb:=fun h=>by simp only[fA,beq_iff_eq,bh,aS]at h;omega) ?_;refine aE ?_;refine cb (q:=bD.D) (xs:=r.needs[i]!.any) (i:=0) (hi:=fun h=>by simp only[fA,beq_iff_eq,bh,aS]at h;omega) (v:=(.str r.needs[i]!.any[0]!.name)) ?_;refine aT ?_;refine wp_cond (fun hc1=>?_) (fun hc1=>?_)
  ·have hz:Md (cU s).1 (cU s).2.1 r.needs[i]! =true:=hc1;refine aK ?_;refine fC ?_;rw[hr,A8 ae hz];rfl
  have hz:Md (cU s).1 (cU s).2.1 r.needs[i]! =false:=hc1;refine br ?_;exact⟨i+1,⟨ae,by rw[hr,En ae hz]⟩,ae,(dS [(0,0)])⟩
 refine aG ?_;have he:jF r s=Qn (cU s).1:=by rw[hr,A7 ae];rfl
 refine br ?_;refine gN (fun hc2=>?_) fun hc2=>?_
 ·refine aT ?_;refine fC ?_;rw[he,Qn,av hc2]
 refine aG ?_;refine gN (fun hc3=>?_) fun hc3=>?_
 ·refine aT ?_;refine fC ?_;rw[he,Qn,aj hc2,av hc3]
 refine aK ?_;refine fC ?_;rw[he,Qn,aj hc2,aj hc3]
def RH (Y:Ctx):Prop:=∀(r:Rec)(s:aq),(s.length<=1048576)->Y.pre 214 [Rec.D r,.str s]/\Y.val 214 [Rec.D r,.str s]=.int .i64 (jF r s)
def BL:aJ:=⟨1,39,[⟨1,none⟩,⟨2,none⟩],iB,(sq (rg [gb 9 s0,gm bL,gm bL] [(3,0),(1,1),(2,2)]) (sq (.block 0 (sq (r1 [gf 0 s3,gd l0,gx 208 [l1] ct,ke l2,gm l3] 4 4) (.cond s4 (sq (rg [gm sj,gm bL] [(1,0),(2,1)]) .ret) (sq (r1 [gf 1 s3,gk 5 true l0,gx 209 [l1] HU,ke l2,gm l3] 5 4) (.cond s5 (sq (rg [gm zx,gm bL] [(1,0),(2,1)]) .ret) (sq (r1 [gf 6 s3,gd l0,gl l1,dn l2 EI,gm l3,jK 4 7 s3,jQ 4 l5,cE 4 (.len l6),cE 4 (eF l7 EI),fF l4 l8,gm l9] 6 10) (.cond s6 (sq (rg [gm jL,gm bL] [(1,0),(2,1)]) .ret) .skip))))))) (sq (sq (rg [gf 6 s3,gd l0,gl l1,gm bL] [(10,1),(8,2),(7,3)]) (.block 1 (.loop (sq (r1 [a8 s7 s8] 9 0) (sq (fY s9 1) (sq (.block 2 (sq (rg [gm s7,ga 3 kZ s7,gk 3 true l1,gb 3 (.c (.agg [.aC,.str [],.str []])),gm l0,gt 3 l3 l2] [(11,3),(14,4)]) (sq (r1 [gk 9 true s3,gk 3 true nQ,gx 210 [l0,l1] [[.a,.a,.a,.a,.a,.a,.sl 3 [.sl 4 [.a,.a,.sl 1 [.a],.a],.a,.a],.sl 3 [.a,.a,.a],.sl 2 [.a,.sl 1 [.a]]],[.sl 4 [.a,.a,.sl 1 [.a],.a],.a,.a]],gm l2] 12 3) (sq (r1 [gm mQ,cv l0 bL] 13 1) (.cond rv (sq (rg [gm mQ,gm r8,gm l0,gm l1] [(1,2),(2,3)]) .ret) .skip))))) (r1 [ay s7 ch,gm l0] 7 1))))))) (sq (sq (rg [gf 7 s3,gd l0,gl l1,gm bL] [(18,1),(16,2),(15,3)]) (.block 3 (.loop (sq (r1 [a8 wD DN] 17 0) (sq (fY BY 3) (sq (.block 4 (sq (rg [gm wD,ga 3 IL wD,gk 3 true l1,gb 3 (.c (.agg [.str [],.str [],.str []])),gm l0,gt 3 l3 l2] [(19,3),(22,4)]) (sq (sq (r1 [gk 9 true s3,gf 0 QZ,gd l1,gf 1 QZ,gd l3,gx 211 [l0,l2,l4] [[.a,.a,.a,.a,.a,.a,.sl 3 [.sl 4 [.a,.a,.sl 1 [.a],.a],.a,.a],.sl 3 [.a,.a,.a],.sl 2 [.a,.sl 1 [.a]]],[.a],[.a]],gm l5] 20 6) (sq (r1 [gm Me,cv l0 bL] 21 1) (.cond s21 (sq (rg [gm Me,gm s22,gm l0,gm l1] [(1,2),(2,3)]) .ret) .skip))) (sq (r1 [gf 2 QZ,gd l0,gx 212 [l1] ct,ke l2] 23 3) (.cond s23 (sq (rg [gm s22,gm HX,gm l0] [(1,1),(2,2)]) .ret) .skip))))) (r1 [ay wD ch,gm l0] 15 1))))))) (sq (sq (r1 [gf 8 s3,gd l0,gx 213 [l1] [[.sl 2 [.a,.sl 1 [.a]]]],ke l2] 24 3) (.cond Rl (sq (rg [gm (i6 11),gm bL] [(1,0),(2,1)]) .ret) .skip)) (sq (sq (rg [gf 8 s3,gd l0,gl l1,gm bL] [(28,1),(26,2),(25,3)]) (.block 5 (.loop (sq (r1 [a8 Rm UF] 27 0) (sq (fY s27 5) (sq (.block 6 (sq (rg [gm Rm,ga 2 s28 Rm,gk 2 true l1,gb 2 (.c (.agg [.str [],.aC])),gm l0,gt 2 l3 l2] [(29,3),(37,4)]) (sq (rg [gf 1 s29,gd l0,gl l1,gm bL] [(33,1),(31,2),(30,3)]) (.block 7 (.loop (sq (r1 [a8 OO s31] 32 0) (sq (fY s32 7) (sq (.block 8 (sq (r1 [ga 1 s33 OO,gd l0,gm l1] 34 2) (sq (r1 [gk 9 true s3,gm s34,gx 214 [l0,l1] [[.a,.a,.a,.a,.a,.a,.sl 3 [.sl 4 [.a,.a,.sl 1 [.a],.a],.a,.a],.sl 3 [.a,.a,.a],.sl 2 [.a,.sl 1 [.a]]],[.a]],gm l2] 35 3) (sq (r1 [gm s35,cv l0 bL] 36 1) (.cond s36 (sq (rg [gm s35,gm s37,gm l0,gm l1] [(1,2),(2,3)]) .ret) .skip))))) (r1 [ay OO ch,gm l0] 30 1))))))))) (r1 [ay Rm ch,gm l0] 25 1))))))) (sq (sq (r1 [gk 9 true s3,gx 215 [l0] [[.a,.a,.a,.a,.a,.a,.sl 3 [.sl 4 [.a,.a,.sl 1 [.a],.a],.a,.a],.sl 3 [.a,.a,.a],.sl 2 [.a,.sl 1 [.a]]]],oQ l1,dn l2 (i6 4096)] 38 3) (.cond s38 (sq (rg [gm jL,gm bL] [(1,0),(2,1)]) .ret) .skip)) (sq (rg [gm bL,gm bL] [(1,0),(2,1)]) .ret))))))))⟩
def w70 {Y:Ctx}(hm:(Y.at 0).bz)(h208:Mi Y)(h209:Jm Y)(h210:RF Y)(h211:OV Y)(h212:OW Y)(h213:RG Y)(h214:RH Y)(h215:OX Y)(r:Rec)  (hp0:gV r):dV Y BL (.tup [.int .i64 (cH r).1,.int .i64 (cH r).2]) [Rec.D r]:=by
 show bX _ _ _ (⟨true,Rec.D r⟩::.un::.un::.un::.un::.un::.un::.un::.un::.un::.un::.un::.un::.un::.un::.un::.un::.un::.un::.un::.un::.un::.un::.un::.un::.un::.un::.un::.un::.un::.un::.un::.un::.un::.un::.un::.un::.un::.un::[]) ⟨0,[]⟩;refine au ?_;refine bY ?_;refine ar (hc:=h208 _) ?_;refine aB ?_;refine wp_cond (fun hc0=>?_) (fun hc0=>?_)
 ·try simp only[iz]at hc0
  refine aK ?_;refine b8 (aU (ak (D.int .i64) ?_) (ak (D.int .i64) ?_));all_goals (have hq:cH r=(4,0):=(by rw[cH,av hc0]);rw[hq];first|done|rfl)
 simp only[bP]at hc0;refine aA ?_;refine bA (v:=cM.D r.v) ?_;refine ar (hc:=h209 r.v hp0.1.2) ?_;refine aB ?_;refine wp_cond (fun hc1=>?_) (fun hc1=>?_)
 ·try simp only[iz]at hc1
  refine aK ?_;refine b8 (aU (ak (D.int .i64) ?_) (ak (D.int .i64) ?_));all_goals (have hq:cH r=(5,0):=(by rw[cH,aj (by simp[hc0]),av hc1]);rw[hq];first|done|rfl)
 simp only[bP]at hc1;refine aG ?_;intro u0;refine aG ?_;refine js ?_;refine aG ?_;refine gN (fun hc2=>?_) fun hc2=>?_
 ·refine aK ?_;refine b8 (aU (ak (D.int .i64) ?_) (ak (D.int .i64) ?_));all_goals (have hq:cH r=(3,0):=(by rw[cH,aj (by simp[hc0]),aj (by simp[hc1]),av ae]);rw[hq];first|done|rfl)
 refine br ?_;intro u1;refine aA ?_;refine bw hm (ι:=Nat) (fun i=>(.un::.un::.un::⟨true,.ptr 0 9 0 0⟩::.un::.un::.un::⟨true,.int .i64 (i:Nat)⟩::⟨true,.int .i64 (r.needs.length:Nat)⟩::.un::⟨true,.sl 3 (r.needs.map ba.D)⟩::.un::.un::.un::.un::.un::.un::.un::.un::.un::.un::.un::.un::.un::.un::.un::.un::.un::.un::.un::.un::.un::.un::.un::.un::.un::.un::.un::.un::[])) (fun i=>[(0,.buf 9 [Rec.D r])]) 28 (fun i=>i<=r.needs.length/\lS r=ij (fun i=>gU r r.needs[i]!) i r.needs.length) (fun i=>r.needs.length-i) 0 ⟨ae,rfl⟩ (dS [(0,0)]) ?_;rintro i ⟨hi,hr⟩;refine aB ?_;refine cT (fun hc3=>?_) fun hc3=>?_
 ·refine aT ?_;first|refine cb (v:=(ba.D _)) ?_|refine fk (v:=(ba.D _)) ?_
  refine aA ?_;refine aR (ba.D r.needs[i]!) (he:=aZ) ?_;refine aG ?_;refine ar (hc:=h210 r r.needs[i]! (hp0.2.1 _ (bM ae))) ?_;refine aK ?_;refine gN (fun hc4=>?_) fun hc4=>?_
  ·refine dE ?_;refine b8 (aU (ak (D.int .i64) ?_) (ak (D.int .i64) ?_));all_goals
    have hq:cH r=(gU r r.needs[i]!,((i:Nat):Int)):=by
     exact oU hc0 hc1 ae ae (Dg (by rw[hr,j8 ae hc4]) hc4) hc4
    rw[hq];first|done|rfl
  refine br ?_;exact⟨i+1,⟨ae,by rw[hr,lN ae hc4]⟩,ae,(dS [(0,0)])⟩
 refine aG ?_;have hn0:lS r=(0,0):=by rw[hr,lM ae]
 refine aB ?_;intro u2;refine aA ?_;refine bw hm (ι:=Nat) (fun i=>(.un::.un::.un::⟨true,.ptr 0 9 0 0⟩::.un::.un::.un::.un::.un::.un::.un::.un::.un::.un::.un::⟨true,.int .i64 (i:Nat)⟩::⟨true,.int .i64 (r.bars.length:Nat)⟩::.un::⟨true,.sl 3 (r.bars.map fh.D)⟩::.un::.un::.un::.un::.un::.un::.un::.un::.un::.un::.un::.un::.un::.un::.un::.un::.un::.un::.un::.un::[])) (fun i=>[(0,.buf 9 [Rec.D r])]) 33 (fun i=>i<=r.bars.length/\sB r=ij (fun i=>oH r r.bars[i]!) i r.bars.length) (fun i=>r.bars.length-i) 0 ⟨ae,rfl⟩ (dS [(0,0)]) ?_;rintro i ⟨hi,hr⟩;refine aB ?_;refine cT (fun hc5=>?_) fun hc5=>?_
 ·refine aT ?_;first|refine cb (v:=(fh.D _)) ?_|refine fk (v:=(fh.D _)) ?_
  refine aA ?_;refine aR (fh.D r.bars[i]!) (he:=aZ) ?_;refine bY ?_;refine ar (hc:=h211 r r.bars[i]!.name r.bars[i]!.range (hp0.2.2.1 _ (bM ae)).2.1) ?_;refine br ?_;refine aw (fun hc6=>?_) (fun hc6=>?_)
  ·simp only[bn,bj]at hc6;have hbe:oH r r.bars[i]! =fD r r.bars[i]!.name r.bars[i]!.range:=by rw[oH,av hc6]
   refine iG ?_;refine b8 (aU (ak (D.int .i64) ?_) (ak (D.int .i64) ?_));all_goals
    have hq:cH r=(fD r r.bars[i]!.name r.bars[i]!.range,((i:Nat):Int)):=by
     exact oU hc0 hc1 ae ae (yn hn0 (by rw[hr,j8 ae (by rw[hbe];exact hc6),hbe]) hc6) hc6
    rw[hq];first|done|rfl
  try simp only[iz]at hc6
  refine aG ?_;refine ar (hc:=h212 _) ?_;refine aA ?_;refine wp_cond (fun hc7=>?_) (fun hc7=>?_)
  ·simp only[bn]at hc7;have hbe:oH r r.bars[i]! =7:=by rw[oH,aj (fun h=>h hc6),av hc7]
   refine bY ?_;refine b8 (aU (ak (D.int .i64) ?_) (ak (D.int .i64) ?_));all_goals
    have hq:cH r=((7:Int),((i:Nat):Int)):=by
     exact oU hc0 hc1 ae ae (yn hn0 (by rw[hr,j8 ae (by rw[hbe];decide),hbe]) (show(7:Int)≠0 by decide)) (show(7:Int)≠0 by decide)
    rw[hq];first|done|rfl
  simp only[bP]at hc7;have hbz:oH r r.bars[i]! =0:=by rw[oH,aj (fun h=>h hc6),aj (by rw[hc7];simp)]
  refine br ?_;exact⟨i+1,⟨ae,by rw[hr,lN ae hbz]⟩,ae,(dS [(0,0)])⟩
 refine aG ?_;have hb0:sB r=(0,0):=by rw[hr,lM ae]
 refine aA ?_;refine ar (hc:=h213 r.feats hp0.2.2.2) ?_;refine aA ?_;refine aw (fun hc8=>?_) (fun hc8=>?_)
 ·try simp only[iz]at hc8
  refine aK ?_;refine b8 (aU (ak (D.int .i64) ?_) (ak (D.int .i64) ?_));all_goals
   have hq:cH r=(11,0):=by
    exact oU hc0 hc1 ae ae (Dh hn0 hb0 hc8) aF
   rw[hq];first|done|rfl
 simp only[bP]at hc8;refine aK ?_;intro u3;refine aA ?_;refine bw hm (ι:=Nat) (fun i=>(.un::.un::.un::⟨true,.ptr 0 9 0 0⟩::.un::.un::.un::.un::.un::.un::.un::.un::.un::.un::.un::.un::.un::.un::.un::.un::.un::.un::.un::.un::.un::⟨true,.int .i64 (i:Nat)⟩::⟨true,.int .i64 (r.feats.length:Nat)⟩::.un::⟨true,.sl 2 (r.feats.map bF.D)⟩::.un::.un::.un::.un::.un::.un::.un::.un::.un::.un::[])) (fun i=>[(0,.buf 9 [Rec.D r])]) 42 (fun i=>i<=r.feats.length/\sS r=ij (fun i=>kf r r.feats[i]!.of) i r.feats.length) (fun i=>r.feats.length-i) 0 ⟨ae,rfl⟩ (dS [(0,0)]) ?_;rintro i ⟨hi,hr⟩;refine aB ?_;refine cT (fun hc9=>?_) fun hc9=>?_
 ·refine aT ?_;first|refine cb (v:=(bF.D _)) ?_|refine fk (v:=(bF.D _)) ?_
  refine aA ?_;refine aR (bF.D r.feats[i]!) (he:=aZ) ?_;refine aT ?_;intro u4;refine aA ?_;refine p8 hm (ι:=Nat) (fun j=>(.un::.un::.un::⟨true,.ptr 0 9 0 0⟩::.un::.un::.un::.un::.un::.un::.un::.un::.un::.un::.un::.un::.un::.un::.un::.un::.un::.un::.un::.un::.un::⟨true,.int .i64 (i:Nat)⟩::⟨true,.int .i64 (r.feats.length:Nat)⟩::.un::⟨true,.sl 2 (r.feats.map bF.D)⟩::.un::⟨true,.int .i64 (j:Nat)⟩::⟨true,.int .i64 (r.feats[i]!.of.length:Nat)⟩::.un::⟨true,.sl 1 (r.feats[i]!.of.map D.str)⟩::.un::.un::.un::⟨true,.int .i64 (i:Nat)⟩::.un::[])) (fun j=>[(0,.buf 9 [Rec.D r])]) 53 (fun j=>j<=r.feats[i]!.of.length/\kf r r.feats[i]!.of=jJ (fun j=>jF r r.feats[i]!.of[j]!) j r.feats[i]!.of.length) (fun j=>r.feats[i]!.of.length-j) 0 ⟨ae,rfl⟩ (dS [(0,0)]) ?_;rintro j ⟨hj,hjr⟩;refine aB ?_;refine cT (fun hc10=>?_) fun hc10=>?_
  ·refine iG ?_;refine ar (hc:=h214 r r.feats[i]!.of[j]! ((hp0.2.2.2 _ (bM ae)).2.2 _ (bM ae))) ?_;refine aK ?_;refine gN (fun hc11=>?_) fun hc11=>?_
   ·refine hE ?_;refine b8 (aU (ak (D.int .i64) ?_) (ak (D.int .i64) ?_));all_goals
     have hq:cH r=(jF r r.feats[i]!.of[j]!,((i:Nat):Int)):=by
      have hie:kf r r.feats[i]!.of=jF r r.feats[i]!.of[j]! :=by rw[hjr,nX ae hc11]
      exact oU hc0 hc1 ae ae (qY hn0 hb0 hc8 (by rw[hr,j8 (f:=(fun i=>kf r r.feats[i]!.of)) ae (by rw[hie];exact hc11),hie])) hc11
     rw[hq];first|done|rfl
   refine br ?_;exact⟨j+1,⟨ae,by rw[hjr,oX ae hc11]⟩,ae,(dS [(0,0)])⟩
  refine bY ?_;exact⟨i+1,⟨ae,by rw[hr,lN (f:=(fun i=>kf r r.feats[i]!.of)) ae (by rw[hjr,oW ae])]⟩,ae,(dS [(0,0)])⟩
 refine aG ?_;have hpz:ei r=(0,0):=qY hn0 hb0 hc8 (by rw[hr,lM ae]);have hgd:qP r:=⟨⟨hc0,hc1⟩,⟨ae,ae⟩,hpz⟩;refine aE ?_;refine ar (hc:=h215 r ⟨hgd,hp0⟩) ?_;refine aE ?_;intro u5;refine aA ?_;refine cT (fun hc12=>?_) fun hc12=>?_
 ·refine aK ?_;refine b8 (aU (ak (D.int .i64) ?_) (ak (D.int .i64) ?_));all_goals
   have hq:cH r=(3,0):=by
    rw[qB hc0 hc1 ae ae hpz,av ae]
   rw[hq];first|done|rfl
 refine aK ?_;refine b8 (aU (ak (D.int .i64) ?_) (ak (D.int .i64) ?_));all_goals
  have hq:cH r=(0,0):=by
   rw[qB hc0 hc1 ae ae hpz,aj ae]
  rw[hq];first|done|rfl
def C70 (Y:Ctx):Prop:=∀(r:Rec),(gV r)->Y.pre 70 [Rec.D r]/\Y.val 70 [Rec.D r]=.tup [.int .i64 (cH r).1,.int .i64 (cH r).2]
def BM:aJ:=⟨1,12,[⟨1,some (9,true)⟩,⟨2,none⟩,⟨3,none⟩],[[.a,.a,.a,.a,.a,.a,.sl 3 [.sl 4 [.a,.a,.sl 1 [.a],.a],.a,.a],.sl 3 [.a,.a,.a],.sl 2 [.a,.sl 1 [.a]]],[.a],[.a]],(sq (rg [gb 9 (.c (.agg [.str [],.int .i64 0,.int .i64 0,.int .i64 0,.str [],.str [],.aC,.aC,.aC])),gm bL,gm bL] [(1,0),(2,1),(3,2)]) (sq (sq (r1 [gm s0,oQ l0,dn l1 (i6 4096)] 4 2) (.cond s4 (sq (rg [gn (.build [.str [],.int .i64 0,.int .i64 0,.int .i64 0,.str [],.str [],.aC,.aC,.aC] []),gt 9 s1 l0,gm jL,gm bL] [(2,2),(3,3)]) .ret) .skip)) (sq (r1 [gm s0,gx 124 [l0,(cs [10])] iB,gm l1] 5 2) (sq (r1 [gm s5,gm s5,gl l1,eH l2 ch,gn (.slA 1 l0 none (some l3)),gn (.build [.aC,.int .i64 0] [(0,1,l4)]),gb 2 l5,gm l6] 6 7) (sq (rg [gm s6,gn (.callF 222 l0 [] []),gm l1,ge l2 0,ge l2 1,gb 9 (.c (.agg [.str [],.int .i64 0,.int .i64 0,.int .i64 0,.str [],.str [],.aC,.aC,.aC])),gt 9 l5 l3,gm l4] [(9,5),(7,7)]) (sq (sq (r2 [gm s7,ke l0,gm l1,eU 2 s6,cE 2 (.nilck l3),jK 2 1 l4,jQ 2 l5,eU 2 s6,cE 2 (.nilck l7),jK 2 0 l8,jQ 2 l9,cE 2 (.len l10),cE 2 (qa l6 gJ),fF l2 iM,gm jN,eU 14 s5,eU 14 s5,cE 14 (.len n9),cE 14 (kq pV ch),cE 14 (.ia 1 lx qu),jQ 14 sn,cE 14 (eM wv cse),fF ku zg] 8 22) (.cond s8 (sq (rt [gn (.build [.str [],.int .i64 0,.int .i64 0,.int .i64 0,.str [],.str [],.aC,.aC,.aC] []),gm s6,gc l1,gf 1 l2,gn (.ldI 1 false l3),ay l4 ch,gt 9 s1 l0,gm jE,gm l5] [(2,7),(3,8)]) .ret) .skip)) (sq (sq (r1 [gk 9 true s9,gx 70 [l0] [[.a,.a,.a,.a,.a,.a,.sl 3 [.sl 4 [.a,.a,.sl 1 [.a],.a],.a,.a],.sl 3 [.a,.a,.a],.sl 2 [.a,.sl 1 [.a]]]],gm l1,ge l2 0,ge l2 1,gm l3,gm l4] 10 5) (sq (r1 [gm kZ,cv l0 bL] 11 1) (.cond nQ (sq (rg [gn (.build [.str [],.int .i64 0,.int .i64 0,.int .i64 0,.str [],.str [],.aC,.aC,.aC] []),gm kZ,gt 9 s1 l0,gm l1,gm bL] [(2,3),(3,4)]) .ret) .skip))) (sq (rg [gk 9 true s9,gt 9 s1 l0,gm bL,gm bL] [(2,2),(3,3)]) .ret))))))))⟩
def w76 {Y:Ctx}(hm:(Y.at 0).bz)(h70:C70 Y)(h124:Jl Y)(h222:RJ Y)(s:aq)   :dV Y BM (.tup [Rec.D (ea s).1,.int .i64 (ea s).2.1,.int .i64 (ea s).2.2]) [.str s]:=by
 show bX _ _ _ [⟨_,_⟩,_,_,_,_,_,_,_,_,_,_,_] _;refine au ?_;refine bY ?_;intro u0;refine aA ?_;refine aw (fun hc0=>?_) (fun hc0=>?_)
 ·simp only[aS]at hc0;have hrr:ea s=(jX,3,0):=by unfold ea;rw[av ae]
  rw[hrr];refine aA ?_;refine bo dh ?_;refine aR dh (he:=aZ) ?_;refine aB ?_;refine lh [(0,.buf 9 [Rec.D jX])] (.bf ah (.cons mq .nil) .nil) ?_;refine aE ?_;refine b8 (e7 ?_ (ak (D.int .i64) ?_) (ak (D.int .i64) ?_));all_goals rfl
 simp only[bj]at hc0;have hsp:=fq 10 s [];have hsp:1<=(ai s 10).length:=hsp;have hsl:=de s 10;refine aB ?_;refine ar (v:=.sl 1 ((ai s 10).map D.str)) (hc:=h124 s 10 ae) ?_;refine aK ?_;intro u1;refine aE ?_;refine py ((ai s 10).length-1) (hj:=fun _=>ae) (hb:=fun _=>ae) ?_;refine bo (Ld.D ⟨((ai s 10).take ((ai s 10).length-1)),0⟩) ?_;refine aG ?_;generalize hLS:((ai s 10).take ((ai s 10).length-1))=LS;have hLl:LS.length=(ai s 10).length-1:=by rw[<-hLS,dq];omega
 have hLm:zj LS:=fun t ht=>by
  rw[<-hLS]at ht;have:=en s 10 (m8 ht);omega
 have hsm0:(⟨LS,0⟩:Ld).sm:=⟨⟨Nat.zero_le _,by simp only;omega⟩,hLm⟩;obtain⟨hrs,hsf⟩:=G0 hLm;have hsfl:=hsf.length_le;refine aE ?_;refine nE (v:=.tup [Rec.D (fG LS).1,.bool (pz LS).isSome]) (e:=Ld.D ((⟨LS,0⟩:Ld).to (fG LS).2)) (hc:=h222 ⟨LS,0⟩ hsm0) ?_;refine aE ?_;refine fB (Rec.D _) ?_;refine aA ?_;refine aR (Rec.D (fG LS).1) (he:=aZ) ?_;refine iG ?_;refine bA (v:=.int .i64 ((LS.length-(fG LS).2.length:Nat):Int)) ?_;refine aB ?_;refine bA (v:=.sl 1 (LS.map D.str)) ?_;refine js ?_;refine aT ?_;refine js ?_;refine aE ?_;refine cg ((ai s 10).length-1) (hj:=fun _=>ae) (hb:=fun _=>ae) ?_;refine cb (v:=.str (ai s 10)[(ai s 10).length-1]!) (hi:=fun _=>ae) ?_;refine aB ?_;refine aw (fun hc1=>?_) (fun hc1=>?_)
 ·simp only[cR,bn,aS,bj]at hc1;have hrr:ea s=(jX,2,((LS.length-(fG LS).2.length:Nat):Int)+1):=by
   unfold ea;rw[aj ae];simp only[hLS];rw[av];rcases hc1 with(h|h)|h
   ·exact .inl h
   ·refine .inr (.inl fun e=>?_);rw[e]at h;simp only[az]at h;omega
   ·exact .inr (.inr h)
  rw[hrr];refine aE ?_;refine eR 15 (he:=by simp only[ll,hY,iK,lO,mU,cD,Nat.reduceEqDiff,aH,aI,cr,bU,b9,cL,cN,bK,bI,aM,bR,aP,reduceCtorEq,ax,az,Nat.reduceAdd,Nat.reduceLeDiff,Ld.D,dh,pk];exact rfl) (hm:=by simp only[ll,hY,iK,lO,mU,cD,Nat.reduceEqDiff,aH,aI,cr,bU,b9,cL,cN,bK,bI,aM,bR,aP,reduceCtorEq,ax,az,Nat.reduceAdd,Nat.reduceLeDiff,Ld.D,dh,Rec.D];exact rfl) ?_;refine aE ?_;refine bo dh ?_;refine aB ?_;refine BI (v:=.int .i64 ((LS.length-(fG LS).2.length:Nat):Int)) ?_;refine aE ?_;refine aR dh (he:=aZ) ?_;refine aB ?_;refine lh [(0,.buf 9 [Rec.D jX]),(22,.buf 9 [Rec.D (fG LS).1])] (.bf ah (.cons mq .nil) (.id ah .nil)) ?_;refine aE ?_;refine b8 (e7 ?_ (ak (D.int .i64) ?_) (ak (D.int .i64) ?_));all_goals rfl
 simp only[c9,bP,aS,bj]at hc1;have hrr:ea s=if(cH (fG LS).1).1≠0 then(jX,(cH (fG LS).1).1,0)else((fG LS).1,0,0):=by
  unfold ea;rw[aj ae];simp only[hLS];rw[aj];rintro(h|h|h)
  ·rw[hc1.1.1]at h;cases h
  ·exact h (lj (by have:=hc1.1.2;omega))
  ·exact h hc1.2
 rw[hrr];refine aB ?_;refine c8 (d:=Rec.D (fG LS).1) ?_;refine ar (hc:=h70 (fG LS).1 hrs) ?_;refine hE ?_;refine aw (fun hc2=>?_) (fun hc2=>?_)
 ·simp only[bn,bj]at hc2;rw[av hc2];refine aA ?_;refine bo dh ?_;refine aE ?_;refine aR dh (he:=aZ) ?_;refine aB ?_;refine lh [(0,.buf 9 [Rec.D jX]),(15,.buf 2 [Ld.D ((⟨LS,0⟩:Ld).to (fG LS).2)]),(22,.buf 9 [Rec.D (fG LS).1])] (.bf ah (.cons mq .nil) (.id ah (.id ah .nil))) ?_;refine aE ?_;refine b8 (e7 ?_ (ak (D.int .i64) ?_) (ak (D.int .i64) ?_));all_goals rfl
 simp only[bP,aS]at hc2;rw[aj (by rw[hc2];simp)];refine aA ?_;refine c8 (d:=Rec.D (fG LS).1) ?_;refine aR (Rec.D (fG LS).1) (he:=aZ) ?_;refine aG ?_;refine b8 (e7 ?_ (ak (D.int .i64) ?_) (ak (D.int .i64) ?_));all_goals rfl
def C76 (Y:Ctx):Prop:=∀(s:aq),Y.pre 76 [.str s]/\Y.val 76 [.str s]=.tup [Rec.D (ea s).1,.int .i64 (ea s).2.1,.int .i64 (ea s).2.2]
def tl (t:aq)(n:Nat):Bool:=decide (n<(ai t 32).length)&&cO (fun i=>!decide ((ai t 32)[i]! =[])) 0 n
def fO (t:aq)(n:Nat):List aq×aq×Bool:=if tl t n=true then((ai t 32).take n,bc [32] ((ai t 32).drop n),!decide (bc [32] ((ai t 32).drop n)=[]))else([],[],false)
def ua {l:List aq}{n:Nat}{x:aq}(hn:n<=l.length):x∈l.take n↔∃i,i<n/\l[i]! =x:=by
 constructor
 ·intro h;obtain⟨i,hi,e⟩:=List.mem_iff_getElem.1 h;rw[dq]at hi;refine⟨i,ae, ?_⟩;rw[List.getElem_take]at e;simp[show i<l.length by omega,e]
 ·rintro⟨i,hi,rfl⟩;have:l[i]! =(l.take n)[i]! :=by simp[hi,show i<l.length by omega]
  rw[this];exact bM (by rw[dq];omega)
def BV (t:aq)(n:Nat):nk t n=if(fO t n).2.2=true then some ((fO t n).1,(fO t n).2.1)else none:=by
 unfold nk fO tl;by_cases h1:n<(ai t 32).length
 ·by_cases h2:[]∉(ai t 32).take n
  ·have h3:cO (fun i=>!decide ((ai t 32)[i]! =[])) 0 n=true:=by
    rw[eE];intro j _ hj;simp only[bn,bj];intro e;exact h2 ((ua ae).2 ⟨j,hj,e⟩)
   rw[h3,bS h1];by_cases h4:bc [32] ((ai t 32).drop n)=[]
   ·simp[h4]
   ·simp[h1,h2,h4]
  ·have h3:cO (fun i=>!decide ((ai t 32)[i]! =[])) 0 n=false:=by
    rw[Bool.eq_false_iff];intro h;rw[eE]at h;refine h2 (fun hm=>?_);obtain⟨i,hi,e⟩:=(ua ae).1 hm;have:=h i ae hi;simp[e]at this
   rw[h3,aj (fun hh=>h2 hh.2.1)];simp
 ·rw[cJ h1,aj (fun hh=>h1 hh.1)];simp
def Dc (l:List aq)(n:Nat):uc l n=(decide (l.length=n)&&cO (fun i=>!decide (l[i]! =[])) 0 l.length):=by
 rw[Bool.eq_iff_iff,pj];simp only[bh,aS,eE,bn,bj];constructor
 ·rintro⟨h1,h2⟩;exact⟨h1,fun j _ hj e=>h2 (e▸bM hj)⟩
 ·rintro⟨h1,h2⟩;refine⟨h1,fun hm=>?_⟩;obtain⟨i,hi,e⟩:=tY hm;exact h2 i ae hi e
def im (s:aq):List aq×Bool:=if(ai s 10)[(ai s 10).length-1]! =[]then((ai s 10).take ((ai s 10).length-1),true)else(ai s 10,false)
def Fk:aJ:=⟨2,11,[⟨2,none⟩,⟨3,none⟩,⟨4,none⟩],[[.sl 1 [.a]],[.a],[.a]],(sq (rg [gm (.c (.aC)),gm cse,gm dj] [(2,0),(3,1),(4,2)]) (sq (r1 [gm s0,gx 470 [l0,(i8 32)] iB,gm l1] 5 2) (sq (sq (r1 [gm s5,gl l0,gm s1,ya l1 l2] 6 3) (.cond s6 (sq (rg [gm (.c (.aC)),gm cse,gm dj] [(2,0),(3,1),(4,2)]) .ret) .skip)) (sq (sq (r1 [gm bL] 7 0) (.block 0 (.loop (sq (sq (r1 [gm s7,gm s1,a8 l0 l1] 8 2) (fY s8 0)) (sq (.block 1 (sq (r1 [gm s5,gm s7,ga 1 l0 l1,gd l2,aO l3 cse] 9 4) (.cond s9 (sq (rg [gm (.c (.aC)),gm cse,gm dj] [(2,0),(3,1),(4,2)]) .ret) .skip))) (r1 [gm s7,ay l0 ch,gm l1] 7 2)))))) (sq (r1 [gm s5,gm s1,gn (.slA 1 l0 (some l1) none),gx 249 [l2,(i8 32)] [[.sl 1 [.a]],[.a]],gm l3] 10 4) (sq (rg [gm s5,gm s1,gn (.slA 1 l0 none (some l1)),gm kZ,gm kZ,cv l4 cse,gm l2,gm l3,gm l5] [(2,6),(3,7),(4,8)]) .ret))))))⟩
def w475 {Y:Ctx}(hm:(Y.at 0).bz)(h249:Jp Y)(h470:xe Y)(s:aq)(n:Nat)  (hp0:s.length<=1048576)(hp1:n<=100):dV Y Fk (.tup [.sl 1 ((fO s n).1.map D.str),.str (fO s n).2.1,.bool (fO s n).2.2]) [.str s,.int .i64 (n:Nat)]:=by
 show bX _ _ _ [⟨_,_⟩,⟨_,_⟩,_,_,_,_,_,_,_,_,_] _;have hsl:=de s 32;refine au ?_;refine aK ?_;refine ar (v:=.sl 1 ((ai s 32).map D.str)) (hc:=h470 s 32 hp0) ?_;refine aK ?_;intro u0;refine aB ?_;refine aw (fun hc0=>?_) (fun hc0=>?_)
 ·simp only[aS]at hc0;have hrd:fO s n=([],[],false):=by unfold fO tl;rw[cJ ae];rfl
  rw[hrd];refine br ?_;refine b8 (e7 ?_ ?_ ?_);all_goals rfl
 simp only[bj]at hc0;have hlt:n<(ai s 32).length:=ae;refine aT ?_;refine bw hm (ι:=Nat) (fun i=>[⟨true,.str s⟩,⟨true,.int .i64 (n:Nat)⟩,⟨true,.aC⟩,⟨true,.str []⟩,⟨true,.bool false⟩,⟨true,.sl 1 ((ai s 32).map D.str)⟩,.un,⟨true,.int .i64 (i:Nat)⟩,.un,.un,.un]) (fun i=>[]) 11 (fun i=>i<=n/\tl s n=cO (fun i=>!decide ((ai s 32)[i]! =[])) i n) (fun i=>n-i) 0 ⟨ae,by unfold tl;rw[bS hlt];rfl⟩ (dS []) ?_;rintro i ⟨hi,hr⟩;refine aK ?_;refine cT (fun hc1=>?_) fun hc1=>?_
 ·refine aT ?_;refine cg i (hb:=fun _=>ae) ?_;refine cb (v:=.str (ai s 32)[i]!) (hi:=fun _=>ae) ?_;refine aA ?_;refine gN (fun hc2=>?_) fun hc2=>?_
  ·refine aE ?_;have hrd:fO s n=([],[],false):=by unfold fO;rw[hr,aX ae,bS hc2];rfl
   rw[hrd];refine br ?_;refine b8 (e7 ?_ ?_ ?_);all_goals rfl
  refine bY ?_;exact⟨i+1,⟨ae,by rw[hr,aX ae,cJ hc2];rfl⟩,ae,(dS [])⟩
 refine aB ?_;have hro:tl s n=true:=by rw[hr,cj ae]
 have hrd:fO s n=((ai s 32).take n,bc [32] ((ai s 32).drop n),!decide (bc [32] ((ai s 32).drop n)=[])):=by unfold fO;rw[av hro]
 rw[hrd];refine aA ?_;refine rl n (hb:=fun _=>ae) ?_;refine ar (v:=.str (bc [32] ((ai s 32).drop n))) (hc:=h249 ((ai s 32).drop n) 32 (by have:=n7 32 (ai s 32) n;rw[kt (b:=32) (x:=32) rfl s]at this;omega)) ?_;refine aT ?_;refine py n (hb:=fun _=>ae) ?_;refine bY ?_;refine b8 (e7 ?_ ?_ ?_);all_goals rfl
def Mn (Y:Ctx):Prop:=∀(s:aq)(n:Nat),(s.length<=1048576)->(n<=100)->Y.pre 475 [.str s,.int .i64 (n:Nat)]/\Y.val 475 [.str s,.int .i64 (n:Nat)]=.tup [.sl 1 ((fO s n).1.map D.str),.str (fO s n).2.1,.bool (fO s n).2.2]
def IA:aJ:=⟨2,7,[⟨2,none⟩],ct,(sq (r1 [gm dj] 2 0) (sq (sq (r1 [gm s0,gl l0,gm s1,cv l1 l2] 3 3) (.cond s3 (sq (r1 [gm dj] 2 0) .ret) .skip)) (sq (sq (r1 [gm bL] 4 0) (.block 0 (.loop (sq (sq (r1 [gm s4,gm s0,gl l1,a8 l0 l2] 5 3) (fY s5 0)) (sq (.block 1 (sq (r1 [gm s0,gm s4,ga 1 l0 l1,gd l2,aO l3 cse] 6 4) (.cond s6 (sq (r1 [gm dj] 2 0) .ret) .skip))) (r1 [gm s4,ay l0 ch,gm l1] 4 2)))))) (sq (r1 [gm ou] 2 0) .ret))))⟩
def w474 {Y:Ctx}(hm:(Y.at 0).bz)  (l:List aq)(n:Nat)   :dV Y IA (.bool (uc l n)) [.sl 1 (l.map D.str),.int .i64 (n:Nat)]:=by
 show bX _ _ _ [⟨_,_⟩,⟨_,_⟩,_,_,_,_,_] _;refine au ?_;refine aK ?_;intro u0;refine aB ?_;refine cT (fun hc0=>?_) fun hc0=>?_
 ·refine aT ?_;refine b7 ?_;rw[Dc,cJ ae];rfl
 refine aT ?_;refine bw hm (ι:=Nat) (fun i=>[⟨true,.sl 1 (l.map D.str)⟩,⟨true,.int .i64 (n:Nat)⟩,⟨true,.bool false⟩,.un,⟨true,.int .i64 (i:Nat)⟩,.un,.un]) (fun i=>[]) 6 (fun i=>i<=l.length/\uc l n=cO (fun i=>!decide (l[i]! =[])) i l.length) (fun i=>l.length-i) 0 ⟨ae,by rw[Dc,bS ae];rfl⟩ (dS []) ?_;rintro i ⟨hi,hr⟩;refine aT ?_;intro u1;refine aA ?_;refine cT (fun hc1=>?_) fun hc1=>?_
 ·refine aT ?_;refine cg i (hb:=fun _=>ae) ?_;refine cb (v:=.str l[i]!) (hi:=fun _=>ae) ?_;refine aA ?_;refine gN (fun hc2=>?_) fun hc2=>?_
  ·refine aK ?_;refine b7 ?_;rw[hr,aX ae,bS hc2];rfl
  refine bY ?_;exact⟨i+1,⟨ae,by rw[hr,aX ae,cJ hc2];rfl⟩,ae,(dS [])⟩
 refine aK ?_;refine b7 ?_;rw[hr,cj ae]
def Pe (Y:Ctx):Prop:=∀(l:List aq)(n:Nat),Y.pre 474 [.sl 1 (l.map D.str),.int .i64 (n:Nat)]/\Y.val 474 [.sl 1 (l.map D.str),.int .i64 (n:Nat)]=.bool (uc l n)
def Dy:aJ:=⟨1,6,[⟨1,none⟩,⟨2,none⟩],[[.sl 1 [.a]],[.a]],(sq (rg [gm (.c (.aC)),gm dj] [(1,0),(2,1)]) (sq (r1 [gm s0,gx 470 [l0,(i8 10)] iB,gm l1] 3 2) (sq (r1 [gm s3,gl l0,eH l1 ch,gm l2] 4 3) (sq (sq (r1 [gm s3,gm s4,ga 1 l0 l1,gd l2,aO l3 cse] 5 4) (.cond s5 (sq (rg [gm s3,gm s4,gn (.slA 1 l0 none (some l1)),gm l2,gm ou] [(1,3),(2,4)]) .ret) .skip)) (sq (rg [gm s3,gm l0,gm dj] [(1,1),(2,2)]) .ret)))))⟩
def w223 {Y:Ctx}(hm:(Y.at 0).bz)(h470:xe Y)(s:aq)  (hp0:s.length<=1048576):dV Y Dy (.tup [.sl 1 ((im s).1.map D.str),.bool (im s).2]) [.str s]:=by
 show bX _ _ _ [⟨_,_⟩,_,_,_,_,_] _;have hsp:1<=(ai s 10).length:=fq 10 s [];have hsl:=de s 10;refine au ?_;refine aT ?_;refine ar (v:=.sl 1 ((ai s 10).map D.str)) (hc:=h470 s 10 hp0) ?_;refine aT ?_;intro u0;refine br ?_;refine cg ((ai s 10).length-1) (hj:=fun _=>ae) (hb:=fun _=>ae) ?_;refine cb (v:=.str (ai s 10)[(ai s 10).length-1]!) (hi:=fun _=>ae) ?_;refine aA ?_;refine cT (fun hc0=>?_) fun hc0=>?_
 ·refine aA ?_;have hlx:im s=(((ai s 10).take ((ai s 10).length-1)),true):=by unfold im;rw[av hc0]
  rw[hlx];refine aA ?_;refine py ((ai s 10).length-1) (hj:=fun _=>ae) (hb:=fun _=>ae) ?_;refine aG ?_;refine b8 (aU ?_ ?_);all_goals rfl
 refine aA ?_;have hlx:im s=((ai s 10),false):=by unfold im;rw[aj hc0]
 rw[hlx];refine aT ?_;refine b8 (aU ?_ ?_);all_goals rfl
def RL (Y:Ctx):Prop:=∀(s:aq),(s.length<=1048576)->Y.pre 223 [.str s]/\Y.val 223 [.str s]=.tup [.sl 1 ((im s).1.map D.str),.bool (im s).2]
end Go.Abs
section
namespace Go.Abs
def vu (t:aq)(n:Nat)(h:(fO t n).2.2=true):(fO t n).1.length=n:=by
 unfold fO at h⊢;split
 ·rename_i hr;unfold tl at hr;simp only[bh,aS]at hr;simp only[dq];omega
 ·rename_i hr;rw[aj hr]at h;cases h
def yF (t:aq)(n:Nat):∀w∈(fO t n).1,w.length<=t.length:=by
 unfold fO;split
 ·intro w hw;exact en t 32 (m8 hw)
 ·intro w hw;cases hw
def lD (j:Nat)(n:ba):D:=.agg [.own j 4 0 n.any.length,.str n.when',.str n.option]
def et (j:Nat):List ba->List D
 |[]=>[]
 |[n]=>[lD j n]
 |a::b::r=>ba.D a::et j (b::r)
def mS:List ba->List D
 |[]=>[]
 |[n]=>n.any.map bD.N
 |_::b::r=>mS (b::r)
def gC (j:Nat)(n:ba):∀N:List ba,et j (N++[n])=N.map ba.D++[lD j n]
 |[]=>rfl
 |[a]=>rfl
 |a::b::r=>by
  have:=gC j n (b::r);simp only[fu,List.map_cons]at this⊢;simp only[et,this]
def jt (n:ba):∀N:List ba,mS (N++[n])=n.any.map bD.N
 |[]=>rfl
 |[a]=>rfl
 |a::b::r=>by
  have:=jt n (b::r);simp only[fu]at this⊢;simp only[mS,this]
def r9 {α:Type}{l:List α}(h:l≠[]):∃a x,l=a++[x]:=⟨l.dropLast,l.getLast h,(List.dropLast_concat_getLast h).symm⟩
def n5 {α:Type}(l:List α)(a d:α)(n:Nat)(h:n=l.length):(l++[a]).getD n d=a:=by subst h;simp[List.getD]
def rz {α:Type}(l:List α)(a b:α)(n:Nat)(h:n=l.length):(l++[a]).set n b=l++[b]:=by subst h;simp
def nP (nm:aq)(v:cM)(a b c:Nat)(st:Int)(j1 j3 j4:Nat):D:=.agg [.str nm,.int .i64 v.major,.int .i64 v.minor,.int .i64 v.patch,.str v.pre,.str v.build,.own j1 3 0 a,.own j3 3 0 b,.own j4 2 0 c,.int .i64 st]
def PZ (x:iX)(j0 j1 j2 j3 j4:Nat):List (Nat×bV):=[(j0,.buf 10 [nP x.r.name x.r.v x.r.needs.length x.r.bars.length x.r.feats.length (x.st:Nat) j1 j3 j4]),(j1,.buf 3 (et j2 x.r.needs)),(j2,.buf 4 (mS x.r.needs)),(j3,.buf 3 (x.r.bars.map fh.D)),(j4,.buf 2 (x.r.feats.map bF.D))]
structure ME (m:List (Nat×bV))(x:iX)(j0 j1 j2 j3 j4:Nat):Prop where
 a0:look m j0=some (.buf 10 [nP x.r.name x.r.v x.r.needs.length x.r.bars.length x.r.feats.length (x.st:Nat) j1 j3 j4])
 a1:look m j1=some (.buf 3 (et j2 x.r.needs))
 a2:look m j2=some (.buf 4 (mS x.r.needs))
 a3:look m j3=some (.buf 3 (x.r.bars.map fh.D))
 a4:look m j4=some (.buf 2 (x.r.feats.map bF.D))
def sV (a b c d e:Nat):Bool:=!(Nat.beq a b ||Nat.beq a c ||Nat.beq a d ||Nat.beq a e ||Nat.beq b c ||Nat.beq b d ||Nat.beq b e ||Nat.beq c d ||Nat.beq c e ||Nat.beq d e)
def uz (o:Option iX)(j0 L:Nat):List (Nat×bV):=match o with
 |some y=>PZ y j0 L (L+1) (L+2) (L+3)
 |none=>[]
def Ci (m:List (Nat×bV))(j0 j1 j2 j3 j4:Nat):List (Nat×bV):=cD (cD (cD (cD (cD m j0) j1) j2) j3) j4
def P0 (out:Option iX):D->List (Nat×bV)->Prop:=fun d m=>d=.bool out.isSome/\∀y,out=some y->∃j1 j2 j3 j4,sV 0 j1 j2 j3 j4=true/\ME m y 0 j1 j2 j3 j4
def T8 (Y:Ctx)(n:Nat)(afB:List D)(x:iX)(out:Option iX):Prop:=∀(nx j0 j1 j2 j3 j4:Nat)(m:List (Nat×bV))(K:D->St->Prop),ME m x j0 j1 j2 j3 j4->sV j0 j1 j2 j3 j4=true->(j0<nx/\j1<nx/\j2<nx/\j3<nx/\j4<nx)->
 K (.bool out.isSome) ⟨nx+4,uz out j0 nx++Ci m j0 j1 j2 j3 j4⟩->Y.tr n (.ptr j0 10 0 0::afB) ⟨nx,m⟩ K
def iX.ok (x:iX):Prop:=(x.st=0->x.r.needs=[]/\x.r.bars=[]/\x.r.feats=[])/\((x.st=2\/x.st=3)->x.r.needs≠[])/\(x.st=5->x.r.bars≠[])
def sF (l:List ba):Nat:=(l.getLast?.map fun n=>n.any.length).getD 0
def iX.sz (x:iX):Nat:=x.r.needs.length+x.r.bars.length+x.r.feats.length+sF x.r.needs
def pW (N:List ba)(n:ba):sF (N++[n])=n.any.length:=by simp[sF]
def qR (x:iX)(l:List aq):Option iX:=if(l.length=3/\l[0]! =dL)/\l[1]! ≠[]then(match fK l[2]! with
 |some v=>some ⟨⟨l[1]!,v,x.r.needs,x.r.bars,x.r.feats⟩,1⟩
 |none=>none)else none
def Gj {x:iX}(h:x.ok)(h0:x.st=0)(l:List aq):qR x l=xO l:=by
 obtain⟨h1,h2,h3⟩:=h.1 h0;unfold qR xO;rw[h1,h2,h3];by_cases hc:(l.length=3/\l[0]! =dL)/\l[1]! ≠[]
 ·rw[av hc,av hc];cases hv:fK l[2]! <;>simp only[hv]
 ·rw[aj hc,aj hc]
def lH:∀N:List ba,bx (mS N)=true
 |[]=>rfl
 |[a]=>bJ bD.ow _
 |a::b::r=>lH (b::r)
end Go.Abs
namespace Go.Abs
def uZ (l k:Nat)(es:List D)(hl:l≠2):∀N:List ba,iK l k es (et 2 N)=et 2 N
 |[]=>rfl
 |[n]=>by simp only[et,lD,iK,hY,show ¬2=l from fun e=>hl e.symm,cL,aI]
 |a::b::r=>by
  have:=uZ l k es hl (b::r);have ha:hY l k es (ba.D a)=ba.D a:=rfl;simp only[et,iK,this,ha]
def uN (l k:Nat)(es:List D)(N:List ba):iK l k es (mS N)=mS N:=pR l k es _ (lH N)
def sW (l k:Nat)(es:List D)(B:List fh):iK l k es (B.map fh.D)=B.map fh.D:=pR l k es _ (bJ (fun _=>rfl) _)
def sX (l k:Nat)(es:List D)(Z:List bF):iK l k es (Z.map bF.D)=Z.map bF.D:=pR l k es _ (bJ (fun _=>rfl) _)
end Go.Abs
end
namespace Go.Abs
section
def Jz (ob:Ch):Prop:=∀(σ:List (Nat×Nat))(l l':Nat)(w:List aq)(n:Nat)(b:Bool),m5 0 σ l=some l'->tm 0 σ (ob w (.own l 5 0 n) b)=some (ob w (.own l' 5 0 n) b)
def q9:Jz ix:=fun σ l l' w n b h=>by simp only[ix,tm,p0,Eg,h]
def tk (W:List aq):Jz (iV W):=fun σ l l' w n b h=>by simp only[iV,tm,p0,Eg,h]
def LD:D->Nat
 | .agg [.sl _ ws,_,_]=>ws.length
 | .agg [.sl _ ws,.int _ i,_,_]=>ws.length-i.toNat
 |_=>0
def Bw (c:List D->Nat)(ds:List D)(st:St):Nat:=match ds with
 | .ptr l _ _ _::afB=>(match look st.m l with
  |some (.buf _ [o])=>6*LD o+c afB
  |_=>0)
 |_=>0
def NR (w:List aq)(X:D)(b:Bool):LD (ix w X b)=w.length:=by simp[LD,ix]
def NS {W w:List aq}(h:w<:+W)(X:D)(b:Bool):LD (iV W w X b)=w.length:=by
 have:=h.length_le;simp only[LD,iV,bI,Int.toNat_natCast];omega
def oe {c:List D->Nat}{l k nx:Nat}{afB:List D}{m:List (Nat×bV)}{w:List aq}{X:D}{b:Bool}(h:look m l=some (.buf k [ix w X b])):Bw c (.ptr l k 0 0::afB) ⟨nx,m⟩=6*w.length+c afB:=by
 simp only[Bw,h,NR]
def td {c:List D->Nat}{l k nx:Nat}{afB:List D}{m:List (Nat×bV)}{W w:List aq}{X:D}{b:Bool}(hw:w<:+W)(h:look m l=some (.buf k [iV W w X b])):Bw c (.ptr l k 0 0::afB) ⟨nx,m⟩=6*w.length+c afB:=by
 simp only[Bw,h,NS hw]
def EZ (nd:List Nd):bx (nd.map Nd.D)=true:=bJ (fun _=>rfl) _
section
variable [dy] {P:Program} {ν:List (Nat×Nat)} {cQ:List Nat} {t:List (Nat×sf)} {fid n key u k:Nat} {af:aJ} {ob:Ch} {afB:List D} {w:List aq} {nd:List Nd} {b:Bool} {lp ln nx:Nat} {m:List (Nat×bV)} {K:D->St->Prop} {Pp:PO->Prop} {V:PO->D}
def K2 (hob:Jz ob)(hk5:k≠5)(has:bx afB=true)(h1:look m lp=some (.buf k [ob w (.own ln 5 0 nd.length) b]))(h2:look m ln=some (.buf 5 (nd.map Nd.D))):
  lp≠ln/\(∀i,i<(D.ptr lp k 0 0::afB).length->Mb 0 [(lp,0),(ln,1)] ((D.ptr lp k 0 0::afB).getD i .any) ((D.ptr 0 k 0 0::afB).getD i .any))/\iy 0 2 [(lp,0),(ln,1)]=true/\(∀l i,(l,i)∈[(lp,0),(ln,1)]->look m l≠none)/\
   ∀i bb,look [(0,.buf k [ob w (.own 1 5 0 nd.length) b]),(1,.buf 5 (nd.map Nd.D))] i=some bb->∃l b',(l,i)∈[(lp,0),(ln,1)]/\look m l=some b'/\se 0 [(lp,0),(ln,1)] b' bb:=by
 have hne:lp≠ln:=by
  rintro rfl;rw[h1]at h2;exact hk5 (bV.buf.inj (bC h2)).1
 have hb:Nat.beq lp ln=false:=by cases h:Nat.beq lp ln with
  |false=>rfl
  |true=>exact absurd (Nat.eq_of_beq_eq_true h) hne
 have hb':Nat.beq ln lp=false:=by cases h:Nat.beq ln lp with
  |false=>rfl
  |true=>exact absurd (Nat.eq_of_beq_eq_true h).symm hne
 refine⟨hne,fun i hi=>?_, ?_,fun l i h=>?_,fun i bb h=>?_⟩
 ·match i with
  |0=>exact .inr (.inl (by simp[tm,Eg,m5]))
  |i+1=>exact .inl ⟨rfl,dk has i⟩
 ·simp[iy,hb,hb'];rfl
 ·rcases dr.1 h with h|h
  ·obtain⟨rfl,rfl⟩:=Prod.mk.inj h;rw[h1];simp
  ·obtain⟨rfl,rfl⟩:=Prod.mk.inj (cK.1 h);rw[h2];simp
 ·simp only[look]at h;split at h
  ·rename_i e;subst e;obtain rfl:=bC h;exact⟨lp,_,.head _,h1,rfl,.inr (.inl (by simp only[p0,hob _ ln 1 w nd.length b (show m5 0 [(lp,0),(ln,1)] ln=some 1 by simp[m5,hb])]))⟩
  ·split at h
   ·rename_i e;subst e;obtain rfl:=bC h;exact⟨ln,_,.tail _ (.head _),h2,rfl,.inl ⟨rfl,EZ nd⟩⟩
   ·cases h
def gz (hob:Jz ob)(hk5:k≠5)(has:bx afB=true)(hV:∀o,(V o).bG=true)(hmix:P.follows .mixedOrders=true)(hC:I9 P ν cQ fid af)(hnp:afB.length+1=af.np)
  (h1:look m lp=some (.buf k [ob w (.own ln 5 0 nd.length) b])) (h2:look m ln=some (.buf 5 (nd.map Nd.D))) (h3:lp<nx) (h4:ln<nx)
  (hK:∀o,Pp o->K (V o) ⟨nx+1,(nx,.buf 5 (o.nd.map Nd.D))::du (cD m ln) lp (.buf k [ob o.w (.own nx 5 0 o.nd.length) o.bad])⟩)
  (hw:bX ((under t key u).at 2) af.body (lu af (wg k ob Pp V)) (fI af (.ptr 0 k 0 0::afB)) ⟨2,[(0,.buf k [ob w (.own 1 5 0 nd.length) b]),(1,.buf 5 (nd.map Nd.D))]⟩):p9 P ν cQ (under t key u) fid (.ptr lp k 0 0::afB) ⟨nx,m⟩ K:=by
 obtain⟨hne,g2,g3,g4,g5⟩:=K2 hob hk5 has h1 h2;refine Ae (σi:=[(lp,0),(ln,1)]) (cs:=.ptr 0 k 0 0::afB) (fun q=>aV t key u q) hmix hC aN g2 (by simpa using hnp) g3 g4 g5 hw ?_;rintro d m1 ⟨o,j,hj,hP,rfl,e0,ej⟩;have hb0:Nat.beq 0 j=false:=by cases j<;>first|omega|rfl
 have hbj:Nat.beq j 0=false:=by cases j<;>first|omega|rfl
 have hbl:Nat.beq lp nx=false:=by cases h:Nat.beq lp nx with
  |false=>rfl
  |true=>have:=Nat.eq_of_beq_eq_true h;omega
 have hbl':Nat.beq nx lp=false:=by cases h:Nat.beq nx lp with
  |false=>rfl
  |true=>have:=Nat.eq_of_beq_eq_true h;omega
 refine⟨[(0,lp),(j,nx)],j+1,_,V o,⟨g3, ?_,Nat.le_succ _,g4, ?_,g5, ?_⟩,.inl ⟨rfl,hV o⟩,hK o hP⟩
 ·simp[iy,hbj,hb0,hbl,hbl'];omega
 ·intro i l h;rcases dr.1 h with h|h
  ·obtain⟨rfl,rfl⟩:=Prod.mk.inj h;exact .inl (.head _)
  ·obtain⟨rfl,rfl⟩:=Prod.mk.inj (cK.1 h);exact .inr (aM _)
 ·intro l bb h;simp only[look]at h;split at h
  ·rename_i e;subst e;obtain rfl:=bC h;exact .inl ⟨j,_,.tail _ (.head _),ej,rfl,.inl ⟨rfl,EZ _⟩⟩
  ·rename_i hln;rw[cF]at h;split at h
   ·rename_i e;subst e;obtain rfl:=bC h;exact .inl ⟨0,_,.head _,e0,rfl,.inr (.inl (by simp only[p0,hob _ j nx o.w o.nd.length o.bad (show m5 0 [(0,l),(j,nx)] j=some nx by simp[m5,hb0])]))⟩
   ·rename_i hlp;rw[gy]at h;split at h
    ·cases h
    ·rename_i hl2;refine .inr ⟨by simp only[nA,aj (fun e=>hlp (Eq.symm e)),aj hln],fun i hi=>?_,h⟩;rcases dr.1 hi with hi|hi
     ·exact hlp (Prod.mk.inj hi).1
     ·exact hl2 (Prod.mk.inj (cK.1 hi)).1
def vj (hob:Jz ob)(hk5:k≠5)(has:bx afB=true)(hV:∀o,(V o).bG=true)(hmix:P.follows .mixedOrders=true)(hC:I9 P ν cQ fid af)(hnp:afB.length+1=af.np)
  (h1:look m lp=some (.buf k [ob w (.own ln 5 0 nd.length) b])) (h2:look m ln=some (.buf 5 (nd.map Nd.D))) (h3:lp<nx) (h4:ln<nx)
  (hK:∀o,Pp o->K (V o) ⟨nx,du m lp (.buf k [ob o.w (.own ln 5 0 nd.length) o.bad])⟩)
  (hw:bX ((under t key u).at 2) af.body (lu af (F2 k ob nd Pp V)) (fI af (.ptr 0 k 0 0::afB)) ⟨2,[(0,.buf k [ob w (.own 1 5 0 nd.length) b]),(1,.buf 5 (nd.map Nd.D))]⟩):p9 P ν cQ (under t key u) fid (.ptr lp k 0 0::afB) ⟨nx,m⟩ K:=by
 obtain⟨hne,g2,g3,g4,g5⟩:=K2 hob hk5 has h1 h2;refine Ae (σi:=[(lp,0),(ln,1)]) (cs:=.ptr 0 k 0 0::afB) (fun q=>aV t key u q) hmix hC aN g2 (by simpa using hnp) g3 g4 g5 hw ?_;rintro d m1 ⟨o,hP,rfl,e0,ej⟩;have hbl:Nat.beq lp ln=false:=by cases h:Nat.beq lp ln with
  |false=>rfl
  |true=>exact absurd (Nat.eq_of_beq_eq_true h) hne
 have hbl':Nat.beq ln lp=false:=by cases h:Nat.beq ln lp with
  |false=>rfl
  |true=>exact absurd (Nat.eq_of_beq_eq_true h).symm hne
 refine⟨[(0,lp),(1,ln)],2,⟨nx,du m lp (.buf k [ob o.w (.own ln 5 0 nd.length) o.bad])⟩,V o,⟨g3, ?_,aM _,g4, ?_,g5, ?_⟩,.inl ⟨rfl,hV o⟩,hK o hP⟩
 ·simp[iy,hbl,hbl'];exact⟨h3,rfl,h4⟩
 ·intro i l h;rcases dr.1 h with h|h
  ·obtain⟨rfl,rfl⟩:=Prod.mk.inj h;exact .inl (.head _)
  ·obtain⟨rfl,rfl⟩:=Prod.mk.inj (cK.1 h);exact .inl (.tail _ (.head _))
 ·intro l bb h;simp only at h;rw[cF]at h;split at h
  ·rename_i e;subst e;obtain rfl:=bC h;exact .inl ⟨0,_,.head _,e0,rfl,.inr (.inl (by simp only[p0,hob _ 1 ln o.w nd.length o.bad (show m5 0 [(0,l),(1,ln)] 1=some ln from rfl)]))⟩
  ·rename_i hlp;by_cases hl2:l=ln
   ·subst hl2;rw[h2]at h;obtain rfl:=bC h;exact .inl ⟨1,_,.tail _ (.head _),ej,rfl,.inl ⟨rfl,EZ _⟩⟩
   ·refine .inr ⟨by simp only[nA,aj (fun e=>hlp (Eq.symm e)),aj (fun e=>hl2 (Eq.symm e))],fun i hi=>?_,h⟩;rcases dr.1 hi with hi|hi
    ·exact hlp (Prod.mk.inj hi).1
    ·exact hl2 (Prod.mk.inj (cK.1 hi)).1
def qy {a b:Nat}(h:a≠b):Nat.beq a b=false:=by
 cases h2:Nat.beq a b with
 |false=>rfl
 |true=>exact absurd (Nat.eq_of_beq_eq_true h2) h
def yJ {m:List (Nat×bV)}{l lw:Nat}(h:l≠lw):gu (cD m lw) l=match look m l with
 |some (.bld (some l2) _ _)=>cD (cD m lw) l2
 |_=>cD m lw:=by
 haveI:dy:={gd:=fun _=>True,le:=fun _ _ _ _ _=>trivial}
 unfold gu;rw[gy,aj h];cases look m l with
 |none=>rfl
 |some b=>cases b with
  |bld o n u=>cases o<;>rfl
  |_=>rfl
def H8 {ws:List aq}{s:aq}{l lw:Nat}(hmix:P.follows .mixedOrders=true)(hC:I9 P ν cQ fid af)(hnp:2=af.np)
  (h1:sx m l s) (h2:look m lw=some (.buf 1 (ws.map D.str))) (h3:l<nx) (h4:lw<nx) (hK:K (.tup []) ⟨nx+1,qz (cD m lw) l nx (s++cw ws)⟩)
  (hw:∀m0,sx m0 0 s->look m0 1=some (.buf 1 (ws.map D.str))->bX ((under t key u).at 3) af.body (lu af (fun d m=>d=.tup []/\look m 0=some (.bld (some 9) (s++cw ws).length true)/\look m 9=some (.row (s++cw ws)))) (fI af [.ptr 0 2 0 0,.own 1 1 0 ws.length]) ⟨3,m0⟩):
  p9 P ν cQ (under t key u) fid [.ptr l 2 0 0,.own lw 1 0 ws.length] ⟨nx,m⟩ K:=by
 have hlw:l≠lw:=by
  rintro rfl;rcases h1 with⟨u,h,_⟩|⟨l2,u,h,_⟩<;>rw[h2]at h<;>cases h
 have hnl:bx (ws.map D.str)=true:=bJ (fun _=>rfl) _;have b1:=qy hlw;have b2:=qy (Ne.symm hlw);have b3:=qy (show l≠nx by omega);have b4:=qy (show nx≠l by omega)

 have fin:∀(σi:List (Nat×Nat)) (m0:List (Nat×bV)),iy 0 3 σi=true->(l,0)∈σi->(∀l i,(l,i)∈σi->look m l≠none)->(∀i b,look m0 i=some b->∃l b',(l,i)∈σi/\look m l=some b'/\se 0 σi b' b)->
   (∀l' b,look (gu (cD m lw) l) l'=some b->l'≠l->look m l'=some b/\∀i,(l',i)∉σi)->∀d m1,(d=.tup []/\look m1 0=some (.bld (some 9) (s++cw ws).length true)/\look m1 9=some (.row (s++cw ws)))->
   ∃(σo:List (Nat×Nat)) (q1:Nat) (st':St) (vd':D),Fr σi σo 3 q1 m0 m1 ⟨nx,m⟩ st'/\Mb 0 σo d vd'/\K vd' st':=by
  rintro σi m0 oki hm hlt hm0 hoff d m1 ⟨rfl,e0,e9⟩;refine⟨[(0,l),(9,nx)],10,⟨nx+1,qz (cD m lw) l nx (s++cw ws)⟩,.tup [],⟨oki, ?_,Nat.le_succ _,hlt, ?_,hm0, ?_⟩,.inl ⟨rfl,rfl⟩,hK⟩
  ·simp[iy,b3,b4];exact⟨ae,rfl⟩
  ·intro i l' h;rcases dr.1 h with h|h
   ·obtain⟨rfl,rfl⟩:=Prod.mk.inj h;exact .inl hm
   ·obtain⟨rfl,rfl⟩:=Prod.mk.inj (cK.1 h);exact .inr (aM _)
  ·intro l' bb h;simp only[qz,look]at h;split at h
   ·rename_i e;subst e;obtain rfl:=bC h;exact .inl ⟨9,_,.tail _ (.head _),e9,rfl⟩
   ·rename_i hln;rw[cF]at h;split at h
    ·rename_i e;subst e;obtain rfl:=bC h;exact .inl ⟨0,_,.head _,e0,⟨nx,rfl,rfl⟩,rfl,rfl⟩
    ·rename_i hl;obtain⟨g1,g2⟩:=hoff l' bb h hl;exact .inr ⟨by simp only[nA,aj (fun e=>hl (Eq.symm e)),aj hln],g2,g1⟩
 rcases h1 with⟨u,h1,rfl⟩|⟨l2,u,h1,h5⟩
 ·have g4:∀l' i,(l',i)∈[(l,0),(lw,1)]->look m l'≠none:=by
   intro l' i h;rcases dr.1 h with h|h
   ·obtain⟨rfl,rfl⟩:=Prod.mk.inj h;rw[h1];simp
   ·obtain⟨rfl,rfl⟩:=Prod.mk.inj (cK.1 h);rw[h2];simp
  have g3:iy 0 3 [(l,0),(lw,1)]=true:=by simp[iy,b1,b2];rfl
  have g5:∀i b,look [(0,bV.bld none 0 u),(1,.buf 1 (ws.map D.str))] i=some b->∃l' b',(l',i)∈[(l,0),(lw,1)]/\look m l'=some b'/\se 0 [(l,0),(lw,1)] b' b:=by
   intro i b h;simp only[look]at h;split at h
   ·rename_i e;subst e;obtain rfl:=bC h;exact⟨l,_,.head _,h1,rfl,rfl,rfl⟩
   ·split at h
    ·rename_i e;subst e;obtain rfl:=bC h;exact⟨lw,_,.tail _ (.head _),h2,rfl,.inl ⟨rfl,hnl⟩⟩
    ·cases h
  refine Ae (σi:=[(l,0),(lw,1)]) (cs:=[.ptr 0 2 0 0,.own 1 1 0 ws.length]) (fun q=>aV t key _ q) hmix hC rfl ?_ hnp g3 g4 g5 (hw _ (.inl ⟨u,rfl,rfl⟩) rfl) (fin _ _ g3 (.head _) g4 g5 ?_)
  ·intro i hi
   match i,hi with
   |0,_=>exact .inr (.inl (by simp[tm,Eg,m5]))
   |1,_=>exact .inr (.inl (by simp[tm,Eg,m5,b1]))
  ·intro l' b h hl;rw[yJ hlw]at h;simp only[h1]at h;rw[gy]at h;split at h
   ·cases h
   ·rename_i hw';refine⟨h,fun i hi=>?_⟩;rcases dr.1 hi with hi|hi
    ·exact hl (Prod.mk.inj hi).1
    ·exact hw' (Prod.mk.inj (cK.1 hi)).1
 ·have c1:l2≠l:=by rintro rfl;rw[h1]at h5;cases h5
  have c2:l2≠lw:=by rintro rfl;rw[h2]at h5;cases h5
  have d1:=qy c1;have d2:=qy c2;have d3:=qy (Ne.symm c1);have d4:=qy (Ne.symm c2);have g4:∀l' i,(l',i)∈[(l,0),(lw,1),(l2,2)]->look m l'≠none:=by
   intro l' i h;rcases dr.1 h with h|h
   ·obtain⟨rfl,rfl⟩:=Prod.mk.inj h;rw[h1];simp
   ·rcases dr.1 h with h|h
    ·obtain⟨rfl,rfl⟩:=Prod.mk.inj h;rw[h2];simp
    ·obtain⟨rfl,rfl⟩:=Prod.mk.inj (cK.1 h);rw[h5];simp
  have g3:iy 0 3 [(l,0),(lw,1),(l2,2)]=true:=by simp[iy,b1,b2,d1,d2,d3,d4];exact⟨⟨rfl,rfl⟩,rfl⟩
  have g5:∀i b,look [(0,bV.bld (some 2) s.length u),(1,.buf 1 (ws.map D.str)),(2,.row s)] i=some b->∃l' b',(l',i)∈[(l,0),(lw,1),(l2,2)]/\look m l'=some b'/\se 0 [(l,0),(lw,1),(l2,2)] b' b:=by
   intro i b h;simp only[look]at h;split at h
   ·rename_i e;subst e;obtain rfl:=bC h;exact⟨l,_,.head _,h1,⟨2,by simp[m5,d3,d4],rfl⟩,rfl,rfl⟩
   ·split at h
    ·rename_i e;subst e;obtain rfl:=bC h;exact⟨lw,_,.tail _ (.head _),h2,rfl,.inl ⟨rfl,hnl⟩⟩
    ·split at h
     ·rename_i e;subst e;obtain rfl:=bC h;exact⟨l2,_,.tail _ (.tail _ (.head _)),h5,rfl⟩
     ·cases h
  refine Ae (σi:=[(l,0),(lw,1),(l2,2)]) (cs:=[.ptr 0 2 0 0,.own 1 1 0 ws.length]) (fun q=>aV t key _ q) hmix hC rfl ?_ hnp g3 g4 g5 (hw _ (.inr ⟨2,u,rfl,rfl⟩) rfl) (fin _ _ g3 (.head _) g4 g5 ?_)
  ·intro i hi
   match i,hi with
   |0,_=>exact .inr (.inl (by simp[tm,Eg,m5]))
   |1,_=>exact .inr (.inl (by simp[tm,Eg,m5,b1]))
  ·intro l' b h hl;rw[yJ hlw]at h;simp only[h1]at h;rw[gy]at h;split at h
   ·cases h
   ·rename_i hw2;rw[gy]at h;split at h
    ·cases h
    ·rename_i hw';refine⟨h,fun i hi=>?_⟩;rcases dr.1 hi with hi|hi
     ·exact hl (Prod.mk.inj hi).1
     ·rcases dr.1 hi with hi|hi
      ·exact hw' (Prod.mk.inj hi).1
      ·exact hw2 (Prod.mk.inj (cK.1 hi)).1
end
end
def wx {α:Type}{f:α->D}(hf:∀x y,f x=f y↔x=y):∀a b:List α,a.map f=b.map f↔a=b
 |[],[]=>aN
 |[],_::_=>aN
 |_::_,[]=>aN
 |x::a,y::b=>by simp only[List.map_cons,jq,hf,wx hf a b]
def Na (a b:Nat):((a:Nat):Int)=(b:Nat)↔a=b:=ae
def iU8 (x y:UInt8):((x.toNat:Nat):Int)=(y.toNat:Nat)↔x=y:=(Na _ _).trans jo
def HW (a b:List aq):a.map D.str=b.map D.str↔a=b:=wx (fun _ _=>aN) a b
def iInt (a b:List Int):a.map (D.int .i64)=b.map (D.int .i64)↔a=b:=wx (fun _ _=>aN) a b
def iByt (a b:aq):(a.map fun c=>D.int .u8 c.toNat)=(b.map fun c=>D.int .u8 c.toNat)↔a=b:=wx (fun x y=>by rw[D.int.injEq,iU8];simp) a b
def iVer (a b:cM):cM.D a=cM.D b↔a=b:=by cases a;cases b;simp[cM.D]
def OH (a b:bD):bD.D a=bD.D b↔a=b:=by cases a;cases b;simp[bD.D,HW]
def Kf (a b:List bD):a.map bD.D=b.map bD.D↔a=b:=wx OH a b
def OG (a b:ba):ba.D a=ba.D b↔a=b:=by cases a;cases b;simp[ba.D,Kf]
def Ke (a b:List ba):a.map ba.D=b.map ba.D↔a=b:=wx OG a b
def Ug (a b:fh):fh.D a=fh.D b↔a=b:=by cases a;cases b;simp[fh.D]
def OC (a b:List fh):a.map fh.D=b.map fh.D↔a=b:=wx Ug a b
def OE (a b:bF):bF.D a=bF.D b↔a=b:=by cases a;cases b;simp[bF.D,HW]
def Kd (a b:List bF):a.map bF.D=b.map bF.D↔a=b:=wx OE a b
def iRec (a b:Rec):Rec.D a=Rec.D b↔a=b:=by
 obtain⟨n,⟨v1,v2,v3,v4,v5⟩,x,y,z⟩:=a;obtain⟨n',⟨w1,w2,w3,w4,w5⟩,x',y',z'⟩:=b;simp[Rec.D,Ke,OC,Kd,and_assoc]
def Uh (a b:cZ):cZ.D a=cZ.D b↔a=b:=by
 obtain⟨n,p,v1,v2,v3,v4,v5⟩:=a;obtain⟨n',p',w1,w2,w3,w4,w5⟩:=b;simp[cZ.D]
def OD (a b:List cZ):a.map cZ.D=b.map cZ.D↔a=b:=wx Uh a b
def iNd (a b:Nd):Nd.D a=Nd.D b↔a=b:=by cases a;cases b;simp[Nd.D]
def Ui (a b:List Nd):a.map Nd.D=b.map Nd.D↔a=b:=wx iNd a b
def Qk (a b:Alt):qw a=qw b↔a=b:=by simp[qw,OD]
def iRng (a b:sy):eL a=eL b↔a=b:=by simp[eL,wx Qk]
def Uf (a b:List Alt):a.map qw=b.map qw↔a=b:=wx Qk a b
def iMrk (a b:F1):gT a=gT b↔a=b:=by simp[gT,Ui]
def iLd (a b:Ld):Ld.D a=Ld.D b↔a=b:=by cases a;cases b;simp[Ld.D,HW,Na]
def iPr (w w':List aq)(x x':D)(b b':Bool):ix w x b=ix w' x' b'↔w=w'/\x=x'/\b=b':=by simp[ix,HW]
def bN {A:RT->Prop}(h:A (fun ds d=>A fun ds' d'=>ds'=ds->d=d'):=by
 (repeat' first|apply And.intro|intro _)
 all_goals rename_i e
 all_goals (try simp only[jq,D.str.injEq,D.int.injEq,D.bool.injEq,D.sl.injEq,D.ref.injEq,D.agg.injEq,HW,iInt,iByt,iVer,OH,Kf,OG,Ke,Ug,OC,OE,Kd,iRec,Uh,OD,iNd,Ui,Qk,iRng,Uf,iMrk,iPr,iU8,jo,Na,b9,bU,reduceCtorEq,cN,cL]at e)
 all_goals first|rfl|(simp only[e];done)|simp_all):SZ (Bu A):=Qb h
def MO {A:FT->Prop}(h:A (fun d ds v s=>A fun d' ds' v' s'=>d'=d->ds'=ds->v=v'/\s=s'):=by
 (repeat' first|apply And.intro|intro _)
 all_goals rename_i e' e
 all_goals (try simp only[jq,D.str.injEq,D.int.injEq,D.bool.injEq,D.sl.injEq,iLd,HW,iU8,jo,Na,b9,bU]at e e')
 all_goals first|rfl|(simp only[e,e'];done)|simp_all):xf (oL A):=MP h
def mb:aJ:=⟨2,10,[⟨2,none⟩],ct,(sq (r1 [gm dj] 2 0) (sq (rg [gm s1,gx 475 [l0,sj] iB,gm l1,ge l2 0,ge l2 1,ge l2 2,gm l3,gm l4,gm l5] [(4,6),(6,7),(3,8)]) (sq (sq (r1 [gm s3,ke l0,gm l1,eU 2 s0,cE 2 (.nilck l3),jK 2 9 l4,jQ 2 l5,cE 2 (eM l6 jE),fF l2 l7,gm l8,eU 9 s4,cE 9 (.ia 1 l10 jL),jQ 9 gJ,cE 9 (eM iM (cs [98,97,114,101])),eU 9 jN,gmt 14 s4,cu 14 (.ia 1 lx jL),kd 14 n9,cu 14 (eM pV (cs [102,117,108,108])),Bo 9 ku qu,fF l9 sn] 5 20) (.cond s5 (sq (r1 [gm dj] 2 0) .ret) .skip)) (sq (r2 [gm s4,ga 1 l0 ch,gd l1,gm s6,gm s4,ga 1 l4 jL,gd l5,aO l6 (cs [98,97,114,101]),gn (.build [.str [],.str [],.aC,.bool false] [(0,1,l2),(1,1,l3),(3,1,l7)]),gb 4 (.c (.agg [.str [],.str [],.aC,.bool false])),gt 4 l9 l8] 8 9) (sq (sq (r1 [gm s4,ga 1 l0 jE,gd l1,cv l2 (cs [45])] 7 3) (.cond s7 (rg [gm s4,ga 1 l0 jE,gd l1,gx 470 [l2,(i8 44)] iB,gf 2 s8,gt 1 l4 l3] []) .skip)) (sq (r2 [gm s0,gc l0,gf 0 l1,gf 6 l2,gd l3,gm s0,gc l5,gf 0 l6,gf 6 l7,gd l8,gl l9,eH l10 ch,ga 3 l4 gJ,gm iM] 9 13) (sq (rt [gm s9,gm s9,gc l1,gf 0 l2,gd l3,gk 4 true s8,gn (.bsl 4 (.agg [.str [],.str [],.aC,.bool false]) 1 [(0,l5)]),gn (.app 4 l4 l6),gc l0,gf 0 l8,gt 1 l9 l7] []) (sq (r1 [gm ou] 2 0) .ret))))))))⟩
def w472 {Y:Ctx}(hm:(Y.at 5).bz)(t:aq)(nm:aq)(v:cM)(N:List ba)(B:List fh)(Z:List bF)(st:Nat)(h470:xe (Y.at 5))(h475:Mn (Y.at 5))(hp0:t.length<=1048576)(hp1:st=2->N≠[])(hp2:sF N<=1000000)(hp3:N.length<=1000000):bX (Y.at 5) mb.body (lu mb (P0 (uB ⟨⟨nm,v,N,B,Z⟩,st⟩ t)):Ex->List ca->St->Prop) (fI mb [.ptr 0 10 0 0,.str t]) ⟨5,[(0,.buf 10 [nP nm v N.length B.length Z.length ((st:Nat):Int) 1 3 4]),(1,.buf 3 (et 2 N)),(2,.buf 4 (mS N)),(3,.buf 3 (B.map fh.D)),(4,.buf 2 (Z.map bF.D))]⟩:=by
 show bX _ _ _ [⟨true,.ptr 0 10 0 0⟩,⟨true,.str t⟩,.un,.un,.un,.un,.un,.un,.un,.un] ⟨5,[(0,.buf 10 [nP nm v N.length B.length Z.length ((st:Nat):Int) 1 3 4]),(1,.buf 3 (et 2 N)),(2,.buf 4 (mS N)),(3,.buf 3 (B.map fh.D)),(4,.buf 2 (Z.map bF.D))]⟩;have hrl:=BV t 4;have hrn:=vu t 4;have hre:=yF t 4;obtain⟨⟨l,u,ok⟩,hq⟩:∃q,fO t 4=q:=⟨_,rfl⟩
 rw[hq]at hrl hrn hre;dsimp only at hrl hrn hre;refine au ?_;refine aG ?_;refine ar (v:=.tup [.sl 1 (l.map D.str),.str u,.bool ok]) (hc:=by have:=h475 t 4 hp0 aF;rw[hq]at this;exact this) ?_;refine aE ?_;refine fB (.sl _ _) ?_;refine sI ?_;refine bA (v:=.int .i64 ((st:Nat):Int)) ?_;refine aG ?_;refine cg 3 (hb:=fun hf=>by simp at hf;have hln:=hrn (by first|exact hf|exact hf.1|exact hf.1.1|exact hf.1.1.1);omega) ?_;refine cb (v:=.str l[3]!) (hi:=fun hf=>by simp at hf;have hln:=hrn (by first|exact hf|exact hf.1|exact hf.1.1|exact hf.1.1.1);omega) ?_;refine aB ?_;refine cg 3 (hb:=fun hf=>by simp at hf;have hln:=hrn (by first|exact hf|exact hf.1|exact hf.1.1|exact hf.1.1.1);omega) ?_;refine cb (v:=.str l[3]!) (hi:=fun hf=>by simp at hf;have hln:=hrn (by first|exact hf|exact hf.1|exact hf.1.1|exact hf.1.1.1);omega) ?_;refine aG ?_;refine aw (fun hc0=>?_) (fun hc0=>?_)
 ·simp only[cR,bh,bn,aS,bj]at hc0;have ho:uB ⟨⟨nm,v,N,B,Z⟩,st⟩ t=none:=by
   unfold uB;rw[hrl];rcases hc0 with(h|h)|⟨h1,h2⟩
   ·rw[h];rfl
   ·by_cases hk:ok=true
    ·rw[av hk];simp only;rw[aj (fun hh=>h ae)]
    ·rw[aj hk]
   ·by_cases hk:ok=true
    ·rw[av hk];simp only;rw[aj];rintro⟨_,hh⟩;unfold lC at hh;rw[cJ (show ¬l[3]! =dX from h1),cJ (show ¬l[3]! =mM from h2)]at hh;cases hh
    ·rw[aj hk]
  rw[ho];refine aT ?_;refine bZ trivial ek (bW ah (ak D.bool ?_)) ah ⟨rfl,fun y hy=>by cases hy⟩;rfl
 simp only[c9,dt,bP,aS,bj]at hc0;obtain⟨⟨hk,hst⟩,hho⟩:=hc0;obtain rfl:st=2:=ae;obtain⟨N,n,rfl⟩:=r9 (hp1 rfl);rw[gC,jt];rw[pW]at hp2;have hnl:(N++[n]).length=N.length+1:=aN;have hln:=hrn hk;have hlm:∀w∈l,w.length<=1048576:=fun w hw=>cW (hre w hw) hp0
 have hhow:lC l=true:=by
  unfold lC;rcases hho with h|h
  ·rw[bS (show l[3]! =dX from h)];rfl
  ·rw[bS (show l[3]! =mM from h),Bool.or_true]
 have ho:uB ⟨⟨nm,v,N++[n],B,Z⟩,2⟩ t=some ⟨⟨nm,v,N++[⟨n.any++[(⟨l[1]!,u,if l[2]! =[45]then []else ai l[2]! 44,decide (l[3]! =dX)⟩:bD)],n.when',n.option⟩],B,Z⟩,2⟩:=by
  unfold uB;rw[hrl,av hk];simp only;rw[av ⟨trivial,hhow⟩,eI]
 rw[ho];refine aB ?_;refine cg 1 (hb:=fun _=>ae) ?_;refine cb (v:=.str l[1]!) (hi:=fun _=>ae) ?_;refine aA ?_;refine cg 3 (hb:=fun _=>ae) ?_;refine cb (v:=.str l[3]!) (hi:=fun _=>ae) ?_;refine aE ?_;refine bo (.agg [.str l[1]!,.str u,.aC,.bool (decide (l[3]! =dX))]) ?_;refine aE ?_;refine aR (.agg [.str l[1]!,.str u,.aC,.bool (decide (l[3]! =dX))]) (he:=aZ) ?_;refine aG ?_;refine cg 2 (hb:=fun _=>ae) ?_;refine cb (v:=.str l[2]!) (hi:=fun _=>ae) ?_;refine aA ?_;refine cT (fun hc1=>?_) fun hc1=>?_
 ·refine aA ?_;refine cg 2 (hb:=fun _=>ae) ?_;refine cb (v:=.str l[2]!) (hi:=fun _=>ae) ?_;refine ar (v:=.sl 1 ((ai l[2]! 44).map D.str)) (hc:=h470 l[2]! 44 (hlm _ (bM ae))) ?_;refine aE ?_;refine aR (bD.N (⟨l[1]!,u,if l[2]! =[45]then []else ai l[2]! 44,decide (l[3]! =dX)⟩:bD)) (he:=by show _=D.agg [.str l[1]!,.str u,Nx (if l[2]! =[45]then []else ai l[2]! 44),.bool (decide (l[3]! =dX))];rw[aj hc1,KF (pD _ _)];exact rfl) ?_;refine aK ?_;refine bA (v:=.own 1 3 0 (N++[n]).length) ?_;refine aG ?_;refine bA (v:=.own 1 3 0 (N++[n]).length) ?_;refine js ?_;refine aE ?_;refine jG N.length (hj:=fun _=>aN) (hb:=fun _=>aN) ?_;refine br ?_;refine Lk (es:=N.map ba.D++[lD 2 n]) (.own 2 4 0 n.any.length) (hi:=fun _=>aN) (hv:=fun _=>by rw[n5 _ _ _ _ aN];exact rfl) ?_;refine c8 (d:=bD.N (⟨l[1]!,u,if l[2]! =[45]then []else ai l[2]! 44,decide (l[3]! =dX)⟩:bD)) ?_;refine c7 [bD.N (⟨l[1]!,u,if l[2]! =[45]then []else ai l[2]! 44,decide (l[3]! =dX)⟩:bD)] ?_;refine jg (q:=bD.N) (xs:=n.any) (e:=(⟨l[1]!,u,if l[2]! =[45]then []else ai l[2]! 44,decide (l[3]! =dX)⟩:bD)) ?_;refine aA ?_;refine uf (es:=N.map ba.D++[lD 2 n]) (N.map ba.D++[lD 78 ⟨n.any++[(⟨l[1]!,u,if l[2]! =[45]then []else ai l[2]! 44,decide (l[3]! =dX)⟩:bD)],n.when',n.option⟩]) (hi:=aN) (he:=by rw[n5 _ _ _ _ aN,rz _ _ _ _ aN];exact rfl) ?_;refine aT ?_;refine bZ trivial ek (bW ah (ak D.bool ?_)) ah ⟨rfl,fun y hy=>by cases hy;exact⟨1,78,3,4,aF,⟨(by have e:(N++[(⟨n.any++[(⟨l[1]!,u,if l[2]! =[45]then []else ai l[2]! 44,decide (l[3]! =dX)⟩:bD)],n.when',n.option⟩:ba)]).length=(N++[n]).length:=aN;show _=some (bV.buf 10 [nP nm v (N++[(⟨n.any++[(⟨l[1]!,u,if l[2]! =[45]then []else ai l[2]! 44,decide (l[3]! =dX)⟩:bD)],n.when',n.option⟩:ba)]).length B.length Z.length ((2:Nat):Int) 1 3 4]);rw[e];exact rfl),(by rw[gC];exact rfl),(by rw[jt];exact rfl),ah,ah⟩⟩⟩;rfl
 refine aA ?_;rw[show(D.agg [.str l[1]!,.str u,.aC,.bool (decide (l[3]! =dX))])=bD.N (⟨l[1]!,u,if l[2]! =[45]then []else ai l[2]! 44,decide (l[3]! =dX)⟩:bD)by show _=D.agg [.str l[1]!,.str u,Nx (if l[2]! =[45]then []else ai l[2]! 44),.bool (decide (l[3]! =dX))];rw[av hc1];rfl];refine aG ?_;refine bA (v:=.own 1 3 0 (N++[n]).length) ?_;refine aG ?_;refine bA (v:=.own 1 3 0 (N++[n]).length) ?_;refine js ?_;refine aE ?_;refine jG N.length (hj:=fun _=>aN) (hb:=fun _=>aN) ?_;refine br ?_;refine Lk (es:=N.map ba.D++[lD 2 n]) (.own 2 4 0 n.any.length) (hi:=fun _=>aN) (hv:=fun _=>by rw[n5 _ _ _ _ aN];exact rfl) ?_;refine c8 (d:=bD.N (⟨l[1]!,u,if l[2]! =[45]then []else ai l[2]! 44,decide (l[3]! =dX)⟩:bD)) ?_;refine c7 [bD.N (⟨l[1]!,u,if l[2]! =[45]then []else ai l[2]! 44,decide (l[3]! =dX)⟩:bD)] ?_;refine jg (q:=bD.N) (xs:=n.any) (e:=(⟨l[1]!,u,if l[2]! =[45]then []else ai l[2]! 44,decide (l[3]! =dX)⟩:bD)) ?_;refine aA ?_;refine uf (es:=N.map ba.D++[lD 2 n]) (N.map ba.D++[lD 72 ⟨n.any++[(⟨l[1]!,u,if l[2]! =[45]then []else ai l[2]! 44,decide (l[3]! =dX)⟩:bD)],n.when',n.option⟩]) (hi:=aN) (he:=by rw[n5 _ _ _ _ aN,rz _ _ _ _ aN];exact rfl) ?_;refine aT ?_;refine bZ trivial ek (bW ah (ak D.bool ?_)) ah ⟨rfl,fun y hy=>by cases hy;exact⟨1,72,3,4,aF,⟨(by have e:(N++[(⟨n.any++[(⟨l[1]!,u,if l[2]! =[45]then []else ai l[2]! 44,decide (l[3]! =dX)⟩:bD)],n.when',n.option⟩:ba)]).length=(N++[n]).length:=aN;show _=some (bV.buf 10 [nP nm v (N++[(⟨n.any++[(⟨l[1]!,u,if l[2]! =[45]then []else ai l[2]! 44,decide (l[3]! =dX)⟩:bD)],n.when',n.option⟩:ba)]).length B.length Z.length ((2:Nat):Int) 1 3 4]);rw[e];exact rfl),(by rw[gC];exact rfl),(by rw[jt];exact rfl),ah,ah⟩⟩⟩;rfl
def kY:aJ:=⟨2,8,[⟨2,none⟩],ct,(sq (r1 [gm dj] 2 0) (sq (rg [gm s1,gx 475 [l0,ch] iB,gm l1,ge l2 0,ge l2 1,ge l2 2,gm l3,gm l4,gm l5] [(6,7),(3,8)]) (sq (.block 0 (sq (r1 [gm s3,ke l0,gm l1] 4 2) (.cond s4 (sq (r1 [gm dj] 2 0) .ret) (sq (r1 [gm s0,gc l0,gf 9 l1,gd l2,aO l3 jE,gm l4] 5 5) (.cond s5 (sq (rt [gm s0,gc l0,gf 0 l1,gf 6 l2,gd l3,gm s0,gc l5,gf 0 l6,gf 6 l7,gd l8,gl l9,eH l10 ch,gm s0,gm s6,ga 3 l4 gJ,gf 1 ku,gt 1 lx jN,gc iM,gf 9 pV,gt 1 qu jL] []) (sq (r1 [gm ou] 2 0) .ret)) (sq (r1 [gm s0,gc l0,gf 9 l1,gd l2,aO l3 zx,gm l4] 7 5) (.cond s7 (sq (rt [gm s0,gc l0,gf 0 l1,gf 7 l2,gd l3,gm s0,gc l5,gf 0 l6,gf 7 l7,gd l8,gl l9,eH l10 ch,gm s0,gm s6,ga 3 l4 gJ,gf 2 ku,gt 1 lx jN,gc iM,gf 9 pV,gt 1 qu uv] []) (sq (r1 [gm ou] 2 0) .ret)) .skip))))))) (sq (r1 [gm dj] 2 0) .ret))))⟩
def w473 {Y:Ctx}(hm:(Y.at 5).bz)(t:aq)(nm:aq)(v:cM)(N:List ba)(B:List fh)(Z:List bF)(st:Nat)(h475:Mn (Y.at 5))(hp0:t.length<=1048576)(hp1:st=2->N≠[])(hp2:st=5->B≠[])(hp3:N.length<=1000000)(hp4:B.length<=1000000):bX (Y.at 5) kY.body (lu kY (P0 (oD ⟨⟨nm,v,N,B,Z⟩,st⟩ t)):Ex->List ca->St->Prop) (fI kY [.ptr 0 10 0 0,.str t]) ⟨5,[(0,.buf 10 [nP nm v N.length B.length Z.length ((st:Nat):Int) 1 3 4]),(1,.buf 3 (et 2 N)),(2,.buf 4 (mS N)),(3,.buf 3 (B.map fh.D)),(4,.buf 2 (Z.map bF.D))]⟩:=by
 show bX _ _ _ [⟨true,.ptr 0 10 0 0⟩,⟨true,.str t⟩,.un,.un,.un,.un,.un,.un] ⟨5,[(0,.buf 10 [nP nm v N.length B.length Z.length ((st:Nat):Int) 1 3 4]),(1,.buf 3 (et 2 N)),(2,.buf 4 (mS N)),(3,.buf 3 (B.map fh.D)),(4,.buf 2 (Z.map bF.D))]⟩;have hrl:=BV t 1;have hrn:=vu t 1;have hre:=yF t 1;obtain⟨⟨l,u,ok⟩,hq⟩:∃q,fO t 1=q:=⟨_,rfl⟩
 rw[hq]at hrl hrn hre;dsimp only at hrl hrn hre;refine au ?_;refine aG ?_;refine ar (v:=.tup [.sl 1 (l.map D.str),.str u,.bool ok]) (hc:=by have:=h475 t 1 hp0 aF;rw[hq]at this;exact this) ?_;refine aE ?_;refine fB (.sl _ _) ?_;refine jr ?_;refine wp_cond (fun hc0=>?_) (fun hc0=>?_)
 ·simp only[bn]at hc0;have ho:oD ⟨⟨nm,v,N,B,Z⟩,st⟩ t=none:=by unfold oD;rw[hrl,hc0];rfl
  rw[ho];refine aT ?_;refine bZ trivial ek (bW ah (ak D.bool ?_)) ah ⟨rfl,fun y hy=>by cases hy⟩;rfl
 simp only[bP]at hc0;have hw:oD ⟨⟨nm,v,N,B,Z⟩,st⟩ t=(if st=2 then some ⟨⟨nm,v,fU N fun n=>⟨n.any,u,n.option⟩,B,Z⟩,3⟩else if st=5 then some ⟨⟨nm,v,N,fU B fun b=>⟨b.name,b.range,u⟩,Z⟩,6⟩else none):=by
  unfold oD;rw[hrl,av hc0]
 refine aG ?_;refine bA (v:=.int .i64 ((st:Nat):Int)) ?_;refine aB ?_;refine wp_cond (fun hc1=>?_) (fun hc1=>?_)
 ·simp only[aS]at hc1;obtain rfl:st=2:=ae;obtain⟨N,n,rfl⟩:=r9 (hp1 rfl);have hnl:(N++[n]).length=N.length+1:=aN;rw[av rfl,eI]at hw;rw[hw,gC,jt];refine aT ?_;refine bA (v:=.own 1 3 0 (N++[n]).length) ?_;refine aG ?_;refine bA (v:=.own 1 3 0 (N++[n]).length) ?_;refine js ?_;refine aB ?_;refine jG N.length (hj:=fun _=>ae) (hb:=fun _=>ae) ?_;refine aE ?_;refine uf (es:=N.map ba.D++[lD 2 n]) (N.map ba.D++[lD 2 ⟨n.any,u,n.option⟩]) (hi:=aN) (he:=by rw[n5 _ _ _ _ aN,rz _ _ _ _ aN];exact rfl) ?_;refine aA ?_;refine aR (nP nm v (N++[n]).length B.length Z.length ((3:Nat):Int) 1 3 4) (he:=aZ) ?_;refine aK ?_;refine bZ trivial ek (bW ah (ak D.bool ?_)) ah ⟨rfl,fun y hy=>by cases hy;exact⟨1,2,3,4,aF,⟨(by have e:(N++[(⟨n.any,u,n.option⟩:ba)]).length=(N++[n]).length:=aN;show _=some (bV.buf 10 [nP nm v (N++[(⟨n.any,u,n.option⟩:ba)]).length B.length Z.length ((3:Nat):Int) 1 3 4]);rw[e];exact rfl),(by rw[gC];exact rfl),(by rw[jt];exact rfl),ah,ah⟩⟩⟩;rfl
 simp only[bj]at hc1;rw[aj (show ¬st=2 by omega)]at hw;refine aG ?_;refine bA (v:=.int .i64 ((st:Nat):Int)) ?_;refine aB ?_;refine wp_cond (fun hc2=>?_) (fun hc2=>?_)
 ·simp only[aS]at hc2;obtain rfl:st=5:=ae;obtain⟨B,b,rfl⟩:=r9 (hp2 rfl);have hbl:(B++[b]).length=B.length+1:=aN;rw[av rfl,eI]at hw;rw[hw];rw[List.map_append];refine aT ?_;refine bA (v:=.own 3 3 0 (B++[b]).length) ?_;refine aG ?_;refine bA (v:=.own 3 3 0 (B++[b]).length) ?_;refine js ?_;refine aB ?_;refine jG B.length (hj:=fun _=>ae) (hb:=fun _=>ae) ?_;refine aE ?_;refine uf (es:=B.map fh.D++[b].map fh.D) (B.map fh.D++[fh.D ⟨b.name,b.range,u⟩]) (hi:=aN) (he:=by rw[List.map_cons,List.map_nil,n5 _ _ _ _ aN,rz _ _ _ _ aN];exact rfl) ?_;refine aA ?_;refine aR (nP nm v N.length (B++[b]).length Z.length ((6:Nat):Int) 1 3 4) (he:=aZ) ?_;refine aK ?_;refine bZ trivial ek (bW ah (ak D.bool ?_)) ah ⟨rfl,fun y hy=>by cases hy;exact⟨1,2,3,4,aF,⟨(by have e:(B++[(⟨b.name,b.range,u⟩:fh)]).length=(B++[b]).length:=aN;show _=some (bV.buf 10 [nP nm v N.length (B++[(⟨b.name,b.range,u⟩:fh)]).length Z.length ((6:Nat):Int) 1 3 4]);rw[e];exact rfl),ah,ah,(by rw[List.map_append];exact rfl),ah⟩⟩⟩;rfl
 simp only[bj]at hc2;rw[aj (show ¬st=5 by omega)]at hw;rw[hw];refine aK ?_;refine bZ trivial ek (bW ah (ak D.bool ?_)) ah ⟨rfl,fun y hy=>by cases hy⟩;rfl
def jj:aJ:=⟨2,5,[⟨2,none⟩],ct,(sq (r1 [gm dj] 2 0) (sq (sq (r1 [gm s1,gl l0,a8 l1 jE,gm l2,eU 3 s1,eU 3 s1,cE 3 (.len l5),cE 3 (.call 474 [l4,l6] [[.sl 1 [.a]],[.a]]),cE 3 (.un .not l7),fF l3 l8] 3 9) (.cond s3 (sq (r1 [gm dj] 2 0) .ret) .skip)) (sq (r1 [gm s1,ga 1 l0 ch,gd l1,gn (.build [.str [],.aC] [(0,1,l2)]),gb 2 (.c (.agg [.str [],.aC])),gt 2 l4 l3] 4 4) (sq (rt [gf 1 s4,gd l0,gm s1,gn (.slA 1 l2 (some jE) none),gn (.app 1 l1 l3),gf 1 s4,gt 1 l5 l4] []) (sq (rt [gm s0,gm s0,gm s0,gc l2,gf 0 l3,gf 8 l4,gd l5,gk 2 true s4,gn (.bsl 2 (.agg [.str [],.aC]) 1 [(0,l7)]),gn (.app 2 l6 l8),gc l0,gf 0 l10,gf 8 gJ,gt 1 iM l9,gc l1,gf 9 ku,gt 1 lx HX] []) (sq (r1 [gm ou] 2 0) .ret))))))⟩
def w476 {Y:Ctx}(hm:(Y.at 5).bz)(l:List aq)(nm:aq)(v:cM)(N:List ba)(B:List fh)(Z:List bF)(st:Nat)(h474:Pe (Y.at 5))(hp0:l.length<=1048577)(hp1:Z.length<=1000000):bX (Y.at 5) jj.body (lu jj (P0 ((if 2<=l.length/\uc l l.length=true then some (⟨⟨nm,v,N,B,Z++[⟨l[1]!,l.drop 2⟩]⟩,7⟩:iX)else none))):Ex->List ca->St->Prop) (fI jj [.ptr 0 10 0 0,.sl 1 (l.map D.str)]) ⟨5,[(0,.buf 10 [nP nm v N.length B.length Z.length ((st:Nat):Int) 1 3 4]),(1,.buf 3 (et 2 N)),(2,.buf 4 (mS N)),(3,.buf 3 (B.map fh.D)),(4,.buf 2 (Z.map bF.D))]⟩:=by
 show bX _ _ _ [⟨true,.ptr 0 10 0 0⟩,⟨true,.sl 1 (l.map D.str)⟩,.un,.un,.un] ⟨5,[(0,.buf 10 [nP nm v N.length B.length Z.length ((st:Nat):Int) 1 3 4]),(1,.buf 3 (et 2 N)),(2,.buf 4 (mS N)),(3,.buf 3 (B.map fh.D)),(4,.buf 2 (Z.map bF.D))]⟩;refine au ?_;refine aK ?_;intro u0;refine aG ?_;refine js ?_;refine ar (hc:=h474 l l.length) ?_;refine aB ?_;refine aw (fun hc0=>?_) (fun hc0=>?_)
 ·simp only[cR,bn,aS]at hc0;have ho:(if 2<=l.length/\uc l l.length=true then some (⟨⟨nm,v,N,B,Z++[⟨l[1]!,l.drop 2⟩]⟩,7⟩:iX)else none)=none:=aj (by rintro⟨a,b⟩;rcases hc0 with h|h;omega;rw[b]at h;cases h);rw[ho];refine aT ?_;refine bZ trivial ek (bW ah (ak D.bool ?_)) ah ⟨rfl,fun y hy=>by cases hy⟩;rfl
 simp only[c9,bP,bj]at hc0;have h2l:2<=l.length:=ae;have ho:(if 2<=l.length/\uc l l.length=true then some (⟨⟨nm,v,N,B,Z++[⟨l[1]!,l.drop 2⟩]⟩,7⟩:iX)else none)=some (⟨⟨nm,v,N,B,Z++[⟨l[1]!,l.drop 2⟩]⟩,7⟩:iX):=av ⟨h2l,hc0.2⟩;rw[ho];refine aB ?_;refine cg 1 (hb:=fun _=>ae) ?_;refine cb (v:=.str l[1]!) (hi:=fun _=>ae) ?_;refine bo (.agg [.str l[1]!,.aC]) ?_;refine aE ?_;refine aR (.agg [.str l[1]!,.aC]) (he:=aZ) ?_;refine aB ?_;refine bA (v:=.aC) ?_;refine aE ?_;refine rl 2 (hb:=fun _=>ae) ?_;refine Lc (n:=(l.drop 2).length) (he:=sJ.sl) (hn:=by rw[bI]) (hb:=by rw[jn];omega) ?_;refine aE ?_;refine aR (.agg [.str l[1]!,.own 26 1 0 (l.drop 2).length]) (he:=aZ) ?_;refine aE ?_;refine eR 26 (he:=by simp only[ll,hY,iK,lO,mU,cD,Nat.reduceEqDiff,aH,aI,cr,bU,b9,cL,cN,bK,bI,aM,bR,aP,reduceCtorEq,ax,az,Nat.reduceAdd,Nat.reduceLeDiff,nP];exact rfl) (hm:=by simp only[ll,hY,iK,lO,mU,cD,Nat.reduceEqDiff,aH,aI,cr,bU,b9,cL,cN,bK,bI,aM,bR,aP,reduceCtorEq,ax,az,Nat.reduceAdd,Nat.reduceLeDiff,nP,uZ 26 _ _ aF,uN,sW,sX];exact rfl) ?_;refine br ?_;refine bA (v:=.own 4 2 0 Z.length) ?_;refine c8 (d:=bF.D ⟨l[1]!,l.drop 2⟩) ?_;refine c7 [bF.D ⟨l[1]!,l.drop 2⟩] ?_;refine jg (q:=bF.D) (xs:=Z) (e:=⟨l[1]!,l.drop 2⟩) ?_;refine aB ?_;refine aR (nP nm v N.length B.length (Z++[(⟨l[1]!,l.drop 2⟩:bF)]).length ((st:Nat):Int) 1 3 38) (he:=aZ) ?_;refine aA ?_;refine aR (nP nm v N.length B.length (Z++[(⟨l[1]!,l.drop 2⟩:bF)]).length ((7:Nat):Int) 1 3 38) (he:=aZ) ?_;refine aT ?_;refine bZ trivial ek (bW ah (ak D.bool ?_)) ah ⟨rfl,fun y hy=>by cases hy;exact⟨1,2,3,38,aF,⟨ah,ah,ah,ah,ah⟩⟩⟩;rfl
def kW:aJ:=⟨2,6,[⟨2,none⟩],ct,(sq (r1 [gm dj] 2 0) (sq (sq (r1 [gm s1,gl l0,cv l1 jL,gm l2,eU 3 s1,cE 3 (.ia 1 l4 bL),jQ 3 l5,cE 3 (eM l6 (cs [112,97,99,107,97,103,101])),fF l3 l7,gm l8,eU 9 s1,cE 9 (.ia 1 l10 ch),jQ 9 gJ,cE 9 (cP iM cse),fF l9 jN] 3 14) (.cond s3 (sq (r1 [gm dj] 2 0) .ret) .skip)) (sq (rg [gm s1,ga 1 l0 jE,gd l1,gx 568 [l2] ct,gm l3,ge l4 0,ge l4 1,gb 5 (.c (.agg [.int .i64 0,.int .i64 0,.int .i64 0,.str [],.str []])),gt 5 l7 l5,gm l6] [(4,7),(5,9)]) (sq (rt [gm s0,gm s0,gm s0,gm s1,ga 1 l3 ch,gd l4,gn (.ldI 5 true s4),gc l0,gf 0 l7,gf 0 l8,gt 1 l9 l5,gc l1,gf 0 gJ,gf 1 iM,gt 5 jN l6,gc l2,gf 9 lx,gt 1 n9 ch] []) (sq (r1 [gm s5,aO l0 bL,gm l1] 2 2) .ret)))))⟩
def w471 {Y:Ctx}(hm:(Y.at 5).bz)(l:List aq)(nm:aq)(v:cM)(N:List ba)(B:List fh)(Z:List bF)(st:Nat)(h568:Sm (Y.at 5))(hp0:∀w∈l,w.length<=1048576):bX (Y.at 5) kW.body (lu kW (P0 (qR ⟨⟨nm,v,N,B,Z⟩,st⟩ l)):Ex->List ca->St->Prop) (fI kW [.ptr 0 10 0 0,.sl 1 (l.map D.str)]) ⟨5,[(0,.buf 10 [nP nm v N.length B.length Z.length ((st:Nat):Int) 1 3 4]),(1,.buf 3 (et 2 N)),(2,.buf 4 (mS N)),(3,.buf 3 (B.map fh.D)),(4,.buf 2 (Z.map bF.D))]⟩:=by
 show bX _ _ _ [⟨true,.ptr 0 10 0 0⟩,⟨true,.sl 1 (l.map D.str)⟩,.un,.un,.un,.un] ⟨5,[(0,.buf 10 [nP nm v N.length B.length Z.length ((st:Nat):Int) 1 3 4]),(1,.buf 3 (et 2 N)),(2,.buf 4 (mS N)),(3,.buf 3 (B.map fh.D)),(4,.buf 2 (Z.map bF.D))]⟩;refine au ?_;refine aK ?_;intro u0;refine aB ?_;refine cg 0 (hb:=fun hf=>by simp at hf;omega) ?_;refine cb (v:=.str l[0]!) (hi:=fun hf=>by simp at hf;omega) ?_;refine aG ?_;refine cg 1 (hb:=fun hf=>by simp at hf;omega) ?_;refine cb (v:=.str l[1]!) (hi:=fun hf=>by simp at hf;omega) ?_;refine aB ?_;refine aw (fun hc0=>?_) (fun hc0=>?_)
 ·simp only[cR,bn,aS,bj]at hc0;have ho:qR ⟨⟨nm,v,N,B,Z⟩,st⟩ l=none:=by
   unfold qR;rw[aj];rintro⟨⟨a,b⟩,c⟩;rcases hc0 with(h|h)|h
   ·exact h ae
   ·exact h b
   ·exact c h
  rw[ho];refine aT ?_;refine bZ trivial ek (bW ah (ak D.bool ?_)) ah ⟨rfl,fun y hy=>by cases hy⟩;rfl
 simp only[c9,bP,aS,bj]at hc0;obtain⟨⟨hl3,hl0⟩,hl1⟩:=hc0;obtain hl3:l.length=3:=ae;have hhx:qR ⟨⟨nm,v,N,B,Z⟩,st⟩ l=(match fK l[2]! with
  |some v=>some ⟨⟨l[1]!,v,N,B,Z⟩,1⟩
  |none=>none):=av ⟨⟨hl3,hl0⟩,hl1⟩
 rw[hhx];refine aB ?_;refine cg 2 (hb:=fun _=>ae) ?_;refine cb (v:=.str l[2]!) (hi:=fun _=>ae) ?_;refine ar (hc:=h568 l[2]! (hp0 _ (bM ae))) ?_;refine aE ?_;refine fB (cM.D _) ?_;refine aA ?_;refine aR (cM.D ((fK l[2]!).getD fH)) (he:=aZ) ?_;refine aA ?_;refine eR 28 (he:=by simp only[ll,hY,iK,lO,mU,cD,Nat.reduceEqDiff,aH,aI,cr,bU,b9,cL,cN,bK,bI,aM,bR,aP,reduceCtorEq,ax,az,Nat.reduceAdd,Nat.reduceLeDiff,nP,cM.D];exact rfl) (hm:=by simp only[ll,hY,iK,lO,mU,cD,Nat.reduceEqDiff,aH,aI,cr,bU,b9,cL,cN,bK,bI,aM,bR,aP,reduceCtorEq,ax,az,Nat.reduceAdd,Nat.reduceLeDiff,nP,cM.D,uZ 28 _ _ aF,uN,sW,sX];exact rfl) ?_;refine aT ?_;refine cg 1 (hb:=fun _=>ae) ?_;refine cb (v:=.str l[1]!) (hi:=fun _=>ae) ?_;refine BI (v:=cM.D ((fK l[2]!).getD fH)) ?_;refine aB ?_;refine aR (nP l[1]! v N.length B.length Z.length ((st:Nat):Int) 1 3 4) (he:=aZ) ?_;refine aB ?_;refine aR (nP l[1]! ((fK l[2]!).getD fH) N.length B.length Z.length ((st:Nat):Int) 1 3 4) (he:=aZ) ?_;refine aA ?_;refine aR (nP l[1]! ((fK l[2]!).getD fH) N.length B.length Z.length ((1:Nat):Int) 1 3 4) (he:=aZ) ?_;refine br ?_;refine bZ trivial ek (bW ah (ak D.bool ?_)) ah ⟨rfl,fun y hy=>by obtain⟨w,hv⟩:∃w,fK l[2]! =some w:=(by cases hv:fK l[2]! with|none=>rw[hv]at hy;cases hy|some w=>exact⟨w,rfl⟩);rw[hv]at hy;cases hy;exact⟨1,2,3,4,aF,⟨(by rw[hv];exact rfl),ah,ah,ah,ah⟩⟩⟩;rw[L0];cases fK l[2]! <;>rfl
def CD (x:iX)(l:List aq):Option iX:=if 2<=l.length/\uc l l.length=true then some ⟨⟨x.r.name,x.r.v,x.r.needs,x.r.bars,x.r.feats++[⟨l[1]!,l.drop 2⟩]⟩,7⟩else none
def Pb (Y:Ctx):Prop:=∀(x:iX)(l:List aq),(∀w∈l,w.length<=1048576)->T8 Y 471 [.sl 1 (l.map D.str)] x (qR x l)
def Pc (Y:Ctx):Prop:=∀(x:iX)(t:aq),t.length<=1048576->(x.st=2->x.r.needs≠[])->sF x.r.needs<=1000000->x.r.needs.length<=1000000->T8 Y 472 [.str t] x (uB x t)
def Pd (Y:Ctx):Prop:=∀(x:iX)(t:aq),t.length<=1048576->(x.st=2->x.r.needs≠[])->(x.st=5->x.r.bars≠[])->x.r.needs.length<=1000000->x.r.bars.length<=1000000->T8 Y 473 [.str t] x (oD x t)
def Pf (Y:Ctx):Prop:=∀(x:iX)(l:List aq),l.length<=1048577->x.r.feats.length<=1000000->T8 Y 476 [.sl 1 (l.map D.str)] x (CD x l)
def A6 {out:Option iX}{L:Nat}(h:sV 0 L (L+1) (L+2) (L+3)=true):P0 out (.bool out.isSome) (uz out 0 L++[]):=by
 refine⟨rfl,fun y hy=>?_⟩;subst hy;refine⟨L,L+1,L+2,L+3,h, ?_⟩;simp only[sV,bn,c9]at h;obtain⟨⟨⟨⟨⟨⟨⟨⟨⟨h1,h2⟩,h3⟩,h4⟩,h5⟩,h6⟩,h7⟩,h8⟩,h9⟩,h10⟩:=h;have ne:∀{a b:Nat},Nat.beq a b=false->¬a=b:=fun h e=>by subst e;simp at h
 rw[gI];unfold uz PZ;constructor<;>simp only[look,aH,ne h1,ne h2,ne h3,ne h4,ne h5,ne h6,ne h7,ne h8,ne h9,ne h10,aI]
mutual
theorem PX:∀d:D,d.bG=true->ur d d
 | .aC,_=>.inl rfl
 | .agg a,h=>⟨a,rfl,A5 a h⟩
 | .any,h=>⟨rfl,h⟩
 | .bool b,h=>⟨rfl,h⟩
 | .int k n,h=>⟨rfl,h⟩
 | .str s,h=>⟨rfl,h⟩
 | .tup s,h=>⟨rfl,h⟩
 | .sl k s,h=>⟨rfl,h⟩
 | .ref k s i o,h=>⟨rfl,h⟩
 | .nilp,h=>⟨rfl,h⟩
 | .nilf,h=>⟨rfl,h⟩
 | .fn f c,h=>⟨rfl,h⟩
theorem A5:∀l:List D,bx l=true->A4 l l
 |[],_=>rfl
 |d::r,h=>by
  simp only[bx,bh]at h;exact⟨d,r,rfl,PX d h.1,A5 r h.2⟩
end
def yb:D:=.agg [.aC,.str [],.str []]
def zN (j:Nat):∀N:List ba,A4 (N.map ba.D++[yb]) (N.map ba.D++[lD j ⟨[],[],[]⟩])
 |[]=>⟨_,_,rfl,⟨_,rfl,⟨_,_,rfl,.inr ⟨_,_,_,rfl⟩,⟨_,_,rfl,⟨rfl,rfl⟩,⟨_,_,rfl,⟨rfl,rfl⟩,rfl⟩⟩⟩⟩,rfl⟩
 |a::r=>⟨_,_,rfl,⟨_,rfl,A5 _ rfl⟩,zN j r⟩
def Ap:∀N:List ba,Ec (iK 2 4 (mS N) (et 2 N)) (N.map ba.D)
 |[]=>.nil
 |[n]=>by
  have e:iK 2 4 (mS [n]) (et 2 [n])=[.agg [.sl 4 (n.any.map bD.N),.str n.when',.str n.option]]:=by
   simp only[et,mS,lD,iK,hY,bI,bK,aM,cr,aH,bR,aP]
  rw[e];exact .cons (.ag (.cons (.ss (.map fun x _=>x.wk)) (.rf _))) .nil
 |a::b::r=>.cons (.refl _) (Ap (b::r))
def lP {α:Type}{c:Prop} [Decidable c]{a y:α}(h:(if c then some a else none)=some y):c/\a=y:=by
 split at h
 ·rename_i hc;exact⟨hc,bC h⟩
 ·cases h
def Ng {α:Type}{c:Prop} [Decidable c]{a:α}:(if c then some a else none).isSome=decide c:=by
 by_cases h:c
 ·rw[av h,bS h];rfl
 ·rw[aj h,cJ h];rfl
def Gy {x:iX}{t:aq}(h:x.st=0):ec x t=xO (ai t 32):=by unfold ec;simp only[h,aH]
def Gz {x:iX}{t:aq}(h0:x.st≠0)(h:(ai t 32)[0]! =eQ):ec x t=if(ai t 32).length=1/\x.st<5 then some ⟨⟨x.r.name,x.r.v,x.r.needs++[⟨[],[],[]⟩],x.r.bars,x.r.feats⟩,2⟩else none:=by
 unfold ec;simp only[h0,aI,h,aH]
def Kt {x:iX}{t:aq}(h0:x.st≠0)(h:(ai t 32)[0]! =ib):ec x t=uB x t:=by
 have hw:=yY;unfold ec;simp only[h0,aI,h,aH,Ne.symm hw.1]
def GA {x:iX}{t:aq}(h0:x.st≠0)(h:(ai t 32)[0]! =fP):ec x t=oD x t:=by
 have hw:=yY;unfold ec;simp only[h0,aI,h,aH,Ne.symm hw.2.1,Ne.symm hw.2.2.2.2.2.1]
def Kv {x:iX}{t:aq}(h0:x.st≠0)(h:(ai t 32)[0]! =di):ec x t=if uc (ai t 32) 2=true/\(x.st=2\/x.st=3)then some ⟨⟨x.r.name,x.r.v,fU x.r.needs fun n=>⟨n.any,n.when',(ai t 32)[1]!⟩,x.r.bars,x.r.feats⟩,4⟩else none:=by
 have hw:=yY;unfold ec;simp only[h0,aI,h,aH,Ne.symm hw.2.2.1,Ne.symm hw.2.2.2.2.2.2.1,Ne.symm hw.2.2.2.2.2.2.2.2.2.1]
def Ku {x:iX}{t:aq}(h0:x.st≠0)(h:(ai t 32)[0]! =ic):ec x t=if(fO t 2).2.2=true/\x.st<=6 then some ⟨⟨x.r.name,x.r.v,x.r.needs,x.r.bars++[⟨(fO t 2).1[1]!,(fO t 2).2.1,[]⟩],x.r.feats⟩,5⟩else none:=by
 have hw:=yY;unfold ec;simp only[h0,aI,h,aH,Ne.symm hw.2.2.2.1,Ne.symm hw.2.2.2.2.2.2.2.1,Ne.symm hw.2.2.2.2.2.2.2.2.2.2.1,Ne.symm hw.2.2.2.2.2.2.2.2.2.2.2.2.1];rw[BV];by_cases hk:(fO t 2).2.2=true
 ·rw[av hk];by_cases hs:x.st<=6
  ·rw[av ⟨hk,hs⟩];simp only[hs,aH]
  ·rw[aj (fun hh=>hs hh.2)];simp only[hs,aI]
 ·rw[aj hk,aj (fun hh=>hk hh.1)]
def Gx {x:iX}{t:aq}(h0:x.st≠0)(h:(ai t 32)[0]! =cG):ec x t=CD x (ai t 32):=by
 have hw:=yY;unfold ec CD;simp only[h0,h,Ne.symm hw.2.2.2.2.1,Ne.symm hw.2.2.2.2.2.2.2.2.1,Ne.symm hw.2.2.2.2.2.2.2.2.2.2.2.1,Ne.symm hw.2.2.2.2.2.2.2.2.2.2.2.2.2.1,Ne.symm hw.2.2.2.2.2.2.2.2.2.2.2.2.2.2,aI,aH]
def OK {x:iX}{t:aq}(h0:x.st≠0)(h1:¬(ai t 32)[0]! =eQ)(h2:¬(ai t 32)[0]! =ib)(h3:¬(ai t 32)[0]! =fP)(h4:¬(ai t 32)[0]! =di)(h5:¬(ai t 32)[0]! =ic)(h6:¬(ai t 32)[0]! =cG):ec x t=none:=by
 unfold ec;simp only[h0,h1,h2,h3,h4,h5,h6,aI]
def kX:aJ:=⟨2,18,[⟨2,none⟩],ct,(sq (r1 [gm dj] 2 0) (sq (r1 [gm s1,gx 470 [l0,(i8 32)] iB,gm l1] 4 2) (sq (sq (r1 [gm s0,gc l0,gf 9 l1,gd l2,aO l3 bL] 3 4) (.cond s3 (sq (r1 [gm s0,gm s4,gn (.callM 471 [l0,l1]),gm l2] 2 3) .ret) .skip)) (sq (sq (r1 [gm s4,ga 1 l0 bL,gd l1] 5 2) (.block 0 (sq (r1 [aO s5 (cs [110,101,101,100]),gm l0] 6 1) (.cond s6 (sq (rg [gm s0,gm s0,gc l1,gf 0 l2,gf 6 l3,gd l4,gn (.build [.aC,.str [],.str []] []),gn (.bsl 3 (.agg [.aC,.str [],.str []]) 1 [(0,l6)]),gn (.app 3 l5 l7),gc l0,gf 0 l9,gf 6 l10,gt 1 gJ l8] []) (sq (r1 [gm s4,gl l0,aO l1 ch,gm l2,gmt 3 s0,cu 3 (.nilck l4),mP 3 9 l5,kd 3 l6,cu 3 (qa l7 zx),fg l3 l8,gm l9] 7 10) (sq (rg [gm s0,gc l0,gf 9 l1,gt 1 l2 jE] []) (sq (r1 [gm s7,gm l0] 2 1) .ret)))) (sq (r1 [aO s5 (cs [97,110,121]),gm l0] 8 1) (.cond s8 (sq (r1 [gm s0,gm s1,gn (.callM 472 [l0,l1]),gm l2] 2 3) .ret) (sq (r1 [aO s5 (cs [119,104,101,110]),gm l0] 9 1) (.cond s9 (sq (r1 [gm s0,gm s1,gn (.callM 473 [l0,l1]),gm l2] 2 3) .ret) (sq (r1 [aO s5 (cs [111,112,116,105,111,110]),gm l0] 10 1) (.cond kZ (sq (sq (r1 [gm s4,gx 474 [l0,jE] [[.sl 1 [.a]],[.a]],ke l1,gm l2,eU 3 s0,cE 3 (.nilck l4),jK 3 9 l5,jQ 3 l6,cE 3 (eM l7 jE),eU 3 l8,gmt 9 s0,cu 9 (.nilck l10),mP 9 9 gJ,kd 9 iM,cu 9 (eM jN jL),Bo 3 l9 ku,fF l3 lx] 11 16) (.cond nQ (sq (r1 [gm dj] 2 0) .ret) .skip)) (sq (rt [gm s0,gc l0,gf 0 l1,gf 6 l2,gd l3,gm s0,gc l5,gf 0 l6,gf 6 l7,gd l8,gl l9,eH l10 ch,gm s0,gm s4,ga 1 jN ch,gd ku,ga 3 l4 gJ,gf 2 n9,gt 1 pV lx,gc iM,gf 9 sn,gt 1 wv sj] []) (sq (r1 [gm ou] 2 0) .ret))) (sq (r1 [aO s5 (cs [98,97,114]),gm l0] 12 1) (.cond mQ (sq (rg [gm s1,gx 475 [l0,jE] iB,gm l1,ge l2 0,ge l2 1,ge l2 2,gm l3,gm l4,gm l5] [(15,6),(16,7),(13,8)]) (sq (sq (r1 [gm rv,ke l0,gm l1,eU 2 s0,cE 2 (.nilck l3),jK 2 9 l4,jQ 2 l5,cE 2 (eF l6 uv),fF l2 l7] 14 8) (.cond r8 (sq (r1 [gm dj] 2 0) .ret) .skip)) (sq (rt [gm s0,gm s0,gm s0,gc l2,gf 0 l3,gf 7 l4,gd l5,gm wD,ga 1 l7 ch,gd l8,gm DN,gn (.build [.str [],.str [],.str []] [(0,1,l9),(1,1,l10)]),gn (.bsl 3 (.agg [.str [],.str [],.str []]) 1 [(0,gJ)]),gn (.app 3 l6 iM),gc l0,gf 0 ku,gf 7 lx,gt 1 n9 jN,gc l1,gf 9 qu,gt 1 sn zx] []) (sq (r1 [gm ou] 2 0) .ret)))) (sq (r1 [aO s5 (cs [102,101,97,116,117,114,101]),gm l0] 17 1) (.cond BY (sq (r1 [gm s0,gm s4,gn (.callM 476 [l0,l1]),gm l2] 2 3) .ret) .skip)))))))))))))) (sq (r1 [gm dj] 2 0) .ret)))))⟩
def w224 {Y:Ctx}(hm:(Y.at 5).bz)(s:aq)(nm:aq)(v:cM)(N:List ba)(B:List fh)(Z:List bF)(st:Nat)(h470:xe (Y.at 5))(h471:Pb (Y.at 5))(h472:Pc (Y.at 5))(h473:Pd (Y.at 5))(h474:Pe (Y.at 5))(h475:Mn (Y.at 5))(h476:Pf (Y.at 5))(hp0:s.length<=1048576)(hp1:st=0->N=[]/\B=[]/\Z=[])(hp2:st=2\/st=3->N≠[])(hp3:st=5->B≠[])(hp4:N.length<=900000/\B.length<=900000/\Z.length<=900000/\sF N<=900000):bX (Y.at 5) kX.body (lu kX (P0 (ec ⟨⟨nm,v,N,B,Z⟩,st⟩ s)):Ex->List ca->St->Prop) (fI kX [.ptr 0 10 0 0,.str s]) ⟨5,[(0,.buf 10 [nP nm v N.length B.length Z.length ((st:Nat):Int) 1 3 4]),(1,.buf 3 (et 2 N)),(2,.buf 4 (mS N)),(3,.buf 3 (B.map fh.D)),(4,.buf 2 (Z.map bF.D))]⟩:=by
 show bX _ _ _ [⟨true,.ptr 0 10 0 0⟩,⟨true,.str s⟩,.un,.un,.un,.un,.un,.un,.un,.un,.un,.un,.un,.un,.un,.un,.un,.un] ⟨5,[(0,.buf 10 [nP nm v N.length B.length Z.length ((st:Nat):Int) 1 3 4]),(1,.buf 3 (et 2 N)),(2,.buf 4 (mS N)),(3,.buf 3 (B.map fh.D)),(4,.buf 2 (Z.map bF.D))]⟩;have hsp:1<=(ai s 32).length:=fq 32 s [];have hsl:=de s 32;have hlm:∀w∈ai s 32,w.length<=1048576:=fun w hw=>cW (en s 32 hw) hp0
 obtain⟨z1,z2,z3,z4⟩:=hp4;have hrl:=BV s 2;have hrn:=vu s 2;have hre:=yF s 2;obtain⟨⟨l,u,ok⟩,hq⟩:∃q,fO s 2=q:=⟨_,rfl⟩
 rw[hq]at hrl hrn hre;dsimp only at hrl hrn hre;refine au ?_;refine aG ?_;refine ar (v:=.sl 1 ((ai s 32).map D.str)) (hc:=h470 s 32 hp0) ?_;refine br ?_;refine bA (v:=.int .i64 ((st:Nat):Int)) ?_;refine aA ?_;refine aw (fun hc0=>?_) (fun hc0=>?_)
 ·simp only[aS]at hc0;obtain rfl:st=0:=ae;have ho:ec ⟨⟨nm,v,N,B,Z⟩,0⟩ s=qR ⟨⟨nm,v,N,B,Z⟩,0⟩ (ai s 32):=by
   rw[Gy rfl,Gj ⟨hp1,fun h=>by simp at h,fun h=>by simp at h⟩ rfl]
  rw[ho];refine aG ?_;refine cI (nx':=18) (v:=.bool (qR ⟨⟨nm,v,N,B,Z⟩,0⟩ (ai s 32)).isSome) (m':=uz (qR ⟨⟨nm,v,N,B,Z⟩,0⟩ (ai s 32)) 0 16++[]) (hc:=fun K' hK=>h471 ⟨⟨nm,v,N,B,Z⟩,0⟩ (ai s 32) hlm _ 0 1 2 3 4 _ K' ⟨aZ,aZ,aZ,aZ,aZ⟩ aF ⟨by simp only[ax,az];omega,by simp only[ax,az];omega,by simp only[ax,az];omega,by simp only[ax,az];omega,by simp only[ax,az];omega⟩ (by exact hK)) (hn:=aF) ?_;refine aB ?_;refine bZ trivial ek (bW ah (ak D.bool ?_)) ah (A6 aF);rfl
 simp only[bj]at hc0;have h0:(⟨⟨nm,v,N,B,Z⟩,st⟩:iX).st≠0:=by show st≠0;omega
 refine aG ?_;refine cg 0 (hb:=fun _=>ae) ?_;refine cb (v:=.str (ai s 32)[0]!) (hi:=fun _=>ae) ?_;refine aK ?_;refine wp_cond (fun hc1=>?_) (fun hc1=>?_)
 ·simp only[aS]at hc1;have hw:(ai s 32)[0]! =eQ:=hc1;have ho:=Gz h0 hw;dsimp only at ho;refine eR 2 (hn:=lH N) (he:=by simp only[ll,hY,iK,lO,mU,cD,Nat.reduceEqDiff,aH,aI,cr,bU,b9,cL,cN,bK,bI,aM,bR,aP,reduceCtorEq,ax,az,Nat.reduceAdd,Nat.reduceLeDiff,nP];exact rfl) (hm:=by simp only[ll,hY,iK,lO,mU,cD,Nat.reduceEqDiff,aH,aI,cr,bU,b9,cL,cN,bK,bI,aM,bR,aP,reduceCtorEq,ax,az,Nat.reduceAdd,Nat.reduceLeDiff,nP,sW,sX];exact rfl) ?_;refine lh [(0,.buf 10 [nP nm v N.length B.length Z.length ((st:Nat):Int) 1 3 4]),(1,.buf 3 (N.map ba.D)),(3,.buf 3 (B.map fh.D)),(4,.buf 2 (Z.map bF.D))] (.id ah (.bf ah (Ap N) (.id ah (.id ah .nil)))) ?_;refine aK ?_;refine bA (v:=.own 1 3 0 N.length) ?_;refine bo yb ?_;refine c7 [yb] ?_;refine vW (xs:=N.map ba.D) (zs:=N.map ba.D++[yb]) (n:=(N++[(⟨[],[],[]⟩:ba)]).length) (ha:=aN) (he:=sJ.all (es:=[yb]) ah rfl) (hz:=by rw[bR,eK aN]) (hn:=aN) (hb:=cX) ?_;refine aB ?_;refine aR (nP nm v (N++[(⟨[],[],[]⟩:ba)]).length B.length Z.length ((st:Nat):Int) 27 3 4) (he:=aZ) ?_;refine aG ?_;intro u0;refine aT ?_;refine bA (v:=.int .i64 ((st:Nat):Int)) ?_;refine bY ?_;refine aR (nP nm v (N++[(⟨[],[],[]⟩:ba)]).length B.length Z.length ((2:Nat):Int) 27 3 4) (he:=aZ) ?_;refine aE ?_;refine gY (bg.to (env':=[⟨true,.ptr 0 10 0 0⟩,.un,.un,.un,.un,.un,.un,⟨true,.bool _⟩,.un,.un,.un,.un,.un,.un,.un,.un,.un,.un]) (c:=90) (nx':=90) (m':=[(0,.buf 10 [nP nm v (N++[(⟨[],[],[]⟩:ba)]).length B.length Z.length ((2:Nat):Int) 60 3 4]),(60,.buf 3 (N.map ba.D++[lD 61 ⟨[],[],[]⟩])),(61,.buf 4 []),(3,.buf 3 (B.map fh.D)),(4,.buf 2 (Z.map bF.D))]) [(27,60)] rfl ah pw (by refine aY.lr ah ah ah ?_;refine aY.ni 27 ah ah (zN 61 N) ?_;refine aY.mt ah ah ah ah ?_;refine aY.ez ah ah (by exact bJ (fun _=>rfl) _) ?_;refine aY.ez ah ah (by exact bJ (fun _=>rfl) _) ?_;exact aY.nil)) ?_;refine aK ?_;refine bZ trivial ek (bW ah (ak D.bool ?_)) ah ⟨rfl,fun y hy=>by rw[ho]at hy;obtain⟨_,rfl⟩:=lP hy;exact⟨60,61,3,4,aF,⟨ah,(by rw[gC];exact rfl),(by rw[jt];exact rfl),ah,ah⟩⟩⟩;rw[ho,Ng,Bool.eq_iff_iff];simp only[bh,aS];omega
 simp only[bj]at hc1;have n1:¬(ai s 32)[0]! =eQ:=hc1;refine aG ?_;refine wp_cond (fun hc2=>?_) (fun hc2=>?_)
 ·simp only[aS]at hc2;have hw:(ai s 32)[0]! =ib:=hc2;have ho:=Kt h0 hw;rw[ho];refine aB ?_;refine cI (nx':=25) (v:=.bool (uB ⟨⟨nm,v,N,B,Z⟩,st⟩ s).isSome) (m':=uz (uB ⟨⟨nm,v,N,B,Z⟩,st⟩ s) 0 23++[]) (hc:=fun K' hK=>h472 ⟨⟨nm,v,N,B,Z⟩,st⟩ s hp0 (fun h=>hp2 (.inl h)) (by show sF N<=_;omega) (by show N.length<=_;omega) _ 0 1 2 3 4 _ K' ⟨aZ,aZ,aZ,aZ,aZ⟩ aF ⟨by simp only[ax,az];omega,by simp only[ax,az];omega,by simp only[ax,az];omega,by simp only[ax,az];omega,by simp only[ax,az];omega⟩ (by exact hK)) (hn:=aF) ?_;refine aG ?_;refine bZ trivial ek (bW ah (ak D.bool ?_)) ah (A6 aF);rfl
 simp only[bj]at hc2;have n2:¬(ai s 32)[0]! =ib:=hc2;refine aG ?_;refine wp_cond (fun hc3=>?_) (fun hc3=>?_)
 ·simp only[aS]at hc3;have hw:(ai s 32)[0]! =fP:=hc3;have ho:=GA h0 hw;rw[ho];refine aB ?_;refine cI (nx':=27) (v:=.bool (oD ⟨⟨nm,v,N,B,Z⟩,st⟩ s).isSome) (m':=uz (oD ⟨⟨nm,v,N,B,Z⟩,st⟩ s) 0 25++[]) (hc:=fun K' hK=>h473 ⟨⟨nm,v,N,B,Z⟩,st⟩ s hp0 (fun h=>hp2 (.inl h)) hp3 (by show N.length<=_;omega) (by show B.length<=_;omega) _ 0 1 2 3 4 _ K' ⟨aZ,aZ,aZ,aZ,aZ⟩ aF ⟨by simp only[ax,az];omega,by simp only[ax,az];omega,by simp only[ax,az];omega,by simp only[ax,az];omega,by simp only[ax,az];omega⟩ (by exact hK)) (hn:=aF) ?_;refine aG ?_;refine bZ trivial ek (bW ah (ak D.bool ?_)) ah (A6 aF);rfl
 simp only[bj]at hc3;have n3:¬(ai s 32)[0]! =fP:=hc3;refine aG ?_;refine wp_cond (fun hc4=>?_) (fun hc4=>?_)
 ·simp only[aS]at hc4;have hw:(ai s 32)[0]! =di:=hc4;have ho:=Kv h0 hw;dsimp only at ho;refine aB ?_;refine ar (hc:=h474 (ai s 32) 2) ?_;refine aT ?_;refine bA (v:=.int .i64 ((st:Nat):Int)) ?_;refine aT ?_;refine bA (v:=.int .i64 ((st:Nat):Int)) ?_;refine aG ?_;refine aw (fun hc5=>?_) (fun hc5=>?_)
  ·simp only[cR,bh,bn,aS,bj]at hc5;rw[aj (by rintro⟨a,b⟩;rcases hc5 with h|h;(rw[a]at h;cases h);omega)]at ho;rw[ho];refine aK ?_;refine bZ trivial ek (bW ah (ak D.bool ?_)) ah ⟨rfl,fun y hy=>by cases hy⟩;rfl
  simp only[c9,dt,bP,aS,bj]at hc5;obtain⟨hon,hst⟩:=hc5;have hst:st=2\/st=3:=ae;obtain⟨N,n,rfl⟩:=r9 (hp2 hst);have hnl:(N++[n]).length=N.length+1:=aN;have hl2:(ai s 32).length=2:=(pj.1 hon).1;rw[av ⟨hon,hst⟩,eI]at ho;rw[ho,gC,jt];refine aK ?_;refine bA (v:=.own 1 3 0 (N++[n]).length) ?_;refine aG ?_;refine bA (v:=.own 1 3 0 (N++[n]).length) ?_;refine js ?_;refine aB ?_;refine cg 1 (hb:=fun _=>ae) ?_;refine cb (v:=.str (ai s 32)[1]!) (hi:=fun _=>ae) ?_;refine jG N.length (hj:=fun _=>ae) (hb:=fun _=>ae) ?_;refine aE ?_;refine uf (es:=N.map ba.D++[lD 2 n]) (N.map ba.D++[lD 2 ⟨n.any,n.when',(ai s 32)[1]!⟩]) (hi:=aN) (he:=by rw[n5 _ _ _ _ aN,rz _ _ _ _ aN];exact rfl) ?_;refine aA ?_;refine aR (nP nm v (N++[n]).length B.length Z.length ((4:Nat):Int) 1 3 4) (he:=aZ) ?_;refine aK ?_;refine bZ trivial ek (bW ah (ak D.bool ?_)) ah ⟨rfl,fun y hy=>by cases hy;exact⟨1,2,3,4,aF,⟨(by have e:(N++[(⟨n.any,n.when',(ai s 32)[1]!⟩:ba)]).length=(N++[n]).length:=aN;show _=some (bV.buf 10 [nP nm v (N++[(⟨n.any,n.when',(ai s 32)[1]!⟩:ba)]).length B.length Z.length ((4:Nat):Int) 1 3 4]);rw[e];exact rfl),(by rw[gC];exact rfl),(by rw[jt];exact rfl),ah,ah⟩⟩⟩;rfl
 simp only[bj]at hc4;have n4:¬(ai s 32)[0]! =di:=hc4;refine aG ?_;refine wp_cond (fun hc6=>?_) (fun hc6=>?_)
 ·simp only[aS]at hc6;have hw:(ai s 32)[0]! =ic:=hc6;have ho:=Ku h0 hw;rw[hq]at ho;dsimp only at ho;refine aA ?_;refine ar (v:=.tup [.sl 1 (l.map D.str),.str u,.bool ok]) (hc:=by have:=h475 s 2 hp0 aF;rw[hq]at this;exact this) ?_;refine aE ?_;refine fB (.sl _ _) ?_;refine sI ?_;refine bA (v:=.int .i64 ((st:Nat):Int)) ?_;refine aB ?_;refine aw (fun hc7=>?_) (fun hc7=>?_)
  ·simp only[cR,bn,aS,bj]at hc7;rw[aj (by rintro⟨a,b⟩;rcases hc7 with h|h;(rw[a]at h;cases h);omega)]at ho;rw[ho];refine aK ?_;refine bZ trivial ek (bW ah (ak D.bool ?_)) ah ⟨rfl,fun y hy=>by cases hy⟩;rfl
  simp only[c9,bP,aS,bj]at hc7;have hln:=hrn hc7.1;rw[av ⟨hc7.1,ae⟩]at ho;rw[ho];refine bY ?_;refine bA (v:=.own 3 3 0 B.length) ?_;refine aE ?_;refine cg 1 (hb:=fun _=>ae) ?_;refine cb (v:=.str l[1]!) (hi:=fun _=>ae) ?_;refine aE ?_;refine bo (fh.D (⟨l[1]!,u,[]⟩:fh)) ?_;refine c7 [fh.D (⟨l[1]!,u,[]⟩:fh)] ?_;refine jg (q:=fh.D) (xs:=B) (e:=(⟨l[1]!,u,[]⟩:fh)) ?_;refine aB ?_;refine aR (nP nm v N.length (B++[(⟨l[1]!,u,[]⟩:fh)]).length Z.length ((st:Nat):Int) 1 58 4) (he:=aZ) ?_;refine aA ?_;refine aR (nP nm v N.length (B++[(⟨l[1]!,u,[]⟩:fh)]).length Z.length ((5:Nat):Int) 1 58 4) (he:=aZ) ?_;refine aK ?_;refine bZ trivial ek (bW ah (ak D.bool ?_)) ah ⟨rfl,fun y hy=>by cases hy;exact⟨1,2,58,4,aF,⟨ah,ah,ah,ah,ah⟩⟩⟩;rfl
 simp only[bj]at hc6;have n6:¬(ai s 32)[0]! =ic:=hc6;refine aG ?_;refine wp_cond (fun hc8=>?_) (fun hc8=>?_)
 ·simp only[aS]at hc8;have hw:(ai s 32)[0]! =cG:=hc8;have ho:=Gx h0 hw;rw[ho];refine aB ?_;refine cI (nx':=33) (v:=.bool (CD ⟨⟨nm,v,N,B,Z⟩,st⟩ (ai s 32)).isSome) (m':=uz (CD ⟨⟨nm,v,N,B,Z⟩,st⟩ (ai s 32)) 0 31++[]) (hc:=fun K' hK=>h476 ⟨⟨nm,v,N,B,Z⟩,st⟩ (ai s 32) ae (by show Z.length<=_;omega) _ 0 1 2 3 4 _ K' ⟨aZ,aZ,aZ,aZ,aZ⟩ aF ⟨by simp only[ax,az];omega,by simp only[ax,az];omega,by simp only[ax,az];omega,by simp only[ax,az];omega,by simp only[ax,az];omega⟩ (by exact hK)) (hn:=aF) ?_;refine aG ?_;refine bZ trivial ek (bW ah (ak D.bool ?_)) ah (A6 aF);rfl
 simp only[bj]at hc8;have n8:¬(ai s 32)[0]! =cG:=hc8;have ho:=OK h0 n1 n2 n3 n4 n6 n8;rw[ho];refine aK ?_;refine bZ trivial ek (bW ah (ak D.bool ?_)) ah ⟨rfl,fun y hy=>by cases hy⟩;rfl
def OZ (Y:Ctx):Prop:=∀(x:iX)(t:aq),x.ok->x.sz<=900000->t.length<=1048576->T8 Y 224 [.str t] x (ec x t)
def zy {f:ba->ba}(l:List ba)(hf:∀n,(f n).any.length<=n.any.length+1):sF (fU l f)<=sF l+1:=by
 by_cases h:l=[]
 ·subst h;simp[fU,sF]
 ·obtain⟨a,x,rfl⟩:=r9 h;rw[eI,pW,pW];exact hf x
def ry {α:Type}(l:List α)(f:α->α):(fU l f).length=l.length:=by
 by_cases h:l=[]
 ·subst h;rfl
 ·obtain⟨a,x,rfl⟩:=r9 h;rw[eI];simp
def yL {α:Type}{l:List α}(f:α->α)(h:l≠[]):fU l f≠[]:=by
 intro e;have:=ry l f;rw[e]at this;exact h (lj this.symm)
def B1 {x:iX}{nm:aq}{v:cM}{st:Nat}(f:ba->ba)(hf:∀n,(f n).any.length<=n.any.length+1):(⟨⟨nm,v,fU x.r.needs f,x.r.bars,x.r.feats⟩,st⟩:iX).sz<=x.sz+1:=by
 have:=zy x.r.needs hf;unfold iX.sz;simp only[ry];omega
def NZ {x y:iX}{t:aq}(h:ec x t=some y)(hx:x.ok):y.ok/\y.sz<=x.sz+1:=by
 by_cases h0:x.st=0
 ·rw[Gy h0,<-Gj hx h0]at h;obtain⟨e1,e2,e3⟩:=hx.1 h0;unfold qR at h;split at h
  ·split at h
   ·obtain rfl:=bC h;refine⟨⟨fun h=>by simp at h,fun h=>by simp at h,fun h=>by simp at h⟩,Nat.le_succ _⟩
   ·cases h
  ·cases h
 by_cases h1:(ai t 32)[0]! =eQ
 ·rw[Gz h0 h1]at h;obtain⟨_,rfl⟩:=lP h;refine⟨⟨fun h=>by simp at h,fun _=>aN,fun h=>by simp at h⟩, ?_⟩;unfold iX.sz;rw[pW];simp only[bE,ax,az];omega
 by_cases h2:(ai t 32)[0]! =ib
 ·rw[Kt h0 h2]at h;unfold uB at h;split at h
  ·obtain⟨hc,rfl⟩:=lP h;refine⟨⟨fun h=>by simp at h,fun _=>yL _ (hx.2.1 (.inl hc.1)),fun h=>by simp at h⟩,B1 _ (fun n=>aN)⟩
  ·cases h
 by_cases h3:(ai t 32)[0]! =fP
 ·rw[GA h0 h3]at h;unfold oD at h;split at h
  ·split at h
   ·rename_i hc;obtain rfl:=bC h;refine⟨⟨fun h=>by simp at h,fun _=>yL _ (hx.2.1 (.inl hc)),fun h=>by simp at h⟩,B1 _ (fun n=>aN)⟩
   ·obtain⟨hc,rfl⟩:=lP h;refine⟨⟨fun h=>by simp at h,fun h=>by simp at h,fun h=>by simp at h⟩, ?_⟩;unfold iX.sz;simp only[ry];omega
  ·cases h
 by_cases h4:(ai t 32)[0]! =di
 ·rw[Kv h0 h4]at h;obtain⟨hc,rfl⟩:=lP h;refine⟨⟨fun h=>by simp at h,fun h=>by simp at h,fun h=>by simp at h⟩,B1 _ (fun n=>aN)⟩
 by_cases h5:(ai t 32)[0]! =ic
 ·rw[Ku h0 h5]at h;obtain⟨hc,rfl⟩:=lP h;refine⟨⟨fun h=>by simp at h,fun h=>by simp at h,fun _=>aN⟩, ?_⟩;unfold iX.sz;simp only[bE,ax,az];omega
 by_cases h6:(ai t 32)[0]! =cG
 ·rw[Gx h0 h6]at h;obtain⟨hc,rfl⟩:=lP h;refine⟨⟨fun h=>by simp at h,fun h=>by simp at h,fun h=>by simp at h⟩, ?_⟩;unfold iX.sz;simp only[bE,ax,az];omega
 rw[OK h0 h1 h2 h3 h4 h5 h6]at h;cases h
abbrev mF (s:aq):List aq:=(ai s 10).take ((ai s 10).length-1)
abbrev xY (s:aq):aq:=(ai s 10)[(ai s 10).length-1]!
def yy {s:aq}(h:¬4096<s.length):ea s=if(pz (mF s)).isSome=false\/(fG (mF s)).2≠[]\/xY s≠[]then(jX,2,(((mF s).length-(fG (mF s)).2.length:Nat):Int)+1)
  else if(cH (fG (mF s)).1).1≠0 then(jX,(cH (fG (mF s)).1).1,0)else((fG (mF s)).1,0,0):=by unfold ea;rw[aj h]
def Dl {s:aq}{x:iX}{i:Nat}(h:¬4096<s.length)(hi:i<=(mF s).length)(hr:mf uj (mF s)=(x,(mF s).drop i))(hn:i<(mF s).length\/xY s≠[]):ea s=(jX,2,(i:Int)+1):=by
 rw[yy h];have ha:=BX (mF s);have hl:((mF s).drop i).length=(mF s).length-i:=jn;cases hp:pz (mF s)with
 |none=>
  rw[hp]at ha;simp only at ha;rw[ha]at hr;simp only[dc]at hr;have hv:fG (mF s)=(jX,mF s):=by unfold fG;rw[hp]
  rw[av (.inl rfl),hv];have:(mF s).length=(mF s).length-i:=by rw[<-hl,<-hr.2]
  simp only[dc,bU];omega
 |some p=>
  obtain⟨r,rest⟩:=p;rw[hp]at ha;obtain⟨st,_,ha⟩:=ha;rw[ha]at hr;simp only[dc]at hr;have hv:fG (mF s)=(r,rest):=by unfold fG;rw[hp]
  rw[hv,hr.2];rw[av]
  ·simp only[hl,dc,bU];omega
  ·rcases hn with hn|hn
   ·refine .inr (.inl fun e=>?_);simp only at e;rw[e]at hl;simp only[az]at hl;omega
   ·exact .inr (.inr hn)
def Lt {s:aq}{x:iX}(h:¬4096<s.length)(hr:mf uj (mF s)=(x,[]))(h0:x.st=0):ea s=(jX,2,1):=by
 have ha:=BX (mF s);cases hp:pz (mF s)with
 |none=>
  rw[hp]at ha;simp only at ha;rw[ha]at hr;simp only[dc]at hr;have hv:fG (mF s)=(jX,mF s):=by unfold fG;rw[hp]
  rw[yy h,av (.inl (by rw[hp];rfl)),hv,hr.2];rfl
 |some p=>
  obtain⟨r,rest⟩:=p;rw[hp]at ha;obtain⟨st,h1,ha⟩:=ha;rw[ha]at hr;simp only[dc]at hr;rw[<-hr.1]at h0;simp only at h0;omega
def NO {s:aq}{x:iX}(h:¬4096<s.length)(hr:mf uj (mF s)=(x,[]))(h0:x.st≠0)(hl:xY s=[]):gV x.r/\ea s=if(cH x.r).1≠0 then(jX,(cH x.r).1,0)else(x.r,0,0):=by
 have ha:=BX (mF s);cases hp:pz (mF s)with
 |none=>
  rw[hp]at ha;simp only at ha;rw[ha]at hr;simp only[dc]at hr;rw[<-hr.1]at h0;exact absurd rfl h0
 |some p=>
  obtain⟨r,rest⟩:=p;rw[hp]at ha;obtain⟨st,h1,ha⟩:=ha;rw[ha]at hr;simp only[dc]at hr;obtain⟨rfl,rfl⟩:=hr;have hv:fG (mF s)=(r,[]):=by unfold fG;rw[hp]
  have hlm:zj (mF s):=fun t ht=>by
   have:=en s 10 (m8 ht);omega
  have hsm:=(G0 hlm).1;rw[hv]at hsm;refine⟨hsm, ?_⟩;rw[yy h,hv,hp];rw[aj (by rintro(h|h|h);cases h;exact h rfl;exact h hl)]
def ET {s:aq}(h:xY s=[]):im s=(mF s,true):=by unfold im;rw[av h]
def H9 {s:aq}(h:¬xY s=[]):im s=(mF s++[xY s],false):=by
 unfold im;rw[aj h];have hp:1<=(ai s 10).length:=fq 10 s [];have:=(drop_one (l:=ai s 10) (n:=(ai s 10).length-1) ae).2;exact ak (fun l=>(l,false)) this
def va (lo a b:Nat)(σ:List (Nat×Nat))(h:m5 lo σ a=some b):∀N:List ba,p0 lo σ (et a N)=some (et b N)
 |[]=>rfl
 |[n]=>by simp only[et,lD,p0,tm,Eg,h]
 |c::d::r=>by
  have:=va lo a b σ h (d::r);have hc:tm lo σ (ba.D c)=some (ba.D c):=rfl;simp only[et,p0,this,hc]
def yc (j:Nat):∀N:List ba,Ec (iK j 4 (mS N) (et j N)) (N.map ba.D)
 |[]=>.nil
 |[n]=>by
  have e:iK j 4 (mS [n]) (et j [n])=[.agg [.sl 4 (n.any.map bD.N),.str n.when',.str n.option]]:=by
   simp only[et,mS,lD,iK,hY,bI,bK,aM,cr,aH,bR,aP]
  rw[e];exact .cons (.ag (.cons (.ss (.map fun x _=>x.wk)) (.rf _))) .nil
 |a::b::r=>.cons (.refl _) (yc j (b::r))
def Bn (l k:Nat)(es:List D)(N:List ba):iK l k es (N.map ba.D)=N.map ba.D:=pR l k es _ (bJ (fun _=>rfl) _)
def EU (s:aq):((im s).2=true/\xY s=[]/\(im s).1=mF s)\/((im s).2=false/\xY s≠[]/\(im s).1=mF s++[xY s]):=by
 by_cases h:xY s=[]
 ·rw[ET h];exact .inl ⟨rfl,h,rfl⟩
 ·rw[H9 h];exact .inr ⟨rfl,h,rfl⟩
def AE {x:iX}{l:List aq}{i:Nat}(h:i<l.length):l.drop i=l[i]! ::l.drop (i+1):=by
 rw[jP h];simp[h]
end Go.Abs
