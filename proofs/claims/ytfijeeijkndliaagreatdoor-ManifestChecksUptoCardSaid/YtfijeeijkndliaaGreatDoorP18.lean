/- A part of the proofs. -/
import Derived.Test.YtfijeeijkndliaaGreatDoorP07
set_option linter.all false
set_option maxRecDepth 60000
set_option maxHeartbeats 2000000
namespace Go.Abs
variable {Y:Ctx}(hm:(Y.at 0).cP)
noncomputable def mJ:aN:=dy 79
def w224 {Y:Ctx}(hm:(Y.at 5).cP)(s:av)(nm:av)(v:dz)(N:List bo)(B:List fZ)(Z:List ct)(st:Nat)(h470:wI (Y.at 5))(h471:Yt (Y.at 5))(h472:Yu (Y.at 5))(h473:Yv (Y.at 5))(h474:C474 (Y.at 5))(h475:Yw (Y.at 5))(h476:Yx (Y.at 5))(hp0:s.length<=1048576)(hp1:st=0->N=[]/\B=[]/\Z=[])(hp2:st=2\/st=3->N≠[])(hp3:st=5->B≠[])(hp4:N.length<=900000/\B.length<=900000/\Z.length<=900000/\xc N<=900000):cg (Y.at 5) mJ.body (kJ mJ (RdQ (fm ⟨⟨nm,v,N,B,Z⟩,st⟩ s)):Ex->List cA->St->Prop) (gz mJ [.ptr 0 10 0 0,.str s]) ⟨5,[(0,.buf 10 [p8 nm v N.length B.length Z.length ((st:Nat):Int) 1 3 4]),(1,.buf 3 (fE 2 N)),(2,.buf 4 (pd N)),(3,.buf 3 (B.map fZ.D)),(4,.buf 2 (Z.map ct.D))]⟩:=by
 show cg _ _ _ [⟨true,.ptr 0 10 0 0⟩,⟨true,.str s⟩,.un,.un,.un,.un,.un,.un,.un,.un,.un,.un,.un,.un,.un,.un,.un,.un] ⟨5,[(0,.buf 10 [p8 nm v N.length B.length Z.length ((st:Nat):Int) 1 3 4]),(1,.buf 3 (fE 2 N)),(2,.buf 4 (pd N)),(3,.buf 3 (B.map fZ.D)),(4,.buf 2 (Z.map ct.D))]⟩;have hsp:1<=(ai s 32).length:=eN 32 s [];have hsl:=cJ s 32;have hlm:∀w∈ai s 32,w.length<=1048576:=fun w hw=>c7 (cG s 32 hw) hp0
 obtain⟨z1,z2,z3,z4⟩:=hp4;have hrl:=J6 s 2;have hrn:=Bu s 2;have hre:=F5 s 2;obtain⟨⟨l,u,ok⟩,hq⟩:∃q,iK s 2=q:=⟨_,rfl⟩
 rw[hq]at hrl hrn hre;dsimp only at hrl hrn hre;refine ay ?_;refine aK ?_;refine au (v:=.sl 1 ((ai s 32).map D.str)) (hc:=h470 s 32 hp0) ?_;refine bw ?_;refine aV (v:=.int .i64 ((st:Nat):Int)) ?_;refine aD ?_;refine az (fun hc0=>?_) (fun hc0=>?_)
 .simp only[bh]at hc0;obtain rfl:st=0:=ae;have ho:fm ⟨⟨nm,v,N,B,Z⟩,0⟩ s=uD ⟨⟨nm,v,N,B,Z⟩,0⟩ (ai s 32):=by
   rw[Uk rfl,T2 ⟨hp1,fun h=>by simp at h,fun h=>by simp at h⟩ rfl]
  rw[ho];refine aK ?_;refine dd (nx':=18) (v:=.bool (uD ⟨⟨nm,v,N,B,Z⟩,0⟩ (ai s 32)).isSome) (m':=AE (uD ⟨⟨nm,v,N,B,Z⟩,0⟩ (ai s 32)) 0 16++[]) (hc:=fun K' hK=>h471 ⟨⟨nm,v,N,B,Z⟩,0⟩ (ai s 32) hlm _ 0 1 2 3 4 _ K' ⟨aW,aW,aW,aW,aW⟩ aG ⟨cD,cD,cD,cD,cD⟩ (by exact hK)) (hn:=aG) ?_;refine aF ?_;refine ch trivial eP (cn ah (ak D.bool ?_)) ah (I7 aG);rfl
 simp only[bC]at hc0;have h0:(⟨⟨nm,v,N,B,Z⟩,st⟩:j6).st≠0:=by show st≠0;omega
 refine aK ?_;refine bz 0 (hb:=fun _=>ae) ?_;refine bp (v:=.str (ai s 32)[0]!) (hi:=fun _=>ae) ?_;refine aQ ?_;refine wp_cond (fun hc1=>?_) (fun hc1=>?_)
 .simp only[bh]at hc1;have hw:(ai s 32)[0]! =eX:=hc1;have ho:=Ul h0 hw;dsimp only at ho;refine e7 2 (hn:=ng N) (he:=by simp only[j8,ig,ij,ku,kW,cM,Nat.reduceEqDiff,ba,aZ,cC,cj,cb,cH,cK,bI,bB,aH,bR,aL,reduceCtorEq,aM,aX,Nat.reduceAdd,Nat.reduceLeDiff,p8];exact rfl) (hm:=by simp only[j8,ig,ij,ku,kW,cM,Nat.reduceEqDiff,ba,aZ,cC,cj,cb,cH,cK,bI,bB,aH,bR,aL,reduceCtorEq,aM,aX,Nat.reduceAdd,Nat.reduceLeDiff,p8,xN,xO];exact rfl) ?_;refine mR [(0,.buf 10 [p8 nm v N.length B.length Z.length ((st:Nat):Int) 1 3 4]),(1,.buf 3 (N.map bo.D)),(3,.buf 3 (B.map fZ.D)),(4,.buf 2 (Z.map ct.D))] (.id ah (.bf ah (HX N) (.id ah (.id ah .nil)))) ?_;refine aQ ?_;refine aV (v:=.own 1 3 0 N.length) ?_;refine bj Ft ?_;refine dq [Ft] ?_;refine B3 (xs:=N.map bo.D) (zs:=N.map bo.D++[Ft]) (n:=(N++[(⟨[],[],[]⟩:bo)]).length) (ha:=aI) (he:=vO.all (es:=[Ft]) ah rfl) (hz:=by rw[bR,fq aI]) (hn:=aI) (hb:=dk) ?_;refine aF ?_;refine aR (p8 nm v (N++[(⟨[],[],[]⟩:bo)]).length B.length Z.length ((st:Nat):Int) 27 3 4) (he:=aW) ?_;refine aK ?_;intro u0;refine aU ?_;refine aV (v:=.int .i64 ((st:Nat):Int)) ?_;refine bW ?_;refine aR (p8 nm v (N++[(⟨[],[],[]⟩:bo)]).length B.length Z.length ((2:Nat):Int) 27 3 4) (he:=aW) ?_;refine aE ?_;refine iW (bm.to (env':=[⟨true,.ptr 0 10 0 0⟩,.un,.un,.un,.un,.un,.un,⟨true,.bool _⟩,.un,.un,.un,.un,.un,.un,.un,.un,.un,.un]) (c:=90) (nx':=90) (m':=[(0,.buf 10 [p8 nm v (N++[(⟨[],[],[]⟩:bo)]).length B.length Z.length ((2:Nat):Int) 60 3 4]),(60,.buf 3 (N.map bo.D++[mV 61 ⟨[],[],[]⟩])),(61,.buf 4 []),(3,.buf 3 (B.map fZ.D)),(4,.buf 2 (Z.map ct.D))]) [(27,60)] rfl ah pz (by refine bF.Sc ah ah ah ?_;refine bF.ni 27 ah ah (Hn 61 N) ?_;refine bF.mt ah ah ah ah ?_;refine bF.iM ah ah (by exact bA (fun _=>rfl) _) ?_;refine bF.iM ah ah (by exact bA (fun _=>rfl) _) ?_;exact bF.nil)) ?_;refine aQ ?_;refine ch trivial eP (cn ah (ak D.bool ?_)) ah ⟨rfl,fun y hy=>by rw[ho]at hy;obtain⟨_,rfl⟩:=nu hy;exact⟨60,61,3,4,aG,⟨ah,(by rw[iA];exact rfl),(by rw[ko];exact rfl),ah,ah⟩⟩⟩;rw[ho,ac8,Bool.eq_iff_iff];simp only[bM,bh];omega
 simp only[bC]at hc1;have n1:¬(ai s 32)[0]! =eX:=hc1;refine aK ?_;refine wp_cond (fun hc2=>?_) (fun hc2=>?_)
 .simp only[bh]at hc2;have hw:(ai s 32)[0]! =ib:=hc2;have ho:=aam h0 hw;rw[ho];refine aF ?_;refine dd (nx':=25) (v:=.bool (AG ⟨⟨nm,v,N,B,Z⟩,st⟩ s).isSome) (m':=AE (AG ⟨⟨nm,v,N,B,Z⟩,st⟩ s) 0 23++[]) (hc:=fun K' hK=>h472 ⟨⟨nm,v,N,B,Z⟩,st⟩ s hp0 (fun h=>hp2 (.inl h)) (by show xc N<=_;omega) (by show N.length<=_;omega) _ 0 1 2 3 4 _ K' ⟨aW,aW,aW,aW,aW⟩ aG ⟨cD,cD,cD,cD,cD⟩ (by exact hK)) (hn:=aG) ?_;refine aK ?_;refine ch trivial eP (cn ah (ak D.bool ?_)) ah (I7 aG);rfl
 simp only[bC]at hc2;have n2:¬(ai s 32)[0]! =ib:=hc2;refine aK ?_;refine wp_cond (fun hc3=>?_) (fun hc3=>?_)
 .simp only[bh]at hc3;have hw:(ai s 32)[0]! =fo:=hc3;have ho:=Um h0 hw;rw[ho];refine aF ?_;refine dd (nx':=27) (v:=.bool (rj ⟨⟨nm,v,N,B,Z⟩,st⟩ s).isSome) (m':=AE (rj ⟨⟨nm,v,N,B,Z⟩,st⟩ s) 0 25++[]) (hc:=fun K' hK=>h473 ⟨⟨nm,v,N,B,Z⟩,st⟩ s hp0 (fun h=>hp2 (.inl h)) hp3 (by show N.length<=_;omega) (by show B.length<=_;omega) _ 0 1 2 3 4 _ K' ⟨aW,aW,aW,aW,aW⟩ aG ⟨cD,cD,cD,cD,cD⟩ (by exact hK)) (hn:=aG) ?_;refine aK ?_;refine ch trivial eP (cn ah (ak D.bool ?_)) ah (I7 aG);rfl
 simp only[bC]at hc3;have n3:¬(ai s 32)[0]! =fo:=hc3;refine aK ?_;refine wp_cond (fun hc4=>?_) (fun hc4=>?_)
 .simp only[bh]at hc4;have hw:(ai s 32)[0]! =dh:=hc4;have ho:=aao h0 hw;dsimp only at ho;refine aF ?_;refine au (hc:=h474 (ai s 32) 2) ?_;refine aU ?_;refine aV (v:=.int .i64 ((st:Nat):Int)) ?_;refine aU ?_;refine aV (v:=.int .i64 ((st:Nat):Int)) ?_;refine aK ?_;refine az (fun hc5=>?_) (fun hc5=>?_)
  .simp only[dw,bM,bE,bh,bC]at hc5;rw[ar (by rintro⟨a,b⟩;rcases hc5 with h|h;(rw[a]at h;cases h);omega)]at ho;rw[ho];refine aQ ?_;refine ch trivial eP (cn ah (ak D.bool ?_)) ah ⟨rfl,fun y hy=>by cases hy⟩;rfl
  simp only[dt,ef,cq,bh,bC]at hc5;obtain⟨hon,hst⟩:=hc5;have hst:st=2\/st=3:=ae;obtain⟨N,n,rfl⟩:=wB (hp2 hst);have hnl:(N++[n]).length=N.length+1:=aI;have hl2:(ai s 32).length=2:=(uP.1 hon).1;rw[aC ⟨hon,hst⟩,fQ]at ho;rw[ho,iA,ko];refine aQ ?_;refine aV (v:=.own 1 3 0 (N++[n]).length) ?_;refine aK ?_;refine aV (v:=.own 1 3 0 (N++[n]).length) ?_;refine gN ?_;refine aF ?_;refine bz 1 (hb:=fun _=>ae) ?_;refine bp (v:=.str (ai s 32)[1]!) (hi:=fun _=>ae) ?_;refine kg N.length (hj:=fun _=>ae) (hb:=fun _=>ae) ?_;refine aE ?_;refine xd (es:=N.map bo.D++[mV 2 n]) (N.map bo.D++[mV 2 ⟨n.any,n.when',(ai s 32)[1]!⟩]) (hi:=aI) (he:=by rw[oR _ _ _ _ aI,sv _ _ _ _ aI];exact rfl) ?_;refine aD ?_;refine aR (p8 nm v (N++[n]).length B.length Z.length ((4:Nat):Int) 1 3 4) (he:=aW) ?_;refine aQ ?_;refine ch trivial eP (cn ah (ak D.bool ?_)) ah ⟨rfl,fun y hy=>by cases hy;exact⟨1,2,3,4,aG,⟨(by have e:(N++[(⟨n.any,n.when',(ai s 32)[1]!⟩:bo)]).length=(N++[n]).length:=aI;show _=some (cr.buf 10 [p8 nm v (N++[(⟨n.any,n.when',(ai s 32)[1]!⟩:bo)]).length B.length Z.length ((4:Nat):Int) 1 3 4]);rw[e];exact rfl),(by rw[iA];exact rfl),(by rw[ko];exact rfl),ah,ah⟩⟩⟩;rfl
 simp only[bC]at hc4;have n4:¬(ai s 32)[0]! =dh:=hc4;refine aK ?_;refine wp_cond (fun hc6=>?_) (fun hc6=>?_)
 .simp only[bh]at hc6;have hw:(ai s 32)[0]! =gG:=hc6;have ho:=aan h0 hw;rw[hq]at ho;dsimp only at ho;refine aD ?_;refine au (v:=.tup [.sl 1 (l.map D.str),.str u,.bool ok]) (hc:=by have:=h475 s 2 hp0 aG;rw[hq]at this;exact this) ?_;refine aE ?_;refine fJ (.sl _ _) ?_;refine vN ?_;refine aV (v:=.int .i64 ((st:Nat):Int)) ?_;refine aF ?_;refine az (fun hc7=>?_) (fun hc7=>?_)
  .simp only[dw,bE,bh,bC]at hc7;rw[ar (by rintro⟨a,b⟩;rcases hc7 with h|h;(rw[a]at h;cases h);omega)]at ho;rw[ho];refine aQ ?_;refine ch trivial eP (cn ah (ak D.bool ?_)) ah ⟨rfl,fun y hy=>by cases hy⟩;rfl
  simp only[dt,cq,bh,bC]at hc7;have hln:=hrn hc7.1;rw[aC ⟨hc7.1,ae⟩]at ho;rw[ho];refine bW ?_;refine aV (v:=.own 3 3 0 B.length) ?_;refine aE ?_;refine bz 1 (hb:=fun _=>ae) ?_;refine bp (v:=.str l[1]!) (hi:=fun _=>ae) ?_;refine aE ?_;refine bj (fZ.D (⟨l[1]!,u,[]⟩:fZ)) ?_;refine dq [fZ.D (⟨l[1]!,u,[]⟩:fZ)] ?_;refine iG (q:=fZ.D) (xs:=B) (e:=(⟨l[1]!,u,[]⟩:fZ)) ?_;refine aF ?_;refine aR (p8 nm v N.length (B++[(⟨l[1]!,u,[]⟩:fZ)]).length Z.length ((st:Nat):Int) 1 58 4) (he:=aW) ?_;refine aD ?_;refine aR (p8 nm v N.length (B++[(⟨l[1]!,u,[]⟩:fZ)]).length Z.length ((5:Nat):Int) 1 58 4) (he:=aW) ?_;refine aQ ?_;refine ch trivial eP (cn ah (ak D.bool ?_)) ah ⟨rfl,fun y hy=>by cases hy;exact⟨1,2,58,4,aG,⟨ah,ah,ah,ah,ah⟩⟩⟩;rfl
 simp only[bC]at hc6;have n6:¬(ai s 32)[0]! =gG:=hc6;refine aK ?_;refine wp_cond (fun hc8=>?_) (fun hc8=>?_)
 .simp only[bh]at hc8;have hw:(ai s 32)[0]! =cw:=hc8;have ho:=Uj h0 hw;rw[ho];refine aF ?_;refine dd (nx':=33) (v:=.bool (LC ⟨⟨nm,v,N,B,Z⟩,st⟩ (ai s 32)).isSome) (m':=AE (LC ⟨⟨nm,v,N,B,Z⟩,st⟩ (ai s 32)) 0 31++[]) (hc:=fun K' hK=>h476 ⟨⟨nm,v,N,B,Z⟩,st⟩ (ai s 32) ae (by show Z.length<=_;omega) _ 0 1 2 3 4 _ K' ⟨aW,aW,aW,aW,aW⟩ aG ⟨cD,cD,cD,cD,cD⟩ (by exact hK)) (hn:=aG) ?_;refine aK ?_;refine ch trivial eP (cn ah (ak D.bool ?_)) ah (I7 aG);rfl
 simp only[bC]at hc8;have n8:¬(ai s 32)[0]! =cw:=hc8;have ho:=agC h0 n1 n2 n3 n4 n6 n8;rw[ho];refine aQ ?_;refine ch trivial eP (cn ah (ak D.bool ?_)) ah ⟨rfl,fun y hy=>by cases hy⟩;rfl
noncomputable def V9:aN:=dy 102
def w819 (h533:K5 Y)(h658:NZ Y)(h827:N2 Y)(h828:VN Y)(h956:Y4 Y)(h957:VU Y)(s:av)  (hp0:s.length<=1048576):dX Y V9 (.tup [dZ.D ((jd s).getD fH),.bool (jd s).isSome]) [.str s]:=by
 show cg _ _ _ (⟨true,.str s⟩::.un::.un::.un::.un::.un::.un::.un::.un::.un::.un::.un::.un::.un::.un::.un::.un::.un::.un::.un::.un::.un::.un::.un::.un::.un::.un::.un::.un::.un::.un::.un::.un::[]) ⟨0,[]⟩;have hol:=Xb s;refine ay ?_;refine aK ?_;refine bj (dZ.D ⟨9,0,hX⟩) ?_;refine aE ?_;refine aR (dZ.D ⟨9,0,hX⟩) (he:=aW) ?_;refine bw ?_;refine dq [(.int _ _),(.int _ _),(.int _ _),(.int _ _),(.int _ _),(.int _ _),(.int _ _),(.int _ _)] ?_;refine aE ?_;intro u0;refine aD ?_;refine qQ hm (ι:=Unit) (fun _=>(⟨true,.str s⟩::⟨true,.ptr 0 7 0 0⟩::.un::.un::.un::.un::.un::.un::.un::⟨true,.ptr 3 7 0 0⟩::⟨true,.str (eE s).2⟩::.un::.un::.un::.un::.un::.un::.un::.un::.un::.un::.un::.un::.un::.un::.un::.un::.un::.un::.un::.un::.un::.un::[])) (fun _=>[(0,.buf 7 [dZ.D fH]),(3,.buf 7 [dZ.D ⟨(eE s).1,0,hX⟩])]) 40 (fun _=>True) ?_ ?_
 .refine e7 7 ?_;refine rl hm (ι:=Nat) (fun i=>(⟨true,.str s⟩::⟨true,.ptr 0 7 0 0⟩::.un::⟨true,.int .i64 (i:Nat)⟩::⟨true,.int .i64 8⟩::.un::⟨true,.sl 1 (opsL.map (D.int .i64))⟩::.un::.un::⟨true,.ptr 3 7 0 0⟩::⟨true,.str s⟩::.un::.un::.un::.un::.un::.un::.un::.un::.un::.un::.un::.un::.un::.un::.un::.un::.un::.un::.un::.un::.un::.un::[])) (fun i=>[(0,.buf 7 [dZ.D fH]),(3,.buf 7 [dZ.D ⟨9,0,hX⟩])]) 10 (fun i=>i<=8/\tj s 0=tj s i) (fun i=>8-i) 0 ⟨ae,rfl⟩ (dQ [(0,0),(3,3)]) ?_;rintro i ⟨hi,hr⟩;have hn8:opsL.length=8:=rfl;refine aF ?_;refine di (fun hc0=>?_) fun hc0=>?_
  .refine ja ?_;refine au (hc:=h957 opsL[i]!) ?_;refine au (hc:=h956 s (er opsL[i]!)) ?_;refine aE ?_;refine wp_cond (fun hc1=>?_) (fun hc1=>?_)
   .have hbl:(er opsL[i]!).length<=s.length:=by simp only[xr,bM,bh]at hc1;exact hc1.1
    have hro:eE s=(opsL[i]!,s.drop (er opsL[i]!).length):=by simp only[eE,hr,Uz (show i<8 by omega) hc1]
    refine aF ?_;refine aR (dZ.D ⟨opsL[i]!,0,hX⟩) (he:=aW) ?_;refine aK ?_;refine au (hc:=h957 opsL[i]!) ?_;refine aE ?_;intro u1;refine ga (er opsL[i]!).length (hb:=fun _=>hbl) ?_;refine aQ ?_;simp only[hro];exact⟨(),trivial,(dQ [(0,0),(3,3)])⟩
   skip
   refine bw ?_;exact⟨i+1,⟨ae,by rw[hr,UA ae hc1]⟩,ae,(dQ [(0,0),(3,3)])⟩
  refine aF ?_;have hro:eE s=(9,s):=by simp only[eE,hr,FD (show 8<=i by omega)]
  simp only[hro];exact⟨(),trivial,(dQ [(0,0),(3,3)])⟩
 .rintro _-
  refine aK ?_;intro u2;refine aD ?_;refine qQ hm (ι:=Unit) (fun _=>(⟨true,.str s⟩::⟨true,.ptr 0 7 0 0⟩::.un::.un::.un::.un::.un::.un::.un::⟨true,.ptr 3 7 0 0⟩::⟨true,.str (gr s).1⟩::.un::.un::.un::.un::.un::.un::.un::.un::.un::.un::.un::.un::.un::.un::.un::.un::.un::.un::.un::.un::.un::.un::[])) (fun _=>[(0,.buf 7 [dZ.D fH]),(3,.buf 7 [dZ.D ⟨(eE s).1,0,{hX with pre:=(gr s).2}⟩])]) 60 (fun _=>True) ?_ ?_
  .refine rl hm (ι:=Nat) (fun i=>(⟨true,.str s⟩::⟨true,.ptr 0 7 0 0⟩::.un::.un::.un::.un::.un::.un::.un::⟨true,.ptr 3 7 0 0⟩::⟨true,.str (eE s).2⟩::⟨true,.int .i64 (i:Nat)⟩::⟨true,.int .i64 ((eE s).2.length:Nat)⟩::.un::.un::.un::.un::.un::.un::.un::.un::.un::.un::.un::.un::.un::.un::.un::.un::.un::.un::.un::.un::[])) (fun i=>[(0,.buf 7 [dZ.D fH]),(3,.buf 7 [dZ.D ⟨(eE s).1,0,hX⟩])]) 43 (fun i=>i<=(eE s).2.length/\gr s=jA (eE s).2 i) (fun i=>(eE s).2.length-i) 0 ⟨ae,rfl⟩ (dQ [(0,0),(3,3)]) ?_;rintro i ⟨hi,hr⟩;refine aF ?_;refine di (fun hc2=>?_) fun hc2=>?_
   .refine jX ?_;refine wp_cond (fun hc3=>?_) (fun hc3=>?_)
    .simp only[bh]at hc3;have hpr:gr s=((eE s).2.take i,(eE s).2.drop (i+1)):=by rw[hr,UF ae hc3]
     refine aK ?_;refine ga (i+1) ?_;refine aD ?_;refine aR (dZ.D ⟨(eE s).1,0,{hX with pre:=(eE s).2.drop (i+1)}⟩) (he:=aW) ?_;refine aK ?_;refine lf _ ?_;refine aQ ?_;simp only[hpr];exact⟨(),trivial,(dQ [(0,0),(3,3)])⟩
    try simp only[cX]at hc3
    refine bw ?_;exact⟨i+1,⟨ae,by rw[hr,UG ae hc3]⟩,ae,(dQ [(0,0),(3,3)])⟩
   refine aF ?_;have hpr:gr s=((eE s).2,[]):=by rw[hr,Mu ae]
   simp only[hpr];exact⟨(),trivial,(dQ [(0,0),(3,3)])⟩
  .rintro _-
   have hpl:(gr s).1.length<=s.length/\(gr s).2.length<=s.length:=by
    have:=FM (eE s).2;exact⟨by show(jA _ 0).1.length<=_;omega,by show(jA _ 0).2.length<=_;omega⟩
   have hlp:1<=(ai (gr s).1 46).length:=eN _ _ _;have hln:=cJ (gr s).1 46;refine aD ?_;refine au (hc:=h533 (gr s).1 46 ae) ?_;refine bW ?_;refine qQ hm (ι:=Unit) (fun _=>(⟨true,.str s⟩::⟨true,.ptr 0 7 0 0⟩::.un::.un::.un::.un::.un::.un::.un::⟨true,.ptr 3 7 0 0⟩::.un::.un::.un::.un::.un::.un::.un::⟨true,.sl 1 ((fK s).map D.str)⟩::.un::.un::.un::.un::.un::.un::.un::.un::.un::.un::.un::.un::.un::.un::.un::[])) (fun _=>[(0,.buf 7 [dZ.D fH]),(3,.buf 7 [dZ.D ⟨(eE s).1,0,{hX with pre:=(gr s).2}⟩])]) 80 (fun _=>qN s) ?_ ?_
   .refine wp_cond (fun hc4=>?_) (fun hc4=>?_)
    .try simp only[cX]at hc4
     refine aU ?_;intro u3;refine aE ?_;refine bz ((ai (gr s).1 46).length-1) (hj:=fun _=>ae) (hb:=fun _=>ae) ?_;refine aF ?_;refine az (fun hc5=>?_) (fun hc5=>?_)
     .simp only[bE,bC]at hc5;have hno:=mC (s:=s) (fun h=>hc5 (h.1 hc4));refine aD ?_;refine bj (dZ.D fH) ?_;refine aU ?_;refine bT (aS ?_ (ak D.bool ?_));all_goals (rw[hno];rfl)
     simp only[cq,bh]at hc5;have hst:qN s:=fun _=>hc5
     have hrl:fK s=(ai (gr s).1 46).take ((ai (gr s).1 46).length-1):=aC hc4;refine aU ?_;intro u4;refine aE ?_;refine my ((ai (gr s).1 46).length-1) (hj:=fun _=>ae) (hb:=fun _=>ae) ?_;refine aF ?_;simp only[hrl];exact⟨(),hst,(dQ [(0,0),(3,3)])⟩
    simp only[bC]at hc4;have hst:qN s:=fun h=>absurd h hc4
    have hrl:fK s=(ai (gr s).1 46):=ar hc4;refine aD ?_;simp only[hrl];exact⟨(),hst,(dQ [(0,0),(3,3)])⟩
   .rintro _ hst;refine aK ?_;intro u5;refine aD ?_;refine az (fun hc6=>?_) (fun hc6=>?_)
    .simp only[bh]at hc6;have hno:=mC (s:=s) (fun h=>by have:=h.2.1;simp only[gJ,bM,bh]at this;omega);refine aD ?_;refine bj (dZ.D fH) ?_;refine aK ?_;refine bT (aS ?_ (ak D.bool ?_));all_goals (rw[hno];rfl)
    try simp only[cX]at hc6
    refine aK ?_;intro u6;refine aE ?_;refine aR (dZ.D ⟨(eE s).1,((fK s).length:Nat),{hX with pre:=(gr s).2}⟩) (he:=aW) ?_;refine aU ?_;intro u7;refine aD ?_;have hb:gJ (fK s)=c9 (fun i=>gV (fK s)[i]!) 0 (fK s).length:=by simp only[gJ];rw[bY ae];rfl
    refine br hm (ι:=Nat) (fun i=>(⟨true,.str s⟩::⟨true,.ptr 0 7 0 0⟩::.un::.un::.un::.un::.un::.un::.un::⟨true,.ptr 3 7 0 0⟩::.un::.un::.un::.un::.un::.un::.un::.un::.un::.un::⟨true,.int .i64 (i:Nat)⟩::⟨true,.int .i64 ((fK s).length:Nat)⟩::.un::⟨true,.sl 1 ((fK s).map D.str)⟩::.un::.un::.un::.un::.un::.un::.un::.un::.un::[])) (fun i=>[(0,.buf 7 [dZ.D fH]),(3,.buf 7 [dZ.D ⟨(eE s).1,((fK s).length:Nat),{Uy (fK s) i with pre:=(gr s).2}⟩])]) 90 (fun i=>i<=(fK s).length/\gJ (fK s)=c9 (fun i=>gV (fK s)[i]!) i (fK s).length) (fun i=>(fK s).length-i) 0 ⟨ae,hb⟩ (dQ [(0,0),(3,3)]) ?_;rintro i ⟨hi,hr⟩;refine aF ?_;refine di (fun hc7=>?_) fun hc7=>?_
    .refine gE ?_;refine au (hc:=h658 (fK s)[i]!) ?_;refine gE ?_;refine az (fun hc8=>?_) (fun hc8=>?_)
     .simp only[bE]at hc8;have hno:=mC (s:=s) (fun h=>by have:=h.2.1;rw[hr,bc ae,hc8]at this;cases this);refine aD ?_;refine bj (dZ.D fH) ?_;refine aQ ?_;refine bT (aS ?_ (ak D.bool ?_));all_goals (rw[hno];rfl)
     simp only[cq]at hc8;refine dJ ?_;refine wp_cond (fun hc9=>?_) (fun hc9=>?_)
     .simp only[bh]at hc9;have hi0:i=0:=ae;refine aK ?_;refine aR (dZ.D ⟨(eE s).1,((fK s).length:Nat),{Uy (fK s) (i+1)with pre:=(gr s).2}⟩) (he:=by subst hi0;exact rfl) ?_;refine bW ?_;exact⟨i+1,⟨ae,by rw[hr,bc ae,hc8];rfl⟩,ae,(dQ [(0,0),(3,3)])⟩
     try simp only[cX]at hc9
     refine aK ?_;refine wp_cond (fun hc10=>?_) (fun hc10=>?_)
     .simp only[bh]at hc10;have hi0:i=1:=ae;refine aK ?_;refine aR (dZ.D ⟨(eE s).1,((fK s).length:Nat),{Uy (fK s) (i+1)with pre:=(gr s).2}⟩) (he:=by subst hi0;exact rfl) ?_;refine bW ?_;exact⟨i+1,⟨ae,by rw[hr,bc ae,hc8];rfl⟩,ae,(dQ [(0,0),(3,3)])⟩
     simp only[bC]at hc10;have hi0:i=2:=ae;refine aK ?_;refine aR (dZ.D ⟨(eE s).1,((fK s).length:Nat),{Uy (fK s) (i+1)with pre:=(gr s).2}⟩) (he:=by subst hi0;exact rfl) ?_;refine bW ?_;exact⟨i+1,⟨ae,by rw[hr,bc ae,hc8];rfl⟩,ae,(dQ [(0,0),(3,3)])⟩
    refine aK ?_;obtain rfl:i=(fK s).length:=ae;have hok:gJ (fK s)=true:=by rw[hr,cL ae]
    have hsm:(gb s).v.sm:=⟨by show(gr s).2.length<=_;omega,by show([]:av).length<=_;simp⟩;refine cO (d:=dZ.D (gb s)) ?_;refine au (hc:=h827 (gb s) hsm) ?_;refine aD ?_;refine cO (d:=dZ.D (gb s)) ?_;refine eD (hc:=fun _=>h828 (gb s) hsm) ?_;refine aK ?_;refine az (fun hc11=>?_) (fun hc11=>?_)
    .simp only[dw,bE,bC]at hc11;have hno:=mC (s:=s) (fun h=>by rcases hc11 with h1|h1;rw[h.2.2.1]at h1;cases h1;exact h1 h.2.2.2);refine aD ?_;refine bj (dZ.D fH) ?_;refine aK ?_;refine bT (aS ?_ (ak D.bool ?_));all_goals (rw[hno];rfl)
    simp only[dt,cq,bh]at hc11;have hyes:jd s=some (gb s):=by unfold jd;rw[aC ⟨hst,hok,hc11⟩]
    refine aD ?_;refine cO (d:=dZ.D (gb s)) ?_;refine aK ?_;refine bT (aS ?_ (ak D.bool ?_));all_goals (rw[hyes];rfl)
noncomputable def abz:aN:=dy 178
def w899 (h676:VJ Y)(r:Eu)  (hp0:qK r):dX Y abz (.bool (lV r)) [iN r]:=by
 show cg _ _ _ [⟨_,_⟩,_,_,_,_,_,_,_,_,_] _;refine ay ?_;refine bW ?_;intro u0;refine aK ?_;refine gN ?_;refine aF ?_;refine di (fun hc0=>?_) fun hc0=>?_
 .refine aU ?_;refine cd ?_;symm;simp only[lV];rcases hc0 with h|h
  .rw[cy ae];rfl
  .rw[cy (by omega:¬r.length<=6),Bool.and_false];rfl
 refine aU ?_;have hb:lV r=c9 (fun i=>l5 r[i]!) 0 r.length:=by simp only[lV];rw[bY ae,bY ae];rfl
 refine br hm (ι:=Nat) (fun i=>[.un,.un,⟨true,.ptr 0 1 0 0⟩,.un,⟨true,.int .i64 (i:Nat)⟩,.un,.un,.un,.un,.un]) (fun i=>[(0,.buf 1 [iN r])]) 13 (fun i=>i<=r.length/\lV r=c9 (fun i=>l5 r[i]!) i r.length) (fun i=>r.length-i) 0 ⟨ae,hb⟩ (dQ [(0,0)]) ?_;rintro i ⟨hi,hr⟩;refine aQ ?_;intro u1;refine aD ?_;refine di (fun hc1=>?_) fun hc1=>?_
 .refine ja ?_;intro u2;refine bw ?_;refine gN ?_;refine aF ?_;refine di (fun hc2=>?_) fun hc2=>?_
  .refine bw ?_;refine cd ?_;rw[hr,bc ae];have:l5 r[i]! =false:=by
    simp only[l5];rcases hc2 with h|h
    .rw[cy ae];rfl
    .rw[cy (by omega:¬r[i]!.length<=6),Bool.and_false];rfl
   rw[this];rfl
  refine aK ?_;have hkb:l5 r[i]! =c9 (fun k=>pJ r[i]![k]!) 0 r[i]!.length:=by simp only[l5];rw[bY ae,bY ae];rfl
  refine rl hm (ι:=Nat) (fun k=>[.un,.un,⟨true,.ptr 0 1 0 0⟩,.un,⟨true,.int .i64 (i:Nat)⟩,.un,.un,⟨true,.int .i64 (k:Nat)⟩,.un,.un]) (fun k=>[(0,.buf 1 [iN r])]) 35 (fun k=>k<=r[i]!.length/\l5 r[i]! =c9 (fun k=>pJ r[i]![k]!) k r[i]!.length) (fun k=>r[i]!.length-k) 0 ⟨ae,hkb⟩ (dQ [(0,0)]) ?_;rintro k ⟨hk,hkr⟩;refine dJ ?_;intro u3;refine aD ?_;refine di (fun hc3=>?_) fun hc3=>?_
  .refine ja ?_;first|refine bp (v:=(dZ.D _)) ?_|refine gI (v:=(dZ.D _)) ?_
   refine au (hc:=h676 r[i]![k]! (hp0 r[i]! (bL ae) _ (bL ae)).sm) ?_;refine aD ?_;refine wp_cond (fun hc4=>?_) (fun hc4=>?_)
   .simp only[bE]at hc4;refine bW ?_;refine cd ?_;rw[hr,bc ae,hkr,bc ae,hc4];rfl
   simp only[cq]at hc4;refine bW ?_;exact⟨k+1,⟨ae,by rw[hkr,bc ae,hc4];rfl⟩,ae,(dQ [(0,0)])⟩
  refine dJ ?_;exact⟨i+1,⟨ae,by rw[hr,bc ae,hkr,cL ae];rfl⟩,ae,(dQ [(0,0)])⟩
 refine aQ ?_;refine cd ?_;rw[hr,cL ae]
noncomputable def Xp:aN:=dy 179
def w900 (h482:NX Y)(r:Eu)  (hp0:lV r=true/\qK r):dX Y Xp (.str (J8 r)) [iN r]:=by
 show cg _ _ _ [⟨_,_⟩,_,_,_,_,_,_,_,_,_] _;have hlen:=abE hp0.1 hp0.2;have hjl:=fun i=>we [32,124,124,32] (r.map kK) i
 have hrl:∀i,(aO [32,124,124,32] ((r.map kK).take i)).length<=40000:=fun i=>c7 (hjl i) hlen
 have hpl:∀i,(wR [32,124,124,32] (r.map kK) i).length<=40004:=fun i=>by
  unfold wR;split
  .have:=hrl i;simp only[bH,aM,aX];omega
  .simp
 refine ay ?_;refine ja ?_;refine br hm (ι:=Nat) (fun i=>[.un,.un,⟨true,.int .i64 (i:Nat)⟩,⟨true,.ptr 0 1 0 0⟩,.un,.un,⟨true,.str (aO [32,124,124,32] ((r.map kK).take i))⟩,.un,.un,.un]) (fun i=>[(0,.buf 1 [iN r])]) 4 (fun i=>i<=r.length) (fun i=>r.length-i) 0 ae (dQ [(0,0)]) ?_;intro i hi;have hil:=hrl i;refine aQ ?_;intro u0;refine aD ?_;refine di (fun hc0=>?_) fun hc0=>?_
 .refine bw ?_;refine qQ hm (ι:=Unit) (fun _=>[.un,.un,⟨true,.int .i64 (i:Nat)⟩,⟨true,.ptr 0 1 0 0⟩,.un,.un,⟨true,.str (wR [32,124,124,32] (r.map kK) i)⟩,.un,.un,.un]) (fun _=>[(0,.buf 1 [iN r])]) 50 (fun _=>True) ?_ ?_
  .refine iI (fun hc1=>?_) fun hc1=>?_
   .refine aD ?_;refine dD (hb:=fun _=>cD) ?_;refine aF ?_;rw[show aO [32,124,124,32] ((r.map kK).take i)++[32,124,124,32]=wR [32,124,124,32] (r.map kK) i from(aC ae).symm];exact⟨(),trivial,(dQ [(0,0)])⟩
   refine aD ?_;rw[aa0 [32,124,124,32] (r.map kK) (show ¬0<i by omega)];exact⟨(),trivial,(dQ [(0,0)])⟩
  .rintro _-
   have hpi:=hpl i;have hao:=AF (ET hp0.1 (show i<r.length by omega));have hcl:∀k,k<r[i]!.length->(eY r[i]![k]!).length<=1100:=fun k hk=>EN (hp0.2 r[i]! (bL ae) _ (bL hk))
   have hal:=Ew (hp0.2 r[i]! (bL ae)) hao.2;have hkl:∀k,(aO [44,32] ((r[i]!.map eY).take k)).length<=6612:=fun k=>c7 (we _ _ _) hal
   refine aF ?_;rw[show wR [32,124,124,32] (r.map kK) i=wR [32,124,124,32] (r.map kK) i++aO [44,32] ((r[i]!.map eY).take 0)by simp[aO]];refine rl hm (ι:=Nat) (fun k=>[.un,.un,⟨true,.int .i64 (i:Nat)⟩,⟨true,.ptr 0 1 0 0⟩,.un,.un,⟨true,.str (wR [32,124,124,32] (r.map kK) i++aO [44,32] ((r[i]!.map eY).take k))⟩,⟨true,.int .i64 (k:Nat)⟩,.un,.un]) (fun k=>[(0,.buf 1 [iN r])]) 51 (fun k=>k<=r[i]!.length) (fun k=>r[i]!.length-k) 0 ae (dQ [(0,0)]) ?_;intro k hk;have hkk:=hkl k;refine dJ ?_;intro u1;refine aD ?_;refine di (fun hc2=>?_) fun hc2=>?_
   .refine bw ?_;refine di (fun hc3=>?_) fun hc3=>?_
    .refine aD ?_;refine gv ?_;refine aF ?_;have hjk:=A6 [44,32] (r[i]!.map eY) k (by rw[bB];omega);rw[JE eY r[i]! (show k<r[i]!.length by omega)]at hjk;refine bW ?_;first|refine bp (v:=(dZ.D _)) ?_|refine gI (v:=(dZ.D _)) ?_
     refine au (hc:=h482 r[i]![k]! (hp0.2 r[i]! (bL ae) _ (bL ae)).sm) ?_;refine dD (hb:=fun _=>by have:=hcl k ae;simp only[bH,aM,aX];omega) ?_;refine dJ ?_;rw[show wR [32,124,124,32] (r.map kK) i++aO [44,32] ((r[i]!.map eY).take k)++[44,32]++eY r[i]![k]! =wR [32,124,124,32] (r.map kK) i++aO [44,32] ((r[i]!.map eY).take (k+1))by rw[hjk,show wR [44,32] (r[i]!.map eY) k=aO [44,32] ((r[i]!.map eY).take k)++[44,32]from aC ae];simp only[eh]];exact⟨k+1,ae,ae,(dQ [(0,0)])⟩
    refine aD ?_;have hjk:=A6 [44,32] (r[i]!.map eY) k (by rw[bB];omega);rw[JE eY r[i]! (show k<r[i]!.length by omega)]at hjk;refine bW ?_;first|refine bp (v:=(dZ.D _)) ?_|refine gI (v:=(dZ.D _)) ?_
    refine au (hc:=h482 r[i]![k]! (hp0.2 r[i]! (bL ae) _ (bL ae)).sm) ?_;refine dD (hb:=fun _=>by have:=hcl k ae;simp only[bH,aM,aX];omega) ?_;refine dJ ?_;rw[show wR [32,124,124,32] (r.map kK) i++aO [44,32] ((r[i]!.map eY).take k)++eY r[i]![k]! =wR [32,124,124,32] (r.map kK) i++aO [44,32] ((r[i]!.map eY).take (k+1))by rw[hjk,aa0 [44,32] (r[i]!.map eY) (show ¬0<k by omega)];simp only[eh]];exact⟨k+1,ae,ae,(dQ [(0,0)])⟩
   refine dJ ?_;obtain rfl:k=r[i]!.length:=ae;have hji:=A6 [32,124,124,32] (r.map kK) i (by rw[bB];omega);rw[JE kK r (show i<r.length by omega)]at hji;rw[show wR [32,124,124,32] (r.map kK) i++aO [44,32] ((r[i]!.map eY).take r[i]!.length)=aO [32,124,124,32] ((r.map kK).take (i+1))by rw[hji,fq (by rw[bB];exact aH _)];rfl];exact⟨i+1,ae,ae,(dQ [(0,0)])⟩
 refine bw ?_;refine du ?_;rw[fq dk];rfl
noncomputable def aby:aN:=dy 180
def w901 {Y:Ctx}(hm:(Y.at 0).cP)(h899:VO Y)(h900:N3 Y)(r:Eu)  (hp0:qK r):dX Y aby (.bool (ya r)) [iN r]:=by
 show cg _ _ _ [⟨_,_⟩,_,_] _;refine ay ?_;refine aU ?_;refine au (hc:=h899 r hp0) ?_;refine aD ?_;refine eD (hc:=fun hf=>h900 r ⟨by simpa using hf,hp0⟩) ?_;refine gN ?_;refine aU ?_;refine cd ?_;simp only[ya];congr 1;exact jO.2 ae
noncomputable def Td:aN:=dy 121
def w745 {Y:Ctx}(hm:(Y.at 0).cP)(h900:N3 Y)(h901:Y2 Y)(r:Eu)  (hp0:qK r):dX Y Td (.str (B7 r)) [iN r]:=by
 show cg _ _ _ [⟨_,_⟩,_,_,_] _;refine ay ?_;refine aQ ?_;refine au (hc:=h901 r hp0) ?_;refine aD ?_;refine az (fun hc0=>?_) (fun hc0=>?_)
 .simp only[bE]at hc0;refine aU ?_;refine du ?_;simp[B7,hc0]
 simp only[cq]at hc0;have hfw:lV r=true:=by simp only[ya,bM]at hc0;exact hc0.1
 refine aF ?_;refine au (hc:=h900 r ⟨hfw,hp0⟩) ?_;refine aF ?_;refine du ?_;simp[B7,hc0]
noncomputable def S0:aN:=dy 28
def w344 (h216:GR Y)(l:List dH)   :dX Y S0 (.tup [.int .i64 (qE l).1,.int .i64 (qE l).2]) [.sl 2 (l.map dH.D)]:=by
 show cg _ _ _ [⟨_,_⟩,_,_,_,_,_] _;refine ay ?_;refine bw ?_;refine br hm (ι:=Nat) (fun i=>[⟨true,.sl 2 (l.map dH.D)⟩,.un,.un,⟨true,.int .i64 (i:Nat)⟩,.un,.un]) (fun i=>[]) 3 (fun i=>i<=l.length/\qE l=gA (SE l) i l.length) (fun i=>l.length-i) 0 ⟨ae,rfl⟩ (dQ []) ?_;rintro i ⟨hi,hr⟩;refine aU ?_;intro u0;refine aD ?_;refine di (fun hc0=>?_) fun hc0=>?_
 .refine aU ?_;refine bz i (hb:=fun _=>ae) ?_;refine aE ?_;refine bp (v:=.str l[i]!.name) (hi:=fun _=>ae) ?_;refine au (hc:=h216 l[i]!.name) ?_;refine aK ?_;refine bz i (hb:=fun _=>ae) ?_;refine aE ?_;refine bp (v:=.str l[i]!.shelf) (hi:=fun _=>ae) ?_;refine eD (hc:=fun hf=>h216 l[i]!.shelf) ?_;refine bW ?_;refine mz (hb:=fun hf=>by simp at hf;omega) ?_;refine bz (i-1) (hj:=fun hf=>by simp at hf;omega) (hb:=fun hf=>by simp at hf;omega) ?_;refine aE ?_;refine bp (v:=.str l[(i-1)]!.name) (hi:=fun hf=>by simp at hf;omega) ?_;refine aD ?_;refine bz i (hb:=fun _=>ae) ?_;refine aE ?_;refine bp (v:=.str l[i]!.name) (hi:=fun _=>ae) ?_;refine aK ?_;refine wp_cond (fun hc1=>?_) (fun hc1=>?_)
  .simp only[cX]at hc1;simp only[gt_iff_lt,Int.natCast_pos]at hc1;have hz:=Ms hc1;refine bW ?_;refine bT (aS (ak (D.int .i64) ?_) (ak (D.int .i64) ?_));all_goals rw[hr,gl ae (by rw[hz];decide),hz]
  simp only[cX]at hc1;simp only[gt_iff_lt,Int.natCast_pos]at hc1;have hz:=UE (l:=l) (i:=i) (by rintro((h|h)|⟨h,h2⟩)<;>simp_all);refine bW ?_;exact⟨i+1,⟨ae,by rw[hr,iq ae hz]⟩,ae,(dQ [])⟩
 refine bw ?_;refine bT (aS (ak (D.int .i64) ?_) (ak (D.int .i64) ?_));all_goals rw[hr,fT ae]
noncomputable def MV:aN:=dy 29
def w345 (h216:GR Y)(h572:NY Y)(l:List bV)  (hp0:∀x∈l,x.range.length<=1048576):dX Y MV (.tup [.int .i64 (nr l).1,.int .i64 (nr l).2]) [.sl 2 (l.map bV.D)]:=by
 show cg _ _ _ [⟨_,_⟩,_,_,_,_,_,_] _;refine ay ?_;refine bw ?_;refine br hm (ι:=Nat) (fun i=>[⟨true,.sl 2 (l.map bV.D)⟩,.un,.un,⟨true,.int .i64 (i:Nat)⟩,.un,.un,.un]) (fun i=>[]) 3 (fun i=>i<=l.length/\nr l=gA (xa l) i l.length) (fun i=>l.length-i) 0 ⟨ae,rfl⟩ (dQ []) ?_;rintro i ⟨hi,hr⟩;refine aU ?_;intro u0;refine aD ?_;refine di (fun hc0=>?_) fun hc0=>?_
 .refine aQ ?_;refine bz i (hb:=fun _=>ae) ?_;refine aE ?_;refine bp (v:=.str l[i]!.name) (hi:=fun _=>ae) ?_;refine au (hc:=h216 l[i]!.name) ?_;refine bw ?_;refine mz (hb:=fun hf=>by simp at hf;omega) ?_;refine bz (i-1) (hj:=fun hf=>by simp at hf;omega) (hb:=fun hf=>by simp at hf;omega) ?_;refine aE ?_;refine bp (v:=.str l[(i-1)]!.name) (hi:=fun hf=>by simp at hf;omega) ?_;refine aD ?_;refine bz i (hb:=fun _=>ae) ?_;refine aE ?_;refine bp (v:=.str l[i]!.name) (hi:=fun _=>ae) ?_;refine aK ?_;refine az (fun hc1=>?_) (fun hc1=>?_)
  .simp only[cX]at hc1;simp only[gt_iff_lt,Int.natCast_pos]at hc1;have hz:=T3 hc1;refine dJ ?_;refine bT (aS (ak (D.int .i64) ?_) (ak (D.int .i64) ?_));all_goals rw[hr,gl ae (by rw[hz];decide),hz]
  simp only[cX]at hc1;simp only[gt_iff_lt,Int.natCast_pos]at hc1;have hq:¬(eV l[i]!.name=false\/(0<i/\Op.bytesLess l[i-1]!.name l[i]!.name=false)):=by rintro(h|⟨h,h2⟩)<;>simp_all
  refine aK ?_;refine bz i (hb:=fun _=>ae) ?_;refine aE ?_;refine bp (v:=.str l[i]!.range) (hi:=fun _=>ae) ?_;refine au (hc:=h572 l[i]!.range (hp0 _ (bL ae))) ?_;refine aD ?_;refine wp_cond (fun hc2=>?_) (fun hc2=>?_)
  .simp only[cX]at hc2;have hz:=T4 hq hc2;refine bW ?_;refine bT (aS (ak (D.int .i64) ?_) (ak (D.int .i64) ?_));all_goals rw[hr,gl ae (by rw[hz];decide),hz]
  simp only[cX]at hc2;have hz:=LY hq hc2;refine bW ?_;exact⟨i+1,⟨ae,by rw[hr,iq ae hz]⟩,ae,(dQ [])⟩
 refine bw ?_;refine bT (aS (ak (D.int .i64) ?_) (ak (D.int .i64) ?_));all_goals rw[hr,fT ae]
noncomputable def MR:aN:=dy 11
def w136 {Y:Ctx}(hm:(Y.at 0).cP)(h71:C71 Y)(h344:C344 Y)(h345:C345 Y)(m:fD)  (hp0:qY m):dX Y MR (.tup [.int .i64 (ey m).1,.int .i64 (ey m).2]) [fD.D m]:=by
 show cg _ _ _ [⟨_,_⟩,_,_,_,_,_,_,_,_,_,_] _;refine ay ?_;refine bw ?_;refine aV (v:=Rec.D m.r) ?_;refine au (hc:=h71 m.r hp0.1) ?_;refine gE ?_;refine az (fun hc0=>?_) (fun hc0=>?_)
 .simp only[cX]at hc0;refine bW ?_;refine bT (aS (ak (D.int .i64) ?_) (ak (D.int .i64) ?_));all_goals rw[Lw hc0]
 simp only[cX]at hc0;have q0:¬¬(cE m.r).1=0:=fun h=>h hc0
 refine aK ?_;refine aV (v:=.sl 2 (m.ps.map dH.D)) ?_;refine aE ?_;intro u0;refine aF ?_;refine aV (v:=.sl 2 (m.hs.map bV.D)) ?_;refine gN ?_;refine aF ?_;refine az (fun hc1=>?_) (fun hc1=>?_)
 .simp only[cX]at hc1;have hz:=Lv q0 ae;refine aQ ?_;refine bT (aS (ak (D.int .i64) ?_) (ak (D.int .i64) ?_));all_goals rw[hz]
 simp only[cX]at hc1;have q1:¬(8<m.ps.length\/8<m.hs.length):=ae;refine aK ?_;refine aV (v:=.sl 2 (m.ps.map dH.D)) ?_;refine au (hc:=h344 m.ps) ?_;refine gE ?_;refine az (fun hc2=>?_) (fun hc2=>?_)
 .simp only[cX]at hc2;have hz:=EM q0 q1 rfl hc2;refine bW ?_;refine bT (aS (ak (D.int .i64) ?_) (ak (D.int .i64) ?_));all_goals rw[hz]
 simp only[cX]at hc2;have hz:=ug q0 q1 hc2 rfl;refine aF ?_;refine aV (v:=.sl 2 (m.hs.map bV.D)) ?_;refine au (hc:=h345 m.hs hp0.2) ?_;refine aQ ?_;refine bT (aS (ak (D.int .i64) ?_) (ak (D.int .i64) ?_));all_goals rw[hz]
noncomputable def SV:aN:=dy 139
def w475 (h249:GS Y)(h470:wI Y)(s:av)(n:Nat)  (hp0:s.length<=1048576)(hp1:n<=100):dX Y SV (.tup [.sl 1 ((iK s n).1.map D.str),.str (iK s n).2.1,.bool (iK s n).2.2]) [.str s,.int .i64 (n:Nat)]:=by
 show cg _ _ _ [⟨_,_⟩,⟨_,_⟩,_,_,_,_,_,_,_,_,_] _;have hsl:=cJ s 32;refine ay ?_;refine aQ ?_;refine au (v:=.sl 1 ((ai s 32).map D.str)) (hc:=h470 s 32 hp0) ?_;refine aQ ?_;intro u0;refine aF ?_;refine az (fun hc0=>?_) (fun hc0=>?_)
 .simp only[bh]at hc0;have hrd:iK s n=([],[],false):=by unfold iK ym;rw[cy ae];rfl
  rw[hrd];refine bw ?_;refine bT (dG ?_ ?_ ?_);all_goals rfl
 simp only[bC]at hc0;have hlt:n<(ai s 32).length:=ae;refine aU ?_;refine br hm (ι:=Nat) (fun i=>[⟨true,.str s⟩,⟨true,.int .i64 (n:Nat)⟩,⟨true,.bg⟩,⟨true,.str []⟩,⟨true,.bool false⟩,⟨true,.sl 1 ((ai s 32).map D.str)⟩,.un,⟨true,.int .i64 (i:Nat)⟩,.un,.un,.un]) (fun i=>[]) 11 (fun i=>i<=n/\ym s n=c9 (fun i=>!decide ((ai s 32)[i]! =[])) i n) (fun i=>n-i) 0 ⟨ae,by unfold ym;rw[bY hlt];rfl⟩ (dQ []) ?_;rintro i ⟨hi,hr⟩;refine aQ ?_;refine di (fun hc1=>?_) fun hc1=>?_
 .refine aU ?_;refine bz i (hb:=fun _=>ae) ?_;refine bp (v:=.str (ai s 32)[i]!) (hi:=fun _=>ae) ?_;refine aD ?_;refine iI (fun hc2=>?_) fun hc2=>?_
  .refine aE ?_;have hrd:iK s n=([],[],false):=by unfold iK;rw[hr,bc ae,bY hc2];rfl
   rw[hrd];refine bw ?_;refine bT (dG ?_ ?_ ?_);all_goals rfl
  refine bW ?_;exact⟨i+1,⟨ae,by rw[hr,bc ae,cy hc2];rfl⟩,ae,(dQ [])⟩
 refine aF ?_;have hro:ym s n=true:=by rw[hr,cL ae]
 have hrd:iK s n=((ai s 32).take n,aO [32] ((ai s 32).drop n),!decide (aO [32] ((ai s 32).drop n)=[])):=by unfold iK;rw[aC hro]
 rw[hrd];refine aD ?_;refine sk n (hb:=fun _=>ae) ?_;refine au (v:=.str (aO [32] ((ai s 32).drop n))) (hc:=h249 ((ai s 32).drop n) 32 (by have:=qv 32 (ai s 32) n;rw[iz (b:=32) (x:=32) rfl s]at this;omega)) ?_;refine aU ?_;refine my n (hb:=fun _=>ae) ?_;refine bW ?_;refine bT (dG ?_ ?_ ?_);all_goals rfl
noncomputable def Xh:aN:=dy 138
def w474  (l:List av)(n:Nat)   :dX Y Xh (.bool (Bk l n)) [.sl 1 (l.map D.str),.int .i64 (n:Nat)]:=by
 show cg _ _ _ [⟨_,_⟩,⟨_,_⟩,_,_,_,_,_] _;refine ay ?_;refine aQ ?_;intro u0;refine aF ?_;refine di (fun hc0=>?_) fun hc0=>?_
 .refine aU ?_;refine cd ?_;rw[Mk,cy ae];rfl
 refine aU ?_;refine br hm (ι:=Nat) (fun i=>[⟨true,.sl 1 (l.map D.str)⟩,⟨true,.int .i64 (n:Nat)⟩,⟨true,.bool false⟩,.un,⟨true,.int .i64 (i:Nat)⟩,.un,.un]) (fun i=>[]) 6 (fun i=>i<=l.length/\Bk l n=c9 (fun i=>!decide (l[i]! =[])) i l.length) (fun i=>l.length-i) 0 ⟨ae,by rw[Mk,bY ae];rfl⟩ (dQ []) ?_;rintro i ⟨hi,hr⟩;refine aU ?_;intro u1;refine aD ?_;refine di (fun hc1=>?_) fun hc1=>?_
 .refine aU ?_;refine bz i (hb:=fun _=>ae) ?_;refine bp (v:=.str l[i]!) (hi:=fun _=>ae) ?_;refine aD ?_;refine iI (fun hc2=>?_) fun hc2=>?_
  .refine aQ ?_;refine cd ?_;rw[hr,bc ae,bY hc2];rfl
  refine bW ?_;exact⟨i+1,⟨ae,by rw[hr,bc ae,cy hc2];rfl⟩,ae,(dQ [])⟩
 refine aQ ?_;refine cd ?_;rw[hr,cL ae]
noncomputable def MM:aN:=dy 40
def w223 {Y:Ctx}(hm:(Y.at 0).cP)(h470:wI Y)(s:av)  (hp0:s.length<=1048576):dX Y MM (.tup [.sl 1 ((aJ s).1.map D.str),.bool (aJ s).2]) [.str s]:=by
 show cg _ _ _ [⟨_,_⟩,_,_,_,_,_] _;have hsp:1<=(ai s 10).length:=eN 10 s [];have hsl:=cJ s 10;refine ay ?_;refine aU ?_;refine au (v:=.sl 1 ((ai s 10).map D.str)) (hc:=h470 s 10 hp0) ?_;refine aU ?_;intro u0;refine bw ?_;refine bz ((ai s 10).length-1) (hj:=fun _=>ae) (hb:=fun _=>ae) ?_;refine bp (v:=.str (ai s 10)[(ai s 10).length-1]!) (hi:=fun _=>ae) ?_;refine aD ?_;refine di (fun hc0=>?_) fun hc0=>?_
 .refine aD ?_;have hlx:aJ s=(((ai s 10).take ((ai s 10).length-1)),true):=by unfold aJ;rw[aC hc0]
  rw[hlx];refine aD ?_;refine my ((ai s 10).length-1) (hj:=fun _=>ae) (hb:=fun _=>ae) ?_;refine aK ?_;refine bT (aS ?_ ?_);all_goals rfl
 refine aD ?_;have hlx:aJ s=((ai s 10),false):=by unfold aJ;rw[ar hc0]
 rw[hlx];refine aU ?_;refine bT (aS ?_ ?_);all_goals rfl
noncomputable def Xo:aN:=dy 177
def w898  (s:av)   :dX Y Xo (.str (eB s)) [.str s]:=by
 show cg _ _ _ [⟨_,_⟩,_,_,_] _;refine ay ?_;refine aD ?_;refine br hm (ι:=av) (fun t=>[⟨true,.str t⟩,.un,.un,.un]) (fun t=>[]) 1 (fun t=>kF s=kF t/\t.length<=s.length) (fun t=>t.length) s ⟨rfl,aH _⟩ (dQ []) ?_;rintro t ⟨hr,hl⟩;refine aK ?_;intro u0;refine aF ?_;refine sj 0 ?_;refine aF ?_;refine di (fun hc0=>?_) fun hc0=>?_
 .refine aK ?_;refine ga 1 (hb:=fun _=>ae) ?_;refine aK ?_;exact⟨(t.drop 1),⟨by rw[hr,Hr ae hc0.2],by rw[kT];omega⟩,by rw[kT];omega,(dQ [])⟩
 refine aD ?_;have hbt:eB s=ED t:=by
  show(kF (kF s).reverse).reverse=_;rw[hr,EC hc0];rfl
 refine br hm (ι:=av) (fun u=>[⟨true,.str u⟩,.un,.un,.un]) (fun u=>[]) 9 (fun u=>eB s=ED u/\u.length<=s.length) (fun u=>u.length) t ⟨hbt,hl⟩ (dQ []) ?_;rintro u ⟨hru,hlu⟩;refine aK ?_;intro u1;refine aK ?_;refine gN ?_;refine aE ?_;refine sj (u.length-1) ?_;refine aF ?_;refine di (fun hc1=>?_) fun hc1=>?_
 .refine aQ ?_;intro u2;refine aE ?_;refine lf (u.length-1) (hj:=fun _=>ae) (hb:=fun _=>ae) ?_;refine aK ?_;exact⟨(u.take (u.length-1)),⟨by rw[hru,V3 ae hc1.2],by rw[eF];omega⟩,by rw[eF];omega,(dQ [])⟩
 refine bw ?_;refine du ?_;rw[hru,RV hc1]
noncomputable def Xn:aN:=dy 175
def w896  (s:av)  (hp0:s.length<=1048576):dX Y Xn (.sl 1 ((aT s []).map D.str)) [.str s]:=by
 show cg _ _ _ [⟨_,_⟩,_,_,_,_,_,_] _;refine ay ?_;refine jX ?_;refine br hm (ι:=(Nat×Nat×List av)) (fun p=>[⟨true,.str s⟩,.un,⟨true,.int .i64 (p.1:Nat)⟩,.un,⟨true,.int .i64 (p.2.1:Nat)⟩,.un,⟨true,.own 0 1 0 p.2.2.length⟩]) (fun p=>[(0,.buf 1 (p.2.2.map D.str))]) 4 (fun p=>p.1<=s.length/\p.2.1<=s.length/\p.2.1<=p.1+1/\p.2.2.length<=p.1/\wY s p.1 p.2.1 p.2.2) (fun p=>s.length-p.1) (0,0,[]) ⟨aI,aI,aI,aI,by simp[wY]⟩ (bm.to [] ah ah (by repeat(first|exact de.nil|refine de.un ?_|refine de.eq ah ?_|refine de.nl ah ah ?_|refine de.ni (Or.inr ⟨_,_,_,rfl⟩) ?_)) (by repeat(first|exact bF.nil|refine bF.mt ah ah ah ah ?_))) ?_;rintro⟨i,fr,acc⟩ ⟨hi,hf,hfi,ha,hr⟩;dsimp only at hi hf hfi ha hr⊢;refine aQ ?_;intro u0;refine aD ?_;refine di (fun hc0=>?_) fun hc0=>?_
 .refine aU ?_;refine sj i ?_;refine aU ?_;refine sj (i+1) ?_;refine bW ?_;refine iI (fun hc1=>?_) fun hc1=>?_
  .refine aU ?_;refine FR fr i (hb:=fun _=>ae) ?_;refine dq [(.str _)] ?_;refine GK ?_;exact⟨(i+1,i+2,acc++[(s.take i).drop fr]),⟨dE,dE,dE,dk,V0 hr ae hc1⟩,dE,(bm.to [(31,0)] ah ah fC (by refine bF.nl 31 ah ah ah fM ?_;exact bF.nil))⟩
  refine bW ?_;exact⟨(i+1,fr,acc),⟨dE,dE,dE,dE,Zs hr ae hfi hc1⟩,dE,(bm.to [(0,0)] ah ah fC (by refine hY ?_;exact bF.nil))⟩
 refine aQ ?_;refine ga fr (hb:=fun _=>ae) ?_;refine dq [(.str _)] ?_;refine aF ?_;refine e7 14 ?_;refine aE ?_;refine bT (?_);rw[VZ hr ae hf];rfl
noncomputable def nt:aN:=dy 134
def w563 {Y:Ctx}(hm:(Y.at 0).cP)  (s:av)   :dX Y nt (.bool (fR s).2) [.str s,.str [10]]:=by
 show cg _ _ _ [⟨_,_⟩,⟨_,_⟩,_] _;refine ay ?_;refine aU ?_;intro u0;refine aD ?_;intro u1;refine aK ?_;refine gN ?_;refine aE ?_;refine gN ?_;refine mz (hb:=fun hf=>by simp at hf;omega) ?_;refine ga (s.length-1) (hi:=fun hf=>by simp at hf;simp;omega) (hb:=fun hf=>ae) ?_;refine aQ ?_;refine cd ?_;exact(ab1 s).symm
noncomputable def mT:aN:=dy 126
def w332 {Y:Ctx}(hm:(Y.at 0).cP)(h563:YC Y)(s:av)   :dX Y mT (.str (fR s).1) [.str s,.str [10]]:=by
 show cg _ _ _ [⟨_,_⟩,⟨_,_⟩,_,_] _;refine ay ?_;refine aQ ?_;refine au (hc:=h563 s) ?_;refine aE ?_;refine az (fun hc0=>?_) (fun hc0=>?_)
 .refine aU ?_;intro u0;refine aD ?_;intro u1;refine mz (hb:=fun _=>by have:=GA hc0;simp only[aM,aX];omega) ?_;refine lf (s.length-1) (hj:=fun _=>by have:=GA hc0;simp only[aM,aX];omega) (hb:=fun _=>ae) ?_;refine aF ?_;refine du ?_;exact(ab3 hc0).symm
 refine aQ ?_;refine du ?_;exact(ab2 hc0).symm
noncomputable def strings_TrimSuffix:aN:=dy 68
def w125 {Y:Ctx}(hm:(Y.at 0).cP)(h332:X9 Y)(s:av)   :dX Y strings_TrimSuffix (.str (fR s).1) [.str s,.str [10]]:=by
 show cg _ _ _ [⟨_,_⟩,⟨_,_⟩,_] _;refine ay ?_;refine aU ?_;refine au (hc:=h332 s) ?_;refine aF ?_;exact du rfl
noncomputable def Cx:aN:=dy 33
def w241 {Y:Ctx}(hm:(Y.at 0).cP)(h125:XR Y)(h487:VB Y)(s:av)  (hp0:s.length<=1048576):dX Y Cx (.bool (Je s)) [.str s]:=by
 show cg _ _ _ [⟨_,_⟩,_,_] _;have hwl:=qP s;refine ay ?_;refine aK ?_;refine au (hc:=h125 s) ?_;refine au (hc:=h487 (fR s).1 32 ae) ?_;refine acf ?_;exact cd rfl
noncomputable def vn:aN:=dy 32
def w240 (h241:X3 Y)(l:List av)  (hp0:∀t∈l,t.length<=1048576):dX Y vn (.int .i64 (Sf l 0)) [.sl 1 (l.map D.str),.fn 241 []]:=by
 show cg _ _ _ [⟨_,_⟩,⟨_,_⟩,_,_,_,_,_,_] _;refine ay ?_;refine aQ ?_;intro u0;refine aD ?_;refine br hm (ι:=Nat) (fun i=>[⟨true,.sl 1 (l.map D.str)⟩,⟨true,.fn 241 []⟩,.un,⟨true,.int .i64 (i:Nat)⟩,⟨true,.int .i64 (l.length:Nat)⟩,.un,.un,.un]) (fun i=>[]) 4 (fun i=>i<=l.length/\Sf l 0=Sf l i) (fun i=>l.length-i) 0 ⟨ae,rfl⟩ (dQ []) ?_;rintro i ⟨hi,hr⟩;refine aF ?_;refine di (fun hc0=>?_) fun hc0=>?_
 .refine jX ?_;refine adO (hc:=fun _=>h241 l[i]! (hp0 _ (bL ae))) ?_;refine aE ?_;refine iI (fun hc1=>?_) fun hc1=>?_
  .refine bw ?_;refine gu ?_;rw[hr,adf ae hc1]
  refine bw ?_;exact⟨i+1,⟨ae,by rw[hr,aih ae hc1]⟩,ae,(dQ [])⟩
 refine aQ ?_;refine gu ?_;rw[hr,ade ae]
noncomputable def yw:aN:=dy 31
def w239 {Y:Ctx}(hm:(Y.at 0).cP)(h331:X8 Y)(s:av)  (hp0:s.length<=1048576):dX Y yw (.sl 1 ((kB s).map D.str)) [.str s,.str [10]]:=by
 show cg _ _ _ [⟨_,_⟩,⟨_,_⟩,_] _;refine ay ?_;refine bw ?_;intro u0;refine au (hc:=h331 s hp0) ?_;refine aF ?_;refine bT (?_);rfl
end Go.Abs
