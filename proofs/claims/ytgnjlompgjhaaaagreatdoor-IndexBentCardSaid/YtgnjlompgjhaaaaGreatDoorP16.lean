/- A part of the proofs. -/
import Derived.Test.YtgnjlompgjhaaaaGreatDoorP08
set_option linter.all false
set_option maxRecDepth 60000
set_option maxHeartbeats 2000000
namespace Go.Abs
variable {Y:Ctx}(hm:(Y.at 0).b8)
noncomputable def lF:aC:=cR 169
def w473 {Y:Ctx}(hm:(Y.at 5).b8)(t:au)(nm:au)(v:cq)(N:List bp)(B:List fA)(Z:List b7)(st:Nat)(h475:UB (Y.at 5))(hp0:t.length<=1048576)(hp1:st=2->N≠[])(hp2:st=5->B≠[])(hp3:N.length<=1000000)(hp4:B.length<=1000000):bK (Y.at 5) lF.body (j5 lF (YE (pz ⟨⟨nm,v,N,B,Z⟩,st⟩ t)):Ex->List ch->St->Prop) (fF lF [.ptr 0 10 0 0,.str t]) ⟨5,[(0,.buf 10 [og nm v N.length B.length Z.length ((st:Nat):Int) 1 3 4]),(1,.buf 3 (eM 2 N)),(2,.buf 4 (nr N)),(3,.buf 3 (B.map fA.D)),(4,.buf 2 (Z.map b7.D))]⟩:=by
 show bK _ _ _ [⟨true,.ptr 0 10 0 0⟩,⟨true,.str t⟩,.un,.un,.un,.un,.un,.un] ⟨5,[(0,.buf 10 [og nm v N.length B.length Z.length ((st:Nat):Int) 1 3 4]),(1,.buf 3 (eM 2 N)),(2,.buf 4 (nr N)),(3,.buf 3 (B.map fA.D)),(4,.buf 2 (Z.map b7.D))]⟩;have hrl:=FF t 1;have hrn:=xB t 1;have hre:=BU t 1;obtain⟨⟨l,u,ok⟩,hq⟩:∃q,hE t 1=q:=⟨_,rfl⟩
 rw[hq]at hrl hrn hre;dsimp only at hrl hrn hre;refine ar ?_;refine aB ?_;refine aq (v:=.tup [.sl 1 (l.map D.str),.str u,.bool ok]) (hc:=by have:=h475 t 1 hp0 aF;rw[hq]at this;exact this) ?_;refine aA ?_;refine eZ (.sl _ _) ?_;refine gD ?_;refine wp_cond (fun hc0=>?_) (fun hc0=>?_)
 .simp only[bd]at hc0;have ho:pz ⟨⟨nm,v,N,B,Z⟩,st⟩ t=none:=by unfold pz;rw[hrl,hc0];rfl
  rw[ho];refine aE ?_;refine bP trivial eh (bS ah (aj D.bool ?_)) ah ⟨rfl,fun y hy=>by cases hy⟩;rfl
 simp only[bM]at hc0;have hw:pz ⟨⟨nm,v,N,B,Z⟩,st⟩ t=(if st=2 then some ⟨⟨nm,v,gw N fun n=>⟨n.any,u,n.option⟩,B,Z⟩,3⟩else if st=5 then some ⟨⟨nm,v,N,gw B fun b=>⟨b.name,b.range,u⟩,Z⟩,6⟩else none):=by
  unfold pz;rw[hrl,aw hc0]
 refine aB ?_;refine aT (v:=.int .i64 ((st:Nat):Int)) ?_;refine ay ?_;refine wp_cond (fun hc1=>?_) (fun hc1=>?_)
 .simp only[aK]at hc1;obtain rfl:st=2:=ae;obtain⟨N,n,rfl⟩:=tx (hp1 rfl);have hnl:(N++[n]).length=N.length+1:=aJ;rw[aw rfl,e7]at hw;rw[hw,gP,jD];refine aE ?_;refine aT (v:=.own 1 3 0 (N++[n]).length) ?_;refine aB ?_;refine aT (v:=.own 1 3 0 (N++[n]).length) ?_;refine iy ?_;refine ay ?_;refine iv N.length (hj:=fun _=>ae) (hb:=fun _=>ae) ?_;refine aA ?_;refine su (es:=N.map bp.D++[lR 2 n]) (N.map bp.D++[lR 2 ⟨n.any,u,n.option⟩]) (hi:=aJ) (he:=by rw[mX _ _ _ _ aJ,qi _ _ _ _ aJ];exact rfl) ?_;refine ax ?_;refine aI (og nm v (N++[n]).length B.length Z.length ((3:Nat):Int) 1 3 4) (he:=aQ) ?_;refine aD ?_;refine bP trivial eh (bS ah (aj D.bool ?_)) ah ⟨rfl,fun y hy=>by cases hy;exact⟨1,2,3,4,aF,⟨(by have e:(N++[(⟨n.any,u,n.option⟩:bp)]).length=(N++[n]).length:=aJ;show _=some (bX.buf 10 [og nm v (N++[(⟨n.any,u,n.option⟩:bp)]).length B.length Z.length ((3:Nat):Int) 1 3 4]);rw[e];exact rfl),(by rw[gP];exact rfl),(by rw[jD];exact rfl),ah,ah⟩⟩⟩;rfl
 simp only[bc]at hc1;rw[ak (show ¬st=2 by omega)]at hw;refine aB ?_;refine aT (v:=.int .i64 ((st:Nat):Int)) ?_;refine ay ?_;refine wp_cond (fun hc2=>?_) (fun hc2=>?_)
 .simp only[aK]at hc2;obtain rfl:st=5:=ae;obtain⟨B,b,rfl⟩:=tx (hp2 rfl);have hbl:(B++[b]).length=B.length+1:=aJ;rw[aw rfl,e7]at hw;rw[hw];rw[List.map_append];refine aE ?_;refine aT (v:=.own 3 3 0 (B++[b]).length) ?_;refine aB ?_;refine aT (v:=.own 3 3 0 (B++[b]).length) ?_;refine iy ?_;refine ay ?_;refine iv B.length (hj:=fun _=>ae) (hb:=fun _=>ae) ?_;refine aA ?_;refine su (es:=B.map fA.D++[b].map fA.D) (B.map fA.D++[fA.D ⟨b.name,b.range,u⟩]) (hi:=aJ) (he:=by rw[List.map_cons,List.map_nil,mX _ _ _ _ aJ,qi _ _ _ _ aJ];exact rfl) ?_;refine ax ?_;refine aI (og nm v N.length (B++[b]).length Z.length ((6:Nat):Int) 1 3 4) (he:=aQ) ?_;refine aD ?_;refine bP trivial eh (bS ah (aj D.bool ?_)) ah ⟨rfl,fun y hy=>by cases hy;exact⟨1,2,3,4,aF,⟨(by have e:(B++[(⟨b.name,b.range,u⟩:fA)]).length=(B++[b]).length:=aJ;show _=some (bX.buf 10 [og nm v N.length (B++[(⟨b.name,b.range,u⟩:fA)]).length Z.length ((6:Nat):Int) 1 3 4]);rw[e];exact rfl),ah,ah,(by rw[List.map_append];exact rfl),ah⟩⟩⟩;rfl
 simp only[bc]at hc2;rw[ak (show ¬st=5 by omega)]at hw;rw[hw];refine aD ?_;refine bP trivial eh (bS ah (aj D.bool ?_)) ah ⟨rfl,fun y hy=>by cases hy⟩;rfl
noncomputable def jA:aC:=cR 172
def w476 {Y:Ctx}(hm:(Y.at 5).b8)(l:List au)(nm:au)(v:cq)(N:List bp)(B:List fA)(Z:List b7)(st:Nat)(h474:XU (Y.at 5))(hp0:l.length<=1048577)(hp1:Z.length<=1000000):bK (Y.at 5) jA.body (j5 jA (YE ((if 2<=l.length/\xp l l.length=true then some (⟨⟨nm,v,N,B,Z++[⟨l[1]!,l.drop 2⟩]⟩,7⟩:jq)else none))):Ex->List ch->St->Prop) (fF jA [.ptr 0 10 0 0,.sl 1 (l.map D.str)]) ⟨5,[(0,.buf 10 [og nm v N.length B.length Z.length ((st:Nat):Int) 1 3 4]),(1,.buf 3 (eM 2 N)),(2,.buf 4 (nr N)),(3,.buf 3 (B.map fA.D)),(4,.buf 2 (Z.map b7.D))]⟩:=by
 show bK _ _ _ [⟨true,.ptr 0 10 0 0⟩,⟨true,.sl 1 (l.map D.str)⟩,.un,.un,.un] ⟨5,[(0,.buf 10 [og nm v N.length B.length Z.length ((st:Nat):Int) 1 3 4]),(1,.buf 3 (eM 2 N)),(2,.buf 4 (nr N)),(3,.buf 3 (B.map fA.D)),(4,.buf 2 (Z.map b7.D))]⟩;refine ar ?_;refine aD ?_;intro u0;refine aB ?_;refine iy ?_;refine aq (hc:=h474 l l.length) ?_;refine ay ?_;refine av (fun hc0=>?_) (fun hc0=>?_)
 .simp only[cN,bd,aK]at hc0;have ho:(if 2<=l.length/\xp l l.length=true then some (⟨⟨nm,v,N,B,Z++[⟨l[1]!,l.drop 2⟩]⟩,7⟩:jq)else none)=none:=ak (by rintro⟨a,b⟩;rcases hc0 with h|h;omega;rw[b]at h;cases h);rw[ho];refine aE ?_;refine bP trivial eh (bS ah (aj D.bool ?_)) ah ⟨rfl,fun y hy=>by cases hy⟩;rfl
 simp only[de,bM,bc]at hc0;have h2l:2<=l.length:=ae;have ho:(if 2<=l.length/\xp l l.length=true then some (⟨⟨nm,v,N,B,Z++[⟨l[1]!,l.drop 2⟩]⟩,7⟩:jq)else none)=some (⟨⟨nm,v,N,B,Z++[⟨l[1]!,l.drop 2⟩]⟩,7⟩:jq):=aw ⟨h2l,hc0.2⟩;rw[ho];refine ay ?_;refine bI 1 (hb:=fun _=>ae) ?_;refine bE (v:=.str l[1]!) (hi:=fun _=>ae) ?_;refine bg (.agg [.str l[1]!,.bq]) ?_;refine aA ?_;refine aI (.agg [.str l[1]!,.bq]) (he:=aQ) ?_;refine ay ?_;refine aT (v:=.bq) ?_;refine aA ?_;refine sr 2 (hb:=fun _=>ae) ?_;refine Tg (n:=(l.drop 2).length) (he:=sR.sl) (hn:=by rw[bO]) (hb:=by rw[jY];omega) ?_;refine aA ?_;refine aI (.agg [.str l[1]!,.own 26 1 0 (l.drop 2).length]) (he:=aQ) ?_;refine aA ?_;refine eI 26 (he:=by simp only[lf,iL,iV,lQ,nk,cJ,Nat.reduceEqDiff,aW,aX,cO,ct,cu,cT,cX,bR,bO,aL,bZ,aN,reduceCtorEq,aP,a8,Nat.reduceAdd,Nat.reduceLeDiff,og];exact rfl) (hm:=by simp only[lf,iL,iV,lQ,nk,cJ,Nat.reduceEqDiff,aW,aX,cO,ct,cu,cT,cX,bR,bO,aL,bZ,aN,reduceCtorEq,aP,a8,Nat.reduceAdd,Nat.reduceLeDiff,og,xg 26 _ _ aF,wO,uw,ux];exact rfl) ?_;refine aZ ?_;refine aT (v:=.own 4 2 0 Z.length) ?_;refine cA (d:=b7.D ⟨l[1]!,l.drop 2⟩) ?_;refine dh [b7.D ⟨l[1]!,l.drop 2⟩] ?_;refine gV (q:=b7.D) (xs:=Z) (e:=⟨l[1]!,l.drop 2⟩) ?_;refine ay ?_;refine aI (og nm v N.length B.length (Z++[(⟨l[1]!,l.drop 2⟩:b7)]).length ((st:Nat):Int) 1 3 38) (he:=aQ) ?_;refine ax ?_;refine aI (og nm v N.length B.length (Z++[(⟨l[1]!,l.drop 2⟩:b7)]).length ((7:Nat):Int) 1 3 38) (he:=aQ) ?_;refine aE ?_;refine bP trivial eh (bS ah (aj D.bool ?_)) ah ⟨rfl,fun y hy=>by cases hy;exact⟨1,2,3,38,aF,⟨ah,ah,ah,ah,ah⟩⟩⟩;rfl
noncomputable def lD:aC:=cR 167
def w471 {Y:Ctx}(hm:(Y.at 5).b8)(l:List au)(nm:au)(v:cq)(N:List bp)(B:List fA)(Z:List b7)(st:Nat)(h568:C568 (Y.at 5))(hp0:∀w∈l,w.length<=1048576):bK (Y.at 5) lD.body (j5 lD (YE (rX ⟨⟨nm,v,N,B,Z⟩,st⟩ l)):Ex->List ch->St->Prop) (fF lD [.ptr 0 10 0 0,.sl 1 (l.map D.str)]) ⟨5,[(0,.buf 10 [og nm v N.length B.length Z.length ((st:Nat):Int) 1 3 4]),(1,.buf 3 (eM 2 N)),(2,.buf 4 (nr N)),(3,.buf 3 (B.map fA.D)),(4,.buf 2 (Z.map b7.D))]⟩:=by
 show bK _ _ _ [⟨true,.ptr 0 10 0 0⟩,⟨true,.sl 1 (l.map D.str)⟩,.un,.un,.un,.un] ⟨5,[(0,.buf 10 [og nm v N.length B.length Z.length ((st:Nat):Int) 1 3 4]),(1,.buf 3 (eM 2 N)),(2,.buf 4 (nr N)),(3,.buf 3 (B.map fA.D)),(4,.buf 2 (Z.map b7.D))]⟩;refine ar ?_;refine aD ?_;intro u0;refine ay ?_;refine bI 0 (hb:=fun hf=>by simp at hf;omega) ?_;refine bE (v:=.str l[0]!) (hi:=fun hf=>by simp at hf;omega) ?_;refine aB ?_;refine bI 1 (hb:=fun hf=>by simp at hf;omega) ?_;refine bE (v:=.str l[1]!) (hi:=fun hf=>by simp at hf;omega) ?_;refine ay ?_;refine av (fun hc0=>?_) (fun hc0=>?_)
 .simp only[cN,bd,aK,bc]at hc0;have ho:rX ⟨⟨nm,v,N,B,Z⟩,st⟩ l=none:=by
   unfold rX;rw[ak];rintro⟨⟨a,b⟩,c⟩;rcases hc0 with(h|h)|h
   .exact h ae
   .exact h b
   .exact c h
  rw[ho];refine aE ?_;refine bP trivial eh (bS ah (aj D.bool ?_)) ah ⟨rfl,fun y hy=>by cases hy⟩;rfl
 simp only[de,bM,aK,bc]at hc0;obtain⟨⟨hl3,hl0⟩,hl1⟩:=hc0;obtain hl3:l.length=3:=ae;have hhx:rX ⟨⟨nm,v,N,B,Z⟩,st⟩ l=(match gv l[2]! with
  |some v=>some ⟨⟨l[1]!,v,N,B,Z⟩,1⟩
  |none=>none):=aw ⟨⟨hl3,hl0⟩,hl1⟩
 rw[hhx];refine ay ?_;refine bI 2 (hb:=fun _=>ae) ?_;refine bE (v:=.str l[2]!) (hi:=fun _=>ae) ?_;refine aq (hc:=h568 l[2]! (hp0 _ (bF ae))) ?_;refine aA ?_;refine eZ (cq.D _) ?_;refine ax ?_;refine aI (cq.D ((gv l[2]!).getD gz)) (he:=aQ) ?_;refine ax ?_;refine eI 28 (he:=by simp only[lf,iL,iV,lQ,nk,cJ,Nat.reduceEqDiff,aW,aX,cO,ct,cu,cT,cX,bR,bO,aL,bZ,aN,reduceCtorEq,aP,a8,Nat.reduceAdd,Nat.reduceLeDiff,og,cq.D];exact rfl) (hm:=by simp only[lf,iL,iV,lQ,nk,cJ,Nat.reduceEqDiff,aW,aX,cO,ct,cu,cT,cX,bR,bO,aL,bZ,aN,reduceCtorEq,aP,a8,Nat.reduceAdd,Nat.reduceLeDiff,og,cq.D,xg 28 _ _ aF,wO,uw,ux];exact rfl) ?_;refine aE ?_;refine bI 1 (hb:=fun _=>ae) ?_;refine bE (v:=.str l[1]!) (hi:=fun _=>ae) ?_;refine BF (v:=cq.D ((gv l[2]!).getD gz)) ?_;refine ay ?_;refine aI (og l[1]! v N.length B.length Z.length ((st:Nat):Int) 1 3 4) (he:=aQ) ?_;refine ay ?_;refine aI (og l[1]! ((gv l[2]!).getD gz) N.length B.length Z.length ((st:Nat):Int) 1 3 4) (he:=aQ) ?_;refine ax ?_;refine aI (og l[1]! ((gv l[2]!).getD gz) N.length B.length Z.length ((1:Nat):Int) 1 3 4) (he:=aQ) ?_;refine aZ ?_;refine bP trivial eh (bS ah (aj D.bool ?_)) ah ⟨rfl,fun y hy=>by obtain⟨w,hv⟩:∃w,gv l[2]! =some w:=(by cases hv:gv l[2]! with|none=>rw[hv]at hy;cases hy|some w=>exact⟨w,rfl⟩);rw[hv]at hy;cases hy;exact⟨1,2,3,4,aF,⟨(by rw[hv];exact rfl),ah,ah,ah,ah⟩⟩⟩;rw[T7];cases gv l[2]! <;>rfl
noncomputable def BO:aC:=cR 175
def w477 {Y:Ctx}(hm:(Y.at 0).b8)(h226:XD Y)(a:bT)(b:bT)   :di Y BO (.bool (decide (a=b))) [bT.D a,bT.D b]:=by
 show bK _ _ _ [⟨_,_⟩,⟨_,_⟩,_,_,_] _;refine ar ?_;refine Uq ?_;refine Xl (hb:=YX _ _) ?_;refine aD ?_;refine aq (hc:=h226 _ _) ?_;refine aB ?_;refine bV ?_;rw[bT.yx a b]
noncomputable def BN:aC:=cR 127
def w225 (h477:C477 Y)(a:bp)(b:bp)   :di Y BN (.bool (decide (a=b))) [bp.D a,bp.D b]:=by
 show bK _ _ _ [⟨_,_⟩,⟨_,_⟩,_,_,_,_,_,_,_] _;refine ar ?_;refine zzz21 ?_;refine iy ?_;refine ax ?_;refine iy ?_;refine ay ?_;refine av (fun hc0=>?_) (fun hc0=>?_)
 .simp only[cN,bd,bc]at hc0;refine aE ?_;refine bV ?_;symm;rw[bc];rintro rfl;simp at hc0
 simp only[de,bM,aK]at hc0;refine aE ?_;have hb:=bp.same3 hc0.1.1 hc0.1.2 ae;refine ba hm (ι:=Nat) (fun i=>[.un,.un,.un,⟨true,.ptr 0 3 0 0⟩,⟨true,.ptr 1 3 0 0⟩,.un,⟨true,.int .i64 (i:Nat)⟩,.un,.un]) (fun i=>[(0,.buf 3 [bp.D a]),(1,.buf 3 [bp.D b])]) 25 (fun i=>i<=a.any.length/\decide (a=b)=cS (fun i=>decide (a.any[i]! =b.any[i]!)) i a.any.length) (fun i=>a.any.length-i) 0 ⟨ae,hb⟩ (du [(0,0),(1,1)]) ?_;rintro i ⟨hi,hr⟩;refine aD ?_;intro u0;refine ax ?_;refine cG (fun hc1=>?_) fun hc1=>?_
 .refine aZ ?_;first|refine bE (v:=(bT.D _)) ?_|refine ff (v:=(bT.D _)) ?_
  refine aB ?_;first|refine bE (v:=(bT.D _)) ?_|refine ff (v:=(bT.D _)) ?_
  refine aq (hc:=h477 _ _) ?_;refine ax ?_;refine wp_cond (fun hc2=>?_) (fun hc2=>?_)
  .simp only[bd,bc]at hc2;refine aD ?_;refine bV ?_;rw[hr,aU ae,cI hc2];rfl
  simp only[bM,aK]at hc2;refine bN ?_;exact⟨i+1,⟨ae,by rw[hr,aU ae,ca hc2];rfl⟩,ae,(du [(0,0),(1,1)])⟩
 refine aD ?_;refine bV ?_;rw[hr,cn ae]
def Kd:aC:=⟨2,15,[⟨2,none⟩],ha1,(sq (rg [gb 9 s0,gb 9 s1,gm W2] [(3,0),(4,1),(2,2)]) (sq (sq (r1 [gf 0 s3,gd l0,gf 0 s4,gd l2,r6 l1 l3,gm l4,Gb 5 1 s3,tI 5 (.ld 5 true l6),Gb 5 1 s4,tI 5 (.ld 5 true l8),tI 5 (.eqA true true [.i .i64,.i .i64,.i .i64,.s,.s] l7 l9),Ut l5 l10,gm l11,Gb 12 6 s3,I6 12 l13,tI 12 (.len l14),Gb 12 6 s4,I6 12 l16,tI 12 (.len l17),tI 12 (K8 l15 l18),Ut l12 l19,gm l20,Gb 21 7 s3,I6 21 l22,tI 21 (.len l23),Gb 21 7 s4,I6 21 l25,tI 21 (.len l26),tI 21 (K8 l24 l27),Ut l21 l28,gm l29,Gb 30 8 s3,I6 30 l31,tI 30 (.len l32),Gb 30 8 s4,I6 30 l34,tI 30 (.len l35),tI 30 (K8 l33 l36),Ut l30 l37] 5 38) (.cond s5 (sq (r1 [gm W2] 2 0) .ret) .skip)) (sq (sq (r1 [gm Lv] 6 0) (.block 0 (.loop (sq (sq (r1 [gm s6,gf 6 s3,gd l1,gl l2,Bc l0 l3] 7 4) (gce s7 0)) (sq (.block 1 (sq (r2 [gf 6 s3,gd l0,gm s6,ga 3 l1 l2,gk 3 true l3,gf 6 s4,gd l5,gm s6,ga 3 l6 l7,gk 3 true l8,gx 225 [l4,l9] [[.sl 4 [.a,.a,.sl 1 [.a],.a],.a,.a],[.sl 4 [.a,.a,.sl 1 [.a],.a],.a,.a]],gno l10] 8 11) (.cond s8 (sq (r1 [gm W2] 2 0) .ret) .skip))) (r1 [gm s6,Bb l0 ic1,gm l1] 6 2)))))) (sq (sq (r1 [gm Lv] 9 0) (.block 2 (.loop (sq (sq (r1 [gm s9,gf 7 s3,gd l1,gl l2,Bc l0 l3] 10 4) (gce Xp 2)) (sq (.block 3 (sq (r2 [gf 7 s3,gd l0,gm s9,ga 3 l1 l2,gk 3 true l3,gf 7 s4,gd l5,gm s9,ga 3 l6 l7,gk 3 true l8,gn (.eqA true true [.s,.s,.s] l4 l9)] 11 10) (.cond s11 (sq (r1 [gm W2] 2 0) .ret) .skip))) (r1 [gm s9,Bb l0 ic1,gm l1] 9 2)))))) (sq (sq (r1 [gm Lv] 12 0) (.block 4 (.loop (sq (sq (r1 [gm Wi,gf 8 s3,gd l1,gl l2,Bc l0 l3] 13 4) (gce s13 4)) (sq (.block 5 (sq (r2 [gf 8 s3,gd l0,gm Wi,ga 2 l1 l2,gf 0 l3,gd l4,gf 8 s4,gd l6,gm Wi,ga 2 l7 l8,gf 0 l9,gd l10,r6 l5 l11,gm l12,Gb 13 8 s3,I6 13 l14,gmf 13 Wi,tI 13 (.ia 2 l15 l16),Gb 13 1 l17,I6 13 l18,Gb 13 8 s4,I6 13 l20,gmf 13 Wi,tI 13 (.ia 2 l21 l22),Gb 13 1 l23,I6 13 l24,tI 13 (.call 226 [l19,l25] [[.sl 1 [.a]],[.sl 1 [.a]]]),tI 13 (.un .not l26),Ut l13 l27] 14 28) (.cond s14 (sq (r1 [gm W2] 2 0) .ret) .skip))) (r1 [gm Wi,Bb l0 ic1,gm l1] 12 2)))))) (sq (r1 [gm cbT] 2 0) .ret))))))⟩
def w78 (h225:C225 Y)(h226:XD Y)(a:Rec)(b:Rec)   :di Y Kd (.bool (decide (a=b))) [Rec.D a,Rec.D b]:=by
 show bK _ _ _ [⟨_,_⟩,⟨_,_⟩,_,_,_,_,_,_,_,_,_,_,_,_,_] _;refine ar ?_;refine lX ?_;refine aT (v:=(cq.D _)) ?_;refine aA ?_;refine aT (v:=(cq.D _)) ?_;refine Ma (hb:=cq.eq _ _) ?_;refine aB ?_;refine iy ?_;refine ax ?_;refine iy ?_;refine aE ?_;refine iy ?_;refine ax ?_;refine iy ?_;refine aE ?_;refine iy ?_;refine ax ?_;refine iy ?_;refine ay ?_;refine av (fun hc0=>?_) (fun hc0=>?_)
 .simp only[cN,bd,bc]at hc0;refine aE ?_;refine bV ?_;symm;rw[bc];rintro rfl;simp at hc0
 simp only[de,bM,aK]at hc0;refine aE ?_;have hb:=qh (show a.needs.length=b.needs.length by omega);refine ba hm (ι:=Nat) (fun i=>[.un,.un,.un,⟨true,.ptr 0 9 0 0⟩,⟨true,.ptr 1 9 0 0⟩,.un,⟨true,.int .i64 (i:Nat)⟩,.un,.un,.un,.un,.un,.un,.un,.un]) (fun i=>[(0,.buf 9 [Rec.D a]),(1,.buf 9 [Rec.D b])]) 43 (fun i=>i<=a.needs.length/\decide (a.needs=b.needs)=cS (fun i=>decide (a.needs[i]! =b.needs[i]!)) i a.needs.length) (fun i=>a.needs.length-i) 0 ⟨ae,hb⟩ (du [(0,0),(1,1)]) ?_;rintro i ⟨hi,hr⟩;refine aD ?_;intro u0;refine ax ?_;refine cG (fun hc1=>?_) fun hc1=>?_
 .refine aZ ?_;first|refine bE (v:=(bp.D _)) ?_|refine ff (v:=(bp.D _)) ?_
  refine aB ?_;first|refine bE (v:=(bp.D _)) ?_|refine ff (v:=(bp.D _)) ?_
  refine aq (hc:=h225 _ _) ?_;refine ax ?_;refine wp_cond (fun hc2=>?_) (fun hc2=>?_)
  .simp only[bd,bc]at hc2;refine aD ?_;refine bV ?_;have hd:decide (a.needs=b.needs)=false:=by rw[hr,aU ae,cI hc2];rfl
   rw[Rec.yx a b,hd];simp
  simp only[bM,aK]at hc2;refine bN ?_;exact⟨i+1,⟨ae,by rw[hr,aU ae,ca hc2];rfl⟩,ae,(du [(0,0),(1,1)])⟩
 refine aB ?_;have hn:decide (a.needs=b.needs)=true:=by rw[hr,cn ae]
 refine ax ?_;have hb:=qh (show a.bars.length=b.bars.length by omega);refine ba hm (ι:=Nat) (fun i=>[.un,.un,.un,⟨true,.ptr 0 9 0 0⟩,⟨true,.ptr 1 9 0 0⟩,.un,.un,.un,.un,⟨true,.int .i64 (i:Nat)⟩,.un,.un,.un,.un,.un]) (fun i=>[(0,.buf 9 [Rec.D a]),(1,.buf 9 [Rec.D b])]) 49 (fun i=>i<=a.bars.length/\decide (a.bars=b.bars)=cS (fun i=>decide (a.bars[i]! =b.bars[i]!)) i a.bars.length) (fun i=>a.bars.length-i) 0 ⟨ae,hb⟩ (du [(0,0),(1,1)]) ?_;rintro i ⟨hi,hr⟩;refine aD ?_;intro u1;refine ax ?_;refine cG (fun hc3=>?_) fun hc3=>?_
 .refine aZ ?_;first|refine bE (v:=(fA.D _)) ?_|refine ff (v:=(fA.D _)) ?_
  refine aB ?_;first|refine bE (v:=(fA.D _)) ?_|refine ff (v:=(fA.D _)) ?_
  refine Ma (hb:=fA.eq _ _) ?_;refine aA ?_;refine wp_cond (fun hc4=>?_) (fun hc4=>?_)
  .simp only[bd,bc]at hc4;refine aD ?_;refine bV ?_;have hd:decide (a.bars=b.bars)=false:=by rw[hr,aU ae,cI hc4];rfl
   rw[Rec.yx a b,hd];simp
  simp only[bM,aK]at hc4;refine bN ?_;exact⟨i+1,⟨ae,by rw[hr,aU ae,ca hc4];rfl⟩,ae,(du [(0,0),(1,1)])⟩
 refine aB ?_;have hbr:decide (a.bars=b.bars)=true:=by rw[hr,cn ae]
 refine ax ?_;have hb:=qh (show a.feats.length=b.feats.length by omega);refine ba hm (ι:=Nat) (fun i=>[.un,.un,.un,⟨true,.ptr 0 9 0 0⟩,⟨true,.ptr 1 9 0 0⟩,.un,.un,.un,.un,.un,.un,.un,⟨true,.int .i64 (i:Nat)⟩,.un,.un]) (fun i=>[(0,.buf 9 [Rec.D a]),(1,.buf 9 [Rec.D b])]) 55 (fun i=>i<=a.feats.length/\decide (a.feats=b.feats)=cS (fun i=>decide (a.feats[i]! =b.feats[i]!)) i a.feats.length) (fun i=>a.feats.length-i) 0 ⟨ae,hb⟩ (du [(0,0),(1,1)]) ?_;rintro i ⟨hi,hr⟩;refine aD ?_;intro u2;refine ax ?_;refine cG (fun hc5=>?_) fun hc5=>?_
 .refine zzz29 ?_;refine aq (hc:=h226 _ _) ?_;refine ay ?_;refine wp_cond (fun hc6=>?_) (fun hc6=>?_)
  .simp only[cN,bd,bc]at hc6;replace hc6:¬a.feats[i]! =b.feats[i]! :=fun e=>by rw[e]at hc6;simp at hc6
   refine aD ?_;refine bV ?_;have hd:decide (a.feats=b.feats)=false:=by rw[hr,aU ae,cI hc6];rfl
   rw[Rec.yx a b,hd];simp
  simp only[de,bM,aK]at hc6;replace hc6:a.feats[i]! =b.feats[i]! :=b7.eq2 hc6.1 hc6.2;refine bN ?_;exact⟨i+1,⟨ae,by rw[hr,aU ae,ca hc6];rfl⟩,ae,(du [(0,0),(1,1)])⟩
 refine aD ?_;refine bV ?_;have hf:decide (a.feats=b.feats)=true:=by rw[hr,cn ae]
 rw[Rec.yx a b,hn,hbr,hf,ca hc0.1.1.1.1,ca hc0.1.1.1.2];rfl
noncomputable def J8:aC:=cR 270
def w1036 {Y:Ctx}(hm:(Y.at 0).b8)(h1099:QK Y)(h1100:WI Y)(l:List Nd)(i:Int)(h1036:QJ (Y.at 0) (2*i.toNat))(hp0:jV l/\l.length<=15/\0<=i/\i<l.length):di Y J8 (.str (ng l i)) [.sl 5 (l.map Nd.D),.int .i64 i]:=by
 show bK _ _ _ [⟨_,_⟩,⟨_,_⟩,_,_,_,_,_,_,_,_,_,_] _;obtain⟨hk,hl15,hi0,hi1⟩:=hp0;have htx:=Mu hk hi0 hi1;obtain⟨k1,k2,k3⟩:=hk i.toNat ae;refine ar ?_;refine aD ?_;first|refine bE (v:=(Nd.D _)) ?_|refine ff (v:=(Nd.D _)) ?_
 refine lX ?_;refine wp_cond (fun hc0=>?_) (fun hc0=>?_)
 .simp only[aK]at hc0;have k1:=k1 hc0;have hkl:=p0 l[i.toNat]!.key;refine ay ?_;refine aq (hc:=h1099 l[i.toNat]!.key ⟨k1.1,k1.2.1⟩) ?_;refine fH ?_;refine ax ?_;refine fH ?_;refine aB ?_;refine dc ?_;rw[htx,aw hc0]
 simp only[bc]at hc0;have ka:=k2 hc0;have hla:=sM hk hl15 (i:=l[i.toNat]!.a) ae ae;have hwa:=fun b=>ot (ng l l[i.toNat]!.a) b
 refine aB ?_;refine wp_cond (fun hc1=>?_) (fun hc1=>?_)
 .simp only[aK]at hc1;refine aB ?_;refine bI l[i.toNat]!.a.toNat ?_;first|refine bE (v:=(Nd.D _)) ?_|refine ff (v:=(Nd.D _)) ?_
  refine c7 ?_;refine av (fun hc2=>?_) (fun hc2=>?_)
  .simp only[aK]at hc2;have k4:=(hk l[i.toNat]!.a.toNat ae).1 hc2;have hkl:=p0 l[l[i.toNat]!.a.toNat]!.key;refine aB ?_;refine aq (hc:=h1099 l[l[i.toNat]!.a.toNat]!.key ⟨k4.1,k4.2.1⟩) ?_;refine fH ?_;refine ax ?_;refine fH ?_;refine aB ?_;refine dc ?_;rw[htx,ak hc0,aw hc1,aw hc2]
  try simp only[dq]at hc2
  refine aE ?_;refine aq (hc:=h1036 l l[i.toNat]!.a ⟨hk,hl15,ae,ae⟩ ae) ?_;refine ay ?_;refine aq (hc:=h1100 (ng l l[i.toNat]!.a) _ ae) ?_;have hwx:=hwa (!decide (l[l[i.toNat]!.a.toNat]!.op=2));refine fH ?_;refine aB ?_;refine dc ?_;rw[htx,ak hc0,aw hc1,ak hc2]
 simp only[bc]at hc1;have kb:=k3 hc0 hc1;have hlb:=sM hk hl15 (i:=l[i.toNat]!.b) ae ae;have hwb:=fun b=>ot (ng l l[i.toNat]!.b) b
 refine aB ?_;refine fO (fun hc3=>?_) fun hc3=>?_
 .refine aB ?_;refine bI l[i.toNat]!.a.toNat ?_;refine aE ?_;refine bI l[i.toNat]!.b.toNat ?_;refine c7 ?_;refine aq (hc:=h1036 l l[i.toNat]!.a ⟨hk,hl15,ae,ae⟩ ae) ?_;refine ax ?_;refine aq (hc:=h1100 (ng l l[i.toNat]!.a) _ ae) ?_;have hwx:=hwa (decide (l[l[i.toNat]!.a.toNat]!.op=4));refine fH ?_;refine ay ?_;refine aq (hc:=h1036 l l[i.toNat]!.b ⟨hk,hl15,ae,ae⟩ ae) ?_;refine aD ?_;refine aq (hc:=h1100 (ng l l[i.toNat]!.b) _ ae) ?_;have hwy:=hwb (decide (l[l[i.toNat]!.b.toNat]!.op=4) ||decide (l[l[i.toNat]!.b.toNat]!.op=3));refine fH ?_;refine aB ?_;refine dc ?_;rw[htx,ak hc0,ak hc1,aw hc3]
 refine aD ?_;refine aq (hc:=h1036 l l[i.toNat]!.a ⟨hk,hl15,ae,ae⟩ ae) ?_;refine fH ?_;refine ay ?_;refine aq (hc:=h1036 l l[i.toNat]!.b ⟨hk,hl15,ae,ae⟩ ae) ?_;refine ay ?_;refine bI l[i.toNat]!.b.toNat ?_;refine ay ?_;refine aq (hc:=h1100 (ng l l[i.toNat]!.b) _ ae) ?_;have hwy:=hwb (decide (l[l[i.toNat]!.b.toNat]!.op=4));refine fH ?_;refine ay ?_;refine dc ?_;rw[htx,ak hc0,ak hc1,ak hc3]
noncomputable def J9:aC:=cR 269
def w1035 (h1098:WH Y)(l:List Nd)  (hp0:l.length<=15):di Y J9 (.bool (py l)) [.sl 5 (l.map Nd.D)]:=by
 show bK _ _ _ [⟨_,_⟩,_,_,_,_,_,_,_,_,_,_] _;refine ar ?_;refine c7 ?_;refine ba hm (ι:=(Nat×List Int)) (fun p=>[⟨true,.sl 5 (l.map Nd.D)⟩,.un,⟨true,.int .i64 (p.1:Nat)⟩,.un,⟨true,.own 0 1 0 p.2.length⟩,.un,.un,.un,.un,.un,.un]) (fun p=>[(0,.buf 1 (p.2.map (D.int .i64)))]) 3 (fun p=>p.1<=l.length/\p.2.length<=p.1/\nJ l 0 []=nJ (l.drop p.1) p.1 p.2) (fun p=>l.length-p.1) (0,[]) ⟨aJ,aJ,aJ⟩ (a7.to [] ah ah (by repeat(first|exact dr.nil|refine dr.un ?_|refine dr.eq ah ?_|refine dr.nl ah ah ?_|refine dr.ni (Or.inr ⟨_,_,_,rfl⟩) ?_)) (by repeat(first|exact bo.nil|refine bo.mt ah ah ah ah ?_))) ?_;rintro⟨i,o⟩ ⟨hi,ho,hr⟩;dsimp only at hi ho hr⊢;refine aE ?_;intro u0;refine ax ?_;refine cG (fun hc0=>?_) fun hc0=>?_
 .refine aD ?_;first|refine bE (v:=(Nd.D _)) ?_|refine ff (v:=(Nd.D _)) ?_
  refine ax ?_;intro u1;refine aA ?_;refine aI (Nd.D l[i]!) (he:=aQ) ?_;refine Co ?_;refine aq (hc:=h1098 _) ?_;refine ax ?_;refine fO (fun hc1=>?_) fun hc1=>?_
  .refine aE ?_;refine dh [(.int _ _)] ?_;refine yr ((o++[(i:Int)]).map (D.int .i64)) (n:=(o++[(i:Int)]).length) (ha:=by simp<;>omega) (he:=sR.all (es:=[.int .i64 (i:Nat)]) ah rfl) (hz:=by rw[bZ,ee aJ,List.map_append];rfl) (hn:=by simp<;>omega) (hb:=by simp<;>omega) ?_;refine c7 ?_;have hs:jB l[i]! i o=some (o++[(i:Int)]):=by rw[zt,aw hc1]
   exact⟨(i+1,(o++[(i:Int)])),⟨dF,cZ,by rw[hr];exact jx ae hs⟩,dF,(a7.to [(31,0)] ah ah ei (by refine bo.nl 31 ah ah ah eL ?_;exact bo.nil))⟩
  refine Cq ?_;refine iv (o.length-1) ?_;refine qf (q:=D.int .i64) (xs:=o) (v:=(.int .i64 o[o.length-1]!)) (hv:=fun _=>by rw[bR];rfl) ?_;refine c7 ?_;refine wp_cond (fun hc2=>?_) (fun hc2=>?_)
  .replace hc2:Rj l[i]! o=true:=hc2;have hk1:1<=o.length:=by have hq:=hc2;simp only[Rj,bC,aK]at hq;omega
   refine aB ?_;refine vX (o.length-1) ?_;refine aD ?_;refine dh [(.int _ _)] ?_;refine yr ((o.take (o.length-1)++[(i:Int)]).map (D.int .i64)) (n:=(o.take (o.length-1)++[(i:Int)]).length) (ha:=by simp<;>omega) (he:=sR.all (es:=[.int .i64 (i:Nat)]) ah rfl) (hz:=by rw[bZ,<-List.map_take,List.map_append];rfl) (hn:=by simp<;>omega) (hb:=by simp<;>omega) ?_;refine c7 ?_;have hs:jB l[i]! i o=some (o.take (o.length-1)++[(i:Int)]):=by rw[zt,ak (by rw[hc1];simp),aw hc2]
   exact⟨(i+1,(o.take (o.length-1)++[(i:Int)])),⟨dF,cZ,by rw[hr];exact jx ae hs⟩,dF,(a7.to [(62,0)] ah ah ei (by refine bo.nl 62 ah ah ah eL ?_;exact bo.nil))⟩
  replace hc2:Rj l[i]! o=false:=hc2;refine Uq ?_;refine iv (o.length-2) ?_;refine qf (q:=D.int .i64) (xs:=o) (v:=(.int .i64 o[o.length-2]!)) (hv:=fun _=>by rw[bR];rfl) ?_;refine bN ?_;refine iv (o.length-1) ?_;refine qf (q:=D.int .i64) (xs:=o) (v:=(.int .i64 o[o.length-1]!)) (hv:=fun _=>by rw[bR];rfl) ?_;refine aB ?_;refine wp_cond (fun hc3=>?_) (fun hc3=>?_)
  .replace hc3:Rk l[i]! o=true:=hc3;have hk1:2<=o.length:=by have hq:=hc3;simp only[Rk,bC,aK]at hq;omega
   refine aB ?_;refine vX (o.length-2) ?_;refine aD ?_;refine dh [(.int _ _)] ?_;refine yr ((o.take (o.length-2)++[(i:Int)]).map (D.int .i64)) (n:=(o.take (o.length-2)++[(i:Int)]).length) (ha:=by simp<;>omega) (he:=sR.all (es:=[.int .i64 (i:Nat)]) ah rfl) (hz:=by rw[bZ,<-List.map_take,List.map_append];rfl) (hn:=by simp<;>omega) (hb:=by simp<;>omega) ?_;refine c7 ?_;have hs:jB l[i]! i o=some (o.take (o.length-2)++[(i:Int)]):=by rw[zt,ak (by rw[hc1];simp),ak (by rw[hc2];simp),aw hc3]
   exact⟨(i+1,(o.take (o.length-2)++[(i:Int)])),⟨dF,cZ,by rw[hr];exact jx ae hs⟩,dF,(a7.to [(98,0)] ah ah ei (by refine bo.nl 98 ah ah ah eL ?_;exact bo.nil))⟩
  replace hc3:Rk l[i]! o=false:=hc3;refine aZ ?_;refine bV ?_;symm;refine Ix ?_;rw[hr];refine gU ae ?_;rw[zt,ak (by rw[hc1];simp),ak (by rw[hc2];simp),ak (by rw[hc3];simp)]
 refine aE ?_;intro u2;refine ay ?_;refine iy ?_;refine aE ?_;refine bV ?_;simp only[py,hr,DM (show l.length<=i by omega)];rw[gY.2 (show((l.length:Nat):Int)=0↔l.length=0 by omega),gY.2 (show((o.length:Nat):Int)=1↔o.length=1 by omega)]
noncomputable def G6:aC:=cR 11
def w251 (h72:C72 Y)(h353:C353 Y)(h452:Ux Y)(h489:UE Y)(h497:C497 Y)(s:fR)  (hp0:∀x∈s.es,fC x.r):di Y G6 (.tup [.str (jd s).1,.int .i64 (jd s).2]) [fR.D s]:=by
 show bK _ _ _ [⟨_,_⟩,_,_,_,_,_,_,_,_,_,_,_,_,_] _;refine ar ?_;refine aD ?_;refine cA (d:=fR.D s) ?_;refine aq (hc:=h353 s hp0) ?_;refine ax ?_;refine av (fun hc0=>?_) (fun hc0=>?_)
 .simp only[bd]at hc0;refine aD ?_;refine bG (aH (aj D.str ?_) (aj (D.int .i64) ?_));all_goals
   have hps:jd s=([],1):=by unfold jd;rw[aw hc0]
   rw[hps];first|done|rfl
 simp only[bM]at hc0;obtain⟨q1,q2⟩:=FK hc0;refine aD ?_;refine aT (v:=.str s.name) ?_;refine dk (hb:=fun _=>cd) ?_;refine fH ?_;refine cy (nx':=8) (v:=.any) (m':=[(11,.row (vk s 0)),(0,.buf 2 [fR.D s]),(6,.bld (some 11) (vk s 0).length true)]) (hc:=fun K' hK=>h489 _ _ K' ⟨([115,104,101,108,102,32]++s.name)++[10],6,[],rfl,.inl ⟨false,aQ,rfl⟩,cd,aJ,by simp only[bQ,aP,a8];omega,by rw[show []++(([115,104,101,108,102,32]++s.name)++[10])=vk s 0 from by rw[T5];rfl];exact hK⟩) (hn:=aF) ?_;refine aB ?_;refine aT (v:=.sl 11 (s.es.map cx.D)) ?_;refine aA ?_;intro u0;refine ax ?_;refine ba hm (ι:=Nat) (fun i=>[.un,.un,.un,⟨true,.ptr 0 2 0 0⟩,.un,⟨true,.ptr 6 2 0 0⟩,⟨true,.int .i64 (i:Nat)⟩,⟨true,.int .i64 (s.es.length:Nat)⟩,.un,⟨true,.sl 11 (s.es.map cx.D)⟩,.un,.un,.un,.un]) (fun i=>[(0,.buf 2 [fR.D s]),(6,.bld (some 7) (vk s i).length true),(7,.row (vk s i))]) 20 (fun i=>i<=s.es.length) (fun i=>s.es.length-i) 0 ae (a7.to [(0,0),(6,6),(11,7)] ah ah ei (by refine bo.fY ah ah ah ?_;refine bo.bl 6 ah ah ah (aj List.length (rfl)) rfl ?_;refine bo.rw 11 ah ah (rfl) ?_;exact bo.nil)) ?_;intro i hi;have q3:=zx (s:=s) ae hi;refine ay ?_;refine cG (fun hc1=>?_) fun hc1=>?_
 .refine ay ?_;have hsm:=hp0 _ (bF (show i<s.es.length by omega));have q4:=uK s.es[i]!.r;have q5:=ig s.es[i]!.sum;have hxt:=Cb (show i<s.es.length by omega);have hee:=ER s.es[i]!;refine bI i ?_;refine bE (v:=cx.D s.es[i]!) ?_;refine aA ?_;refine aI (cx.D s.es[i]!) (he:=aQ) ?_;refine aZ ?_;refine aT (v:=.bool s.es[i]!.off) ?_;refine aA ?_;refine cG (fun hc2=>?_) fun hc2=>?_
  .refine aE ?_;refine aT (v:=Rec.D s.es[i]!.r) ?_;refine aq (hc:=h72 s.es[i]!.r hsm) ?_;refine bN ?_;refine aT (v:=.int .u64 s.es[i]!.sum) ?_;refine aq (hc:=h497 _) ?_;refine fH ?_;refine aA ?_;refine fH ?_;refine aA ?_;refine fH ?_;refine cy (nx':=38) (v:=.any) (m':=[(45,.row (vk s (i+1))),(0,.buf 2 [fR.D s]),(6,.bld (some 45) (vk s (i+1)).length true),(23,.buf 11 [cx.D s.es[i]!])]) (hc:=fun K' hK=>h489 _ _ K' ⟨(([101,110,116,114,121,32]++fQ s.es[i]!.sum)++[32,111,102,102,10])++(dw s.es[i]!.r).1,6,vk s i,rfl,.inr ⟨7,true,aQ,aQ⟩,cd,aJ,by simp only[bQ,aP,a8];omega,by rw[show vk s i++((([101,110,116,114,121,32]++fQ s.es[i]!.sum)++[32,111,102,102,10])++(dw s.es[i]!.r).1)=vk s (i+1)from by rw[hxt,hee,hc2];rfl];exact hK⟩) (hn:=aF) ?_;refine aZ ?_;exact⟨i+1,ae,ae,(a7.to [(0,0),(6,6),(45,7)] ah ah ei (by refine bo.fY ah ah ah ?_;refine bo.bl 6 ah ah ah (aj List.length (rfl)) rfl ?_;refine bo.rw 45 ah ah (rfl) ?_;exact bo.nil))⟩
  refine ay ?_;refine aT (v:=Rec.D s.es[i]!.r) ?_;refine aq (hc:=h72 s.es[i]!.r hsm) ?_;refine bN ?_;refine aT (v:=.int .u64 s.es[i]!.sum) ?_;refine aq (hc:=h497 _) ?_;refine fH ?_;refine aA ?_;refine fH ?_;refine aA ?_;refine fH ?_;refine cy (nx':=37) (v:=.any) (m':=[(44,.row (vk s (i+1))),(0,.buf 2 [fR.D s]),(6,.bld (some 44) (vk s (i+1)).length true),(23,.buf 11 [cx.D s.es[i]!])]) (hc:=fun K' hK=>h489 _ _ K' ⟨(([101,110,116,114,121,32]++fQ s.es[i]!.sum)++[32,111,110,10])++(dw s.es[i]!.r).1,6,vk s i,rfl,.inr ⟨7,true,aQ,aQ⟩,cd,aJ,by simp only[bQ,aP,a8];omega,by rw[show vk s i++((([101,110,116,114,121,32]++fQ s.es[i]!.sum)++[32,111,110,10])++(dw s.es[i]!.r).1)=vk s (i+1)from by rw[hxt,hee,hc2];rfl];exact hK⟩) (hn:=aF) ?_;refine aZ ?_;exact⟨i+1,ae,ae,(a7.to [(0,0),(6,6),(44,7)] ah ah ei (by refine bo.fY ah ah ah ?_;refine bo.bl 6 ah ah ah (aj List.length (rfl)) rfl ?_;refine bo.rw 44 ah ah (rfl) ?_;exact bo.nil))⟩
 refine ay ?_;have h33:i=s.es.length:=ae;subst h33;have hne:vk s s.es.length≠[]:=by unfold vk cw;simp[aS,fN]
 have hps:jd s=(vk s s.es.length,0):=by unfold jd;rw[ak (by simp[hc0]),FU]
 refine cy (nx':=21) (v:=.str (vk s s.es.length)) (m':=[(0,.buf 2 [fR.D s])]) (hc:=fun K' hK=>h452 _ _ K' ⟨6,vk s s.es.length,rfl,.inr ⟨7,true,aQ,aQ⟩,hne,hK⟩) (hn:=aF) ?_;refine aB ?_;refine bG (aH (aj D.str ?_) (aj (D.int .i64) ?_));all_goals
  rw[hps];first|done|rfl
noncomputable def Ko:aC:=cR 206
def w882  (n:Nat)  (hp0:n<=9999):di Y Ko (.str (dJ n)) [.int .u64 (n:Nat)]:=by
 show bK _ _ _ [⟨_,_⟩,_,_,_] _;refine ar ?_;refine aB ?_;refine Mc ((n%10:Nat):Int) (hn:=by intro _;omega) (hb:=fun _=>rfl) ?_;refine lT ((n%10:Nat):Int) (hb:=fun _=>IntWalk.u8_in _ ae) ?_;refine BE (((dg (n%10)).toNat:Nat):Int) (hb:=fun _=>by rw[Dc ae];exact IntWalk.u8_in _ ae) ?_;refine dh [.int .u8 _] ?_;refine HD [dg (n%10)] (he:=fun _=>sR.all ah rfl) (hs:=fun _=>rfl) ?_;refine ax ?_;have h0:dJ n=(if n<10 then []else dJ (n/10))++[dg (n%10)]:=by
  split
  .rename_i h;rw[mK h,Nat.mod_eq_of_lt h];rfl
  .rw[nP ae]
 refine ba hm (ι:=(Nat×au)) (fun p=>[⟨true,.int .u64 (p.1:Nat)⟩,.un,.un,⟨true,.str p.2⟩]) (fun p=>[]) 8 (fun p=>p.1<=9999/\p.2.length<=9999-p.1+1/\dJ n=(if p.1<10 then []else dJ (p.1/10))++p.2) (fun p=>p.1) (n,[dg (n%10)]) ⟨hp0,aJ,h0⟩ (du []) ?_;rintro⟨k,s⟩ ⟨hk,hs,hr⟩;dsimp only at hk hs hr⊢;refine aE ?_;refine cG (fun hc0=>?_) fun hc0=>?_
 .refine aB ?_;refine r_quo ((k/10:Nat):Int) (hn:=by intro _;omega) (hb:=fun _=>by rw[show((k:Int).tdiv 10)=((k/10:Nat):Int)from rfl,IntKind.wrap_u64];omega) ?_;refine aB ?_;refine Mc (((k/10)%10:Nat):Int) (hn:=by intro _;omega) (hb:=fun _=>rfl) ?_;refine lT (((k/10)%10:Nat):Int) (hb:=fun _=>IntWalk.u8_in _ ae) ?_;refine BE (((dg ((k/10)%10)).toNat:Nat):Int) (hb:=fun _=>by rw[Dc ae];exact IntWalk.u8_in _ ae) ?_;refine dh [.int .u8 _] ?_;refine HD [dg ((k/10)%10)] (he:=fun _=>sR.all ah rfl) (hs:=fun _=>rfl) ?_;refine aA ?_;refine dk (hb:=fun _=>cZ) ?_;refine aB ?_;have h1:dJ n=(if k/10<10 then []else dJ (k/10/10))++([dg (k/10%10)]++s):=by
   rw[hr,ak ae];split
   .rename_i h;rw[mK h,Nat.mod_eq_of_lt h];rfl
   .rw[nP ae,ey]
  exact⟨(k/10,[dg (k/10%10)]++s),⟨dF,cZ,h1⟩,dF,(du [])⟩
 refine aZ ?_;refine dc ?_;rw[hr,aw ae];rfl
noncomputable def H4:aC:=cR 176
def w734 {Y:Ctx}(hm:(Y.at 0).b8)(h882:C882 Y)(n:Int)  (hp0:0<=n/\n<=9999):di Y H4 (.str (dJ n.toNat)) [.int .i64 n]:=by
 show bK _ _ _ [⟨_,_⟩,_,_] _;refine ar ?_;refine aZ ?_;refine cG (fun hc0=>?_) fun hc0=>?_
 .omega
 refine ax ?_;obtain⟨k,rfl⟩:∃k:Nat,n=k:=⟨n.toNat,ae⟩
 refine aA ?_;refine lT (k:Int) (hb:=fun _=>by rw[IntKind.wrap_u64];omega) ?_;refine aq (hc:=h882 _ ?_) ?_;rotate_left;first|assumption|omega
 refine ay ?_;exact dc rfl
noncomputable def Km:aC:=cR 73
def w470  (s:au)(b:Int)  (hp0:s.length<=1048576):di Y Km (.sl 1 ((ai s b).map D.str)) [.str s,.int .u8 b]:=by
 show bK _ _ _ [⟨_,_⟩,⟨_,_⟩,_,_,_,_,_,_] _;refine ar ?_;refine gD ?_;refine ba hm (ι:=(Nat×Nat×List au)) (fun p:Nat×Nat×List au=>[⟨true,.str s⟩,⟨true,.int .u8 b⟩,.un,⟨true,.int .i64 (p.1:Nat)⟩,.un,.un,⟨true,.own 0 1 0 p.2.2.length⟩,⟨true,.int .i64 (p.2.1:Nat)⟩]) (fun p=>[(0,.buf 1 (p.2.2.map D.str))]) 4 (fun p=>p.1<=s.length/\p.2.1<=p.1/\p.2.2.length<=p.1/\ai s b=p.2.2++cE b (s.drop p.1) ((s.take p.1).drop p.2.1)) (fun p=>s.length-p.1) (0,0,[]) ⟨aJ,aJ,aJ,rfl⟩ (a7.to [] ah ah (by repeat(first|exact dr.nil|refine dr.un ?_|refine dr.eq ah ?_|refine dr.nl ah ah ?_|refine dr.ni (Or.inr ⟨0,1,0,rfl⟩) ?_)) (by repeat(first|exact bo.nil|refine bo.mt ah ah ah ah ?_))) ?_;rintro⟨i,fr,acc⟩ ⟨hi,hf,ha,hr⟩;dsimp only at hi hf ha hr⊢;refine aE ?_;intro u0;refine ax ?_;refine cG (fun hc0=>?_) fun hc0=>?_
 .refine c7 ?_;refine wp_cond (fun hc1=>?_) (fun hc1=>?_)
  .try simp only[dq]at hc1
   refine aE ?_;refine BH _ _ ?_;refine dh [(.str _)] ?_;refine Cn ?_;exact⟨(i+1,i+1,acc++[(s.take i).drop fr]),⟨dF,dF,cZ,by rw[hr,D6 ae hc1];simp⟩,dF,(a7.to [(19,0)] ah ah lP (by refine bo.nl 19 ah ah ah eL ?_;exact bo.nil))⟩
  simp only[bc]at hc1;refine bN ?_;exact⟨(i+1,fr,acc),⟨dF,dF,dF,by rw[hr,D7 ae ae hc1]⟩,dF,(a7.to [(0,0)] ah ah lP (by refine bo.nl 0 ah ah ah eL ?_;exact bo.nil))⟩
 refine aD ?_;refine fB _ ?_;refine dh [(.str _)] ?_;refine ay ?_;refine eI 13 ?_;refine aA ?_;refine bG (?_);have hs:ai s b=acc++[s.drop fr]:=by rw[hr,B6 ae]
 rw[hs];exact rfl
noncomputable def GG:aC:=cR 68
def w499  (s:au)   :di Y GG (.tup [.int .u64 (pr s),.bool (iQ s)]) [.str s]:=by
 show bK _ _ _ [⟨_,_⟩,_,_,_,_,_,_,_,_,_,_,_] _;refine ar ?_;refine aZ ?_;intro u0;refine ax ?_;refine cG (fun hc0=>?_) fun hc0=>?_
 .refine aD ?_;refine bG (aH (aj (D.int .u64) ?_) (aj D.bool ?_));all_goals
   have:iQ s=false:=by simp only[iQ];rw[cI (by omega:¬s.length=16)];rfl
   simp[pr,this]
 refine bN ?_;intro u1;refine ax ?_;have h16:s.length=16:=ae;have hP:iQ s=cS (fun i=>jI (at8 s i)) 0 s.length:=by simp only[iQ];rw[ca h16];rfl
 refine ba hm (ι:=Nat) (fun i=>[⟨true,.str s⟩,.un,.un,.un,⟨true,.int .i64 (i:Nat)⟩,⟨true,.int .i64 (s.length:Nat)⟩,.un,.un,.un,.un,⟨true,.int .u64 (oL (s.take i))⟩,.un]) (fun i=>[]) 9 (fun i=>i<=s.length/\s.length=16/\iQ s=cS (fun i=>jI (at8 s i)) i s.length) (fun i=>s.length-i) 0 ⟨ae,h16,hP⟩ (du []) ?_;rintro i ⟨hi,h16,hr⟩;refine ay ?_;refine cG (fun hc1=>?_) fun hc1=>?_
 .refine Uq ?_;refine fO (fun hc2=>?_) fun hc2=>?_
  .refine aA ?_;have h256:=wz s i;have hz:jI (at8 s i)=true:=by simp only[jI,bn,cN,bC,aK];omega
   have hv:rp (at8 s i)=at8 s i-48:=by unfold rp;rw[aw (by simp only[bn,bC,aK];omega)]
   refine aA ?_;refine HF (tW (oL (s.take i)) 4) (hb:=fun _=>by rw[show min (Int.toNat (4:Int)) (IntKind.bits .u64)=4 by simp[IntKind.bits]];rfl) ?_;refine aA ?_;refine qM (at8 s i-48) (hb:=fun _=>IntWalk.u8_in _ ae) ?_;refine lT (at8 s i-48) (hb:=fun _=>by rw[IntKind.wrap_u64];omega) ?_;refine HE (oL (s.take (i+1))) (hb:=fun _=>by rw[uR s i ae];unfold sw;rw[hv];rfl) ?_;refine c7 ?_;exact⟨i+1,⟨ae,h16,by rw[hr,aU ae,hz];rfl⟩,ae,(du [])⟩
  refine c7 ?_;refine fO (fun hc3=>?_) fun hc3=>?_
  .refine aA ?_;have h256:=wz s i;have hz:jI (at8 s i)=true:=by simp only[jI,bn,cN,bC,aK];omega
   have hv:rp (at8 s i)=at8 s i-87:=by unfold rp;rw[ak (by simp only[bn,bC,aK];omega)]
   refine aA ?_;refine HF (tW (oL (s.take i)) 4) (hb:=fun _=>by rw[show min (Int.toNat (4:Int)) (IntKind.bits .u64)=4 by simp[IntKind.bits]];rfl) ?_;refine aA ?_;refine qM (at8 s i-97) (hb:=fun _=>IntWalk.u8_in _ ae) ?_;refine BE (at8 s i-87) (hb:=fun _=>by rw[show at8 s i-97+10=at8 s i-87 by omega];exact IntWalk.u8_in _ ae) ?_;refine lT (at8 s i-87) (hb:=fun _=>by rw[IntKind.wrap_u64];omega) ?_;refine HE (oL (s.take (i+1))) (hb:=fun _=>by rw[uR s i ae];unfold sw;rw[hv];rfl) ?_;refine c7 ?_;exact⟨i+1,⟨ae,h16,by rw[hr,aU ae,hz];rfl⟩,ae,(du [])⟩
  refine bN ?_;refine bG (aH (aj (D.int .u64) ?_) (aj D.bool ?_));all_goals
   have hz:jI (at8 s i)=false:=by simp only[jI,bn,de,dz,bc];omega
   have:iQ s=false:=by rw[hr,aU ae,hz];rfl
   simp[pr,this]
 refine bN ?_;refine bG (aH (aj (D.int .u64) ?_) (aj D.bool ?_));all_goals
  have:iQ s=true:=by rw[hr,cn ae]
  have ht:s.take i=s:=ee ae;simp[pr,this,ht]
noncomputable def Kw:aC:=cR 91
def w482 {Y:Ctx}(hm:(Y.at 0).b8)(h249:N6 Y)(h676:Yc Y)(h677:Yd Y)(h678:Ye Y)(c:dI)  (hp0:c.v.sm):di Y Kw (.str (ep c)) [dI.D c]:=by
 show bK _ _ _ [⟨_,_⟩,_,_,_,_,_,_,_] _;refine ar ?_;refine aD ?_;refine aq (hc:=h676 _ ?_) ?_;rotate_left;first|assumption|omega
 refine ax ?_;refine av (fun hc0=>?_) (fun hc0=>?_)
 .simp only[bd]at hc0;refine aE ?_;refine dc ?_;simp[ep,hc0]
 simp only[bM]at hc0;obtain⟨hv,hp1,hp2,hp3,hp4⟩:=pQ hc0;have hsl:=xF c.op;have hnl:=tq hv c.parts.toNat;have htl:=Iw hp2;have hj1:=Ej hp2;have hj2:=xN hp1 hp2;have hl2:=aj List.length hj2;have hl1:=aj List.length hj1;simp only[bQ,List.length_singleton]at hl2;have hi2:(if 0<c.parts then([46]:au)else []).length<=1:=by split<;>simp
 refine ay ?_;refine cy (nx':=6) (v:=.own 6 1 0 c.parts.toNat) (m':=[(6,.buf 1 [.str (dJ c.v.major.toNat),.str (dJ c.v.minor.toNat),.str (dJ c.v.patch.toNat)]),(0,.buf 7 [dI.D c])]) (hc:=fun K' hK=>h677 c ⟨hv,hp1,hp2⟩ _ _ K' hK) (hn:=aF) ?_;refine bN ?_;refine cG (fun hc1=>?_) fun hc1=>?_
 .refine aZ ?_;refine ZL c.parts.toNat (hj:=fun _=>ae) (hb:=fun _=>ae) ?_;refine dh [.str _] ?_;refine yr ((na c++[[42]]).map D.str) (n:=(na c++[[42]]).length) (ha:=cZ) (he:=sR.own rfl aJ) (hz:=by rw[bZ,B9,List.map_append];rfl) (hn:=cZ) (hb:=cZ) ?_;refine aq (hc:=h249 (na c++[[42]]) 46 (by rw[hj2];simp only[bQ,List.length_singleton];omega)) (ha:=fun _=>aj (fun d=>[d,D.int .u8 46]) (pB (q:=D.str) (fun _=>rfl) ah)) (hp:=fun _=>⟨nj (q:=D.str) (fun _=>rfl) ah,rfl,trivial⟩) ?_;refine ay ?_;refine dc ?_;rw[ep,aw hc0,hj2];simp[mR,lV,hc1,dQ]
 refine aB ?_;refine aq (hc:=h678 _) ?_;refine aA ?_;refine aq (hc:=h249 (na c) 46 (by rw[hj1];omega)) (ha:=fun _=>aj (fun d=>[d,D.int .u8 46]) (Wq ah)) (hp:=fun _=>⟨TZ hp2 ah,rfl,trivial⟩) ?_;refine dk (hb:=fun _=>ae) ?_;refine c7 ?_;refine cG (fun hc2=>?_) fun hc2=>?_
 .refine aA ?_;have hpl:=hp0.1;refine aA ?_;refine fH ?_;refine ay ?_;refine fH ?_;refine aZ ?_;refine dc ?_;rw[ep,aw hc0,hj1];simp[mR,lV,hc1,hc2]
 refine aD ?_;refine dc ?_;rw[ep,aw hc0,hj1];simp[mR,lV,hc1,hc2]
end Go.Abs
