/- A part of the proofs. -/
import Derived.Lib.CountLaws
import Derived.Lib.IndexMore
import Derived.Lib.ItoaNum
import Derived.Lib.Join
import Derived.Lib.Split
import Derived.Lib.SplitLaws
import Derived.Lib.Strings
import Derived.Lib.TrimByte
import Derived.Shelf.Strings.Split
import Derived.Test.YtgnjlompgjhaaaaGreatDoorP09
set_option linter.all false
set_option maxRecDepth 60000
namespace Go.Abs
variable {Y:Ctx}(hm:(Y.at 0).b7)
noncomputable def ll:aC:=cP 169
def w473 {Y:Ctx}(hm:(Y.at 5).b7)(t:au)(nm:au)(v:cn)(N:List bp)(B:List fq)(Z:List bZ)(st:Nat)(h475:T9 (Y.at 5))(hp0:t.length<=1048576)(hp1:st=2->N≠[])(hp2:st=5->B≠[])(hp3:N.length<=1000000)(hp4:B.length<=1000000):bJ (Y.at 5) ll.body (jQ ll (X6 (oX ⟨⟨nm,v,N,B,Z⟩,st⟩ t)):Ex->List cg->St->Prop) (fD ll [.ptr 0 10 0 0,.str t]) ⟨5,[(0,.buf 10 [nR nm v N.length B.length Z.length ((st:Nat):Int) 1 3 4]),(1,.buf 3 (eL 2 N)),(2,.buf 4 (mW N)),(3,.buf 3 (B.map fq.D)),(4,.buf 2 (Z.map bZ.D))]⟩:=by
 show bJ _ _ _ [⟨true,.ptr 0 10 0 0⟩,⟨true,.str t⟩,.un,.un,.un,.un,.un,.un] ⟨5,[(0,.buf 10 [nR nm v N.length B.length Z.length ((st:Nat):Int) 1 3 4]),(1,.buf 3 (eL 2 N)),(2,.buf 4 (mW N)),(3,.buf 3 (B.map fq.D)),(4,.buf 2 (Z.map bZ.D))]⟩;have hrl:=Fe t 1;have hrn:=xb t 1;have hre:=Bs t 1;obtain⟨⟨l,u,ok⟩,hq⟩:∃q,gQ t 1=q:=⟨_,rfl⟩
 rw[hq]at hrl hrn hre;dsimp only at hrl hrn hre;refine ar ?_;refine aB ?_;refine aq (v:=.tup [.sl 1 (l.map D.str),.str u,.bool ok]) (hc:=by have:=h475 t 1 hp0 aF;rw[hq]at this;exact this) ?_;refine aA ?_;refine eX (.sl _ _) ?_;refine gu ?_;refine wp_cond (fun hc0=>?_) (fun hc0=>?_)
 .simp only[bd]at hc0;have ho:oX ⟨⟨nm,v,N,B,Z⟩,st⟩ t=none:=by unfold oX;rw[hrl,hc0];rfl
  rw[ho];refine aE ?_;refine bO trivial eg (bR ah (aj D.bool ?_)) ah ⟨rfl,fun y hy=>by cases hy⟩;rfl
 simp only[bK]at hc0;have hw:oX ⟨⟨nm,v,N,B,Z⟩,st⟩ t=(if st=2 then some ⟨⟨nm,v,gh N fun n=>⟨n.any,u,n.option⟩,B,Z⟩,3⟩else if st=5 then some ⟨⟨nm,v,N,gh B fun b=>⟨b.name,b.range,u⟩,Z⟩,6⟩else none):=by
  unfold oX;rw[hrl,aw hc0]
 refine aB ?_;refine aT (v:=.int .i64 ((st:Nat):Int)) ?_;refine ay ?_;refine wp_cond (fun hc1=>?_) (fun hc1=>?_)
 .simp only[aK]at hc1;obtain rfl:st=2:=ae;obtain⟨N,n,rfl⟩:=sZ (hp1 rfl);have hnl:(N++[n]).length=N.length+1:=aJ;rw[aw rfl,eY]at hw;rw[hw,gF,ju];refine aE ?_;refine aT (v:=.own 1 3 0 (N++[n]).length) ?_;refine aB ?_;refine aT (v:=.own 1 3 0 (N++[n]).length) ?_;refine ik ?_;refine ay ?_;refine ie N.length (hj:=fun _=>ae) (hb:=fun _=>ae) ?_;refine aA ?_;refine r5 (es:=N.map bp.D++[lH 2 n]) (N.map bp.D++[lH 2 ⟨n.any,u,n.option⟩]) (hi:=aJ) (he:=by rw[mI _ _ _ _ aJ,pY _ _ _ _ aJ];exact rfl) ?_;refine ax ?_;refine aI (nR nm v (N++[n]).length B.length Z.length ((3:Nat):Int) 1 3 4) (he:=aQ) ?_;refine aD ?_;refine bO trivial eg (bR ah (aj D.bool ?_)) ah ⟨rfl,fun y hy=>by cases hy;exact⟨1,2,3,4,aF,⟨(by have e:(N++[(⟨n.any,u,n.option⟩:bp)]).length=(N++[n]).length:=aJ;show _=some (bW.buf 10 [nR nm v (N++[(⟨n.any,u,n.option⟩:bp)]).length B.length Z.length ((3:Nat):Int) 1 3 4]);rw[e];exact rfl),(by rw[gF];exact rfl),(by rw[ju];exact rfl),ah,ah⟩⟩⟩;rfl
 simp only[bc]at hc1;rw[ak (show ¬st=2 by omega)]at hw;refine aB ?_;refine aT (v:=.int .i64 ((st:Nat):Int)) ?_;refine ay ?_;refine wp_cond (fun hc2=>?_) (fun hc2=>?_)
 .simp only[aK]at hc2;obtain rfl:st=5:=ae;obtain⟨B,b,rfl⟩:=sZ (hp2 rfl);have hbl:(B++[b]).length=B.length+1:=aJ;rw[aw rfl,eY]at hw;rw[hw];rw[List.map_append];refine aE ?_;refine aT (v:=.own 3 3 0 (B++[b]).length) ?_;refine aB ?_;refine aT (v:=.own 3 3 0 (B++[b]).length) ?_;refine ik ?_;refine ay ?_;refine ie B.length (hj:=fun _=>ae) (hb:=fun _=>ae) ?_;refine aA ?_;refine r5 (es:=B.map fq.D++[b].map fq.D) (B.map fq.D++[fq.D ⟨b.name,b.range,u⟩]) (hi:=aJ) (he:=by rw[List.map_cons,List.map_nil,mI _ _ _ _ aJ,pY _ _ _ _ aJ];exact rfl) ?_;refine ax ?_;refine aI (nR nm v N.length (B++[b]).length Z.length ((6:Nat):Int) 1 3 4) (he:=aQ) ?_;refine aD ?_;refine bO trivial eg (bR ah (aj D.bool ?_)) ah ⟨rfl,fun y hy=>by cases hy;exact⟨1,2,3,4,aF,⟨(by have e:(B++[(⟨b.name,b.range,u⟩:fq)]).length=(B++[b]).length:=aJ;show _=some (bW.buf 10 [nR nm v N.length (B++[(⟨b.name,b.range,u⟩:fq)]).length Z.length ((6:Nat):Int) 1 3 4]);rw[e];exact rfl),ah,ah,(by rw[List.map_append];exact rfl),ah⟩⟩⟩;rfl
 simp only[bc]at hc2;rw[ak (show ¬st=5 by omega)]at hw;rw[hw];refine aD ?_;refine bO trivial eg (bR ah (aj D.bool ?_)) ah ⟨rfl,fun y hy=>by cases hy⟩;rfl
noncomputable def jr:aC:=cP 172
def w476 {Y:Ctx}(hm:(Y.at 5).b7)(l:List au)(nm:au)(v:cn)(N:List bp)(B:List fq)(Z:List bZ)(st:Nat)(h474:Xm (Y.at 5))(hp0:l.length<=1048577)(hp1:Z.length<=1000000):bJ (Y.at 5) jr.body (jQ jr (X6 ((if 2<=l.length/\wS l l.length=true then some (⟨⟨nm,v,N,B,Z++[⟨l[1]!,l.drop 2⟩]⟩,7⟩:jg)else none))):Ex->List cg->St->Prop) (fD jr [.ptr 0 10 0 0,.sl 1 (l.map D.str)]) ⟨5,[(0,.buf 10 [nR nm v N.length B.length Z.length ((st:Nat):Int) 1 3 4]),(1,.buf 3 (eL 2 N)),(2,.buf 4 (mW N)),(3,.buf 3 (B.map fq.D)),(4,.buf 2 (Z.map bZ.D))]⟩:=by
 show bJ _ _ _ [⟨true,.ptr 0 10 0 0⟩,⟨true,.sl 1 (l.map D.str)⟩,.un,.un,.un] ⟨5,[(0,.buf 10 [nR nm v N.length B.length Z.length ((st:Nat):Int) 1 3 4]),(1,.buf 3 (eL 2 N)),(2,.buf 4 (mW N)),(3,.buf 3 (B.map fq.D)),(4,.buf 2 (Z.map bZ.D))]⟩;refine ar ?_;refine aD ?_;intro u0;refine aB ?_;refine ik ?_;refine aq (hc:=h474 l l.length) ?_;refine ay ?_;refine av (fun hc0=>?_) (fun hc0=>?_)
 .simp only[cM,bd,aK]at hc0;have ho:(if 2<=l.length/\wS l l.length=true then some (⟨⟨nm,v,N,B,Z++[⟨l[1]!,l.drop 2⟩]⟩,7⟩:jg)else none)=none:=ak (by rintro⟨a,b⟩;rcases hc0 with h|h;omega;rw[b]at h;cases h);rw[ho];refine aE ?_;refine bO trivial eg (bR ah (aj D.bool ?_)) ah ⟨rfl,fun y hy=>by cases hy⟩;rfl
 simp only[dd,bK,bc]at hc0;have h2l:2<=l.length:=ae;have ho:(if 2<=l.length/\wS l l.length=true then some (⟨⟨nm,v,N,B,Z++[⟨l[1]!,l.drop 2⟩]⟩,7⟩:jg)else none)=some (⟨⟨nm,v,N,B,Z++[⟨l[1]!,l.drop 2⟩]⟩,7⟩:jg):=aw ⟨h2l,hc0.2⟩;rw[ho];refine ay ?_;refine bH 1 (hb:=fun _=>ae) ?_;refine bD (v:=.str l[1]!) (hi:=fun _=>ae) ?_;refine bg (.agg [.str l[1]!,.bq]) ?_;refine aA ?_;refine aI (.agg [.str l[1]!,.bq]) (he:=aQ) ?_;refine ay ?_;refine aT (v:=.bq) ?_;refine aA ?_;refine rZ 2 (hb:=fun _=>ae) ?_;refine SO (n:=(l.drop 2).length) (he:=sA.sl) (hn:=by rw[bN]) (hb:=by rw[jO];omega) ?_;refine aA ?_;refine aI (.agg [.str l[1]!,.own 26 1 0 (l.drop 2).length]) (he:=aQ) ?_;refine aA ?_;refine eH 26 (he:=by simp only[kS,iD,iN,lG,mU,cH,Nat.reduceEqDiff,aW,aX,cN,cr,ct,cS,cW,bQ,bN,aL,bY,aN,reduceCtorEq,aP,a8,Nat.reduceAdd,Nat.reduceLeDiff,nR];exact rfl) (hm:=by simp only[kS,iD,iN,lG,mU,cH,Nat.reduceEqDiff,aW,aX,cN,cr,ct,cS,cW,bQ,bN,aL,bY,aN,reduceCtorEq,aP,a8,Nat.reduceAdd,Nat.reduceLeDiff,nR,wK 26 _ _ aF,wm,tS,tT];exact rfl) ?_;refine aZ ?_;refine aT (v:=.own 4 2 0 Z.length) ?_;refine cz (d:=bZ.D ⟨l[1]!,l.drop 2⟩) ?_;refine df [bZ.D ⟨l[1]!,l.drop 2⟩] ?_;refine gL (q:=bZ.D) (xs:=Z) (e:=⟨l[1]!,l.drop 2⟩) ?_;refine ay ?_;refine aI (nR nm v N.length B.length (Z++[(⟨l[1]!,l.drop 2⟩:bZ)]).length ((st:Nat):Int) 1 3 38) (he:=aQ) ?_;refine ax ?_;refine aI (nR nm v N.length B.length (Z++[(⟨l[1]!,l.drop 2⟩:bZ)]).length ((7:Nat):Int) 1 3 38) (he:=aQ) ?_;refine aE ?_;refine bO trivial eg (bR ah (aj D.bool ?_)) ah ⟨rfl,fun y hy=>by cases hy;exact⟨1,2,3,38,aF,⟨ah,ah,ah,ah,ah⟩⟩⟩;rfl
noncomputable def lh:aC:=cP 167
def w471 {Y:Ctx}(hm:(Y.at 5).b7)(l:List au)(nm:au)(v:cn)(N:List bp)(B:List fq)(Z:List bZ)(st:Nat)(h568:C568 (Y.at 5))(hp0:∀w∈l,w.length<=1048576):bJ (Y.at 5) lh.body (jQ lh (X6 (rH ⟨⟨nm,v,N,B,Z⟩,st⟩ l)):Ex->List cg->St->Prop) (fD lh [.ptr 0 10 0 0,.sl 1 (l.map D.str)]) ⟨5,[(0,.buf 10 [nR nm v N.length B.length Z.length ((st:Nat):Int) 1 3 4]),(1,.buf 3 (eL 2 N)),(2,.buf 4 (mW N)),(3,.buf 3 (B.map fq.D)),(4,.buf 2 (Z.map bZ.D))]⟩:=by
 show bJ _ _ _ [⟨true,.ptr 0 10 0 0⟩,⟨true,.sl 1 (l.map D.str)⟩,.un,.un,.un,.un] ⟨5,[(0,.buf 10 [nR nm v N.length B.length Z.length ((st:Nat):Int) 1 3 4]),(1,.buf 3 (eL 2 N)),(2,.buf 4 (mW N)),(3,.buf 3 (B.map fq.D)),(4,.buf 2 (Z.map bZ.D))]⟩;refine ar ?_;refine aD ?_;intro u0;refine ay ?_;refine bH 0 (hb:=fun hf=>by simp at hf;omega) ?_;refine bD (v:=.str l[0]!) (hi:=fun hf=>by simp at hf;omega) ?_;refine aB ?_;refine bH 1 (hb:=fun hf=>by simp at hf;omega) ?_;refine bD (v:=.str l[1]!) (hi:=fun hf=>by simp at hf;omega) ?_;refine ay ?_;refine av (fun hc0=>?_) (fun hc0=>?_)
 .simp only[cM,bd,aK,bc]at hc0;have ho:rH ⟨⟨nm,v,N,B,Z⟩,st⟩ l=none:=by
   unfold rH;rw[ak];rintro⟨⟨a,b⟩,c⟩;rcases hc0 with(h|h)|h
   .exact h ae
   .exact h b
   .exact c h
  rw[ho];refine aE ?_;refine bO trivial eg (bR ah (aj D.bool ?_)) ah ⟨rfl,fun y hy=>by cases hy⟩;rfl
 simp only[dd,bK,aK,bc]at hc0;obtain⟨⟨hl3,hl0⟩,hl1⟩:=hc0;obtain hl3:l.length=3:=ae;have hhx:rH ⟨⟨nm,v,N,B,Z⟩,st⟩ l=(match gf l[2]! with
  |some v=>some ⟨⟨l[1]!,v,N,B,Z⟩,1⟩
  |none=>none):=aw ⟨⟨hl3,hl0⟩,hl1⟩
 rw[hhx];refine ay ?_;refine bH 2 (hb:=fun _=>ae) ?_;refine bD (v:=.str l[2]!) (hi:=fun _=>ae) ?_;refine aq (hc:=h568 l[2]! (hp0 _ (bE ae))) ?_;refine aA ?_;refine eX (cn.D _) ?_;refine ax ?_;refine aI (cn.D ((gf l[2]!).getD gm)) (he:=aQ) ?_;refine ax ?_;refine eH 28 (he:=by simp only[kS,iD,iN,lG,mU,cH,Nat.reduceEqDiff,aW,aX,cN,cr,ct,cS,cW,bQ,bN,aL,bY,aN,reduceCtorEq,aP,a8,Nat.reduceAdd,Nat.reduceLeDiff,nR,cn.D];exact rfl) (hm:=by simp only[kS,iD,iN,lG,mU,cH,Nat.reduceEqDiff,aW,aX,cN,cr,ct,cS,cW,bQ,bN,aL,bY,aN,reduceCtorEq,aP,a8,Nat.reduceAdd,Nat.reduceLeDiff,nR,cn.D,wK 28 _ _ aF,wm,tS,tT];exact rfl) ?_;refine aE ?_;refine bH 1 (hb:=fun _=>ae) ?_;refine bD (v:=.str l[1]!) (hi:=fun _=>ae) ?_;refine Bf (v:=cn.D ((gf l[2]!).getD gm)) ?_;refine ay ?_;refine aI (nR l[1]! v N.length B.length Z.length ((st:Nat):Int) 1 3 4) (he:=aQ) ?_;refine ay ?_;refine aI (nR l[1]! ((gf l[2]!).getD gm) N.length B.length Z.length ((st:Nat):Int) 1 3 4) (he:=aQ) ?_;refine ax ?_;refine aI (nR l[1]! ((gf l[2]!).getD gm) N.length B.length Z.length ((1:Nat):Int) 1 3 4) (he:=aQ) ?_;refine aZ ?_;refine bO trivial eg (bR ah (aj D.bool ?_)) ah ⟨rfl,fun y hy=>by obtain⟨w,hv⟩:∃w,gf l[2]! =some w:=(by cases hv:gf l[2]! with|none=>rw[hv]at hy;cases hy|some w=>exact⟨w,rfl⟩);rw[hv]at hy;cases hy;exact⟨1,2,3,4,aF,⟨(by rw[hv];exact rfl),ah,ah,ah,ah⟩⟩⟩;rw[TF];cases gf l[2]! <;>rfl
def Ge (x:jg)(l:List au):Option jg:=if 2<=l.length/\wS l l.length=true then some ⟨⟨x.r.name,x.r.v,x.r.needs,x.r.bars,x.r.feats++[⟨l[1]!,l.drop 2⟩]⟩,7⟩else none
def Xj (Y:Ctx):Prop:=∀(x:jg) (l:List au),(∀w∈l,w.length<=1048576)->RdC Y 471 [.sl 1 (l.map D.str)] x (rH x l)
def Xk (Y:Ctx):Prop:=∀(x:jg) (t:au),t.length<=1048576->(x.st=2->x.r.needs≠[])->tt x.r.needs<=1000000->x.r.needs.length<=1000000->RdC Y 472 [.str t] x (vR x t)
def Xl (Y:Ctx):Prop:=∀(x:jg) (t:au),t.length<=1048576->(x.st=2->x.r.needs≠[])->(x.st=5->x.r.bars≠[])->x.r.needs.length<=1000000->x.r.bars.length<=1000000->RdC Y 473 [.str t] x (oX x t)
def Xn (Y:Ctx):Prop:=∀(x:jg) (l:List au),l.length<=1048577->x.r.feats.length<=1000000->RdC Y 476 [.sl 1 (l.map D.str)] x (Ge x l)
def Ea {out:Option jg}{L:Nat}(h:tQ 0 L (L+1) (L+2) (L+3)=true):X6 out (.bool out.isSome) (vP out 0 L++[]):=by
 refine⟨rfl,fun y hy=>?_⟩;subst hy;refine⟨L,L+1,L+2,L+3,h, ?_⟩;simp only[tQ,bd,dd]at h;obtain⟨⟨⟨⟨⟨⟨⟨⟨⟨h1,h2⟩,h3⟩,h4⟩,h5⟩,h6⟩,h7⟩,h8⟩,h9⟩,h10⟩:=h;have ne:∀{a b:Nat},Nat.beq a b=false->¬a=b:=fun h e=>by subst e;simp at h
 rw[gN];unfold vP X5;constructor<;>simp only[look,aW,ne h1,ne h2,ne h3,ne h4,ne h5,ne h6,ne h7,ne h8,ne h9,ne h10,aX]
mutual
theorem X3:∀d:D,d.bI=true->uL d d
 | .bq,_=>.inl rfl
 | .agg a,h=>⟨a,rfl,D9 a h⟩
 | .any,h=>⟨rfl,h⟩
 | .bool b,h=>⟨rfl,h⟩
 | .int k n,h=>⟨rfl,h⟩
 | .str s,h=>⟨rfl,h⟩
 | .tup s,h=>⟨rfl,h⟩
 | .sl k s,h=>⟨rfl,h⟩
 | .ref k s i o,h=>⟨rfl,h⟩
 | .nilp,h=>⟨rfl,h⟩
 | .nilf,h=>⟨rfl,h⟩
 | .fn f c,h=>⟨rfl,h⟩
theorem D9:∀l:List D,bG l=true->D8 l l
 |[],_=>rfl
 |d::r,h=>by
  simp only[bG,bB]at h;exact⟨d,r,rfl,X3 d h.1,D9 r h.2⟩
end
def AM:D:=.agg [.bq,.str [],.str []]
def Cx (j:Nat):∀N:List bp,D8 (N.map bp.D++[AM]) (N.map bp.D++[lH j ⟨[],[],[]⟩])
 |[]=>⟨_,_,rfl,⟨_,rfl,⟨_,_,rfl,.inr ⟨_,_,_,rfl⟩,⟨_,_,rfl,⟨rfl,rfl⟩,⟨_,_,rfl,⟨rfl,rfl⟩,rfl⟩⟩⟩⟩,rfl⟩
 |a::r=>⟨_,_,rfl,⟨_,rfl,D9 _ rfl⟩,Cx j r⟩
def Db:∀N:List bp,IB (iN 2 4 (mW N) (eL 2 N)) (N.map bp.D)
 |[]=>.nil
 |[n]=>by
  have e:iN 2 4 (mW [n]) (eL 2 [n])=[.agg [.sl 4 (n.any.map bS.N),.str n.when',.str n.option]]:=by
   grind [eL,mW,lH,iN,iD,aN]
  rw[e];exact .cons (.ag (.cons (.ss (.map fun x _=>x.wk)) (.rf _))) .nil
 |a::b::r=>.cons (.refl _) (Db (b::r))
def lU {α:Type}{c:Prop} [Decidable c]{a y:α}(h:(if c then some a else none)=some y):c/\a=y:=by
 grind
def U8 {α:Type}{c:Prop} [Decidable c]{a:α}:(if c then some a else none).isSome=decide c:=by
 grind
def Li {x:jg}{t:au}(h:x.st=0):eE x t=Ay (ai t 32):=by unfold eE;simp only[h,aW]
def Lj {x:jg}{t:au}(h0:x.st≠0)(h:(ai t 32)[0]! =ei):eE x t=if(ai t 32).length=1/\x.st<5 then some ⟨⟨x.r.name,x.r.v,x.r.needs++[⟨[],[],[]⟩],x.r.bars,x.r.feats⟩,2⟩else none:=by
 grind [eE]
def RO {x:jg}{t:au}(h0:x.st≠0)(h:(ai t 32)[0]! =gn):eE x t=vR x t:=by
 have hw:=BO
 grind [eE]
def Lk {x:jg}{t:au}(h0:x.st≠0)(h:(ai t 32)[0]! =eF):eE x t=oX x t:=by
 have hw:=BO
 grind [eE]
def RQ {x:jg}{t:au}(h0:x.st≠0)(h:(ai t 32)[0]! =cT):eE x t=if wS (ai t 32) 2=true/\(x.st=2\/x.st=3)then some ⟨⟨x.r.name,x.r.v,gh x.r.needs fun n=>⟨n.any,n.when',(ai t 32)[1]!⟩,x.r.bars,x.r.feats⟩,4⟩else none:=by
 have hw:=BO
 grind [eE]
def RP {x:jg}{t:au}(h0:x.st≠0)(h:(ai t 32)[0]! =fE):eE x t=if(gQ t 2).2.2=true/\x.st<=6 then some ⟨⟨x.r.name,x.r.v,x.r.needs,x.r.bars++[⟨(gQ t 2).1[1]!,(gQ t 2).2.1,[]⟩],x.r.feats⟩,5⟩else none:=by
 have hw:=BO
 grind [eE,Fe,gQ]
def Lh {x:jg}{t:au}(h0:x.st≠0)(h:(ai t 32)[0]! =b8):eE x t=Ge x (ai t 32):=by
 have hw:=BO
 grind [eE,Ge]
def WJ {x:jg}{t:au}(h0:x.st≠0)(h1:¬(ai t 32)[0]! =ei)(h2:¬(ai t 32)[0]! =gn)(h3:¬(ai t 32)[0]! =eF)(h4:¬(ai t 32)[0]! =cT)(h5:¬(ai t 32)[0]! =fE)(h6:¬(ai t 32)[0]! =b8):eE x t=none:=by
 grind [eE]
noncomputable def lj:aC:=cP 125
def w224 {Y:Ctx}(hm:(Y.at 5).b7)(s:au)(nm:au)(v:cn)(N:List bp)(B:List fq)(Z:List bZ)(st:Nat)(h470:tz (Y.at 5))(h471:Xj (Y.at 5))(h472:Xk (Y.at 5))(h473:Xl (Y.at 5))(h474:Xm (Y.at 5))(h475:T9 (Y.at 5))(h476:Xn (Y.at 5))(hp0:s.length<=1048576)(hp1:st=0->N=[]/\B=[]/\Z=[])(hp2:st=2\/st=3->N≠[])(hp3:st=5->B≠[])(hp4:N.length<=900000/\B.length<=900000/\Z.length<=900000/\tt N<=900000):bJ (Y.at 5) lj.body (jQ lj (X6 (eE ⟨⟨nm,v,N,B,Z⟩,st⟩ s)):Ex->List cg->St->Prop) (fD lj [.ptr 0 10 0 0,.str s]) ⟨5,[(0,.buf 10 [nR nm v N.length B.length Z.length ((st:Nat):Int) 1 3 4]),(1,.buf 3 (eL 2 N)),(2,.buf 4 (mW N)),(3,.buf 3 (B.map fq.D)),(4,.buf 2 (Z.map bZ.D))]⟩:=by
 show bJ _ _ _ [⟨true,.ptr 0 10 0 0⟩,⟨true,.str s⟩,.un,.un,.un,.un,.un,.un,.un,.un,.un,.un,.un,.un,.un,.un,.un,.un] ⟨5,[(0,.buf 10 [nR nm v N.length B.length Z.length ((st:Nat):Int) 1 3 4]),(1,.buf 3 (eL 2 N)),(2,.buf 4 (mW N)),(3,.buf 3 (B.map fq.D)),(4,.buf 2 (Z.map bZ.D))]⟩;have hsp:1<=(ai s 32).length:=ep 32 s [];have hsl:=dk s 32;have hlm:∀w∈ai s 32,w.length<=1048576:=fun w hw=>dm (dS s 32 hw) hp0
 obtain⟨z1,z2,z3,z4⟩:=hp4;have hrl:=Fe s 2;have hrn:=xb s 2;have hre:=Bs s 2;obtain⟨⟨l,u,ok⟩,hq⟩:∃q,gQ s 2=q:=⟨_,rfl⟩
 rw[hq]at hrl hrn hre;dsimp only at hrl hrn hre;refine ar ?_;refine aB ?_;refine aq (v:=.sl 1 ((ai s 32).map D.str)) (hc:=h470 s 32 hp0) ?_;refine aZ ?_;refine aT (v:=.int .i64 ((st:Nat):Int)) ?_;refine ax ?_;refine av (fun hc0=>?_) (fun hc0=>?_)
 .simp only[aK]at hc0;obtain rfl:st=0:=ae;have ho:eE ⟨⟨nm,v,N,B,Z⟩,0⟩ s=rH ⟨⟨nm,v,N,B,Z⟩,0⟩ (ai s 32):=by
   rw[Li rfl,K0 ⟨hp1,fun h=>by simp at h,fun h=>by simp at h⟩ rfl]
  rw[ho];refine aB ?_;refine cx (nx':=18) (v:=.bool (rH ⟨⟨nm,v,N,B,Z⟩,0⟩ (ai s 32)).isSome) (m':=vP (rH ⟨⟨nm,v,N,B,Z⟩,0⟩ (ai s 32)) 0 16++[]) (hc:=fun K' hK=>h471 ⟨⟨nm,v,N,B,Z⟩,0⟩ (ai s 32) hlm _ 0 1 2 3 4 _ K' ⟨aQ,aQ,aQ,aQ,aQ⟩ aF ⟨cb,cb,cb,cb,cb⟩ (by exact hK)) (hn:=aF) ?_;refine ay ?_;refine bO trivial eg (bR ah (aj D.bool ?_)) ah (Ea aF);rfl
 simp only[bc]at hc0;have h0:(⟨⟨nm,v,N,B,Z⟩,st⟩:jg).st≠0:=by show st≠0;omega
 refine aB ?_;refine bH 0 (hb:=fun _=>ae) ?_;refine bD (v:=.str (ai s 32)[0]!) (hi:=fun _=>ae) ?_;refine aD ?_;refine wp_cond (fun hc1=>?_) (fun hc1=>?_)
 .simp only[aK]at hc1;have hw:(ai s 32)[0]! =ei:=hc1;have ho:=Lj h0 hw;dsimp only at ho;refine eH 2 (hn:=lO N) (he:=by simp only[kS,iD,iN,lG,mU,cH,Nat.reduceEqDiff,aW,aX,cN,cr,ct,cS,cW,bQ,bN,aL,bY,aN,reduceCtorEq,aP,a8,Nat.reduceAdd,Nat.reduceLeDiff,nR];exact rfl) (hm:=by simp only[kS,iD,iN,lG,mU,cH,Nat.reduceEqDiff,aW,aX,cN,cr,ct,cS,cW,bQ,bN,aL,bY,aN,reduceCtorEq,aP,a8,Nat.reduceAdd,Nat.reduceLeDiff,nR,tS,tT];exact rfl) ?_;refine kF [(0,.buf 10 [nR nm v N.length B.length Z.length ((st:Nat):Int) 1 3 4]),(1,.buf 3 (N.map bp.D)),(3,.buf 3 (B.map fq.D)),(4,.buf 2 (Z.map bZ.D))] (.id ah (.bf ah (Db N) (.id ah (.id ah .nil)))) ?_;refine aD ?_;refine aT (v:=.own 1 3 0 N.length) ?_;refine bg AM ?_;refine df [AM] ?_;refine xS (xs:=N.map bp.D) (zs:=N.map bp.D++[AM]) (n:=(N++[(⟨[],[],[]⟩:bp)]).length) (ha:=aJ) (he:=sA.all (es:=[AM]) ah rfl) (hz:=by rw[bY,ed aJ]) (hn:=aJ) (hb:=cY) ?_;refine ay ?_;refine aI (nR nm v (N++[(⟨[],[],[]⟩:bp)]).length B.length Z.length ((st:Nat):Int) 27 3 4) (he:=aQ) ?_;refine aB ?_;intro u0;refine aE ?_;refine aT (v:=.int .i64 ((st:Nat):Int)) ?_;refine bL ?_;refine aI (nR nm v (N++[(⟨[],[],[]⟩:bp)]).length B.length Z.length ((2:Nat):Int) 27 3 4) (he:=aQ) ?_;refine aA ?_;refine hE (a7.to (env':=[⟨true,.ptr 0 10 0 0⟩,.un,.un,.un,.un,.un,.un,⟨true,.bool _⟩,.un,.un,.un,.un,.un,.un,.un,.un,.un,.un]) (c:=90) (nx':=90) (m':=[(0,.buf 10 [nR nm v (N++[(⟨[],[],[]⟩:bp)]).length B.length Z.length ((2:Nat):Int) 60 3 4]),(60,.buf 3 (N.map bp.D++[lH 61 ⟨[],[],[]⟩])),(61,.buf 4 []),(3,.buf 3 (B.map fq.D)),(4,.buf 2 (Z.map bZ.D))]) [(27,60)] rfl ah lF (by refine bo.FJ ah ah ah ?_;refine bo.ni 27 ah ah (Cx 61 N) ?_;refine bo.mt ah ah ah ah ?_;refine bo.fW ah ah (by exact br (fun _=>rfl) _) ?_;refine bo.fW ah ah (by exact br (fun _=>rfl) _) ?_;exact bo.nil)) ?_;refine aD ?_;refine bO trivial eg (bR ah (aj D.bool ?_)) ah ⟨rfl,fun y hy=>by rw[ho]at hy;obtain⟨_,rfl⟩:=lU hy;exact⟨60,61,3,4,aF,⟨ah,(by rw[gF];exact rfl),(by rw[ju];exact rfl),ah,ah⟩⟩⟩;rw[ho,U8,Bool.eq_iff_iff];simp only[bB,aK];omega
 simp only[bc]at hc1;have n1:¬(ai s 32)[0]! =ei:=hc1;refine aB ?_;refine wp_cond (fun hc2=>?_) (fun hc2=>?_)
 .simp only[aK]at hc2;have hw:(ai s 32)[0]! =gn:=hc2;have ho:=RO h0 hw;rw[ho];refine ay ?_;refine cx (nx':=25) (v:=.bool (vR ⟨⟨nm,v,N,B,Z⟩,st⟩ s).isSome) (m':=vP (vR ⟨⟨nm,v,N,B,Z⟩,st⟩ s) 0 23++[]) (hc:=fun K' hK=>h472 ⟨⟨nm,v,N,B,Z⟩,st⟩ s hp0 (fun h=>hp2 (.inl h)) (by show tt N<=_;omega) (by show N.length<=_;omega) _ 0 1 2 3 4 _ K' ⟨aQ,aQ,aQ,aQ,aQ⟩ aF ⟨cb,cb,cb,cb,cb⟩ (by exact hK)) (hn:=aF) ?_;refine aB ?_;refine bO trivial eg (bR ah (aj D.bool ?_)) ah (Ea aF);rfl
 simp only[bc]at hc2;have n2:¬(ai s 32)[0]! =gn:=hc2;refine aB ?_;refine wp_cond (fun hc3=>?_) (fun hc3=>?_)
 .simp only[aK]at hc3;have hw:(ai s 32)[0]! =eF:=hc3;have ho:=Lk h0 hw;rw[ho];refine ay ?_;refine cx (nx':=27) (v:=.bool (oX ⟨⟨nm,v,N,B,Z⟩,st⟩ s).isSome) (m':=vP (oX ⟨⟨nm,v,N,B,Z⟩,st⟩ s) 0 25++[]) (hc:=fun K' hK=>h473 ⟨⟨nm,v,N,B,Z⟩,st⟩ s hp0 (fun h=>hp2 (.inl h)) hp3 (by show N.length<=_;omega) (by show B.length<=_;omega) _ 0 1 2 3 4 _ K' ⟨aQ,aQ,aQ,aQ,aQ⟩ aF ⟨cb,cb,cb,cb,cb⟩ (by exact hK)) (hn:=aF) ?_;refine aB ?_;refine bO trivial eg (bR ah (aj D.bool ?_)) ah (Ea aF);rfl
 simp only[bc]at hc3;have n3:¬(ai s 32)[0]! =eF:=hc3;refine aB ?_;refine wp_cond (fun hc4=>?_) (fun hc4=>?_)
 .simp only[aK]at hc4;have hw:(ai s 32)[0]! =cT:=hc4;have ho:=RQ h0 hw;dsimp only at ho;refine ay ?_;refine aq (hc:=h474 (ai s 32) 2) ?_;refine aE ?_;refine aT (v:=.int .i64 ((st:Nat):Int)) ?_;refine aE ?_;refine aT (v:=.int .i64 ((st:Nat):Int)) ?_;refine aB ?_;refine av (fun hc5=>?_) (fun hc5=>?_)
  .simp only[cM,bB,bd,aK,bc]at hc5;rw[ak (by rintro⟨a,b⟩;rcases hc5 with h|h;(rw[a]at h;cases h);omega)]at ho;rw[ho];refine aD ?_;refine bO trivial eg (bR ah (aj D.bool ?_)) ah ⟨rfl,fun y hy=>by cases hy⟩;rfl
  simp only[dd,dy,bK,aK,bc]at hc5;obtain⟨hon,hst⟩:=hc5;have hst:st=2\/st=3:=ae;obtain⟨N,n,rfl⟩:=sZ (hp2 hst);have hnl:(N++[n]).length=N.length+1:=aJ;have hl2:(ai s 32).length=2:=(rQ.1 hon).1;rw[aw ⟨hon,hst⟩,eY]at ho;rw[ho,gF,ju];refine aD ?_;refine aT (v:=.own 1 3 0 (N++[n]).length) ?_;refine aB ?_;refine aT (v:=.own 1 3 0 (N++[n]).length) ?_;refine ik ?_;refine ay ?_;refine bH 1 (hb:=fun _=>ae) ?_;refine bD (v:=.str (ai s 32)[1]!) (hi:=fun _=>ae) ?_;refine ie N.length (hj:=fun _=>ae) (hb:=fun _=>ae) ?_;refine aA ?_;refine r5 (es:=N.map bp.D++[lH 2 n]) (N.map bp.D++[lH 2 ⟨n.any,n.when',(ai s 32)[1]!⟩]) (hi:=aJ) (he:=by rw[mI _ _ _ _ aJ,pY _ _ _ _ aJ];exact rfl) ?_;refine ax ?_;refine aI (nR nm v (N++[n]).length B.length Z.length ((4:Nat):Int) 1 3 4) (he:=aQ) ?_;refine aD ?_;refine bO trivial eg (bR ah (aj D.bool ?_)) ah ⟨rfl,fun y hy=>by cases hy;exact⟨1,2,3,4,aF,⟨(by have e:(N++[(⟨n.any,n.when',(ai s 32)[1]!⟩:bp)]).length=(N++[n]).length:=aJ;show _=some (bW.buf 10 [nR nm v (N++[(⟨n.any,n.when',(ai s 32)[1]!⟩:bp)]).length B.length Z.length ((4:Nat):Int) 1 3 4]);rw[e];exact rfl),(by rw[gF];exact rfl),(by rw[ju];exact rfl),ah,ah⟩⟩⟩;rfl
 simp only[bc]at hc4;have n4:¬(ai s 32)[0]! =cT:=hc4;refine aB ?_;refine wp_cond (fun hc6=>?_) (fun hc6=>?_)
 .simp only[aK]at hc6;have hw:(ai s 32)[0]! =fE:=hc6;have ho:=RP h0 hw;rw[hq]at ho;dsimp only at ho;refine ax ?_;refine aq (v:=.tup [.sl 1 (l.map D.str),.str u,.bool ok]) (hc:=by have:=h475 s 2 hp0 aF;rw[hq]at this;exact this) ?_;refine aA ?_;refine eX (.sl _ _) ?_;refine sy ?_;refine aT (v:=.int .i64 ((st:Nat):Int)) ?_;refine ay ?_;refine av (fun hc7=>?_) (fun hc7=>?_)
  .simp only[cM,bd,aK,bc]at hc7;rw[ak (by rintro⟨a,b⟩;rcases hc7 with h|h;(rw[a]at h;cases h);omega)]at ho;rw[ho];refine aD ?_;refine bO trivial eg (bR ah (aj D.bool ?_)) ah ⟨rfl,fun y hy=>by cases hy⟩;rfl
  simp only[dd,bK,aK,bc]at hc7;have hln:=hrn hc7.1;rw[aw ⟨hc7.1,ae⟩]at ho;rw[ho];refine bL ?_;refine aT (v:=.own 3 3 0 B.length) ?_;refine aA ?_;refine bH 1 (hb:=fun _=>ae) ?_;refine bD (v:=.str l[1]!) (hi:=fun _=>ae) ?_;refine aA ?_;refine bg (fq.D (⟨l[1]!,u,[]⟩:fq)) ?_;refine df [fq.D (⟨l[1]!,u,[]⟩:fq)] ?_;refine gL (q:=fq.D) (xs:=B) (e:=(⟨l[1]!,u,[]⟩:fq)) ?_;refine ay ?_;refine aI (nR nm v N.length (B++[(⟨l[1]!,u,[]⟩:fq)]).length Z.length ((st:Nat):Int) 1 58 4) (he:=aQ) ?_;refine ax ?_;refine aI (nR nm v N.length (B++[(⟨l[1]!,u,[]⟩:fq)]).length Z.length ((5:Nat):Int) 1 58 4) (he:=aQ) ?_;refine aD ?_;refine bO trivial eg (bR ah (aj D.bool ?_)) ah ⟨rfl,fun y hy=>by cases hy;exact⟨1,2,58,4,aF,⟨ah,ah,ah,ah,ah⟩⟩⟩;rfl
 simp only[bc]at hc6;have n6:¬(ai s 32)[0]! =fE:=hc6;refine aB ?_;refine wp_cond (fun hc8=>?_) (fun hc8=>?_)
 .simp only[aK]at hc8;have hw:(ai s 32)[0]! =b8:=hc8;have ho:=Lh h0 hw;rw[ho];refine ay ?_;refine cx (nx':=33) (v:=.bool (Ge ⟨⟨nm,v,N,B,Z⟩,st⟩ (ai s 32)).isSome) (m':=vP (Ge ⟨⟨nm,v,N,B,Z⟩,st⟩ (ai s 32)) 0 31++[]) (hc:=fun K' hK=>h476 ⟨⟨nm,v,N,B,Z⟩,st⟩ (ai s 32) ae (by show Z.length<=_;omega) _ 0 1 2 3 4 _ K' ⟨aQ,aQ,aQ,aQ,aQ⟩ aF ⟨cb,cb,cb,cb,cb⟩ (by exact hK)) (hn:=aF) ?_;refine aB ?_;refine bO trivial eg (bR ah (aj D.bool ?_)) ah (Ea aF);rfl
 simp only[bc]at hc8;have n8:¬(ai s 32)[0]! =b8:=hc8;have ho:=WJ h0 n1 n2 n3 n4 n6 n8;rw[ho];refine aD ?_;refine bO trivial eg (bR ah (aj D.bool ?_)) ah ⟨rfl,fun y hy=>by cases hy⟩;rfl
def W4 (Y:Ctx):Prop:=∀(x:jg) (t:au),x.ok->x.sz<=900000->t.length<=1048576->RdC Y 224 [.str t] x (eE x t)
theorem Cf {f:bp->bp}(l:List bp)(hf:∀n,(f n).any.length<=n.any.length+1):tt (gh l f)<=tt l+1:=by
 by_cases h:l=[]
 .subst h;simp[gh,tt]
 .obtain⟨a,x,rfl⟩:=sZ h;rw[eY,qp,qp];exact hf x
theorem sg {α:Type}(l:List α)(f:α->α):(gh l f).length=l.length:=by
 by_cases h:l=[]
 .subst h;rfl
 .obtain⟨a,x,rfl⟩:=sZ h;rw[eY];simp
def BB {α:Type}{l:List α}(f:α->α)(h:l≠[]):gh l f≠[]:=by
 grind [sg]
def Fm {x:jg}{nm:au}{v:cn}{st:Nat}(f:bp->bp)(hf:∀n,(f n).any.length<=n.any.length+1):(⟨⟨nm,v,gh x.r.needs f,x.r.bars,x.r.feats⟩,st⟩:jg).sz<=x.sz+1:=by
 grind [Cf,jg.sz,sg]
def VU {x y:jg}{t:au}(h:eE x t=some y)(hx:x.ok):y.ok/\y.sz<=x.sz+1:=by
 by_cases h0:x.st=0
 .rw[Li h0,<-K0 hx h0]at h;obtain⟨e1,e2,e3⟩:=hx.1 h0;unfold rH at h;split at h
  .split at h
   .obtain rfl:=bM h;refine⟨⟨fun h=>by simp at h,fun h=>by simp at h,fun h=>by simp at h⟩,Nat.le_succ _⟩
   .cases h
  .cases h
 by_cases h1:(ai t 32)[0]! =ei
 .rw[Lj h0 h1]at h;obtain⟨_,rfl⟩:=lU h;refine⟨⟨fun h=>by simp at h,fun _=>aJ,fun h=>by simp at h⟩, ?_⟩;unfold jg.sz;rw[qp];simp only[bP,aP,a8];omega
 by_cases h2:(ai t 32)[0]! =gn
 .rw[RO h0 h2]at h;unfold vR at h;split at h
  .obtain⟨hc,rfl⟩:=lU h;refine⟨⟨fun h=>by simp at h,fun _=>BB _ (hx.2.1 (.inl hc.1)),fun h=>by simp at h⟩,Fm _ (fun n=>aJ)⟩
  .cases h
 by_cases h3:(ai t 32)[0]! =eF
 .rw[Lk h0 h3]at h;unfold oX at h;split at h
  .split at h
   .rename_i hc;obtain rfl:=bM h;refine⟨⟨fun h=>by simp at h,fun _=>BB _ (hx.2.1 (.inl hc)),fun h=>by simp at h⟩,Fm _ (fun n=>aJ)⟩
   .obtain⟨hc,rfl⟩:=lU h;refine⟨⟨fun h=>by simp at h,fun h=>by simp at h,fun h=>by simp at h⟩, ?_⟩;unfold jg.sz;simp only[sg];omega
  .cases h
 by_cases h4:(ai t 32)[0]! =cT
 .rw[RQ h0 h4]at h;obtain⟨hc,rfl⟩:=lU h;refine⟨⟨fun h=>by simp at h,fun h=>by simp at h,fun h=>by simp at h⟩,Fm _ (fun n=>aJ)⟩
 by_cases h5:(ai t 32)[0]! =fE
 .rw[RP h0 h5]at h;obtain⟨hc,rfl⟩:=lU h;refine⟨⟨fun h=>by simp at h,fun h=>by simp at h,fun _=>aJ⟩, ?_⟩;unfold jg.sz;simp only[bP,aP,a8];omega
 by_cases h6:(ai t 32)[0]! =b8
 .rw[Lh h0 h6]at h;obtain⟨hc,rfl⟩:=lU h;refine⟨⟨fun h=>by simp at h,fun h=>by simp at h,fun h=>by simp at h⟩, ?_⟩;unfold jg.sz;simp only[bP,aP,a8];omega
 rw[WJ h0 h1 h2 h3 h4 h5 h6]at h;cases h
abbrev oa (s:au):List au:=(ai s 10).take ((ai s 10).length-1)
abbrev ud (s:au):au:=(ai s 10)[(ai s 10).length-1]!
theorem Bk {s:au}(h:¬4096<s.length):cA s=if(oH (oa s)).isSome=false\/(gk (oa s)).2≠[]\/ud s≠[]then(gR,2,(((oa s).length-(gk (oa s)).2.length:Nat):Int)+1)
  else if(cK (gk (oa s)).1).1≠0 then(gR,(cK (gk (oa s)).1).1,0)else((gk (oa s)).1,0,0):=by unfold cA;rw[ak h]
def Hh {s:au}{x:jg}{i:Nat}(h:¬4096<s.length)(hi:i<=(oa s).length)(hr:mf vE (oa s)=(x,(oa s).drop i))(hn:i<(oa s).length\/ud s≠[]):cA s=(gR,2,(i:Int)+1):=by
 rw[Bk h];have ha:=Fh (oa s);have hl:((oa s).drop i).length=(oa s).length-i:=jO
 grind [oH,gk,gR]
def S4 {s:au}{x:jg}(h:¬4096<s.length)(hr:mf vE (oa s)=(x,[]))(h0:x.st=0):cA s=(gR,2,1):=by
 grind [Fh,oH,gk,gR,Bk]
def VI {s:au}{x:jg}(h:¬4096<s.length)(hr:mf vE (oa s)=(x,[]))(h0:x.st≠0)(hl:ud s=[]):fA x.r/\cA s=if(cK x.r).1≠0 then(gR,(cK x.r).1,0)else(x.r,0,0):=by
 have ha:=Fh (oa s);cases hp:oH (oa s)with
 |none=>
  rw[hp]at ha;simp only at ha;rw[ha]at hr;simp only[eG]at hr;rw[<-hr.1]at h0;exact absurd rfl h0
 |some p=>
  obtain⟨r,rest⟩:=p;rw[hp]at ha;obtain⟨st,h1,ha⟩:=ha;rw[ha]at hr;simp only[eG]at hr;obtain⟨rfl,rfl⟩:=hr;have hv:gk (oa s)=(r,[]):=by unfold gk;rw[hp]
  have hlm:B0 (oa s):=fun t ht=>by
   have:=dS s 10 (kl ht);omega
  grind [E2,Bk]
theorem Jq {s:au}(h:ud s=[]):az s=(oa s,true):=by unfold az;rw[aw h]
theorem ON {s:au}(h:¬ud s=[]):az s=(oa s++[ud s],false):=by
 unfold az;rw[ak h];have hp:1<=(ai s 10).length:=ep 10 s [];have:=(drop_one (l:=ai s 10) (n:=(ai s 10).length-1) ae).2;exact aj (fun l=>(l,false)) this
def wL (lo a b:Nat)(σ:List (Nat×Nat))(h:lK lo σ a=some b):∀N:List bp,ox lo σ (eL a N)=some (eL b N)
 |[]=>rfl
 |[n]=>by simp only[eL,lH,ox,qY,Co,h]
 |c::d::r=>by
  have:=wL lo a b σ h (d::r);have hc:qY lo σ (bp.D c)=some (bp.D c):=rfl;simp only[eL,ox,this,hc]
def AN (j:Nat):∀N:List bp,IB (iN j 4 (mW N) (eL j N)) (N.map bp.D)
 |[]=>.nil
 |[n]=>by
  have e:iN j 4 (mW [n]) (eL j [n])=[.agg [.sl 4 (n.any.map bS.N),.str n.when',.str n.option]]:=by
   grind [eL,mW,lH,iN,iD,aN]
  rw[e];exact .cons (.ag (.cons (.ss (.map fun x _=>x.wk)) (.rf _))) .nil
 |a::b::r=>.cons (.refl _) (AN j (b::r))
def Eu (l k:Nat)(es:List D)(N:List bp):iN l k es (N.map bp.D)=N.map bp.D:=qj l k es _ (br (fun _=>rfl) _)
def AF (s:au):((az s).2=true/\ud s=[]/\(az s).1=oa s)\/((az s).2=false/\ud s≠[]/\(az s).1=oa s++[ud s]):=by
 by_cases h:ud s=[]
 .grind [Jq]
 grind [ON]
def Dw {x:jg}{l:List au}{i:Nat}(h:i<l.length):l.drop i=l[i]! ::l.drop (i+1):=by
 rw[iW h];simp[h]
noncomputable def Bm:aC:=cP 216
def w812 (h357:IJ Y)(h815:XI Y)(l:List au)(al:Bool)   :dh Y Bm (.bool (jD l al)) [.sl 1 (l.map D.str),.bool al]:=by
 show bJ _ _ _ [⟨_,_⟩,⟨_,_⟩,_,_,_,_] _;refine ar ?_;refine aD ?_;refine ba hm (ι:=Nat) (fun i=>[⟨true,.sl 1 (l.map D.str)⟩,⟨true,.bool al⟩,.un,⟨true,.int .i64 (i:Nat)⟩,.un,.un]) (fun i=>[]) 2 (fun i=>i<=l.length/\jD l al=(cQ (fun i=>cV l[i]!) i l.length&&((decide (l.length<=6)&&rising l)&&(al ||decide (l.length=0))))) (fun i=>l.length-i) 0 ⟨ae,(wf_2 l al).symm⟩ (dr []) ?_;rintro i ⟨hi,hr⟩;refine aE ?_;intro u0;refine ax ?_;refine cF (fun hc0=>?_) fun hc0=>?_
 .refine aZ ?_;refine aq (hc:=h357 _) ?_;refine ax ?_;refine wp_cond (fun hc1=>?_) (fun hc1=>?_)
  .simp only[bd]at hc1;refine aD ?_;refine bU ?_;rw[hr,aU ae,hc1];rfl
  simp only[bK]at hc1;refine bL ?_;exact⟨i+1,⟨ae,by rw[hr,aU ae,hc1];rfl⟩,ae,(dr [])⟩
 refine aE ?_;intro u1;refine ay ?_;refine aq (hc:=h815 _) ?_;refine aE ?_;refine ik ?_;refine aD ?_;refine bU ?_;rw[hr,cj ae,gz,gO.2 (show((l.length:Nat):Int)<=6↔l.length<=6 by omega),gO.2 (show((l.length:Nat):Int)=0↔l.length=0 by omega)]
def Nr (T:List D->D->Prop):Prop:=∀(l:List au) (al:Bool),T [.sl 1 (l.map D.str),.bool al] (.bool (jD l al))
def C812 (Y:Ctx):Prop:=Nr (bx Y 812)
noncomputable def JT:aC:=cP 187
def w669 {Y:Ctx}(hm:(Y.at 0).b7)(h216:IF Y)(h572:Xt Y)(h812:C812 Y)(r:Rec)(w:bS)(al:Bool)  (hp0:w.sm):dh Y JT (.int .i64 (jF r w al)) [Rec.D r,bS.D w,.bool al]:=by
 show bJ _ _ _ [⟨_,_⟩,⟨_,_⟩,⟨_,_⟩,_,_,_,_,_,_,_] _;refine ar ?_;refine bL ?_;refine aq (hc:=h216 _) ?_;refine ay ?_;refine fM (fun hc0=>?_) fun hc0=>?_
 .refine aE ?_;refine cX ?_;have hw:fR r w.name w.range=4:=by rw[fR,aw hc0]
  rw[jF,aw (by rw[hw];decide),hw]
 refine bL ?_;refine fM (fun hc1=>?_) fun hc1=>?_
 .refine aE ?_;refine cX ?_;have hw:fR r w.name w.range=8:=by rw[fR,ak (by simp[hc0]),aw hc1]
  rw[jF,aw (by rw[hw];decide),hw]
 refine ay ?_;refine aq (hc:=h572 w.range hp0.1.2) ?_;refine ay ?_;refine wp_cond (fun hc2=>?_) (fun hc2=>?_)
 .try simp only[dn]at hc2
  refine aE ?_;refine cX ?_;have hw:fR r w.name w.range=6:=by rw[fR,ak (by simp[hc0]),ak hc1,aw hc2]
  rw[jF,aw (by rw[hw];decide),hw]
 simp only[bK]at hc2;have hw0:fR r w.name w.range=0:=by rw[fR,ak (by simp[hc0]),ak hc1,ak (by simp[hc2])]
 refine aB ?_;refine aq (hc:=h812 w.feats al) ?_;refine ay ?_;refine fM (fun hc3=>?_) fun hc3=>?_
 .refine aE ?_;refine cX ?_;rw[jF,ak (by simp[hw0]),aw hc3]
 refine aD ?_;refine cX ?_;rw[jF,ak (by simp[hw0]),ak (by simp[hc3])]
def C669 (Y:Ctx):Prop:=zl (bx Y 669)
noncomputable def JP:aC:=cP 149
def w457 (h357:IJ Y)(h669:C669 Y)(h670:XC Y)(r:Rec)(n:bp)  (hp0:n.sm):dh Y JP (.int .i64 (iZ r n)) [Rec.D r,bp.D n]:=by
 show bJ _ _ _ [⟨_,_⟩,⟨_,_⟩,_,_,_,_,_,_,_,_,_,_,_] _;refine ar ?_;refine cZ ?_;intro u0;refine ax ?_;refine cF (fun hc0=>?_) fun hc0=>?_
 .refine aE ?_;refine cX ?_;rw[iZ,aw ae]
 refine aD ?_;intro u1;refine ax ?_;refine cF (fun hc1=>?_) fun hc1=>?_
 .refine aE ?_;refine cX ?_;rw[iZ,ak ae,aw ae]
 refine aE ?_;refine ba hm (ι:=Nat) (fun i=>[.un,.un,.un,⟨true,.ptr 1 3 0 0⟩,.un,.un,⟨true,.int .i64 (i:Nat)⟩,.un,⟨true,.ptr 0 9 0 0⟩,.un,.un,.un,.un]) (fun i=>[(0,.buf 9 [Rec.D r]),(1,.buf 3 [bp.D n])]) 12 (fun i=>i<=n.any.length/\mz r n.any=fJ (fun i=>jF r n.any[i]! (decide ((n.any.length:Int)=1))) i n.any.length) (fun i=>n.any.length-i) 0 ⟨ae,rfl⟩ (dr [(0,0),(1,1)]) ?_;rintro i ⟨hi,hr⟩;refine aD ?_;intro u2;refine ax ?_;refine cF (fun hc2=>?_) fun hc2=>?_
 .refine aZ ?_;refine bH i ?_;first|refine bD (v:=(bS.D _)) ?_|refine e7 (v:=(bS.D _)) ?_
  refine ax ?_;refine ik ?_;refine aA ?_;refine aq (hc:=h669 r n.any[i]! _ (hp0.1 _ (bE ae))) ?_;refine aD ?_;refine fM (fun hc3=>?_) fun hc3=>?_
  .refine aZ ?_;refine cX ?_;have hw:mz r n.any=jF r n.any[i]! (decide ((n.any.length:Int)=1)):=by rw[hr,lS ae hc3]
   rw[iZ,ak ae,ak ae,aw (by rw[hw];exact hc3),hw]
  refine bL ?_;exact⟨i+1,⟨ae,by rw[hr,nK ae hc3]⟩,ae,(dr [(0,0),(1,1)])⟩
 refine aB ?_;have hw0:mz r n.any=0:=by rw[hr,nJ ae]
 refine ax ?_;refine aq (hc:=h670 _) ?_;refine ax ?_;refine av (fun hc4=>?_) (fun hc4=>?_)
 .try simp only[dn]at hc4
  refine aE ?_;refine cX ?_;rw[iZ,ak ae,ak ae,ak (by simp[hw0]),aw hc4]
 simp only[bK]at hc4;refine cZ ?_;refine aq (hc:=h357 _) ?_;refine ay ?_;refine av (fun hc5=>?_) (fun hc5=>?_)
 .try simp only[dn]at hc5
  refine aE ?_;refine cX ?_;rw[iZ,ak ae,ak ae,ak (by simp[hw0]),ak (by simp[hc4]),aw hc5]
 simp only[dy,bK,aK]at hc5;refine aE ?_;refine cX ?_;rw[iZ,ak ae,ak ae,ak (by simp[hw0]),ak (by simp[hc4]),ak (by rintro⟨g1,g2⟩;rcases hc5 with h|h;exact g1 h;rw[g2]at h;cases h)]
def C457 (Y:Ctx):Prop:=zc (bx Y 457)
noncomputable def Pm:aC:=cP 150
def w458 {Y:Ctx}(hm:(Y.at 0).b7)(h216:IF Y)(h572:Xt Y)(h670:XC Y)(r:Rec)(b:fq)  (hp0:b.sm):dh Y Pm (.int .i64 (pw r b)) [Rec.D r,fq.D b]:=by
 show bJ _ _ _ [⟨_,_⟩,⟨_,_⟩,_,_,_,_,_,_,_] _;refine ar ?_;refine bL ?_;refine aq (hc:=h216 _) ?_;refine ay ?_;refine fM (fun hc0=>?_) fun hc0=>?_
 .refine aE ?_;refine cX ?_;have hw:fR r b.name b.range=4:=by rw[fR,aw hc0]
  rw[pw,aw (by rw[hw];decide),hw]
 refine bL ?_;refine fM (fun hc1=>?_) fun hc1=>?_
 .refine aE ?_;refine cX ?_;have hw:fR r b.name b.range=8:=by rw[fR,ak (by simp[hc0]),aw hc1]
  rw[pw,aw (by rw[hw];decide),hw]
 refine ay ?_;refine aq (hc:=h572 b.range hp0.2.1) ?_;refine ay ?_;refine wp_cond (fun hc2=>?_) (fun hc2=>?_)
 .try simp only[dn]at hc2
  refine aE ?_;refine cX ?_;have hw:fR r b.name b.range=6:=by rw[fR,ak (by simp[hc0]),ak hc1,aw hc2]
  rw[pw,aw (by rw[hw];decide),hw]
 simp only[bK]at hc2;have hw0:fR r b.name b.range=0:=by rw[fR,ak (by simp[hc0]),ak hc1,ak (by simp[hc2])]
 refine ay ?_;refine aq (hc:=h670 _) ?_;refine ay ?_;refine fM (fun hc3=>?_) fun hc3=>?_
 .refine aE ?_;refine cX ?_;rw[pw,ak (by simp[hw0]),aw hc3]
 refine aD ?_;refine cX ?_;rw[pw,ak (by simp[hw0]),ak (by simp[hc3])]
def MK (T:List D->D->Prop):Prop:=∀(r:Rec) (b:fq),(b.sm)->T [Rec.D r,fq.D b] (.int .i64 (pw r b))
def C458 (Y:Ctx):Prop:=MK (bx Y 458)
noncomputable def E6:aC:=cP 193
def w673  (r:Rec)(x:au)   :dh Y E6 (.bool (G6 r.needs x)) [Rec.D r,.str x]:=by
 show bJ _ _ _ [⟨_,_⟩,⟨_,_⟩,_,_,_,_,_] _;refine ar ?_;refine aZ ?_;refine ba hm (ι:=Nat) (fun i=>[.un,⟨true,.str x⟩,.un,⟨true,.int .i64 (i:Nat)⟩,⟨true,.ptr 0 9 0 0⟩,.un,.un]) (fun i=>[(0,.buf 9 [Rec.D r])]) 3 (fun i=>i<=r.needs.length/\G6 r.needs x=(r.needs.drop i).any (fun n=>decide (n.option=x))) (fun i=>r.needs.length-i) 0 ⟨ae,rfl⟩ (dr [(0,0)]) ?_;rintro i ⟨hi,hr⟩;refine aD ?_;intro u0;refine ax ?_;refine cF (fun hc0=>?_) fun hc0=>?_
 .refine aD ?_;refine bH i ?_;refine aE ?_;refine fM (fun hc1=>?_) fun hc1=>?_
  .refine aD ?_;refine bU ?_;rw[hr,uP (c:=fun n:bp=>decide (n.option=x)) ae (b9 hc1)]
  refine bL ?_;exact⟨i+1,⟨ae,by rw[hr,zV (c:=fun n:bp=>decide (n.option=x)) ae (cG hc1)]⟩,ae,(dr [(0,0)])⟩
 refine aD ?_;refine bU ?_;rw[hr,uO ae]
def M8 (T:List D->D->Prop):Prop:=∀(r:Rec) (x:au),T [Rec.D r,.str x] (.bool (G6 r.needs x))
def C673 (Y:Ctx):Prop:=M8 (bx Y 673)
noncomputable def E7:aC:=cP 194
def w674  (r:Rec)(x:au)   :dh Y E7 (.bool (xR r.needs x)) [Rec.D r,.str x]:=by
 show bJ _ _ _ [⟨_,_⟩,⟨_,_⟩,_,_,_,_,_] _;refine ar ?_;refine aZ ?_;refine ba hm (ι:=Nat) (fun i=>[.un,⟨true,.str x⟩,.un,⟨true,.int .i64 (i:Nat)⟩,⟨true,.ptr 0 9 0 0⟩,.un,.un]) (fun i=>[(0,.buf 9 [Rec.D r])]) 3 (fun i=>i<=r.needs.length/\xR r.needs x=(r.needs.drop i).any (fun n=>decide (n.any.length=1)&&decide (n.any[0]!.name=x))) (fun i=>r.needs.length-i) 0 ⟨ae,rfl⟩ (dr [(0,0)]) ?_;rintro i ⟨hi,hr⟩;refine aD ?_;intro u0;refine ax ?_;refine cF (fun hc0=>?_) fun hc0=>?_
 .refine aD ?_;refine bH i ?_;refine ay ?_;intro u1;refine aE ?_;refine bH i (hb:=fun _=>ae) ?_;refine aA ?_;refine bD (q:=bp.D) (xs:=r.needs) (i:=i) (hi:=fun _=>ae) (v:=(.sl 4 (r.needs[i]!.any.map bS.D))) ?_;refine bH 0 (hb:=fun h=>by simp only[gz,beq_iff_eq,bB,aK]at h;omega) ?_;refine aA ?_;refine bD (q:=bS.D) (xs:=r.needs[i]!.any) (i:=0) (hi:=fun h=>by simp only[gz,beq_iff_eq,bB,aK]at h;omega) (v:=(.str r.needs[i]!.any[0]!.name)) ?_;refine aB ?_;refine wp_cond (fun hc1=>?_) (fun hc1=>?_)
  .rw[gO.2 (show((r.needs[i]!.any.length:Nat):Int)=1↔r.needs[i]!.any.length=1 by omega)]at hc1;have hz:=hc1;refine aD ?_;refine bU ?_;rw[hr,uP ae hz]
  rw[gO.2 (show((r.needs[i]!.any.length:Nat):Int)=1↔r.needs[i]!.any.length=1 by omega)]at hc1;have hz:=hc1;refine bL ?_;exact⟨i+1,⟨ae,by rw[hr,zV ae hz]⟩,ae,(dr [(0,0)])⟩
 refine aD ?_;refine bU ?_;rw[hr,uO ae]
def M9 (T:List D->D->Prop):Prop:=∀(r:Rec) (x:au),T [Rec.D r,.str x] (.bool (xR r.needs x))
def C674 (Y:Ctx):Prop:=M9 (bx Y 674)
noncomputable def Hw:aC:=cP 152
def w460 (h672:XD Y)(h673:C673 Y)(h674:C674 Y)(r:Rec)(of:List au)  (hp0:∀t∈of,t.length<=1048576):dh Y Hw (.int .i64 (kU r of)) [Rec.D r,.sl 1 (of.map D.str)]:=by
 show bJ _ _ _ [⟨_,_⟩,⟨_,_⟩,_,_,_,_,_,_,_,_] _;refine ar ?_;refine aZ ?_;refine ba hm (ι:=Nat) (fun i=>[.un,⟨true,.sl 1 (of.map D.str)⟩,.un,⟨true,.int .i64 (i:Nat)⟩,.un,.un,⟨true,.ptr 0 9 0 0⟩,.un,.un,.un]) (fun i=>[(0,.buf 9 [Rec.D r])]) 3 (fun i=>i<=of.length/\kU r of=fJ (fun i=>jU r of[i]!) i of.length) (fun i=>of.length-i) 0 ⟨ae,rfl⟩ (dr [(0,0)]) ?_;rintro i ⟨hi,hr⟩;refine aE ?_;intro u0;refine ax ?_;refine cF (fun hc0=>?_) fun hc0=>?_
 .refine aZ ?_;refine aq (hc:=h672 of[i]! (hp0 _ (bE ae))) ?_;refine BW ?_;refine aq (hc:=h673 r (dJ of[i]!).2.1) ?_;refine ay ?_;refine av (fun hc1=>?_) (fun hc1=>?_)
  .try simp only[dn]at hc1
   refine aZ ?_;refine cX ?_;have he:jU r of[i]! =14:=by rw[jU,aw hc1]
   rw[hr,lS ae (by rw[he];decide),he]
  have hn1:¬((dJ of[i]!).1=2/\G6 r.needs (dJ of[i]!).2.1=false):=by rintro⟨g1,g2⟩;rw[g1,g2]at hc1;cases hc1
  refine aZ ?_;refine aq (hc:=h674 r (dJ of[i]!).2.1) ?_;refine ay ?_;refine wp_cond (fun hc2=>?_) (fun hc2=>?_)
  .try simp only[dn]at hc2
   refine aD ?_;refine cX ?_;have he:jU r of[i]! =16:=by rw[jU,ak hn1,aw hc2]
   rw[hr,lS ae (by rw[he];decide),he]
  have hn2:¬((dJ of[i]!).1=3/\xR r.needs (dJ of[i]!).2.1=false):=by rintro⟨g1,g2⟩;rw[g1,g2]at hc2;cases hc2
  refine bL ?_;exact⟨i+1,⟨ae,by rw[hr,nK ae (by rw[jU,ak hn1,ak hn2])]⟩,ae,(dr [(0,0)])⟩
 refine aD ?_;refine cX ?_;rw[hr,nJ ae]
def ML (T:List D->D->Prop):Prop:=∀(r:Rec) (of:List au),(∀t∈of,t.length<=1048576)->T [Rec.D r,.sl 1 (of.map D.str)] (.int .i64 (kU r of))
def C460 (Y:Ctx):Prop:=ML (bx Y 460)
noncomputable def Hx:aC:=cP 106
def w218 (h457:C457 Y)(h458:C458 Y)(h459:C459 Y)(h460:C460 Y)(r:Rec)  (hp0:fA r):dh Y Hx (.tup [.int .i64 (eW r).1,.int .i64 (eW r).2]) [Rec.D r]:=by
 show bJ _ _ _ [⟨_,_⟩,_,_,_,_,_,_,_,_,_,_,_,_,_,_,_,_] _;refine ar ?_;refine bL ?_;refine ba hm (ι:=Nat) (fun i=>[.un,.un,.un,⟨true,.int .i64 (i:Nat)⟩,⟨true,.ptr 0 9 0 0⟩,.un,.un,.un,.un,.un,.un,.un,.un,.un,.un,.un,.un]) (fun i=>[(0,.buf 9 [Rec.D r])]) 4 (fun i=>i<=r.needs.length/\lZ r=iw (fun i=>iZ r r.needs[i]!) i r.needs.length) (fun i=>r.needs.length-i) 0 ⟨ae,rfl⟩ (dr [(0,0)]) ?_;rintro i ⟨hi,hr⟩;refine aD ?_;intro u0;refine ax ?_;refine cF (fun hc0=>?_) fun hc0=>?_
 .refine aZ ?_;refine bH i ?_;first|refine bD (v:=(bp.D _)) ?_|refine e7 (v:=(bp.D _)) ?_
  refine aq (hc:=h457 r r.needs[i]! (hp0.2.1 _ (bE ae))) ?_;refine aD ?_;refine fM (fun hc1=>?_) fun hc1=>?_
  .refine cZ ?_;refine bF (aH (aj (D.int .i64) ?_) (aj (D.int .i64) ?_));all_goals
    have hq:eW r=(iZ r r.needs[i]!,((i:Nat):Int)):=by
     exact G8 (by rw[hr,j7 ae hc1]) hc1
    rw[hq];first|done|rfl
  refine bL ?_;exact⟨i+1,⟨ae,by rw[hr,lR ae hc1]⟩,ae,(dr [(0,0)])⟩
 refine aB ?_;have hn0:lZ r=(0,0):=by rw[hr,lQ ae]
 refine ax ?_;refine ba hm (ι:=Nat) (fun i=>[.un,.un,.un,.un,⟨true,.ptr 0 9 0 0⟩,.un,.un,.un,⟨true,.int .i64 (i:Nat)⟩,.un,.un,.un,.un,.un,.un,.un,.un]) (fun i=>[(0,.buf 9 [Rec.D r])]) 10 (fun i=>i<=r.bars.length/\tn r=iw (fun i=>pw r r.bars[i]!) i r.bars.length) (fun i=>r.bars.length-i) 0 ⟨ae,rfl⟩ (dr [(0,0)]) ?_;rintro i ⟨hi,hr⟩;refine aD ?_;intro u1;refine ax ?_;refine cF (fun hc2=>?_) fun hc2=>?_
 .refine aZ ?_;refine bH i ?_;first|refine bD (v:=(fq.D _)) ?_|refine e7 (v:=(fq.D _)) ?_
  refine aq (hc:=h458 r r.bars[i]! (hp0.2.2.1 _ (bE ae))) ?_;refine aD ?_;refine fM (fun hc3=>?_) fun hc3=>?_
  .refine cZ ?_;refine bF (aH (aj (D.int .i64) ?_) (aj (D.int .i64) ?_));all_goals
    have hq:eW r=(pw r r.bars[i]!,((i:Nat):Int)):=by
     exact A4 hn0 (by rw[hr,j7 ae hc3]) hc3
    rw[hq];first|done|rfl
  refine bL ?_;exact⟨i+1,⟨ae,by rw[hr,lR ae hc3]⟩,ae,(dr [(0,0)])⟩
 refine aB ?_;have hb0:tn r=(0,0):=by rw[hr,lQ ae]
 refine ax ?_;refine aq (hc:=h459 r.feats hp0.2.2.2) ?_;refine ax ?_;refine av (fun hc4=>?_) (fun hc4=>?_)
 .try simp only[dn]at hc4
  refine aD ?_;refine bF (aH (aj (D.int .i64) ?_) (aj (D.int .i64) ?_));all_goals
   have hq:eW r=(11,0):=by
    exact G9 hn0 hb0 hc4
   rw[hq];first|done|rfl
 simp only[bK]at hc4;refine aE ?_;refine ba hm (ι:=Nat) (fun i=>[.un,.un,.un,.un,⟨true,.ptr 0 9 0 0⟩,.un,.un,.un,.un,.un,.un,.un,.un,⟨true,.int .i64 (i:Nat)⟩,.un,.un,.un]) (fun i=>[(0,.buf 9 [Rec.D r])]) 20 (fun i=>i<=r.feats.length/\tM r=iw (fun i=>kU r r.feats[i]!.of) i r.feats.length) (fun i=>r.feats.length-i) 0 ⟨ae,rfl⟩ (dr [(0,0)]) ?_;rintro i ⟨hi,hr⟩;refine aD ?_;intro u2;refine ax ?_;refine cF (fun hc5=>?_) fun hc5=>?_
 .refine aZ ?_;refine bH i ?_;refine ax ?_;refine aq (hc:=h460 r r.feats[i]!.of (hp0.2.2.2 _ (bE ae)).2.2) ?_;refine aD ?_;refine fM (fun hc6=>?_) fun hc6=>?_
  .refine cZ ?_;refine bF (aH (aj (D.int .i64) ?_) (aj (D.int .i64) ?_));all_goals
    have hq:eW r=(kU r r.feats[i]!.of,((i:Nat):Int)):=by
     exact rR hn0 hb0 hc4 (by rw[hr,j7 (f:=(fun i=>kU r r.feats[i]!.of)) ae hc6])
    rw[hq];first|done|rfl
  refine bL ?_;exact⟨i+1,⟨ae,by rw[hr,lR (f:=(fun i=>kU r r.feats[i]!.of)) ae hc6]⟩,ae,(dr [(0,0)])⟩
 refine aZ ?_;refine bF (aH (aj (D.int .i64) ?_) (aj (D.int .i64) ?_));all_goals
  have hq:eW r=(0,0):=by
   exact rR hn0 hb0 hc4 (by rw[hr,lQ ae])
  rw[hq];first|done|rfl
def Md (T:List D->D->Prop):Prop:=∀(r:Rec),(fA r)->T [Rec.D r] (.tup [.int .i64 (eW r).1,.int .i64 (eW r).2])
def ZP (Y:Ctx):Prop:=Md (bx Y 218)
noncomputable def Hs:aC:=cP 62
def w71 {Y:Ctx}(hm:(Y.at 0).b7)(h216:IF Y)(h217:IG Y)(h218:ZP Y)(h219:W2 Y)(r:Rec)  (hp0:fA r):dh Y Hs (.tup [.int .i64 (cK r).1,.int .i64 (cK r).2]) [Rec.D r]:=by
 show bJ _ _ _ [⟨_,_⟩,_,_,_,_,_,_,_,_,_,_] _;refine ar ?_;refine bL ?_;refine aq (hc:=h216 _) ?_;refine ay ?_;refine wp_cond (fun hc0=>?_) (fun hc0=>?_)
 .try simp only[dn]at hc0
  refine aD ?_;refine bF (aH (aj (D.int .i64) ?_) (aj (D.int .i64) ?_));all_goals (have hq:cK r=(4,0):=(by rw[cK,aw hc0]);rw[hq];first|done|rfl)
 simp only[bK]at hc0;refine ax ?_;refine aT (v:=cn.D r.v) ?_;refine aq (hc:=h217 r.v hp0.1.2) ?_;refine ay ?_;refine wp_cond (fun hc1=>?_) (fun hc1=>?_)
 .try simp only[dn]at hc1
  refine aD ?_;refine bF (aH (aj (D.int .i64) ?_) (aj (D.int .i64) ?_));all_goals (have hq:cK r=(5,0):=(by rw[cK,ak (by simp[hc0]),aw hc1]);rw[hq];first|done|rfl)
 simp only[bK]at hc1;refine aB ?_;intro u0;refine aB ?_;refine ik ?_;refine aB ?_;refine fM (fun hc2=>?_) fun hc2=>?_
 .refine aD ?_;refine bF (aH (aj (D.int .i64) ?_) (aj (D.int .i64) ?_));all_goals (have hq:cK r=(3,0):=(by rw[cK,ak (by simp[hc0]),ak (by simp[hc1]),aw ae]);rw[hq];first|done|rfl)
 refine aE ?_;refine aq (hc:=h218 r hp0) ?_;refine fH ?_;refine av (fun hc3=>?_) (fun hc3=>?_)
 .try simp only[dn]at hc3
  refine bL ?_;refine bF (aH (aj (D.int .i64) ?_) (aj (D.int .i64) ?_));all_goals
   have hq:cK r=eW r:=by
    exact pB hc0 hc1 ae ae rfl hc3
   rw[hq];first|done|rfl
 simp only[bK,aK]at hc3;have hpz:eW r=(0,0):=Ha hc3;have hgd:xG r:=⟨⟨hc0,hc1⟩,⟨ae,ae⟩,hpz⟩;refine aB ?_;refine aq (hc:=h219 r ⟨hgd,hp0⟩) ?_;refine aA ?_;intro u1;refine ax ?_;refine cF (fun hc4=>?_) fun hc4=>?_
 .refine aD ?_;refine bF (aH (aj (D.int .i64) ?_) (aj (D.int .i64) ?_));all_goals
   have hq:cK r=(3,0):=by
    rw[rk hc0 hc1 ae ae hpz,aw ae]
   rw[hq];first|done|rfl
 refine aD ?_;refine bF (aH (aj (D.int .i64) ?_) (aj (D.int .i64) ?_));all_goals
  have hq:cK r=(0,0):=by
   rw[rk hc0 hc1 ae ae hpz,ak ae]
  rw[hq];first|done|rfl
def C71 (Y:Ctx):Prop:=FB (bx Y 71)
noncomputable def Hu:aC:=cP 75
def w77 (h71:C71 Y)(h223:W3 Y)(h224:W4 Y)(s:au)   :dh Y Hu (.tup [Rec.D (cA s).1,.int .i64 (cA s).2.1,.int .i64 (cA s).2.2]) [.str s]:=by
 show bJ _ _ _ [⟨_,_⟩,_,_,_,_,_,_,_,_,_,_,_,_,_] _;have hcase:=AF s;obtain⟨⟨ls,e⟩,hlx⟩:∃q,az s=q:=⟨_,rfl⟩
 rw[hlx]at hcase;dsimp only at hcase;refine ar ?_;refine bL ?_;intro u0;refine ax ?_;refine av (fun hc0=>?_) (fun hc0=>?_)
 .simp only[aK]at hc0;have hrr:cA s=(gR,3,0):=by unfold cA;rw[aw ae]
  rw[hrr];refine ax ?_;refine bg dx ?_;refine aI dx (he:=aQ) ?_;refine ay ?_;refine kF [(0,.buf 9 [Rec.D gR])] (.bf ah (.cons mw .nil) .nil) ?_;refine aA ?_;refine bF (di ?_ (aj (D.int .i64) ?_) (aj (D.int .i64) ?_));all_goals rfl
 simp only[bc]at hc0;have h96:¬4096<s.length:=ae;have hsl:=dk s 10;have hln:(oa s).length<=4097:=by rw[er];omega
 have hll:ls.length<=(oa s).length+1:=by
  rcases hcase with⟨_,_,h⟩|⟨_,_,h⟩<;>rw[h]<;>simp
 have hlm:∀i:Nat,((oa s)[i]! :au).length<=1048576:=fun i=>B0.get (l:=oa s) (fun t ht=>by have:=dS s 10 (kl ht);omega) i
 refine ay ?_;refine aq (v:=.tup [.sl 1 (ls.map D.str),.bool e]) (hc:=by have:=h223 s ae;rw[hlx]at this;exact this) ?_;refine aA ?_;refine eX (.sl _ _) ?_;refine aE ?_;refine bg (.agg [.str [],.int .i64 0,.int .i64 0,.int .i64 0,.str [],.str [],.bq,.bq,.bq,.int .i64 0]) ?_;refine aZ ?_;refine ba hm (ι:=(Nat×jg)) (fun p=>[⟨true,.str s⟩,⟨true,.ptr 0 9 0 0⟩,⟨true,.int .i64 0⟩,⟨true,.int .i64 0⟩,.un,⟨true,.int .i64 (p.1:Nat)⟩,⟨true,.sl 1 (ls.map D.str)⟩,.un,⟨true,.bool e⟩,⟨true,.ptr 1 10 0 0⟩,.un,.un,.un,.un]) (fun p=>[(0,.buf 9 [dx]),(1,.buf 10 [nR p.2.r.name p.2.r.v p.2.r.needs.length p.2.r.bars.length p.2.r.feats.length ((p.2.st:Nat):Int) 2 4 5]),(2,.buf 3 (eL 3 p.2.r.needs)),(3,.buf 4 (mW p.2.r.needs)),(4,.buf 3 (p.2.r.bars.map fq.D)),(5,.buf 2 (p.2.r.feats.map bZ.D))]) 50 (fun p=>p.1<=(oa s).length/\(p.2.ok/\p.2.sz<=p.1)/\mf vE (oa s)=mf p.2 ((oa s).drop p.1)) (fun p=>ls.length-p.1) (0,vE) ⟨Nat.zero_le _,⟨⟨fun _=>⟨rfl,rfl,rfl⟩,fun h=>by simp[vE]at h,fun h=>by simp[vE]at h⟩,aL _⟩,rfl⟩ (a7.to [(0,0),(14,1)] ah ah eh (by refine bo.fW ah ah ah ?_;refine bo.ni 14 ah ah (by exact⟨_,_,rfl,⟨_,rfl,⟨_,_,rfl,⟨rfl,rfl⟩,⟨_,_,rfl,⟨rfl,rfl⟩,⟨_,_,rfl,⟨rfl,rfl⟩,⟨_,_,rfl,⟨rfl,rfl⟩,⟨_,_,rfl,⟨rfl,rfl⟩,⟨_,_,rfl,⟨rfl,rfl⟩,⟨_,_,rfl,Or.inr ⟨_,_,_,rfl⟩,⟨_,_,rfl,Or.inr ⟨_,_,_,rfl⟩,⟨_,_,rfl,Or.inr ⟨_,_,_,rfl⟩,⟨_,_,rfl,⟨rfl,rfl⟩,rfl⟩⟩⟩⟩⟩⟩⟩⟩⟩⟩⟩,rfl⟩) ?_;refine bo.mt ah ah ah ah ?_;refine bo.mt ah ah ah ah ?_;refine bo.mt ah ah ah ah ?_;refine bo.mt ah ah ah ah ?_;exact bo.nil)) ?_;rintro⟨i,x⟩ ⟨hi,⟨hok,hsz⟩,hrun⟩;dsimp only at hi hok hsz hrun⊢;refine aE ?_;intro u1;refine ax ?_;refine av (fun hc1=>?_) (fun hc1=>?_)
 .simp only[aK]at hc1;have hil:i<ls.length:=ae;refine ay ?_;by_cases hb:(!e&&decide ((i:Nat)=((ls.length:Nat):Int) -1))=true
  .refine aE ?_;refine ik ?_;refine ax ?_;refine SM ?_;rw[hb];refine aB ?_;refine bH i (hb:=fun _=>ae) ?_;refine bD (v:=.str ls[i]!) (hi:=fun _=>ae) ?_;refine EZ ?_;refine r_off (.bool false) ?_;refine r_or (kb:=fun _ h=>by cases h) ?_;refine aA ?_;refine wp_cond (fun hc2=>?_) (fun hc2=>?_)
   .have hbb:=hb;simp only[bB,bd,aK]at hbb;have hrr:cA s=(gR,2,(i:Int)+1):=by
     rcases hcase with⟨h1,_,_⟩|⟨_,h2,h⟩
     .rw[h1]at hbb;cases hbb.1
     .have hl':ls.length=(oa s).length+1:=by rw[h];simp
      have:i=(oa s).length:=ae;subst this;exact Hh h96 hi (by rw[hrun,List.drop_length];rfl) (.inr h2)
    rw[hrr];refine aA ?_;refine bg dx ?_;refine ax ?_;refine aI dx (he:=aQ) ?_;refine ay ?_;refine kF [(0,.buf 9 [Rec.D gR])] (.bf ah (.cons mw .nil) .nil) ?_;refine ay ?_;refine bF (di ?_ (aj (D.int .i64) ?_) (aj (D.int .i64) ?_));all_goals rfl
   skip
   exact absurd hc2 aF
  .refine aE ?_;refine ik ?_;refine ax ?_;refine SM ?_;rw[show(!e&&decide ((i:Nat)=((ls.length:Nat):Int) -1))=false by simpa using hb];refine aB ?_;refine bH i (hb:=fun _=>ae) ?_;refine bD (v:=.str ls[i]!) (hi:=fun _=>ae) ?_;have hin:i<(oa s).length/\ls[i]! =(oa s)[i]! :=by
    rcases hcase with⟨_,_,h⟩|⟨h1,_,h⟩
    .rw[h]at hil⊢;exact⟨hil,rfl⟩
    .have hb':¬((i:Nat):Int)=((ls.length:Nat):Int) -1:=by rw[h1]at hb;simpa using hb
     have hl':ls.length=(oa s).length+1:=by rw[h];simp
     have hi':i<(oa s).length:=ae;exact⟨hi',by rw[h];exact yJ hi'⟩
   refine wY (ι:=Unit) (aoF:=[.ptr 1 10 0 0,.str ls[i]!]) (fun _=>True) (fun _=>.bool (eE x ls[i]!).isSome) 58 (fun _=>vP (eE x ls[i]!) 1 69++[(0,.buf 9 [dx])]) (fun _ _=>?_) (hc:=fun K' hK=>h224 x ls[i]! hok ae (by rw[hin.2];exact hlm i) _ 1 2 3 4 5 _ K' ⟨aQ,aQ,aQ,aQ,aQ⟩ aF ⟨cb,cb,cb,cb,cb⟩ (by exact hK () trivial)) (hn:=aF);refine ay ?_;refine wp_cond (fun hc2=>?_) (fun hc2=>?_)
   .simp only[Bool.false_or,bd]at hc2;have hso:=jS hc2;have hrr:cA s=(gR,2,(i:Int)+1):=by
     refine Hh (x:=x) h96 hi ?_ (.inl hin.1);rw[hrun,Dw (x:=x) hin.1,sY (by rw[<-hin.2];exact hso)]
    rw[hrr,hso];simp only[vP,fe];refine aA ?_;refine bg dx ?_;refine ax ?_;refine aI dx (he:=aQ) ?_;refine ay ?_;refine kF [(0,.buf 9 [Rec.D gR])] (.bf ah (.cons mw .nil) .nil) ?_;refine ay ?_;refine bF (di ?_ (aj (D.int .i64) ?_) (aj (D.int .i64) ?_));all_goals rfl
   simp only[Bool.false_or,bK]at hc2;obtain⟨y,hso⟩:=jT hc2;obtain⟨hyo,hys⟩:=VU hso hok;have hrn:mf vE (oa s)=mf y ((oa s).drop (i+1)):=by rw[hrun,Dw (x:=x) hin.1,iP (by rw[<-hin.2];exact hso)]
   rw[hso];simp only[vP,X5,fB,fe];refine bL ?_;exact⟨(i+1,y),⟨ae,⟨hyo,dE⟩,hrn⟩,dE,(a7.to [(0,0),(1,1),(69,2),(70,3),(71,4),(72,5)] ah ah eh (by refine bo.fW ah ah ah ?_;refine bo.eq 1 ah ah ah ?_;refine bo.eq 69 ah ah (wL _ _ _ _ ah _) ?_;refine bo.nl 70 ah ah rfl (lO _) ?_;refine bo.nl 71 ah ah rfl (br (fun _=>rfl) _) ?_;refine bo.nl 72 ah ah rfl (br (fun _=>rfl) _) ?_;exact bo.nil))⟩
 simp only[bc]at hc1;have hlast:ud s=[]/\mf vE (oa s)=(x,[]):=by
  rcases hcase with⟨_,h2,h⟩|⟨_,_,h⟩
  .refine⟨h2, ?_⟩;have hl':ls.length=(oa s).length:=by rw[h]
   have:i=(oa s).length:=ae;subst this;rw[hrun,List.drop_length];rfl
  .have hl':ls.length=(oa s).length+1:=by rw[h];simp
   omega
 obtain⟨hl0,hrx⟩:=hlast;refine aZ ?_;refine aT (v:=.int .i64 ((x.st:Nat):Int)) ?_;refine ax ?_;refine av (fun hc3=>?_) (fun hc3=>?_)
 .simp only[aK]at hc3;have hrr:=S4 h96 hrx ae;rw[hrr];refine ax ?_;refine bg dx ?_;refine aI dx (he:=aQ) ?_;refine ay ?_;refine kF ((0,.buf 9 [Rec.D gR])::[]) (.bf ah (.cons mw .nil) .nil) ?_;refine aA ?_;refine bF (di ?_ (aj (D.int .i64) ?_) (aj (D.int .i64) ?_));all_goals rfl
 simp only[bc]at hc3;obtain⟨hrs,hrr⟩:=VI h96 hrx ae hl0;rw[hrr];refine ax ?_;refine eH 3 (hn:=lO _) (he:=by simp only[kS,iD,iN,lG,mU,cH,Nat.reduceEqDiff,aW,aX,cN,cr,ct,cS,cW,bQ,bN,aL,bY,aN,reduceCtorEq,aP,a8,Nat.reduceAdd,Nat.reduceLeDiff,nR,dx];exact rfl) (hm:=by simp only[kS,iD,iN,lG,mU,cH,Nat.reduceEqDiff,aW,aX,cN,cr,ct,cS,cW,bQ,bN,aL,bY,aN,reduceCtorEq,aP,a8,Nat.reduceAdd,Nat.reduceLeDiff,nR,dx,Eu,tS,tT,wm];exact rfl) ?_;refine kF [(0,.buf 9 [dx]),(1,.buf 10 [nR x.r.name x.r.v x.r.needs.length x.r.bars.length x.r.feats.length ((x.st:Nat):Int) 2 4 5]),(2,.buf 3 (x.r.needs.map bp.D)),(4,.buf 3 (x.r.bars.map fq.D)),(5,.buf 2 (x.r.feats.map bZ.D))] (.id ah (.id ah (.bf ah (AN 3 _) (.id ah (.id ah .nil))))) ?_;refine eH 2 (hn:=br (fun _=>rfl) _) (he:=by simp only[kS,iD,iN,lG,mU,cH,Nat.reduceEqDiff,aW,aX,cN,cr,ct,cS,cW,bQ,bN,aL,bY,aN,reduceCtorEq,aP,a8,Nat.reduceAdd,Nat.reduceLeDiff,nR,dx];exact rfl) (hm:=by simp only[kS,iD,iN,lG,mU,cH,Nat.reduceEqDiff,aW,aX,cN,cr,ct,cS,cW,bQ,bN,aL,bY,aN,reduceCtorEq,aP,a8,Nat.reduceAdd,Nat.reduceLeDiff,nR,dx,Eu,tS,tT,wm];exact rfl) ?_;refine eH 4 (hn:=br (fun _=>rfl) _) (he:=by simp only[kS,iD,iN,lG,mU,cH,Nat.reduceEqDiff,aW,aX,cN,cr,ct,cS,cW,bQ,bN,aL,bY,aN,reduceCtorEq,aP,a8,Nat.reduceAdd,Nat.reduceLeDiff,nR,dx];exact rfl) (hm:=by simp only[kS,iD,iN,lG,mU,cH,Nat.reduceEqDiff,aW,aX,cN,cr,ct,cS,cW,bQ,bN,aL,bY,aN,reduceCtorEq,aP,a8,Nat.reduceAdd,Nat.reduceLeDiff,nR,dx,Eu,tS,tT,wm];exact rfl) ?_;refine eH 5 (hn:=br (fun _=>rfl) _) (he:=by simp only[kS,iD,iN,lG,mU,cH,Nat.reduceEqDiff,aW,aX,cN,cr,ct,cS,cW,bQ,bN,aL,bY,aN,reduceCtorEq,aP,a8,Nat.reduceAdd,Nat.reduceLeDiff,nR,dx];exact rfl) (hm:=by simp only[kS,iD,iN,lG,mU,cH,Nat.reduceEqDiff,aW,aX,cN,cr,ct,cS,cW,bQ,bN,aL,bY,aN,reduceCtorEq,aP,a8,Nat.reduceAdd,Nat.reduceLeDiff,nR,dx,Eu,tS,tT,wm];exact rfl) ?_;refine aB ?_;refine aT (v:=Rec.D x.r) ?_;refine aq (hc:=h71 x.r hrs) ?_;refine fH ?_;refine av (fun hc4=>?_) (fun hc4=>?_)
 .simp only[bd,bc]at hc4;rw[aw hc4];refine ax ?_;refine bg dx ?_;refine aA ?_;refine aI dx (he:=aQ) ?_;refine ay ?_;refine kF ((0,.buf 9 [Rec.D gR])::[]) (.bf ah (.cons mw .nil) .nil) ?_;refine aA ?_;refine bF (di ?_ (aj (D.int .i64) ?_) (aj (D.int .i64) ?_));all_goals rfl
 simp only[bK,aK]at hc4;rw[ak (by rw[hc4];simp)];refine aE ?_;refine aT (v:=Rec.D x.r) ?_;refine aI (Rec.D x.r) (he:=aQ) ?_;refine aB ?_;refine bF (di ?_ (aj (D.int .i64) ?_) (aj (D.int .i64) ?_));all_goals rfl
def C77 (Y:Ctx):Prop:=FE (bx Y 77)
end Go.Abs
section
namespace Go.Abs
variable {Y:Ctx}(hm:(Y.at 0).b7)
structure cw where
 r:Rec
 sum:Int
 off:Bool
 deriving Inhabited,DecidableEq
def cw.D (x:cw):D:=.agg [.str x.r.name,.int .i64 x.r.v.major,.int .i64 x.r.v.minor,.int .i64 x.r.v.patch,.str x.r.v.pre,.str x.r.v.build,.sl 3 (x.r.needs.map bp.D),.sl 3 (x.r.bars.map fq.D),.sl 2 (x.r.feats.map bZ.D),.int .u64 x.sum,.bool x.off]
structure fP where
 name:au
 es:List cw
 deriving Inhabited,DecidableEq
def fP.D (s:fP):D:=.agg [.str s.name,.sl 11 (s.es.map cw.D)]
def fC (a b:Int):Int:=if a<b then-1 else if b<a then 1 else 0
def B8 (a b:au):Int:=if Op.bytesLess a b=true then-1 else if a=b then 0 else 1
def tk (a b:au):Int:=if dc a=true/\dc b=true then fC (ef a) (ef b)else if dc a=true then-1 else if dc b=true then 1 else B8 a b
def HZ (l m:List au):Nat->Nat->Int
 |_,0=>fC l.length m.length
 |i,k+1=>if tk l[i]! m[i]! ≠0 then tk l[i]! m[i]! else HZ l m (i+1) k
def tw (l m:List au)(i:Nat):Int:=HZ l m i (min l.length m.length-i)
def DP {l m:List au}{i:Nat}(h:i<l.length/\i<m.length)(hn:tk l[i]! m[i]! ≠0):tw l m i=tk l[i]! m[i]! :=by
 unfold tw;rw[show min l.length m.length-i=(min l.length m.length-(i+1))+1 by omega,HZ,aw hn]
def HY {l m:List au}{i:Nat}(h:i<l.length/\i<m.length)(hn:tk l[i]! m[i]! =0):tw l m i=tw l m (i+1):=by
 unfold tw;rw[show min l.length m.length-i=(min l.length m.length-(i+1))+1 by omega,HZ,ak (by rw[hn];simp)]
def DO {l m:List au}{i:Nat}(h:l.length<=i\/m.length<=i):tw l m i=fC l.length m.length:=by
 unfold tw;rw[show min l.length m.length-i=0 by omega,HZ]
def wU (a b:au):Int:=if a=b then 0 else if a=[]then 1 else if b=[]then-1 else tw (ai a 46) (ai b 46) 0
def pD (a b:cn):Int:=if eZ a=false\/eZ b=false then 0 else
 if fC a.major b.major≠0 then fC a.major b.major else if fC a.minor b.minor≠0 then fC a.minor b.minor else
 if fC a.patch b.patch≠0 then fC a.patch b.patch else wU a.pre b.pre
def xw (v:cn):cn:=⟨v.major,v.minor,v.patch,v.pre,[]⟩
theorem N0 (a:Int):fC a a=0:=by simp[fC]
def vY {a b:Int}:fC a b=0↔a=b:=by
 grind [fC]
def CL {a b:cn}(h:xw a=xw b):pD a b=0:=by
 grind [xw,pD,wU,N0]
theorem Rd (x y z:Int):fJ (fun i=>[x,y,z][i]!) 0 [x,y,z].length=if x≠0 then x else if y≠0 then y else z:=by
 grind [fJ,tO]
def Rf {x y z:Int}(h:fJ (fun i=>[x,y,z][i]!) 0 [x,y,z].length=0):x=0/\y=0/\z=0:=by
 grind [Rd]
def Re {a b:cn}(hv:¬(eZ a=false\/eZ b=false))(h:¬fJ (fun i=>[fC a.major b.major,fC a.minor b.minor,fC a.patch b.patch][i]!) 0 [fC a.major b.major,fC a.minor b.minor,fC a.patch b.patch].length=0):
  fJ (fun i=>[fC a.major b.major,fC a.minor b.minor,fC a.patch b.patch][i]!) 0 [fC a.major b.major,fC a.minor b.minor,fC a.patch b.patch].length=pD a b:=by
 grind [Rd,pD]
def QU {a b:cn}(hv:¬(eZ a=false\/eZ b=false))(h1:fC a.major b.major=0)(h2:fC a.minor b.minor=0)(h3:fC a.patch b.patch=0):pD a b=wU a.pre b.pre:=by
 grind [pD]
def Uv {a b:cn}(h1:fC a.major b.major=0)(h2:fC a.minor b.minor=0)(h3:fC a.patch b.patch=0)(h4:a.pre=b.pre):xw a=xw b:=by
 unfold xw;rw[vY.1 h1,vY.1 h2,vY.1 h3,h4]
def N1 (a:cn):pD a a=0:=CL rfl
def AX (a b:cn):Bool:=eZ a&&eZ b&&decide (pD a b=0)
def O2 {v:cn}(h:eZ v=true):AX v v=true:=by simp[AX,h,N1]
def GJ (nm:au)(v:cn)(x:cw):Bool:=decide (x.r.name=nm)&&AX x.r.v v
def YC {nm:au}{v:cn}{x:cw}(h:¬x.r.name=nm\/AX x.r.v v=false):GJ nm v x=false:=by
 grind [GJ]
def U7 {nm:au}{v:cn}{x:cw}(h:x.r.name=nm/\AX x.r.v v=true):GJ nm v x=true:=by
 grind [GJ]
def tj (l:List cw)(nm:au)(v:cn)(i:Nat):Int:=match(l.drop i).findIdx? (GJ nm v)with
 |some k=>((i+k:Nat):Int)
 |none=>-1
def SA {l:List cw}{nm:au}{v:cn}{i:Nat}(h:i<l.length)(he:GJ nm v l[i]! =true):tj l nm v i=(i:Nat):=by
 unfold tj;rw[iW h,List.findIdx?_cons]
 grind
def SC {l:List cw}{nm:au}{v:cn}{i:Nat}(h:i<l.length)(he:GJ nm v l[i]! =false):tj l nm v i=tj l nm v (i+1):=by
 unfold tj;have:GJ nm v l[i]=false:=by simpa[h]using he
 rw[iW h,List.findIdx?_cons]
 grind
def LB {l:List cw}{nm:au}{v:cn}{i:Nat}(h:l.length<=i):tj l nm v i=-1:=by
 unfold tj;rw[lC h];rfl
def pe (l:List cw)(i:Nat):Bool:=decide ((dt l[i]!.r).2=0)&&decide (mP l[i]!.r=l[i]!.sum)&&decide (tj (l.take i) l[i]!.r.name l[i]!.r.v 0<0)
def kg (s:fP):Bool:=(dK s.name&&decide (s.es.length<=64))&&cQ (pe s.es) 0 s.es.length
theorem Ba {r:Rec}(h:(dt r).2=0):eZ r.v=true:=by
 grind [cK,dt,oN]
theorem SB {l:List cw}{nm:au}{v:cn}:tj l nm v 0<0↔∀x∈l,GJ nm v x=false:=by
 grind [tj,GJ]
theorem Dl {l:List cw}{i:Nat}(h:i<l.length)(hv:eZ l[i]!.r.v=true):decide (tj l l[i]!.r.name l[i]!.r.v 0=(i:Nat))=decide (tj (l.take i) l[i]!.r.name l[i]!.r.v 0<0):=by
 have hi:GJ l[i]!.r.name l[i]!.r.v l[i]! =true:=by unfold GJ;rw[O2 hv,b9 rfl];rfl
 apply gO.2;rw[SB];constructor
 .intro he x hx;obtain⟨j,hj,rfl⟩:=List.mem_take_iff_getElem.1 hx;have hj2:j<i:=ae;unfold tj at he;rw[bY]at he;cases hf:l.findIdx? (GJ l[i]!.r.name l[i]!.r.v)with
  |none=>rw[hf]at he;simp only at he;omega
  |some k=>
   rw[hf]at he;obtain⟨h1,h2,h3⟩:=List.findIdx?_eq_some_iff_getElem.1 hf;have hk:k=i:=by simp only at he;omega
   subst hk;have:=h3 j hj2;simpa using this
 .intro hx;unfold tj;rw[bY];have:l.findIdx? (GJ l[i]!.r.name l[i]!.r.v)=some i:=by
   rw[List.findIdx?_eq_some_iff_getElem];refine⟨h,by simpa[h]using hi,fun j hj=>?_⟩;have:=hx l[j] (List.mem_take_iff_getElem.2 ⟨j,ae,rfl⟩);rw[this];decide
  rw[this];simp
def Q4 {l:List cw}{i:Nat}(h:i<l.length)(h1:(dt l[i]!.r).2=0)(h2:mP l[i]!.r=l[i]!.sum)(h3:tj l l[i]!.r.name l[i]!.r.v 0=(i:Nat)):pe l i=true:=by
 grind [Dl,Ba,pe]
def UB {l:List cw}{i:Nat}(h:i<l.length)(h1:(¬(dt l[i]!.r).2=0\/¬mP l[i]!.r=l[i]!.sum)\/¬tj l l[i]!.r.name l[i]!.r.v 0=(i:Nat)):pe l i=false:=by
 grind [pe,dt,mP,Dl,Ba]
def fL:au:=[115,104,101,108,102]
def gx:au:=[101,110,116,114,121]
def TJ:au:=[111,110]
def uE:au:=[111,102,102]
def td (x:cw):List au:=[gx,fO x.sum,if x.off=true then uE else TJ]
def Eo (x:cw):au:=cv (td x)++(dt x.r).1
def iM (s:fP):au:=cv [fL,s.name]++(s.es.map Eo).flatten
def iV (s:fP):au×Int:=if kg s=false then([],1)else(iM s,0)
end Go.Abs
namespace Go.Abs
variable {Y:Ctx}(hm:(Y.at 0).b7)
def uI (s:fP)(i:Nat):au:=cv [fL,s.name]++((s.es.take i).map Eo).flatten
def TD (s:fP):uI s 0=fL++[32]++s.name++[10]:=by simp[uI,cv,aS]
theorem BJ {s:fP}{i:Nat}(h:i<s.es.length):uI s (i+1)=uI s i++Eo s.es[i]! :=by
 unfold uI;have e:s.es.take (i+1)=s.es.take i++[s.es[i]!]:=by
  rw[List.take_add_one,List.getElem?_eq_getElem h];simp[h]
 rw[e];simp
def Ft (s:fP):uI s s.es.length=iM s:=by simp[uI,iM]
theorem uh (r:Rec):(dt r).1.length<=4096:=by
 grind [dt,cK,gr]
theorem Ep (x:cw):Eo x=gx++[32]++fO x.sum++(if x.off=true then [32]++uE++[10]else [32]++TJ++[10])++(dt x.r).1:=by
 unfold Eo td cv;cases x.off<;>simp[aS]
theorem Q6 (x:cw):(Eo x).length<=4200:=by
 grind [uh,gY,Ep,gx,TJ,uE]
def yZ {s:fP}(hn:s.name.length<=100):∀{i:Nat},i<=s.es.length->(uI s i).length<=200+i*4200
 |0,_=>by rw[TD];simp[fL];omega
 |i+1,h=>by
  have h1:=yZ hn (i:=i) ae
  grind [Q6,BJ]
def Fj {s:fP}(h:kg s=true):s.name.length<=16/\s.es.length<=64:=by
 grind [kg,dK]
end Go.Abs
end
namespace Go.Abs
variable {Y:Ctx}(hm:(Y.at 0).b7)
def iEtr (a b:cw):cw.D a=cw.D b↔a=b:=by
 obtain⟨⟨n,⟨v1,v2,v3,v4,v5⟩,x,y,z⟩,s,o⟩:=a;obtain⟨⟨n',⟨w1,w2,w3,w4,w5⟩,x',y',z'⟩,s',o'⟩:=b;simp[cw.D,Je,Rw,Jd,and_assoc]
def WC (a b:List cw):a.map cw.D=b.map cw.D↔a=b:=wG iEtr a b
def iShf (a b:fP):fP.D a=fP.D b↔a=b:=by cases a;cases b;simp[fP.D,WC]
def I2 {A:RT->Prop}(h:A (fun ds d=>A fun ds' d'=>ds'=ds->d=d'):=by
 (repeat' first|apply And.intro|intro _)
 all_goals rename_i e
 all_goals (try simp only[oD,D.str.injEq,D.int.injEq,D.bool.injEq,D.sl.injEq,D.ref.injEq,D.agg.injEq,D.fn.injEq,OB,iInt,iByt,iVer,WG,Rx,WE,Je,iBar,Rw,WD,Jd,iRec,WC,iShf,iEtr,iCmp,WB,iNd,iNds,YA,iRng,iAlts,iMrk,iPr,iU8,hX,U4,ct,cr,reduceCtorEq,cW,cS]at e)
 all_goals first|rfl|(simp only[e];done)|simp_all):Det (EJ A):=Ym h
def pre1 (b c:UInt8)(r:au):([b]:au).isPrefixOf (c::r)=(b==c):=by simp[List.isPrefixOf]
def WH:Option Nat->Int
 |some k=>(k:Int)
 |none=>-1
theorem tY:∀(s:au) (b:UInt8),Lib.index s [b]=WH (s.findIdx? (fun c=>c==b))
 |[],b=>rfl
 |c::r,b=>by
  unfold Lib.index;rw[pre1,List.findIdx?_cons,tY r b];by_cases h:c=b
  .subst h;simp[WH]
  .have h1:(b==c)=false:=by simp[Ne.symm h]
   have h2:(c==b)=false:=by simp[h]
   simp only[h1,h2,gy,aX];cases r.findIdx? (fun c=>c==b)with
   |none=>rfl
   |some k=>
    grind [WH]
def Yk (s:au)(b:UInt8):Lib.cut s [b]=iu s b:=by
 unfold Lib.cut iu
 grind [tY,WH]
def N7 (s p:au):(Lib.trimPrefix s p,Lib.hasPrefix s p)=cU s p:=by
 unfold Lib.trimPrefix Lib.hasPrefix cU
 grind
def GM (b:au):∀l,aS b l=Lib.join l b
 |[]=>rfl
 |[t]=>(Lib.join_one t b).symm
 |t::u::r=>by
  rw[ga _ _ _ aJ,GM b (u::r),Lib.join_cons,Lib.join_cons];simp[Lib.joinTail]
def decDigits_eq (n:Nat):Lib.decDigits n=dI n:=by
 induction n using Nat.strongRecOn with
 |_ n ih=>
  rw[Lib.decDigits];by_cases h:n<10
  .rw[dif_pos h,ml h];rfl
  .rw[dif_neg h,nA ae,ih (n/10) ae];rfl
def Vd {n:Int}(h:0<=n):Lib.itoa n=dI n.toNat:=by
 unfold Lib.itoa;rw[ak ae,decDigits_eq]
def p0 (b:UInt8):∀(s cur:au),s.findIdx? (fun c=>c==b)=none->cD b.toNat s cur=[cur++s]
 |[],cur,_=>by simp[cD]
 |c::r,cur,h=>by
  rw[List.findIdx?_cons]at h;split at h
  .cases h
  .rename_i hc;have hr:r.findIdx? (fun c=>c==b)=none:=by
    cases hq:r.findIdx? (fun c=>c==b)with
    |none=>rfl
    |some k=>rw[hq]at h;cases h
   have hne:¬((c.toNat:Int)=(b.toNat:Int)):=fun e=>hc (by
    have:c.toNat=b.toNat:=ae;simp[hX.1 this])
   simp only[cD,ak hne];rw[p0 b r (cur++[c]) hr];simp
def oB (b:UInt8):∀(s cur:au) (k:Nat),s.findIdx? (fun c=>c==b)=some k->cD b.toNat s cur=(cur++s.take k)::cD b.toNat (s.drop (k+1)) []
 |[],cur,k,h=>by simp at h
 |c::r,cur,k,h=>by
  rw[List.findIdx?_cons]at h;split at h
  .grind [cD]
  .rename_i hc;have hne:¬((c.toNat:Int)=(b.toNat:Int)):=fun e=>hc (by
    have:c.toNat=b.toNat:=ae;simp[hX.1 this])
   cases hq:r.findIdx? (fun c=>c==b)with
   |none=>rw[hq]at h;cases h
   |some j=>
    rw[hq]at h;have hk:k=j+1:=by simpa using h.symm
    subst hk;simp only[cD,ak hne];rw[oB b r (cur++[c]) j hq];simp
def DC (b:UInt8):∀(k:Nat) (s:ByteArray),Lib.countB s ⟨⟨[b]⟩⟩=k->(Lib.splitB ⟨⟨[b]⟩⟩ 0 k s).map (fun t=>t.data.toList)=ai s.data.toList b.toNat:=by
 intro k;induction k with
 |zero=>
  intro s h;rw[Lib.splitB_zero];have hi:Lib.indexB s ⟨⟨[b]⟩⟩=WH (s.data.toList.findIdx? (fun c=>c==b)):=tY _ b;cases hq:s.data.toList.findIdx? (fun c=>c==b)with
  |none=>simp[ai,p0 b _ [] hq]
  |some j=>
   rw[hq]at hi;have:=Lib.countB_hit s ⟨⟨[b]⟩⟩ j (aL 1) hi;omega
 |succ k ih=>
  intro s h;have hi:Lib.indexB s ⟨⟨[b]⟩⟩=WH (s.data.toList.findIdx? (fun c=>c==b)):=tY _ b;cases hq:s.data.toList.findIdx? (fun c=>c==b)with
  |none=>
   rw[hq]at hi;have:=Lib.countB_miss s ⟨⟨[b]⟩⟩ hi;omega
  |some j=>
   rw[hq]at hi;have h1:1<=(⟨⟨[b]⟩⟩:ByteArray).size:=aL 1;have hc:=Lib.countB_hit s ⟨⟨[b]⟩⟩ j h1 hi;rw[Lib.splitB_hit _ _ _ _ j hi];simp only[List.map_cons];rw[ih _ ae];have e1:(s.extract 0 (j+0)).data.toList=s.data.toList.take j:=by
    rw[Lib.extract_data];simp
   have e2:(s.extract (j+(⟨⟨[b]⟩⟩:ByteArray).size) s.size).data.toList=s.data.toList.drop (j+1):=by
    rw[Lib.extract_data];exact ed (by rw[jO,Lib.size_eq];exact aL _)
   rw[e1,e2];simp only[ai];rw[oB b _ [] j hq];simp
end Go.Abs
section
namespace Go.Abs
variable {Y:Ctx}(hm:(Y.at 0).b7)
open Go.Proofs
def HU (sep:au)(k:Nat)(s:au)(h:Lib.index s sep=-1):Lib.splitK sep 0 k s=[s]:=by
 cases k with
 |zero=>rfl
 |succ k=>unfold Lib.splitK;rw[if_pos (beq_iff_eq.2 h)]
def Kj (sep:au)(k:Nat)(s:au)(i:Nat)(h:Lib.index s sep=i):Lib.splitK sep 0 (k+1) s=s.take i::Lib.splitK sep 0 k (s.drop (i+sep.length)):=by
 have hm:¬(Lib.index s sep==-1)=true:=fun e=>by have:=beq_iff_eq.1 e;omega
 have e:(Lib.index s sep).toNat=i:=by omega
 rw[Lib.splitK,if_neg hm,e];rfl
def kV (b:UInt8):∀(s cur:au),aS [b] (cD b.toNat s cur)=cur++s
 |[],cur=>by simp[cD,aS]
 |c::r,cur=>by
  unfold cD;split
  .rename_i h;have hc:c=b:=by
    have:c.toNat=b.toNat:=by omega
    exact UInt8.toNat_inj.1 this
   have hne:cD b.toNat r []≠[]:=nS r b.toNat;rw[ga _ _ _ hne,kV b r [],hc];simp
  .rw[kV b r (cur++[c])];simp
def N6 (a:au){l:List au}(k:Nat)(hl:l≠[]):qQ (k+2) (a::l)=a::qQ (k+1) l:=by
 grind [qQ]
theorem PV:∀(k:Nat) (s:au),Lib.splitK [32] 0 k s=qQ (k+1) (ai s 32):=by
 intro k;induction k with
 |zero=>
  intro s;have hj:aS [32] (ai s 32)=s:=by
   have:=kV 32 s [];simpa[ai]using this
  unfold qQ;split
  .rename_i h;show [s]=_;have hne:ai s 32≠[]:=nS _ _
   match hq:ai s 32,hne,h with
   |[t],_,_=>rw[hq]at hj;rw[<-hj];rfl
   |_::_::_,_,h=>simp at h
  .simp only[Nat.zero_add,Nat.sub_self,List.take_zero,List.drop_zero,List.nil_append,hj];rfl
 |succ k ih=>
  intro s;have hi:=tY s 32;cases hq:s.findIdx? (fun c=>c==32)with
  |none=>
   rw[hq]at hi;have hs:ai s 32=[s]:=by have:=p0 32 s [] hq;simpa[ai]using this
   rw[HU _ _ _ hi,hs];rfl
  |some j=>
   rw[hq]at hi;have hs:ai s 32=s.take j::ai (s.drop (j+1)) 32:=by have:=oB 32 s [] j hq;simpa[ai]using this
   rw[Kj _ _ _ j hi,hs,N6 _ _ (nS _ _),ih];rfl
def Kx (n:Nat)(h:1<=n)(s:au):Lib.splitK [32] 0 (min n (s.length+1) -1) s=mg (n:Int) s:=by
 grind [dk,PV,mg,qQ]
def pre2 (c d:UInt8)(r:au):([124,124]:au).isPrefixOf (c::d::r)=(decide (c=124)&&decide (d=124)):=by
 grind
theorem DF:∀(s cur:au),Lib.index s [124,124]=-1->aR s cur=[cur++s]
 |[],cur,_=>by simp[aR]
 |[c],cur,_=>rfl
 |c::d::r,cur,h=>by
  unfold Lib.index at h;rw[pre2]at h;by_cases h2:c=124/\d=124
  .simp[h2.1,h2.2]at h
  .have h3:(decide (c=124)&&decide (d=124))=false:=by rw[<-Bool.decide_and];exact decide_eq_false h2
   rw[h3,if_neg (by simp)]at h;have h4:Lib.index (d::r) [124,124]=-1:=by
    have:=Lib.index_ge (d::r) [124,124]
    grind
   rw[aR,if_neg h2,DF (d::r) _ h4];simp
def DE:∀(s cur:au) (i:Nat),Lib.index s [124,124]=i->aR s cur=(cur++s.take i)::aR (s.drop (i+2)) []
 |[],cur,i,h=>by simp[Lib.index]at h
 |[c],cur,i,h=>by simp[Lib.index,List.isPrefixOf]at h
 |c::d::r,cur,i,h=>by
  unfold Lib.index at h;rw[pre2]at h;by_cases h2:c=124/\d=124
  .rw[h2.1,h2.2]at h;have hi:i=0:=by simp at h;omega
   subst hi;rw[aR,if_pos h2];simp
  .have h3:(decide (c=124)&&decide (d=124))=false:=by rw[<-Bool.decide_and];exact decide_eq_false h2
   rw[h3,if_neg (by simp)]at h;split at h
   .omega
   .obtain⟨j,rfl⟩:∃j,i=j+1:=⟨i-1,by
     have:=Lib.index_ge (d::r) [124,124];rename_i h5;have:Lib.index (d::r) [124,124]≠-1:=fun e=>h5 (beq_iff_eq.2 e)
     omega⟩
    rw[aR,if_neg h2,DE (d::r) _ j (by omega)];simp
def PU:∀(k:Nat) (s:ByteArray),Lib.countB s ⟨⟨[124,124]⟩⟩=k->(Lib.splitB ⟨⟨[124,124]⟩⟩ 0 k s).map (fun t=>t.data.toList)=aR s.data.toList []:=by
 intro k;induction k with
 |zero=>
  intro s h;rcases Lib.indexB_cases s ⟨⟨[124,124]⟩⟩with hi|⟨i,hi,_⟩
  .rw[Lib.splitB_zero]
   grind [DF]
  .have:=Lib.countB_hit s ⟨⟨[124,124]⟩⟩ i (by decide) hi;omega
 |succ k ih=>
  intro s h;rcases Lib.indexB_cases s ⟨⟨[124,124]⟩⟩with hi|⟨i,hi,_⟩
  .rw[Lib.countB_miss _ _ hi]at h;omega
  .have hc:=Lib.countB_hit s ⟨⟨[124,124]⟩⟩ i (by decide) hi;rw[Lib.splitB_hit _ _ _ _ i hi,List.map_cons,ih _ (by omega),DE _ _ i (show Lib.index s.data.toList [124,124]=i from hi),Lib.extract_from_zero,Lib.extract_to_end];rfl
def DQ {p:UInt8->Bool}:∀(l:au),∀x∈l.takeWhile p,p x=true
 |[],x,h=>by cases h
 |a::r,x,h=>by
  rw[List.takeWhile_cons]at h;split at h
  .rename_i ha;rcases List.mem_cons.1 h with rfl|h
   .exact ha
   .exact DQ r x h
  .cases h
theorem wc {p:UInt8->Bool}:∀(l:au),(∀x∈l,p x=true)->l.dropWhile p=[]
 |[],_=>rfl
 |a::r,h=>by
  rw[List.dropWhile_cons,if_pos (h a (.head _))];exact wc r fun x hx=>h x (.tail _ hx)
def zY:∀s,kM s=s.dropWhile (· ==32)
 |[]=>rfl
 |c::r=>by
  unfold kM;by_cases h:c=32
  .rw[if_pos h,zY r];simp[h]
  .rw[if_neg h,List.dropWhile_cons,if_neg (by simpa using h)]
def QO (s:au):Lib.trimB s 32=eN s:=by
 unfold Lib.trimB Lib.trimLeftB Lib.trimRightB eN;rw[zY,zY];generalize hp:(fun c:UInt8=>c==32)=p;have hs:s=s.takeWhile p++s.dropWhile p:=(List.takeWhile_append_dropWhile).symm;generalize ha:s.takeWhile p=a at hs;generalize hm:s.dropWhile p=m at hs;have hall:∀x∈a,p x=true:=by rw[<-ha];exact DQ s
 subst hs;rw[List.reverse_append,List.dropWhile_append];cases m with
 |nil=>
  grind [wc]
 |cons c r=>
  have hc:p c=false:=by
   have:=List.head_dropWhile_not p (l:=a++c::r) (by rw[hm];simp);simpa[hm]using this
  have hne:((c::r).reverse.dropWhile p)≠[]:=by
   rw[List.reverse_cons,List.dropWhile_append];split
   .simp[hc]
   .simp
  rw[if_neg (by simpa using hne),List.reverse_append,List.reverse_reverse,List.dropWhile_append,wc _ hall];simp only[List.isEmpty_nil,if_true];rw[List.reverse_cons,List.dropWhile_append];split
  .simp[hc]
  .simp[hc]
end Go.Abs
namespace Go.Proofs
open Go.Shelf Go.RowKit Go.Lib
set_option maxHeartbeats 1000000 in
theorem Kk {P:Program}{J:Ren}(L:Lays.n147 P J)(hi9:(P.info? (J.t 9)).map (fun i=>(i.zero,i.size,i.bytes))=some (some (.string ByteArray.empty),1,16))(s sep:ByteArray)(m:Int)(w:World)
  (hs:s.size<4294967281) (hm:w.cell? ⟨(J.g 1),0,none⟩=some (.int .i64 m)) (h1:1<=sep.size):
  Calls P (J.f 147) #[.string s,.string sep,.int .i64 (-1)] w fun e w'=>
   e=.returned (.slice (some ⟨w.heap.size,0,none⟩) (Lib.splitB sep 0 (Lib.countB s sep) s).length (Lib.countB s sep+1))/\w'=w.alloc (.cells (Lib.cellsOf (Lib.splitB sep 0 (Lib.countB s sep) s) (Lib.countB s sep+1)) (J.t 9)):=by
 have hle:=Lib.countB_le sep h1 s.size s (Nat.le_refl _);have c:=Any.strings_genSplit {L with} hi9 s sep 0 (-1) (Lib.countB s sep+1) m w hs hm h1 (Nat.zero_le _) (by decide) (by decide) (by rw[if_pos (by decide)];omega);rw[Nat.add_sub_cancel]at c;have t3:=L.t3;have t9:=L.t9;have t31:=L.t31;have a3:=L.a3;have a9:=L.a9;have a31:=L.a31;have z3:=L.z3;have v3:=L.v3;have z9:=L.z9;have v9:=L.v9;have z31:=L.z31;have v31:=L.v31;have e221:∀args w,(callFunc (J.f 221) args).run P w=.ok (.enter (J.f 221) args) w:=enters_of L.f221 (by kernel_rfl) rfl
 go_enter L.f147,Body.n147_ntmps J
 go_wp2_with (go_at_fn (J.f 221);refine c.mono ?_;rintro e w' ⟨rfl,hw⟩;rw[hw])
 go_ret
 exact⟨rfl,rfl⟩
end Go.Proofs
end
section
namespace Go.Abs
variable {Y:Ctx}(hm:(Y.at 0).b7)
def oI:fP:=⟨[],[]⟩
def bV (t:au):au×Bool:=if t.getLast? =some 10 then(t.dropLast,true)else(t,false)
def jC (s:au):List au:=(oa s).map (· ++[10])++[ud s]
def cC (s:au):List au:=if ud s=[]then(oa s).map (· ++[10])else jC s
def tq (l:List au):Bool:=(decide (l.length=3)&&decide (l[0]! =gx))&&(decide (l[2]! =TJ) ||decide (l[2]! =uE))
def iF (t:au):Int×Bool×Bool:=if(bV t).2=true/\tq (ai (bV t).1 32)=true then(oT (ai (bV t).1 32)[1]!,decide ((ai (bV t).1 32)[2]! =uE),iI (ai (bV t).1 32)[1]!)else(0,false,false)
def wj (t:au):Bool:=decide ((iu (bV t).1 32).1=gx)
def se (p:Nat->Bool):Nat->Nat->Nat
 |k,0=>k
 |k,f+1=>if p k=true then k else se p (k+1) f
def sc (p:Nat->Bool)(k n:Nat):Nat:=se p k (n-k)
theorem BA {p:Nat->Bool}{k n:Nat}(h:k<n)(hp:p k=true):sc p k n=k:=by
 unfold sc;rw[show n-k=(n-(k+1))+1 by omega,se,aw hp]
theorem Fi {p:Nat->Bool}{k n:Nat}(h:k<n)(hp:p k=false):sc p k n=sc p (k+1) n:=by
 unfold sc;rw[show n-k=(n-(k+1))+1 by omega,se,ak (by simp[hp])]
theorem sf {p:Nat->Bool}{k n:Nat}(h:n<=k):sc p k n=k:=by
 unfold sc;rw[show n-k=0 by omega,se]
theorem Bz (p:Nat->Bool):∀f k,k<=se p k f/\se p k f<=k+f
 |0,k=>⟨aL _,aL _⟩
 |f+1,k=>by
  have:=Bz p f (k+1);unfold se;split<;>omega
def yU (p:Nat->Bool)(k n:Nat):k<=sc p k n:=(Bz p _ k).1
def LR (p:Nat->Bool){k n:Nat}(h:k<=n):sc p k n<=n:=by
 grind [Bz,sc]
def xZ {p q:Nat->Bool}:∀f k,(∀j,k<=j->j<k+f->p j=q j)->se p k f=se q k f
 |0,_,_=>rfl
 |f+1,k,h=>by
  unfold se;rw[h k (aL _) ae,xZ f (k+1) fun j h1 h2=>h j ae ae]
theorem Kf {p q:Nat->Bool}{k n:Nat}(h:∀j,k<=j->j<n->p j=q j):sc p k n=sc q k n:=xZ _ _ fun j h1 h2=>h j h1 ae
def qD (es:List cw)(r:Rec):Bool:=es.any fun x=>decide (x.r.name=r.name)&&decide (pD x.r.v r.v=0)
def iY (es:List cw)(r:Rec)(n:Int):Int:=if ¬mP r=n then 13 else if qD es r=true then 8 else if 64<=es.length then 10 else 0
def gB (es:List cw)(t:au)(n:Int)(off:Bool):Int×List cw:=if ¬(cA t).2.1=0 then((cA t).2.1,[])else if ¬iY es (cA t).1 n=0 then(iY es (cA t).1 n,[])else(0,es++[⟨(cA t).1,n,off⟩])
def wR (P:List au)(k:Nat):Nat:=sc (fun j=>wj P[j]!) k P.length
def slice {α:Type}(l:List α)(a b:Nat):List α:=(l.take b).drop a
def vt (P:List au):Nat->List cw->Nat->List cw×Int×Int
 |0,es,_=>(es,0,0)
 |f+1,es,at'=>if at'<P.length then
   (if(iF P[at']!).2.2=false then([],2,(at':Int)+1)
   else
    let q:=gB es (aS [] (slice P (at'+1) (wR P (at'+1)))) (iF P[at']!).1 (iF P[at']!).2.1
    if ¬q.1=0 then([],q.1,(at':Int)+1)else vt P f q.2 (wR P (at'+1)))
  else(es,0,0)
def Gw (t:au):Option au:=if(bV t).2=true/\(cU (bV t).1 (fL++[32])).2=true/\dK (cU (bV t).1 (fL++[32])).1=true then some (cU (bV t).1 (fL++[32])).1 else none
def Ao (nm:au)(q:List cw×Int×Int):fP×Int×Int:=if ¬q.2.1=0 then(oI,q.2.1,q.2.2)else(⟨nm,q.1⟩,0,0)
def gS (s:au):fP×Int×Int:=if 524288<s.length then(oI,3,0)else if(cC s).length=0 then(oI,2,1)else match Gw (cC s)[0]! with
 |none=>(oI,2,1)
 |some nm=>Ao nm (vt (cC s) (cC s).length [] 1)
def fN (t:au):Int×Bool×Bool:=if tq (ai t 32)=true then(oT (ai t 32)[1]!,decide ((ai t 32)[2]! =uE),iI (ai t 32)[1]!)else(0,false,false)
def jN (L:List au)(en:Bool)(i:Nat):Bool:=en ||decide (i+1<L.length)
def AW (L:List au)(k:Nat):Nat:=sc (fun j=>decide (fw L[j]! =gx)) k L.length
def jE (l:List au)(en:Bool):au:=if en=true then jx l else aS [10] l
def ym (L:List au)(en:Bool):Nat->List cw->Nat->List cw×Int×Int
 |0,es,_=>(es,0,0)
 |f+1,es,at'=>if at'<L.length then
   (if(fN L[at']!).2.2=false\/jN L en at'=false then([],2,(at':Int)+1)
   else
    let q:=gB es (jE (slice L (at'+1) (AW L (at'+1))) (en ||decide (AW L (at'+1)<L.length))) (fN L[at']!).1 (fN L[at']!).2.1
    if ¬q.1=0 then([],q.1,(at':Int)+1)else ym L en f q.2 (AW L (at'+1)))
  else(es,0,0)
def gV (t:au):Option au:=if((ai t 32).length=2/\(ai t 32)[0]! =fL)/\dK (ai t 32)[1]! =true then some (ai t 32)[1]! else none
def Tq (s:au):fP×Int×Int:=if 524288<s.length then(oI,3,0)else if(az s).1.length=0\/((az s).1.length=1/\(az s).2=false)then(oI,2,1)else match gV (az s).1[0]! with
 |none=>(oI,2,1)
 |some nm=>Ao nm (ym (az s).1 (az s).2 (az s).1.length [] 1)
def A5 (s:au):(∃A,az s=(A,true)/\cC s=A.map (· ++[10]))\/∃A b,az s=(A++[b],false)/\cC s=A.map (· ++[10])++[b]:=by
 rcases AF s with⟨h1,h2,h3⟩|⟨h1,h2,h3⟩
 .grind [cC]
 .exact .inr ⟨oa s,ud s,Prod.ext h3 h1,by unfold cC;rw[ak h2];rfl⟩
theorem jX (s:au):(cC s).length=(az s).1.length:=by
 rcases A5 s with⟨A,h1,h2⟩|⟨A,b,h1,h2⟩<;>rw[h1,h2]<;>simp
def EV {s:au}{i:Nat}(h:i<(az s).1.length):(cC s)[i]! =(az s).1[i]! ++(if jN (az s).1 (az s).2 i=true then [10]else []):=by
 rcases A5 s with⟨A,h1,h2⟩|⟨A,b,h1,h2⟩
 .grind [jN]
 grind [jN]
theorem sj:∀(s cur:au),(∀c∈cur,c≠10)->∀t∈cD 10 s cur,∀c∈t,c≠10
 |[],cur,h,t,ht=>by
  grind [cD]
 |a::r,cur,h,t,ht=>by
  unfold cD at ht;split at ht
  .rcases ca.1 ht with rfl|ht
   .exact h
   .exact sj r [] aJ t ht
  .rename_i hn;refine sj r (cur++[a]) (fun c hc=>?_) t ht;rcases List.mem_append.1 hc with hc|hc
   .exact h c hc
   .rw[cI.1 hc];rintro rfl;exact hn rfl
def uc {s t:au}(h:t∈(az s).1):∀c∈t,c≠10:=by
 grind [ai,sj,az]
def xm {t:au}(h:∀c∈t,c≠10)(b:Bool):bV (t++(if b=true then [10]else []))=(t,b):=by
 grind [bV]
def Yl (t:au):(iu t 32).1=fw t:=by
 unfold fw iu;cases hq:t.findIdx? (fun c=>c==32)with
 |none=>
  have hs:ai t 32=[t]:=by have:=p0 32 t [] hq;simpa[ai]using this
  rw[hs];rfl
 |some j=>
  have hs:ai t 32=t.take j::ai (t.drop (j+1)) 32:=by have:=oB 32 t [] j hq;simpa[ai]using this
  rw[hs];rfl
def En {s:au}{i:Nat}(h:i<(az s).1.length):iF (cC s)[i]! =if jN (az s).1 (az s).2 i=true then fN (az s).1[i]! else(0,false,false):=by
 unfold iF fN;rw[EV h,xm (uc (bE h))]
 grind
theorem Oj {s:au}{i:Nat}(h:i<(az s).1.length):wj (cC s)[i]! =decide (fw (az s).1[i]! =gx):=by
 unfold wj;rw[EV h,xm (uc (bE h))];dsimp only;rw[Yl]
def R8 (s:au)(k:Nat):wR (cC s) k=AW (az s).1 k:=by
 grind [wR,AW,jX,Kf,Oj]
def C3:∀l:List au,aS [] l=l.flatten
 |[]=>rfl
 |[t]=>by simp[aS]
 |t::u::r=>by
  have:=C3 (u::r);simp only[aS,this];simp
def C4 (t:au):∀l:List au,aS [10] (l++[t])=jx l++t
 |[]=>rfl
 |[u]=>by simp[aS,jx]
 |u::v::r=>by
  have:=C4 t (v::r)
  grind [aS,jx]
def PS {α β:Type}(f:α->β)(l:List α)(a b:Nat):slice (l.map f) a b=(slice l a b).map f:=by simp[slice]
def KN {s:au}{a b:Nat}(ha:a<=b)(hb:b<=(az s).1.length):aS [] (slice (cC s) a b)=jE (slice (az s).1 a b) ((az s).2 ||decide (b<(az s).1.length)):=by
 rw[C3];rcases A5 s with⟨A,h1,h2⟩|⟨A,d,h1,h2⟩
 .rw[h1,h2,PS];simp only[Bool.true_or,jE,aW];rfl
 .rw[h1]at hb⊢;rw[h2];simp only[bP,aP,a8,Bool.false_or]at hb⊢;by_cases hl:b<A.length+(0+1)
  .have e1:slice (A.map (· ++[10])++[d]) a b=(slice A a b).map (· ++[10]):=by
    unfold slice;rw[List.take_append_of_le_length (by simp only[bN];omega)];simp
   have e2:slice (A++[d]) a b=slice A a b:=by
    unfold slice;rw[List.take_append_of_le_length ae]
   rw[e1,e2,jE,aw (b9 hl)];rfl
  .have hq:b=A.length+1:=ae;rw[jE,ak (by simpa using hl)];by_cases h4:a=b
   .have e1:∀l:List au,l.length<=b->slice l a b=[]:=fun l hl=>lC cY
    rw[e1 _ cY,e1 _ cY];rfl
   .have ha2:a<=A.length:=ae;have e1:slice (A.map (· ++[10])++[d]) a b=(A.drop a).map (· ++[10])++[d]:=by
     unfold slice;rw[ed cY,List.drop_append_of_le_length (by simpa using ha2),List.map_drop]
    have e2:slice (A++[d]) a b=A.drop a++[d]:=by
     unfold slice;rw[ed cY,List.drop_append_of_le_length ha2]
    rw[e1,e2,C4];simp[jx]
theorem idx_eq (s:au):∀(f:Nat) (es:List cw) (i:Nat),vt (cC s) f es i=ym (az s).1 (az s).2 f es i
 |0,_,_=>rfl
 |f+1,es,i=>by
  unfold vt ym;rw[jX];by_cases h:i<(az s).1.length
  .rw[aw h,aw h,En h,R8];have h1:i+1<=AW (az s).1 (i+1):=yU _ _ _;have h2:AW (az s).1 (i+1)<=(az s).1.length:=LR _ ae;rw[KN h1 h2];cases hw:jN (az s).1 (az s).2 i with
   |false=>simp
   |true=>
    simp only[aW,Bool.true_eq_false,or_false];rw[idx_eq s f]
  .rw[ak h,ak h]
theorem Lq {nm:au}(h:dK nm=true):cq nm:=⟨(yN h).1,Jv (yN h).2.2⟩
theorem HQ:cq fL:=by unfold cq;decide
theorem Ez {s:au}(h:0<(az s).1.length):Gw (cC s)[0]! =if jN (az s).1 (az s).2 0=true then gV (az s).1[0]! else none:=by
 unfold Gw gV;rw[EV h,xm (uc (bE h))];dsimp only;cases jN (az s).1 (az s).2 0 with
 |false=>simp
 |true=>
  simp only[cr,aW];generalize (az s).1[0]! =t;by_cases h1:((ai t 32).length=2/\(ai t 32)[0]! =fL)/\dK (ai t 32)[1]! =true
  .rw[aw h1];have hj:aS [32] (ai t 32)=t:=by
    have:=kV 32 t [];simpa[ai]using this
   obtain⟨⟨ha,hb⟩,hc⟩:=h1
   match hq:ai t 32,ha,hb,hc with
   |[x,y],_,hb,hc=>
    rw[hq]at hj;simp at hb hc;subst hb;have ht:t=fL++[32]++y:=by rw[<-hj];rfl
    have hp:cU t (fL++[32])=(y,true):=by
     subst ht;unfold cU;rw[aw (by simp[fL,List.isPrefixOf])];simp[fL]
    rw[hp];simp[hc]
  .rw[ak h1,ak];rintro⟨h2,h3⟩;unfold cU at h2 h3;split at h2
   .rename_i h4;rw[aw h4]at h3;simp only at h3;have ht:t=aS [32] [fL,t.drop 6]:=by
     obtain⟨r,hr⟩:=List.isPrefixOf_iff_prefix.1 h4;rw[<-hr];simp[fL,aS]
    have hs:ai t 32=[fL,t.drop 6]:=by
     have:=kA (l:=[fL,t.drop 6]) aJ (by
      intro w hw;simp only[ca,eI,or_false]at hw;rcases hw with rfl|rfl
      .exact HQ
      .exact Lq h3)
     rw[fg,<-ht]at this;exact this
    apply h1;rw[hs];exact⟨⟨rfl,rfl⟩,by simpa[fL]using h3⟩
   .cases h2
def VH (s:au):gS s=Tq s:=by
 grind [gS,Tq,jX,az,Ez,jN,gV,idx_eq]
end Go.Abs
namespace Go.Abs
variable {Y:Ctx}(hm:(Y.at 0).b7)
def Sx (s:au):1<=(jC s).length:=by unfold jC;simp
def Sy (s:au):cC s=if(jC s)[(jC s).length-1]! =[]then(jC s).take ((jC s).length-1)else jC s:=by
 grind [jC,cC]
def qF (s:au):(bV s).1.length<=s.length:=by
 grind [bV]
def T2 (r:Rec)(x:cw):Bool:=decide (x.r.name=r.name)&&decide (pD x.r.v r.v=0)
def Yo {s:au}(h:(((bV s).2=false\/¬((ai (bV s).1 32).length:Int)=3)\/¬(ai (bV s).1 32)[0]! =gx)\/¬(ai (bV s).1 32)[2]! =TJ/\¬(ai (bV s).1 32)[2]! =uE):¬((bV s).2=true/\tq (ai (bV s).1 32)=true):=by
 grind [tq]
def UD {s:au}(h:(((bV s).2=true/\((ai (bV s).1 32).length:Int)=3)/\(ai (bV s).1 32)[0]! =gx)/\((ai (bV s).1 32)[2]! =TJ\/(ai (bV s).1 32)[2]! =uE)):((bV s).2=true/\tq (ai (bV s).1 32)=true)/\(ai (bV s).1 32).length=3:=by
 grind [ai,bV,tq]
end Go.Abs
namespace Go.Abs
variable {Y:Ctx}(hm:(Y.at 0).b7)
def noE (s:au):Prop:=∀i,1<=i->i<(cC s).length->(iF (cC s)[i]!).2.2=false
def LA {s t:au}(h:t∈cC s):t.length<=s.length+1:=by
 have h1:t∈jC s:=by
  grind [cC,jC]
 unfold jC at h1;rcases List.mem_append.1 h1 with h2|h2
 .obtain⟨u,hu,rfl⟩:=ey.1 h2;have:=dS s 10 (kl hu);simp;omega
 grind [ep,qA,ai]
def yS {s:au}{i:Nat}(h:i<(cC s).length):(cC s)[i]!.length<=s.length+1:=LA (bE h)
def Dy {s:au}(h:524288<s.length):gS s=(oI,3,0):=by unfold gS;rw[aw h]
def Dz {s:au}(h:¬524288<s.length)(h1:(cC s).length=0):gS s=(oI,2,1):=by unfold gS;rw[ak h,aw h1]
theorem Gx (t:au):Gw t=if((bV t).2=true/\(cU (bV t).1 [115,104,101,108,102,32]).2=true)/\dK (cU (bV t).1 [115,104,101,108,102,32]).1=true then some (cU (bV t).1 [115,104,101,108,102,32]).1 else none:=by
 grind [Gw,fL]
def PN {s:au}(h:¬524288<s.length)(h1:¬(cC s).length=0)(h2:¬(((bV (cC s)[0]!).2=true/\(cU (bV (cC s)[0]!).1 [115,104,101,108,102,32]).2=true)/\dK (cU (bV (cC s)[0]!).1 [115,104,101,108,102,32]).1=true)):gS s=(oI,2,1):=by
 grind [gS,Gx]
def PM {s:au}(h:¬524288<s.length)(h1:¬(cC s).length=0)(h2:((bV (cC s)[0]!).2=true/\(cU (bV (cC s)[0]!).1 [115,104,101,108,102,32]).2=true)/\dK (cU (bV (cC s)[0]!).1 [115,104,101,108,102,32]).1=true):
  gS s=Ao (cU (bV (cC s)[0]!).1 [115,104,101,108,102,32]).1 (vt (cC s) (cC s).length [] 1):=by
 grind [gS,Gx]
def ow (P:List au)(es:List cw)(i:Nat):List cw×Int×Int:=vt P (P.length-i) es i
theorem wy (P:List au):∀(f g:Nat) (es:List cw) (i:Nat),P.length<=i+f->P.length<=i+g->vt P f es i=vt P g es i
 |0,0,_,_,_,_=>rfl
 |0,g+1,es,i,h,_=>by unfold vt;rw[ak ae]
 |f+1,0,es,i,_,h=>by unfold vt;rw[ak ae]
 |f+1,g+1,es,i,h1,h2=>by
  have hn:i+1<=wR P (i+1):=yU _ _ _;unfold vt;dsimp only;rw[wy P f g _ _ ae ae]
def Dt (P:List au):vt P P.length [] 1=ow P [] 1:=wy P _ _ _ _ ae ae
def Du {P:List au}{es:List cw}{i:Nat}(h:P.length<=i):ow P es i=(es,0,0):=by
 unfold ow;rw[show P.length-i=0 by omega];rfl
def Bt {P:List au}{es:List cw}{i:Nat}(h:i<P.length)(h1:(iF P[i]!).2.2=false):ow P es i=([],2,(i:Int)+1):=by
 unfold ow;obtain⟨f,hf⟩:∃f,P.length-i=f+1:=⟨P.length-i-1,ae⟩
 grind [vt]
def Ds {P:List au}{es:List cw}{i:Nat}(h:i<P.length)(h1:(iF P[i]!).2.2=true):ow P es i=if ¬(gB es (aS [] (slice P (i+1) (wR P (i+1)))) (iF P[i]!).1 (iF P[i]!).2.1).1=0 then([],(gB es (aS [] (slice P (i+1) (wR P (i+1)))) (iF P[i]!).1 (iF P[i]!).2.1).1,(i:Int)+1)else ow P (gB es (aS [] (slice P (i+1) (wR P (i+1)))) (iF P[i]!).1 (iF P[i]!).2.1).2 (wR P (i+1)):=by
 have hn:i+1<=wR P (i+1):=yU _ _ _;unfold ow;obtain⟨f,hf⟩:∃f,P.length-i=f+1:=⟨P.length-i-1,ae⟩
 grind [vt,wy,wR]
def ru {nm:au}{es:List cw}{e k:Int}(h:¬e=0):Ao nm (es,e,k)=(oI,e,k):=by unfold Ao;rw[aw h]
end Go.Abs
namespace Go.Abs
variable {Y:Ctx}(hm:(Y.at 0).b7)
def Zv {nm:au}{es:List cw}{m:List (Nat×bW)}{l:Nat}{cs:List Sh}(hq:∀x:cw,D.agg (xL m cs x.D.cells)=x.D)(hl:look m l=some (.buf 11 (es.map cw.D))):xV m [.a,.sl 11 cs] (.agg [.str nm,.own l 11 0 es.length])=fP.D ⟨nm,es⟩:=by
 show D.agg [.str nm,.sl 11 _]=D.agg [.str nm,.sl 11 (es.map cw.D)];simp only[bC,hl,bY,aN,List.map_map];exact aj (fun q=>D.agg [D.str nm,D.sl 11 q]) (List.map_congr_left fun x _=>hq x)
def V4 {nm:au}{es:List cw}{m:List (Nat×bW)}{l:Nat}{cs:List Sh}(hq:∀x:cw,TQ m cs x.D.cells)(hl:look m l=some (.buf 11 (es.map cw.D))):TR m [.a,.sl 11 cs] (.agg [.str nm,.own l 11 0 es.length]):=by
 refine⟨rfl,⟨?_, ?_⟩,rfl⟩
 .simp[fX,hl]
 .simp only[bC,hl,bY,aN];intro e he;obtain⟨x,_,rfl⟩:=ey.1 he;exact hq x
def F0 {es:List cw}{t:au}{n:Int}{off:Bool}(h:¬(cA t).2.1=0):gB es t n off=((cA t).2.1,[]):=by unfold gB;rw[aw h]
def nX {es:List cw}{t:au}{n:Int}{off:Bool}(h:(cA t).2.1=0)(h2:¬iY es (cA t).1 n=0):gB es t n off=(iY es (cA t).1 n,[]):=by grind [gB]
def KF {es:List cw}{t:au}{n:Int}{off:Bool}(h:(cA t).2.1=0)(h2:iY es (cA t).1 n=0):gB es t n off=(0,es++[⟨(cA t).1,n,off⟩]):=by grind [gB]
def CV {es:List cw}{r:Rec}{n:Int}(h:iY es r n=0):es.length<64:=by
 grind [iY]
def DB {α:Type}{l:List α}{a b:Nat}{x:α}(h:x∈slice l a b):x∈l:=kl (List.mem_of_mem_drop h)
end Go.Abs
namespace Go.Abs
variable {Y:Ctx}(hm:(Y.at 0).b7)
def Bl (t:au):fA (cA t).1:=by
 unfold cA;split
 .exact yT
 .rename_i h;dsimp only;have hL:B0 ((ai t 10).take ((ai t 10).length-1)):=fun u hu=>by
   have:=dS t 10 (kl hu);omega
  grind [yT,E2]
def Hb (s:au):(cC s).length<=s.length+1:=by
 grind [jX,dk,az]
end Go.Abs
end
section
namespace Go.Abs
variable {Y:Ctx}(hm:(Y.at 0).b7)
def na (s:fP)(r:Rec):fP×Int:=if kg s=false then(oI,1)else if ¬(dt r).2=0 then(oI,(dt r).2)else if 0<=tj s.es r.name r.v 0 then(oI,8)else if 64<=s.es.length then(oI,10)else(⟨s.name,s.es++[⟨r,mP r,false⟩]⟩,0)
theorem Ob {es:List cw}{x:cw}{i:Nat}(h:i<es.length):pe (es++[x]) i=pe es i:=by
 grind [pe]
theorem Oa {es:List cw}{x:cw}:pe (es++[x]) es.length=(decide ((dt x.r).2=0)&&decide (mP x.r=x.sum)&&decide (tj es x.r.name x.r.v 0<0)):=by
 grind [pe]
theorem PL {nm:au}{es:List cw}{x:cw}(h:kg ⟨nm,es⟩=true)(h1:(dt x.r).2=0)(h2:mP x.r=x.sum)(h3:tj es x.r.name x.r.v 0<0)(h4:es.length<64):kg ⟨nm,es++[x]⟩=true:=by
 grind [kg,eC,Ob,Oa]
def TA {es:List cw}{r:Rec}(hr:eZ r.v=true)(h:∀x∈es,eZ x.r.v=true):qD es r=decide (0<=tj es r.name r.v 0):=by
 grind [qD,GJ,AX,SB,tj]
def pI (l:List Int)(i:Int)(k:Nat):Rec:=Cd l (i+1+82*(k:Nat)) (1+fV l (i+1+82*(k:Nat)+80) 4)
def gEY (l:List Int)(i:Int)(k:Nat):Bool:=decide (fV l (i+1+82*(k:Nat)+81) 9=1)
def yk (l:List Int)(i:Int):Nat->List cw
 |0=>[]
 |k+1=>if 0<=tj (yk l i k) (pI l i k).name (pI l i k).v 0 then yk l i k else yk l i k++[⟨pI l i k,mP (pI l i k),gEY l i k⟩]
def B2 (l:List Int)(i:Int)(nm:au)(most:Nat):fP:=⟨nm,yk l i (fV l i ((most:Int)+1)).toNat⟩
theorem vl (l:List Int)(i:Int):∀k,(yk l i k).length<=k
 |0=>by simp[yk]
 |k+1=>by
  have:=vl l i k
  grind [yk]
theorem Ev (l:List Int)(i:Int)(k:Nat):(dt (pI l i k)).2=0/\FR (pI l i k)/\cK (pI l i k)=(0,0)/\(gr (pI l i k)).length<=800/\fA (pI l i k):=by
 have h:=Rp l (i+1+82*(k:Nat)) (1+fV l (i+1+82*(k:Nat)+80) 4);have hp:=h.print;exact⟨by unfold pI;rw[hp],Yy _ _ _,h.check,h.len,h.sm⟩
structure B4 (x:cw):Prop where
 w:FR x.r
 c:cK x.r=(0,0)
 l:(gr x.r).length<=800
 s:mP x.r=x.sum
 m:fA x.r
def yH (l:List Int)(i:Int):∀k,∀x∈yk l i k,B4 x
 |0,x,h=>by cases h
 |k+1,x,h=>by
  unfold yk at h;split at h
  .exact yH l i k x h
  .rcases List.mem_append.1 h with h|h
   .exact yH l i k x h
   .rw[cI.1 h];obtain⟨_,h2,h3,h4,h5⟩:=Ev l i k;exact⟨h2,h3,h4,rfl,h5⟩
def Ew {nm:au}(hn:dK nm=true)(l:List Int)(i:Int):∀k,k<=64->kg ⟨nm,yk l i k⟩=true
 |0,_=>by simp[kg,yk,hn,cj]
 |k+1,h=>by
  have ih:=Ew hn l i k ae
  grind [vl,yk,PL,Ev,tj,pI]
def iU (x:cw):List au:=fg (td x)::jm x.r
theorem Q7 {x:cw}(h:cK x.r=(0,0)):Eo x=jx (iU x):=by
 grind [Eo,iU,dt,gr,uC,nI,sP]
def gb (es:List cw):List au:=(es.map iU).flatten
def CO:∀{es:List cw},(∀x∈es,cK x.r=(0,0))->(es.map Eo).flatten=jx (gb es)
 |[],_=>rfl
 |x::r,h=>by
  have:=CO (es:=r) fun y hy=>h y (.tail _ hy)
  grind [gb,rq,Q7]
def Kt (n:Int):cq (fO n):=by
 refine⟨fun e=>(by have:=gY n;rw[e]at this;cases this),fun c hc=>?_⟩;unfold fO at hc;obtain⟨j,_,rfl⟩:=ey.1 hc;have:∀k,k<16->tf k≠32/\tf k≠10:=aF
 exact this _ (wP _ _)
def Ai:cq gx/\cq TJ/\cq uE:=by unfold cq;decide
def I4 (x:cw):∀w∈td x,cq w:=by
 intro w hw;simp only[td,ca,eI,or_false]at hw;rcases hw with rfl|rfl|rfl
 .exact Ai.1
 .exact Kt _
 .split
  .exact Ai.2.2
  .exact Ai.2.1
def Yn {x:cw}(h:0<=x.sum/\x.sum<18446744073709551616):fN (fg (td x))=(x.sum,x.off,true):=by
 unfold fN;rw[kA (by simp[td]) (I4 x)];have h1:tq (td x)=true:=by
  unfold tq td;cases x.off<;>simp
 rw[aw h1];have e1:(td x)[1]! =fO x.sum:=rfl;have e2:decide ((td x)[2]! =uE)=x.off:=by
  unfold td;cases x.off<;>simp[TJ,uE]
 grind [iI,fO,Bi,JG]
def fw_E (x:cw):fw (fg (td x))=gx:=by
 unfold fw;rw[kA (by simp[td]) (I4 x)];rfl
def R1 {l:List bp}(h:∀n∈l,FO n):∀t∈om l,fw t≠gx:=by
 intro t ht;unfold om at ht;obtain⟨x,hx,ht⟩:=List.mem_flatten.1 ht;obtain⟨n,hn,rfl⟩:=ey.1 hx;have hw:=h n hn;unfold wI at ht;rcases ca.1 ht with rfl|ht
 .rw[pH qf aJ];decide
 rcases List.mem_append.1 ht with ht|ht
 .unfold lA at ht;obtain⟨w,hw2,rfl⟩:=ey.1 ht;rw[BR,tR vW (uF (hw.a w hw2))];decide
 rcases List.mem_append.1 ht with ht|ht
 .unfold kD at ht;split at ht
  .cases ht
  .rw[cI.1 ht,show([eF,n.when']:List au)=eF::([]++[n.when'])from rfl,tR nZ aJ];decide
 .unfold nt at ht;split at ht
  .cases ht
  .rw[cI.1 ht,show([cT,n.option]:List au)=cT::([]++[n.option])from rfl,tR sG aJ];decide
def Ur {l:List fq}(h:∀b∈l,Qe b):∀t∈nj l,fw t≠gx:=by
 intro t ht;unfold nj at ht;obtain⟨x,hx,ht⟩:=List.mem_flatten.1 ht;obtain⟨b,hb,rfl⟩:=ey.1 hx;have hw:=h b hb;unfold CA at ht;rcases ca.1 ht with rfl|ht
 .rw[show([fE,b.name,b.range]:List au)=fE::([b.name]++[b.range])from rfl,tR sF (by intro x hx;rw[cI.1 hx];exact hw.nm)];decide
 .unfold kD at ht;split at ht
  .cases ht
  .rw[cI.1 ht,show([eF,b.when']:List au)=eF::([]++[b.when'])from rfl,tR nZ aJ];decide
def Zf {r:Rec}(h:FR r):∀t∈jm r,fw t≠gx:=by
 intro t ht;unfold jm at ht;rcases ca.1 ht with rfl|ht
 .rw[pH tH (by
   intro x hx;simp only[ca,eI,or_false]at hx;rcases hx with rfl|rfl
   .exact h.nm
   .exact xl h.v)];decide
 unfold r9 at ht;rcases List.mem_append.1 ht with ht|ht
 .exact R1 h.n t ht
 rcases List.mem_append.1 ht with ht|ht
 .exact Ur h.b t ht
 .obtain⟨f,hf,rfl⟩:=ey.1 ht;have hw:=h.f f hf;rw[kQ,show([b8,f.name]++f.of:List au)=b8::(f.name::f.of)from rfl,pH qe (by
   intro x hx;rcases ca.1 hx with rfl|hx
   .exact hw.nm
   .exact hw.o x hx)];decide
def VP {p:Nat->Bool}{k m n:Nat}(h1:k<=m)(h2:m<=n)(h3:∀j,k<=j->j<m->p j=false)(h4:m=n\/p m=true):sc p k n=m:=by
 obtain⟨d,rfl⟩:∃d,m=k+d:=⟨m-k,ae⟩
 induction d generalizing k with
 |zero=>
  grind [sf,BA]
 |succ d ih=>
  grind [Fi]
def PT {α:Type}(a b c:List α):slice (a++(b++c)) a.length (a.length+b.length)=b:=by
 grind [slice]
def KZ {α:Type} [Inhabited α](a b c:List α)(j:Nat)(h:j<b.length):(a++(b++c))[a.length+j]! =b[j]! :=by
 grind
def RA {L pre R:List au}{x:cw}(hL:L=pre++(iU x++R))(hR:R=[]\/fw R[0]! =gx)(hx:FR x.r)(hs:0<=x.sum/\x.sum<18446744073709551616)(f:Nat)(es:List cw):
  ym L true (f+1) es pre.length=if ¬(gB es (gr x.r) x.sum x.off).1=0 then([],(gB es (gr x.r) x.sum x.off).1,(pre.length:Int)+1)else ym L true f (gB es (gr x.r) x.sum x.off).2 (pre++iU x).length:=by
 have hl:(iU x).length=(jm x.r).length+1:=rfl;have hlen:L.length=pre.length+((iU x).length+R.length):=by rw[hL];simp
 have h0:L[pre.length]! =fg (td x):=by
  have:=KZ pre (iU x) R 0 ae;rw[hL];rw[Nat.add_zero]at this;rw[this];rfl
 have hn:AW L (pre.length+1)=pre.length+(iU x).length:=by
  refine VP ae ae (fun j h1 h2=>?_) ?_
  .obtain⟨d,rfl⟩:∃d,j=pre.length+(d+1):=⟨j-pre.length-1,ae⟩
   have:=KZ pre (iU x) R (d+1) ae;rw[hL,this];have hd:(iU x)[d+1]! =(jm x.r)[d]! :=by simp[iU]
   rw[hd];exact cG (Zf hx _ (bE ae))
  grind
 have hb:slice L (pre.length+1) (pre.length+(iU x).length)=jm x.r:=by
  have:=PT (pre++[fg (td x)]) (jm x.r) R
  grind [iU,jm]
 rw[ym,aw ae,h0,Yn hs,hn,hb];simp only[jN,Bool.true_or,jE,aW,<-uC,Bool.true_eq_false,or_self,aX,bP]
def B4.xU {x:cw}(h:B4 x):0<=x.sum/\x.sum<18446744073709551616:=by
 rw[<-h.s];unfold mP;split
 .decide
 .exact Ko _
def QB {es:List cw}{x:cw}(h:B4 x):gB es (gr x.r) x.sum x.off=if ¬iY es x.r x.sum=0 then(iY es x.r x.sum,[])else(0,es++[x]):=by
 unfold gB;rw[Pf h.w h.c];simp
def K2:∀{rest:List cw}{L pre R:List au}{es:List cw}{nm:au} (f:Nat),(∀x∈es++rest,B4 x)->kg ⟨nm,es++rest⟩=true->L=pre++(gb rest++R)->(R=[]\/fw R[0]! =gx)->
  ym L true (rest.length+f) es pre.length=ym L true f (es++rest) (pre++gb rest).length
 |[],L,pre,R,es,nm,f,_,_,_,_=>by simp[gb]
 |x::r,L,pre,R,es,nm,f,hg,hs,hL,hR=>by
  have hx:=hg x aJ;have hL2:L=pre++(iU x++(gb r++R)):=by rw[hL];simp[gb]
  have hR2:gb r++R=[]\/fw (gb r++R)[0]! =gx:=by
   match r with
   |[]=>simpa[gb]using hR
   |y::q=>right;simp only[gb,List.map_cons,List.flatten_cons,iU,fB];exact fw_E y
  have hfit:iY es x.r x.sum=0:=by
   have h1:=hs;unfold kg at h1;simp only[bB,aK,eC,bP,aP]at h1;have h2:=h1.2 es.length ae ae;unfold pe at h2;have e1:(es++x::r)[es.length]! =x:=aJ;rw[e1,List.take_left' rfl]at h2;simp only[bB,aK]at h2;unfold iY;rw[ak (by rw[h2.1.2];simp),ak,ak ae];rw[TA hx.w.v (fun y hy=>(hg y (List.mem_append_left _ hy)).w.v)];simp only[aK];omega
  have ha:gB es (gr x.r) x.sum x.off=(0,es++[x]):=by rw[QB hx,ak (fun h=>h hfit)]
  rw[show(x::r).length+f=(r.length+f)+1 by simp;omega,RA hL2 hR2 hx.w hx.xU,ha,ak (fun h=>h rfl)];have:=K2 (rest:=r) (L:=L) (pre:=pre++iU x) (R:=R) (es:=es++[x]) (nm:=nm) f (by simpa using hg) (by simpa using hs) (by rw[hL2];simp) hR;rw[this];simp[gb]
def Vh {es:List cw}(h:∀x∈es,B4 x):∀t∈gb es,j5 t:=by
 intro t ht;unfold gb at ht;obtain⟨y,hy,ht⟩:=List.mem_flatten.1 ht;obtain⟨x,hx,rfl⟩:=ey.1 hy;rcases ca.1 ht with rfl|ht
 .exact gD fun w hw=>IA (I4 x w hw)
 .exact xJ (h x hx).w t ht
def qM (nm:au):au:=fg [fL,nm]
theorem Rt {nm:au}(h:dK nm=true):∀w∈[fL,nm],cq w:=by
 grind [HQ,Lq]
theorem RN {L:List au}(h:∀t∈L,j5 t):az (jx L)=(L,true):=by
 grind [yb,az]
def H2 {nm:au}{es:List cw}(h:∀x∈es,B4 x):iM ⟨nm,es⟩=jx (qM nm::gb es):=by
 unfold iM qM;rw[nI,CO fun x hx=>(h x hx).c];rfl
def Pg {nm:au}(hn:dK nm=true){L:List au}(hL:∀t∈L,j5 t)(hl:(jx (qM nm::L)).length<=524288):Tq (jx (qM nm::L))=Ao nm (ym (qM nm::L) true (L.length+1) [] 1):=by
 have hc:∀t∈qM nm::L,j5 t:=by
  intro t ht;rcases ca.1 ht with rfl|ht
  .exact gD fun w hw=>IA (Rt hn w hw)
  .exact hL t ht
 have hh:gV (qM nm)=some nm:=by
  grind [gV,qM,kA,Rt]
 grind [Tq,RN]
def Kg {nm:au}{es:List cw}(h:∀x∈es,B4 x)(hs:kg ⟨nm,es⟩=true)(hl:(iM ⟨nm,es⟩).length<=524288):Tq (iM ⟨nm,es⟩)=(⟨nm,es⟩,0,0):=by
 have hn:dK nm=true:=by
  grind [kg]
 rw[H2 h]at hl⊢;rw[Pg hn (Vh h) hl];have hk:es.length<=(gb es).length+1:=by
  have:∀es:List cw,es.length<=(gb es).length:=by
   intro es;induction es with
   |nil=>exact aL _
   |cons x r ih=>simp only[gb,List.map_cons,List.flatten_cons,bP,aP,iU]at ih⊢;omega
  have:=this es;omega
 obtain⟨f,hf⟩:∃f,(gb es).length+1=es.length+f:=⟨(gb es).length+1-es.length,ae⟩
 have:=K2 (rest:=es) (L:=qM nm::gb es) (pre:=[qM nm]) (R:=[]) (es:=[]) (nm:=nm) f (by simpa using h) (by simpa using hs) aJ (.inl rfl);simp only[aP,a8,fe]at this;rw[hf,this];have he:ym (qM nm::gb es) true f es ([qM nm]++gb es).length=(es,0,0):=by
  cases f with
  |zero=>rfl
  |succ f=>rw[ym,ak aJ]
 rw[he];simp[Ao]
end Go.Abs
namespace Go.Abs
variable {Y:Ctx}(hm:(Y.at 0).b7)
def m9:au:=[111,110,101]
def NW:au:=[115,104,101,108,102,32,111,110,101,10]
def IP:au:=[115,104,101,108,102,32,111,110,101,10,101,110,116,114,121,32,48,32,111,110,10]
def aws_p:iV ⟨m9,[]⟩=(NW,0):=by decide+kernel
def aws_1:gS NW=(⟨m9,[]⟩,0,0):=by decide+kernel
def Wv:(gS IP).2=(2,2):=by decide+kernel
def Yd:(cC NW).length=1:=by decide+kernel
def QJ:(cC IP).length=2/\(iF (cC IP)[1]!).2.2=false:=by decide+kernel
def Ye:noE NW:=fun i h1 h2=>by rw[Yd]at h2;omega
def Yf:noE IP:=fun i h1 h2=>by
 rw[QJ.1]at h2;obtain rfl:i=1:=ae;exact QJ.2
end Go.Abs
end
namespace Go.Abs
variable {Y:Ctx}(hm:(Y.at 0).b7)
def Yr {a b:cw}(h:(a.sum=b.sum/\a.r=b.r)/\a.off=b.off):a=b:=by cases a;cases b;simp_all
def Zi {a b:fP}(h1:a.name=b.name)(h2:a.es.length=b.es.length)(h:∀j,j<a.es.length->a.es[j]! =b.es[j]!):a=b:=by
 cases a;cases b;simp only at h1 h2 h;rw[fP.mk.injEq];refine⟨h1,List.ext_getElem h2 fun j a b=>?_⟩;have:=h j a
 rwa [getElem!_pos _ j a,getElem!_pos _ j b]at this
def oG (s:fP)(r:Rec):List cw:=s.es++[⟨r,mP r,false⟩]
def PutQ (s:fP)(r:Rec):D->List (Nat×bW)->Prop:=fun d m=>(¬(na s r).2=0/\d=.tup [.agg [.str [],.bq],.int .i64 (na s r).2])\/
 ((na s r).2=0/\∃j,d=.tup [.agg [.str s.name,.own j 11 0 (oG s r).length],.int .i64 0]/\look m j=some (.buf 11 ((oG s r).map cw.D)))
def Rn {nm:au}(hn:dK nm=true)(l:List Int)(i:Int){k:Nat}(hk:k<64):(na ⟨nm,yk l i k⟩ (pI l i k)).2=if 0<=tj (yk l i k) (pI l i k).name (pI l i k).v 0 then 8 else 0:=by
 have h1:=Ew hn l i k ae;have h2:=(Ev l i k).1;have h3:=vl l i k;unfold na;rw[ak (by rw[h1];simp),ak (fun h=>h h2)];split
 .rfl
 .rw[ak (show ¬64<=(yk l i k).length by omega)]
def UO {nm:au}(hn:dK nm=true){l:List Int}{i:Int}{k:Nat}(hk:k<64)(h:(na ⟨nm,yk l i k⟩ (pI l i k)).2=0):yk l i (k+1)=yk l i k++[⟨pI l i k,mP (pI l i k),gEY l i k⟩]:=by
 rw[Rn hn l i hk]at h;split at h
 .cases h
 .rename_i h1;rw[yk,ak h1]
def Yx {nm:au}(hn:dK nm=true){l:List Int}{i:Int}{k:Nat}(hk:k<64)(h:¬(na ⟨nm,yk l i k⟩ (pI l i k)).2=0):yk l i (k+1)=yk l i k:=by
 rw[Rn hn l i hk]at h;split at h
 .rename_i h1;rw[yk,aw h1]
 .exact absurd rfl h
def stY (es:List cw)(x:cw)(b:Bool):((es++[x]).map cw.D).set es.length (vD (((es++[x]).map cw.D).getD es.length .any) 11 1 10 (.bool b))=(es++[{x with off:=b}]).map cw.D:=by
 rw[List.map_append,List.map_cons,List.map_nil,mI _ _ _ _ aJ,pY _ _ _ _ aJ,List.map_append];rfl
def KW {l:List Int}{i:Int}{nm:au}{n:Nat}:∀x∈(B2 l i nm n).es,B4 x:=yH l i _
def UR {l:List Int}{i:Int}{nm:au}{n:Nat}:(B2 l i nm n).es.length<=n:=by
 have h1:=vl l i (fV l i ((n:Int)+1)).toNat;have h2:=dN l i ((n:Int)+1) ae;show(yk l i _).length<=n;omega
def vo {l:List Int}{i:Int}{nm:au}{n:Nat}(hn:dK nm=true)(h:n<=64):kg (B2 l i nm n)=true:=by
 have h2:=dN l i ((n:Int)+1) ae;exact Ew hn l i _ ae
def Pa {s:fP}(h:kg s=true):iV s=(iM s,0):=by unfold iV;rw[ak (by rw[h];simp)]
def DS {s:fP}(h:kg s=true):(iM s).length<=524288:=by
 obtain⟨h1,h2⟩:=Fj h;have:=yZ (s:=s) ae (aL _);rw[Ft]at this;omega
def Rq {l:List Int}{i:Int}{nm:au}{n:Nat}(hn:dK nm=true)(h:n<=64):gS (iM (B2 l i nm n))=(B2 l i nm n,0,0):=by
 rw[VH];exact Kg (nm:=nm) (es:=(B2 l i nm n).es) (KW (nm:=nm)) (vo hn h) (DS (vo hn h))
def AY:dK m9=true:=by decide+kernel
structure ShG (s:fP)(n:Nat):Prop where
 b:kg s=true
 m:∀x∈s.es,fA x.r
 p:iV s=(iM s,0)
 r:gS (iM s)=(s,0,0)
 l:(iM s).length<=524288
 n:s.es.length<=n
 o:s.name=m9
def gSh_G (l:List Int)(i:Int){n:Nat}(h:n<=64):ShG (B2 l i m9 n) n:=
 ⟨vo AY h,fun x hx=>(KW (nm:=m9) x hx).m,Pa (vo AY h),Rq AY h,DS (vo AY h),UR,rfl⟩
def Up (s:au)(i:Nat):0<=at8 s i/\at8 s i<256:=by
 unfold at8;have:=(s.getD i 0).toNat_lt;omega
def Gz {c:Int}(h:jz c=true):0<=qU c/\qU c<16:=by
 unfold jz at h;unfold qU;split
 .rename_i h1;unfold bn at h1;simp only[bB,aK]at h1;omega
 .rename_i h1;simp only[h1,Bool.false_or,bB,aK,Bool.not_eq_true]at h;simp only[Bool.not_eq_true]at h1;omega
def Dn {t:au}(h:(cA t).2.1=0):eZ (cA t).1.v=true:=by
 unfold cA at h⊢;split
 .rename_i h1;rw[aw h1]at h;cases h
 .rename_i h1;rw[ak h1]at h;simp only at h⊢;split
  .rename_i h2;rw[aw h2]at h;cases h
  .rename_i h2;rw[ak h2]at h;split
   .rename_i h3;rw[aw h3]at h;exact absurd h h3
   .rename_i h3;exact(oN (Classical.not_not.1 h3)).1.2
def L1 {r:Rec}{x:cw}(h1:eZ x.r.v=true)(h2:eZ r.v=true):T2 r x=(decide (x.r.name=r.name)&&AX x.r.v r.v):=by
 unfold T2 AX;rw[h1,h2];simp
def ZJ (nm:au)(es:List cw)(x:cw)(t:au):D->List (Nat×bW)->Prop:=fun d m=>(¬(gB es t x.sum x.off).1=0/\d=.int .i64 (gB es t x.sum x.off).1/\look m 0=some (.buf 2 [.agg [.str nm,.own 1 11 0 es.length]])/\look m 1=some (.buf 11 (es.map cw.D)))\/
 ((gB es t x.sum x.off).1=0/\d=.int .i64 0/\∃j,2<=j/\look m 0=some (.buf 2 [.agg [.str nm,.own j 11 0 (gB es t x.sum x.off).2.length]])/\look m j=some (.buf 11 ((gB es t x.sum x.off).2.map cw.D)))
def TI (es:List cw):Prop:=∀x∈es,x.r.v.sm/\eZ x.r.v=true
def FZ {es:List cw}{t:au}{n:Int}{off:Bool}(h:(gB es t n off).1=0)(he:TI es):TI (gB es t n off).2/\(gB es t n off).2.length<=64:=by
 unfold gB at h⊢;split
 .rename_i h1;rw[aw h1]at h;exact absurd h h1
 .rename_i h1;rw[ak h1]at h;split
  .rename_i h2;rw[aw h2]at h;exact absurd h h2
  .rename_i h2;have h3:=CV (Classical.not_not.1 h2);refine⟨fun x hx=>?_,by simp only[bP,aP,a8];omega⟩;rcases List.mem_append.1 hx with hx|hx
   .exact he x hx
   .rw[cI.1 hx];exact⟨(Bl t).1.2,Dn (Classical.not_not.1 h1)⟩
def join_one {l:List au}(h:l≠[]):aS [10] l++[10]=jx l:=by
 rw[<-AB];induction l with
 |nil=>exact absurd rfl h
 |cons a r ih=>
  match r with
  |[]=>simp[aS]
  |b::q=>
   have:=ih aJ;simp only[fB,aS,eu]at this⊢;rw[this]
def vw {s:au}{i:Nat}(h:i<(az s).1.length):(az s).1[i]!.length<=s.length+1:=by
 have h1:=yS (s:=s) (i:=i) (by rw[jX];exact h);rw[EV h,bP]at h1;omega
def Lg {s:au}{a b:Nat}(h:s.length<=524288):(aS [10] (slice (az s).1 a b)).length<=1099511627770:=by
 have h1:=lW 10 524290 (slice (az s).1 a b) (fun t ht=>by
  obtain⟨i,hi,rfl⟩:=List.getElem_of_mem (DB ht);have:=vw hi;rw[getElem!_pos _ i hi]at this;omega)
 have h2:(slice (az s).1 a b).length<=s.length+1:=by
  have:=Hb s;rw[jX]at this;simp only[slice,jO,er];omega
 have:=fk (524290+1) h2;have:=fk (524290+1) (show s.length+1<=524289 by omega);omega
def Sv {s:au}(h:¬524288<s.length)(h1:(az s).1.length=0\/((az s).1.length=1/\(az s).2=false)):gS s=(oI,2,1):=by
 by_cases h0:(az s).1.length=0
 .exact Dz h (by rw[jX];exact h0)
 .obtain⟨h2,h3⟩:(az s).1.length=1/\(az s).2=false:=h1.resolve_left h0;unfold gS;rw[ak h,ak (by rw[jX];exact h0),Ez ae,ak (by simp[jN,h2,h3])]
def Su {s:au}(h:¬524288<s.length)(h1:¬((az s).1.length=0\/((az s).1.length=1/\(az s).2=false))):
  gS s=if(gV (az s).1[0]!).isSome=true then Ao ((gV (az s).1[0]!).getD []) (ow (cC s) [] 1)else(oI,2,1):=by
 have h0:¬(az s).1.length=0:=fun h=>h1 (.inl h)
 have hw:jN (az s).1 (az s).2 0=true:=by
  unfold jN;cases h2:(az s).2 with
  |true=>rfl
  |false=>simp only[Bool.false_or,aK];have:¬(az s).1.length=1:=fun h=>h1 (.inr ⟨h,h2⟩);omega
 unfold gS;rw[ak h,ak (by rw[jX];exact h0),Ez ae,aw hw,<-Dt];cases gV (az s).1[0]! <;>rfl
def PG {s:au}{es:List cw}{i:Nat}(h:i<(az s).1.length)(h1:(fN (az s).1[i]!).2.2=false\/((az s).2=false/\(i:Int)=((az s).1.length:Int) -1)):ow (cC s) es i=([],2,(i:Int)+1):=by
 refine Bt (by rw[jX];exact h) ?_;rw[En h];split
 .rename_i hw;rcases h1 with h1|⟨h1,h2⟩
  .exact h1
  .exfalso;simp only[jN,h1,Bool.false_or,aK]at hw;omega
 .rfl
def Tj {s:au}{es:List cw}{i:Nat}(h:i<(az s).1.length)(h1:(fN (az s).1[i]!).2.2=true/\((az s).2=true\/¬(i:Int)=((az s).1.length:Int) -1)){j:Nat}(hj:AW (az s).1 (i+1)=j):
  ow (cC s) es i=if ¬(gB es (jE (slice (az s).1 (i+1) j) ((az s).2 ||decide (j<(az s).1.length))) (fN (az s).1[i]!).1 (fN (az s).1[i]!).2.1).1=0 then([],(gB es (jE (slice (az s).1 (i+1) j) ((az s).2 ||decide (j<(az s).1.length))) (fN (az s).1[i]!).1 (fN (az s).1[i]!).2.1).1,(i:Int)+1)
   else ow (cC s) (gB es (jE (slice (az s).1 (i+1) j) ((az s).2 ||decide (j<(az s).1.length))) (fN (az s).1[i]!).1 (fN (az s).1[i]!).2.1).2 j:=by
 have hw:jN (az s).1 (az s).2 i=true:=by
  unfold jN;rcases h1.2 with h2|h2
  .rw[h2];rfl
  .rw[cM,aK];right;omega
 have he:iF (cC s)[i]! =fN (az s).1[i]! :=by rw[En h,aw hw]
 have:=Ds (P:=cC s) (es:=es) (i:=i) (by rw[jX];exact h) (by rw[he];exact h1.1);have h4:i+1<=j/\j<=(az s).1.length:=by
  rw[<-hj];exact⟨yU _ _ _,LR _ ae⟩
 rw[R8,hj,he,KN h4.1 h4.2]at this;exact this
def UZ {t:au}(h:(¬((ai t 32).length:Int)=2\/¬(ai t 32)[0]! =fL)\/dK (ai t 32)[1]! =false):gV t=none:=by
 refine ak ?_;rintro⟨⟨h1,h2⟩,h3⟩;rcases h with(h|h)|h
 .omega
 .exact h h2
 .rw[h3]at h;cases h
def Ru {t:au}(h:(((ai t 32).length:Int)=2/\(ai t 32)[0]! =fL)/\dK (ai t 32)[1]! =true):gV t=some (ai t 32)[1]! /\(ai t 32).length=2:=
 ⟨aw ⟨⟨ae,h.1.2⟩,h.2⟩,ae⟩
def UC {t:au}(h:(¬((ai t 32).length:Int)=3\/¬(ai t 32)[0]! =gx)\/¬(ai t 32)[2]! =TJ/\¬(ai t 32)[2]! =uE):fN t=(0,false,false):=by
 refine ak ?_;unfold tq;simp only[bB,cM,aK];rintro⟨⟨h1,h2⟩,h3⟩;rcases h with(h|h)|h
 .omega
 .exact h h2
 .exact h3.elim h.1 h.2
def Q5 {t:au}(h:(((ai t 32).length:Int)=3/\(ai t 32)[0]! =gx)/\((ai t 32)[2]! =TJ\/(ai t 32)[2]! =uE)):fN t=(oT (ai t 32)[1]!,decide ((ai t 32)[2]! =uE),iI (ai t 32)[1]!)/\(ai t 32).length=3:=by
 have h3:(ai t 32).length=3:=ae;refine⟨aw ?_,h3⟩;unfold tq;simp only[bB,cM,aK];exact⟨⟨h3,h.1.2⟩,h.2⟩
def ME (T:List D->D->Prop):Prop:=∀(s:au),(s.length<=1048576)->T [.str s,.str [10],.int .i64 1,.int .i64 (-1)] (.sl 1 ((jC s).map D.str))
def C331 (Y:Ctx):Prop:=ME (bx Y 331)
def Mp (T:List D->D->Prop):Prop:=∀(s:au),(s.length<=1048576)->T [.str s,.str [10]] (.tup [.str (bV s).1,.bool (bV s).2])
def ZX (Y:Ctx):Prop:=Mp (bx Y 244)
def TY (T:List D->D->Prop):Prop:=∀(s:au),(s.length<=1048576)->(noE s)->T [.str s] (.tup [fP.D (gS s).1,.int .i64 (gS s).2.1,.int .i64 (gS s).2.2])
def Wh (Y:Ctx):Prop:=TY (bx Y 86)
section
theorem vV {a b:Nat}(h:a≠b):Nat.beq a b=false:=by
 cases h2:Nat.beq a b with
 |false=>rfl
 |true=>exact absurd (Nat.eq_of_beq_eq_true h2) h
theorem Yg {a b:Nat}(h:Nat.beq a b=false):Nat.beq b a=false:=by grind [vV]
section
variable [dR] {P:Program} {ν:List (Nat×Nat)} {c7:List Nat} {t:List (Nat×qO)} {fid n key u k:Nat} {af:aC} {aoF:List D} {nx:Nat} {m:List (Nat×bW)} {K:D->St->Prop}
def P2 {a:D}{k q i:Nat}{es:List D}{m1:List (Nat×bW)}(ha:a.bI=true)(hes:bG es=true)(hmix:P.follows .mixedOrders=true)(hC:KB P ν c7 fid af)(hnp:1=af.np)
  (hl:look m1 q=some (.buf k es)) (hK:K (.own nx k 0 i) ⟨nx+1,(nx,.buf k es)::m⟩) (hw:bJ ((under t key u).at 0) af.body (jQ af (One (.own q k 0 i) m1)) (fD af [a]) ⟨0,[]⟩):oL P ν c7 (under t key u) fid [a] ⟨nx,m⟩ K:=by
 refine xF (σi:=[]) (m0:=[]) (cs:=[a]) (fun q=>vH t key u q) hmix hC rfl ?_ hnp rfl (fun _ _ h=>by cases h) (fun _ _ h=>by cases h) hw ?_
 .intro i hi
  match i,hi with
  |0,_=>exact .inl ⟨rfl,ha⟩
 .rintro d m2 ⟨rfl,rfl⟩;refine⟨[(q,nx)],q+1,_,.own nx k 0 i,⟨rfl, ?_,Nat.le_succ _,(fun _ _ h=>by cases h), ?_,(fun _ _ h=>by cases h), ?_⟩,.inr (.inl (by simp[qY,Co,lK])),hK⟩
  .simp[gI]
  .grind
  .intro l bb h;simp only[look]at h;split at h
   .rename_i e;subst e;obtain rfl:=bM h;exact .inl ⟨q,_,.head _,hl,rfl,.inl ⟨rfl,hes⟩⟩
   .rename_i hn;exact .inr ⟨by simp only[lT,ak hn],(fun _ h=>by cases h),h⟩
def WR {a0 a1 a2 a3 a4 b0 b1 b2 b3 b4 c:Nat}(ha:tQ a0 a1 a2 a3 a4=true)(hb:tQ b0 b1 b2 b3 b4=true)(hc:b0<c/\b1<c/\b2<c/\b3<c/\b4<c):gI 0 c [(a0,b0),(a1,b1),(a2,b2),(a3,b3),(a4,b4)]=true:=by
 simp only[tQ,bd,dd]at ha hb;obtain⟨⟨⟨⟨⟨⟨⟨⟨⟨x1,x2⟩,x3⟩,x4⟩,x5⟩,x6⟩,x7⟩,x8⟩,x9⟩,x10⟩:=ha;obtain⟨⟨⟨⟨⟨⟨⟨⟨⟨y1,y2⟩,y3⟩,y4⟩,y5⟩,y6⟩,y7⟩,y8⟩,y9⟩,y10⟩:=hb;obtain⟨c0,c1,c2,c3,c4⟩:=hc;have bt:∀{x:Nat},x<c->Nat.blt x c=true:=fun {x} h=>by simp[Nat.blt];omega
 have bl:∀{x:Nat},Nat.ble 0 x=true:=fun {x}=>aJ
 grind [gI,Yg]
def rd_rn {a0 a1 a2 a3 a4 b0 b1 b2 b3 b4:Nat}(ha:tQ a0 a1 a2 a3 a4=true):lK 0 [(a0,b0),(a1,b1),(a2,b2),(a3,b3),(a4,b4)] a0=some b0/\lK 0 [(a0,b0),(a1,b1),(a2,b2),(a3,b3),(a4,b4)] a1=some b1/\lK 0 [(a0,b0),(a1,b1),(a2,b2),(a3,b3),(a4,b4)] a2=some b2/\lK 0 [(a0,b0),(a1,b1),(a2,b2),(a3,b3),(a4,b4)] a3=some b3/\lK 0 [(a0,b0),(a1,b1),(a2,b2),(a3,b3),(a4,b4)] a4=some b4:=by
 simp only[tQ,bd,dd]at ha;obtain⟨⟨⟨⟨⟨⟨⟨⟨⟨x1,x2⟩,x3⟩,x4⟩,x5⟩,x6⟩,x7⟩,x8⟩,x9⟩,x10⟩:=ha;simp only[lK,x1,x2,x3,x4,x5,x6,x7,x8,x9,x10,Nat.beq_refl,cond_true,cond_false,cN]
def rd_m {σ:List (Nat×Nat)}{m:List (Nat×bW)}{x:jg}{a0 a1 a2 a3 a4 b0 b1 b2 b3 b4:Nat}(h:Un m x a0 a1 a2 a3 a4)(ha:tQ a0 a1 a2 a3 a4=true)(hs:σ=[(a0,b0),(a1,b1),(a2,b2),(a3,b3),(a4,b4)]):
  ∀l b,look (X5 x b0 b1 b2 b3 b4) l=some b->∃i b',(i,l)∈σ/\look m i=some b'/\sB 0 σ b' b:=by
 obtain⟨r0,r1,r2,r3,r4⟩:=rd_rn (b0:=b0) (b1:=b1) (b2:=b2) (b3:=b3) (b4:=b4) ha;intro l b hl;rw[<-hs]at r0 r1 r2 r3 r4;have mem:(a0,b0)∈σ/\(a1,b1)∈σ/\(a2,b2)∈σ/\(a3,b3)∈σ/\(a4,b4)∈σ:=by subst hs;simp
 obtain⟨q0,q1,q2,q3,q4⟩:=mem;simp only[X5,look]at hl;split at hl
 .rename_i e;subst e;obtain rfl:=bM hl;exact⟨a0,_,q0,h.a0,rfl,.inr (.inl (by simp only[nR,ox,qY,Co,r1,r3,r4]))⟩
 .split at hl
  .rename_i e;subst e;obtain rfl:=bM hl;exact⟨a1,_,q1,h.a1,rfl,.inr (.inl (wL _ _ _ _ r2 _))⟩
  .split at hl
   .rename_i e;subst e;obtain rfl:=bM hl;exact⟨a2,_,q2,h.a2,rfl,.inl ⟨rfl,lO _⟩⟩
   .split at hl
    .rename_i e;subst e;obtain rfl:=bM hl;exact⟨a3,_,q3,h.a3,rfl,.inl ⟨rfl,br (fun _=>rfl) _⟩⟩
    .split at hl
     .rename_i e;subst e;obtain rfl:=bM hl;exact⟨a4,_,q4,h.a4,rfl,.inl ⟨rfl,br (fun _=>rfl) _⟩⟩
     .cases hl
def Ze {m:List (Nat×bW)}{j0 j1 j2 j3 j4 l:Nat}{b:bW}(h:look (FQ m j0 j1 j2 j3 j4) l=some b):(l≠j0/\l≠j1/\l≠j2/\l≠j3/\l≠j4)/\look m l=some b:=by
 simp only[FQ,fT]at h;split at h
 .cases h
 grind
def RS (a b:List (Nat×bW))(l:Nat):look (a++b) l=match look a l with
 |some x=>some x
 |none=>look b l:=by
 induction a with
 |nil=>rfl
 |cons p r ih=>
  grind [look]
def JF {a0 a1 a2 a3 a4 b0 b1 b2 b3 b4 p q:Nat}(h:(p,q)∈[(a0,b0),(a1,b1),(a2,b2),(a3,b3),(a4,b4)]):p=a0/\q=b0\/p=a1/\q=b1\/p=a2/\q=b2\/p=a3/\q=b3\/p=a4/\q=b4:=by
 grind
def r6 {x:jg}{out:Option jg}{j0 j1 j2 j3 j4:Nat}(has:bG aoF=true)(hmix:P.follows .mixedOrders=true)(hC:KB P ν c7 fid af)(hnp:aoF.length+1=af.np)
  (h1:Un m x j0 j1 j2 j3 j4) (h2:tQ j0 j1 j2 j3 j4=true) (h3:j0<nx/\j1<nx/\j2<nx/\j3<nx/\j4<nx) (hK:K (.bool out.isSome) ⟨nx+4,vP out j0 nx++FQ m j0 j1 j2 j3 j4⟩)
  (hw:bJ ((under t key u).at 5) af.body (jQ af (X6 out)) (fD af (.ptr 0 10 0 0::aoF)) ⟨5,X5 x 0 1 2 3 4⟩):oL P ν c7 (under t key u) fid (.ptr j0 10 0 0::aoF) ⟨nx,m⟩ K:=by
 have g3:gI 0 5 [(j0,0),(j1,1),(j2,2),(j3,3),(j4,4)]=true:=WR h2 rfl aF;have g4:∀l i,(l,i)∈[(j0,0),(j1,1),(j2,2),(j3,3),(j4,4)]->look m l≠none:=by
  intro l i h;rcases JF h with⟨rfl,_⟩|⟨rfl,_⟩|⟨rfl,_⟩|⟨rfl,_⟩|⟨rfl,_⟩
  .rw[h1.a0];simp
  .rw[h1.a1];simp
  .rw[h1.a2];simp
  .rw[h1.a3];simp
  .rw[h1.a4];simp
 have g5:=rd_m (b0:=0) (b1:=1) (b2:=2) (b3:=3) (b4:=4) h1 h2 rfl;refine xF (σi:=[(j0,0),(j1,1),(j2,2),(j3,3),(j4,4)]) (cs:=.ptr 0 10 0 0::aoF) (fun q=>vH t key u q) hmix hC aJ ?_ (by simpa using hnp) g3 g4 g5 hw ?_
 .intro i hi
  match i with
  |0=>exact .inr (.inl (by simp[qY,Co,lK]))
  |i+1=>exact .inl ⟨rfl,dq has i⟩
 have hoff:∀l b,look (FQ m j0 j1 j2 j3 j4) l=some b->(∀i,(l,i)∉[(j0,0),(j1,1),(j2,2),(j3,3),(j4,4)])/\look m l=some b:=by
  intro l b h;obtain⟨⟨e0,e1,e2,e3,e4⟩,hl⟩:=Ze h;refine⟨fun i hi=>?_,hl⟩;rcases JF hi with⟨h,_⟩|⟨h,_⟩|⟨h,_⟩|⟨h,_⟩|⟨h,_⟩<;>contradiction
 rintro d m1 ⟨rfl,hy⟩;cases out with
 |none=>
  refine⟨[],5,_,.bool false,⟨g3,by simp[gI],(Nat.le_add_right _ _:nx<=nx+4),g4,(fun _ _ h=>by cases h),g5, ?_⟩,.inl ⟨rfl,rfl⟩,hK⟩;intro l b h;obtain⟨k1,k2⟩:=hoff l b h;exact .inr ⟨rfl,k1,k2⟩
 |some y=>
  obtain⟨a1,a2,a3,a4,hf,hat⟩:=hy y rfl;have hg:tQ j0 nx (nx+1) (nx+2) (nx+3)=true:=by
   simp only[tQ,bd,dd];refine⟨⟨⟨⟨⟨⟨⟨⟨⟨?_, ?_⟩, ?_⟩, ?_⟩, ?_⟩, ?_⟩, ?_⟩, ?_⟩, ?_⟩, ?_⟩<;>exact vV ae
  refine⟨[(0,j0),(a1,nx),(a2,nx+1),(a3,nx+2),(a4,nx+3)],5+a1+a2+a3+a4,_,.bool true,⟨g3,WR hf hg dE,(Nat.le_add_right _ _:nx<=nx+4),g4, ?_,g5, ?_⟩,.inl ⟨rfl,rfl⟩,hK⟩
  .intro i l h;rcases JF h with⟨rfl,rfl⟩|⟨rfl,rfl⟩|⟨rfl,rfl⟩|⟨rfl,rfl⟩|⟨rfl,rfl⟩
   .exact .inl (.head _)
   all_goals exact .inr dE
  .intro l b h;dsimp only at h;rw[RS]at h;cases hl:look (vP (some y) j0 nx) l with
   |some c=>
    rw[hl]at h;obtain rfl:=bM h;exact .inl (rd_m hat hf rfl l c hl)
   |none=>
    rw[hl]at h;obtain⟨k1,k2⟩:=hoff l b h;refine .inr ⟨?_,k1,k2⟩;simp only[vP,X5,look]at hl;split at hl
    .cases hl
    .rename_i e0;split at hl
     .cases hl
     .rename_i e1;split at hl
      .cases hl
      .rename_i e2;split at hl
       .cases hl
       .rename_i e3;split at hl
        .cases hl
        .rename_i e4;simp only[lT,ak e0,ak e1,ak e2,ak e3,ak e4,ak (Ne.symm e0),ak (Ne.symm e1),ak (Ne.symm e2),ak (Ne.symm e3),ak (Ne.symm e4)]
end
end
section
section
variable [dR] {P:Program} {ν:List (Nat×Nat)} {c7:List Nat} {t:List (Nat×qO)} {fid n key u k:Nat} {af:aC} {nx:Nat} {m:List (Nat×bW)} {K:D->St->Prop}
def SK {s:fP}{r:Rec}(hmix:P.follows .mixedOrders=true)(hC:KB P ν c7 fid af)(hnp:2=af.np)
  (hK1:¬(na s r).2=0->K (.tup [.agg [.str [],.bq],.int .i64 (na s r).2]) ⟨nx,m⟩)
  (hK2:(na s r).2=0->K (.tup [.agg [.str s.name,.own nx 11 0 (oG s r).length],.int .i64 0]) ⟨nx+1,(nx,.buf 11 ((oG s r).map cw.D))::m⟩)
  (hw:bJ ((under t key u).at 0) af.body (jQ af (PutQ s r)) (fD af [s.D,r.D]) ⟨0,[]⟩):oL P ν c7 (under t key u) fid [s.D,r.D] ⟨nx,m⟩ K:=by
 refine xF (σi:=[]) (m0:=[]) (cs:=[s.D,r.D]) (fun q=>vH t key u q) hmix hC rfl ?_ hnp rfl (fun _ _ h=>by cases h) (fun _ _ h=>by cases h) hw ?_
 .intro i hi
  match i,hi with
  |0,_=>exact .inl ⟨rfl,rfl⟩
  |1,_=>exact .inl ⟨rfl,rfl⟩
 .rintro d m1 (⟨h,rfl⟩|⟨h,j,rfl,hj⟩)
  .exact⟨[],0,_,_,⟨rfl,rfl,aL _,(fun _ _ h=>by cases h),(fun _ _ h=>by cases h),(fun _ _ h=>by cases h),fun l b h=>.inr ⟨rfl,(fun _ h=>by cases h),h⟩⟩,.inl ⟨rfl,rfl⟩,hK1 h⟩
  .refine⟨[(j,nx)],j+1,_,_,⟨rfl, ?_,Nat.le_succ _,(fun _ _ h=>by cases h), ?_,(fun _ _ h=>by cases h), ?_⟩,.inr (.inl (by simp[qY,ox,Co,lK])),hK2 h⟩
   .simp[gI]
   .intro i l h;obtain⟨rfl,rfl⟩:=Prod.mk.inj (cI.1 h);exact .inr (aL _)
   .intro l bb h;simp only[look]at h;split at h
    .rename_i e;subst e;obtain rfl:=bM h;exact .inl ⟨j,_,.head _,hj,rfl,.inl ⟨rfl,br (fun _=>rfl) _⟩⟩
    .rename_i hn;exact .inr ⟨by simp only[lT,ak hn],(fun _ h=>by cases h),h⟩
def QC {nm t':au}{es:List cw}{y:cw}{lp ln:Nat}(hmix:P.follows .mixedOrders=true)(hC:KB P ν c7 fid af)(hnp:3=af.np)
  (h1:look m lp=some (.buf 2 [.agg [.str nm,.own ln 11 0 es.length]])) (h2:look m ln=some (.buf 11 (es.map cw.D))) (h3:lp<nx) (h4:ln<nx)
  (hK1:¬(gB es t' y.sum y.off).1=0->K (.int .i64 (gB es t' y.sum y.off).1) ⟨nx,m⟩)
  (hK2:(gB es t' y.sum y.off).1=0->K (.int .i64 0) ⟨nx+1,(nx,.buf 11 ((gB es t' y.sum y.off).2.map cw.D))::dG (cH m ln) lp (.buf 2 [.agg [.str nm,.own nx 11 0 (gB es t' y.sum y.off).2.length]])⟩)
  (hw:bJ ((under t key u).at 2) af.body (jQ af (ZJ nm es y t')) (fD af [.ptr 0 2 0 0,y.D,.str t']) ⟨2,[(0,.buf 2 [.agg [.str nm,.own 1 11 0 es.length]]),(1,.buf 11 (es.map cw.D))]⟩):oL P ν c7 (under t key u) fid [.ptr lp 2 0 0,y.D,.str t'] ⟨nx,m⟩ K:=by
 have hne:lp≠ln:=by
  rintro rfl;rw[h1]at h2;exact absurd (bW.buf.inj (bM h2)).1 aF
 have hb:=vV hne;have hb':=vV hne.symm;have hes:bG (es.map cw.D)=true:=br (fun _=>rfl) _;have g3:gI 0 2 [(lp,0),(ln,1)]=true:=by simp[gI,hb,hb'];rfl
 have g4:∀l i,(l,i)∈[(lp,0),(ln,1)]->look m l≠none:=fun l i h=>by
  rcases ca.1 h with h|h
  .obtain⟨rfl,rfl⟩:=Prod.mk.inj h;rw[h1];simp
  .obtain⟨rfl,rfl⟩:=Prod.mk.inj (cI.1 h);rw[h2];simp
 have g5:∀i bb,look [(0,.buf 2 [.agg [.str nm,.own 1 11 0 es.length]]),(1,.buf 11 (es.map cw.D))] i=some bb->∃l b',(l,i)∈[(lp,0),(ln,1)]/\look m l=some b'/\sB 0 [(lp,0),(ln,1)] b' bb:=fun i bb h=>by
  simp only[look]at h;split at h
  .rename_i e;subst e;obtain rfl:=bM h;exact⟨lp,_,.head _,h1,rfl,.inr (.inl (by simp[ox,qY,Co,lK,hb]))⟩
  .split at h
   .rename_i e;subst e;obtain rfl:=bM h;exact⟨ln,_,.tail _ (.head _),h2,rfl,.inl ⟨rfl,hes⟩⟩
   .cases h
 refine xF (σi:=[(lp,0),(ln,1)]) (cs:=[.ptr 0 2 0 0,y.D,.str t']) (fun q=>vH t key u q) hmix hC rfl ?_ hnp g3 g4 g5 hw ?_
 .intro i hi
  match i,hi with
  |0,_=>exact .inr (.inl (by simp[qY,Co,lK]))
  |1,_=>exact .inl ⟨rfl,rfl⟩
  |2,_=>exact .inl ⟨rfl,rfl⟩
 .rintro d m1 (⟨h,rfl,e0,e1⟩|⟨h,rfl,j,hj,e0,ej⟩)
  .refine⟨[(0,lp),(1,ln)],2,_,_,⟨g3, ?_,aL _,g4, ?_,g5, ?_⟩,.inl ⟨rfl,rfl⟩,hK1 h⟩
   .simp[gI,hb,hb'];exact⟨h3,rfl,h4⟩
   .intro i l h;rcases ca.1 h with h|h
    .obtain⟨rfl,rfl⟩:=Prod.mk.inj h;exact .inl (.head _)
    .obtain⟨rfl,rfl⟩:=Prod.mk.inj (cI.1 h);exact .inl (.tail _ (.head _))
   .intro l bb h;simp only at h;by_cases x1:l=lp
    .subst x1;rw[h1]at h;obtain rfl:=bM h;exact .inl ⟨0,_,.head _,e0,rfl,.inr (.inl (by simp only[ox,qY,Co,show lK 0 [(0,l),(1,ln)] 1=some ln from rfl]))⟩
    .by_cases x2:l=ln
     .subst x2;rw[h2]at h;obtain rfl:=bM h;exact .inl ⟨1,_,.tail _ (.head _),e1,rfl,.inl ⟨rfl,hes⟩⟩
     .exact .inr ⟨by simp only[lT,ak (fun e=>x1 (Eq.symm e)),ak (fun e=>x2 (Eq.symm e))],(fun i hi=>by
       rcases ca.1 hi with hi|hi
       .exact x1 (Prod.mk.inj hi).1
       .exact x2 (Prod.mk.inj (cI.1 hi)).1),h⟩
  .have hj0:Nat.beq j 0=false:=by cases j<;>first|omega|rfl
   have h0j:Nat.beq 0 j=false:=by cases j<;>first|omega|rfl
   have hl1:Nat.beq lp nx=false:=vV ae;have hl2:Nat.beq nx lp=false:=vV ae;refine⟨[(0,lp),(j,nx)],j+1,_,_,⟨g3, ?_,Nat.le_succ _,g4, ?_,g5, ?_⟩,.inl ⟨rfl,rfl⟩,hK2 h⟩
   .simp[gI,hj0,h0j,hl1,hl2];omega
   .intro i l h;rcases ca.1 h with h|h
    .obtain⟨rfl,rfl⟩:=Prod.mk.inj h;exact .inl (.head _)
    .obtain⟨rfl,rfl⟩:=Prod.mk.inj (cI.1 h);exact .inr (aL _)
   .intro l bb h;simp only[look]at h;split at h
    .rename_i e;subst e;obtain rfl:=bM h;exact .inl ⟨j,_,.tail _ (.head _),ej,rfl,.inl ⟨rfl,br (fun _=>rfl) _⟩⟩
    .rename_i hln;rw[cJ]at h;split at h
     .rename_i e;subst e;obtain rfl:=bM h;exact .inl ⟨0,_,.head _,e0,rfl,.inr (.inl (by simp[ox,qY,Co,lK,h0j]))⟩
     .rename_i hlp;rw[fT]at h;split at h
      .cases h
      .rename_i hl2;refine .inr ⟨by simp only[lT,ak (fun e=>hlp (Eq.symm e)),ak hln],fun i hi=>?_,h⟩;rcases ca.1 hi with hi|hi
       .exact hlp (Prod.mk.inj hi).1
       .exact hl2 (Prod.mk.inj (cI.1 hi)).1
end
end
noncomputable def Jk:aC:=cP 17
def w478 {Y:Ctx}(hm:(Y.at 0).b7)  (v:Int)(n:Int)  (hp0:0<n/\n<=9223372036854775807):dh Y Jk (.int .i64 (v%n)) [.int .i64 v,.int .i64 n]:=by
 show bJ _ _ _ [⟨_,_⟩,⟨_,_⟩,_,_,_] _;refine ar ?_;refine aE ?_;refine LI (v.tmod n) (hn:=by intro _;omega) (hb:=fun _=>rfl) ?_;have ht:=Kv v n ae;refine aZ ?_;refine cF (fun hc0=>?_) fun hc0=>?_
 .refine fH ?_;refine cX ?_;exact VB hp0.1 hc0
 refine aD ?_;refine cX ?_;exact VC hp0.1 hc0
def MU (T:List D->D->Prop):Prop:=∀(v:Int) (n:Int),(0<n/\n<=9223372036854775807)->T [.int .i64 v,.int .i64 n] (.int .i64 (v%n))
def NG (Y:Ctx):Prop:=MU (bx Y 478)
noncomputable def Vg:aC:=cP 79
def w479 {Y:Ctx}(hm:(Y.at 0).b7)  (l:List Int)(i:Int)   :dh Y Vg (.int .i64 (kI l i)) [.sl 1 (l.map (D.int .i64)),.int .i64 i]:=by
 show bJ _ _ _ [⟨_,_⟩,⟨_,_⟩,_,_] _;refine ar ?_;refine cZ ?_;refine ik ?_;refine ay ?_;refine cF (fun hc0=>?_) fun hc0=>?_
 .refine aE ?_;refine cX ?_;simp only[kI];rw[aw hc0]
 refine aB ?_;refine SR ?_;refine aB ?_;refine cX ?_;simp only[kI];rw[ak ae]
def MV (T:List D->D->Prop):Prop:=∀(l:List Int) (i:Int),T [.sl 1 (l.map (D.int .i64)),.int .i64 i] (.int .i64 (kI l i))
def Ua (Y:Ctx):Prop:=MV (bx Y 479)
noncomputable def OG:aC:=cP 44
def w228 {Y:Ctx}(hm:(Y.at 0).b7)(h478:NG Y)(h479:Ua Y)(l:List Int)(i:Int)(n:Int)  (hp0:0<n/\n<=9223372036854775807):dh Y OG (.int .i64 (fV l i n)) [.sl 1 (l.map (D.int .i64)),.int .i64 i,.int .i64 n]:=by
 show bJ _ _ _ [⟨_,_⟩,⟨_,_⟩,⟨_,_⟩,_] _;refine ar ?_;refine aE ?_;refine aq (hc:=h479 l i) ?_;refine aA ?_;refine aq (hc:=h478 _ n hp0) ?_;refine ay ?_;exact cX rfl
def Mi (T:List D->D->Prop):Prop:=∀(l:List Int) (i:Int) (n:Int),(0<n/\n<=9223372036854775807)->T [.sl 1 (l.map (D.int .i64)),.int .i64 i,.int .i64 n] (.int .i64 (fV l i n))
def IH (Y:Ctx):Prop:=Mi (bx Y 228)
noncomputable def OH:aC:=cP 50
def w227 {Y:Ctx}(hm:(Y.at 0).b7)(h478:NG Y)(n:Int)   :dh Y OH (.str (ff n)) [.int .i64 n]:=by
 show bJ _ _ _ [⟨_,_⟩,_] _;refine ar ?_;refine ay ?_;have hr:=kq n 5 aF;refine de (R4.map D.str) ?_;refine aA ?_;refine aq (hc:=h478 n 5 aF) ?_;refine LH (n%5).toNat (.str R4[(n%5).toNat]!) (hj:=fun _=>ae) (hb:=fun _=>ae) (hv:=fun _=>uW R4 (by show _<5;omega)) ?_;refine ay ?_;exact c9 rfl
def Mh (T:List D->D->Prop):Prop:=∀(n:Int),T [.int .i64 n] (.str (ff n))
def W6 (Y:Ctx):Prop:=Mh (bx Y 227)
noncomputable def OL:aC:=cP 90
def w481 {Y:Ctx}(hm:(Y.at 0).b7)(h478:NG Y)(n:Int)   :dh Y OL (.str (mH n)) [.int .i64 n]:=by
 show bJ _ _ _ [⟨_,_⟩,_] _;refine ar ?_;refine ay ?_;have hr:=kq n 4 aF;refine de (VZ.map D.str) ?_;refine aA ?_;refine aq (hc:=h478 n 4 aF) ?_;refine LH (n%4).toNat (.str VZ[(n%4).toNat]!) (hj:=fun _=>ae) (hb:=fun _=>ae) (hv:=fun _=>uW VZ (by show _<4;omega)) ?_;refine ay ?_;exact c9 rfl
def MX (T:List D->D->Prop):Prop:=∀(n:Int),T [.int .i64 n] (.str (mH n))
def Xo (Y:Ctx):Prop:=MX (bx Y 481)
noncomputable def RL:aC:=cP 52
def w230 {Y:Ctx}(hm:(Y.at 0).b7)(h228:IH Y)(h482:Ub Y)(l:List Int)(i:Int)  (hp0:0<=i/\i<=4000000):dh Y RL (.str (tW l i)) [.sl 1 (l.map (D.int .i64)),.int .i64 i]:=by
 show bJ _ _ _ [⟨_,_⟩,⟨_,_⟩,_,_,_,_] _;refine ar ?_;refine ay ?_;refine de (JB.map (D.int .i64)) ?_;refine aA ?_;refine aI (.agg (JB.map (D.int .i64))) (he:=aQ) ?_;refine ax ?_;have hr:=dN l i 6 aF;refine ax ?_;refine aq (hc:=h228 l (i) 6 aF) ?_;refine rX (fV l i 6).toNat (hj:=fun _=>ae) (hb:=fun _=>ae) ?_;refine aT (v:=.int .i64 JB[(fV l i 6).toNat]!) (hv:=fun _=>Jn JB (by show _<6;omega) rfl) (ho:=ae) ?_;refine ay ?_;refine aq (hc:=h228 l (i+1) 3 aF) ?_;refine ay ?_;refine aq (hc:=h228 l (i+2) 2 aF) ?_;refine bg (cn.D (yj l i).v) ?_;refine bg (dH.D (yj l i)) ?_;refine aA ?_;refine aI (dH.D (yj l i)) (he:=aQ) ?_;refine aB ?_;refine aT (v:=.int .i64 (yj l i).op) ?_;refine ax ?_;refine cF (fun hc0=>?_) fun hc0=>?_
 .refine aE ?_;refine c9 ?_;unfold tW;rw[aw hc0]
 refine ax ?_;refine cz (d:=dH.D (yj l i)) ?_;refine aq (hc:=h482 (yj l i) (UE l i)) ?_;refine ay ?_;refine c9 ?_;unfold tW;rw[ak hc0]
def Mk (T:List D->D->Prop):Prop:=∀(l:List Int) (i:Int),(0<=i/\i<=4000000)->T [.sl 1 (l.map (D.int .i64)),.int .i64 i] (.str (tW l i))
def W7 (Y:Ctx):Prop:=Mk (bx Y 230)
noncomputable def OJ:aC:=cP 53
def w231 {Y:Ctx}(hm:(Y.at 0).b7)(h228:IH Y)(h481:Xo Y)(l:List Int)(i:Int)  (hp0:0<=i/\i<=4000000):dh Y OJ (.str (mF l i)) [.sl 1 (l.map (D.int .i64)),.int .i64 i]:=by
 show bJ _ _ _ [⟨_,_⟩,⟨_,_⟩,_,_,_] _;refine ar ?_;refine aE ?_;refine aq (hc:=h228 l (i) 6 aF) ?_;refine aZ ?_;refine av (fun hc0=>?_) (fun hc0=>?_)
 .try simp only[dn]at hc0
  refine aE ?_;refine c9 ?_;unfold mF;rw[aw hc0]
 simp only[bc]at hc0;have hr:=dN l i 6 aF;have hr2:=dN l (i+1) 2 aF;have hr3:=dN l (i+1) 3 aF;have hw:=wv (1+fV l (i+1) 3);have hk:=OE (fV l i 6).toNat ae;have he:=Q9 (fV l (i+1) 2).toNat ae;refine ax ?_;refine de (C6.map D.str) ?_;refine aA ?_;refine LH (fV l i 6).toNat (.str C6[(fV l i 6).toNat]!) (hj:=fun _=>ae) (hb:=fun _=>ae) (hv:=fun _=>uW C6 (by show _<3;omega)) ?_;refine de (Oc.map D.str) ?_;refine ay ?_;refine aq (hc:=h228 l (i+1) 2 aF) ?_;refine LH (fV l (i+1) 2).toNat (.str Oc[(fV l (i+1) 2).toNat]!) (hj:=fun _=>ae) (hb:=fun _=>ae) (hv:=fun _=>uW Oc (by show _<2;omega)) ?_;refine dj (hb:=fun _=>ae) ?_;refine ay ?_;refine aq (hc:=h228 l (i+1) 3 aF) ?_;refine aA ?_;refine aq (hc:=h481 _) ?_;refine dj (hb:=fun _=>by simp only[bP];omega) ?_;refine ay ?_;refine c9 ?_;unfold mF;rw[ak hc0]
def Ml (T:List D->D->Prop):Prop:=∀(l:List Int) (i:Int),(0<=i/\i<=4000000)->T [.sl 1 (l.map (D.int .i64)),.int .i64 i] (.str (mF l i))
def W8 (Y:Ctx):Prop:=Ml (bx Y 231)
noncomputable def OK:aC:=cP 89
def w480 {Y:Ctx}(hm:(Y.at 0).b7)(h227:W6 Y)(h228:IH Y)(h230:W7 Y)(l:List Int)(i:Int)(own:Int)(alone:Bool)  (hp0:0<=i/\i<=3000000)(hp1:0<=own/\own<=1000000):dh Y OK (bS.D (mG l i own alone)) [.sl 1 (l.map (D.int .i64)),.int .i64 i,.int .i64 own,.bool alone]:=by
 show bJ _ _ _ [⟨_,_⟩,⟨_,_⟩,⟨_,_⟩,⟨_,_⟩,_,_,_,_] _;refine ar ?_;refine ay ?_;have hr:=dN l i 4 aF;refine aB ?_;refine aq (hc:=h228 l (i) 4 aF) ?_;refine aA ?_;refine aq (hc:=h227 (own+1+fV l i 4)) ?_;refine ay ?_;refine aq (hc:=h230 l (i+1) ae) ?_;refine ay ?_;refine aq (hc:=h228 l (i+4) 3 aF) ?_;refine aA ?_;refine bg (.agg [.str (ff (own+1+fV l i 4)),.str (tW l (i+1)),.bq,.bool (decide (fV l (i+4) 3=0))]) ?_;refine aA ?_;refine aI (.agg [.str (ff (own+1+fV l i 4)),.str (tW l (i+1)),.bq,.bool (decide (fV l (i+4) 3=0))]) (he:=aQ) ?_;refine aD ?_;refine aq (hc:=h228 l (i+5) 5 aF) ?_;refine aB ?_;have hr5:=dN l (i+5) 5 aF;refine aD ?_;refine cF (fun hc0=>?_) fun hc0=>?_
 .refine aA ?_;refine df (BV.map D.str) ?_;refine ax ?_;refine vA (fV l (i+5) 5-2).toNat (hj:=fun _=>ae) (hb:=fun _=>ae) ?_;refine aA ?_;refine aI (.agg [.str (ff (own+1+fV l i 4)),.str (tW l (i+1)),(.own 30 1 0 (fV l (i+5) 5-2).toNat),.bool (decide (fV l (i+4) 3=0))]) (he:=aQ) ?_;refine aA ?_;have hk:(fV l (i+5) 5-2).toNat<=BV.length:=by show _<=2;omega
  refine eH 30 ?_ (he:=by simp only[kS,iD,iN,lG,mU,cH,Nat.reduceEqDiff,aW,aX,cN,cr,ct,cS,cW,bQ,bN,aL,bY,aN,reduceCtorEq,aP,a8,Nat.reduceAdd,Nat.reduceLeDiff,hk,<-List.map_take];exact rfl) (hm:=by simp only[kS,iD,iN,lG,mU,cH,Nat.reduceEqDiff,aW,aX,cN,cr,ct,cS,cW,bQ,bN,aL,bY,aN,reduceCtorEq,aP,a8,Nat.reduceAdd,Nat.reduceLeDiff,hk,<-List.map_take];exact rfl);refine aA ?_;refine cz (d:=(.agg [.str (ff (own+1+fV l i 4)),.str (tW l (i+1)),(.sl 1 ((BV.take (fV l (i+5) 5-2).toNat).map D.str)),.bool (decide (fV l (i+4) 3=0))])) ?_;refine aI (.agg [.str (ff (own+1+fV l i 4)),.str (tW l (i+1)),(.sl 1 ((BV.take (fV l (i+5) 5-2).toNat).map D.str)),.bool (decide (fV l (i+4) 3=0))]) (he:=aQ) ?_;refine ax ?_;refine bF (?_);simp only[bS.D,mG,pg];rw[aw hc0];rfl
 refine aA ?_;have hf:pg l i alone=[]:=ak (by rintro⟨h1,h2⟩;rcases hc0 with h|h;rw[h]at h1;cases h1;exact h h2);refine kF [(0,.buf 4 [.agg [.str [],.str [],.bq,.bool false]]),(18,.buf 4 [bS.D (mG l i own alone)])] (.id ah (.bf ah (.cons (by simp only[bS.D,mG,hf];exact .ag (.cons (.refl _) (.cons (.refl _) (.cons (.nil 1) (.cons (.refl _) .nil))))) .nil) .nil)) ?_;refine aA ?_;refine cz (d:=(bS.D (mG l i own alone))) ?_;refine aI (bS.D (mG l i own alone)) (he:=aQ) ?_;refine ax ?_;refine bF (?_);rfl
def MW (T:List D->D->Prop):Prop:=∀(l:List Int) (i:Int) (own:Int) (alone:Bool),(0<=i/\i<=3000000)->(0<=own/\own<=1000000)->T [.sl 1 (l.map (D.int .i64)),.int .i64 i,.int .i64 own,.bool alone] (bS.D (mG l i own alone))
def C480 (Y:Ctx):Prop:=MW (bx Y 480)
end Go.Abs
