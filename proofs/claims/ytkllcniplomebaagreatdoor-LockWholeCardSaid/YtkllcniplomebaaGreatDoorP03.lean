/- A part of the proofs. -/
import Derived.Lib.SliceRun
import Derived.Orders
import Derived.WalkSpells
import Derived.Test.YtkllcniplomebaaGreatDoorP02
set_option linter.all false
set_option maxRecDepth 60000
set_option maxHeartbeats 2000000
namespace Go.Abs
variable{defs DD:List (Option Nat)}{K:List aY->St->Prop}{env vs VS:List aY}{l r:List GI}{sh:List (List Sh)}{x x':X}{g:Option (Nat×Bool)}{args:Array Operand}{ν:List (Nat×Nat)}{st:St}{n k fid:Nat}{tys:Array TypeId}{Q:Exit->Act->World->Prop}{f:Nat->Option bm}{a:Act}{P:Program}{draw:Bool}(bs:List Nat){d:D}
section
variable [cI]
def jJ (P:Program)(x:X)(G:Value->X->Prop)(r:Result Next):Prop:=
 (∃v x',(r=.ok (.value v) x'.w\/r=.ok .skip x'.w/\v=undef)/\G v x')\/
 (∃f args,r=.ok (.enter f args) x.w/\Calls P f args x.w fun
   | .returned v,w'=>∃x',x'.w=w'/\G v x'
   |_,_=>False)
theorem jJ.mono {P:Program}{x:X}{G G':Value->X->Prop}{r:Result Next}(h:jJ P x G r)(hg:∀v x',G v x'->G' v x'):jJ P x G' r:=by
 rcases h with⟨v,x',h1,h2⟩|⟨f,args,h1,h2⟩
 .exact .inl ⟨v,x',h1,hg _ _ h2⟩
 .refine .inr ⟨f,args,h1,Calls.mono h2 λe w' he=>?_⟩
  grind
theorem jJ.wp {P:Program}{x:X}{G:Value->X->Prop}{o:Oper}{a:Act}{next:Act->World->Prop}{Q:Exit->Act->World->Prop}
  (h:jJ P x G ((execOp a.eval o).run P x.w)) (hn:∀v x',G v x'->next (a.put o.dst v) x'.w):o.wp P a x.w next Q:=by
 unfold Oper.wp;rcases h with⟨v,x',h1|⟨h1,h3⟩,h2⟩|⟨f,args,h1,h2⟩
 .rw[h1];exact hn v x' h2
 .rw[h1];subst h3;exact hn _ x' h2
 .rw[h1,Oper.upon_enter];refine Calls.mono h2 λe w' he=>?_
  grind
structure nL (x x':X):Prop where
 grow:ie x.w x'.w
 I:∀b,x.I b->x'.I b
 newI:∀b,x'.I b->x.I b\/x.w.heap.size<=b
 imm:∀b,x'.I b->b<x'.w.heap.size
 β:x'.β=x.β
structure fk (st:St)(x:X):Prop where
 β:∀l,st.nx<=l->x.β l=none
 m:∀l,look st.m l≠none->l<st.nx
structure Ok (P:Program)(ν:List (Nat×Nat))(bR:List Nat)(Y:Ctx):Prop where
 small:∀fid n,dK ν fid=some n->n<1000000
 bld:∀t,bR.contains (1000000000+t)=true->t=cI.tB
 glz:∀g,bR.contains (500000000+g)=true/\g<400000000->cI.gz g
 pure:∀fid n,dK ν fid=some n->∀(x:X) (args:Array Value) (ds:List D),args.size=ds.length->(∀i,i<ds.length->RD ν x (args.getD i undef) (ds.getD i .any))->aP ds=true->
  (∀b,x.I b->b<x.w.heap.size)->cI.gd x->Y.pre n ds->jJ P x (λv x'=>nL x x'/\RD ν x' v (Y.val n ds)) ((callFunc fid args).run P x.w)
 effF:∀fid n,dK ν fid=some n->bR.contains (2*n+1)=true->∀(x:X) (f:Nat->Option bm) (args:Array Value) (l k:Nat) (d:D) (ds:List D),args.size=ds.length+1->RD ν x (args.getD 0 undef) (.ptr l k 0 0)->
  (∀i,i<ds.length->RD ν x (args.getD (i+1) undef) (ds.getD i .any))->fG ν x f->f l=some (.buf k [d])->d.aU=true->aP ds=true->Y.fp n d ds->
  jJ P x (λv x'=>Step x x'/\RD ν x' v (Y.fv n d ds)/\fG ν x' (λl'=>if l'=l then some (.buf k [Y.fs n d ds])else f l')/\x'.β=x.β) ((callFunc fid args).run P x.w)
 bR:∀fid n,dK ν fid=some n->∀(x:X) (args:Array Value) (ds:List D) (st:St) (K:D->St->Prop),args.size=ds.length->(∀i,i<ds.length->RD ν x (args.getD i undef) (ds.getD i .any))->
  fG ν x (look st.m)->fk st x->Y.tr n ds st K->jJ P x (λv x'=>∃d st',K d st'/\Step x x'/\RD ν x' v d/\fG ν x' (look st'.m)/\fk st' x') ((callFunc fid args).run P x.w)
section
variable {C:CC}{J:Src->aY}{ev:Operand->Value}{Y:Ctx}{m:List (Nat×bm)}{L:Nat}
def nL.step (h:nL x x')(himm:∀b,x.I b->b<x.w.heap.size):Step x x':=
 ⟨h.grow.os,h.grow.tape,h.grow.output,h.grow.size,h.I,λb hb=>h.grow.old b (himm b hb),λl p hp=>by rw[h.β];exact hp,λb hb _=>h.grow.old b hb,λb hb=>(h.newI b hb).imp id .inl,λl p hp=>.inl (by rw[h.β]at hp;exact hp)⟩
def nL.oA (h:nL x x')(hs:fG ν x f):fG ν x' f:=by
 have hst:=h.step hs.imm;refine⟨λl blk b base tot e1 e2=>?_,λl1 l2 b base tot base' tot' e1 e2 e3 e4=>?_,h.imm,λl b base tot e=>?_,rH hst.le hs.gd⟩
 .rw[h.β]at e2;obtain⟨a1,a2⟩:=hs.own l blk b base tot e1 e2;have hb:=hs.ef l b base tot e2;refine⟨λhI=>?_,a2.mono hst.le (h.grow.old b hb)⟩;rcases h.newI b hI with h1|h1
  .exact a1 h1
  .omega
 .rw[h.β]at e3 e4;exact hs.inj l1 l2 b base tot base' tot' e1 e2 e3 e4
 .rw[h.β]at e;exact jj (hs.ef l b base tot e) h.grow.size
mutual
theorem Zu (m m':List (Nat×bm)):∀(s:Sh) (d:D),d.aU=true->kR m s d=kR m' s d/\il m s d
 | .a,d,h=>by cases d<;>simp_all[kR,il,D.aU]
 | .sl k cs,d,h=>by cases d<;>simp_all[kR,il,D.aU]
 | .pt cs,d,h=>by cases d<;>simp_all[kR,il,D.aU]
 | .kp cs,d,h=>by cases d<;>simp_all[kR,il,D.aU]
theorem Zv (m m':List (Nat×bm)):∀(ss:List Sh) (ds:List D),aP ds=true->nA m ss ds=nA m' ss ds/\ki m ss ds
 |[],ds,h=>by simp[nA,ki,h]
 |s::r,[],h=>by simp[nA,ki]
 |s::r,d::ds,h=>by
  simp only[aP,aK]at h;obtain⟨a1,a2⟩:=Zu m m' s d h.1;obtain⟨b1,b2⟩:=Zv m m' r ds h.2;simp only[nA,ki,a1,b1];exact⟨trivial,a2,b2⟩
end
theorem Zw (m m':List (Nat×bm))(ss:List Sh)(d:D)(h:d.aU=true):iZ m ss d=iZ m' ss d/\gv m ss d:=by
 cases ss with
 |nil=>simp[iZ,gv,h]
 |cons s r=>
  cases d<;>simp only[iZ,gv]<;>first
   |exact Zu m m' s _ h
   |skip
  grind [Zv,D.tF]
theorem Dz (m m':List (Nat×bm)):∀(ss:List (List Sh)) (ds:List D),aP ds=true->iy m ss ds=iy m' ss ds/\je m ss ds
 |ss,[],h=>by simp[iy,je]
 |[],d::r,h=>by
  simp only[aP,aK]at h;obtain⟨a1,a2⟩:=Zw m m' [.a] d h.1;obtain⟨b1,b2⟩:=Dz m m' [] r h.2
  grind [iy,je]
 |s::ss,d::r,h=>by
  simp only[aP,aK]at h;obtain⟨a1,a2⟩:=Zw m m' s d h.1;obtain⟨b1,b2⟩:=Dz m m' ss r h.2
  grind [iy,je]
def Goal (ν:List (Nat×Nat))(x:X)(f:Nat->Option bm)(L:Nat)(d:D)(v:Value)(x':X):Prop:=Step x x'/\RD ν x' v d/\fG ν x' f/\∀l,l≠L->x'.β l=x.β l
def BD.oB {f':Nat->Option bm}{r:Result Next}(h:BD ν x f' L d r):jJ P x (Goal ν x f' L d) r:=by
 obtain⟨v,x',h1,h2,h3,h4,h5⟩:=h;exact .inl ⟨v,x',h1,h2,h3,h4,h5⟩
def FM {bR:List Nat}(hΓ:Ok P ν bR Y)(hn:dK ν fid=some n){args:Array Value}{ds:List D}(hl:args.size=ds.length)(hargs:∀i,i<ds.length->RD ν x (args.getD i undef) (ds.getD i .any))(hs:fG ν x f)(hag:aP ds=false->∀l,look m l≠none->f l=look m l)(ho:je m sh ds)(hpre:Y.pre n (iy m sh ds))(hok:qB ds (Y.val n (iy m sh ds))=true):jJ P x (Goal ν x f L (Y.val n (iy m sh ds))) ((callFunc fid args).run P x.w):=by
 cases hnl:aP ds with
 |true=>
  obtain⟨e1,_⟩:=Dz m [] sh ds hnl;obtain⟨_,e2⟩:=Dz [] m sh ds hnl;have hs0:fG ν x (λ_=>none):=hs.less λ_=>.inr (.inl rfl)
  obtain⟨a1,a2,a3⟩:=j3 (m:=[]) hs0 (λl h=>by simp[look]at h) sh ds (λj=>args.getD j undef) hargs e2;rw[<-e1]at a1 a2 a3;have hle:Le (x.nt λ_=>none) x:=⟨λb hb=>by
   rcases hb with h|⟨_,_,_,_,h⟩
   .exact h
   .exact absurd rfl h,λ_ _=>rfl,λ_ _ h=>h⟩
  refine(hΓ.pure fid n hn x args _ (by rw[a1,hl]) (λi hi=>(a3 i ae).mono hle) a2 hs.imm hs.gd hpre).mono λv x' h=>?_
  obtain⟨h1,h2⟩:=h;exact⟨h1.step hs.imm,h2,h1.oA hs,λl _=>by rw[h1.β]⟩
 |false=>
  obtain⟨a1,a2,a3⟩:=j3 hs (hag hnl) sh ds (λj=>args.getD j undef) hargs ho;have hmf:(Y.val n (iy m sh ds)).fo=true:=by simpa[qB,hnl]using hok
  have himm:∀b,(x.nt f).I b->b<x.w.heap.size:=by
   intro b hb;rcases hb with h|⟨l,⟨b',base,tot⟩,h1,h2,h3⟩
   .exact hs.imm b h
   .subst h2;exact hs.ef l _ _ _ h1
  have h:=hΓ.pure fid n hn (x.nt f) args _ (by rw[a1,hl]) (λi hi=>a3 i ae) a2 himm (rH (oM x f) hs.gd) hpre;have key:∀v x',(nL (x.nt f) x'/\RD ν x' v (Y.val n (iy m sh ds)))->Goal ν x f L (Y.val n (iy m sh ds)) v ⟨x'.w,x.I,x.β⟩:=by
   intro v x' ⟨h1,h2⟩;have hp:nL x ⟨x'.w,x.I,x.β⟩:=⟨h1.grow,λ_ h=>h,λ_ h=>.inl h,λb hb=>jj (hs.imm b hb) h1.grow.size,rfl⟩;exact⟨hp.step hs.imm,h2.fo hmf,hp.oA hs,λ_ _=>rfl⟩
  rcases h with⟨v,x',h1,h2⟩|⟨f',args',h1,h2⟩
  .exact .inl ⟨v,⟨x'.w,x.I,x.β⟩,h1,key v x' h2⟩
  .refine .inr ⟨f',args',h1,Calls.mono h2 λe w' he=>?_⟩;cases e with
   |returned v=>obtain⟨x',e1,e2⟩:=he;exact⟨⟨x'.w,x.I,x.β⟩,e1,key v x' e2⟩
   |panicked c=>exact he
   |outgrown=>exact he
end
end
section
variable [cI]
section
variable {C:CC}{J:Src->aY}{ev:Operand->Value}{Y:Ctx}{m:List (Nat×bm)}{L:Nat}
def wF {m':List (Nat×bm)}:jc f [] m'=f:=by funext l;simp[jc]
def aez {i:az}(hp:i.pure=true):i.wr J L=[]:=by cases i<;>simp_all[az.pure,az.wr]
def S4 {args:List D}{ls:Option (List Nat)}(hls:ls=bif aP args then some []else none)(hag:E7 f m ls):aP args=false->∀l,look m l≠none->f l=look m l:=by
 intro h;rw[h]at hls;subst hls;exact hag
theorem Y2 {o:Oper}{ss:List Src}(hcst:∀d,J (.c d)=⟨true,d⟩)(hΓ:Ok C.P C.ν C.bR Y)(ho:o.op=.call {callee:=.value (.func fid),args,argTypes:=tys})(h1:dK C.ν fid=some n)(h2:C.wi defs args.toList=some ss)(hρ:vz C defs J ev x o.op.operands.toList)(hob:(az.call n ss sh).eL Y J m)(hs:fG C.ν x f)(hag:E7 f m ((az.call n ss sh).nd J)):
  jJ C.P x (Goal C.ν x (jc f ((az.call n ss sh).wr J L) ((az.call n ss sh).bR Y J m L)) L ((az.call n ss sh).val Y J m L)) ((execOp ev o).run C.P x.w):=by
 obtain⟨k1,k2,k3,k4⟩:=hob;have hv:=hρ (.func fid) du (.c (.fn n [])) (by simp[CC.src,h1]) (by rw[hcst]);rw[hcst]at hv;obtain⟨s1,s2,s3⟩:=iz hρ _ _ (λo' ho'=>EY) h2 k1;generalize hep:ev (.func fid)=vf at hv;cases hv with
 |ef=>exact absurd (hΓ.small _ _ h1) ae
 |bx=>exact absurd (hΓ.small _ _ h1) ae
 |mpn=>exact absurd (hΓ.small _ _ h1) ae
 |fn fid' _ cs _ hν hl _=>
  have hcs:cs=#[]:=by apply Array.ext';simpa using hl
  subst hcs;have hrun:(execOp ev o).run C.P x.w=(callFunc fid' (args.map ev)).run C.P x.w:=by
   simp[execOp,ho,resolve,Deferred.ofValue,invoke,hep]
  rw[hrun];have hwr:(az.call n ss sh).wr J L=[]:=rfl;rw[hwr,wF];simp only[az.val];refine FM hΓ hν (by simp;simpa using s2.symm) (λi hi=>?_) hs (S4 rfl hag) k2 k3 k4;have:=s3 i hi
  rwa [<-Array.toList_map,bL]at this
theorem nw (a b:Array Value)(i:Nat):(a++b).getD i undef=if i<a.size then a.getD i undef else b.getD (i-a.size) undef:=by
 rw[<-bL,Array.toList_append,cS]
 grind [bL]
def Y3 {o:Oper}{t:Nat}{s:Src}{ss:List Src}(hΓ:Ok C.P C.ν C.bR Y)(ho:o.op=.call {callee:=.value (.tmp t),args,argTypes:=tys})(h1:C.src defs (.tmp t)=some s)(h2:C.wi defs args.toList=some ss)(hρ:vz C defs J ev x o.op.operands.toList)(hob:(az.callv s ss sh).eL Y J m)(hs:fG C.ν x f)(hag:E7 f m ((az.callv s ss sh).nd J)):
  jJ C.P x (Goal C.ν x (jc f ((az.callv s ss sh).wr J L) ((az.callv s ss sh).bR Y J m L)) L ((az.callv s ss sh).val Y J m L)) ((execOp ev o).run C.P x.w):=by
 obtain⟨k0,k1,k2⟩:=hob;have hv:=hρ (.tmp t) du s h1 k0;obtain⟨s1,s2,s3⟩:=iz hρ _ _ (λo' ho'=>EY) h2 k1;cases hd:(J s).d<;>simp only[hd]at k2;rename_i n caps;obtain⟨k1',k2,k3,k4⟩:=k2;rw[hd]at hv;generalize hep:ev (.tmp t)=vf at hv;cases hv with
 |ef _ n'=>exact absurd k1' ae
 |bx=>exact absurd k1' ae
 |mpn=>exact absurd k1' ae
 |im=>exact absurd k1' ae
 |fn fid' _ cs _ hν hl hcs=>
  have hrun:(execOp ev o).run C.P x.w=(callFunc fid' (args.map ev++cs)).run C.P x.w:=by
   simp[execOp,ho,resolve,Deferred.ofValue,invoke,hep]
  rw[hrun];have hwr:(az.callv s ss sh).wr J L=[]:=rfl;rw[hwr,wF];have Bh:(az.callv s ss sh).val Y J m L=Y.val n (iy m sh (iL J ss++caps)):=by simp[az.val,hd]
  rw[Bh];have hsz:args.size=(iL J ss).length:=by simpa using s2.symm
  refine FM hΓ hν (by simp[hl,hsz]) (λi hi=>?_) hs (S4 (by simp[az.nd,hd]) hag) k2 k3 k4;rw[nw,cS];simp only[Array.size_map,hsz];split
  .rename_i hlt;have:=s3 i hlt
   rwa [<-Array.toList_map,bL]at this
  .exact hcs _ (by simp at hi;omega)
theorem UM {o:Oper}{r:Src}{ss:List Src}(hcst:∀d,J (.c d)=⟨true,d⟩)(hΓ:Ok C.P C.ν C.bR Y)(hef:C.bR.contains (2*n+1)=true)(ho:o.op=.call {callee:=.value (.func fid),args,argTypes:=tys})(h1:dK C.ν fid=some n)(h2:C.wi defs args.toList=some (r::ss))(hρ:vz C defs J ev x o.op.operands.toList)(hob:(az.callF n r ss sh).eL Y J m)(hs:fG C.ν x f)(hag:E7 f m ((az.callF n r ss sh).nd J)):
  jJ C.P x (Goal C.ν x (jc f ((az.callF n r ss sh).wr J L) ((az.callF n r ss sh).bR Y J m L)) L ((az.callF n r ss sh).val Y J m L)) ((execOp ev o).run C.P x.w):=by
 obtain⟨k0,k1,k2,k3⟩:=hob;have hv:=hρ (.func fid) du (.c (.fn n [])) (by simp[CC.src,h1]) (by rw[hcst]);rw[hcst]at hv;obtain⟨s1,s2,s3⟩:=iz hρ _ _ (λo' ho'=>EY) h2 ⟨k0,k1⟩;cases hd:(J r).d<;>simp only[hd]at k3;rename_i l k i o';obtain⟨rfl,rfl,k4,k5,k6,k7⟩:=k3;generalize hep:ev (.func fid)=vf at hv;cases hv with
 |ef=>exact absurd (hΓ.small _ _ h1) ae
 |bx=>exact absurd (hΓ.small _ _ h1) ae
 |mpn=>exact absurd (hΓ.small _ _ h1) ae
 |fn fid' _ cs _ hν hl _=>
  have hcs:cs=#[]:=by apply Array.ext';simpa using hl
  subst hcs;have hrun:(execOp ev o).run C.P x.w=(callFunc fid' (args.map ev)).run C.P x.w:=by
   simp[execOp,ho,resolve,Deferred.ofValue,invoke,hep]
  rw[hrun];have hlk:f l=look m l:=hag l (by simp[hd,ca]);obtain⟨g1,g2,g3⟩:=vB hs hlk k4;have hb1:aL m l=[(aL m l).getD 0 .any]:=by
   match he:aL m l,k5 with
   |[e],_=>rfl
  have hsz:args.size=ss.length+1:=by simpa using s1
  have hdl:(iL J ss).length=ss.length:=by
   have:=s2;simp only[iL,bH]at this;have h4:=s1;simp only[bH]at h4;omega
  obtain⟨p1,p2⟩:=Dz [] [] sh (iL J ss) k2;have hs0:fG C.ν x (λ_=>none):=hs.less λ_=>.inr (.inl rfl)
  have hget:∀q,(args.map ev).getD q undef=(args.toList.map ev).getD q undef:=λq=>by rw[<-Array.toList_map,bL]
  obtain⟨a1,a2,a3⟩:=j3 (m:=[]) hs0 (λl h=>by simp[look]at h) sh (iL J ss) (λj=>(args.map ev).getD (j+1) undef) (λj hj=>by
   have:=s3 (j+1) (by simp only[iL,bH];omega);rw[hget];simpa[iL]using this) p2
  have hle:Le (x.nt λ_=>none) x:=⟨λb hb=>by
   rcases hb with h|⟨_,_,_,_,h⟩
   .exact h
   .exact absurd rfl h,λ_ _=>rfl,λ_ _ h=>h⟩
  have h0:RD C.ν x ((args.map ev).getD 0 undef) (.ptr l k 0 0):=by
   have:=s3 0 (by simp[iL]);rw[hget];simpa[iL,hd]using this
  rw[hb1]at g1;refine(hΓ.effF fid' n hν hef x f _ l k _ (iy [] sh (iL J ss)) (by simp[a1,hdl,hsz]) h0 (λi hi=>(a3 i ae).mono hle) hs g1 k6 a2 k7).mono λv x' h=>?_
  obtain⟨q1,q2,q3,q4⟩:=h;refine⟨q1,by simpa only[az.val,hd]using q2,q3.less λl'=>.inl ?_,λl' _=>by rw[q4]⟩;simp only[jc,az.wr,hd,ca,az.bR,aJ,bM];by_cases e:l'=l
  .rw[ak e,ak e,ak e]
  .rw[ai e,ai e]
theorem zd {o:Oper}{i:az}(hc:C.op defs o=some i)(hncm:i.cM=false)(hΓ:Ok C.P C.ν C.bR Y)(hρ:vz C defs J ev x o.op.operands.toList)(hcst:∀d,J (.c d)=⟨true,d⟩)(hob:i.eL Y J m)(hs:fG C.ν x f)(hag:E7 f m (i.nd J))(hL:x.β L=none)(hgl:∀g,ev (.global g)=.pointer (some ⟨g,0,none⟩)):
  jJ C.P x (Goal C.ν x (jc f (i.wr J L) (i.bR Y J m L)) L (i.val Y J m L)) ((execOp ev o).run C.P x.w):=by
 by_cases hp:i.pure=true
 .rw[aez hp,wF];exact(aeo hΓ.glz hcst hΓ.small hc hp hρ hob hs hgl).oB
 .cases ho:o.op with
  |alloc t=>exact(Y0 hc (.inl ⟨t,ho⟩) hρ hcst hob hs hL hΓ.bld).oB
  |box t p=>exact(Y0 hc (.inr ⟨t,p,ho⟩) hρ hcst hob hs hL hΓ.bld).oB
  |buildSlice t n ps=>exact(akr hc ho hρ hob hs hL).oB
  |load t p=>exact(aem hp hΓ.small hc ho hρ hob hs hag).oB
  |store t p q=>exact(Y7 hp hc ho hρ hob hs hag).oB
  |makeSlice t a b=>exact(aku hc ho hρ hob hs hL).oB
  |range t p=>exact(Y6 hc ho hρ hob hs hL).oB
  |makeMap t r=>exact(akt hc ho hρ hob hs hL).oB
  |mapUpdate t a b c=>exact(akw hΓ.small hc ho hρ hob hs hag).oB
  |lookup t p q ok=>
   cases ok
   .simp[CC.op,ho]at hc
   .exact(aks hΓ.small hc ho hρ hob hs hag).oB
  |next it b=>
   cases b
   .simp[CC.op,ho]at hc
   .exact(aen hc ho hρ hob hs hag).oB
  |convert s d p=>
   have:(∃a,i=.s2b a)\/(∃a,i=.b2s a):=by
    simp only[CC.op,ho]at hc
    (repeat' split at hc)<;>simp only[aC,reduceCtorEq]at hc<;>subst hc<;>first
      |exact .inl ⟨_,rfl⟩
      |exact .inr ⟨_,rfl⟩
      |(exfalso;exact hp rfl)
   rcases this with⟨a,rfl⟩|⟨a,rfl⟩
   .exact(akv (i:=.s2b a) hc ho hρ hob hs hL).oB
   .exact(akq hc ho hρ hob hs hag).oB
  |call c=>
   obtain⟨callee,args,argTypes⟩:=c;cases callee with
   |builtin bu=>
    cases bu with
    |append=>
     have hx:∃p q t u,args=#[p,q]/\argTypes=#[t,u]:=by
      simp only[CC.op,ho]at hc;split at hc
      .rename_i p q t u hargs htys;exact⟨p,q,t,u,by apply Array.ext';simpa using hargs,by apply Array.ext';simpa using htys⟩
      .cases hc
     obtain⟨p,q,t,u,rfl,rfl⟩:=hx;exact(akp hc ho hρ hob hs hag hL).oB
    |len=>
     exfalso;simp only[CC.op,ho]at hc
     (repeat' split at hc)<;>simp only[aC,reduceCtorEq]at hc<;>subst hc<;>exact hp rfl
    |min=>
     exfalso;simp only[CC.op,ho]at hc
     (repeat' split at hc)<;>simp only[aC,reduceCtorEq]at hc<;>subst hc<;>exact hp rfl
    |max=>
     exfalso;simp only[CC.op,ho]at hc
     (repeat' split at hc)<;>simp only[aC,reduceCtorEq]at hc<;>subst hc<;>exact hp rfl
    |_=>simp[CC.op,ho]at hc
   |value fv=>
    cases fv with
    |func fid=>
     grind [CC.op,az.cM,UM,Y2]
    |tmp t=>
     simp only[CC.op,ho]at hc;split at hc
     .rename_i s ss h1 h2;split at hc
      .simp only[aC]at hc;subst hc;simp[az.cM]at hncm
      .simp only[aC]at hc;subst hc;exact Y3 hΓ ho h1 h2 hρ hob hs hag
     .cases hc
    |_=>simp[CC.op,ho]at hc
   |invoke r nm=>simp[CC.op,ho]at hc
  |move p=>exfalso;simp only[CC.op,ho,c7]at hc;obtain⟨s,h1,rfl⟩:=hc;exact hp rfl
  |assign p=>exfalso;simp only[CC.op,ho,c7]at hc;obtain⟨s,h1,rfl⟩:=hc;exact hp rfl
  |nilCheck p=>exfalso;simp only[CC.op,ho,c7]at hc;obtain⟨s,h1,rfl⟩:=hc;exact hp rfl
  |unOp op t p=>exfalso;simp only[CC.op,ho,c7]at hc;obtain⟨s,h1,rfl⟩:=hc;exact hp rfl
  |extract p n=>exfalso;simp only[CC.op,ho,c7]at hc;obtain⟨s,h1,rfl⟩:=hc;exact hp rfl
  |binOp op t p q u=>
   exfalso;simp only[CC.op,ho]at hc
   (repeat' split at hc)<;>simp only[aC,reduceCtorEq]at hc<;>subst hc<;>first
     |exact hp rfl
     |(simp[az.cM]at hncm;done)
  |makeFunc fn fst caps=>
   exfalso;cases fn<;>simp only[CC.op,ho]at hc<;>try(cases hc;done)
   (repeat' split at hc)<;>(try simp only[aC,reduceCtorEq]at hc)<;>first
     |(subst hc;exact hp rfl)
     |exact hc.elim
     |(simp only[c7]at hc;obtain⟨_,_,rfl⟩:=hc;exact hp rfl)
  |_=>
   exfalso;simp only[CC.op,ho]at hc
   (try cases hc)<;>(repeat' split at hc)<;>(try simp only[aC,reduceCtorEq,c7]at hc)<;>first
     |(subst hc;exact hp rfl)
     |(obtain⟨s,h1,rfl⟩:=hc;exact hp rfl)
     |exact hc.elim
     |cases hc
def tv (l k:Nat)(es:List D):∀ds:List D,(oL l k es ds).length=ds.length
 |[]=>rfl
 |d::r=>by simp[oL,tv l k es r]
def mh (l k:Nat)(es:List D):∀(ds:List D) (i:Nat),(oL l k es ds).getD i .any=iX l k es (ds.getD i .any)
 |[],i=>by simp[oL,iX]
 |d::r,0=>by simp[oL]
 |d::r,i+1=>by simpa[oL]using mh l k es r i
def RD.fz {l:Nat}{es:List D}(hle:Le x x')(hn:aP es=true)(ho:∀b base tot,x.β l=some (b,base,tot)->x'.I b/\(∀i,i<es.length->(es.getD i .any).cells.length=k)/\∃c:Nat->Nat->Value,∀i j,i<es.length->j<k->
    x'.w.cell? ⟨b,base+i*k+j,none⟩=some (c i j)/\(c i j).oneCell'=true/\RD ν x' (c i j) ((es.getD i .any).cells.getD j .any)){v:Value}(h:RD ν x v d):RD ν x' v (iX l k es d):=by
 induction h with
 |any v=>exact .any v
 |bool b=>exact .bool b
 |int k n=>exact .int k n
 |str s h=>exact .str s h
 |agg cs ds hl' h1 _ ih=>exact .agg cs _ yx (λi hi=>h1 i uD) λi hi=>by rw[mh];exact ih i uD
 |tup cs ds hl' _ ih=>exact .tup cs _ yx λi hi=>by rw[mh];exact ih i uD
 |aR=>exact .aR
 |sl a b off len cap k' es' c hlen ha hcap hm hk hn' hc h1 h _=>exact(RD.sl a b off len cap k' es' c hlen ha hcap hm hk hn' hc h1 h).mono hle
 |ref b off k' i o at_ es' c hI hat hk hn' hc h1 h _=>exact(RD.ref b off k' i o at_ es' c hI hat hk hn' hc h1 h).mono hle
 |ptr l' k' i o b base tot at_ hβ hat=>
  simp only[iX];split
  .rename_i hh;obtain⟨rfl,rfl⟩:=hh;obtain⟨o1,o2,c,o3⟩:=ho b base tot hβ;exact .ref b base k' i o at_ es c o1 hat o2 (λi _=>cT hn i) (λi j hi hj=>(o3 i j hi hj).1) (λi j hi hj=>(o3 i j hi hj).2.1) (λi j hi hj=>(o3 i j hi hj).2.2)
  .exact .ptr l' k' i o b base tot at_ (hle.β _ _ hβ) hat
 |own l' k' i n b base tot cap a hβ ha hcap hm ht=>
  simp only[iX];split
  .rename_i hh;obtain⟨rfl,rfl,hin⟩:=hh;obtain⟨o1,o2,c,o3⟩:=ho b base tot hβ;have hg:∀q,q<n->((es.drop i).take n).getD q .any=es.getD (i+q) .any:=λq hq=>by
    simp[List.getD,List.getElem?_take,hq]
   have hlen:((es.drop i).take n).length=n:=eJ;refine .sl (some a) b (base+i*k') n cap k' _ (λq j=>c (i+q) j) hlen.symm ?_ hcap hm (λq hq=>by rw[hg q hq];exact o2 _ ae) (λq hq=>by rw[hg q hq];exact cT hn _)
    (λq j hq hj=>?_) (λq j hq hj=>(o3 (i+q) j ae hj).2.1) (λq j hq hj=>by rw[hg q hq];exact(o3 (i+q) j ae hj).2.2)
   .by_cases hc0:0<cap
    .right;rw[ha hc0];exact⟨rfl,o1⟩
    .left;apply lP;omega
   .have:=(o3 (i+q) j ae hj).1;rw[<-this];congr 2;rw[Nat.add_mul];omega
  .exact .own l' k' i n b base tot cap a (hle.β _ _ hβ) ha hcap hm ht
 |own0 l' k' i a=>
  simp only[iX];split
  .rename_i hh;simp only[List.take_zero];exact .sl a 0 0 0 0 k [] (λ_ _=>undef) rfl (.inl rfl) (aT _) (Nat.zero_le _) (λi hi=>ae) (λi hi=>ae) (λi j hi=>ae) (λi j hi=>ae) (λi j hi=>ae)
  .exact .own0 l' k' i a
 |nilp=>exact .nilp
 |fn fid n cs ds hν hl' _ ih=>exact .fn fid n cs _ hν yx λi hi=>by rw[mh];exact ih i uD
 |bx b at_ ds v hI hc h1 hl' _ ih=>exact .bx b at_ _ v (hle.I _ hI) (iI (hle.pg _ hI) hc) h1 yx λi hi=>by rw[mh];exact ih i uD
 |ef fid n cs ds hν hl' _ ih=>exact .ef fid n cs _ hν yx λi hi=>by rw[mh];exact ih i uD
 |nilf=>exact .nilf
 |mpn=>exact .mpn
 |im l b base tot hβ=>simp only[iX,oL];exact .im l b base tot (hle.β _ _ hβ)
 |it l b base tot hβ=>exact .it l b base tot (hle.β _ _ hβ)
def Cy {J:Src->aY}:∀(ps:List (Nat×Src)) (l:List D),(mc J l ps).length=l.length
 |[],l=>rfl
 |(i,s)::r,l=>by simp only[mc];rw[Cy r];simp
theorem jJ.re {Q Q':Value->X->Prop}{r:Result Next}(h:jJ P x Q r)(hq:∀v x',Q v x'->∃x'',x''.w=x'.w/\Q' v x''):jJ P x Q' r:=by
 rcases h with⟨v,x',h1,h2⟩|⟨f',args',h1,h2⟩
 .obtain⟨x'',e,h3⟩:=hq v x' h2;exact .inl ⟨v,x'',by rw[e];exact h1,h3⟩
 .refine .inr ⟨f',args',h1,Calls.mono h2 λe w' he=>?_⟩
  grind
def Goal.ice {L:Nat}{es:List D}{v:Value}(hg:Goal ν x (jc f [L] (dh m L (.buf k es))) L (.own L k 0 n) v x')(hn:aP es=true)(hlen:es.length=n)(hL:x.β L=none)(hfL:f L=none):∃x'',x''.w=x'.w/\Goal ν x f L (.sl k es) v x'':=by
 obtain⟨h1,h2,h3,h4⟩:=hg;have hlk:jc f [L] (dh m L (.buf k es)) L=some (.buf k es):=by simp[jc,bM]
 let x'':X:=⟨x'.w,λb=>x'.I b\/∃p,x'.β L=some p/\p.1=b,x'.β⟩
 have hle:Le x' x'':=⟨λ_ h=>.inl h,λ_ _=>rfl,λ_ _ h=>h⟩;have ho:∀b base tot,x'.β L=some (b,base,tot)->x''.I b/\(∀i,i<es.length->(es.getD i .any).cells.length=k)/\∃c:Nat->Nat->Value,∀i j,i<es.length->j<k->
   x''.w.cell? ⟨b,base+i*k+j,none⟩=some (c i j)/\(c i j).oneCell'=true/\RD ν x'' (c i j) ((es.getD i .any).cells.getD j .any):=by
  intro b base tot hβ;obtain⟨o1,o2,o3,c,T,fr,o4,o5,o6,o7⟩:=h3.own L _ b base tot hlk hβ;refine⟨.inr ⟨_,hβ,rfl⟩,λi hi=>(o7 i hi).1,λi j=>c.getD (base+i*k+j) undef,λi j hi hj=>⟨?_,((o7 i hi).2 j hj).1,((o7 i hi).2 j hj).2.mono hle⟩⟩;exact cell_of_heap o4 KY
 have hrd:RD ν x'' v (.sl k es):=by
  have:=h2.fz (x':=x'') (l:=L) (k:=k) (es:=es) hle hn ho;simpa[iX,hlen,fE]using this
 have hnew:∀b,(∃p,x'.β L=some p/\p.1=b)->x.w.heap.size<=b\/∃l p,x.β l=some p/\p.1=b:=by
  rintro b ⟨p,e1,e2⟩;rcases h1.newβ L p e1 with h|h|⟨l',p',h,h'⟩
  .rw[hL]at h;cases h
  .exact .inl (e2▸h)
  .exact .inr ⟨l',p',h,h'.trans e2⟩
 refine⟨x'',rfl,⟨h1.os,h1.tape,h1.output,h1.size,λb hb=>.inl (h1.I b hb),h1.pg,h1.β,h1.old,λb hb=>?_,h1.newβ⟩,hrd,⟨λl' blk b base tot e1 e2=>?_,λl1 l2 b base tot base' tot' e1 e2 e3 e4=>?_,λb hb=>?_,h3.ef,rH hle h3.gd⟩,h4⟩
 .rcases hb with hb|hb
  .exact h1.newI b hb
  .exact .inr (hnew b hb)
 .have hne:l'≠L:=by rintro rfl;rw[hfL]at e1;cases e1
  have e1':jc f [L] (dh m L (.buf k es)) l'=some blk:=by simp[jc,hne,e1]
  obtain⟨o1,o2⟩:=h3.own l' blk b base tot e1' e2;refine⟨?_,o2.mono hle rfl⟩;rintro(hb|⟨⟨b',base',tot'⟩,q1,q2⟩)
  .exact o1 hb
  .simp only at q2;subst q2;exact hne (h3.inj l' L b' base tot base' tot' (by rw[e1'];simp) (by rw[hlk];simp) e2 q1)
 .have hn1:∀l,f l≠none->jc f [L] (dh m L (.buf k es)) l≠none:=λl hl=>by
   have hne:l≠L:=by rintro rfl;exact hl hfL
   simpa[jc,hne]using hl
  exact h3.inj l1 l2 b base tot base' tot' (hn1 _ e1) (hn1 _ e2) e3 e4
 .rcases hb with hb|⟨⟨b',base',tot'⟩,q1,q2⟩
  .exact h3.imm b hb
  .simp only at q2;subst q2;exact h3.ef L _ _ _ q1
def OpX (C:CC)(defs:List (Option Nat))(o:Oper)(i:az):Prop:=C.op defs o=some i\/(∃n ag p,i=.ldI n ag p/\C.op defs o=some (.ld n ag p))\/(∃k y,i=.appN k y/\C.op defs o=some (.app k (.c .aR) y))\/(∃k z n ps,i=.bslI k z n ps/\C.op defs o=some (.bsl k z n ps))\/(∃n ag p,(i=.ldU n ag p\/i=.ldW n ag p)/\C.op defs o=some (.ld n ag p))\/∃n p v qs,i=.stU n p v qs/\C.op defs o=some (.st n p v)
def H2 {o:Oper}{i:az}(hc:OpX C defs o i)(hncm:i.cM=false)(hΓ:Ok C.P C.ν C.bR Y)(hρ:vz C defs J ev x o.op.operands.toList)(hcst:∀d,J (.c d)=⟨true,d⟩)(hob:i.eL Y J m)(hs:fG C.ν x f)(hag:E7 f m (i.nd J))(hL:x.β L=none)(hfL:f L=none)(hgl:∀g,ev (.global g)=.pointer (some ⟨g,0,none⟩)):
  jJ C.P x (Goal C.ν x (jc f (i.wr J L) (i.bR Y J m L)) L (i.val Y J m L)) ((execOp ev o).run C.P x.w):=by
 rcases hc with hc|⟨n,ag,p,rfl,hc⟩|⟨k,y,rfl,hc⟩|⟨k,z,n,ps,rfl,hc⟩|⟨n,ag,p,rfl|rfl,hc⟩|⟨n,p,v,qs,rfl,hc⟩
 .exact zd hc hncm hΓ hρ hcst hob hs hag hL hgl
 rotate_left 3;iterate 2
  .obtain⟨k1,k2⟩:=hob;have hob':(az.ld n ag p).eL Y J m:=by
    simp only[az.eL];cases hd:(J p).d<;>simp only[hd]at k2<;>simp only[Mg]
    .exact⟨k1,k2⟩
    .exact⟨k1,k2.1⟩
   have h:=zd (i:=az.ld n ag p) (L:=L) hc rfl hΓ hρ hcst hob' hs hag hL hgl;exact h
 .obtain⟨o1,o2,o3,o4⟩:=hob;have hob':(az.st n p v).eL Y J m:=by
   refine⟨o1,o2,o3, ?_⟩;cases hd:(J p).d<;>simp only[hd]at o4;exact⟨o4.1,o4.2.1⟩
  exact zd (i:=az.st n p v) (L:=L) hc rfl hΓ hρ hcst hob' hs hag hL hgl
 rotate_left;rotate_left
 .obtain⟨k1,k2,k3⟩:=hob;have hob':(az.bsl k z n ps).eL Y J m:=⟨k1,k2⟩;have:=zd (L:=L) hc rfl hΓ hρ hcst hob' hs (by simp[az.nd,E7]) hL hgl;refine this.re λv x' hg=>?_
  exact hg.ice k3 (by rw[Cy,List.length_replicate]) hL hfL
 rotate_left
 .obtain⟨k1,k2,k3⟩:=hob;have hob':(az.app k (.c .aR) y).eL Y J m:=by simp only[az.eL,hcst];exact⟨trivial,k1,k2,k3⟩
  have:=zd (L:=L) hc rfl hΓ hρ hcst hob' hs (by simpa[az.nd,hcst,ca]using hag) hL hgl;have e1:(az.appN k y).val Y J m L=(az.app k (.c .aR) y).val Y J m L:=by simp[az.val,hcst]
  have e2:(az.appN k y).wr J L=(az.app k (.c .aR) y).wr J L:=by simp[az.wr,hcst,ca]
  have e3:(az.appN k y).bR Y J m L=(az.app k (.c .aR) y).bR Y J m L:=by simp[az.bR,hcst]
  rw[e1,e2,e3];exact this
 .obtain⟨k1,k2⟩:=hob;cases hd:(J p).d<;>simp only[hd]at k2;all_goals
   have hob':(az.ld n ag p).eL Y J m:=by simp only[az.eL,hd,Mg];exact⟨k1,k2⟩
   have:=zd (L:=L) hc rfl hΓ hρ hcst hob' hs (by simp[az.nd,hd,ca,E7]) hL hgl;have e1:(az.ldI n ag p).val Y J m L=(az.ld n ag p).val Y J m L:=by simp[az.val,hd,Mh]
   rw[e1];exact this
end
end
section
variable [cI]
section
variable {C:CC}{Y:Ctx}
theorem pU:∀(l:List Nat) (t n:Nat),Bi l t=some n->l[n]? =some t
 |[],t,n,h=>by simp[Bi]at h
 |a::r,t,n,h=>by
  simp only[Bi]at h;split at h
  .grind
  .simp only[c7]at h;obtain⟨k,h1,rfl⟩:=h;simpa using pU r t k h1
def HE:∀(l:List Nat) (t n:Nat),l.Nodup->l[n]? =some t->Bi l t=some n
 |[],t,n,_,h=>by simp at h
 |a::r,t,0,_,h=>by simp at h;simp[Bi,h]
 |a::r,t,n+1,hn,h=>by
  simp only[List.getElem?_cons_succ]at h;rw[List.nodup_cons]at hn;have:a≠t:=λe=>hn.1 (e▸List.mem_of_getElem? h)
  simp[Bi,this,HE r t n hn.2 h]
theorem Dx:∀(l:List (Option Nat)) (t p:Nat),posOf t l=some p->l[p]? =some (some t)
 |[],t,n,h=>by simp[posOf]at h
 |a::r,t,n,h=>by
  simp only[posOf]at h;split at h
  .grind
  .simp only[c7]at h;obtain⟨k,h1,rfl⟩:=h;simpa using Dx r t k h1
def Dw:∀(l:List (Option Nat)) (t:Nat),posOf t l=none->∀p:Nat,l[p]? ≠some (some t)
 |[],t,h,p=>aF
 |a::r,t,h,p=>by
  simp only[posOf]at h;split at h
  .cases h
  .rename_i e;simp only[Option.map_eq_none_iff]at h;cases p with
   |zero=>simpa using e
   |succ p=>simpa using Dw r t h p
structure Spec (C:CC)(ops:List Oper)(l:List GI):Prop where
 len:l.length=ops.length
 op:∀(i:Nat) (o:Oper),ops[i]? =some o->∃g,l[i]? =some g/\OpX C ((ops.map (·.dst)).take i) o g.i/\CC.guard ((ops.map (·.dst)).take i) o.guard=some g.g
 dst:∀(i:Nat) (o:Oper) (d:Nat),ops[i]? =some o->o.dst=some d->d<C.ntmps/\∀p:Nat,p<i->(ops.map (·.dst))[p]? ≠some (some d)
def MH:∀(ops pre:List Oper) (l lp:List GI),Spec C pre lp->C.ops (pre.map (·.dst)) ops=some l->Spec C (pre++ops) (lp++l)
 |[],pre,l,lp,hp,h=>by simp[CC.ops]at h;subst h;simpa using hp
 |o::r,pre,l,lp,hp,h=>by
  simp only[CC.ops]at h;split at h
  .rename_i i g l' h1 h2 h3;split at h
   .rename_i hd;simp only[aC]at h;subst h;have hp':Spec C (pre++[o]) (lp++[⟨i,g⟩]):=by
     have hl:=hp.len;refine⟨by simp[hl],λj o' ho'=>?_,λj o' d ho' hd'=>?_⟩
     .rw[List.getElem?_append]at ho';split at ho'
      .rename_i hj;obtain⟨g',a1,a2,a3⟩:=hp.op j o' ho';have e:((pre++[o]).map (·.dst)).take j=(pre.map (·.dst)).take j:=by rw[List.map_append,List.take_append_of_le_length eJ]
       rw[e];exact⟨g',by rw[List.getElem?_append_left ae];exact a1,a2,a3⟩
      .rename_i hj;obtain rfl:j=pre.length:=by
        have:=(List.getElem?_eq_some_iff.1 ho').1;simp at this;omega
       simp at ho';subst ho';have e:((pre++[o]).map (·.dst)).take pre.length=pre.map (·.dst):=aF;rw[e];exact⟨⟨i,g⟩,by rw[<-hl];simp,.inl h1,h2⟩
     .rw[List.getElem?_append]at ho';split at ho'
      .rename_i hj;obtain⟨a1,a2⟩:=hp.dst j o' d ho' hd';refine⟨a1,λp hpj=>?_⟩;rw[List.map_append,List.getElem?_append_left eJ];exact a2 p hpj
      .rename_i hj;obtain rfl:j=pre.length:=by
        have:=(List.getElem?_eq_some_iff.1 ho').1;simp at this;omega
       simp at ho';subst ho';simp only[hd',Option.all_some,aK,aX,cg,List.contains_eq_mem,b8]at hd;refine⟨hd.1,λp hpj=>?_⟩;rw[List.map_append,List.getElem?_append_left eJ];exact λe=>hd.2 (List.mem_of_getElem? e)
    have:=MH r (pre++[o]) l' (lp++[⟨i,g⟩]) hp' (by simpa using h3);simpa using this
   .cases h
  .cases h
def Spec.start {ops:List Oper}(h:C.ops [] ops=some l):Spec C ops l:=by
 have:=MH (C:=C) ops [] l [] ⟨rfl,λi o h=>ic,λi o d h=>ic⟩ rA;simpa using this
theorem aay (i:az):i.toN=i\/∃k y,i=.app k (.c .aR) y/\i.toN=.appN k y:=by
 unfold az.toN
 grind
theorem De (bs:List Nat)(l0:List GI):∀(l:List GI) (p i:Nat) (g:GI),l[i]? =some g->∃g',(mK bs l0 p l)[i]? =some g'/\g'.g=g.g/\(g'.i=g.i\/(∃n ag x,g.i=.ld n ag x/\g'.i=.ldI n ag x)\/(∃k y,g.i=.app k (.c .aR) y/\g'.i=.appN k y)\/(∃k z n ps,g.i=.bsl k z n ps/\g'.i=.bslI k z n ps)\/(∃n ag x,g.i=.ld n ag x/\(g'.i=.ldU n ag x\/g'.i=.ldW n ag x))\/∃n x y qs,g.i=.st n x y/\g'.i=.stU n x y qs)
 |[],p,i,g,h=>by simp at h
 |a::r,p,0,g,h=>by
  grind [mK,aay]
 |a::r,p,i+1,g,h=>by
  simp only[mK,List.getElem?_cons_succ]at h⊢;exact De bs l0 r (p+1) i g h
def Df (bs:List Nat)(l0:List GI):∀(l:List GI) (p:Nat),(mK bs l0 p l).length=l.length
 |[],p=>rfl
 |a::r,p=>by simp only[mK,bH,Df bs l0 r (p+1)]
theorem adH (e:List Nat)(l:List GI)(i:Nat)(g:GI)(h:l[i]? =some g):∃g',(ice e l)[i]? =some g'/\g'.g=g.g/\(g'.i=g.i\/∃k z n ps,g.i=.bsl k z n ps/\g'.i=.bslI k z n ps):=by
 unfold ice;rw[List.getElem?_map,h];refine⟨_,rfl, ?_⟩
 grind
def Spec.ice {ops:List Oper}{l:List GI}(e:List Nat)(h:Spec C ops l):Spec C ops (ice e l):=by
 refine⟨by simp only[Abs.ice,bh];exact h.len,λi o ho=>?_,h.dst⟩;obtain⟨g,h1,h2,h3⟩:=h.op i o ho;obtain⟨g',a1,a2,a3⟩:=adH e l i g h1;refine⟨g',a1, ?_,by rw[a2];exact h3⟩;rcases a3 with e|⟨k,z,n,ps,e1,e2⟩
 .rw[e];exact h2
 .rw[e1]at h2;rcases h2 with h2|⟨n',ag',p',h4,_⟩|⟨k',y',h4,_⟩|⟨_,_,_,_,h4,_⟩|⟨_,_,_,h4,_⟩|⟨_,_,_,_,h4,_⟩
  .exact .inr (.inr (.inr (.inl ⟨k,z,n,ps,e2,h2⟩)))
  all_goals first|(rcases h4 with h4|h4<;>cases h4)|cases h4
theorem Spec.mK {ops:List Oper}(h:Spec C ops l):Spec C ops (mK bs l 0 l):=by
 refine⟨by rw[Df];exact h.len,λi o ho=>?_,h.dst⟩;obtain⟨g,h1,h2,h3⟩:=h.op i o ho;obtain⟨g',a1,a2,a3⟩:=De bs l l 0 i g h1;refine⟨g',a1, ?_,by rw[a2];exact h3⟩;rcases a3 with e|⟨n,ag,x,e1,e2⟩|⟨k,y,e1,e2⟩|⟨k,z,n,ps,e1,e2⟩|⟨n,ag,x,e1,e2⟩|⟨n,x,y,qs,e1,e2⟩
 .rw[e];exact h2
 .rw[e1]at h2;rcases h2 with h2|⟨n',ag',p',h4,_⟩|⟨k',y',h4,_⟩|⟨_,_,_,_,h4,_⟩|⟨_,_,_,h4,_⟩|⟨_,_,_,_,h4,_⟩
  .exact .inr (.inl ⟨n,ag,x,e2,h2⟩)
  all_goals first|(rcases h4 with h4|h4<;>cases h4)|cases h4
 .rw[e1]at h2;rcases h2 with h2|⟨n',ag',p',h4,_⟩|⟨k',y',h4,_⟩|⟨_,_,_,_,h4,_⟩|⟨_,_,_,h4,_⟩|⟨_,_,_,_,h4,_⟩
  .exact .inr (.inr (.inl ⟨k,y,e2,h2⟩))
  all_goals first|(rcases h4 with h4|h4<;>cases h4)|cases h4
 .rw[e1]at h2;rcases h2 with h2|⟨n',ag',p',h4,_⟩|⟨k',y',h4,_⟩|⟨_,_,_,_,h4,_⟩|⟨_,_,_,h4,_⟩|⟨_,_,_,_,h4,_⟩
  .exact .inr (.inr (.inr (.inl ⟨k,z,n,ps,e2,h2⟩)))
  all_goals first|(rcases h4 with h4|h4<;>cases h4)|cases h4
 .rw[e1]at h2;rcases h2 with h2|⟨n',ag',p',h4,_⟩|⟨k',y',h4,_⟩|⟨_,_,_,_,h4,_⟩|⟨_,_,_,h4,_⟩|⟨_,_,_,_,h4,_⟩
  .exact .inr (.inr (.inr (.inr (.inl ⟨n,ag,x,e2,h2⟩))))
  all_goals first|(rcases h4 with h4|h4<;>cases h4)|cases h4
 .rw[e1]at h2;rcases h2 with h2|⟨n',ag',p',h4,_⟩|⟨k',y',h4,_⟩|⟨_,_,_,_,h4,_⟩|⟨_,_,_,h4,_⟩|⟨_,_,_,_,h4,_⟩
  .exact .inr (.inr (.inr (.inr (.inr ⟨n,x,y,qs,e2,h2⟩))))
  all_goals first|(rcases h4 with h4|h4<;>cases h4)|cases h4
def Spec.distinct {ops:List Oper}(h:Spec C ops l){i p d:Nat}(hi:(ops.map (·.dst))[i]? =some (some d))(hp:(ops.map (·.dst))[p]? =some (some d)):p=i:=by
 rw[List.getElem?_map,c7]at hi hp;obtain⟨oi,hi1,hi2⟩:=hi;obtain⟨op,hp1,hp2⟩:=hp;rcases Nat.lt_trichotomy p i with h1|h1|h1
 .exact absurd (by rw[List.getElem?_map,hp1,Option.map_some,hp2]) ((h.dst i oi d hi1 hi2).2 p h1)
 .exact h1
 .exact absurd (by rw[List.getElem?_map,hi1,Option.map_some,hi2]) ((h.dst p op d hp1 hp2).2 i h1)
structure A7 (C:CC)(env:List aY)(DD:List (Option Nat))(VS:List aY)(D:Nat->Prop)(a:Act)(x:X):Prop where
 val:∀p t:Nat,D p->DD[p]? =some (some t)->(VS.getD p .un).ok=true->RD C.ν x (a.tmps.getD t undef) (VS.getD p .un).d
 und:∀p t:Nat,D p->DD[p]? =some (some t)->(VS.getD p .un).ok=false->a.tmps.getD t undef=undef
 old:∀n t:Nat,C.slots[n]? =some t->(∀p,D p->DD[p]? ≠some (some t))->(env.getD n .un).ok=true->RD C.ν x (a.tmps.getD t undef) (env.getD n .un).d
 size:a.tmps.size=C.ntmps
 defers:a.defers=[]
theorem Zz (a:Act)(d:Nat)(v:Value)(t:Nat)(h:d<a.tmps.size):(a.put (some d) v).tmps.getD t undef=if t=d then v else a.tmps.getD t undef:=by
 simp only[Act.put,Array.getD_eq_getD_getElem?]
 grind
def A7.put {env:List aY}{DD:List (Option Nat)}{VS:List aY}{D D':Nat->Prop}{a:Act}{x x':X}{i:Nat}{dst:Option Nat}{v:Value}(h:A7 C env DD VS D a x)(hle:Le x x')(hd:DD[i]? =some dst)
  (hdst:∀t,dst=some t->t<C.ntmps/\∀p,p≠i->DD[p]? ≠some (some t)) (hv:(VS.getD i .un).ok=true->RD C.ν x' v (VS.getD i .un).d) (hu:(VS.getD i .un).ok=false->v=undef)
  (hD:∀p,D' p↔D p\/p=i):A7 C env DD VS D' (a.put dst v) x':=by
 cases dst with
 |none=>
  have hne:∀p t,DD[p]? =some (some t)->p≠i:=λp t e e'=>by subst e';rw[hd]at e;simp at e
  refine⟨λp t hp e ho=>?_,λp t hp e ho=>?_,λn t hn hp ho=>?_,h.size,h.defers⟩
  .exact(h.val p t (((hD p).1 hp).resolve_right (hne p t e)) e ho).mono hle
  .exact h.und p t (((hD p).1 hp).resolve_right (hne p t e)) e ho
  .exact(h.old n t hn (λp hp'=>hp p ((hD p).2 (.inl hp'))) ho).mono hle
 |some d=>
  obtain⟨h1,h2⟩:=hdst d rfl;have hg:=Zz a d v (h:=by rw[h.size];exact h1);refine⟨λp t hp e ho=>?_,λp t hp e ho=>?_,λn t hn hp ho=>?_,by simp[Act.put,h.size],h.defers⟩
  .by_cases hpi:p=i
   .subst hpi;rw[hd]at e;simp only[aC]at e;subst e;rw[hg,ak rfl];exact hv ho
   .have:t≠d:=λe'=>h2 p hpi (e'▸e)
    rw[hg,ai this];exact(h.val p t (((hD p).1 hp).resolve_right hpi) e ho).mono hle
  .by_cases hpi:p=i
   .subst hpi;rw[hd]at e;simp only[aC]at e;subst e;rw[hg,ak rfl];exact hu ho
   .have:t≠d:=λe'=>h2 p hpi (e'▸e)
    rw[hg,ai this];exact h.und p t (((hD p).1 hp).resolve_right hpi) e ho
  .have:t≠d:=λe'=>hp i ((hD i).2 (.inr rfl)) (by rw[hd,e'])
   rw[hg,ai this];exact(h.old n t hn (λp hp'=>hp p ((hD p).2 (.inl hp'))) ho).mono hle
def getD_take {α:Type}(l:List α)(i p:Nat)(d:α)(h:p<i):(l.take i).getD p d=l.getD p d:=by
 simp[List.getD,List.getElem?_take,h]
def A7.rho {D:Nat->Prop}{i:Nat}{os:List Operand}(h:A7 C env DD VS D a x)(hr:∀t p,Operand.tmp t∈os->DD[p]? =some (some t)->(p<i->D p)/\(i<=p->¬D p)):vz C (DD.take i) (Src.ev env (VS.take i)) a.eval x os:=by
 intro o ho s hs hok;cases o with
 |tmp t=>
  simp only[CC.src]at hs;split at hs
  .rename_i p hp;simp only[aC]at hs;subst hs;have hp1:=Dx _ _ _ hp;rw[List.getElem?_take]at hp1;split at hp1
   .rename_i hpi;simp only[Src.ev]at hok⊢;rw[getD_take _ _ _ _ hpi]at hok⊢;exact h.val p t ((hr t p ho hp1).1 hpi) hp1 hok
   .cases hp1
  .rename_i hp;simp only[c7]at hs;obtain⟨n,h1,rfl⟩:=hs;simp only[Src.ev]at hok⊢;refine h.old n t (pU _ _ _ h1) (λp hp' e=>?_) hok;by_cases hpi:p<i
   .exact Dw _ _ hp p (by rw[List.getElem?_take,ak hpi];exact e)
   .exact(hr t p ho e).2 ae hp'
 |const v=>
  simp only[CC.src,c7]at hs;obtain⟨d,h1,rfl⟩:=hs;exact nr v d h1
 |func f=>
  simp only[CC.src,c7]at hs;obtain⟨n,h1,rfl⟩:=hs;exact .fn f n #[] [] h1 rfl (λi hi=>by simp at hi)
 |global g=>simp[CC.src]at hs
def afO {i:az}(h:VN vs i g):yV vs g:=by
 cases g with
 |none=>trivial
 |some jw=>exact h.2
def kn {ops:Array Oper}{D:Nat->Prop}{i:Nat}{o:Oper}{g:GI}(h:A7 C env (ops.toList.map (·.dst)) VS D a x)(hg:CC.guard ((ops.toList.map (·.dst)).take i) o.guard=some g.g)(hD:∀j w,o.guard=some (j,w)->j<i->D j)(hgok:yV (VS.take i) g.g):Region.wanted o (yielded ops a.tmps)=flag (VS.take i) g.g:=by
 unfold Region.wanted;cases hog:o.guard with
 |none=>simp only[hog,CC.guard,aC]at hg;simp[<-hg,flag]
 |some jw=>
  obtain⟨j,w⟩:=jw;simp only[hog,CC.guard]at hg;split at hg
  .rename_i t hj;simp only[aC]at hg;rw[<-hg]at hgok⊢;rw[List.getElem?_take]at hj;split at hj
   .rename_i hji;have hDj:=hD j w hog hji;have hy:(ops[j]?).bind (·.dst)=some t:=by
     rw[List.getElem?_map,Array.getElem?_toList]at hj;cases ho:ops[j]? with
     |none=>simp[ho]at hj
     |some oj=>simpa[ho]using hj
    simp only[yielded,hy,Option.bind_some,flag,yV]at hgok⊢;rw[getD_take _ _ _ _ hji]at hgok⊢;cases hok:(VS.getD j .un).ok with
    |false=>
     have:=h.und j t hDj hj hok;simp only[Array.getD_eq_getD_getElem?]at this;cases ht:a.tmps[t]? with
     |none=>simp
     |some v=>simp only[ht,Option.getD_some]at this;subst this;simp[undef]
    |true=>
     have hb:=hgok hok;have hv:=h.val j t hDj hj hok;cases hd:(VS.getD j .un).d<;>simp only[hd,Go.Abs.D.isBool]at hb<;>try cases hb
     rename_i b;rw[hd]at hv;have hv:=hv.jK;simp only[Array.getD_eq_getD_getElem?]at hv;cases ht:a.tmps[t]? with
     |none=>simp[ht,undef]at hv
     |some v=>simp only[ht,Option.getD_some]at hv;subst hv;simp
   .cases hj
  .cases hg
end
end
section
variable [cI]
section
variable {C:CC}{Y:Ctx}{J:Src->aY}{m:List (Nat×bm)}{L:Nat}
theorem yP {i:az}{l:Nat}(h:l∉i.wr J L):look (i.bR Y J m L) l=look m l:=by
 cases i<;>simp only[az.wr,bU,de,or_false,not_or]at h<;>simp only[az.bR]
 case box=>rw[bM,ai h]
 case mkB=>rw[bM,ai h]
 case mkM=>rw[bM,ai h]
 case upM x k v=>
  split
  .rename_i hd;rw[hd]at h;rw[bM,ai (by simpa[Dg]using h)]
  .rfl
 case bsl=>rw[bM,ai h]
 case mks=>rw[bM,ai h]
 case s2b x=>split<;>first|rw[bM,ai h]|rfl
 case appN k y=>rw[bM,ai h]
 case rng x=>split<;>first|rw[bM,ai h]|rfl
 case st n p v=>
  split
  .rename_i hd;rw[hd]at h;rw[bM,ai (by simpa[ca]using h)]
  .rfl
 case stU n p v qs=>
  split
  .rename_i hd;rw[hd]at h;rw[bM,ai (by simpa[ca]using h)]
  .rfl
 case app k x y=>
  split
  .rename_i hd;rw[hd]at h;rw[bM,ai h.1,fm,ai (by simpa[ca]using h.2)]
  .rw[bM,ai h.1]
 case aI x=>
  grind [bM,ca]
 case callF n r args sh=>
  split
  .rename_i hd;rw[hd]at h;rw[bM,ai (by simpa[ca]using h)]
  .rfl
theorem kD {i:az}(h:i.calm=true){l:Nat}(hl:l∈i.wr J L):l=L:=by
 cases i<;>simp_all[az.calm,az.wr]
theorem fA {l:Nat}(h:ed m l k n):look m l≠none:=by
 intro e;simp[ed,e]at h
theorem PO {i:az}(h:i.eL Y J m){l:Nat}(hl:l∈i.wr J L):l=L\/look m l≠none:=by
 cases i<;>simp only[az.wr,bU,de,or_false]at hl<;>first
  |exact .inl hl
  |exact hl.elim
  |skip
 case upM x k v=>
  right;obtain⟨l0,kvs,hd,hl0,_⟩:=tD h.2.2.2.1;simp only[hd,Dg,aJ]at hl;subst hl;rw[hl0];simp
 case st n p v=>
  right;obtain⟨_,_,_,h4⟩:=h;cases hd:(J p).d<;>simp only[hd,ca,aJ]at h4 hl;subst hl;exact fA h4.1
 case stU n p v qs=>
  right;obtain⟨_,_,_,h4⟩:=h;cases hd:(J p).d<;>simp only[hd,ca,aJ]at h4 hl;subst hl;exact fA h4.1
 case app k x y=>
  rcases hl with hl|hl
  .exact .inl hl
  .right;obtain⟨_,_,_,h4⟩:=h;cases hd:(J x).d<;>simp only[hd,ca,aJ,de]at h4 hl;subst hl;exact fA h4.2.1
 case aI x=>
  right;obtain⟨_,h4⟩:=h;cases hd:(J x).d<;>simp only[hd,ca,aJ,de]at h4 hl;subst hl;intro e;simp[e]at h4
 case callF n r args sh=>
  right;obtain⟨_,_,_,h4⟩:=h;cases hd:(J r).d<;>simp only[hd,ca,aJ,de]at h4 hl;subst hl;exact fA h4.2.2.1
theorem tq {i:az}(h:i.calm=true\/i.eL Y J m){l:Nat}(hl:look (i.bR Y J m L) l≠none):look m l≠none\/l=L:=by
 grind [kD,PO,yP]
omit [cI]in
theorem Zx {i:az}(h:i.pure=true):i.bR Y J m L=m:=by
 cases i<;>simp_all[az.pure,az.bR]
omit [cI]in
theorem UW {i:az}(h:i.pure=true):i.calm=true:=by
 cases i<;>simp_all[az.pure,az.calm]
def Zy {i:az}(h:i.pure=true):i.nd J=some []:=by
 cases i<;>simp_all[az.pure,az.nd]
def T5 {i:az}(h:i.free=true):i.calm=true:=by
 cases i<;>simp_all[az.free,az.calm,az.pure]
def adp {i:az}(h:i.free=true):i.wr J L=[]:=by
 cases i<;>simp_all[az.free,az.wr,az.pure]
def XK {i:az}(h:i.free=true):i.bR Y J m L=m:=by
 cases i<;>simp_all[az.free,az.bR,az.pure]
theorem Gp {sh:List Sh}(h:sh.all Sh.isA=true):∀{d:D},gv m sh d->d.aU=true:=by
 have hL:∀(sh:List Sh) (ds:List D),sh.all Sh.isA=true->ki m sh ds->aP ds=true:=by
  intro sh;induction sh with
  |nil=>intro ds _ h;simpa[ki]using h
  |cons s r ih=>
   intro ds h ho;cases ds with
   |nil=>rfl
   |cons d ds=>
    grind [ki,Sh.isA,aP,il]
 intro d ho;cases sh with
 |nil=>simpa[gv]using ho
 |cons s r=>
  have hs:s=.a:=by simp only[List.all_cons,aK]at h;cases s<;>simp_all[Sh.isA]
  cases d<;>simp only[gv]at ho<;>first
   |(subst hs;simpa[il]using ho)
   |(rw[D.tF];exact hL _ _ h ho)
def zm:∀{ss:List (List Sh)}{ds:List D},ss.all (λs=>s.all Sh.isA)=true->je m ss ds->aP ds=true
 |ss,[],_,_=>by simp[aP]
 |[],d::r,h,ho=>by
  simp only[je]at ho;simp only[aP,aK];exact⟨Gp (sh:=[.a]) rfl ho.1,zm (ss:=[]) rfl ho.2⟩
 |s::ss,d::r,h,ho=>by
  simp only[je]at ho;simp only[List.all_cons,aK]at h;simp only[aP,aK];exact⟨Gp h.1 ho.1,zm h.2 ho.2⟩
def XL {i:az}(h:i.free=true)(ho:i.eL Y J m):i.nd J=some []:=by
 cases i<;>simp only[az.free]at h<;>try(exact Zy h)
 simp only[az.nd,zm h ho.2.1,cond_true]
def Dh {i:az}(h:i.jO=true):i.calm=true:=by
 cases i<;>simp_all[az.jO,az.calm]
def UC {i:az}(h:i.jO=true):i.nd J=some []:=by
 cases i<;>simp_all[az.jO,az.nd]
theorem yQ (h:Cu m k d){l:Nat}(hl:l∈ca d):look m l≠none:=by
 cases d<;>simp only[ca,aJ,de,Cu]at h hl;subst hl;exact fA h.2
theorem BU {i:az}(h:i.eL Y J m){ls:List Nat}(hls:i.nd J=some ls){l:Nat}(hl:l∈ls):look m l≠none:=by
 cases i<;>simp only[az.nd,aC,reduceCtorEq]at hls<;>first
  |(subst hls;exact absurd hl de)
  |skip
 case upM x k v=>
  subst hls;obtain⟨l0,kvs,hd,hl0,_⟩:=tD h.2.2.2.1;simp only[hd,Dg,aJ]at hl;subst hl;rw[hl0];simp
 case lkM z x k=>
  subst hls;obtain⟨l0,kvs,hd,hl0,_⟩:=tD h.2.2.1;simp only[hd,Dg,aJ]at hl;subst hl;rw[hl0];simp
 case ldU n ag p=>
  subst hls;obtain⟨_,h4⟩:=h;cases hd:(J p).d<;>simp only[hd,ca,aJ,de]at h4 hl;subst hl;exact fA h4.1.1
 case ldW n ag p=>
  subst hls;obtain⟨_,h4⟩:=h;cases hd:(J p).d<;>simp only[hd,ca,aJ,de]at h4 hl;subst hl;exact fA h4.1.1
 case ld n ag p=>
  subst hls;obtain⟨_,h4⟩:=h;cases hd:(J p).d<;>simp only[hd,ca,aJ,de,Mg]at h4 hl;subst hl;exact fA h4.1
 case st n p v=>
  subst hls;obtain⟨_,_,_,h4⟩:=h;cases hd:(J p).d<;>simp only[hd,ca,aJ]at h4 hl;subst hl;exact fA h4.1
 case stU n p v qs=>
  subst hls;obtain⟨_,_,_,h4⟩:=h;cases hd:(J p).d<;>simp only[hd,ca,aJ]at h4 hl;subst hl;exact fA h4.1
 case b2s x=>
  subst hls;exact yQ h.2.2.1 hl
 case app k x y=>
  subst hls;obtain⟨_,_,h3,h4⟩:=h
  grind [ca,fA,yQ]
 case appN k y=>
  subst hls;exact yQ h.2.1 hl
 case aI x=>
  subst hls;obtain⟨_,h4⟩:=h;cases hd:(J x).d<;>simp only[hd,ca,aJ,de]at h4 hl;subst hl;intro e;simp[e]at h4
 case call f args sh=>
  cases hn:aP (iL J args)<;>simp only[hn,cond_true,cond_false,aC,reduceCtorEq]at hls;subst hls;exact absurd hl aF
 case callv f args sh=>
  grind
 case callF n r args sh=>
  subst hls;obtain⟨_,_,_,h4⟩:=h;cases hd:(J r).d<;>simp only[hd,ca,aJ,de]at h4 hl;subst hl;exact fA h4.2.2.1
omit [cI]in
theorem zy {i:az}(h:i.cM=false)(hf:i.lv draw g=true):
  eW Y draw (⟨i,g⟩::r) env vs st K=(yV vs g/\(flag vs g=true->i.eL Y (Src.ev env vs) st.m/\
     eW Y draw r env (vs++[⟨true,i.val Y (Src.ev env vs) st.m (st.nx+vs.length)⟩]) {st with m:=i.bR Y (Src.ev env vs) st.m (st.nx+vs.length)} K)/\
    (flag vs g=false->eW Y draw r env (vs++[⟨false,.any⟩]) st K)):=by
 cases i<;>first
  |(simp[az.cM]at h;done)
  |(simp only[eW];rw[ak hf])
omit [cI]in
theorem nI {i:az}(h:i.cM=false)(hf:i.lv draw g=false):
  eW Y draw (⟨i,g⟩::r) env vs st K=(VN vs i g/\(flag vs g=true->i.eL Y (Src.ev env vs) st.m)/\
   ((flag vs g=true->i.K4 draw (Src.ev env vs))->∃d,(flag vs g=true->i.val Y (Src.ev env vs) st.m (st.nx+vs.length)=d)/\
     eW Y draw r env (vs++[⟨flag vs g,d⟩]) {st with m:=i.bR Y (Src.ev env vs) st.m (st.nx+vs.length)} K)):=by
 cases i<;>first
  |(simp[az.cM]at h;done)
  |(simp only[eW];rw[ai (by rw[hf];simp)])
def RD.af2 {v:Value}(h:RD ν x v d):(∀k es,d=.sl k es->es.length<=9223372036854775807)/\(∀l k i n,d=.own l k i n->n<=9223372036854775807)/\(∀s,d=.str s->s.length<=9223372036854775807):=by
 cases h<;>refine⟨?_, ?_, ?_⟩<;>intros<;>simp_all[maxLen]<;>omega
theorem WA {i:az}(h:∀s,(i=.len s\/i=.lenS s)->(draw=true->s.F3=true)->(J s).ok=true->∃ν x v,RD ν x v (J s).d):i.K4 draw J:=by
 cases i<;>simp only[az.K4]
 case len s=>
  cases hb:(draw&& !s.F3)<;>simp only[cond_true,cond_false];intro hok;obtain⟨ν,x,v,hr⟩:=h s (.inl rfl) (λhd=>by simpa[hd]using hb) hok;obtain⟨a1,a2,a3⟩:=hr.af2
  grind
 case lenS s=>
  cases hb:(draw&& !s.F3)<;>simp only[cond_true,cond_false];intro hok;obtain⟨ν,x,v,hr⟩:=h s (.inr rfl) (λhd=>by simpa[hd]using hb) hok;obtain⟨a1,a2,a3⟩:=hr.af2
  grind
theorem PT {o:Oper}{s:Src}(hc:C.op defs o=some (.len s)\/C.op defs o=some (.lenS s)):∃p∈o.op.operands.toList,C.src defs p=some s:=by
 cases ho:o.op with
 |call c=>
  obtain⟨callee,args,argTypes⟩:=c;cases callee with
  |builtin bu=>
   cases bu with
   |len=>
    simp only[CC.op,ho]at hc;split at hc
    .rename_i p t hargs htys;refine⟨p,by simp[Op.operands,Call.operands,hargs], ?_⟩;split at hc<;>simp_all
    .simp at hc
   |min=>simp only[CC.op,ho]at hc;(repeat' split at hc)<;>simp_all
   |max=>simp only[CC.op,ho]at hc;(repeat' split at hc)<;>simp_all
   |append=>simp only[CC.op,ho]at hc;(repeat' split at hc)<;>simp_all
   |_=>simp[CC.op,ho]at hc
  |value f=>
   grind [CC.op]
  |invoke r n=>simp only[CC.op,ho]at hc;(repeat' split at hc)<;>simp at hc
 |makeFunc fn fst caps=>cases fn<;>simp only[CC.op,ho]at hc<;>(repeat' split at hc)<;>simp_all
 |next it b=>cases b<;>simp[CC.op,ho]at hc
 |typeAssert p xt t ok=>cases ok<;>simp only[CC.op,ho]at hc<;>(try(repeat' split at hc))<;>simp at hc
 |lookup t p q ok=>
  cases ok with
  |true=>simp only[CC.op,ho]at hc;(repeat' split at hc)<;>simp_all
  |false=>simp only[CC.op,ho]at hc;(repeat' split at hc)<;>simp_all
 |makeMap t r=>cases r<;>simp only[CC.op,ho]at hc<;>(try(repeat' split at hc))<;>simp_all
 |_=>
  simp only[CC.op,ho]at hc
  (try(repeat' split at hc))<;>simp at hc
theorem H3 {o:Oper}{ss:List Src}(hc:C.op defs o=some (.callM n ss)):
  ∃fid args tys,o.op=.call {callee:=.value (.func fid),args,argTypes:=tys}/\dK C.ν fid=some n/\C.bR.contains (2*n)=true/\C.wi defs args.toList=some ss:=by
 cases ho:o.op with
 |call c=>
  obtain⟨callee,args,argTypes⟩:=c;cases callee with
  |invoke r n=>simp only[CC.op,ho]at hc;(repeat' split at hc)<;>simp at hc
  |builtin b=>grind [CC.op]
  |value v=>grind [CC.op]
 |makeFunc fn fst caps=>cases fn<;>simp only[CC.op,ho]at hc<;>(repeat' split at hc)<;>simp_all
 |next it b=>cases b<;>simp[CC.op,ho]at hc
 |typeAssert p xt t ok=>cases ok<;>simp only[CC.op,ho]at hc<;>(try(repeat' split at hc))<;>simp at hc
 |lookup t p q ok=>
  cases ok with
  |true=>simp only[CC.op,ho]at hc;(repeat' split at hc)<;>simp_all
  |false=>simp only[CC.op,ho]at hc;(repeat' split at hc)<;>simp_all
 |makeMap t r=>cases r<;>simp only[CC.op,ho]at hc<;>(try(repeat' split at hc))<;>simp_all
 |_=>
  simp only[CC.op,ho]at hc
  (try(repeat' split at hc))<;>simp at hc
theorem Fq {o:Oper}{fs:Src}{ss:List Src}(hc:C.op defs o=some (.callvM fs ss)):
  ∃t args tys,o.op=.call {callee:=.value (.tmp t),args,argTypes:=tys}/\C.src defs (.tmp t)=some fs/\C.wi defs args.toList=some ss:=by
 cases ho:o.op with
 |call c=>
  obtain⟨callee,args,argTypes⟩:=c;cases callee with
  |invoke r n=>simp only[CC.op,ho]at hc;(repeat' split at hc)<;>simp at hc
  |builtin b=>grind [CC.op]
  |value v=>grind [CC.op]
 |makeFunc fn fst caps=>cases fn<;>simp only[CC.op,ho]at hc<;>(repeat' split at hc)<;>simp_all
 |next it b=>cases b<;>simp[CC.op,ho]at hc
 |typeAssert p xt t ok=>cases ok<;>simp only[CC.op,ho]at hc<;>(try(repeat' split at hc))<;>simp at hc
 |lookup t p q ok=>
  cases ok with
  |true=>simp only[CC.op,ho]at hc;(repeat' split at hc)<;>simp_all
  |false=>simp only[CC.op,ho]at hc;(repeat' split at hc)<;>simp_all
 |makeMap t r=>cases r<;>simp only[CC.op,ho]at hc<;>(try(repeat' split at hc))<;>simp_all
 |_=>
  simp only[CC.op,ho]at hc
  (try(repeat' split at hc))<;>simp at hc
def Y1 {ev:Operand->Value}{o:Oper}{ss:List Src}{K:D->St->Prop}(hcst:∀d,J (.c d)=⟨true,d⟩)(hΓ:Ok C.P C.ν C.bR Y)(hc:C.op defs o=some (.callM n ss))(hρ:vz C defs J ev x o.op.operands.toList)(hok:BW J ss)(hs:fG C.ν x (look st.m))(hfr:fk st x)(htr:Y.tr n (iL J ss) st K):
  jJ C.P x (λv x'=>∃d st',K d st'/\Step x x'/\RD C.ν x' v d/\fG C.ν x' (look st'.m)/\fk st' x') ((execOp ev o).run C.P x.w):=by
 obtain⟨fid,args,tys,ho,h1,h3,h2⟩:=H3 hc;have hv:=hρ (.func fid) du (.c (.fn n [])) (by simp[CC.src,h1]) (by rw[hcst]);rw[hcst]at hv;obtain⟨s1,s2,s3⟩:=iz hρ _ _ (λo' ho'=>EY) h2 hok;generalize hep:ev (.func fid)=vf at hv;cases hv with
 |ef=>exact absurd (hΓ.small _ _ h1) ae
 |bx=>exact absurd (hΓ.small _ _ h1) ae
 |mpn=>exact absurd (hΓ.small _ _ h1) ae
 |fn fid' _ cs _ hν hl _=>
  have hcs:cs=#[]:=by apply Array.ext';simpa using hl
  subst hcs;have hrun:(execOp ev o).run C.P x.w=(callFunc fid' (args.map ev)).run C.P x.w:=by
   simp[execOp,ho,resolve,Deferred.ofValue,invoke,hep]
  rw[hrun];refine hΓ.bR fid' n hν x _ (iL J ss) st K (by simp;simpa using s2.symm) (λi hi=>?_) hs hfr htr;have:=s3 i hi
  rwa [<-Array.toList_map,bL]at this
theorem ael {ev:Operand->Value}{o:Oper}{s:Src}{ng:Bool}(hcst:∀d,J (.c d)=⟨true,d⟩)(hc:C.op defs o=some (.isNl s ng))(hρ:vz C defs J ev x o.op.operands.toList)(hok:(J s).ok=true)(hsl:slB (J s).d):
  ∃b,nlB (J s).d b/\(execOp ev o).run C.P x.w=.ok (.value (.bool (bif ng then !b else b))) x.w:=by
 obtain⟨t,p,q,u,e,ho,h1,h2,hu⟩:∃t p q u e,o.op=.binOp (if ng then .neq else .eql) t p q u/\C.src defs p=some s/\C.src defs q=some (.c .aR)/\C.P.underlying t=some (.slice e):=by
  cases ho:o.op with
  |binOp op t p q u=>
   simp only[CC.op,ho]at hc
   (repeat' split at hc)<;>simp only[aC,reduceCtorEq,az.isNl.injEq]at hc
   all_goals
    obtain⟨rfl,rfl⟩:=hc;exact⟨t,p,q,u,_,rfl,lY,lY,lY⟩
  |call c=>
   obtain⟨callee,args,argTypes⟩:=c;cases callee with
   |invoke r n=>simp only[CC.op,ho]at hc;(repeat' split at hc)<;>simp at hc
   |builtin b=>grind [CC.op]
   |value v=>grind [CC.op]
  |typeAssert p xt t ok=>cases ok<;>simp only[CC.op,ho]at hc<;>(try(repeat' split at hc))<;>simp at hc
  |makeFunc fn fst caps=>cases fn<;>simp only[CC.op,ho]at hc<;>(repeat' split at hc)<;>simp_all
  |next it b=>cases b<;>simp[CC.op,ho]at hc
  |lookup t p q ok=>
   cases ok with
   |true=>simp only[CC.op,ho]at hc;(repeat' split at hc)<;>simp_all
   |false=>simp only[CC.op,ho]at hc;(repeat' split at hc)<;>simp_all
  |makeMap t r=>cases r<;>simp only[CC.op,ho]at hc<;>(try(repeat' split at hc))<;>simp_all
  |_=>
   simp only[CC.op,ho]at hc
   (try(repeat' split at hc))<;>simp at hc
 have hv:=hρ p rB s h1 hok;have hq:ev q=.slice none 0 0:=by
  have:=hρ q rB (.c .aR) h2 (by rw[hcst]);rw[hcst]at this;generalize ev q=vq at this;cases this;rfl
 obtain⟨a,n,c,he,hb⟩:∃a n c,ev p=.slice a n c/\nlB (J s).d a.isNone:=by
  generalize (J s).d=d at hv hsl⊢;generalize ev p=vp at hv⊢;cases hv<;>simp only[slB]at hsl
  case aR=>exact⟨_,_,_,rfl,rfl⟩
  case sl ha _ _ _ _ _ _ _=>exact⟨_,_,_,rfl,λhn=>ha.elim id λh=>by rw[h.1]at hn;cases hn⟩
  case own=>exact⟨_,_,_,rfl,λhn=>by cases hn⟩
  case own0=>exact⟨_,_,_,rfl,λ_=>rfl⟩
 refine⟨_,hb,sx (ev:=ev) ho (oH _ _ _ _ (by rw[he];exact⟨aF,aF⟩) _) ?_⟩;rw[he,hq];cases ng
 .simpa using Lib.run_eql_slice_nil x.w t e a n c 0 0 hu
 .simpa using run_neq_slice_nil_any (P:=C.P) x.w t e a n c 0 0 hu
def UN {ev:Operand->Value}{o:Oper}{fs:Src}{caps:List D}{ss:List Src}{K:D->St->Prop}(hΓ:Ok C.P C.ν C.bR Y)(hc:C.op defs o=some (.callvM fs ss))(hρ:vz C defs J ev x o.op.operands.toList)(hfo:(J fs).ok=true)(hd:(J fs).d=.fn n caps)(hn2:n<2000000)(hok:BW J ss)(hs:fG C.ν x (look st.m))(hfr:fk st x)(htr:Y.tr (OP n) (OO n (iL J ss) caps) st K):
  jJ C.P x (λv x'=>∃d st',K d st'/\Step x x'/\RD C.ν x' v d/\fG C.ν x' (look st'.m)/\fk st' x') ((execOp ev o).run C.P x.w):=by
 obtain⟨t,args,tys,ho,h1,h2⟩:=Fq hc;have hv:=hρ (.tmp t) du fs h1 hfo;rw[hd]at hv;obtain⟨s1,s2,s3⟩:=iz hρ _ _ (λo' ho'=>EY) h2 hok;have hsz:args.size=(iL J ss).length:=by simpa using s2.symm
 generalize hep:ev (.tmp t)=vf at hv;cases hv with
 |bx=>exact absurd hn2 ae
 |mpn=>exact absurd hn2 ae
 |im=>exact absurd hn2 ae
 |fn fid' _ cs _ hν hl hcs=>
  have hn:=hΓ.small _ _ hν;have e1:OP n=n:=by simp[OP,hn]
  have e2:OO n (iL J ss) caps=iL J ss++caps:=by simp[OO,hn]
  rw[e1,e2]at htr;have hrun:(execOp ev o).run C.P x.w=(callFunc fid' (args.map ev++cs)).run C.P x.w:=by
   simp[execOp,ho,resolve,Deferred.ofValue,invoke,hep]
  rw[hrun];refine hΓ.bR fid' n hν x _ (iL J ss++caps) st K (by simp[hl,hsz]) (λi hi=>?_) hs hfr htr;rw[nw,cS];simp only[Array.size_map,hsz];split
  .rename_i hlt;have:=s3 i hlt
   rwa [<-Array.toList_map,bL]at this
  .exact hcs _ (by simp at hi;omega)
 |ef fid' n' cs _ hν hl hcs=>
  have e1:OP (n'+1000000)=n':=by unfold OP;rw[ai ae];omega
  have e2:OO (n'+1000000) (iL J ss) caps=caps++iL J ss:=by unfold OO;rw[ai ae]
  rw[e1,e2]at htr;have hrun:(execOp ev o).run C.P x.w=(callFunc fid' (cs++args.map ev)).run C.P x.w:=by
   simp[execOp,ho,resolve,Deferred.ofValue,invoke,hep]
  rw[hrun];refine hΓ.bR fid' n' hν x _ (caps++iL J ss) st K (by simp[hl,hsz]) (λi hi=>?_) hs hfr htr;rw[nw,cS];rw[hl];split
  .exact hcs i lY
  .have:=s3 (i-caps.length) (by simp at hi;omega)
   rwa [<-Array.toList_map,bL]at this
end
end
section
variable [cI]
section
variable {C:CC}{Y:Ctx}
def fk.up (h:fk st x)(hn:st.nx<=n):fk ⟨n,st.m⟩ x:=
 ⟨λl hl=>h.β l (dN hn hl),λl hl=>jj (h.m l hl) hn⟩
def A7.iff {D D':Nat->Prop}(h:A7 C env DD VS D a x)(hD:∀p,D' p↔D p):A7 C env DD VS D' a x:=by
 have:D'=D:=funext λp=>propext (hD p)
 subst this;exact h
def A7.ext (e:aY)(h:A7 C env DD vs (· <k) a x)(hk:vs.length=k):A7 C env DD (vs++[e]) (· <k) a x:=by
 have hg:∀p,p<k->(vs++[e]).getD p .un=vs.getD p .un:=λp hp=>by rw[cS,ak ae]
 exact⟨λp t hp h1 h2=>by rw[hg p hp]at h2⊢;exact h.val p t hp h1 h2,λp t hp h1 h2=>by rw[hg p hp]at h2;exact h.und p t hp h1 h2,h.old,h.size,h.defers⟩
def fG.eq {f':Nat->Option bm}(h:fG ν x f)(e:∀l,f' l=f l):fG ν x f':=by
 have:f'=f:=funext e;subst this;exact h
def aal {ops:Array Oper}(hsp:Spec C ops.toList l)(hΓ:Ok C.P C.ν C.bR Y){Kc:Act->World->Prop}{D:Nat->Prop}{o:Oper}{g:GI}(ho:ops[k]? =some o)(hg1:l[k]? =some g)(hg2:OpX C ((ops.toList.map (·.dst)).take k) o g.i)(hg3:CC.guard ((ops.toList.map (·.dst)).take k) o.guard=some g.g)(hk:vs.length=k)(hDlt:∀p,D p->p<k)(hreads:∀t p,Operand.tmp t∈o.op.operands.toList->(ops.toList.map (·.dst))[p]? =some (some t)->(p<k->D p)/\(k<=p->¬D p))(hgd:∀j w,o.guard=some (j,w)->j<k->D j)(hmid:A7 C env (ops.toList.map (·.dst)) vs D a x)(hs:fG C.ν x (look st.m))(hf:fk ⟨st.nx+k,st.m⟩ x)(hw:eW Y false (g::r) env vs st K)(hK:∀e st' x' a',A7 C env (ops.toList.map (·.dst)) (vs++[e]) (λp=>D p\/p=k) a' x'->Step x x'->fG C.ν x' (look st'.m)->fk ⟨st'.nx+(k+1),st'.m⟩ x'->eW Y false r env (vs++[e]) st' K->Kc a' x'.w):wpOp C.P ops Q k Kc a x.w:=by
 have ho':ops.toList[k]? =some o:=by simpa using ho
 have hvt:vs.take k=vs:=fE ae;have hρ:vz C ((ops.toList.map (·.dst)).take k) (Src.ev env vs) a.eval x o.op.operands.toList:=by
  have:=hmid.rho (i:=k) (os:=o.op.operands.toList) hreads
  rwa [hvt]at this
 have hcst:∀d,Src.ev env vs (.c d)=⟨true,d⟩:=λ_=>rfl
 have hdst:(ops.toList.map (·.dst))[k]? =some o.dst:=by rw[List.getElem?_map,ho',Option.map_some]
 have hput:∀(e:aY) (v:Value) (x':X),Le x x'->(e.ok=true->RD C.ν x' v e.d)->(e.ok=false->v=undef)->A7 C env (ops.toList.map (·.dst)) (vs++[e]) (λp=>D p\/p=k) (a.put o.dst v) x':=by
  intro e v x' hle h1 h2;have he:(vs++[e]).getD k .un=e:=by rw[cS,ai ae];simp[hk]
  have hext:A7 C env (ops.toList.map (·.dst)) (vs++[e]) D a x:=by
   have hg:∀p,D p->(vs++[e]).getD p .un=vs.getD p .un:=λp hp=>by rw[cS,ak (by have:=hDlt p hp;omega)]
   exact⟨λp t hp h1 h2=>by rw[hg p hp]at h2⊢;exact hmid.val p t hp h1 h2,λp t hp h1 h2=>by rw[hg p hp]at h2;exact hmid.und p t hp h1 h2,hmid.old,hmid.size,hmid.defers⟩
  exact hext.put (i:=k) hle hdst (λt ht=>⟨(hsp.dst k o t ho' ht).1,λp hp e'=>hp (hsp.distinct (by rw[hdst,ht]) e')⟩) (by rw[he];exact h1) (by rw[he];exact h2) (λp=>Iff.rfl)
 unfold wpOp;simp only[ho];obtain⟨i,gd⟩:=g;by_cases hcm:i.cM=true
 .cases i<;>simp only[az.cM]at hcm<;>try cases hcm
  .rename_i f ss;simp only[eW]at hw;obtain⟨w1,w2,w3⟩:=hw;have hfl:=kn (g:=⟨.callM f ss,gd⟩) hmid hg3 hgd (by rw[hvt];exact w1);simp only[hvt]at hfl;rw[hfl];cases hfg:flag vs gd with
   |true=>
    rw[ak rfl];left;obtain⟨w4,w5⟩:=w2 hfg;rw[hk]at w5;refine(Y1 (st:=⟨st.nx+k,st.m⟩) hcst hΓ Q8 hρ w4 hs hf w5).wp (λv x' hG=>?_);obtain⟨d,st',hK1,hst1,hrd,hs1,hf1⟩:=hG;obtain⟨hnx,hw'⟩:=hK1;refine hK ⟨true,d⟩ ⟨st'.nx-k,st'.m⟩ x' (a.put o.dst v) (hput ⟨true,d⟩ v x' hst1.le (λ_=>hrd) (λh=>cw)) hst1 hs1 ?_ hw';exact hf1.up jH
   |false=>
    rw[ai aF];refine hK ⟨false,.any⟩ st x (a.put o.dst undef) (hput ⟨false,_⟩ undef x (Le.refl x) (λh=>cw) (λ_=>rfl)) (.refl _) hs ?_ (w3 hfg);exact⟨λl' hl'=>hf.β l' zR,λl' hl'=>E0⟩
  .rename_i f ss;simp only[eW]at hw;obtain⟨w1,w2,w3⟩:=hw;have hfl:=kn (g:=⟨.callvM f ss,gd⟩) hmid hg3 hgd (by rw[hvt];exact w1);simp only[hvt]at hfl;rw[hfl];cases hfg:flag vs gd with
   |true=>
    rw[ak rfl];left;obtain⟨w0,w4,w5⟩:=w2 hfg;rw[hk]at w5;cases hd:(Src.ev env vs f).d<;>simp only[hd]at w5;refine(UN (st:=⟨st.nx+k,st.m⟩) hΓ Q8 hρ w0 hd w5.1 w4 hs hf w5.2).wp (λv x' hG=>?_);obtain⟨d,st',hK1,hst1,hrd,hs1,hf1⟩:=hG;obtain⟨hnx,hw'⟩:=hK1;refine hK ⟨true,d⟩ ⟨st'.nx-k,st'.m⟩ x' (a.put o.dst v) (hput ⟨true,d⟩ v x' hst1.le (λ_=>hrd) (λh=>cw)) hst1 hs1 ?_ hw';exact hf1.up jH
   |false=>
    rw[ai aF];refine hK ⟨false,.any⟩ st x (a.put o.dst undef) (hput ⟨false,_⟩ undef x (Le.refl x) (λh=>cw) (λ_=>rfl)) (.refl _) hs ?_ (w3 hfg);exact⟨λl' hl'=>hf.β l' zR,λl' hl'=>E0⟩
  .rename_i s ng;simp only[eW]at hw;obtain⟨w1,w2,w3⟩:=hw;have hfl:=kn (g:=⟨.isNl s ng,gd⟩) hmid hg3 hgd (by rw[hvt];exact w1);simp only[hvt]at hfl;rw[hfl];cases hfg:flag vs gd with
   |true=>
    rw[ak rfl];left;obtain⟨w0,w1,w2⟩:=w2 hfg;obtain⟨b,hb,hrun⟩:=ael hcst Q8 hρ w0 w1;refine jJ.wp (G:=λv x'=>v=.bool (bif ng then !b else b)/\x'=x) (.inl ⟨_,x,.inl hrun,rfl,rfl⟩) (λv x' hG=>?_);obtain⟨rfl,rfl⟩:=hG;refine hK ⟨true,.bool (bif ng then !b else b)⟩ st _ _ (hput ⟨true,_⟩ _ _ (Le.refl _) (λ_=>.bool _) (λh=>cw)) (.refl _) hs ?_ (w2 b hb);exact⟨λl' hl'=>hf.β l' zR,λl' hl'=>E0⟩
   |false=>
    rw[ai aF];refine hK ⟨false,.any⟩ st x (a.put o.dst undef) (hput ⟨false,_⟩ undef x (Le.refl x) (λh=>cw) (λ_=>rfl)) (.refl _) hs ?_ (w3 hfg);exact⟨λl' hl'=>hf.β l' zR,λl' hl'=>E0⟩
 .have hcm':i.cM=false:=by simpa using hcm
  have hL:x.β (st.nx+k)=none:=hf.β _ (aT _);have hlL:look st.m (st.nx+k)=none:=by
   cases hx:look st.m (st.nx+k)with
   |none=>rfl
   |some b=>have:=hf.m (st.nx+k) (by simp only;rw[hx];simp);simp only at this;omega
  by_cases hfk:i.lv false gd=true
  .rw[zy hcm' hfk]at hw;obtain⟨w1,w2,w3⟩:=hw;have hfl:=kn (g:=⟨i,gd⟩) hmid hg3 hgd (by rw[hvt];exact w1);simp only[hvt]at hfl;rw[hfl];rw[hk]at w2;cases hfg:flag vs gd with
   |true=>
    rw[ak rfl];left;obtain⟨hob,hw'⟩:=w2 hfg;have hag:E7 (look st.m) st.m (i.nd (Src.ev env vs)):=by
     unfold E7;split<;>intros<;>rfl
    refine(H2 (L:=st.nx+k) hg2 hcm' hΓ hρ hcst hob hs hag hL hlL (λ_=>rfl)).wp (λv x' hG=>?_);obtain⟨g1,g2,g3,g4⟩:=hG;refine hK ⟨true,_⟩ _ x' (a.put o.dst v) (hput ⟨true,_⟩ v x' g1.le (λ_=>g2) (λh=>cw)) g1 ?_ ?_ hw'
    .refine g3.eq λl'=>?_
     by_cases hlw:l'∈i.wr (Src.ev env vs) (st.nx+k)
     .simp[jc,hlw]
     .simp only[jc,hlw,a8];exact yP hlw
    .refine⟨λl' hl'=>?_,λl' hl'=>?_⟩
     .have hl'':st.nx+(k+1)<=l':=hl';rw[g4 l' ae];exact hf.β l' (by show st.nx+k<=l';omega)
     .show l'<st.nx+(k+1);rcases tq (.inr hob) hl' with h|h
      .have:=hf.m l' h;simp only at this;omega
      .omega
   |false=>
    rw[ai aF];have hw':=w3 hfg;refine hK ⟨false,.any⟩ st x (a.put o.dst undef) (hput ⟨false,_⟩ undef x (Le.refl x) (λh=>cw) (λ_=>rfl)) (.refl _) hs ?_ hw';exact⟨λl' hl'=>hf.β l' zR,λl' hl'=>E0⟩
  rw[nI hcm' (by simpa using hfk)]at hw;obtain⟨w1,w2,w3⟩:=hw;have hfl:=kn (g:=⟨i,gd⟩) hmid hg3 hgd (by rw[hvt];exact afO w1);simp only[hvt]at hfl;rw[hfl];rw[hk]at w3;cases hfg:flag vs gd with
  |true=>
   rw[ak rfl];left;have hob:=w2 hfg;have hasm:i.K4 false (Src.ev env vs):=by
    refine WA λs hs' _ hok=>?_
    obtain⟨p,hp1,hp2⟩:=PT (C:=C) (o:=o) (s:=s) (defs:=(ops.toList.map (·.dst)).take k) (by rcases hs' with rfl|rfl<;>rcases hg2 with h|⟨_,_,_,h,_⟩|⟨_,_,h,_⟩|⟨_,_,_,_,h,_⟩|⟨_,_,_,h|h,_⟩|⟨_,_,_,_,h,_⟩<;>first|exact .inl h|exact .inr h|cases h);exact⟨_,_,_,hρ p hp1 s hp2 hok⟩
   obtain⟨dv,hdv,hw'⟩:=w3 (λ_=>hasm);replace hdv:=hdv hfg;have hag:E7 (look st.m) st.m (i.nd (Src.ev env vs)):=by
    unfold E7;split<;>intros<;>rfl
   refine(H2 (L:=st.nx+k) hg2 hcm' hΓ hρ hcst hob hs hag hL hlL (λ_=>rfl)).wp (λv x' hG=>?_);obtain⟨g1,g2,g3,g4⟩:=hG;rw[hfg]at hw';rw[hdv]at g2;refine hK ⟨true,_⟩ _ x' (a.put o.dst v) (hput ⟨true,_⟩ v x' g1.le (λ_=>g2) (λh=>cw)) g1 ?_ ?_ hw'
   .refine g3.eq λl'=>?_
    by_cases hlw:l'∈i.wr (Src.ev env vs) (st.nx+k)
    .simp[jc,hlw]
    .simp only[jc,hlw,a8];exact yP hlw
   .refine⟨λl' hl'=>?_,λl' hl'=>?_⟩
    .have hl'':st.nx+(k+1)<=l':=hl';rw[g4 l' ae];exact hf.β l' (by show st.nx+k<=l';omega)
    .show l'<st.nx+(k+1);rcases tq (.inr hob) hl' with h|h
     .have:=hf.m l' h;simp only at this;omega
     .omega
  |false=>
   rw[ai aF];have hcalm:i.calm=true:=by
    cases gd with
    |none=>simp[flag]at hfg
    |some jw=>obtain⟨j,w⟩:=jw;exact w1.1
   obtain⟨dv,hdv,hw'⟩:=w3 (λh=>by rw[hfg]at h;cases h);rw[hfg]at hw';refine hK ⟨false,_⟩ _ x (a.put o.dst undef) (hput ⟨false,_⟩ undef x (Le.refl x) (λh=>cw) (λ_=>rfl)) (.refl _) ?_ ?_ hw'
   .refine hs.less λl'=>?_
    by_cases hlw:l'∈i.wr (Src.ev env vs) (st.nx+k)
    .exact .inr (.inr (by rw[kD hcalm hlw];exact hL))
    .exact .inl (yP hlw)
   .refine⟨λl' hl'=>hf.β l' zR,λl' hl'=>?_⟩;show l'<st.nx+(k+1);rcases tq (Y:=Y) (.inl hcalm) hl' with h|h
    .have:=hf.m l' h;simp only at this;omega
    .omega
def SR {ops:Array Oper}(hsp:Spec C ops.toList l)(hΓ:Ok C.P C.ν C.bR Y){x0:X}(hK:∀vs' st' a' x',K vs' st'->vs'.length=ops.size->A7 C env (ops.toList.map (·.dst)) vs' (· <ops.size) a' x'->Step x0 x'->fG C.ν x' (look st'.m)->fk st' x'->Q .normal a' x'.w):
  ∀(n k:Nat) (vs:List aY) (st:St) (x:X) (a:Act),k+n=ops.size->vs.length=k->A7 C env (ops.toList.map (·.dst)) vs (· <k) a x->Step x0 x->fG C.ν x (look st.m)->fk ⟨st.nx+k,st.m⟩ x->
   eW Y false (l.drop k) env vs st K->wpOps C.P ops Q (List.range' k n) a x.w:=by
 intro n;induction n with
 |zero=>
  intro k vs st x a hkn hk hmid hst hs hf hw;have hlen:=hsp.len;have hd:l.drop k=[]:=j7 (by simp at hlen;omega);rw[hd]at hw;simp only[eW]at hw;simp only[List.range'_zero,wpOps];obtain rfl:k=ops.size:=ae;exact hK vs _ a x hw hk hmid hst hs (by rw[hk];exact hf)
 |succ n ih=>
  intro k vs st x a hkn hk hmid hst hs hf hw;have hkl:k<ops.size:=ae;obtain⟨o,ho⟩:∃o,ops[k]? =some o:=⟨ops[k],by simp[hkl]⟩
  obtain⟨g,hg1,hg2,hg3⟩:=hsp.op k o (by simpa using ho);have hlk:k<l.length:=by have:=hsp.len;simp at this;omega
  have hdrop:l.drop k=g::l.drop (k+1):=by
   rw[fh hlk];congr 1;exact(List.getElem?_eq_some_iff.1 hg1).2
  rw[hdrop]at hw;rw[List.range'_succ,wpOps_cons];exact aal hsp hΓ ho hg1 hg2 hg3 hk (λ_ h=>h) (λt p _ _=>⟨λh=>h,λh=>ae⟩) (λj w _ h=>h) hmid hs hf hw
   (λe st' x' a' h1 h2 h3 h4 h5=>ih (k+1) _ st' x' a' ae (by simp[hk]) (h1.iff λp=>ae) (hst.trans h2) h3 h4 h5)
end
end
section
variable [cI]
section
variable {C:CC}{Y:Ctx}
structure Trace (Y:Ctx)(l:List GI)(env:List aY)(nx:Nat)(VS:List aY)(M:Nat->List (Nat×bm)):Prop where
 step:∀(k:Nat) (g:GI),l[k]? =some g->M (k+1)=g.i.bR Y (Src.ev env (VS.take k)) (M k) (nx+k)
 stop:∀k:Nat,l[k]? =none->M (k+1)=M k
 ent:∀(k:Nat) (g:GI),l[k]? =some g->(VS.getD k .un).ok=flag (VS.take k) g.g/\(flag (VS.take k) g.g=true->g.i.val Y (Src.ev env (VS.take k)) (M k) (nx+k)=(VS.getD k .un).d)
 VN:∀(k:Nat) (g:GI),l[k]? =some g->VN (VS.take k) g.i g.g
 eL:∀(k:Nat) (g:GI),l[k]? =some g->flag (VS.take k) g.g=true->g.i.eL Y (Src.ev env (VS.take k)) (M k)
 len:VS.length=l.length
 fresh0:∀l',look (M 0) l'≠none->l'<nx
theorem D3 {env:List aY}{K:List aY->St->Prop}:∀(l:List GI) (vs:List aY) (st:St),(∀g∈l,g.i.cM=false)->(∀g∈l,∀vs',g.i.K4 true (Src.ev env vs'))->eW Y true l env vs st K->
  ∃(VS:List aY) (M:Nat->List (Nat×bm)),VS.take vs.length=vs/\VS.length=vs.length+l.length/\(∀k,k<=vs.length->M k=st.m)/\(∀k,vs.length+l.length<=k->M k=M (vs.length+l.length))/\
   (∀(k:Nat) (g:GI),l[k]? =some g->M (vs.length+k+1)=g.i.bR Y (Src.ev env (VS.take (vs.length+k))) (M (vs.length+k)) (st.nx+(vs.length+k))/\
     ((VS.getD (vs.length+k) .un).ok=flag (VS.take (vs.length+k)) g.g/\(flag (VS.take (vs.length+k)) g.g=true->g.i.val Y (Src.ev env (VS.take (vs.length+k))) (M (vs.length+k)) (st.nx+(vs.length+k))=(VS.getD (vs.length+k) .un).d))/\
     VN (VS.take (vs.length+k)) g.i g.g/\(flag (VS.take (vs.length+k)) g.g=true->g.i.eL Y (Src.ev env (VS.take (vs.length+k))) (M (vs.length+k))))/\
   K VS ⟨st.nx+(vs.length+l.length),M (vs.length+l.length)⟩
 |[],vs,st,_,_,h=>⟨vs,λ_=>st.m,aF,aF,λ_ _=>rfl,λ_ _=>rfl,λk g h=>ic,by simpa[eW]using h⟩
 |⟨i,g⟩::r,vs,st,hcm,hasm,h=>by
  rw[nI (hcm _ (.head _)) rfl]at h;obtain⟨w1,w2,w3⟩:=h;obtain⟨dv,hdv,w3⟩:=w3 λ_=>hasm _ (.head _) vs
  obtain⟨VS,M,a1,a2,a3,a4,a5,a6⟩:=D3 r _ _ (λg hg=>hcm g (.tail _ hg)) (λg hg=>hasm g (.tail _ hg)) w3;simp only[bV,bH,b7,cL]at a1 a2 a3 a4 a5 a6;have b1:VS.take vs.length=vs:=by
   have:=ar (List.take vs.length) a1;rw[List.take_take,Nat.min_eq_left ae]at this;rw[this];simp
  have b2:VS.getD vs.length .un=⟨flag vs g,dv⟩:=by
   have:(VS.take (vs.length+1)).getD vs.length .un=VS.getD vs.length .un:=getD_take _ _ _ _ ae;rw[<-this,a1,cS,ai ae];simp
  refine⟨VS,λk=>if k<=vs.length then st.m else M k,b1,uC,λk hk=>by simp[hk],λk hk=>?_,λk gi hk=>?_, ?_⟩
  .simp only[bH]at hk⊢;rw[ai ae,ai ae,a4 k ae,a4 (vs.length+(r.length+1)) ae]
  .cases k with
   |zero=>
    simp only[List.getElem?_cons_zero,aC]at hk;subst hk;simp only[Nat.add_zero];rw[ai ae,ak ae,b1,b2,a3 (vs.length+1) ae];exact⟨rfl,⟨rfl,hdv⟩,w1,w2⟩
   |succ k=>
    grind
  .simp only[bH];rw[ai ae];have e:vs.length+1+r.length=vs.length+(r.length+1):=ae;rw[e]at a6;exact a6
theorem A1 (hcm:∀g∈l,g.i.cM=false)(hasm:∀g∈l,∀vs',g.i.K4 true (Src.ev env vs'))(hf:∀l',look st.m l'≠none->l'<st.nx)(h:eW Y true l env [] st K):∃VS M,Trace Y l env st.nx VS M/\M 0=st.m/\K VS ⟨st.nx+l.length,M l.length⟩:=by
 obtain⟨VS,M,a1,a2,a3,a4,a5,a6⟩:=D3 l [] st hcm hasm h;simp only[b7,cL]at a1 a2 a3 a4 a5 a6;refine⟨VS,M,⟨λk g hk=>(a5 k g hk).1,λk hk=>?_,λk g hk=>(a5 k g hk).2.1,λk g hk=>(a5 k g hk).2.2.1,λk g hk=>(a5 k g hk).2.2.2,a2, ?_⟩,a3 0 (aT _),a6⟩
 .grind
 .rw[a3 0 (aT _)];exact hf
section trace
variable {nx:Nat}{M:Nat->List (Nat×bm)}
def Trace.qC (h:Trace Y l env nx VS M){g:GI}(hg:l[k]? =some g):g.i.calm=true\/(g.g=none/\g.i.eL Y (Src.ev env (VS.take k)) (M k)):=by
 cases hc:g.i.calm with
 |true=>exact .inl rfl
 |false=>
  right;have h1:=h.VN k g hg;have hn:g.g=none:=by
   cases hgg:g.g with
   |none=>rfl
   |some jw=>obtain⟨j,w⟩:=jw;rw[hgg]at h1;have:=h1.1;rw[hc]at this;cases this
  exact⟨hn,h.eL k g hg (by rw[hn];rfl)⟩
def Trace.fresh (h:Trace Y l env nx VS M):∀(k l':Nat),look (M k) l'≠none->l'<nx+k
 |0,l',hl=>h.fresh0 l' hl
 |k+1,l',hl=>by
  cases hg:l[k]? with
  |none=>
   rw[h.stop k hg]at hl;have:=Trace.fresh h k l' hl;omega
  |some g=>
   rw[h.step k g hg]at hl;have hco:g.i.calm=true\/g.i.eL Y (Src.ev env (VS.take k)) (M k):=(h.qC hg).imp id (·.2);rcases tq hco hl with h1|h1
   .have:=Trace.fresh h k l' h1;omega
   .omega
def Trace.lT (h:Trace Y l env nx VS M){l':Nat}:∀(n u:Nat),(∀(q:Nat) (g:GI),u<=q->q<u+n->l[q]? =some g->l'∉g.i.wr (Src.ev env (VS.take q)) (nx+q))->look (M (u+n)) l'=look (M u) l'
 |0,u,_=>rfl
 |n+1,u,hq=>by
  rw[<-Trace.lT h n u (λq g h1 h2=>hq q g h1 ae)];rw[<-Nat.add_assoc];cases hg:l[u+n]? with
  |none=>rw[h.stop _ hg]
  |some g=>rw[h.step _ g hg];exact yP (hq (u+n) g ae ae hg)
theorem Trace.same (h:Trace Y l env nx VS M){l' u v:Nat}(hq:∀(q:Nat)(g:GI),min u v<=q->q<max u v->l[q]? =some g->l'∉g.i.wr (Src.ev env (VS.take q)) (nx+q)):look (M u) l'=look (M v) l':=by
 rcases Nat.le_total u v with huv|huv
 .have:=h.lT (l':=l') (v-u) u (λq g h1 h2=>hq q g ae ae)
  grind
 .have:=h.lT (l':=l') (u-v) v (λq g h1 h2=>hq q g ae ae)
  grind
end trace
theorem vA (acc:List Nat)(p:Nat):∀(es:List Edge),(rC acc es).testBit p=true->∃e∈es,Region.binds .any e=true/\(p=e.on\/(acc.getD e.on 0).testBit p=true)
 |[],h=>by simp[rC]at h
 |e::r,h=>by
  simp only[rC]at h;split at h
  .rename_i hb;rw[Nat.testBit_or,cW,Nat.testBit_or,cW]at h;rcases h with(h|h)|h
   .grind
   .exact⟨e,.head _,hb,.inr h⟩
   .obtain⟨e',h1,h2⟩:=vA acc p r h;exact⟨e',.tail _ h1,h2⟩
  .obtain⟨e',h1,h2⟩:=vA acc p r h;exact⟨e',.tail _ h1,h2⟩
theorem FK:∀(ops:List Oper) (acc:List Nat),(pK acc ops).take acc.length=acc/\(pK acc ops).length=acc.length+ops.length/\
  ∀(j:Nat) (o:Oper),ops[j]? =some o->(pK acc ops).getD (acc.length+j) 0=rC ((pK acc ops).take (acc.length+j)) o.after.toList
 |[],acc=>⟨by simp[pK],by simp[pK],λj o h=>ic⟩
 |o::r,acc=>by
  obtain⟨a1,a2,a3⟩:=FK r (acc++[rC acc o.after.toList]);simp only[bV,bH,b7,cL]at a1 a2 a3;have e:pK acc (o::r)=pK (acc++[rC acc o.after.toList]) r:=rfl;rw[e];have b1:(pK (acc++[rC acc o.after.toList]) r).take acc.length=acc:=by
   have:=ar (List.take acc.length) a1;rw[List.take_take,Nat.min_eq_left ae]at this;rw[this];simp
  refine⟨b1,uC,λj o' hj=>?_⟩;cases j with
  |zero=>
   simp only[List.getElem?_cons_zero,aC]at hj;subst hj;rw[Nat.add_zero,b1];have:((pK (acc++[rC acc o.after.toList]) r).take (acc.length+1)).getD acc.length 0=(pK (acc++[rC acc o.after.toList]) r).getD acc.length 0:=getD_take _ _ _ _ ae;rw[<-this,a1,cS,ai ae];simp
  |succ j=>
   grind
theorem wV:∀(ops:List Oper) (p:Nat),BL p ops=true->∀(j:Nat) (o:Oper),ops[j]? =some o->∀e∈o.after,Region.binds .any e=true->e.on<p+j
 |[],p,_,j,o,h=>by simp at h
 |o::r,p,h,j,o',hj=>by
  simp only[BL,aK,List.all_eq_true]at h;cases j with
  |zero=>
   grind
  |succ j=>
   intro e he hb;have:=wV r (p+1) h.2 j o' nG e he hb;omega
def yA (i j:Nat):Prop:=(bs.getD (max j i) 0).testBit (min j i)=true
def ExU (l:List GI)(gj gi:az)(j i:Nat):Prop:=gi.rX=true/\((gj.isApp=true/\j<i)\/(gi.isUU=true/\gj.ny=true/\i<j/\∀q g,i<q->q<j->l[q]? =some g->g.i.calm=true\/g.i.ny=true)\/(gi.isW=true/\gj.narrow gi.R7=true/\i<j/\∀q g,i<q->q<j->l[q]? =some g->g.i.calm=true\/g.i.narrow gi.R7=true))
structure Order (ops:List Oper)(l:List GI)(bs:List Nat):Prop where
 bef:∀(j:Nat) (o:Oper),ops[j]? =some o->∀p,(bs.getD j 0).testBit p=true->∃e∈o.after,Region.binds .any e=true/\(p=e.on\/(bs.getD e.on 0).testBit p=true)
 edge:∀(j:Nat) (o:Oper),ops[j]? =some o->∀e∈o.after,Region.binds .any e=true->e.on<j
 reads:∀(j p:Nat) (oj op:Oper) (t:Nat),ops[j]? =some oj->ops[p]? =some op->op.dst=some t->t∈tmpsOf ops oj->p=j\/yA bs p j
 effs:∀(j i:Nat) (gj gi:GI),l[j]? =some gj->l[i]? =some gi->gj.i.calm=false->gi.i.free=false->(gi.i.jO=false\/(gj.i.isApp=true/\i<j))->i=j\/yA bs i j\/ExU l gj.i gi.i j i
def Zd {ops:List Oper}(h:Ct ops l=true):Order ops l (pK [] ops):=by
 simp only[Ct,aK]at h;obtain⟨h1,h2,_,h4⟩:=h;obtain⟨b1,b2,b3⟩:=FK ops [];simp only[b7,cL]at b2 b3;refine⟨λj o hj p hp=>?_,λj o hj e he hb=>by simpa using wV ops 0 h4 j o hj e he hb,λj p oj op t hj hp hd ht=>?_,λj i gj gi hj hi hc hpu hmk=>?_⟩
 .rw[b3 j o hj]at hp;obtain⟨e,e1,e2,e3⟩:=vA _ _ _ hp;refine⟨e,by simpa using e1,e2,e3.imp id λh=>?_⟩;by_cases hlt:e.on<j
  .rwa [getD_take _ _ _ _ hlt]at h
  .simp only[List.getD,List.getElem?_take,hlt,a8,Option.getD_none,Nat.zero_testBit]at h;cases h
 .have hjl:j<ops.length:=(List.getElem?_eq_some_iff.1 hj).1;have hpl:p<ops.length:=(List.getElem?_eq_some_iff.1 hp).1;simp only[SJ,List.all_eq_true,List.mem_range]at h1;have:=h1 j hjl p hpl;simp only[hj,hp,hd,cW,beq_iff_eq,cg,List.contains_eq_mem,b8]at this;rcases this with(h|h)|h
  .exact .inl h
  .exact absurd ht h
  .exact .inr h
 .have hjl:j<l.length:=(List.getElem?_eq_some_iff.1 hj).1;have hil:i<l.length:=(List.getElem?_eq_some_iff.1 hi).1;simp only[afK,List.all_eq_true,List.mem_range]at h2;have:=h2 j hjl i hil;have hm:(gi.i.jO&&(!gj.i.isApp ||decide (j<i)))=false:=by
   rcases hmk with h|⟨h,h3⟩
   .simp[h]
   .simp[h,show ¬j<i by omega]
  simp only[hj,hi,hc,hpu,hm,Bool.false_or,cW,beq_iff_eq]at this;rcases this with(h|h)|h
  .exact .inl h
  .exact .inr (.inl h)
  .right;right;simp only[exU,aK,aX,List.all_eq_true,List.mem_range,cW]at h;obtain⟨x2,(h|⟨x0,x1,x3,x4⟩)|⟨x0,x1,x3,x4⟩⟩:=h
   .exact⟨x2,.inl h⟩
   .refine⟨x2,.inr (.inl ⟨x0,x1,x3,λq g hq1 hq2 hg=>?_⟩)⟩;have:=x4 q hq2;rw[hg]at this;rcases this with h|h
    .omega
    .simpa using h
   .refine⟨x2,.inr (.inr ⟨x0,x1,x3,λq g hq1 hq2 hg=>?_⟩)⟩;have:=x4 q hq2;rw[hg]at this;rcases this with h|h
    .omega
    .simpa using h
theorem aki {ops:List Oper}(h:Ct ops l=true):(∀g∈l,g.i.cM=false)\/R6 ops l (pK [] ops)=true:=by
 grind [Ct]
def Oy (ops:List Oper)(bs:List Nat)(n p:Nat):Prop:=(bs.getD n 0).testBit p=true\/∃o o',ops[n]? =some o/\ops[p]? =some o'/\Pf o o'=true
def Pk {ops:List Oper}{bs:List Nat}(h:R6 ops l bs=true):∃l' suf,l=l'++suf/\SZ suf=true/\(∀q,q<suf.length->∀p,p<l'.length+q->Oy ops bs (l'.length+q) p)/\∀g∈l',g.i.cM=false:=by
 unfold R6 at h;simp only at h;generalize List.findIdx (λg:GI=>g.i.cM) l=n at h;simp only[aK,List.all_eq_true,List.mem_range,cg,cW]at h;obtain⟨h1,h2,h3⟩:=h;have hn:n<l.length:=by
  rcases dZ n l.length with h|h
  .exact h
  .rw[j7 h]at h1;cases h1
 have hl:(l.take n).length=n:=eJ;refine⟨l.take n,l.drop n,(List.take_append_drop n l).symm,h1,λq hq p hp=>?_,h2⟩;rw[hl]at hp⊢;refine(h3 q (by simpa using hq) p hp).imp id λh=>?_
 split at h
 .rename_i o o' h4 h5;exact⟨o,o',h4,h5,h⟩
 .cases h
theorem Order.pre {ops os:List Oper}{ls:List GI}{bs:List Nat}(h:Order (ops++os) (l++ls) bs):Order ops l bs:=by
 have ho:∀{j:Nat} {oj:Oper},ops[j]? =some oj->(ops++os)[j]? =some oj:=λhj=>by
  rw[List.getElem?_append_left (List.getElem?_eq_some_iff.1 hj).1];exact hj
 have hl:∀{j:Nat} {gj:GI},l[j]? =some gj->(l++ls)[j]? =some gj:=λhj=>by
  rw[List.getElem?_append_left (List.getElem?_eq_some_iff.1 hj).1];exact hj
 refine⟨λj oj hj=>h.bef j oj (ho hj),λj oj hj=>h.edge j oj (ho hj),λj p oj op t hj hp hd ht=>h.reads j p oj op t (ho hj) (ho hp) hd ?_,λj i gj gi hj hi hc hf hm=>?_⟩
 .grind [tmpsOf]
 .rcases h.effs j i gj gi (hl hj) (hl hi) hc hf hm with e|e|⟨e1,e2|⟨e0,e2,e3,e4⟩|⟨e0,e2,e3,e4⟩⟩
  .exact .inl e
  .exact .inr (.inl e)
  .exact .inr (.inr ⟨e1,.inl e2⟩)
  .exact .inr (.inr ⟨e1,.inr (.inl ⟨e0,e2,e3,λq gq hq1 hq2 hg=>e4 q gq hq1 hq2 (hl hg)⟩)⟩)
  .exact .inr (.inr ⟨e1,.inr (.inr ⟨e0,e2,e3,λq gq hq1 hq2 hg=>e4 q gq hq1 hq2 (hl hg)⟩)⟩)
def D2 {env:List aY}{K:List aY->St->Prop}:∀(r:List GI) (vs:List aY) (st:St),(∀g∈r,sufG g=true)->eW Y true r env vs st K=eW Y false r env vs st K
 |[],_,_,_=>by simp only[eW]
 |g::r,vs,st,h=>by
  have hg:=h g (.head _);have ih:=λvs st=>D2 (env:=env) (K:=K) r vs st λg hg=>h g (.tail _ hg)
  unfold sufG at hg;split at hg
  .simp only[eW,az.lv,az.calm,Bool.not_true,Bool.not_false,Bool.false_and,Bool.and_false,ib,a8,az.K4,ih]
  .simp only[eW,az.lv,az.calm,Bool.not_true,Bool.not_false,Bool.false_and,Bool.and_false,ib,a8,az.K4,ih]
  .simp only[eW,az.lv,az.calm,Bool.not_true,Bool.not_false,Bool.false_and,Bool.and_false,ib,a8,az.K4,ih]
  .simp only[eW,az.lv,az.calm,Bool.not_true,Bool.not_false,Bool.false_and,Bool.and_false,ib,a8,az.K4,ih]
  .cases hg
def aac {suf:List GI}(h:SZ suf=true)(hw:eW Y true suf env vs st K):eW Y false suf env vs st K:=by
 unfold SZ at h;split at h
 .simp only[List.all_eq_true]at h;simp only[eW]at hw⊢;simpa only[D2 _ _ _ h]using hw
 .simp only[List.all_eq_true]at h;simp only[eW]at hw⊢;simpa only[D2 _ _ _ h]using hw
 .cases h
def NH {d:Bool}{env:List aY}{K:List aY->St->Prop}{b:List GI}:∀(a:List GI) (vs:List aY) (st:St),d=true->(∀g∈a,g.i.cM=false)->eW Y d (a++b) env vs st K->eW Y d a env vs st (λvs' st'=>eW Y d b env vs' ⟨st'.nx-vs'.length,st'.m⟩ K)
 |[],vs,st,_,_,h=>by
  simp only[eW,pA]at h⊢;rw[Nat.add_sub_cancel];exact h
 |⟨i,g⟩::r,vs,st,hd,hcm,h=>by
  subst hd;rw[rv,nI (hcm _ (.head _)) rfl]at h;rw[nI (hcm _ (.head _)) rfl];exact⟨h.1,h.2.1,λha=>(h.2.2 ha).imp λ_ h2=>⟨h2.1,NH r _ _ rfl (λg hg=>hcm g (.tail _ hg)) h2.2⟩⟩
end
end
end Go.Abs
