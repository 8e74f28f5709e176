/- A part of the proofs. -/
import Derived.Scope
import Derived.Test.YtkllcniplomebaaGreatDoorP03
set_option linter.all false
set_option maxRecDepth 60000
set_option maxHeartbeats 2000000
namespace Go.Abs
variable{Q:Exit->Act->World->Prop}{a:Act}{env env':List aY}{K:Act->World->Prop}{ν σ:List (Nat×Nat)}{x:X}{args:Array Value}{P:Program}{fn:Func}{listed:Array Bool}{d d':D}{st:St}{ds:List D}{af:aj}{lo fid n l' nx:Nat}{w:World}{f:Nat->Option bm}{m':List (Nat×bm)}
section
variable [cI]
section
variable {C:CC}{Y:Ctx}
theorem filter_lt {p q:Nat->Bool}:∀(l:List Nat),(∀a∈l,q a=true->p a=true)->(∃a∈l,p a=true/\q a=false)->(l.filter q).length<(l.filter p).length
 |[],_,⟨a,h,_⟩=>by cases h
 |b::r,h1,⟨a,h2,h3,h4⟩=>by
  have hle:∀(l:List Nat),(∀a∈l,q a=true->p a=true)->(l.filter q).length<=(l.filter p).length:=by
   intro l;induction l with
   |nil=>intro _;simp
   |cons b r ih=>
    grind
  have hr:=hle r λa ha=>h1 a (.tail _ ha)
  rw[List.filter_cons,List.filter_cons];cases h2 with
  |head=>simp only[h3,h4,bo];simp;omega
  |tail _ h2=>
   have ih:=filter_lt r (λa ha=>h1 a (.tail _ ha)) ⟨a,h2,h3,h4⟩
   grind
def cnt (n:Nat)(listed:Array Bool):Nat:=((List.range n).filter λp=>!listed.getD p false).length
def tw {i p:Nat}{d:Bool}(h:i<listed.size):(listed.setIfInBounds i true).getD p d=if p=i then true else listed.getD p d:=by
 by_cases e:p=i
 .subst e;simp[h]
 .rw[ai e];exact getD_set_ne d (Ne.symm e)
theorem gr {i p:Nat}(h:i<listed.size):(listed.setIfInBounds i true).getD p false=if p=i then true else listed.getD p false:=tw h
theorem acN {i:Nat}(hs:listed.size=n)(hi:i<n)(hl:listed.getD i false=false):cnt n (listed.setIfInBounds i true)<cnt n listed:=by
 refine filter_lt _ (λa _ ha=>?_) ⟨i,oz,by rw[hl];rfl,by rw[gr ae,ak rfl];rfl⟩
 grind [gr]
def akx {defs:List (Option Nat)}{o:Oper}{i:az}(hc:C.op defs o=some i)(h1:i.calm=false)(h2:i.isApp=false)(h3:i.cM=false):
  ∃s,(∃p∈o.op.operands.toList,C.src defs p=some s)/\∀(J:Src->aY) (m:List (Nat×bm)) (L:Nat),i.eL Y J m->(J s).ok=true/\∃l,i.wr J L=[l]/\((∃k i o,(J s).d=.ptr l k i o)\/(J s).d=.it l\/(J s).d=.fn 5000000 [.it l]):=by
 cases ho:o.op with
 |store t p q=>
  simp only[CC.op,ho]at hc;split at hc
  .rename_i a b ha hb;split at hc
   .cases hc
   .simp only[aC]at hc;subst hc;refine⟨a,⟨p,by simp[Op.operands],ha⟩,λJ m L hob=>⟨hob.1, ?_⟩⟩;have:=hob.2.2.2;cases hd:(J a).d<;>simp only[hd]at this;exact⟨_,by simp only[az.wr,hd,ca],.inl ⟨_,_,_,rfl⟩⟩
  .cases hc
 |next it b=>
  cases b
  .simp[CC.op,ho]at hc
  .simp only[CC.op,ho,c7]at hc;obtain⟨s,hs,rfl⟩:=hc;refine⟨s,⟨it,by simp[Op.operands],hs⟩,λJ m L hob=>⟨hob.1, ?_⟩⟩;have:=hob.2;cases hd:(J s).d<;>simp only[hd]at this;exact⟨_,by simp only[az.wr,hd,ca],.inr (.inl rfl)⟩
 |call c=>
  obtain⟨callee,args,argTypes⟩:=c;cases callee with
  |builtin bu=>
   cases bu with
   |len=>simp only[CC.op,ho]at hc;(repeat' split at hc)<;>simp only[aC,reduceCtorEq]at hc<;>subst hc<;>simp[az.calm]at h1
   |min=>simp only[CC.op,ho]at hc;(repeat' split at hc)<;>simp only[aC,reduceCtorEq]at hc<;>subst hc<;>simp[az.calm]at h1
   |max=>simp only[CC.op,ho]at hc;(repeat' split at hc)<;>simp only[aC,reduceCtorEq]at hc<;>subst hc<;>simp[az.calm]at h1
   |append=>simp only[CC.op,ho]at hc;(repeat' split at hc)<;>simp only[aC,reduceCtorEq]at hc<;>subst hc<;>simp[az.isApp]at h2
   |_=>simp[CC.op,ho]at hc
  |value f=>
   cases f with
   |func fid=>
    simp only[CC.op,ho]at hc;split at hc
    .rename_i n ss k1 k2;split at hc
     .simp only[aC]at hc;subst hc;simp[az.cM]at h3
     .split at hc
      .split at hc
       .rename_i r rest;simp only[aC]at hc;subst hc;have hr:∃p∈args.toList,C.src defs p=some r:=by
         cases hal:args.toList with
         |nil=>rw[hal]at k2;simp[CC.wi]at k2
         |cons q qs=>
          rw[hal]at k2;simp only[CC.wi]at k2;split at k2
          .rename_i e1 e2;simp only[aC,th]at k2;obtain⟨rfl,_⟩:=k2;exact⟨q,aF,e1⟩
          .cases k2
        obtain⟨p,hp1,hp2⟩:=hr;refine⟨r,⟨p,by simp only[Op.operands,Call.operands];simp at hp1⊢;exact .inr hp1,hp2⟩,λJ m L hob=>⟨hob.1, ?_⟩⟩;have:=hob.2.2.2;cases hd:(J r).d<;>simp only[hd]at this;exact⟨_,by simp only[az.wr,hd,ca],.inl ⟨_,_,_,rfl⟩⟩
       .cases hc
      .simp only[aC]at hc;subst hc;simp[az.calm]at h1
    .cases hc
   |tmp t=>simp only[CC.op,ho]at hc;(repeat' split at hc)<;>simp only[aC,reduceCtorEq]at hc<;>subst hc<;>first|(simp[az.calm]at h1;done)|(simp[az.cM]at h3;done)
   |_=>simp[CC.op,ho]at hc
  |invoke r n=>simp only[CC.op,ho]at hc;(repeat' split at hc)<;>(try simp only[c7,reduceCtorEq]at hc)<;>first|(obtain⟨_,_,rfl⟩:=hc;simp[az.calm]at h1;done)|exact hc.elim|cases hc
 |typeAssert p xt t ok=>cases ok<;>simp only[CC.op,ho]at hc<;>(try(repeat' split at hc))<;>(try simp only[aC,reduceCtorEq]at hc)<;>first|(subst hc;simp[az.calm]at h1;done)|exact hc.elim|cases hc
 |makeMap t r=>cases r<;>simp only[CC.op,ho]at hc<;>(try cases hc)<;>(repeat' split at hc)<;>simp only[aC,reduceCtorEq]at hc<;>(subst hc;simp[az.calm]at h1)
 |mapUpdate t p q r=>
  simp only[CC.op,ho]at hc;split at hc
  .rename_i a b c ha hb hc'
   (repeat' split at hc)<;>simp only[aC,reduceCtorEq]at hc
   subst hc;refine⟨a,⟨p,by simp[Op.operands],ha⟩,λJ m L hob=>⟨hob.1, ?_⟩⟩;obtain⟨l,kvs,hd,_,_⟩:=tD hob.2.2.2.1;exact⟨l,by simp only[az.wr,hd,Dg],.inr (.inr hd)⟩
  .cases hc
 |lookup t p q ok=>
  cases ok with
  |true=>simp only[CC.op,ho]at hc;(repeat' split at hc)<;>simp only[aC,reduceCtorEq]at hc;subst hc;simp[az.calm]at h1
  |false=>simp[CC.op,ho]at hc
 |makeFunc fn fst caps=>cases fn<;>simp only[CC.op,ho]at hc<;>(repeat' split at hc)<;>(try simp only[aC,reduceCtorEq]at hc)<;>first
  |(subst hc;simp[az.calm]at h1)
  |exact hc.elim
  |(simp only[c7]at hc;obtain⟨_,_,rfl⟩:=hc;simp[az.calm]at h1)
 |_=>
  simp only[CC.op,ho]at hc
  (try cases hc)<;>(repeat' split at hc)<;>(try simp only[aC,reduceCtorEq,c7]at hc)<;>first
    |(subst hc;simp[az.calm]at h1;done)
    |(subst hc;simp[az.cM]at h3;done)
    |(obtain⟨s,hs,rfl⟩:=hc;simp[az.calm]at h1;done)
    |exact hc.elim
    |cases hc
structure TB (C:CC)(ops:Array Oper)(l:List GI)(bs:List Nat)(env:List aY)(nx:Nat)(VS:List aY)(M:Nat->List (Nat×bm))(x0:X)(listed:Array Bool)(a:Act)(x:X)(f:Nat->Option bm)(c:Nat):Prop where
 mid:A7 C env (ops.toList.map (·.dst)) VS (λp=>listed.getD p false=true) a x
 step:Step x0 x
 oA:fG C.ν x f
 size:listed.size=ops.size
 closed:∀j,listed.getD j false=true->∀p,(bs.getD j 0).testBit p=true->listed.getD p false=true
 β:∀l',nx<=l'->(∀p,listed.getD p false=true->l'≠nx+p)->x.β l'=none
 nc:∀(p:Nat) (g:GI),l[p]? =some g->g.i.calm=false->(listed.getD p false=true↔p<c)
 mem:∀l',x.β l'≠none->f l'=look (M (max c (l'+1-nx))) l'
 wrβ:∀(q:Nat) (g:GI),l[q]? =some g->g.i.calm=false->g.i.isApp=false->listed.getD q false=true->∀l'∈g.i.wr (Src.ev env (VS.take q)) (nx+q),x.β l'≠none
section
variable {ops:Array Oper}{l:List GI}{bs:List Nat}{VS:List aY}{M:Nat->List (Nat×bm)}{x0:X}{c:Nat}
theorem F6 (hs:listed.size=ops.size){p:Nat}(h:listed.getD p false=true):p<ops.size:=by
 grind
theorem TB.fin (h:TB C ops l bs env nx VS M x0 listed a x f c)(hsp:Spec C ops.toList l)(tr:Trace Y l env nx VS M)(hall:∀p,p<ops.size->listed.getD p false=true):
  A7 C env (ops.toList.map (·.dst)) VS (· <ops.size) a x/\Step x0 x/\fG C.ν x (look (M l.length))/\fk ⟨nx+l.length,M l.length⟩ x:=by
 have hlen:l.length=ops.size:=by simpa using hsp.len
 have hβ:∀l',nx+l.length<=l'->x.β l'=none:=λl' hl'=>h.β l' ae λp hp=>by have:=F6 h.size hp;omega
 refine⟨h.mid.iff λp=>⟨λhp=>hall p hp,λhp=>F6 h.size hp⟩,h.step,h.oA.less λl'=>?_,hβ,λl' hl'=>tr.fresh _ _ hl'⟩;by_cases hb:x.β l'=none
 .exact .inr (.inr hb)
 .left;rw[h.mem l' hb];have hlt:l'<nx+l.length:=by
   grind
  refine tr.same λq g h1 h2 hg hw=>?_
  have hq:q<l.length:=(List.getElem?_eq_some_iff.1 hg).1;cases hc:g.i.calm with
  |true=>
   have:=kD hc hw;omega
  |false=>
   have:=(h.nc q g hg hc).1 (hall q ae);omega
theorem TB.all (ho:Order ops.toList l bs)(hs:listed.size=ops.size)(hr:Region.ready .any ops listed=[]):∀p,p<ops.size->listed.getD p false=true:=by
 intro p;induction p using Nat.strongRecOn with
 |_ p ih=>
  intro hp;cases hd:listed.getD p false with
  |true=>rfl
  |false=>
   exfalso;have hm:p∈Region.ready .any ops listed:=by
    rw[mem_ready];refine⟨?_,ops[p],by simp[hp],λe he hb=>?_⟩
    .grind
    .have:=ho.edge p ops[p] (by simp[hp]) e he hb;exact ih e.on this ae
   rw[hr]at hm;cases hm
def FJ (ho:Order ops.toList l bs)(h:TB C ops l bs env nx VS M x0 listed a x f c){i:Nat}{o:Oper}(hi:ops[i]? =some o)(hni:listed.getD i false=false)(hed:∀e∈o.after,Region.binds .any e=true->listed.getD e.on false=true){p:Nat}(hb:yA bs p i)(hne:p≠i):(p<i->listed.getD p false=true)/\(i<=p->¬listed.getD p false=true):=by
 unfold yA at hb;refine⟨λhlt=>?_,λhle hp=>?_⟩
 .rw[Nat.max_eq_left ae,Nat.min_eq_right ae]at hb;obtain⟨e,e1,e2,e3⟩:=ho.bef i o oz p hb;rcases e3 with rfl|e3
  .exact hed e e1 e2
  .exact h.closed _ (hed e e1 e2) p e3
 .rw[Nat.max_eq_right ae,Nat.min_eq_left ae]at hb;have:=h.closed p hp i hb;rw[hni]at this;cases this
def Trace.disU (tr:Trace Y l env nx VS M){i:Nat}{ag:Bool}{p:Src}{gd:Option (Nat×Bool)}(hi:l[i]? =some ⟨.ldU n ag p,gd⟩)(hf:flag (VS.take i) gd=true)(hl:l'∈ca (Src.ev env (VS.take i) p).d):
  ∀(j:Nat) (g:GI),i<j->l[j]? =some g->g.i.ny=true->(∀q g,i<q->q<j->l[q]? =some g->g.i.calm=true\/g.i.ny=true)->l'∉g.i.wr (Src.ev env (VS.take j)) (nx+j):=by
 intro j;induction j using Nat.strongRecOn with
 |_ j ih=>
  intro g hij hj hg hbt hw;obtain⟨k1,k2⟩:=tr.eL i _ hi hf;have hne:look (M i) l'≠none:=BU (Y:=Y) (i:=.ldU n ag p) ⟨k1,k2⟩ rfl hl;have hlt:=tr.fresh i l' hne;have hc:look (M j) l'=look (M i) l':=tr.same λq gq q1 q2 hq hqw=>by
   rw[Nat.min_eq_right ae]at q1;rw[Nat.max_eq_left ae]at q2;rcases dZ i q with h1|h1
   .rcases hbt q gq h1 q2 hq with h2|h2
    .have:=kD h2 hqw;omega
    .exact ih q q2 gq h1 hq h2 (λq' g' a b c=>hbt q' g' a ae c) hqw
   .obtain rfl:q=i:=ae;rw[hi]at hq;obtain rfl:=bc hq;cases hqw
  obtain⟨gi,gg⟩:=g;cases gi<;>simp only[az.ny]at hg<;>try cases hg
  rename_i f r args sh;obtain⟨_,_,_,_,h4⟩:=(tr.qC hj).resolve_left (by simp[az.calm]);cases hd:(Src.ev env (VS.take j) r).d<;>simp only[hd]at h4;rename_i l1 k1' i1 o1;simp only[az.wr,hd,ca,aJ]at hw;subst hw;cases hdp:(Src.ev env (VS.take i) p).d<;>simp only[hdp]at k2<;>rw[hdp]at hl<;>simp only[ca,aJ,de]at hl;subst hl;have e1:aL (M j) l'=aL (M i) l':=by simp only[aL,hc]
  rw[e1]at h4;obtain⟨_,_,_,h5,h6,_⟩:=h4
  match hb:aL (M i) l',h5,h6,k2.2 with
  |[d],_,h6,h7=>
   simp only[iR]at h6;simp[aP,h6]at h7
def Src.aeO {p q:Src}(h:p.same q=true):p=q:=by
 cases p<;>cases q<;>simp only[Src.same]at h<;>first
  |cases h
  |rw[Nat.eq_of_beq_eq_true h]
def Trace.disW (tr:Trace Y l env nx VS M){i:Nat}{ag:Bool}{p:Src}{gd:Option (Nat×Bool)}(hi:l[i]? =some ⟨.ldW n ag p,gd⟩)(hf:flag (VS.take i) gd=true)(hl:l'∈ca (Src.ev env (VS.take i) p).d):
  ∀(j:Nat) (g:GI),i<j->l[j]? =some g->g.i.narrow p=true->(∀q g,i<q->q<j->l[q]? =some g->g.i.calm=true\/g.i.narrow p=true)->l'∉g.i.wr (Src.ev env (VS.take j)) (nx+j):=by
 intro j;induction j using Nat.strongRecOn with
 |_ j ih=>
  intro g hij hj hg hbt hw;obtain⟨k1,k2⟩:=tr.eL i _ hi hf;have hne:look (M i) l'≠none:=BU (Y:=Y) (i:=.ldW n ag p) ⟨k1,k2⟩ rfl hl;have hlt:=tr.fresh i l' hne;have hc:look (M j) l'=look (M i) l':=tr.same λq gq q1 q2 hq hqw=>by
   rw[Nat.min_eq_right ae]at q1;rw[Nat.max_eq_left ae]at q2;rcases dZ i q with h1|h1
   .rcases hbt q gq h1 q2 hq with h2|h2
    .have:=kD h2 hqw;omega
    .exact ih q q2 gq h1 hq h2 (λq' g' a b c=>hbt q' g' a ae c) hqw
   .obtain rfl:q=i:=ae;rw[hi]at hq;obtain rfl:=bc hq;cases hqw
  cases hdp:(Src.ev env (VS.take i) p).d<;>simp only[hdp]at k2<;>rw[hdp]at hl<;>simp only[ca,aJ,de]at hl;subst hl;rename_i k2' i2 o2;have e2:=k2.1.1;have e3:=k2.2;obtain⟨gi,gg⟩:=g;cases gi<;>simp only[az.narrow]at hg<;>try cases hg
  .rename_i n' x y qs;obtain⟨_,_,_,_,h4⟩:=(tr.qC hj).resolve_left (by simp[az.calm]);simp only[az.wr]at hw;cases hd:(Src.ev env (VS.take j) x).d<;>simp only[hd]at h4<;>rw[hd]at hw<;>simp only[ca,aJ,de]at hw;subst hw;rcases h4.2.2 with h42|h42
   rotate_left
   .obtain⟨q,hq1,hq2⟩:=List.any_eq_true.1 hg;obtain rfl:=Src.aeO hq2;refine h42 _ hq1 ?_;have he:Src.ev env (VS.take j) p=Src.ev env (VS.take i) p:=by
     cases p with
     |s n=>rfl
     |c d=>rfl
     |l q'=>
      simp only[Src.ev]at hdp⊢;have hq':q'<i:=by
       rcases dZ q' i with h|h
       .exact h
       .rw[List.getD_eq_getElem?_getD,List.getElem?_take,ai ae]at hdp;exact absurd hdp (by simp[aY.un])
      simp only[List.getD_eq_getElem?_getD,List.getElem?_take,hq',show q'<j by omega,bo]
    rw[he,hdp];simp[ca]
   have e1:=h4.1;simp only[ed,hc]at e1;simp only[ed]at e2;split at e2
   .rename_i kk es he;rw[he]at e1;simp only at e1;have:=e1.1.trans e2.1.symm;have:=h42;omega
   .exact e2
  .rename_i k x y;obtain⟨_,_,_,h3,h4⟩:=(tr.qC hj).resolve_left (by simp[az.calm]);simp only[az.wr,bU]at hw;have hw:=hw.resolve_left ae;cases hd:(Src.ev env (VS.take j) x).d<;>simp only[hd]at h4<;>rw[hd]at hw<;>simp only[ca,aJ,de]at hw;subst hw;have e1:=h4.2.1;simp only[ed,hc]at e1;simp only[ed]at e2;split at e2
   .rename_i kk es he;rw[he]at e1;simp only at e1;have:=e1.1.trans e2.1.symm;have:=Nat.le_of_ble_eq_true hg;omega
   .exact e2
def Trace.disA (tr:Trace Y l env nx VS M){q:Nat}{g:GI}(hq:l[q]? =some g)(hg:g.i.isApp=true)(hw:l'∈g.i.wr (Src.ev env (VS.take q)) (nx+q))(hne:l'≠nx+q):∀k,look (M (q+1+k)) l'=none:=by
 have hc:g.i.calm=false:=by cases g with|mk i gd=>cases i<;>simp_all[az.isApp,az.calm]
 obtain⟨_,hob⟩:=(tr.qC hq).resolve_left (by simp[hc]);have hlt:l'<nx+q:=by
  rcases PO hob hw with e|e
  .exact absurd e hne
  .exact tr.fresh q l' e
 intro k;induction k with
 |zero=>
  rw[Nat.add_zero,tr.step q g hq];obtain⟨gi,gg⟩:=g;obtain⟨k,x,y,rfl⟩:∃k x y,gi=.app k x y:=by
   cases gi<;>first|exact⟨_,_,_,rfl⟩|(simp only[az.isApp]at hg;cases hg)
  simp only[az.wr,bU]at hw;have hw:=hw.resolve_left hne;simp only[az.bR];cases hd:(Src.ev env (VS.take q) x).d<;>rw[hd]at hw<;>simp only[ca,aJ,de]at hw;all_goals first
   |(subst hw;simp only;rw[bM,ai hne,fm,ak rfl])
   |(exfalso;simp only[az.eL,hd]at hob;simp at hob)
 |succ k ih=>
  rw[show q+1+(k+1)=q+1+k+1 by omega];cases hg2:l[q+1+k]? with
  |none=>rw[tr.stop _ hg2];exact ih
  |some g2=>
   cases hx:look (M (q+1+k+1)) l' with
   |none=>rfl
   |some b=>
    rw[tr.step _ g2 hg2]at hx;have hco:g2.i.calm=true\/g2.i.eL Y (Src.ev env (VS.take (q+1+k))) (M (q+1+k)):=(tr.qC hg2).imp id (·.2);rcases tq hco (l:=l') (by rw[hx];simp)with e|e
    .exact absurd ih e
    .omega
def U_wr {i:az}{J:Src->aY}{L:Nat}(h:i.free=true\/i.rX=true):i.wr J L=[]:=by
 rcases h with h|h
 .exact adp h
 .cases i<;>simp_all[az.rX,az.wr]
def U_eff {i:az}{J:Src->aY}{m:List (Nat×bm)}{L:Nat}(h:i.free=true\/i.rX=true):i.bR Y J m L=m:=by
 rcases h with h|h
 .exact XK h
 .cases i<;>simp_all[az.rX,az.bR]
def ahH {i:az}(h:i.rX=true):i.calm=true:=by cases i<;>simp_all[az.rX,az.calm]
def ahI {i:az}(h:i.rX=true):i.free=false:=by cases i<;>simp_all[az.rX,az.free,az.pure]
def U_mk {i:az}(h:i.rX=true):i.jO=false:=by cases i<;>simp_all[az.rX,az.jO]
def U_inv {i:az}(h:i.isUU=true):∃n ag p,i=.ldU n ag p:=by cases i<;>first|exact⟨_,_,_,rfl⟩|(simp only[az.isUU]at h;cases h)
def afE {i:az}(h:i.rX=true):(∃n ag p,i=.ldU n ag p)\/∃n ag p,i=.ldW n ag p:=by
 cases i<;>first|exact .inl ⟨_,_,_,rfl⟩|exact .inr ⟨_,_,_,rfl⟩|(simp only[az.rX]at h;cases h)
def LJ (hsp:Spec C ops.toList l)(ho:Order ops.toList l bs)(hnM:∀g∈l,g.i.cM=false)(hΓ:Ok C.P C.ν C.bR Y)(tr:Trace Y l env nx VS M)(hK:∀a' x',A7 C env (ops.toList.map (·.dst)) VS (· <ops.size) a' x'->Step x0 x'->fG C.ν x' (look (M l.length))->fk ⟨nx+l.length,M l.length⟩ x'->Q .normal a' x'.w):
  ∀(fuel:Nat) (listed:Array Bool) (a:Act) (x:X) (f:Nat->Option bm) (c:Nat),TB C ops l bs env nx VS M x0 listed a x f c->cnt ops.size listed<=fuel->wpAny C.P .any ops Q fuel listed a x.w:=by
 intro fuel;have hlen:l.length=ops.size:=by simpa using hsp.len
 induction fuel with
 |zero=>
  intro listed a x f c h hc;have hall:∀p,p<ops.size->listed.getD p false=true:=by
   intro p hp;have h0:(List.range ops.size).filter (λp=>!listed.getD p false)=[]:=lP (Nat.le_zero.1 hc);rw[List.filter_eq_nil_iff]at h0;simpa using h0 p (by simpa using hp)
  refine⟨?_, ?_⟩
  .rw[List.eq_nil_iff_forall_not_mem];intro j hj;obtain⟨h1,o,h2,_⟩:=mem_ready.1 hj;have hjl:j<ops.size:=(Array.getElem?_eq_some_iff.1 h2).1;have:=hall j hjl;have hjs:j<listed.size:=by rw[h.size];exact hjl
   simp only[Array.getD,hjs,dif_pos]at h1 this;rw[this]at h1;cases h1
  .obtain⟨q1,q2,q3,q4⟩:=h.fin hsp tr hall;exact hK a x q1 q2 q3 q4
 |succ fuel ih=>
  intro listed a x f c h hc;refine⟨λhr=>?_,λi hi=>?_⟩
  .obtain⟨q1,q2,q3,q4⟩:=h.fin hsp tr (TB.all ho h.size hr);exact hK a x q1 q2 q3 q4
  .obtain⟨h1,o,h2,hed⟩:=mem_ready.1 hi;have hil:i<ops.size:=(Array.getElem?_eq_some_iff.1 h2).1;have his:i<listed.size:=by rw[h.size];exact hil
   have hni:listed.getD i false=false:=by simp only[Array.getD,his,dif_pos]at h1⊢;exact h1
   have ho':ops.toList[i]? =some o:=by simpa using h2
   obtain⟨⟨ins,gd⟩,hg1,hg2,hg3⟩:=hsp.op i o ho';simp only at hg2 hg3;have hdst:(ops.toList.map (·.dst))[i]? =some o.dst:=by rw[List.getElem?_map,ho',Option.map_some]
   have hcm:ins.cM=false:=hnM _ (List.mem_of_getElem? hg1);have hreads:∀t p,t∈tmpsOf ops.toList o->(ops.toList.map (·.dst))[p]? =some (some t)->(p<i->listed.getD p false=true)/\(i<=p->¬listed.getD p false=true):=by
    intro t p ht hp;rw[List.getElem?_map,c7]at hp;obtain⟨op,hp1,hp2⟩:=hp;rcases ho.reads i p o op t ho' hp1 hp2 ht with rfl|hb
    .exact⟨λh=>ae,λ_=>by rw[hni];simp⟩
    .by_cases hpi:p=i
     .subst hpi;exact⟨λh=>ae,λ_=>by rw[hni];simp⟩
     .exact FJ ho h h2 hni hed hb hpi
   have hρ:vz C ((ops.toList.map (·.dst)).take i) (Src.ev env (VS.take i)) a.eval x o.op.operands.toList:=
    h.mid.rho λt p ht hp=>hreads t p (List.mem_append_left _ (List.mem_filterMap.2 ⟨.tmp t,ht,rfl⟩)) hp
   have hcst:∀d,Src.ev env (VS.take i) (.c d)=⟨true,d⟩:=λ_=>rfl
   have hgk:=tr.VN i _ hg1;obtain⟨hent1,hent2⟩:=tr.ent i _ hg1;have hMs:=tr.step i _ hg1;simp only at hgk hent1 hent2 hMs;have hwant:Region.wanted o (yielded ops a.tmps)=flag (VS.take i) gd:=by
    refine kn (g:=⟨ins,gd⟩) h.mid hg3 (λj w hg hji=>?_) (afO hgk)

    simp only[hg,CC.guard]at hg3;split at hg3
    .rename_i t hj;rw[List.getElem?_take,ak hji]at hj;refine(hreads t j (List.mem_append_right _ ?_) hj).1 hji;rw[List.getElem?_map,c7]at hj;obtain⟨oj,hj1,hj2⟩:=hj;simp[hg,hj1,hj2]
    .cases hg3
   have hput:∀(v:Value) (x':X),Le x x'->((VS.getD i .un).ok=true->RD C.ν x' v (VS.getD i .un).d)->((VS.getD i .un).ok=false->v=undef)->
     A7 C env (ops.toList.map (·.dst)) VS (λp=>(listed.setIfInBounds i true).getD p false=true) (a.put o.dst v) x':=by
    intro v x' hle e1 e2;refine h.mid.put (i:=i) hle hdst (λt ht=>⟨(hsp.dst i o t ho' ht).1,λp hp e'=>hp (hsp.distinct (by rw[hdst,ht]) e')⟩) e1 e2 (λp=>?_);rw[gr his];by_cases e:p=i
    .simp[e]
    .simp[e]
   have hclosed:∀j,(listed.setIfInBounds i true).getD j false=true->∀p,(bs.getD j 0).testBit p=true->(listed.setIfInBounds i true).getD p false=true:=by
    intro j hj p hp;rw[gr his]at hj⊢;by_cases e:p=i
    .rw[ak e]
    .rw[ai e];by_cases ej:j=i
     .subst ej;obtain⟨e',e1,e2,e3⟩:=ho.bef j o ho' p hp;rcases e3 with rfl|e3
      .exact hed e' e1 e2
      .exact h.closed _ (hed e' e1 e2) p e3
     .rw[ai ej]at hj;exact h.closed j hj p hp
   have hcnt:cnt ops.size (listed.setIfInBounds i true)<=fuel:=by have:=acN h.size hil hni;omega
   have hsz:(listed.setIfInBounds i true).size=ops.size:=by simp[h.size]
   have hL:x.β (nx+i)=none:=h.β _ ae λp hp e=>by
    have:p=i:=ae;subst this;rw[hni]at hp;cases hp
   have hset:∀p,p≠i->((listed.setIfInBounds i true).getD p false=true↔listed.getD p false=true):=λp hp=>by rw[gr his,ai hp]
   unfold wpOp;simp only[h2,hwant];cases hfg:flag (VS.take i) gd with
   |false=>
    rw[ai aF];have hcalm:ins.calm=true:=by
     cases gd with
     |none=>simp[flag]at hfg
     |some jw=>obtain⟨j,w⟩:=jw;exact hgk.1
    refine ih _ _ x f c ⟨hput undef x (Le.refl x) (λe=>by rw[hent1,hfg]at e;cases e) (λ_=>rfl),h.step,h.oA,hsz,hclosed,λl' hl' hp=>h.β l' hl' λp hp'=>?_,λp g hp hpc=>?_,h.mem,λp g hp hpc hpa hpl l' hl'=>?_⟩ hcnt
    .refine hp p ?_;rw[gr his];split
     .rfl
     .exact hp'
    .by_cases e:p=i
     .subst e;rw[hg1]at hp;obtain rfl:=bc hp;rw[hcalm]at hpc;cases hpc
     .rw[hset p e];exact h.nc p g hp hpc
    .by_cases e:p=i
     .subst e;rw[hg1]at hp;obtain rfl:=bc hp;rw[hcalm]at hpc;cases hpc
     .exact h.wrβ p g hp hpc hpa ((hset p e).1 hpl) l' hl'
   |true=>
    rw[ak rfl];left;have hob:=tr.eL i _ hg1 hfg;simp only at hob

    have hf1:fG C.ν x (λl'=>if x.β l'=none then look (M i) l' else f l'):=h.oA.less λl'=>by
     by_cases hb:x.β l'=none
     .exact .inr (.inr hb)
     .left;simp[hb]

    have hnear0:ins.free=false->∀q g,l[q]? =some g->g.i.calm=false->(ins.jO=false\/(g.i.isApp=true/\i<q))->q≠i->(q<i↔q<c)\/ExU l g.i ins q i:=by
     intro hpu q g hq hqc hmk hqi;rcases ho.effs q i g ⟨ins,gd⟩ hq hg1 hqc hpu hmk with e|hb|hx
     .exact absurd e.symm hqi
     rotate_left
     .exact .inr hx
     .left;have hb':yA bs q i:=by unfold yA at hb⊢;rwa [Nat.max_comm,Nat.min_comm]
      obtain⟨b1,b2⟩:=FJ ho h h2 hni hed hb' hqi;have hnc:=h.nc q g hq hqc;constructor
      .intro hlt;exact hnc.1 (b1 hlt)
      .intro hlt;rcases dZ q i with h3|h3
       .exact h3
       .exact absurd (hnc.2 hlt) (b2 h3)
    have hnear:ins.rX=false->ins.free=false->∀q g,l[q]? =some g->g.i.calm=false->(ins.jO=false\/(g.i.isApp=true/\i<q))->q≠i->(q<i↔q<c):=by
     intro hu hpu q g hq hqc hmk hqi;exact(hnear0 hpu q g hq hqc hmk hqi).resolve_right λhx=>by rw[hx.1]at hu;cases hu
    have hag:E7 (λl'=>if x.β l'=none then look (M i) l' else f l') (M i) (ins.nd (Src.ev env (VS.take i))):=by
     have key:ins.rX=false->ins.free=false->ins.jO=false->∀l',look (M i) l'≠none->(if x.β l'=none then look (M i) l' else f l')=look (M i) l':=by
      intro hu hpu hmk l' hl';by_cases hb:x.β l'=none
      .rw[ak hb]
      .rw[ai hb,h.mem l' hb];have hlt:=tr.fresh i l' hl';refine tr.same λq g q1 q2 hq hw=>?_
       by_cases hqi:q=i
       .subst hqi;cases hqc:g.i.calm with
        |true=>have:=kD hqc hw;omega
        |false=>
         have h5:=h.nc q g hq hqc;rw[hni]at h5;have:¬q<c:=λe=>by cases h5.2 e
         omega
       .cases hqc:g.i.calm with
        |true=>have:=kD hqc hw;omega
        |false=>have:=hnear hu hpu q g hq hqc (.inl hmk) hqi;omega
     have keyU:ins.rX=true->∀ls,ins.nd (Src.ev env (VS.take i))=some ls->∀l'∈ls,(if x.β l'=none then look (M i) l' else f l')=look (M i) l':=by
      intro hu ls hls l' hl';have hl'':=BU hob hls hl';by_cases hb:x.β l'=none
      .rw[ak hb]
      .rw[ai hb,h.mem l' hb];have hlt:=tr.fresh i l' hl'';have hpu:=ahI hu;have hmk:=U_mk hu;refine tr.same λq g q1 q2 hq hw=>?_
       by_cases hqi:q=i
       .subst hqi;rw[hg1]at hq;obtain rfl:=bc hq;rw[U_wr (.inr hu)]at hw;cases hw
       .cases hqc:g.i.calm with
        |true=>have:=kD hqc hw;omega
        |false=>
         rcases hnear0 hpu q g hq hqc (.inl hmk) hqi with h5|⟨_,⟨h5,h6⟩|⟨h8,h5,h6,h7⟩|⟨h8,h5,h6,h7⟩⟩
         .omega
         .have:=tr.disA hq h5 hw ae (i-(q+1));rw[show q+1+(i-(q+1))=i by omega]at this;exact hl'' this
         .obtain⟨_,_,_,rfl⟩:=U_inv h8;simp only[az.nd,aC]at hls;subst hls;exact tr.disU hg1 hfg hl' q g h6 hq h5 h7 hw
         .rcases afE hu with⟨_,_,_,rfl⟩|⟨_,_,_,rfl⟩
          .cases h8
          simp only[az.nd,aC]at hls;subst hls;exact tr.disW hg1 hfg hl' q g h6 hq h5 h7 hw
     cases hu:ins.rX with
     |true=>
      cases htc:ins.nd (Src.ev env (VS.take i))with
      |none=>rcases afE hu with⟨_,_,_,rfl⟩|⟨_,_,_,rfl⟩<;>cases htc
      |some ls=>exact keyU hu ls htc
     |false=>
     cases hpu:ins.free with
     |true=>rw[XL hpu hob];intro l' hl';cases hl'
     |false=>
      cases hmk:ins.jO with
      |true=>rw[UC hmk];intro l' hl';cases hl'
      |false=>
       cases htc:ins.nd (Src.ev env (VS.take i))with
       |none=>exact key hu hpu hmk
       |some ls=>exact λl' hl'=>key hu hpu hmk l' (BU hob htc hl')
    refine(H2 (L:=nx+i) hg2 hcm hΓ hρ hcst hob hf1 hag hL (by
     show(if x.β (nx+i)=none then look (M i) (nx+i)else f (nx+i))=none;rw[ak hL];cases hx:look (M i) (nx+i)with
     |none=>rfl
     |some b=>have:=tr.fresh i (nx+i) (by rw[hx];simp);omega) (λ_=>rfl)).wp (λv x' hG=>?_)
    obtain⟨g1,g2,g3,g4⟩:=hG;rw[<-hMs]at g3;refine ih _ _ x' _ (if ins.free=true\/ins.jO=true\/ins.rX=true then c else i+1) ⟨hput v x' g1.le (λ_=>by rw[<-hent2 hfg];exact g2) (λe=>by rw[hent1,hfg]at e;cases e),h.step.trans g1,g3,hsz,hclosed,λl' hl' hp=>?_,λp g hp hpc=>?_,λl' hl'=>?_,λp g hp hpc hpa hpl l' hl'=>?_⟩ hcnt
    .have hne:l'≠nx+i:=hp i (by rw[gr his,ak rfl]);rw[g4 l' hne];refine h.β l' hl' λp hp'=>hp p ?_
     rw[gr his];split
     .rfl
     .exact hp'
    .by_cases e:p=i
     .subst e;rw[hg1]at hp;obtain rfl:=bc hp;have hpf:¬(ins.free=true\/ins.jO=true\/ins.rX=true):=by
       rintro(hpu|hpu|hpu)
       .have:=T5 hpu;simp only at hpc;rw[this]at hpc;cases hpc
       .have:=Dh hpu;simp only at hpc;rw[this]at hpc;cases hpc
       .have:=ahH hpu;simp only at hpc;rw[this]at hpc;cases hpc
      rw[ai hpf,gr his,ak rfl];simp
     .rw[hset p e];by_cases hpu:ins.free=true\/ins.jO=true\/ins.rX=true
      .rw[ak hpu];exact h.nc p g hp hpc
      .rw[ai hpu];have hf0:ins.free=false:=by cases hh:ins.free with|false=>rfl|true=>exact absurd (.inl hh) hpu
       have hm0:ins.jO=false:=by cases hh:ins.jO with|false=>rfl|true=>exact absurd (.inr (.inl hh)) hpu
       have hu0:ins.rX=false:=by cases hh:ins.rX with|false=>rfl|true=>exact absurd (.inr (.inr hh)) hpu
       have h3:=hnear hu0 hf0 p g hp hpc (.inl hm0) e;have h4:=h.nc p g hp hpc;constructor
       .intro h5;have:=h4.1 h5;omega
       .intro h5;exact h4.2 (h3.1 ae)
    .by_cases hlL:l'=nx+i
     ·
      subst hlL;have hMi:look (M i) (nx+i)=none:=by
       cases hx:look (M i) (nx+i)with
       |none=>rfl
       |some b=>have:=tr.fresh i (nx+i) (by rw[hx];simp);omega
      by_cases hst:ins.free=true\/ins.rX=true
      .rw[ak (hst.elim .inl λh=>.inr (.inr h)),U_wr hst];rw[show jc (λl'=>if x.β l'=none then look (M i) l' else f l') [] (M (i+1))=(λl'=>if x.β l'=none then look (M i) l' else f l')from wF];simp only[ak hL];have hM1:M (i+1)=M i:=by rw[hMs];exact U_eff hst
       have:∀n,look (M (i+1+n)) (nx+i)=none:=by
        intro n;induction n with
        |zero=>rw[Nat.add_zero,hM1];exact hMi
        |succ n ihn=>
         rw[<-Nat.add_assoc];cases hg:l[i+1+n]? with
         |none=>rw[tr.stop _ hg];exact ihn
         |some g=>
          cases hx:look (M (i+1+n+1)) (nx+i)with
          |none=>rfl
          |some b=>
           rw[tr.step _ g hg]at hx;have hco:g.i.calm=true\/g.i.eL Y (Src.ev env (VS.take (i+1+n))) (M (i+1+n)):=(tr.qC hg).imp id (·.2);rcases tq hco (l:=nx+i) (by rw[hx];simp)with e|e
           .exact absurd ihn e
           .omega
       have:=this (max c (nx+i+1-nx) -(i+1));rw[show i+1+(max c (nx+i+1-nx) -(i+1))=max c (nx+i+1-nx)by omega]at this;rw[this];exact hMi
      .have hpu:ins.free=false:=by cases hh:ins.free with|false=>rfl|true=>exact absurd (.inl hh) hst
       have hu:ins.rX=false:=by cases hh:ins.rX with|false=>rfl|true=>exact absurd (.inr hh) hst
       have e0:jc (λl'=>if x.β l'=none then look (M i) l' else f l') (ins.wr (Src.ev env (VS.take i)) (nx+i)) (M (i+1)) (nx+i)=look (M (i+1)) (nx+i):=by
        simp only[jc];split
        .rfl
        .rename_i hw;rw[hMs,yP hw]
       rw[e0];cases hmk:ins.jO with
       |false=>rw[ai (by simp[hpu,hu]),show max (i+1) (nx+i+1-nx)=i+1 by omega]
       |true=>
        rw[ak (.inr (.inl rfl))];refine tr.same λq g q1 q2 hq hqw=>?_
        cases hqc:g.i.calm with
        |true=>have:=kD hqc hqw;omega
        |false=>
         cases hqa:g.i.isApp with
         |true=>have:=hnear hu hpu q g hq hqc (.inr ⟨hqa,ae⟩) ae;omega
         |false=>exact h.wrβ q g hq hqc hqa ((h.nc q g hq hqc).2 ae) _ hqw hL
     .rw[g4 l' hlL]at hl';by_cases hst:ins.free=true\/ins.rX=true
      .rw[ak (hst.elim .inl λh=>.inr (.inr h)),U_wr hst];rw[show jc (λl'=>if x.β l'=none then look (M i) l' else f l') [] (M (i+1))=(λl'=>if x.β l'=none then look (M i) l' else f l')from wF];simp only[ai hl'];exact h.mem l' hl'
      .have hpu:ins.free=false:=by cases hh:ins.free with|false=>rfl|true=>exact absurd (.inl hh) hst
       have hu:ins.rX=false:=by cases hh:ins.rX with|false=>rfl|true=>exact absurd (.inr hh) hst
       cases hmk:ins.jO with
       |true=>
        rw[ak (.inr (.inl rfl))];have hw:l'∉ins.wr (Src.ev env (VS.take i)) (nx+i):=λhw=>hlL (kD (Dh hmk) hw)
        simp only[jc,ai hw,ai hl'];exact h.mem l' hl'
       |false=>
       rw[ai (by simp[hpu,hu])];simp only[jc];split
       .rename_i hw;rcases PO hob hw with e|e
        .exact absurd e hlL
        .have:=tr.fresh i l' e;rw[show max (i+1) (l'+1-nx)=i+1 by omega]
       .rename_i hw;rw[h.mem l' hl'];refine tr.same λq g q1 q2 hq hqw=>?_
        by_cases hqi:q=i
        .subst hqi;rw[hg1]at hq;obtain rfl:=bc hq;exact hw hqw
        .cases hqc:g.i.calm with
         |true=>have:=kD hqc hqw;omega
         |false=>have:=hnear hu hpu q g hq hqc (.inl hmk) hqi;omega
    .by_cases e:p=i
     .subst e;rw[hg1]at hp;obtain rfl:=bc hp;have hX:∃i0:az,C.op ((ops.toList.map (·.dst)).take p) o=some i0/\i0.calm=false/\i0.isApp=false/\i0.cM=false/\i0.eL Y (Src.ev env (VS.take p)) (M p)/\∀L,i0.wr (Src.ev env (VS.take p)) L=ins.wr (Src.ev env (VS.take p)) L:=by
       rcases hg2 with hg2|⟨n',ag',s',rfl,_⟩|⟨k',y',rfl,_⟩|⟨k',z',n',ps',rfl,_⟩|⟨n',ag',s',rfl|rfl,_⟩|⟨n',s',v',qs',rfl,hg2⟩
       .exact⟨_,hg2,hpc,hpa,hcm,hob,λ_=>rfl⟩
       .cases hpc
       .cases hpc
       .cases hpc
       .cases hpc
       .cases hpc
       .obtain⟨o1,o2,o3,o4⟩:=hob;refine⟨_,hg2,rfl,rfl,rfl,⟨o1,o2,o3, ?_⟩,λ_=>rfl⟩;cases hd:(Src.ev env (VS.take p) s').d<;>simp only[hd]at o4;exact⟨o4.1,o4.2.1⟩
      obtain⟨i0,hX1,hX2,hX3,hX4,hX5,hX6⟩:=hX;obtain⟨s,⟨q,hq1,hq2⟩,hs3⟩:=akx (Y:=Y) hX1 hX2 hX3 hX4;obtain⟨hok,l1,hwr,hd⟩:=hs3 _ _ (nx+p) hX5;simp only at hl';rw[<-hX6,hwr]at hl';obtain rfl:=aJ.1 hl';have hrd:=hρ q hq1 s hq2 hok;generalize a.eval q=vq at hrd;rcases hd with⟨k1,i1,o1,hd⟩|hd|hd
      .rw[hd]at hrd;cases hrd with
       |ptr _ _ _ _ b base tot at_ hβ hat=>rw[g1.β _ _ hβ];simp
      .rw[hd]at hrd;cases hrd with
       |it _ b base tot hβ=>rw[g1.β _ _ hβ];simp
      .rw[hd]at hrd;obtain⟨b,base,tot,_,hβ⟩:=hrd.HO hΓ.small;rw[g1.β _ _ hβ];simp
     .have h7:=h.wrβ p g hp hpc hpa ((hset p e).1 hpl) l' hl';cases hb:x.β l' with
      |none=>exact absurd hb h7
      |some y=>rw[g1.β _ _ hb];simp
end
section
variable {ops:Array Oper}{l:List GI}{bs:List Nat}
def Ap (P:Program)(ops:Array Oper)(n:Nat)(Q:Exit->Act->World->Prop):Exit->Act->World->Prop:=λe a w=>match e with
 | .normal=>wpOp P ops Q n (λa w=>Q .normal a w) a w
 |e=>Q e a w
def Ot {i:Nat}(hsz:ops.size=n+1)(hi:i<n)(hg:∀o,ops[i]? =some o->∀j w,o.guard=some (j,w)->j<n)(h:wpOp P ops.pop (Ap P ops n Q) i K a w):wpOp P ops Q i K a w:=by
 have hp:∀j,j<n->ops.pop[j]? =ops[j]? :=λj hj=>by rw[Array.getElem?_pop,ak ae]
 unfold wpOp at h⊢;rw[hp i hi]at h;cases ho:ops[i]? with
 |none=>rw[ho]at h;exact h
 |some o=>
  rw[ho]at h;simp only at h⊢;have hw:Region.wanted o (yielded ops.pop a.tmps)=Region.wanted o (yielded ops a.tmps):=by
   unfold Region.wanted;cases hgd:o.guard with
   |none=>rfl
   |some jw=>obtain⟨j,b⟩:=jw;simp only[yielded,hp j (hg o ho j b hgd)]
  rw[hw]at h;split
  .rename_i hw2;rw[ak hw2]at h;refine h.imp (λh=>?_) (λh=>⟨h.1,h.2⟩);unfold Oper.wp at h⊢;generalize (execOp a.eval o).run P w=r at h⊢;cases r with
   |ok nx w'=>cases nx<;>exact h
   |halt x w'=>cases x<;>exact h
  .rename_i hw2;rw[ai hw2]at h;exact h
def Bx (o:Oper)(J:Operand->Value):Option Value:=match o.op with
 | .move x=>some (J x)
 | .assign x=>some (J x)
 | .extract x i=>(match J x with
  | .tuple vs=>vs[i]?
  |_=>none)
 |_=>none
def tO {i:Nat}{o:Oper}{x:Operand}(ho:ops[i]? =some o)(hx:AA o=some x):wpOp P ops Q i K a w↔∃v,Bx o a.eval=some v/\K (a.put o.dst v) w:=by
 have key:∀r:Sem Next,execOp a.eval o=r->o.guard=none->((∃v,Bx o a.eval=some v/\r=.pure (.value v))\/(Bx o a.eval=none/\∃s,r=.halt (.stuck s)))->((if Region.wanted o (yielded ops a.tmps)=true then o.wp P a w K Q\/o.asks P a w/\LetsOut Q else K (a.put o.dst undef) w)↔∃v,Bx o a.eval=some v/\K (a.put o.dst v) w):=by
  intro r hr hg h;have hw:Region.wanted o (yielded ops a.tmps)=true:=by unfold Region.wanted;rw[hg]
  rw[ak hw];unfold Oper.wp Oper.asks;rw[hr];rcases h with⟨v,hv,rfl⟩|⟨hv,s,rfl⟩
  .rw[hv];constructor
   .rintro(h|⟨⟨h,_⟩,_⟩)
    .exact⟨v,rfl,h⟩
    .exact absurd (show noRoomEvent∈(#[]:Array Event)from h) aF
   .rintro⟨u,hu,h⟩;cases hu;exact .inl h
  .rw[hv];constructor
   .rintro(h|⟨⟨h,_⟩,_⟩)
    .exact False.elim h
    .exact absurd (show noRoomEvent∈(#[]:Array Event)from h) aF
   .rintro⟨u,hu,_⟩;cases hu
 unfold wpOp;rw[ho];unfold AA at hx;simp only;split at hx
 .rename_i y h1 h2;exact key _ rfl h2 (.inl ⟨a.eval y,by unfold Bx;rw[h1],by unfold execOp;rw[h1];rfl⟩)
 .rename_i y h1 h2;exact key _ rfl h2 (.inl ⟨a.eval y,by unfold Bx;rw[h1],by unfold execOp;rw[h1];rfl⟩)
 .rename_i y i h1 h2;refine key _ rfl h2 ?_;unfold Bx execOp;rw[h1];simp only;unfold Instr.extract;cases a.eval y with
  |tuple vs=>
   simp only;cases hvs:vs[i]? with
   |some v=>exact .inl ⟨v,rfl,rfl⟩
   |none=>exact .inr ⟨rfl,_,rfl⟩
  |_=>exact .inr ⟨rfl,_,rfl⟩
 .cases hx
def Xs {x:Operand}{d:Option Nat}{v:Value}(h:PR x d=true):(a.put d v).eval x=a.eval x:=by
 cases d with
 |none=>rfl
 |some d=>
  cases x with
  |tmp t=>
   simp only[PR,bne_iff_ne,ne_eq]at h;simp only[Act.put,Act.eval,Array.getD_eq_getD_getElem?];rw[Array.getElem?_setIfInBounds_ne (λe=>h e.symm)]
  |_=>rfl
def Of {o:Oper}{x:Operand}(hx:AA o=some x){d:Option Nat}{v:Value}(h:PR x d=true):Bx o (a.put d v).eval=Bx o a.eval:=by
 unfold AA at hx;unfold Bx;split at hx<;>first
  |(rename_i y h1 h2;cases hx;simp only[h1,Xs h])
  |cases hx
def put_comm {d e:Option Nat}{u v:Value}(h:(match d,e with
  |some a,some b=>a !=b
  |_,_=>true)=true):(a.put d u).put e v=(a.put e v).put d u:=by
 cases d with
 |none=>rfl
 |some d=>
  cases e with
  |none=>rfl
  |some e=>
   simp only[bne_iff_ne,ne_eq]at h;simp only[Act.put];rw[Array.setIfInBounds_comm _ _ h]
def Wx (hsz:ops.size=n+1)(ho:Order ops.toList l bs)(hfull:∀p,p<n->Oy ops.toList bs n p)(hg:∀(i:Nat)(o:Oper),ops[i]? =some o->∀j w,o.guard=some (j,w)->j<i):
  ∀(fuel:Nat) (listed:Array Bool) (a:Act) (w:World),listed.size=n+1->listed.getD n false=false->(∀j,listed.getD j false=true->∀p,(bs.getD j 0).testBit p=true->listed.getD p false=true)->
   wpAny P .any ops.pop (Ap P ops n Q) fuel listed.pop a w->wpAny P .any ops Q (fuel+1) listed a w:=by
 have hp:∀j,j<n->ops.pop[j]? =ops[j]? :=λj hj=>by rw[Array.getElem?_pop,ak ae]
 have hlp:∀(listed:Array Bool),listed.size=n+1->∀j d,j<n->listed.pop.getD j d=listed.getD j d:=λlisted hl j d hj=>by
  simp only[Array.getD_eq_getD_getElem?,Array.getElem?_pop,ak (show j<listed.size-1 by omega)]

 have hrd:∀(listed:Array Bool),listed.size=n+1->∀i,i<n->(i∈Region.ready .any ops listed↔i∈Region.ready .any ops.pop listed.pop):=by
  intro listed hl i hi;rw[mem_ready,mem_ready,hp i hi,hlp listed hl i true hi];refine and_congr_right λ_=>exists_congr λo=>and_congr_right λho'=>forall_congr' λe=>imp_congr_right λhe=>imp_congr_right λhb=>?_
  have:=ho.edge i o (by simpa using ho') e he hb;rw[hlp listed hl e.on false ae]
 have hlast:∀(listed:Array Bool),(∀j,listed.getD j false=true->∀p,(bs.getD j 0).testBit p=true->listed.getD p false=true)->n∈Region.ready .any ops listed->∀p,p<n->(bs.getD n 0).testBit p=true->listed.getD p false=true:=by
  intro listed hcl hn p hpn hb;obtain⟨_,o,ho',hed⟩:=mem_ready.1 hn;obtain⟨e,e1,e2,e3⟩:=ho.bef n o (by simpa using ho') p hb;rcases e3 with rfl|e3
  .exact hed e e1 e2
  .exact hcl _ (hed e e1 e2) p e3
 have hdone:∀(fuel:Nat) (listed:Array Bool) (a:Act) (w:World),listed.size=n+1->(∀p,p<n+1->listed.getD p false=true)->Q .normal a w->wpAny P .any ops Q fuel listed a w:=by
  intro fuel listed a w hl hall hq;have hr:Region.ready .any ops listed=[]:=by
   rw[List.eq_nil_iff_forall_not_mem];intro j hj;obtain⟨h1,o,h2,_⟩:=mem_ready.1 hj;have hjl:j<n+1:=by have:=(Array.getElem?_eq_some_iff.1 h2).1;omega
   have h3:=hall j hjl;have hjs:j<listed.size:=ae;simp only[Array.getD,hjs,dif_pos]at h1 h3;rw[h3]at h1;cases h1
  cases fuel with
  |zero=>exact⟨hr,hq⟩
  |succ fuel=>exact⟨λ_=>hq,λi hi=>by rw[hr]at hi;cases hi⟩
 have hall:∀(listed:Array Bool),listed.size=n+1->Region.ready .any ops.pop listed.pop=[]->∀p,p<n->listed.getD p false=true:=by
  intro listed hl hr p;induction p using Nat.strongRecOn with
  |_ p ih=>
   intro hpn;cases hd:listed.getD p false with
   |true=>rfl
   |false=>
    exfalso;have hm:p∈Region.ready .any ops listed:=by
     rw[mem_ready];refine⟨?_,ops[p],by simp[show p<ops.size by omega],λe he hb=>?_⟩
     .have:p<listed.size:=ae;simp only[Array.getD,this,dif_pos]at hd⊢;exact hd
     .have:=ho.edge p ops[p] (by simp[show p<ops.size by omega]) e he hb;exact ih e.on this ae
    rw[hrd listed hl p hpn,hr]at hm;cases hm
 have hrest:∀(fuel:Nat) (listed:Array Bool) (a:Act) (w:World),listed.size=n+1->Region.ready .any ops.pop listed.pop=[]->
   Ap P ops n Q .normal a w->wpOp P ops Q n (wpAny P .any ops Q fuel (listed.setIfInBounds n true)) a w:=by
  intro fuel listed a w hl hr hq;refine wpOp_mono (λa w hq=>hdone fuel _ a w (by simp[hl]) (λp hp'=>?_) hq) hq;rw[gr ae];split
  .rfl
  .exact hall listed hl hr p ae

 have hend:∀(listed:Array Bool),listed.size=n+1->listed.getD n false=false->Region.ready .any ops.pop listed.pop=[]->n∈Region.ready .any ops listed:=by
  intro listed hl hn hr;rw[mem_ready];refine⟨?_,ops[n],by simp[hsz],λe he hb=>hall listed hl hr _ (ho.edge n ops[n] (by simp[hsz]) e he hb)⟩;have:n<listed.size:=ae;simp only[Array.getD,this,dif_pos]at hn⊢;exact hn

 have hclS:∀(listed:Array Bool),listed.size=n+1->(∀j,listed.getD j false=true->∀p,(bs.getD j 0).testBit p=true->listed.getD p false=true)->∀i,i∈Region.ready .any ops listed->i<n->∀j,(listed.setIfInBounds i true).getD j false=true->∀p,(bs.getD j 0).testBit p=true->(listed.setIfInBounds i true).getD p false=true:=by
  intro listed hl hcl i hi h3 j hj p hp';obtain⟨_,o,ho',hed⟩:=mem_ready.1 hi;rw[gr ae]at hj⊢;by_cases e:p=i
  .rw[ak e]
  .rw[ai e];by_cases ej:j=i
   .subst ej;obtain⟨e',e1,e2,e3⟩:=ho.bef j o (by simpa using ho') p hp';rcases e3 with rfl|e3
    .exact hed e' e1 e2
    .exact hcl _ (hed e' e1 e2) p e3
   .rw[ai ej]at hj;exact hcl j hj p hp'
 have hpopS:∀(listed:Array Bool) (i:Nat),listed.size=n+1->i<n->(listed.setIfInBounds i true).pop=listed.pop.setIfInBounds i true:=by
  intro listed i hl h3;apply Array.ext
  .simp
  .intro q h5 h6;simp only[Array.size_pop,Array.size_setIfInBounds]at h5;rw[Array.getElem_pop,Array.getElem_setIfInBounds,Array.getElem_setIfInBounds,Array.getElem_pop]
   (first|exact(by simpa using h5)|omega)

 have hcomm:∀(fuel:Nat) (listed:Array Bool) (a:Act) (w:World),listed.size=n+1->(∀j,listed.getD j false=true->∀p,(bs.getD j 0).testBit p=true->listed.getD p false=true)->n∈Region.ready .any ops listed->
   wpAny P .any ops.pop (Ap P ops n Q) fuel listed.pop a w->wpOp P ops Q n (wpAny P .any ops Q fuel (listed.setIfInBounds n true)) a w:=by
  intro fuel;induction fuel with
  |zero=>intro listed a w hl hcl hn h;exact hrest 0 listed a w hl h.1 h.2
  |succ fuel ih=>
   intro listed a w hl hcl hn h;obtain⟨h1,h2⟩:=h;cases hr:Region.ready .any ops.pop listed.pop with
   |nil=>exact hrest _ listed a w hl hr (h1 hr)
   |cons i0 rest=>
    have hlt:∀i∈Region.ready .any ops.pop listed.pop,i<n:=by
     intro i hi;obtain⟨_,o,ho',_⟩:=mem_ready.1 hi;have:=(Array.getElem?_eq_some_iff.1 ho').1;simp only[Array.size_pop]at this;omega
    have hpair:∀i∈Region.ready .any ops.pop listed.pop,∃on oi xn xi,ops[n]? =some on/\ops[i]? =some oi/\AA on=some xn/\AA oi=some xi/\PR xn oi.dst=true/\PR xi on.dst=true/\(match on.dst,oi.dst with
      |some a,some b=>a !=b
      |_,_=>true)=true:=by
     intro i hi;have hin:=hlt i hi;rcases hfull i hin with h|⟨o,o',e1,e2,e3⟩
     .have h5:=hlast listed hcl hn i hin h;have h6:=(mem_ready.1 ((hrd listed hl i hin).2 hi)).1;have h7:i<listed.size:=ae;simp only[Array.getD,h7,dif_pos]at h5 h6;rw[h5]at h6;cases h6
     .unfold Pf at e3;split at e3
      .rename_i x y hx hy;simp only[aK]at e3;exact⟨o,o',x,y,by simpa using e1,by simpa using e2,hx,hy,e3.1,e3.2.1,e3.2.2⟩
      .cases e3
    have hstep:∀i∈Region.ready .any ops.pop listed.pop,∀on oi,ops[n]? =some on->ops[i]? =some oi->∃v u,Bx on a.eval=some v/\Bx oi (a.put on.dst v).eval=some u/\wpAny P .any ops Q fuel ((listed.setIfInBounds n true).setIfInBounds i true) ((a.put on.dst v).put oi.dst u) w:=by
     intro i hi on oi hon hoi;have hin:=hlt i hi;obtain⟨on',oi',xn,xi,p1,p2,p3,p4,p5,p6,p7⟩:=hpair i hi;obtain rfl:on'=on:=by rw[hon]at p1;cases p1;rfl
     obtain rfl:oi'=oi:=by rw[hoi]at p2;cases p2;rfl
     have hio:=(hrd listed hl i hin).2 hi;have h4:=Ot hsz hin (λo' ho2 j b hj=>by have:=hg i o' ho2 j b hj;omega) (h2 i hi);have h5:=wpOp_mono (K':=wpOp P ops Q n (wpAny P .any ops Q fuel ((listed.setIfInBounds i true).setIfInBounds n true))) (λa w hh=>by
      refine ih (listed.setIfInBounds i true) a w (by simp[hl]) (hclS listed hl hcl i hio hin) ?_ (by rw[hpopS listed i hl hin];exact hh);rw[mem_ready]at hn⊢;obtain⟨n1,o,n2,n3⟩:=hn;refine⟨by rw[tw ae,ai ae];exact n1,o,n2,λe he hb=>?_⟩;rw[gr ae];split
      .rfl
      .exact n3 e he hb) h4
     rw[tO hoi p4]at h5;obtain⟨u,hu,h5⟩:=h5;rw[tO hon p3]at h5;obtain⟨v,hv,h5⟩:=h5;rw[Of p3 p5]at hv;refine⟨v,u,hv,by rw[Of p4 p6];exact hu, ?_⟩;rw[put_comm p7,Array.setIfInBounds_comm _ _ (show n≠i by omega)];exact h5
    obtain⟨on,oi0,xn,_,hon,hoi0,hxn,_⟩:=hpair i0 (by rw[hr];exact .head _);obtain⟨v,_,hv,_⟩:=hstep i0 (by rw[hr];exact .head _) on oi0 hon hoi0;rw[tO hon hxn];have hup:∀j,j<n->(j∈Region.ready .any ops (listed.setIfInBounds n true)↔j∈Region.ready .any ops.pop listed.pop):=by
     intro j hj;rw[<-hrd listed hl j hj,mem_ready,mem_ready,tw ae,ai ae];refine and_congr_right λ_=>exists_congr λo=>and_congr_right λho'=>forall_congr' λe=>imp_congr_right λhe=>imp_congr_right λhb=>?_
     have:=ho.edge j o (by simpa using ho') e he hb;rw[gr ae,ai ae]
    refine⟨v,hv,λhz=>?_,λj hj=>?_⟩
    .exfalso;have:=(hup i0 (hlt i0 (by rw[hr];exact .head _))).2 (by rw[hr];exact .head _);rw[hz]at this;cases this
    .have hjn:j<n:=by
      obtain⟨k1,o,ho',_⟩:=mem_ready.1 hj;have h8:=(Array.getElem?_eq_some_iff.1 ho').1;rcases dZ j n with h9|h9
      .exact h9
      .obtain rfl:j=n:=ae;rw[tw ae,ak rfl]at k1;cases k1
     have hj':=(hup j hjn).1 hj;obtain⟨_,oj,_,xj,_,hoj,_,hxj,_⟩:=hpair j hj';rw[tO hoj hxj];obtain⟨v',u,hv',hu,h⟩:=hstep j hj' on oj hon hoj;obtain rfl:v'=v:=by rw[hv]at hv';cases hv';rfl
     exact⟨u,hu,h⟩
 intro fuel;induction fuel with
 |zero=>
  intro listed a w hl hn hcl h;obtain⟨h1,h2⟩:=h;refine⟨λhr=>?_,λi hi=>?_⟩
  .have:=hend listed hl hn h1;rw[hr]at this;cases this
  .have hin:i=n:=by
    rcases dZ i n with h3|h3
    .rw[hrd listed hl i h3,h1]at hi;cases hi
    .obtain⟨_,o,ho',_⟩:=mem_ready.1 hi;have:=(Array.getElem?_eq_some_iff.1 ho').1;omega
   subst hin;exact hrest 0 listed a w hl h1 h2
 |succ fuel ih=>
  intro listed a w hl hn hcl h;obtain⟨h1,h2⟩:=h;refine⟨λhr=>?_,λi hi=>?_⟩
  .have hr':Region.ready .any ops.pop listed.pop=[]:=by
    rw[List.eq_nil_iff_forall_not_mem];intro j hj;have hjn:j<n:=by
     obtain⟨_,o,ho',_⟩:=mem_ready.1 hj;have:=(Array.getElem?_eq_some_iff.1 ho').1;simp only[Array.size_pop]at this;omega
    rw[<-hrd listed hl j hjn,hr]at hj;cases hj
   have:=hend listed hl hn hr';rw[hr]at this;cases this
  .rcases dZ i n with h3|h3
   .have h4:=h2 i ((hrd listed hl i h3).1 hi);refine Ot hsz h3 (λo' ho2 j b hj=>by have:=hg i o' ho2 j b hj;omega) (wpOp_mono (λa w hh=>ih (listed.setIfInBounds i true) a w (by simp[hl]) (by rw[gr ae,ai ae];exact hn) (hclS listed hl hcl i hi h3) (by rw[hpopS listed i hl h3];exact hh)) h4)
   .have hin:i=n:=by
     obtain⟨_,o,ho',_⟩:=mem_ready.1 hi;have:=(Array.getElem?_eq_some_iff.1 ho').1;omega
    subst hin;exact hcomm _ listed a w hl hcl hi ⟨h1,h2⟩
def VL {i:Nat}(hsz:ops.size=n+1)(hi:i<n)(hg:∀o,ops[i]? =some o->∀j w,o.guard=some (j,w)->j<n)(h:wpOp P ops Q i K a w):wpOp P ops.pop (Ap P ops n Q) i K a w:=by
 have hp:∀j,j<n->ops.pop[j]? =ops[j]? :=λj hj=>by rw[Array.getElem?_pop,ak ae]
 unfold wpOp at h⊢;rw[hp i hi];cases ho:ops[i]? with
 |none=>rw[ho]at h;exact h
 |some o=>
  rw[ho]at h;simp only at h⊢;have hw:Region.wanted o (yielded ops.pop a.tmps)=Region.wanted o (yielded ops a.tmps):=by
   unfold Region.wanted;cases hgd:o.guard with
   |none=>rfl
   |some jw=>obtain⟨j,b⟩:=jw;simp only[yielded,hp j (hg o ho j b hgd)]
  rw[hw];split
  .rename_i hw2;rw[ak hw2]at h;refine h.imp (λh=>?_) (λh=>⟨h.1,h.2⟩);unfold Oper.wp at h⊢;generalize (execOp a.eval o).run P w=r at h⊢;cases r with
   |ok nx w'=>cases nx<;>exact h
   |halt x w'=>cases x<;>exact h
  .rename_i hw2;rw[ai hw2]at h;exact h
def G1 {P:Program}{n:Nat}(hsz:ops.size=n+1)(hg:∀(i:Nat)(o:Oper),ops[i]? =some o->∀j w,o.guard=some (j,w)->j<i){Q:Exit->Act->World->Prop}:
  ∀(t k:Nat) (a:Act) (w:World),k+t=n->wpOps P ops Q (List.range' k (t+1)) a w->wpOps P ops.pop (Ap P ops n Q) (List.range' k t) a w
 |0,k,a,w,hk,h=>by
  obtain rfl:k=n:=ae;rw[List.range'_succ,wpOps_cons]at h;exact h
 |t+1,k,a,w,hk,h=>by
  rw[List.range'_succ,wpOps_cons]at h⊢;exact VL hsz ae (λo ho j b hj=>by have:=hg k o ho j b hj;omega) (wpOp_mono (λa w h=>G1 hsz hg t (k+1) a w ae h) h)
def GZ (N:Act->World->Prop)(Q:Exit->Act->World->Prop):Exit->Act->World->Prop:=λe a w=>match e with
 | .normal=>N a w
 |e=>Q e a w
def Pl (P:Program)(ops:Array Oper)(n t:Nat)(Q:Exit->Act->World->Prop):Exit->Act->World->Prop:=GZ (wpOps P ops Q (List.range' n t)) Q
def afa {i:Nat}{N N':Act->World->Prop}(h:wpOp P ops (GZ N Q) i K a w):wpOp P ops (GZ N' Q) i K a w:=by
 unfold wpOp at h⊢;split at h
 .exact h
 .rename_i o ho;split at h
  .rename_i hw;rw[ak hw];refine h.imp (λh=>?_) (λh=>⟨h.1,h.2⟩);unfold Oper.wp at h⊢;generalize (execOp a.eval o).run P w=r at h⊢;cases r with
   |ok nx w'=>cases nx<;>exact h
   |halt x w'=>cases x<;>exact h
  .rename_i hw;rw[ai hw];exact h
def Oq {P:Program}{N N':Act->World->Prop}{Q:Exit->Act->World->Prop}(hn:∀a w,N a w->N' a w):
  ∀(fuel:Nat) (listed:Array Bool) (a:Act) (w:World),wpAny P .any ops (GZ N Q) fuel listed a w->wpAny P .any ops (GZ N' Q) fuel listed a w
 |0,_,_,_,h=>⟨h.1,hn _ _ h.2⟩
 |fuel+1,_,_,_,h=>⟨λhr=>hn _ _ (h.1 hr),λi hi=>afa (wpOp_mono (λ_ _ h=>Oq hn fuel _ _ _ h) (h.2 i hi))⟩
def FH {P:Program}:∀(t:Nat){ops:Array Oper}{l:List GI}{n:Nat}{Q:Exit->Act->World->Prop},ops.size=n+t->l.length=n+t->Order ops.toList l bs->(∀q,q<t->∀p,p<n+q->Oy ops.toList bs (n+q) p)->
  (∀(i:Nat) (o:Oper),ops[i]? =some o->∀j w,o.guard=some (j,w)->j<i)->∀(a:Act) (w:World),wpAny P .any (ops.extract 0 n) (Pl P ops n t Q) n (Array.replicate n false) a w->wpAny P .any ops Q (n+t) (Array.replicate (n+t) false) a w
 |0,ops,l,n,Q,hsz,_,_,_,_,a,w,h=>by
  rw[show ops.extract 0 n=ops by rw[show n=ops.size by omega];simp]at h;rw[show Pl P ops n 0 Q=Q by funext e a w;cases e<;>rfl]at h;exact h
 |t+1,ops,l,n,Q,hsz,hll,ho,hfull,hg,a,w,h=>by
  obtain⟨o,ho1⟩:∃o,ops[n+t]? =some o:=⟨ops[n+t],by simp[show n+t<ops.size by omega]⟩
  have hops:ops.toList=ops.pop.toList++[o]:=by
   apply List.ext_getElem?;intro q;rw[Array.toList_pop,List.dropLast_eq_take];rcases Nat.lt_trichotomy q (n+t)with h1|h1|h1
   .rw[List.getElem?_append_left eJ,List.getElem?_take,ak eJ]
   .subst h1;rw[List.getElem?_append_right eJ];simp only[ey,Array.length_toList];rw[show n+t-min (ops.size-1) ops.size=0 by omega];simpa using ho1
   .rw[List.getElem?_eq_none eJ,List.getElem?_eq_none eJ]
  obtain⟨l',g,rfl⟩:∃l' g,l=l'++[g]:=by
   rcases List.eq_nil_or_concat l with rfl|⟨l',g,rfl⟩
   .simp at hll
   .exact⟨l',g,aF⟩
  have ho':Order ops.pop.toList l' bs:=Order.pre (os:=[o]) (ls:=[g]) (by rw[<-hops];exact ho);have hgp:∀(i:Nat) (o:Oper),ops.pop[i]? =some o->∀j w,o.guard=some (j,w)->j<i:=λi o hi=>by
   rw[Array.getElem?_pop]at hi;split at hi
   .exact hg i o hi
   .cases hi
  have hno:∀(k p:Nat),¬(Array.replicate k false).getD p false=true:=λk p=>by
   simp[Array.getElem?_replicate];split<;>simp
  refine Wx (n:=n+t) hsz ho (hfull t ae) hg (n+t) _ a w eJ (by simp[Array.getElem?_replicate]) (λj hj=>absurd hj (hno _ j)) ?_;rw[show(Array.replicate (n+(t+1)) false).pop=Array.replicate (n+t) false by
   apply Array.ext
   .simp
   .intro q h5 h6;simp]
  have hbp:∀j,j<n+t->ops.pop.toList[j]? =ops.toList[j]? :=λj hj=>by rw[Array.getElem?_toList,Array.getElem?_toList,Array.getElem?_pop,ak ae]
  refine FH t (ops:=ops.pop) (l:=l') eJ (by simp at hll;omega) ho' (λq hq p hp=>(hfull q ae p hp).imp id λ⟨o,o',e1,e2,e3⟩=>⟨o,o',by rw[hbp _ ae];exact e1,by rw[hbp _ ae];exact e2,e3⟩) hgp a w ?_;rw[show ops.pop.extract 0 n=ops.extract 0 n by
   apply Array.ext
   .simp;omega
   .intro q h5 h6;simp]
  rw[show Pl P ops.pop n t (Ap P ops (n+t) Q)=GZ (wpOps P ops.pop (Ap P ops (n+t) Q) (List.range' n t)) Q by funext e a w;cases e<;>rfl];exact Oq (λa w h=>G1 hsz hg t n a w rfl h) _ _ _ _ h
end
end
end
section
variable [cI]
section
variable {C:CC}{Y:Ctx}
structure Inv (C:CC)(a:Act)(x:X)(env:List aY)(st:St):Prop where
 len:env.length=C.slots.length
 env:∀n t:Nat,C.slots[n]? =some t->(env.getD n .un).ok=true->RD C.ν x (a.tmps.getD t undef) (env.getD n .un).d
 size:a.tmps.size=C.ntmps
 defers:a.defers=[]
 oA:fG C.ν x (look st.m)
 fresh:fk st x
def Inv.mid (h:Inv C a x env st)(DD:List (Option Nat))(VS:List aY){D:Nat->Prop}(hD:∀p,¬D p):A7 C env DD VS D a x:=
 ⟨λp t hp=>absurd hp (hD p),λp t hp=>absurd hp (hD p),λn t hn _ ho=>h.env n t hn ho,h.size,h.defers⟩
def Cq (vs:List aY):∀(cm:List (Nat×Nat)) (env:List aY),(iv env vs cm).length=env.length
 |[],env=>rfl
 |(s,p)::r,env=>by simp only[iv];rw[Cq vs r];simp
theorem FX {α:Type}(l:List α)(i j:Nat)(v d:α)(h:i<l.length):(l.set i v).getD j d=if j=i then v else l.getD j d:=by
 grind
def vE (hnd:C.slots.Nodup)(vs:List aY):∀(ops:List Oper) (p:Nat) (env:List aY) (n t:Nat),C.slots[n]? =some t->env.length=C.slots.length->
  ((∀(j:Nat) (o:Oper),ops[j]? =some o->o.dst≠some t)->(iv env vs (C.iw p ops)).getD n .un=env.getD n .un)/\
  (∀(j:Nat) (o:Oper),ops[j]? =some o->o.dst=some t->(∀(j':Nat) (o':Oper),ops[j']? =some o'->o'.dst=some t->j'=j)->(iv env vs (C.iw p ops)).getD n .un=vs.getD (p+j) .un)
 |[],p,env,n,t,hn,hl=>⟨λ_=>rfl,λj o h=>ic⟩
 |o::r,p,env,n,t,hn,hl=>by
  have hnl:n<C.slots.length:=(List.getElem?_eq_some_iff.1 hn).1;cases hb:o.dst.bind (Bi C.slots)with
  |none=>
   have e:C.iw p (o::r)=C.iw (p+1) r:=by simp[CC.iw,hb]
   rw[e];obtain⟨a1,a2⟩:=vE hnd vs r (p+1) env n t hn hl;have hne:o.dst≠some t:=λe=>by rw[e,Option.bind_some,HE _ _ _ hnd hn]at hb;cases hb
   refine⟨λh=>a1 λj o' hj=>h (j+1) o' nG,λj o' hj hd hu=>?_⟩;cases j with
   |zero=>simp at hj;subst hj;exact absurd hd hne
   |succ j=>
    rw[show p+(j+1)=p+1+j by omega];exact a2 j o' nG hd λj' o'' hj' hd'=>by have:=hu (j'+1) o'' (by simpa using hj') hd';omega
  |some s=>
   have e:C.iw p (o::r)=(s,p)::C.iw (p+1) r:=by simp[CC.iw,hb]
   rw[e];simp only[iv];obtain⟨t',ht',hs⟩:=Option.bind_eq_some_iff.1 hb;have hsl:=pU _ _ _ hs;have hslen:s<env.length:=by rw[hl];exact(List.getElem?_eq_some_iff.1 hsl).1
   obtain⟨a1,a2⟩:=vE hnd vs r (p+1) (env.set s (vs.getD p .un)) n t hn (by simpa using hl);have hst:s=n↔t'=t:=by
    constructor
    .rintro rfl;rw[hsl]at hn;exact bc hn
    .rintro rfl;have:=HE _ _ _ hnd hn;rw[hs]at this;exact bc this
   refine⟨λh=>?_,λj o' hj hd hu=>?_⟩
   .have hne:t'≠t:=λe=>h 0 o aF (by rw[ht',e])
    rw[a1 λj o' hj=>h (j+1) o' nG,FX _ _ _ _ _ hslen,ai (λe=>hne (hst.1 e.symm))]
   .cases j with
    |zero=>
     simp at hj;subst hj;have ht:t'=t:=by rw[ht']at hd;exact bc hd
     rw[a1 λj o' hj hd'=>by have:=hu (j+1) o' nG hd';omega,FX _ _ _ _ _ hslen,ak (hst.2 ht).symm];simp
    |succ j=>
     rw[show p+(j+1)=p+1+j by omega];exact a2 j o' nG hd λj' o'' hj' hd'=>by have:=hu (j'+1) o'' (by simpa using hj') hd';omega
def yX (hnd:C.slots.Nodup){ops:Array Oper}{l:List GI}(hsp:Spec C ops.toList l){VS:List aY}(hlen:env.length=C.slots.length)(hm:A7 C env (ops.toList.map (·.dst)) VS (· <ops.size) a x)(hs:fG C.ν x (look st.m))(hf:fk st x):Inv C a x (iv env VS (C.iw 0 ops.toList)) st:=by
 refine⟨by rw[Cq];exact hlen,λn t hn ho=>?_,hm.size,hm.defers,hs,hf⟩;obtain⟨c1,c2⟩:=vE hnd VS ops.toList 0 env n t hn hlen;by_cases hw:∃j:Nat,(ops.toList.map (·.dst))[j]? =some (some t)
 .obtain⟨j,hj⟩:=hw;have hj':=hj;rw[List.getElem?_map,c7]at hj';obtain⟨o,ho1,ho2⟩:=hj';have e:=c2 j o ho1 ho2 λj' o' h1 h2=>hsp.distinct hj (by rw[List.getElem?_map,h1,Option.map_some,h2])
  rw[cL]at e;rw[e]at ho⊢;have hjl:j<ops.size:=by simpa using(List.getElem?_eq_some_iff.1 ho1).1
  exact hm.val j t hjl hj ho
 .have hw':∀j:Nat,(ops.toList.map (·.dst))[j]? ≠some (some t):=λj e=>hw ⟨j,e⟩
  rw[c1 λj o h1 h2=>hw' j (by rw[List.getElem?_map,h1,Option.map_some,h2])]at ho⊢;exact hm.old n t hn (λp _=>hw' p) ho
def Xr (h:Inv C a x env st){c:Operand}{s:Src}(hc:C.src [] c=some s)(hok:(s.ev env []).ok=true):RD C.ν x (a.eval c) (s.ev env []).d:=
 ((h.mid [] [] (D:=λ_=>False) (λ_ h=>h)).rho (i:=0) (os:=[c]) (λt p _ hp=>by simp at hp)) c (.head _) s (by simpa using hc) (by simpa using hok)
def Ex.of:Ex->Exit
 | .normal=>.normal
 | .exit id=>.exit id
 | .ret=>.ret
def Post (C:CC)(Q:Ex->List aY->St->Prop)(x0:X):Exit->Act->World->Prop:=λe a w=>∃e' x' env' st',Ex.of e'=e/\x'.w=w/\Step x0 x'/\Inv C a x' env' st'/\Q e' env' st'
theorem Inv.weak {m:List (Nat×bm)}(h:Inv C a x env ⟨nx,m⟩)(hl:leE env env')(hm:aaw m m'):Inv C a x env' ⟨nx,m'⟩:=by
 have hle:∀(e e':List aY),leE e e'->e'.length=e.length/\∀n,e'.getD n .un=e.getD n .un\/e'.getD n .un=.un:=by
  intro e;induction e with
  |nil=>intro e' h;cases e'<;>simp_all[leE]
  |cons b r ih=>
   intro e' h;cases e' with
   |nil=>simp[leE]at h
   |cons b' r'=>
    simp only[leE]at h;obtain⟨i1,i2⟩:=ih r' h.2;refine⟨by simp[i1],λn=>?_⟩;cases n with
    |zero=>simpa using h.1
    |succ n=>simpa using i2 n
 have hsub:∀(m':List (Nat×bm)),aaw m m'->∀l b,look m' l=some b->look m l=some b:=by
  intro m';induction m' with
  |nil=>intro _ l b h;simp[look]at h
  |cons p r ih=>
   grind [aaw,look]
 obtain⟨l1,l2⟩:=hle env env' hl;refine⟨l1.trans h.len,λn t hn ho=>?_,h.size,h.defers,h.oA.less λl=>?_,h.fresh.β,λl hl'=>?_⟩
 .rcases l2 n with e|e
  .rw[e]at ho⊢;exact h.env n t hn ho
  .rw[e];exact .any _
 .cases hl':look m' l with
  |none=>exact .inr (.inl rfl)
  |some b=>exact .inl (hsub m' hm l b hl').symm
 .cases hl2:look m' l with
  |none=>exact absurd hl2 hl'
  |some b=>exact h.fresh.m l (by show look m l≠none;rw[hsub m' hm l b hl2];simp)
theorem E6.cells (h:E6 d d'):d'.cells.length=d.cells.length/\∀j,E6 (d.cells.getD j .any) (d'.cells.getD j .any):=by
 cases h with
 |refl=>exact⟨rfl,λj=>.refl _⟩
 |nil k=>exact⟨rfl,λj=>by match j with
  |0=>exact .nil k
  |j+1=>exact .refl _⟩
 |agg a b hl h=>exact⟨hl,h⟩
 |sl k a b hl h=>exact⟨rfl,λj=>by match j with
  |0=>exact .sl k a b hl h
  |j+1=>exact .refl _⟩
def E6.aU (h:E6 d d')(hn:d.aU=true):d'.aU=true:=by
 induction h with
 |refl=>exact hn
 |nil k=>rfl
 |agg a b hl h ih=>exact sK λi _=>ih i (cT hn i)
 |sl k a b hl h ih=>rfl
def RD.wk {v:Value}(hv:RD ν x v d)(hw:E6 d d'):RD ν x v d':=by
 induction hv generalizing d' with
 |agg cs ds hl h1 h ih=>
  cases hw with
  |refl=>exact .agg cs ds hl h1 h
  |agg _ b hl2 h2=>exact .agg cs b (hl.trans hl2.symm) (λi hi=>h1 i ae) (λi hi=>ih i ae (h2 i))
 |sl a b off len cap k es c hlen ha hcap hm hk hn hc h1 h ih=>
  cases hw with
  |refl=>exact .sl a b off len cap k es c hlen ha hcap hm hk hn hc h1 h
  |sl _ _ es' hl2 h2=>
   refine .sl a b off len cap k es' c (hlen.trans hl2.symm) (ha.imp (λe=>lP (by rw[hl2,e];rfl)) id) hcap hm (λi hi=>(h2 i).cells.1.trans (hk i hi)) (λi hi=>(h2 i).aU (hn i hi)) hc h1 (λi j hi hj=>ih i j hi hj ((h2 i).cells.2 j))
 |aR=>
  cases hw with
  |refl=>exact .aR
  |nil k=>exact .sl none 0 0 0 0 k [] (λ_ _=>undef) rfl (.inl rfl) (aT _) (Nat.zero_le _) (λi hi=>ae) (λi hi=>ae) (λi j hi=>ae) (λi j hi=>ae) (λi j hi=>ae)
 |any v=>cases hw;exact .any v
 |bool b=>cases hw;exact .bool b
 |int k n=>cases hw;exact .int k n
 |str s h=>cases hw;exact .str s h
 |tup cs ds hl h ih=>cases hw;exact .tup cs ds hl h
 |ref b off k i o at_ es c hI hat hk hn hc h1 h ih=>cases hw;exact .ref b off k i o at_ es c hI hat hk hn hc h1 h
 |ptr l k i o b base tot at_ hβ hat=>cases hw;exact .ptr l k i o b base tot at_ hβ hat
 |own l k i n b base tot cap a hβ ha hcap hm ht=>cases hw;exact .own l k i n b base tot cap a hβ ha hcap hm ht
 |own0 l k i a=>cases hw;exact .own0 l k i a
 |nilp=>cases hw;exact .nilp
 |fn fid n cs ds hν hl h ih=>cases hw;exact .fn fid n cs ds hν hl h
 |ef fid n fs ds hν hl h ih=>cases hw;exact .ef fid n fs ds hν hl h
 |bx b at_ ds v hI hc h1 hl h ih=>cases hw;exact .bx b at_ ds v hI hc h1 hl h
 |mpn=>cases hw;exact .mpn
 |nilf=>cases hw;exact .nilf
 |im l b base tot hβ=>cases hw;exact .im l b base tot hβ
 |it l b base tot hβ=>cases hw;exact .it l b base tot hβ
def oW.wk {ν:List (Nat×Nat)}{x:X}{b base tot:Nat}{blk blk':bm}(h:oW ν x b base tot blk)(hw:WkB blk blk'):oW ν x b base tot blk':=by
 match blk,blk',hw with
 | .buf k es,.buf k' es',hw=>
  obtain⟨rfl,hl,h2⟩:=hw;obtain⟨p1,p2,c,T,fr,p3,p4,p5,p6⟩:=h;refine⟨p1,ae,c,T,fr,p3,p4,p5,λi hi=>⟨(h2 i).cells.1.trans (p6 i ae).1,λj hj=>⟨((p6 i ae).2 j hj).1,((p6 i ae).2 j hj).2.wk ((h2 i).cells.2 j)⟩⟩⟩
 | .buf k es,.iter s p,hw=>cases hw
 | .buf k es,.row s,hw=>cases hw
 | .buf k es,.bld o n u,hw=>cases hw
 | .buf k es,.mpb s,hw=>cases hw
 | .iter s p,b',hw=>simp only[WkB]at hw;subst hw;exact h
 | .row s,b',hw=>simp only[WkB]at hw;subst hw;exact h
 | .bld o n u,b',hw=>simp only[WkB]at hw;subst hw;exact h
 | .mpb s,b',hw=>simp only[WkB]at hw;subst hw;exact h
def Inv.nz {m:List (Nat×bm)}(h:Inv C a x env ⟨nx,m⟩)(hl:WkE env env')(hm:Rt m m'):Inv C a x env' ⟨nx,m'⟩:=by
 have hle:∀(e e':List aY),WkE e e'->e'.length=e.length/\∀n,(e'.getD n .un).ok=(e.getD n .un).ok/\E6 (e.getD n .un).d (e'.getD n .un).d:=by
  intro e;induction e with
  |nil=>
   intro e' h;cases e' with
   |nil=>exact⟨rfl,λn=>⟨rfl,.refl _⟩⟩
   |cons _ _=>exact h.elim
  |cons b r ih=>
   intro e' h;cases e' with
   |nil=>exact h.elim
   |cons b' r'=>
    obtain⟨i1,i2⟩:=ih r' h.2;refine⟨by simp[i1],λn=>?_⟩;cases n with
    |zero=>simpa using h.1
    |succ n=>simpa using i2 n
 have hsub:∀(m':List (Nat×bm)),Rt m m'->∀l b',look m' l=some b'->∃b,look m l=some b/\WkB b b':=by
  intro m';induction m' with
  |nil=>intro _ l b h;simp[look]at h
  |cons p r ih=>
   obtain⟨l0,b0⟩:=p;intro hs l b h;simp only[look]at h;split at h
   .rename_i e;subst e;obtain rfl:=bc h;exact hs.1
   .exact ih hs.2 l b h
 obtain⟨l1,l2⟩:=hle env env' hl;have live:∀l,look m' l≠none->look m l≠none:=λl hl'=>by
  cases hl2:look m' l with
  |none=>exact absurd hl2 hl'
  |some b=>obtain⟨b0,q1,_⟩:=hsub m' hm l b hl2;rw[q1];simp
 refine⟨l1.trans h.len,λn t hn ho=>?_,h.size,h.defers,⟨λl blk b base tot e1 e2=>?_,λl l' b base tot base' tot' e1 e2 e3 e4=>h.oA.inj l l' b base tot base' tot' (live l e1) (live l' e2) e3 e4,h.oA.imm,h.oA.ef,h.oA.gd⟩,h.fresh.β,λl hl'=>h.fresh.m l (live l hl')⟩
 .obtain⟨q1,q2⟩:=l2 n;rw[q1]at ho;exact(h.env n t hn ho).wk q2
 .obtain⟨b0,q1,q2⟩:=hsub m' hm l blk e1;obtain⟨o1,o2⟩:=h.oA.own l b0 b base tot q1 e2;exact⟨o1,o2.wk q2⟩
theorem T6 (l k:Nat)(es:List D)(d:D):(iX l k es d).cells.length=d.cells.length/\∀j,(iX l k es d).cells.getD j .any=iX l k es (d.cells.getD j .any):=by
 cases d
 case agg cs=>exact⟨by simp[iX,D.cells,tv],λj=>by simp only[iX,D.cells];exact mh l k es cs j⟩
 case own l' k' i n=>
  grind [iX,D.cells]
 case ptr l' k' i o=>
  grind [iX,D.cells]
 all_goals exact⟨by simp[iX,D.cells],λj=>by cases j<;>simp[iX,D.cells]⟩
def RX (l k:Nat)(es:List D):∀e:List aY,(yz l k es e).length=e.length
 |[]=>rfl
 |⟨ok,d⟩::r=>by simp[yz,RX l k es r]
def LY (l k:Nat)(es:List D):∀(e:List aY) (i:Nat),(yz l k es e).getD i .un=⟨(e.getD i .un).ok,iX l k es (e.getD i .un).d⟩
 |[],i=>by simp[yz,iX,aY.un]
 |⟨ok,d⟩::r,0=>by simp[yz]
 |⟨ok,d⟩::r,i+1=>by simpa[yz]using LY l k es r i
def Mr (l k:Nat)(es:List D)(l':Nat):∀m:List (Nat×bm),look (Bg l k es m) l'=(look m l').map (Ff l k es)
 |[]=>rfl
 |(a,b)::r=>by
  simp only[Bg,look];split
  .rfl
  .exact Mr l k es l' r
def Inv.VM {a:Act}{x:X}{env:List aY}{nx:Nat}{m:List (Nat×bm)}(h:Inv C a x env ⟨nx,m⟩)(l:Nat):∃x':X,x'.w=x.w/\Step x x'/\Inv C a x' (Abs.VM l (env,m)).1 ⟨nx,(Abs.VM l (env,m)).2⟩:=by
 have hsame:∃x':X,x'.w=x.w/\Step x x'/\Inv C a x' env ⟨nx,m⟩:=⟨x,rfl,.refl x,h⟩
 simp only[Abs.VM];split
 .rename_i k es hlk;cases hn:aP es with
  |false=>exact hsame
  |true=>
   simp only[cond_true]
   let x':X:=⟨x.w,λb=>x.I b\/∃p,x.β l=some p/\p.1=b,x.β⟩
   have hle:Le x x':=⟨λ_ h=>.inl h,λ_ _=>rfl,λ_ _ h=>h⟩;have ho:∀b base tot,x.β l=some (b,base,tot)->x'.I b/\(∀i,i<es.length->(es.getD i .any).cells.length=k)/\∃c:Nat->Nat->Value,∀i j,i<es.length->j<k->
     x'.w.cell? ⟨b,base+i*k+j,none⟩=some (c i j)/\(c i j).oneCell'=true/\RD C.ν x' (c i j) ((es.getD i .any).cells.getD j .any):=by
    intro b base tot hβ;obtain⟨o1,o2,o3,c,T,fr,o4,o5,o6,o7⟩:=h.oA.own l _ b base tot hlk hβ;refine⟨.inr ⟨_,hβ,rfl⟩,λi hi=>(o7 i hi).1,λi j=>c.getD (base+i*k+j) undef,λi j hi hj=>⟨?_,((o7 i hi).2 j hj).1,((o7 i hi).2 j hj).2.mono hle⟩⟩;exact cell_of_heap o4 KY
   have hrd:∀{v:Value} {d:D},RD C.ν x v d->RD C.ν x' v (iX l k es d):=λhv=>hv.fz hle hn ho
   refine⟨x',rfl,⟨rfl,rfl,rfl,aT _,λ_ h=>.inl h,λ_ _=>rfl,λ_ _ h=>h,λ_ _ _=>rfl,λb hb=>?_,λ_ _ h=>.inl h⟩, ?_⟩
   .rcases hb with hb|⟨p,h1,h2⟩
    .exact .inl hb
    .exact .inr (.inr ⟨l,p,h1,h2⟩)
   .have hlook:∀l',look (Bg l k es (dd m l)) l'=if l'=l then none else(look m l').map (Ff l k es):=λl'=>by
     rw[Mr,fm];split<;>rfl
    refine⟨by rw[RX];exact h.len,λn t hn' hok=>?_,h.size,h.defers,⟨λl' blk b base tot e1 e2=>?_,λl1 l2 b base tot base' tot' e1 e2 e3 e4=>?_,λb hb=>?_,h.oA.ef,rH hle h.oA.gd⟩,⟨h.fresh.β,λl' hl'=>?_⟩⟩
    .rw[LY]at hok⊢;exact hrd (h.env n t hn' hok)
    .simp only[hlook]at e1;split at e1
     .cases e1
     .rename_i hne;rw[c7]at e1;obtain⟨blk0,e3,rfl⟩:=e1;obtain⟨o1,o2⟩:=h.oA.own l' blk0 b base tot e3 e2;refine⟨?_, ?_⟩
      .rintro(hb|⟨⟨b',base',tot'⟩,h1,h2⟩)
       .exact o1 hb
       .simp only at h2;subst h2;exact hne (h.oA.inj l' l b' base tot base' tot' (by simp only;rw[e3];simp) (by simp only;rw[hlk];simp) e2 h1)
      .cases blk0 with
       |iter s pos=>exact o2
       |row s=>exact o2
       |bld o n u=>exact o2
       |mpb kvs=>
        obtain⟨p1,es2,cl,p2,p3,p4,p5⟩:=o2;exact⟨p1,es2,cl,p2,p3,p4,λi hi=>(p5 i hi).mono hle⟩
       |buf k' es'=>
        obtain⟨p1,p2,c,T,fr,p3,p4,p5,p6⟩:=o2;refine⟨p1,by rw[tv];exact p2,c,T,fr,p3,p4,p5,λi hi=>?_⟩;rw[tv]at hi;obtain⟨q1,q2⟩:=T6 l k es (es'.getD i .any);rw[mh,q1];refine⟨(p6 i hi).1,λj hj=>⟨((p6 i hi).2 j hj).1, ?_⟩⟩;rw[q2];exact hrd ((p6 i hi).2 j hj).2
    .simp only[hlook]at e1 e2;refine h.oA.inj l1 l2 b base tot base' tot' ?_ ?_ e3 e4
     .intro e;simp[e]at e1
     .intro e;simp[e]at e2
    .rcases hb with hb|⟨⟨b',base',tot'⟩,h1,h2⟩
     .exact h.oA.imm b hb
     .simp only at h2;subst h2;exact h.oA.ef l _ _ _ h1
    .simp only[hlook]at hl';refine h.fresh.m l' ?_;intro e;simp only at e;simp[e]at hl'
 .exact hsame
theorem jQ {lo:Nat}{σ:List (Nat×Nat)}:∀{ds ds':List D},rY lo σ ds=some ds'->ds'.length=ds.length/\∀i,i<ds.length->vZ lo σ (ds.getD i .any)=some (ds'.getD i .any)
 |[],ds',h=>by simp[rY]at h;subst h;exact⟨rfl,λi hi=>by simp at hi⟩
 |d::r,ds',h=>by
  simp only[rY]at h;split at h
  .rename_i d' r' h1 h2;simp only[aC]at h;subst h;obtain⟨a1,a2⟩:=jQ h2
   grind
  .cases h
theorem my {l:Nat}{f:Nat->D}(h:VQ lo σ l f=some d):∃l',nb lo σ l=some l'/\d=f l':=by
 grind [VQ]
theorem yg {lo c:Nat}:∀{σ:List (Nat×Nat)}{l l':Nat},ig lo c σ=true->nb lo σ l=some l'->l'<c/\(l<lo/\l'=l\/lo<=l'/\(l,l')∈σ)
 |[],l,l',h0,h=>by
  unfold nb at h;simp only[ig,Nat.ble_eq]at h0;cases hb:Nat.blt l lo<;>simp only[hb,cond_true,cond_false,reduceCtorEq,aC]at h;have:l<lo:=by simp[Nat.blt]at hb;omega
  subst h;exact⟨ae,.inl ⟨this,rfl⟩⟩
 |(a,b)::r,l,l',h0,h=>by
  unfold nb at h;simp only[ig,aK,Nat.ble_eq]at h0;obtain⟨p2,p3,p4,p5⟩:=h0;have p3:b<c:=by simp[Nat.blt]at p3;omega
  cases hq:Nat.beq a l<;>simp only[hq,cond_true,cond_false,aC]at h
  .obtain⟨q1,q2⟩:=yg p5 h
   grind
  .have:=Nat.eq_of_beq_eq_true hq;subst this;subst h;exact⟨p3,.inr ⟨p2,.head _⟩⟩
def tl {lo c:Nat}:∀{σ:List (Nat×Nat)}{a b:Nat},ig lo c σ=true->(a,b)∈σ->b<c
 |[],a,b,_,h=>by cases h
 |p::r,a,b,h0,h=>by
  simp only[ig,aK,Nat.blt,Nat.ble_eq]at h0;rcases bU.1 h with rfl|h
  .have:=h0.2.1;simp only at this;omega
  .exact tl h0.2.2.2 h
theorem Lp {lo c:Nat}:∀{σ:List (Nat×Nat)}{a a' b b':Nat},ig lo c σ=true->(a,b)∈σ->(a',b')∈σ->(b=b'->a=a')
 |[],a,a',b,b',_,h,_=>by cases h
 |(a0,b0)::r,a,a',b,b',h0,h1,h2=>by
  simp only[ig,aK,List.all_eq_true,cg]at h0;obtain⟨_,_,p4,p5⟩:=h0;intro e;rcases bU.1 h1 with h1|h1<;>rcases bU.1 h2 with h2|h2
  .simp only[dw]at h1 h2;omega
  .have:=(p4 _ h2).2;simp only[dw]at h1;obtain⟨rfl,rfl⟩:=h1;subst e;simp at this
  .have:=(p4 _ h1).2;simp only[dw]at h2;obtain⟨rfl,rfl⟩:=h2;subst e;simp at this
  .exact Lp p5 h1 h2 e
def oC:List (Nat×Nat)->Nat->Option Nat
 |[],_=>none
 |(a,b)::r,l=>if b=l then some a else oC r l
theorem mi:∀{σ:List (Nat×Nat)}{l a:Nat},oC σ l=some a->(a,l)∈σ
 |[],l,a,h=>by cases h
 |(a0,b0)::r,l,a,h=>by
  simp only[oC]at h;split at h
  .grind
  .exact .tail _ (mi h)
theorem BN {lo c:Nat}:∀{σ:List (Nat×Nat)}{l a:Nat},ig lo c σ=true->(a,l)∈σ->oC σ l=some a
 |[],l,a,_,h=>by cases h
 |(a0,b0)::r,l,a,h0,h=>by
  simp only[oC];split
  .grind [Lp]
  .rename_i e;rcases bU.1 h with h|h
   .grind
   .simp only[ig,aK]at h0;exact BN h0.2.2.2 h
theorem Gy (h:vZ lo σ d=some d'):d'.cells.length=d.cells.length/\∀j,j<d.cells.length->vZ lo σ (d.cells.getD j .any)=some (d'.cells.getD j .any):=by
 cases d
 case agg cs=>
  simp only[vZ]at h;split at h
  .rename_i cs' h1;obtain rfl:=bc h;exact jQ h1
  .cases h
 case tup cs=>
  simp only[vZ]at h;split at h
  .obtain rfl:=bc h;exact⟨rfl,λj hj=>by simp[D.cells]at hj⟩
  .cases h
 case fn f cs=>
  grind [vZ,D.cells]
 case own l k i n=>
  grind [vZ,my,D.cells]
 case ptr l k i n=>
  grind [vZ,my,D.cells]
 case it l=>
  grind [vZ,my,D.cells]
 all_goals
  have h0:=h;simp only[vZ,aC]at h;subst h;exact⟨rfl,λj hj=>by simp[D.cells]at hj<;>(subst hj;simpa[D.cells]using h0)⟩
theorem RD.rn {x':X}(hw:x'.w=x.w)(hI:x'.I=x.I)(hβ:∀l l',nb lo σ l=some l'->x'.β l'=x.β l){v:Value}(h:RD ν x v d):∀d',vZ lo σ d=some d'->RD ν x' v d':=by
 have hk:∀b,x.I b->x'.w.heap[b]? =x.w.heap[b]? :=λ_ _=>by rw[hw]
 have hI':∀b,x.I b->x'.I b:=λb h=>by rw[hI];exact h
 induction h with
 |any v=>intro d' h;obtain rfl:=bc h;exact .any v
 |bool b=>intro d' h;obtain rfl:=bc h;exact .bool b
 |int k n=>intro d' h;obtain rfl:=bc h;exact .int k n
 |str s h0=>intro d' h;obtain rfl:=bc h;exact .str s h0
 |aR=>intro d' h;obtain rfl:=bc h;exact .aR
 |nilp=>intro d' h;obtain rfl:=bc h;exact .nilp
 |nilf=>intro d' h;obtain rfl:=bc h;exact .nilf
 |sl a b off len cap k' es' c hlen ha hcap hm hk' hn' hc h1 h _=>
  intro d' h2;obtain rfl:=bc h2;exact(RD.sl a b off len cap k' es' c hlen ha hcap hm hk' hn' hc h1 h).aU rfl hI' hk
 |ref b off k' i o at_ es' c hI0 hat hk' hn' hc h1 h _=>
  intro d' h2;obtain rfl:=bc h2;exact(RD.ref b off k' i o at_ es' c hI0 hat hk' hn' hc h1 h).aU rfl hI' hk
 |agg cs ds hl' h1 _ ih=>
  intro d' h;simp only[vZ]at h;split at h
  .rename_i cs' h2;obtain rfl:=bc h;obtain⟨a1,a2⟩:=jQ h2;exact .agg cs cs' ae (λi hi=>h1 i ae) λi hi=>ih i ae _ (a2 i ae)
  .cases h
 |tup cs ds hl' _ ih=>
  intro d' h;simp only[vZ]at h;split at h
  .rename_i cs' h2;obtain rfl:=bc h;obtain⟨a1,a2⟩:=jQ h2;exact .tup cs cs' ae λi hi=>ih i ae _ (a2 i ae)
  .cases h
 |fn fid n cs ds hν hl' _ ih=>
  intro d' h;simp only[vZ]at h;split at h
  .rename_i cs' h2;obtain rfl:=bc h;obtain⟨a1,a2⟩:=jQ h2;exact .fn fid n cs cs' hν ae λi hi=>ih i ae _ (a2 i ae)
  .cases h
 |ef fid n cs ds hν hl' _ ih=>
  grind [vZ,jQ,ef]
 |bx b at_ ds v hI0 hc h1 hl' _ ih=>
  intro d' h;simp only[vZ]at h;split at h
  .rename_i cs' h2;obtain rfl:=bc h;obtain⟨a1,a2⟩:=jQ h2;exact .bx b at_ cs' v (hI' _ hI0) (iI (hk _ hI0) hc) h1 ae λi hi=>ih i ae _ (a2 i ae)
  .cases h
 |mpn=>intro d' h;simp only[vZ,rY,aC]at h;subst h;exact .mpn
 |ptr l k i o b base tot at_ hb hat=>
  intro d' h;obtain⟨l',h1,rfl⟩:=my h;exact .ptr l' k i o b base tot at_ ((hβ _ _ h1).trans hb) hat
 |own l k i n b base tot cap a hb ha hcap hm ht=>
  intro d' h;obtain⟨l',h1,rfl⟩:=my h;exact .own l' k i n b base tot cap a ((hβ _ _ h1).trans hb) ha hcap hm ht
 |own0 l k i a=>
  intro d' h;obtain⟨l',h1,rfl⟩:=my h;exact .own0 l' k i a
 |im l b base tot hb=>
  intro d' h;simp only[vZ]at h;split at h
  .rename_i cs' h2;obtain rfl:=bc h;obtain⟨a1,a2⟩:=jQ h2;have a3:=a2 0 aF;obtain⟨l',h1,h3⟩:=my (show vZ lo σ (.it l)=some (cs'.getD 0 .any)from a3)
   match cs',a1,h3 with
   |[c],_,h3=>
    obtain rfl:c=.it l':=h3;exact .im l' b base tot ((hβ _ _ h1).trans hb)
  .cases h
 |it l b base tot hb=>
  intro d' h;obtain⟨l',h1,rfl⟩:=my h;exact .it l' b base tot ((hβ _ _ h1).trans hb)
theorem r9:∀{ds ds':List D},OD ds ds'->ds'.length=ds.length/\∀i,i<ds.length->wx (ds.getD i .any) (ds'.getD i .any)
 |[],ds',h=>by simp only[OD]at h;subst h;exact⟨rfl,λi hi=>by simp at hi⟩
 |d::r,ds',h=>by
  simp only[OD]at h;obtain⟨d',r',rfl,h1,h2⟩:=h;obtain⟨a1,a2⟩:=r9 h2
  grind
theorem FG (h:wx d d'):d'.cells.length=d.cells.length/\∀j,j<d.cells.length->wx (d.cells.getD j .any) (d'.cells.getD j .any):=by
 cases d
 case agg a=>
  simp only[wx]at h;obtain⟨b,rfl,h⟩:=h;exact r9 h
 case aR=>
  grind [wx,D.cells]
 all_goals
  have h0:=h;simp only[wx]at h;obtain⟨rfl,hn⟩:=h;refine⟨rfl,λj hj=>?_⟩;simp[D.cells]at hj;try(subst hj;simpa[D.cells]using h0)
theorem RD.nl {x':X}(hw:x'.w=x.w)(hI:x'.I=x.I){v:Value}(h:RD ν x v d):∀d',wx d d'->RD ν x' v d':=by
 have hk:∀b,x.I b->x'.w.heap[b]? =x.w.heap[b]? :=λ_ _=>by rw[hw]
 have hI':∀b,x.I b->x'.I b:=λb h=>by rw[hI];exact h
 induction h with
 |aR=>
  intro d' h2;simp only[wx]at h2;rcases h2 with rfl|⟨l,k,i,rfl⟩
  .exact .aR
  .exact .own0 l k i _
 |agg cs ds hl' h1 _ ih=>
  intro d' h;simp only[wx]at h;obtain⟨b,rfl,h⟩:=h;obtain⟨a1,a2⟩:=r9 h;exact .agg cs b ae (λi hi=>h1 i ae) λi hi=>ih i ae _ (a2 i ae)
 |any v=>intro d' h;simp only[wx]at h;rw[h.1];exact .any v
 |bool b=>intro d' h;simp only[wx]at h;rw[h.1];exact .bool b
 |int k n=>intro d' h;simp only[wx]at h;rw[h.1];exact .int k n
 |str s h0=>intro d' h;simp only[wx]at h;rw[h.1];exact .str s h0
 |tup cs ds hl' h0 _=>intro d' h;simp only[wx]at h;rw[h.1];exact(RD.tup cs ds hl' h0).aU h.2 hI' hk
 |sl a b off len cap k' es' c hlen ha hcap hm hk' hn' hc h1 h0 _=>
  intro d' h2;simp only[wx]at h2;rw[h2.1];exact(RD.sl a b off len cap k' es' c hlen ha hcap hm hk' hn' hc h1 h0).aU h2.2 hI' hk
 |ref b off k' i o at_ es' c hI0 hat hk' hn' hc h1 h0 _=>
  intro d' h2;simp only[wx]at h2;rw[h2.1];exact(RD.ref b off k' i o at_ es' c hI0 hat hk' hn' hc h1 h0).aU h2.2 hI' hk
 |nilp=>intro d' h;simp only[wx]at h;rw[h.1];exact .nilp
 |nilf=>intro d' h;simp only[wx]at h;rw[h.1];exact .nilf
 |fn fid n cs ds hν hl' h0 _=>intro d' h;simp only[wx]at h;rw[h.1];exact(RD.fn fid n cs ds hν hl' h0).aU h.2 hI' hk
 |ef fid n cs ds hν hl' h0 _=>intro d' h;simp only[wx]at h;rw[h.1];exact(RD.ef fid n cs ds hν hl' h0).aU h.2 hI' hk
 |bx b at_ ds v hI hc h1 hl' h0 _=>intro d' h;simp only[wx]at h;rw[h.1];exact(RD.bx b at_ ds v hI hc h1 hl' h0).aU h.2 hI' hk
 |mpn=>intro d' h;simp only[wx]at h;rw[h.1];exact .mpn
 |ptr=>intro d' h;simp only[wx]at h;simp[D.aU]at h
 |own=>intro d' h;simp only[wx]at h;simp[D.aU]at h
 |own0=>intro d' h;simp only[wx]at h;simp[D.aU]at h
 |im=>intro d' h;simp only[wx]at h;simp[D.aU,aP]at h
 |it=>intro d' h;simp only[wx]at h;simp[D.aU]at h
def Ln {lo:Nat}{σ:List (Nat×Nat)}:∀{e e':List aY},eX lo σ e e'->e'.length=e.length/\∀n,(e'.getD n .un).ok=(e.getD n .un).ok/\RnD lo σ (e.getD n .un).d (e'.getD n .un).d\/e'.getD n .un=.un
 |[],[],_=>⟨rfl,λn=>.inr aF⟩
 |[],_::_,h=>h.elim
 |_::_,[],h=>h.elim
 |a::r,b::s,h=>by
  simp only[eX]at h;obtain⟨i1,i2⟩:=Ln h.2;refine⟨by simp[i1],λn=>?_⟩;cases n with
  |zero=>simpa using h.1
  |succ n=>simpa using i2 n
theorem Lo {lo c:Nat}{σ:List (Nat×Nat)}{m:List (Nat×bm)}:∀{m':List (Nat×bm)},bn lo c σ m m'->∀l' b',look m' l'=some b'->(∃l b,nb lo σ l=some l'/\look m l=some b/\qx lo σ b b')\/(Nat.ble lo l'=true/\Nat.blt l' c=true/\σ.all (λp=>!Nat.beq p.2 l')=true/\∃k,b'=.buf k [])
 |[],_,l',b',h=>by simp[look]at h
 |(l0,b0)::r,hh,l',b',h=>by
  simp only[bn]at hh;simp only[look]at h;split at h
  .grind
  .exact Lo hh.2 l' b' h
def F1:∀{σ:List (Nat×Nat)}{l:Nat},σ.all (λp=>!Nat.beq p.2 l)=true->oC σ l=none
 |[],l,_=>rfl
 |(a,b)::r,l,h=>by
  simp only[List.all_cons,aK,cg]at h;simp only[oC];rw[ai (λe=>by subst e;simp at h),F1 h.2]
def Inv.ren {x0:X}{m:List (Nat×bm)}{c:Nat}(h:Inv C a x env ⟨nx,m⟩)(hs:Step x0 x)(hlo:∀l,lo<=l->x0.β l=none)(hok:ig lo c σ=true)(he:eX lo σ env env')(hm:bn lo c σ m m'):
  ∃x':X,x'.w=x.w/\Step x0 x'/\Inv C a x' env' ⟨c,m'⟩:=by
 let x':X:=⟨x.w,x.I,λl'=>if l'<lo then x.β l' else(oC σ l').bind x.β⟩
 have hβ:∀l l',nb lo σ l=some l'->x'.β l'=x.β l:=by
  intro l l' e;obtain⟨p1,p2⟩:=yg hok e;rcases p2 with⟨p2,rfl⟩|⟨p3,p4⟩
  .simp only[x',ak p2]
  .simp only[x',ai (Nat.not_lt.2 p3),BN hok p4,Option.bind_some]
 have hβi:∀l' p,x'.β l'=some p->∃l,x.β l=some p:=by
  intro l' p e;simp only[x']at e;split at e
  .exact⟨l',e⟩
  .obtain⟨l,_,h2⟩:=Option.bind_eq_some_iff.1 e;exact⟨l,h2⟩
 have hrd:∀{v:Value} {d d':D},RD C.ν x v d->RnD lo σ d d'->RD C.ν x' v d':=by
  intro v d d' hv hd;rcases hd with⟨rfl,hn⟩|hd|hd
  .exact hv.aU hn (λ_ h=>h) (λ_ _=>rfl)
  rotate_left
  .exact RD.nl (x:=x) (x':=x') rfl rfl hv _ hd
  .exact RD.rn (x:=x) (x':=x') rfl rfl hβ hv _ hd
 obtain⟨e1,e2⟩:=Ln he;have hm1:=Lo hm;have hm2:∀l' b' p,look m' l'=some b'->x'.β l'=some p->∃l b,nb lo σ l=some l'/\look m l=some b/\qx lo σ b b':=by
  intro l' b' p h1 h2;rcases hm1 l' b' h1 with h3|⟨q1,q2,q3,q4⟩
  .exact h3
  .have q1:lo<=l':=by simpa using q1
   simp only[x',ai (show ¬l'<lo by omega),F1 q3,Option.bind_none]at h2;cases h2
 refine⟨x',rfl,⟨hs.os,hs.tape,hs.output,hs.size,hs.I,hs.pg,λl p hp=>?_,hs.old,hs.newI,λl' p hp=>?_⟩,⟨e1.trans h.len,λn t hn ho=>?_,h.size,h.defers,⟨λl' blk b base tot e3 e4=>?_,λl1 l2 b base tot base' tot' e3 e4 e5 e6=>?_,h.oA.imm,λl' b base tot e=>?_,cI.le x _ (λ_ h=>h) (λ_ _=>rfl) h.oA.gd⟩,⟨λl' hl'=>?_,λl' hl'=>?_⟩⟩⟩
 .have hl:l<lo:=by
   rcases dZ l lo with h1|h1
   .exact h1
   .rw[hlo l h1]at hp;cases hp
  simp only[x',ak hl];exact hs.β l p hp
 .obtain⟨l,hl⟩:=hβi l' p hp;rcases hs.newβ l p hl with h1|h1|h1
  .exact .inr (.inr ⟨l,p,h1,rfl⟩)
  .exact .inr (.inl h1)
  .exact .inr (.inr h1)
 .rcases e2 n with⟨q1,q2⟩|q
  .rw[q1]at ho;exact hrd (h.env n t hn ho) q2
  .rw[q];exact .any _
 .obtain⟨l,b0,q1,q2,q3⟩:=hm2 l' blk _ e3 e4;rw[hβ l l' q1]at e4;obtain⟨o1,o2⟩:=h.oA.own l b0 b base tot q2 e4;refine⟨o1, ?_⟩;cases b0 with
  |iter s p=>
   cases blk with
   |iter s' p'=>simp only[qx]at q3;obtain⟨rfl,rfl⟩:=q3;exact o2
   |_=>simp[qx]at q3
  |row s=>
   cases blk with
   |row s'=>simp only[qx]at q3;subst q3;exact o2
   |_=>simp[qx]at q3
  |mpb s=>
   cases blk with
   |mpb s'=>
    simp only[qx]at q3;subst q3;obtain⟨p1,es2,cl,p2,p3,p4,p5⟩:=o2;exact⟨p1,es2,cl,p2,p3,p4,λi hi=>(p5 i hi).aU (cT p1 i) (λ_ h=>h) (λ_ _=>rfl)⟩
   |_=>simp[qx]at q3
  |bld o n u=>
   cases blk with
   |bld o' n' u'=>
    simp only[qx]at q3;obtain⟨q3,rfl,rfl⟩:=q3;obtain⟨p1,v,p2,p3⟩:=o2;refine⟨p1,v,p2, ?_⟩;cases o with
    |none=>simp only at q3;subst q3;exact p3
    |some l0=>
     obtain⟨l1,q4,rfl⟩:=q3;obtain⟨g,t,p4,p5,p6⟩:=p3;exact⟨g,t,p4,p5,by rw[hβ l0 l1 q4];exact p6⟩
   |_=>simp[qx]at q3
  |buf k es=>
   cases blk with
   |iter s' p'=>simp[qx]at q3
   |row s'=>simp[qx]at q3
   |bld o' n' u'=>simp[qx]at q3
   |mpb s'=>simp[qx]at q3
   |buf k' es'=>
    simp only[qx]at q3;obtain⟨rfl,q3⟩:=q3;obtain⟨p1,p2,cc,T,fr,p3,p4,p5,p6⟩:=o2;rcases q3 with⟨rfl,hn⟩|q3|q3
    .exact⟨p1,p2,cc,T,fr,p3,p4,p5,λi hi=>⟨(p6 i hi).1,λj hj=>⟨((p6 i hi).2 j hj).1,((p6 i hi).2 j hj).2.aU (lJ (cT hn i) j) (λ_ h=>h) (λ_ _=>rfl)⟩⟩⟩
    rotate_left
    .obtain⟨r1,r2⟩:=r9 q3;refine⟨p1,ae,cc,T,fr,p3,p4,p5,λi hi=>?_⟩;have hi':i<es.length:=ae;obtain⟨s1,s2⟩:=FG (r2 i hi');refine⟨s1.trans (p6 i hi').1,λj hj=>⟨((p6 i hi').2 j hj).1,hrd ((p6 i hi').2 j hj).2 (.inr (.inr (s2 j (by rw[(p6 i hi').1];exact hj))))⟩⟩
    .obtain⟨r1,r2⟩:=jQ q3;refine⟨p1,ae,cc,T,fr,p3,p4,p5,λi hi=>?_⟩;have hi':i<es.length:=ae;obtain⟨s1,s2⟩:=Gy (r2 i hi');refine⟨s1.trans (p6 i hi').1,λj hj=>⟨((p6 i hi').2 j hj).1,hrd ((p6 i hi').2 j hj).2 (.inr (.inl (s2 j (by rw[(p6 i hi').1];exact hj))))⟩⟩
 .cases f1:look m' l1 with
  |none=>simp only at e3;exact absurd f1 e3
  |some b1=>
   cases f2:look m' l2 with
   |none=>simp only at e4;exact absurd f2 e4
   |some b2=>
    obtain⟨l1',b1',q1,q2,_⟩:=hm2 l1 b1 _ f1 e5;obtain⟨l2',b2',r1,r2,_⟩:=hm2 l2 b2 _ f2 e6;rw[hβ _ _ q1]at e5;rw[hβ _ _ r1]at e6;have:=h.oA.inj l1' l2' b base tot base' tot' (by simp only;rw[q2];simp) (by simp only;rw[r2];simp) e5 e6;subst this;rw[q1]at r1;exact bc r1
 .obtain⟨l,hl⟩:=hβi l' _ e;exact h.oA.ef l b base tot hl
 .have hc:lo<=c:=by
   clear hβ hrd e2 hm2 he hm;induction σ with
   |nil=>simpa[ig]using hok
   |cons p r ih=>simp only[ig,aK,Nat.ble_eq,Nat.blt]at hok;omega
  have hl'':c<=l':=hl';simp only[x',ai (show ¬l'<lo by omega)];cases hi:oC σ l' with
  |none=>rfl
  |some l=>
   have hmem:=mi hi;have:=tl hok hmem;omega
 .cases f1:look m' l' with
  |none=>simp only at hl';exact absurd f1 hl'
  |some b1=>
   rcases hm1 l' b1 f1 with⟨l,b,q1,_⟩|⟨_,q2,_⟩
   .exact(yg hok q1).1
   .simp only;simp[Nat.blt]at q2;omega
theorem Inv.ghost {x0:X}{st':St}(hlo:∀l,lo<=l->x0.β l=none)(g:aZ lo env st env' st'):∀{x:X},Inv C a x env st->Step x0 x->∃x':X,x'.w=x.w/\Step x0 x'/\Inv C a x' env' st':=by
 induction g with
 |refl env st=>intro x h hs;exact⟨x,rfl,hs,h⟩
 |VM l env st=>
  intro x h hs;obtain⟨x',a1,a2,a3⟩:=Inv.VM (nx:=st.nx) (m:=st.m) h l;exact⟨x',a1,hs.trans a2,a3⟩
 |ren σ c env env' nx m m' h0 he hm=>intro x h hs;exact h.ren hs hlo h0 he hm
 |wk env env' nx m m' he hm=>intro x h hs;exact⟨x,rfl,hs,h.weak he hm⟩
 |nz env env' nx m m' he hm=>intro x h hs;exact⟨x,rfl,hs,h.nz he hm⟩
 |trans env1 env2 env3 st1 st2 st3 g1 g2 ih1 ih2=>
  grind
theorem least {p:Nat->Prop}(h:∃n,p n):∃n,p n/\∀m,p m->n<=m:=by
 obtain⟨n,hn⟩:=h;induction n using Nat.strongRecOn with
 |_ n ih=>
  grind
def qD (hΓ:Ok C.P C.ν C.bR Y)(hnd:C.slots.Nodup)(hmix:C.P.follows .mixedOrders=true)(x0:X)(hlo:∀l,Y.lo<=l->x0.β l=none):∀(c:Code) (ac:AC),C.code c=some ac->∀(Q:Ex->List aY->St->Prop) (env:List aY) (st:St) (a:Act) (x:X),
  dk Y ac Q env st->Inv C a x env st->Step x0 x->c.wp C.P (Post C Q x0) a x.w:=by
 intro c;induction c with
 |skip=>
  intro ac hc Q env st a x hw hi hs;simp only[CC.code,aC]at hc;subst hc;obtain⟨env,st,hgh,hw⟩:=hw;obtain⟨x,hxf,hs,hi⟩:=Inv.ghost hlo hgh hi hs;rw[<-hxf];exact wp_skip ⟨.normal,x,env,st,rfl,rfl,hs,hi,hw⟩
 |region id ops draw=>
  intro ac hc Q env st a x hw hi hs;simp only[CC.code]at hc;split at hc
  .rename_i l0 hl;cases draw with
   |false=>
    .simp only[ib,a8,aC]at hc;subst hc;have hsp:=(Spec.start hl).ice C.bR;simp only[dk]at hw;obtain⟨env,st,hgh,hw⟩:=hw;obtain⟨x,hxf,hs,hi⟩:=Inv.ghost hlo hgh hi hs;rw[<-hxf];refine wp_region ?_;rw[List.range_eq_range'];refine SR hsp hΓ (x0:=x0) (K:=λvs st'=>Q .normal (iv env vs (C.iw 0 ops.toList)) st') (λvs' st' a' x' hk _ hm hst hsm hfr=>?_) ops.size 0 [] st x a ae rfl (hi.mid _ _ (λp h=>ae)) hs hi.oA hi.fresh hw;exact⟨.normal,x',_,st',rfl,rfl,hst,yX hnd hsp hi.len hm hsm hfr,hk⟩
   |true=>
    simp only[bo]at hc;split at hc
    .rename_i hdo;simp only[aC]at hc;subst hc;have hsp:=(Spec.start hl).mK (pK [] ops.toList);generalize mK (pK [] ops.toList) l0 0 l0=l at hsp hdo hw;simp only[dk]at hw;obtain⟨env,st,hgh,hw⟩:=hw;obtain⟨x,hxf,hs,hi⟩:=Inv.ghost hlo hgh hi hs;rw[<-hxf];have ho:=Zd hdo;have hasm:∀g∈l,∀vs',g.i.K4 true (Src.ev env vs'):=by
      intro g hg vs';refine WA λs _ hS hok=>?_
      have:=hS rfl;obtain⟨n,rfl⟩:∃n,s=.s n:=by
       cases s<;>simp only[Src.F3]at this<;>first
        |exact⟨_,rfl⟩
        |cases this
      simp only[Src.ev]at hok⊢;by_cases hn:n<C.slots.length
      .exact⟨_,_,_,hi.env n C.slots[n] (by simp[hn]) hok⟩
      .refine⟨C.ν,x,undef, ?_⟩;have:env.getD n .un=.un:=by simp[List.getD,List.getElem?_eq_none (show env.length<=n by rw[hi.len];omega)]
       rw[this];exact .any _
     rcases aki hdo with hnM|hlm
     .obtain⟨VS,M,tr,hM0,hk⟩:=A1 hnM hasm hi.fresh.m hw;have hg:ie x.w {x.w with drawn:=x.w.drawn+1}:=⟨rfl,rfl,rfl,aT _,λ_ _=>rfl⟩
      let x1:X:=⟨{x.w with drawn:=x.w.drawn+1},x.I,x.β⟩
      have hst1:Step x x1:=Step.grow hg hi.oA.imm;have hs1:fG C.ν x1 (look st.m):=hi.oA.grow hg;refine wp_region_any hmix ?_;refine LJ hsp ho hnM hΓ tr (x0:=x0) (λa' x' hm hst hsm hfr=>?_) ops.size _ a x1 (look st.m) 0 ?_ ?_
      .exact⟨.normal,x',_,_,rfl,rfl,hst,yX hnd hsp hi.len hm hsm hfr,hk⟩
      .have hno:∀p,¬(Array.replicate ops.size false).getD p false=true:=λp=>by
        simp[Array.getElem?_replicate];split<;>simp
       refine⟨?_,hs.trans hst1,hs1,aF,λj hj=>absurd hj (hno j),λl' hl' _=>hi.fresh.β l' hl',λp g _ _=>⟨λh=>absurd h (hno p),λh=>ae⟩,λl' hl'=>?_,λq g _ _ _ h=>absurd h (hno q)⟩
       .have:=hi.mid (ops.toList.map (·.dst)) VS (D:=λp=>(Array.replicate ops.size false).getD p false=true) hno;exact⟨λp t hp=>absurd hp (hno p),λp t hp=>absurd hp (hno p),λn t hn h1 h2=>(this.old n t hn h1 h2).mono hst1.le,this.size,this.defers⟩
       .have hlt:l'<st.nx:=by
         rcases dZ l' st.nx with h1|h1
         .exact h1
         .exact absurd (hi.fresh.β l' h1) hl'
        rw[show max 0 (l'+1-st.nx)=0 by omega,hM0]
      .unfold cnt;exact dN (List.length_filter_le _ _) aF
     .obtain⟨l',suf,rfl,hsuf,hfull,hnM⟩:=Pk hlm;have hlen:l'.length+suf.length=ops.size:=by have:=hsp.len;simpa using this
      have hsz:ops.size=l'.length+suf.length:=hlen.symm;have hpl:(ops.extract 0 l'.length).toList=ops.toList.take l'.length:=aF;have hpz:(ops.extract 0 l'.length).size=l'.length:=eJ;have hops:ops.toList=(ops.extract 0 l'.length).toList++ops.toList.drop l'.length:=by rw[hpl,List.take_append_drop]
      generalize ops.extract 0 l'.length=ps at hpl hpz hops;have hpop:∀j,j<l'.length->ps.toList[j]? =ops.toList[j]? :=λj hj=>by rw[hpl,List.getElem?_take,ak hj]
      have hdd:∀j,j<l'.length->(ps.toList.map (·.dst))[j]? =(ops.toList.map (·.dst))[j]? :=λj hj=>by
       rw[List.getElem?_map,List.getElem?_map,hpop j hj]
      have htk:∀j,j<=l'.length->(ps.toList.map (·.dst)).take j=(ops.toList.map (·.dst)).take j:=λj hj=>by
       rw[hpl,List.map_take,List.take_take,Nat.min_eq_left hj]
      have hsp':Spec C ps.toList l':=by
       refine⟨by simpa using hpz.symm,λi oi hoi=>?_,λi oi d hoi hd=>?_⟩
       .have hi':i<l'.length:=by have:=(List.getElem?_eq_some_iff.1 hoi).1;simp at this;omega
        rw[hpop i hi']at hoi;obtain⟨g,g1,g2,g3⟩:=hsp.op i oi hoi;rw[List.getElem?_append_left hi']at g1;exact⟨g,g1,by rw[htk i ae];exact g2,by rw[htk i ae];exact g3⟩
       .have hi':i<l'.length:=by have:=(List.getElem?_eq_some_iff.1 hoi).1;simp at this;omega
        rw[hpop i hi']at hoi;obtain⟨h1,h2⟩:=hsp.dst i oi d hoi hd;exact⟨h1,λp hp=>by rw[hdd p ae];exact h2 p hp⟩
      have ho':Order ps.toList l' (pK [] ops.toList):=Order.pre (os:=ops.toList.drop l'.length) (ls:=suf) (by rw[<-hops];exact ho);have hgd:∀(i:Nat) (o:Oper),ops[i]? =some o->∀j w,o.guard=some (j,w)->j<i:=by
       intro i oi hoi j w hj;obtain⟨g,_,_,g3⟩:=hsp.op i oi (by simpa using hoi);rw[hj]at g3;simp only[CC.guard]at g3;split at g3
       .rename_i t ht;have:=(List.getElem?_eq_some_iff.1 ht).1;simp only[ey]at this;omega
       .cases g3
      have hw':=NH l' [] st rfl hnM hw;obtain⟨VS,M,tr,hM0,hk⟩:=A1 hnM (λg hg=>hasm g (List.mem_append_left _ hg)) hi.fresh.m hw';have hVS:VS.length=l'.length:=tr.len;have hg:ie x.w {x.w with drawn:=x.w.drawn+1}:=⟨rfl,rfl,rfl,aT _,λ_ _=>rfl⟩
      let x1:X:=⟨{x.w with drawn:=x.w.drawn+1},x.I,x.β⟩
      have hst1:Step x x1:=Step.grow hg hi.oA.imm;have hs1:fG C.ν x1 (look st.m):=hi.oA.grow hg;refine wp_region_any hmix ?_;have hno:∀(n p:Nat),¬(Array.replicate n false).getD p false=true:=λn p=>by
       simp[Array.getElem?_replicate];split<;>simp
      rw[hsz];refine FH suf.length hsz aF ho hfull hgd a x1.w ?_;rw[show ops.extract 0 l'.length=ps by apply Array.ext';rw[hpl];simp];refine LJ hsp' ho' hnM hΓ tr (x0:=x0) (λa' x' hm hst hsm hfr=>?_) l'.length _ a x1 (look st.m) 0 ?_ ?_
      ·
       show wpOps C.P ops _ (List.range' l'.length suf.length) a' x'.w;have hk2:=aac hsuf hk;simp only at hk2;rw[show st.nx+l'.length-VS.length=st.nx by omega]at hk2;have hmid:A7 C env (ops.toList.map (·.dst)) VS (· <l'.length) a' x':=by
        refine⟨λp t hp h1 h2=>hm.val p t (by rw[hpz];exact hp) (by rw[hdd p hp];exact h1) h2,λp t hp h1 h2=>hm.und p t (by rw[hpz];exact hp) (by rw[hdd p hp];exact h1) h2,λn t hn h1 h2=>hm.old n t hn (λp hp=>?_) h2,hm.size,hm.defers⟩;have hp':p<l'.length:=by have hp:p<ps.size:=hp;omega
        rw[hdd p hp'];exact h1 p hp'
       exact SR hsp hΓ (x0:=x0) (K:=λvs st'=>Q .normal (iv env vs (C.iw 0 ops.toList)) st') (λvs' st' a' x' hk _ hm hst hsm hfr=>⟨.normal,x',_,st',rfl,rfl,hst,yX hnd hsp hi.len hm hsm hfr,hk⟩) suf.length l'.length VS ⟨st.nx,M l'.length⟩ x' a' hlen hVS hmid hst hsm hfr (by rw[List.drop_left];exact hk2)
      .refine⟨?_,hs.trans hst1,hs1,by simp[hpz],λj hj=>absurd hj (hno _ j),λl' hl' _=>hi.fresh.β l' hl',λp g _ _=>⟨λh=>absurd h (hno _ p),λh=>ae⟩,λl' hl'=>?_,λq g _ _ _ h=>absurd h (hno _ q)⟩
       .have:=hi.mid (ps.toList.map (·.dst)) VS (D:=λp=>(Array.replicate l'.length false).getD p false=true) (hno _);exact⟨λp t hp=>absurd hp (hno _ p),λp t hp=>absurd hp (hno _ p),λn t hn h1 h2=>(this.old n t hn h1 h2).mono hst1.le,this.size,this.defers⟩
       .have hlt:l'<st.nx:=by
         rcases dZ l' st.nx with h1|h1
         .exact h1
         .exact absurd (hi.fresh.β l' h1) hl'
        rw[show max 0 (l'+1-st.nx)=0 by omega,hM0]
      .unfold cnt;refine dN (List.length_filter_le _ _) (by simp[hpz])
    .cases hc
  .cases hc
 |seq c1 c2 ih1 ih2=>
  intro ac hc Q env st a x hw hi hs;simp only[CC.code]at hc;split at hc
  .rename_i a1 a2 h1 h2;simp only[aC]at hc;subst hc;simp only[dk]at hw;obtain⟨env,st,hgh,hw⟩:=hw;obtain⟨x,hxf,hs,hi⟩:=Inv.ghost hlo hgh hi hs;rw[<-hxf];refine wp_seq (wp_mono (ih1 a1 h1 _ env st a x hw hi hs) λe a' w' hp=>?_);obtain⟨e',x',env',st',he,hxw,hst,hi',hq⟩:=hp;subst hxw;cases e' with
   |normal=>subst he;exact ih2 a2 h2 Q env' st' a' x' hq hi' hst
   |exit id=>subst he;exact⟨.exit id,x',env',st',rfl,rfl,hst,hi',hq⟩
   |ret=>subst he;exact⟨.ret,x',env',st',rfl,rfl,hst,hi',hq⟩
  .cases hc
 |cond c c1 c2 ih1 ih2=>
  intro ac hc Q env st a x hw hi hs;simp only[CC.code]at hc;split at hc
  .rename_i s a1 a2 h0 h1 h2;simp only[aC]at hc;subst hc;simp only[dk]at hw;obtain⟨env,st,hgh,hw⟩:=hw;obtain⟨x,hxf,hs,hi⟩:=Inv.ghost hlo hgh hi hs;rw[<-hxf];obtain⟨hok,hw⟩:=hw;have hv:=Xr hi h0 hok;cases hd:(s.ev env []).d<;>simp only[hd]at hw;rename_i t;rw[hd]at hv;cases t with
   |true=>exact wp_cond_true hv.jK (ih1 a1 h1 Q env st a x (hw.1 rfl) hi hs)
   |false=>exact wp_cond_false hv.jK (ih2 a2 h2 Q env st a x (hw.2 rfl) hi hs)
  .cases hc
 |block id c1 ih=>
  intro ac hc Q env st a x hw hi hs;simp only[CC.code,c7]at hc;obtain⟨a1,h1,rfl⟩:=hc;simp only[dk]at hw;obtain⟨env,st,hgh,hw⟩:=hw;obtain⟨x,hxf,hs,hi⟩:=Inv.ghost hlo hgh hi hs;rw[<-hxf];refine wp_block (wp_mono (ih a1 h1 _ env st a x hw hi hs) λe a' w' hp=>?_);obtain⟨e',x',env',st',he,hxw,hst,hi',hq⟩:=hp;subst hxw;cases e' with
  |normal=>subst he;exact⟨.normal,x',env',st',rfl,rfl,hst,hi',hq⟩
  |exit j=>
   subst he;simp only[Ex.of,Exit.inBlock];by_cases hj:j=id
   .rw[ak hj];simp only[hj,bo]at hq;exact⟨.normal,x',env',st',rfl,rfl,hst,hi',hq⟩
   .rw[ai hj];simp only[hj,a8]at hq;exact⟨.exit j,x',env',st',rfl,rfl,hst,hi',hq⟩
  |ret=>subst he;exact⟨.ret,x',env',st',rfl,rfl,hst,hi',hq⟩
 |loop c1 ih=>
  intro ac hc Q env st a x hw hi hs;simp only[CC.code,c7]at hc;obtain⟨a1,h1,rfl⟩:=hc;simp only[dk]at hw;obtain⟨env,st,hgh,hw⟩:=hw;obtain⟨x,hxf,hs,hi⟩:=Inv.ghost hlo hgh hi hs;rw[<-hxf];obtain⟨I,μ,hI,hround⟩:=hw
  let W:Act->World->Nat->Prop:=λa w n=>∃env st x,x.w=w/\Step x0 x/\Inv C a x env st/\I env st/\μ env st=n
  open Classical in
  let μ':Act->World->Nat:=λa w=>if h:∃n,W a w n then Classical.choose (least h)else 0
  refine wp_loop (λa w=>∃n,W a w n) μ' ⟨_,env,st,x,rfl,hs,hi,hI,rfl⟩ λa w hIn=>?_
  have hμ:μ' a w=Classical.choose (least hIn):=dif_pos hIn;obtain⟨env2,st2,x2,hxw,hst2,hi2,hI2,hmu⟩:=(Classical.choose_spec (least hIn)).1;subst hxw;refine wp_mono (ih a1 h1 _ env2 st2 a x2 (hround env2 st2 hI2) hi2 hst2) λe a' w' hp=>?_
  obtain⟨e',x',env',st',he,hxw,hst,hi',hq⟩:=hp;subst hxw;cases e' with
  |normal=>
   subst he;obtain⟨env3,st3,hgh3,hI3,hlt⟩:=hq;obtain⟨x',hxf',hst,hi'⟩:=Inv.ghost hlo hgh3 hi' hst;rw[<-hxf'];have hW:W a' x'.w (μ env3 st3):=⟨env3,st3,x',rfl,hst,hi',hI3,rfl⟩;refine⟨⟨_,hW⟩, ?_⟩;have h2:μ' a' x'.w=Classical.choose (least (⟨_,hW⟩:∃n,W a' x'.w n)):=dif_pos ⟨_,hW⟩;rw[h2,hμ];exact Nat.lt_of_le_of_lt ((Classical.choose_spec (least (⟨_,hW⟩:∃n,W a' x'.w n))).2 _ hW) (by rw[<-hmu];exact hlt)
  |exit id=>subst he;exact⟨.exit id,x',env',st',rfl,rfl,hst,hi',hq⟩
  |ret=>subst he;exact⟨.ret,x',env',st',rfl,rfl,hst,hi',hq⟩
 |exit id=>
  intro ac hc Q env st a x hw hi hs;simp only[CC.code,aC]at hc;subst hc;obtain⟨env,st,hgh,hw⟩:=hw;obtain⟨x,hxf,hs,hi⟩:=Inv.ghost hlo hgh hi hs;rw[<-hxf];exact wp_exit ⟨.exit id,x,env,st,rfl,rfl,hs,hi,hw⟩
 |ret=>
  intro ac hc Q env st a x hw hi hs;simp only[CC.code,aC]at hc;subst hc;obtain⟨env,st,hgh,hw⟩:=hw;obtain⟨x,hxf,hs,hi⟩:=Inv.ghost hlo hgh hi hs;rw[<-hxf];exact wp_ret ⟨.ret,x,env,st,rfl,rfl,hs,hi,hw⟩
 |scope c1 ih=>
  intro ac hc Q env st a x hw hi hs;simp only[CC.code]at hc;refine wp_scope_straight (wp_mono (ih ac hc Q env st a x hw hi hs) λe a' w' hp=>?_);obtain⟨e',x',env',st',he,hxw,hst,hi',hq⟩:=hp;subst he;cases e'<;>exact⟨_,x',env',st',rfl,hxw,hst,hi',hq⟩
 |label l=>
  intro ac hc Q env st a x hw hi hs;simp only[CC.code,aC]at hc;subst hc;obtain⟨env,st,hgh,hw⟩:=hw;obtain⟨x,hxf,hs,hi⟩:=Inv.ghost hlo hgh hi hs;rw[<-hxf];exact wp_label ⟨.normal,x,env,st,rfl,rfl,hs,hi,hw⟩
 |_=>intro ac hc;simp[CC.code]at hc
end
end
section
variable [cI]
section
variable {C:CC}{Y:Ctx}
theorem Yq {m:List (Nat×bm)}{t:TypeId}{v:Value}(hsm:∀fid n,dK ν fid=some n->n<1000000)(hn0:P.cellsOf t≠0)(hu:(P.underlying t).isNone=false)(h1':bW P t=false->P.cellsOf t=1)(hv:RD ν x v d)(k2:Mg m (P.cellsOf t) d)(hs:fG ν x f)(hag:∀l,look m l≠none->f l=look m l):
  ∃ad u,v=.pointer (some ad)/\(loadVar t ad).run P x.w=.ok u x.w/\RD ν x u (Mh m (P.cellsOf t) (bW P t) d):=by
 cases d<;>simp only[Mg]at k2
 .rename_i k es i o';cases hv with
  |ref b off _ _ _ at_ _ c hI hat hk hn hcc hone hh=>
   obtain⟨v,r1,r2⟩:=qK (P:=P) (ν:=ν) (x:=x) (e:=es.getD i .any) (k:=k) (n:=P.cellsOf t) (o:=o') (b:=b) (at0:=off+i*k) (ag:=bW P t) (ty:=t) (c:=c i) (hk i k2.1) k2.2
    (λj hj=>⟨hcc i j k2.1 hj,hone i j k2.1 hj,hh i j k2.1 hj⟩) rfl hn0 hu rfl h1'
   grind [Mh]
 .rename_i l k i o';cases hv with
  |ptr _ _ _ _ b base tot at_ hβ hat=>
   obtain⟨g1,g2,hnI,hk0,ht,c,T,fr,q1,q2,q3,q4⟩:=wN hs hag k2.1 hβ;have hi:i<(aL m l).length:=ae;obtain⟨v,r1,r2⟩:=qK (P:=P) (ν:=ν) (x:=x) (e:=(aL m l).getD i .any) (k:=k) (n:=P.cellsOf t) (o:=o') (b:=b) (at0:=base+i*k) (ag:=bW P t) (ty:=t) (c:=λj=>c.getD (base+i*k+j) undef)
    ((q4 i hi).1) k2.2
    (λj hj=>⟨cell_of_heap q1 KY,((q4 i hi).2 j hj).1,((q4 i hi).2 j hj).2⟩) rfl hn0 hu rfl h1'
   grind [Mh]
 .rename_i q es;obtain⟨hq2,e1,e2,e3⟩:=k2;cases hv with
  |mpn=>exfalso;omega
  |im=>exfalso;omega
  |fn fid _ cs ds hν=>exact absurd (hsm _ _ hν) ae
  |ef fid _ cs ds hν=>exact absurd (hsm _ _ hν) ae
  |bx b at_ _ v0 hI hc0 h1 hl hh=>
   obtain⟨v,r1,r2⟩:=qK (P:=P) (ν:=ν) (x:=x) (e:=es.getD 0 .any) (k:=1) (n:=P.cellsOf t) (o:=0) (b:=b) (at0:=at_) (ag:=bW P t) (ty:=t) (c:=λ_=>v0) (by rw[e3];rfl) ae
    (λj hj=>by obtain rfl:j=0:=ae;exact⟨hc0,h1,by rw[e3];exact hh 0 ae⟩) rfl hn0 hu rfl h1'
   exact⟨_,v,rfl,r1,by simpa only[Mh]using r2⟩
def D4 (a:Act):ResultVar->Sem Value
 | .tmp t=>pure (a.tmps.getD t undef)
 | .cell ad t=>do loadVar t (<-asAddr (a.tmps.getD ad undef))
def sW (hsm:∀fid n,dK C.ν fid=some n->n<1000000){a:Act}{x:X}{env:List aY}{st:St}(hi:Inv C a x env st):∀(rs:List ResultVar) (ars:List G8),yf C.P C.slots rs=some ars->oD st.m env ars->
  ∃vs,(rs.mapM (D4 a)).run C.P x.w=.ok vs x.w/\vs.length=ars.length/\(qZ st.m env ars).length=ars.length/\∀i,i<ars.length->RD C.ν x (vs.getD i undef) ((qZ st.m env ars).getD i .any)
 |[],ars,h,_=>by simp[yf]at h;subst h;exact⟨[],aF,rfl,by simp[qZ],λi hi=>by simp at hi⟩
 | .tmp t::r,ars,h,ho=>by
  simp only[yf]at h;split at h
  .rename_i s l h1 h2;simp only[aC]at h;subst h;simp only[oD]at ho;obtain⟨vs,b1,b2,b4,b3⟩:=sW hsm hi r l h2 ho.2.2;refine⟨a.tmps.getD t undef::vs,by simp[D4,b1],by simp[b2],by simp[qZ,b4],λi hil=>?_⟩;cases i with
   |zero=>simpa[qZ,IB]using hi.env s t (pU _ _ _ h1) ho.1
   |succ i=>simpa[qZ]using b3 i (by simpa using hil)
  .cases h
 | .cell t ty::r,ars,h,ho=>by
  simp only[yf]at h;split at h
  .rename_i s l h1 h2;split at h
   .cases h
   rename_i hce;simp only[aC]at h;subst h;simp only[oD]at ho;obtain⟨vs,b1,b2,b4,b3⟩:=sW hsm hi r l h2 ho.2.2;have hu:(C.P.underlying ty).isNone=false:=by cases hn:(C.P.underlying ty).isNone with|false=>rfl|true=>exact absurd (.inr (.inl hn)) hce
   have h1':bW C.P ty=false->C.P.cellsOf ty=1:=λe=>by
    rcases Nat.decEq (C.P.cellsOf ty) 1 with h|h
    .exact absurd (.inr (.inr ⟨e,h⟩)) hce
    .exact h
   obtain⟨ad,u,c1,c2,c3⟩:=Yq hsm (λe=>hce (.inl e)) hu h1' (hi.env s t (pU _ _ _ h1) ho.1) ho.2.1 hi.oA (λ_ _=>rfl);refine⟨u::vs, ?_,by simp[b2],by simp[qZ,b4],λi hil=>?_⟩
   .have e:(D4 a (.cell t ty)).run C.P x.w=.ok u x.w:=by simp only[D4,c1];simp[asAddr,c2]
    simp[List.mapM_cons,e,b1]
   .cases i with
    |zero=>simpa[qZ,IB]using c3
    |succ i=>simpa[qZ]using b3 i (by simpa using hil)
  .cases h
def QF (fn:Func)(a:Act):results fn a.tmps=(do
  let vs <-fn.results.mapM (D4 a)
  pure (if h:vs.size=1 then vs[0]else .tuple vs)):=by
 unfold results;congr 1
def oS (hsm:∀fid n,dK C.ν fid=some n->n<1000000)(hi:Inv C a x env st)(hr:yf C.P C.slots fn.results.toList=some af.res)(ho:oD st.m env af.res):
  ∃v,(results fn a.tmps).run C.P x.w=.ok v x.w/\RD C.ν x v (j5 af env st)/\(af.res.length≠1->∃cs,v=.tuple cs):=by
 obtain⟨vs,b1,b2,b4,b3⟩:=sW hsm hi _ _ hr ho;have hrun:(results fn a.tmps).run C.P x.w=.ok (if h:vs.length=1 then vs[0]else .tuple vs.toArray) x.w:=by
  rw[QF,Sem.run_bind,Array.mapM_eq_mapM_toList,Sem.run_map,b1];simp[Result.andThen]
 rcases hres:af.res with _|⟨r,_|⟨r2,rs⟩⟩
 .rw[hres]at b2 b3 b4;have h0:vs.length≠1:=by rw[b2];simp
  rw[dif_neg h0]at hrun;refine⟨_,hrun, ?_,λ_=>⟨_,rfl⟩⟩;simp only[j5,hres];refine .tup _ _ (by simp[b2,b4]) λi hi=>?_
  have:=b3 i ae
  rwa [<-bL]
 .rw[hres]at b2 b3 b4;have h0:vs.length=1:=by rw[b2];rfl
  rw[dif_pos h0]at hrun;refine⟨_,hrun, ?_,λh=>absurd rfl h⟩;simp only[j5,hres];have:=b3 0 aF;simp only[qZ,iR]at this
  rwa [xc _ _ _ ae]at this
 .rw[hres]at b2 b3 b4;have h0:vs.length≠1:=by rw[b2];simp
  rw[dif_neg h0]at hrun;refine⟨_,hrun, ?_,λ_=>⟨_,rfl⟩⟩;simp only[j5,hres];refine .tup _ _ (by simp[b2,b4]) λi hi=>?_
  have:=b3 i ae
  rwa [<-bL]
def yN:∀(l acc:List Nat),∃r,dedup acc l=acc.reverse++r
 |[],acc=>⟨[],by simp[dedup]⟩
 |a::l,acc=>by
  simp only[dedup];split
  .exact yN l acc
  .obtain⟨r,h⟩:=yN l (a::acc);exact⟨a::r,mS⟩
def sn:∀(l acc:List Nat),acc.Nodup->(dedup acc l).Nodup
 |[],acc,h=>by simp only[dedup];exact List.pairwise_reverse.2 (h.imp λh=>Ne.symm h)
 |a::l,acc,h=>by
  simp only[dedup];split
  .exact sn l acc h
  .rename_i hn;exact sn l (a::acc) (List.nodup_cons.2 ⟨by simpa using hn,h⟩)
def z8 (rest:List Nat):∀(n j:Nat),dedup (List.range j).reverse (List.range' j n++rest)=dedup (List.range (j+n)).reverse rest
 |0,j=>aF
 |n+1,j=>by
  rw[List.range'_succ,rv];simp only[dedup];rw[ai aF];have e:j::(List.range j).reverse=(List.range (j+1)).reverse:=by rw[List.range_succ];simp
  rw[e,z8 rest n (j+1)];congr 2;congr 1;omega
theorem mA (fn:Func):(slotsOf fn).Nodup/\fn.params.size+fn.nfree<=(slotsOf fn).length/\∀n,n<fn.params.size+fn.nfree->(slotsOf fn)[n]? =some n:=by
 refine⟨sn _ _ List.nodup_nil, ?_⟩;have e:slotsOf fn=dedup (List.range (fn.params.size+fn.nfree)).reverse (tH fn.results.toList++Ev (fn.body.getD .skip)):=by
  have:=z8 (tH fn.results.toList++Ev (fn.body.getD .skip)) (fn.params.size+fn.nfree) 0;simp only[List.range_zero,List.reverse_nil,cL]at this;unfold slotsOf;rw[fF,List.range_eq_range'];rw[this,List.range_eq_range']
 obtain⟨r,h⟩:=yN (tH fn.results.toList++Ev (fn.body.getD .skip)) (List.range (fn.params.size+fn.nfree)).reverse
 grind
end
end
section
variable [cI]
section
variable {bR:List Nat}{Y:Ctx}
def Ok.at (h:Ok P ν bR Y)(n:Nat):Ok P ν bR (Y.at n):=⟨h.small,h.bld,h.glz,h.pure,h.effF,h.bR⟩
theorem gp (hc:compile P ν bR fn=some af):
  ∃body,fn.body=some body/\CC.code {P,ν,bR,slots:=slotsOf fn,ntmps:=fn.ntmps,vm:=QT P fn} body=some af.body/\yf P (slotsOf fn) fn.results.toList=some af.res/\
   fn.params.size+fn.nfree<=fn.ntmps/\af.np=fn.params.size+fn.nfree/\af.ns=(slotsOf fn).length:=by
 grind [compile]
theorem tK (hnp:fn.params.size+fn.nfree<=fn.ntmps)(h1:af.np=fn.params.size+fn.nfree)(h2:af.ns=(slotsOf fn).length)(hl:args.size=ds.length)(hd:ds.length=af.np)(hargs:∀i,i<ds.length->RD ν x (args.getD i undef) (ds.getD i .any))(hs:fG ν x (look st.m))(hf:fk st x):
  Inv {P,ν,bR,slots:=slotsOf fn,ntmps:=fn.ntmps,vm:=QT P fn} {tmps:=args++Array.replicate (fn.ntmps-args.size) undef,defers:=[]} x (fP af ds) st:=by
 obtain⟨s1,s2,s3⟩:=mA fn;refine⟨?_,λn t hn ho=>?_,eJ,rfl,hs,hf⟩
 .simp only[fP,bV,bh,List.length_replicate];omega
 .simp only at hn;simp only[fP]at ho⊢;rw[cS]at ho⊢;simp only[bh]at ho⊢;by_cases h:n<ds.length
  .grind [nw]
  .rw[ai h];have:(List.replicate (af.ns-af.np) aY.un).getD (n-ds.length) .un=.un:=by
    simp only[List.getD,List.getElem?_replicate];split<;>rfl
   rw[this];exact .any _
def Ex.BV {e:Ex}(h:e.home):Ex.of e=.normal\/Ex.of e=.ret:=by
 cases e with
 |normal=>exact .inl rfl
 |exit id=>exact h.elim
 |ret=>exact .inr rfl
def adn (hΓ:Ok P ν bR Y)(hmix:P.follows .mixedOrders=true)(hf:P.funcs[fid]? =some fn)(hc:compile P ν bR fn=some af)(hl:args.size=ds.length)(hargs:∀i,i<ds.length->RD ν x (args.getD i undef) (ds.getD i .any))(hnl:aP ds=true)(himm:∀b,x.I b->b<x.w.heap.size)(hgd:cI.gd x)(hnp:ds.length=af.np)(hw:dk (Y.at 0) af.body (λe env st=>e.home/\oD st.m env af.res/\NI af env st/\aaf af env st=d) (fP af ds) ⟨0,[]⟩):
  Calls P fid args x.w fun
   | .returned v,w'=>∃x',x'.w=w'/\nL x x'/\RD ν x' v d
   |_,_=>False:=by
 obtain⟨body,c1,c2,c3,c4,c5,c6⟩:=gp hc
 let x0:X:=⟨x.w,x.I,λ_=>none⟩
 have hs0:fG ν x0 (look []):=⟨λl blk b base tot h=>by simp[look]at h,λl l' b base tot base' tot' h=>by simp[look]at h,himm,λl b base tot h=>cw,cI.le x _ (λ_ h=>h) (λ_ _=>rfl) hgd⟩;have hf0:fk ⟨0,[]⟩ x0:=⟨λl _=>rfl,λl h=>by simp[look]at h⟩;have hi:=tK (P:=P) (ν:=ν) (bR:=bR) (x:=x0) (st:=⟨0,[]⟩) c4 c5 c6 hl hnp (λi hi=>(hargs i hi).aU (cT hnl i) (λ_ h=>h) (λ_ _=>rfl)) hs0 hf0;have hcs:=qD (C:={P,ν,bR,slots:=slotsOf fn,ntmps:=fn.ntmps,vm:=QT P fn}) (hΓ.at 0) (mA fn).1 hmix x0 (λ_ _=>rfl) body af.body c2 _ _ _ _ x0 hw hi (.refl _);refine calls_of_wp hf c1 (wp_mono hcs λe a w' hp=>?_);obtain⟨e',x',env',st',he,hxw,hst,hi',hh,hro,hrpo,hrp⟩:=hp;subst hxw;obtain⟨v,r1,r2,r3⟩:=oS hΓ.small hi' c3 hro;have hI:∀b,(x'.nt (look st'.m)).I b->b<x'.w.heap.size:=by
  intro b hb;rcases hb with h|⟨l,⟨b',base,tot⟩,h1,h2,h3⟩
  .exact hi'.oA.imm b h
  .subst h2;exact hi'.oA.ef l _ _ _ h1
 have hnew:∀b,(x'.nt (look st'.m)).I b->x.I b\/x.w.heap.size<=b:=by
  intro b hb;rcases hb with h|⟨l,p,h1,h2,h3⟩
  .rcases hst.newI b h with h|h|⟨l,p,h,_⟩
   .exact .inl h
   .exact .inr h
   .cases h
  .subst h2;rcases hst.newβ l p h1 with h|h|⟨l',p',h,_⟩
   .cases h
   .exact .inr h
   .cases h
 have hps:nL x ⟨x'.w,(x'.nt (look st'.m)).I,x.β⟩:=
  ⟨⟨hst.os,hst.tape,hst.output,hst.size,λb hb=>hst.old b hb λl p h=>cw⟩,λb hb=>.inl (hst.I b hb),hnew,hI,rfl⟩
 have hrd:RD ν ⟨x'.w,(x'.nt (look st'.m)).I,x.β⟩ v d:=by
  rw[<-hrp];have key:∀(v:Value) (d:D),RD ν (x'.nt (look st'.m)) v d->d.aU=true->RD ν ⟨x'.w,(x'.nt (look st'.m)).I,x.β⟩ v d:=λv d h hn=>h.aU hn (λ_ h=>h) (λ_ _=>rfl)
  unfold j5 at r2;unfold NI at hrpo;unfold aaf;rcases hres:af.res with _|⟨r,_|⟨r2',rs⟩⟩
  .simp only[hres]at r2 hrpo⊢;generalize hvs:qZ st'.m env' []=vs at r2 hrpo⊢;cases r2 with
   |tup cs _ hl' hh'=>
    obtain⟨q1,q2,q3⟩:=j3 hi'.oA (λ_ _=>rfl) af.rsh vs (λj=>cs.getD j undef) hh' hrpo;exact .tup cs _ (by rw[q1,hl']) λi hi=>key _ _ (q3 i ae) (cT q2 i)
  .simp only[hres]at r2 hrpo⊢;obtain⟨q1,q2⟩:=vU hi'.oA (λ_ _=>rfl) _ _ _ r2 hrpo;exact key _ _ q1 q2
  .simp only[hres]at r2 hrpo⊢;generalize hvs:qZ st'.m env' (r::r2'::rs)=vs at r2 hrpo⊢;cases r2 with
   |tup cs _ hl' hh'=>
    obtain⟨q1,q2,q3⟩:=j3 hi'.oA (λ_ _=>rfl) af.rsh vs (λj=>cs.getD j undef) hh' hrpo;exact .tup cs _ (by rw[q1,hl']) λi hi=>key _ _ (q3 i ae) (cT q2 i)
 rcases Ex.BV hh with h|h<;>rw[h]at he<;>subst he<;>exact⟨hi'.defers,v,r1,⟨x'.w,(x'.nt (look st'.m)).I,x.β⟩,rfl,hps,hrd⟩
def ajk (hΓ:Ok P ν bR Y)(hmix:P.follows .mixedOrders=true)(hf:P.funcs[fid]? =some fn)(hc:compile P ν bR fn=some af){K:D->St->Prop}(hl:args.size=ds.length)(hargs:∀i,i<ds.length->RD ν x (args.getD i undef) (ds.getD i .any))(hs:fG ν x (look st.m))(hfr:fk st x)(hw:trOf Y af ds st K):
  Calls P fid args x.w fun
   | .returned v,w'=>∃x',x'.w=w'/\∃d st',K d st'/\Step x x'/\RD ν x' v d/\fG ν x' (look st'.m)/\fk st' x'
   |_,_=>False:=by
 obtain⟨body,c1,c2,c3,c4,c5,c6⟩:=gp hc;obtain⟨hnp,hw⟩:=hw;have hi:=tK (P:=P) (ν:=ν) (bR:=bR) (x:=x) (st:=st) c4 c5 c6 hl hnp hargs hs hfr;have hcs:=qD (C:={P,ν,bR,slots:=slotsOf fn,ntmps:=fn.ntmps,vm:=QT P fn}) (hΓ.at st.nx) (mA fn).1 hmix x (λl h=>hfr.β l h) body af.body c2 _ _ _ _ x hw hi (.refl _);refine calls_of_wp hf c1 (wp_mono hcs λe a w' hp=>?_);obtain⟨e',x',env',st',he,hxw,hst,hi',hh,hro,hk⟩:=hp;subst hxw;obtain⟨v,r1,r2,r3⟩:=oS hΓ.small hi' c3 hro;rcases Ex.BV hh with h|h<;>rw[h]at he<;>subst he<;>exact⟨hi'.defers,v,r1,x',rfl,_,st',hk,hst,r2,hi'.oA,hi'.fresh⟩
def adl {vd sd:D}(hΓ:Ok P ν bR Y)(hmix:P.follows .mixedOrders=true)(hf:P.funcs[fid]? =some fn)(hc:compile P ν bR fn=some af){l k:Nat}(hl:args.size=ds.length+1)(h0:RD ν x (args.getD 0 undef) (.ptr l k 0 0))(hargs:∀i,i<ds.length->RD ν x (args.getD (i+1) undef) (ds.getD i .any))(hs:fG ν x f)(hfl:f l=some (.buf k [d]))(hd:d.aU=true)(hnl:aP ds=true)(hnp:ds.length+1=af.np)(hw:dk (Y.at 1) af.body (λe env st=>e.home/\oD st.m env af.res/\(j5 af env st).aU=true/\j5 af env st=vd/\look st.m 0=some (.buf k [sd])/\sd.aU=true) (fP af (.ptr 0 k 0 0::ds)) ⟨1,[(0,.buf k [d])]⟩):
  Calls P fid args x.w fun
   | .returned v,w'=>∃x',x'.w=w'/\Step x x'/\RD ν x' v vd/\fG ν x' (λl'=>if l'=l then some (.buf k [sd])else f l')/\x'.β=x.β
   |_,_=>False:=by
 obtain⟨body,c1,c2,c3,c4,c5,c6⟩:=gp hc;obtain⟨b,base,tot,hβ,ha0⟩:∃b base tot,x.β l=some (b,base,tot)/\args.getD 0 undef=.pointer (some ⟨b,base,none⟩):=by
  generalize args.getD 0 undef=v0 at h0;cases h0 with
  |ptr _ _ _ _ b base tot at_ hβ hat=>exact⟨b,base,tot,hβ,by simp[hat]⟩
 let x1:X:=⟨x.w,x.I,λl'=>if l'=0 then x.β l else none⟩
 have hx1:∀l' p,x1.β l'=some p->l'=0/\p=(b,base,tot):=by
  intro l' p h;simp only[x1]at h;split at h
  .rename_i e;rw[hβ]at h;exact⟨e,(bc h).symm⟩
  .cases h
 have hx1':x1.β 0=some (b,base,tot):=by simp[x1,hβ]
 have key1:∀(v:Value) (d:D),RD ν x v d->d.aU=true->RD ν x1 v d:=λv d h hn=>h.aU hn (λ_ h=>h) (λ_ _=>rfl)
 have hbR:=hs.own l _ b base tot hfl hβ;have hs1:fG ν x1 (look [(0,.buf k [d])]):=by
  refine⟨λl' blk b' base' tot' e1 e2=>?_,λl1 l2 b' base' tot' base'' tot'' e1 e2 e3 e4=>(hx1 _ _ e3).1.trans (hx1 _ _ e4).1.symm,hs.imm,λl' b' base' tot' e=>?_,cI.le x _ (λ_ h=>h) (λ_ _=>rfl) hs.gd⟩
  .obtain⟨rfl,e3⟩:=hx1 _ _ e2;simp only[dw]at e3;obtain⟨rfl,rfl,rfl⟩:=e3;simp only[look,bo,aC]at e1;subst e1;refine⟨hbR.1, ?_⟩;obtain⟨p1,p2,c,T,fr,p3,p4,p5,p6⟩:=hbR.2;refine⟨p1,p2,c,T,fr,p3,p4,p5,λi hi=>⟨(p6 i hi).1,λj hj=>⟨((p6 i hi).2 j hj).1,key1 _ _ ((p6 i hi).2 j hj).2 ?_⟩⟩⟩;have:i=0:=by simpa using hi
   subst this;exact lJ (by simpa using hd) j
  .obtain⟨_,e3⟩:=hx1 _ _ e;simp only[dw]at e3;rw[e3.1];exact hs.ef l b base tot hβ
 have hf1:fk ⟨1,[(0,.buf k [d])]⟩ x1:=⟨λl' hl'=>by
   cases h:x1.β l' with
   |none=>rfl
   |some p=>have:=(hx1 _ _ h).1;simp only at hl';omega,λl' hl'=>by
   simp only[look]at hl';split at hl'
   .rename_i e;simp only;omega
   .exact absurd rfl hl'⟩
 have hi:=tK (P:=P) (ν:=ν) (bR:=bR) (x:=x1) (ds:=.ptr 0 k 0 0::ds) (st:=⟨1,[(0,.buf k [d])]⟩) c4 c5 c6 (args:=args) (by simpa using hl) (by simpa using hnp) (λi hi=>by
  cases i with
  |zero=>simp only[iR];rw[ha0];exact .ptr 0 k 0 0 b base tot base hx1' aF
  |succ i=>simp only[List.getD_cons_succ];exact key1 _ _ (hargs i oz) (cT hnl i)) hs1 hf1
 have hcs:=qD (C:={P,ν,bR,slots:=slotsOf fn,ntmps:=fn.ntmps,vm:=QT P fn}) (hΓ.at 1) (mA fn).1 hmix x1 (λl h=>hf1.β l h) body af.body c2 _ _ _ _ x1 hw hi (.refl _);refine calls_of_wp hf c1 (wp_mono hcs λe a w' hp=>?_);obtain⟨e',x',env',st',he,hxw,hst,hi',hh,hro,hrn,hrv,hlk,hsn⟩:=hp;subst hxw;obtain⟨v,r1,r2,r3⟩:=oS hΓ.small hi' c3 hro
 let x2:X:=⟨x'.w,x'.I,x.β⟩
 have key2:∀(v:Value) (d:D),RD ν x' v d->d.aU=true->RD ν x2 v d:=λv d h hn=>h.aU hn (λ_ h=>h) (λ_ _=>rfl)
 have hb':x'.β 0=some (b,base,tot):=hst.β _ _ hx1';have hnewI:∀b',x'.I b'->x.I b'\/x.w.heap.size<=b'\/b'=b:=by
  intro b' h;rcases hst.newI b' h with h|h|⟨l',p,h1,h2⟩
  .exact .inl h
  .exact .inr (.inl h)
  .right;right;rw[<-h2,(hx1 _ _ h1).2]
 have hstep:Step x x2:=by
  refine⟨hst.os,hst.tape,hst.output,hst.size,hst.I,hst.pg,λ_ _ h=>h,λb' hb' hn=>hst.old b' hb' λl' p h e=>?_,λb' h=>?_,λ_ _ h=>.inl h⟩
  .have:=hn l _ hβ;rw[(hx1 _ _ h).2]at e;exact this e
  .rcases hnewI b' h with h|h|h
   .exact .inl h
   .exact .inr (.inl h)
   .exact .inr (.inr ⟨l,_,hβ,h.symm⟩)
 have hsim:fG ν x2 (λl'=>if l'=l then some (.buf k [sd])else f l'):=by
  have hbb:=hi'.oA.own 0 _ b base tot hlk hb';refine⟨λl' blk b' base' tot' e1 e2=>?_,λl1 l2 b' base' tot' base'' tot'' e1 e2 e3 e4=>?_,hi'.oA.imm,λl' b' base' tot' e=>jj (hs.ef l' b' base' tot' e) hst.size,cI.le x' _ (λ_ h=>h) (λ_ _=>rfl) hi'.oA.gd⟩
  .by_cases hll:l'=l
   .subst hll;simp only[bo,aC]at e1;subst e1;have e2':x.β l'=some (b',base',tot'):=e2;rw[hβ]at e2';simp only[aC,dw]at e2';obtain⟨rfl,rfl,rfl⟩:=e2';refine⟨hbb.1, ?_⟩;obtain⟨p1,p2,c,T,fr,p3,p4,p5,p6⟩:=hbb.2;refine⟨p1,p2,c,T,fr,p3,p4,p5,λi hi=>⟨(p6 i hi).1,λj hj=>⟨((p6 i hi).2 j hj).1,key2 _ _ ((p6 i hi).2 j hj).2 ?_⟩⟩⟩;have:i=0:=by simpa using hi
    subst this;exact lJ (by simpa using hsn) j
   .simp only[ai hll]at e1;have e2':x.β l'=some (b',base',tot'):=e2;obtain⟨q1,q2⟩:=hs.own l' blk b' base' tot' e1 e2';have hne:b'≠b:=λe=>by subst e;exact hll (hs.inj l' l b' base' tot' base tot (by rw[e1];simp) (by rw[hfl];simp) e2' hβ)
    have hlt:=hs.ef l' b' base' tot' e2';refine⟨λh=>?_,q2.mono hstep.le (hst.old b' hlt λl'' p h e=>hne (by rw[<-e,(hx1 _ _ h).2]))⟩;rcases hnewI b' h with h|h|h
    .exact q1 h
    .omega
    .exact hne h
  .have hne:∀l',(if l'=l then some (bm.buf k [sd])else f l')≠none->f l'≠none:=λl' h=>by
    by_cases e:l'=l
    .rw[e,hfl];simp
    .rwa [ai e]at h
   exact hs.inj l1 l2 b' base' tot' base'' tot'' (hne _ e1) (hne _ e2) e3 e4
 rw[hrv]at r2;rcases Ex.BV hh with h|h<;>rw[h]at he<;>subst he<;>exact⟨hi'.defers,v,r1,x2,rfl,hstep,key2 _ _ r2 (by rw[<-hrv];exact hrn),hsim,rfl⟩
structure Rank where
 key:Nat->Nat
 mu:Nat->List D->Nat
 muE:Nat->List D->St->Nat
def Ctx.under (Y:Ctx)(R:Rank)(k u:Nat):Ctx where
 pre n ds:=(R.key n<k\/R.key n=k/\R.mu n ds<u)/\Y.pre n ds
 val:=Y.val
 tr n ds st K:=(R.key n<k\/R.key n=k/\R.muE n ds st<u)/\Y.tr n ds st K
 fp n d ds:=(R.key n<k\/R.key n=k/\R.mu n (d::ds)<u)/\Y.fp n d ds
 fv:=Y.fv
 fs:=Y.fs
 lo:=Y.lo
def ok_of (R:Rank)(hsm:∀fid n,dK ν fid=some n->n<1000000)(hB:∀t,bR.contains (1000000000+t)=true->t=cI.tB)(hG:∀g,bR.contains (500000000+g)=true/\g<400000000->cI.gz g)(hp:∀fid n,dK ν fid=some n->∀ds,Y.pre n ds->Ok P ν bR (Y.under R (R.key n) (R.mu n ds))->∀(x:X) (args:Array Value),args.size=ds.length->(∀i,i<ds.length->RD ν x (args.getD i undef) (ds.getD i .any))->aP ds=true->
    (∀b,x.I b->b<x.w.heap.size)->cI.gd x->jJ P x (λv x'=>nL x x'/\RD ν x' v (Y.val n ds)) ((callFunc fid args).run P x.w))(hf:∀fid n,dK ν fid=some n->bR.contains (2*n+1)=true->∀(d:D) (ds:List D),Y.fp n d ds->Ok P ν bR (Y.under R (R.key n) (R.mu n (d::ds)))->∀(x:X) (f:Nat->Option bm) (args:Array Value) (l k:Nat),args.size=ds.length+1->
    RD ν x (args.getD 0 undef) (.ptr l k 0 0)->(∀i,i<ds.length->RD ν x (args.getD (i+1) undef) (ds.getD i .any))->fG ν x f->f l=some (.buf k [d])->d.aU=true->aP ds=true->
    jJ P x (λv x'=>Step x x'/\RD ν x' v (Y.fv n d ds)/\fG ν x' (λl'=>if l'=l then some (.buf k [Y.fs n d ds])else f l')/\x'.β=x.β) ((callFunc fid args).run P x.w))(he:∀fid n,dK ν fid=some n->∀(ds:List D) (st:St) (K:D->St->Prop),Y.tr n ds st K->Ok P ν bR (Y.under R (R.key n) (R.muE n ds st))->∀(x:X) (args:Array Value),args.size=ds.length->(∀i,i<ds.length->RD ν x (args.getD i undef) (ds.getD i .any))->
    fG ν x (look st.m)->fk st x->jJ P x (λv x'=>∃d st',K d st'/\Step x x'/\RD ν x' v d/\fG ν x' (look st'.m)/\fk st' x') ((callFunc fid args).run P x.w)):Ok P ν bR Y:=by
 have key:∀k u,Ok P ν bR (Y.under R k u):=by
  intro k;induction k using Nat.strongRecOn with
  |_ k ihk=>
   intro u;induction u using Nat.strongRecOn with
   |_ u ihu=>
    refine⟨hsm,hB,hG,λfid n hn x args ds hl hargs hnl himm hgd hpre=>?_,λfid n hn hef x f args l kk d ds hl h0 hargs hs hfl hd hnl hpre=>?_,λfid n hn x args ds st K hl hargs hs hf' htr=>?_⟩
    .obtain⟨hlt,hpre⟩:=hpre;refine hp fid n hn ds hpre ?_ x args hl hargs hnl himm hgd;rcases hlt with h|⟨h1,h2⟩
     .exact ihk _ h _
     .rw[h1];exact ihu _ h2
    .obtain⟨hlt,hpre⟩:=hpre;refine hf fid n hn hef d ds hpre ?_ x f args l kk hl h0 hargs hs hfl hd hnl;rcases hlt with h|⟨h1,h2⟩
     .exact ihk _ h _
     .rw[h1];exact ihu _ h2
    .obtain⟨hlt,htr⟩:=htr;refine he fid n hn ds st K htr ?_ x args hl hargs hs hf';rcases hlt with h|⟨h1,h2⟩
     .exact ihk _ h _
     .rw[h1];exact ihu _ h2
 refine⟨hsm,hB,hG,λfid n hn x args ds hl hargs hnl himm hgd hpre=>?_,λfid n hn hef x f args l kk d ds hl h0 hargs hs hfl hd hnl hpre=>?_,λfid n hn x args ds st K hl hargs hs hf' htr=>?_⟩
 .exact hp fid n hn ds hpre (key _ _) x args hl hargs hnl himm hgd
 .exact hf fid n hn hef d ds hpre (key _ _) x f args l kk hl h0 hargs hs hfl hd hnl
 .exact he fid n hn ds st K htr (key _ _) x args hl hargs hs hf'
def gR (hf:P.funcs[fid]? =some fn)(hn:(fn.name== "runtime.NumGoroutine")=false)(hb:fn.body.isSome=true)(args:Array Value)(w:World):(callFunc fid args).run P w=.ok (.enter fid args) w:=by
 have h1:fn.name≠ "runtime.NumGoroutine" :=by simpa using hn
 have h2:fn.body≠none:=by intro h;rw[h]at hb;cases hb
 simp[callFunc,hf,h1,h2]
end
end
def bw {p:Prop}(h:p:=by first|exact λ_=>rfl|exact λh=>h|(intro h;simp_all)):p:=h
def cz {p:Prop}(h:p:=by first|exact rfl|exact⟨_,_,rfl,rfl⟩):p:=h
def tf {p:Prop}(h:p:=by first|exact λ_=>rfl|(intro h;omega)|(intro h;simp at h;omega)):p:=h
def uM {p:Prop}(h:p:=by intro h;repeat' first|exact trivial|exact rfl|exact h|refine And.intro ?_ ?_|decide):p:=h
def zL {p:Prop}(h:p:=by simp only[bH,b7,Nat.reduceAdd];exact rfl):p:=h
def rr {p:Prop}(h:p:=by intro h;first|omega|(simp at h;omega)):p:=h
def IX {p:Prop}(h:p:=by intro h;first|(constructor<;>omega)|(simp at h;constructor<;>omega)):p:=h
end Go.Abs
