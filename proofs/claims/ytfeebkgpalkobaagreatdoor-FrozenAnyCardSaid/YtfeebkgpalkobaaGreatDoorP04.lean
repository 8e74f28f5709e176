/- A part of the proofs. -/
import Derived.Scope
import Derived.Test.YtfeebkgpalkobaaGreatDoorP03
set_option linter.all false
set_option maxRecDepth 60000
set_option maxHeartbeats 2000000
namespace Go.Abs
section
variable [di]
section
variable {C:CC} {Y:Ctx}
def filter_lt {p q:Nat->Bool}:∀(l:List Nat),(∀a∈l,q a=true->p a=true)->(∃a∈l,p a=true/\q a=false)->(l.filter q).length<(l.filter p).length
 |[],_,⟨a,h,_⟩=>by cases h
 |b::r,h1,⟨a,h2,h3,h4⟩=>by
  have hle:∀(l:List Nat),(∀a∈l,q a=true->p a=true)->(l.filter q).length<=(l.filter p).length:=by
   intro l;induction l with
   |nil=>intro _;simp
   |cons b r ih=>
    grind
  have hr:=hle r fun a ha=>h1 a (.tail _ ha)
  rw[List.filter_cons,List.filter_cons];cases h2 with
  |head=>simp only[h3,h4,aY];simp;omega
  |tail _ h2=>
   have ih:=filter_lt r (fun a ha=>h1 a (.tail _ ha)) ⟨a,h2,h3,h4⟩
   grind
def L0 (n:Nat)(listed:Array Bool):Nat:=((List.range n).filter fun p=>!listed.getD p false).length
theorem dZ {listed:Array Bool}{i p:Nat}(h:i<listed.size):(listed.setIfInBounds i true).getD p false=if p=i then true else listed.getD p false:=by
 by_cases e:p=i
 .subst e;simp[h]
 .rw[aj e];exact getD_set_ne false (Ne.symm e)
def AT {n i:Nat}{listed:Array Bool}(hs:listed.size=n)(hi:i<n)(hl:listed.getD i false=false):L0 n (listed.setIfInBounds i true)<L0 n listed:=by
 refine filter_lt _ (fun a _ ha=>?_) ⟨i,by simpa using hi,by rw[hl];rfl,by rw[dZ ah,ay rfl];rfl⟩
 grind [dZ]
def UW {defs:List (Option Nat)}{o:Oper}{i:aG}(hc:C.op defs o=some i)(h1:i.calm=false)(h2:i.isApp=false)(h3:i.cN=false):
  ∃s,(∃p∈o.op.operands.toList,C.src defs p=some s)/\∀(J:Src->bI) (m:List (Nat×bL)) (L:Nat),i.dE Y J m->(J s).ok=true/\∃l,i.wr J L=[l]/\((∃k i o,(J s).d=.ptr l k i o)\/(J s).d=.it l\/(J s).d=.fn 5000000 [.it l]):=by
 cases ho:o.op with
 |store t p q=>
  simp only[CC.op,ho]at hc;split at hc
  .rename_i a b ha hb;split at hc
   .split at hc
    .obtain rfl:=bd hc;simp[aG.calm]at h1
    .cases hc
   .simp only[aP]at hc;subst hc;refine⟨a,⟨p,by simp[Op.operands],ha⟩,fun J m L hob=>⟨hob.1, ?_⟩⟩;have:=hob.2.2.2;cases hd:(J a).d<;>simp only[hd]at this;exact⟨_,by simp only[aG.wr,hd,dk],.inl ⟨_,_,_,rfl⟩⟩
  .cases hc
 |next it b=>
  cases b
  .simp[CC.op,ho]at hc
  .simp only[CC.op,ho,cS]at hc;obtain⟨s,hs,rfl⟩:=hc;refine⟨s,⟨it,by simp[Op.operands],hs⟩,fun J m L hob=>⟨hob.1, ?_⟩⟩;have:=hob.2;cases hd:(J s).d<;>simp only[hd]at this;exact⟨_,by simp only[aG.wr,hd,dk],.inr (.inl rfl)⟩
 |call c=>
  obtain⟨callee,args,argTypes⟩:=c;cases callee with
  |builtin bu=>
   cases bu with
   |len=>simp only[CC.op,ho]at hc;(repeat' split at hc)<;>simp only[aP,reduceCtorEq]at hc<;>subst hc<;>simp[aG.calm]at h1
   |min=>simp only[CC.op,ho]at hc;(repeat' split at hc)<;>simp only[aP,reduceCtorEq]at hc<;>subst hc<;>simp[aG.calm]at h1
   |append=>simp only[CC.op,ho]at hc;(repeat' split at hc)<;>simp only[aP,reduceCtorEq]at hc<;>subst hc<;>simp[aG.isApp]at h2
   |_=>simp[CC.op,ho]at hc
  |value f=>
   cases f with
   |func fid=>
    simp only[CC.op,ho]at hc;split at hc
    .rename_i n ss k1 k2;split at hc
     .simp only[aP]at hc;subst hc;simp[aG.cN]at h3
     .split at hc
      .split at hc
       .rename_i r rest;simp only[aP]at hc;subst hc;have hr:∃p∈args.toList,C.src defs p=some r:=by
         cases hal:args.toList with
         |nil=>rw[hal]at k2;simp[CC.rm]at k2
         |cons q qs=>
          rw[hal]at k2;simp only[CC.rm]at k2;split at k2
          .rename_i e1 e2;simp only[aP,pJ]at k2;obtain⟨rfl,_⟩:=k2;exact⟨q,bg,e1⟩
          .cases k2
        obtain⟨p,hp1,hp2⟩:=hr;refine⟨r,⟨p,by simp only[Op.operands,Call.operands];simp at hp1⊢;exact .inr hp1,hp2⟩,fun J m L hob=>⟨hob.1, ?_⟩⟩;have:=hob.2.2.2;cases hd:(J r).d<;>simp only[hd]at this;exact⟨_,by simp only[aG.wr,hd,dk],.inl ⟨_,_,_,rfl⟩⟩
       .cases hc
      .simp only[aP]at hc;subst hc;simp[aG.calm]at h1
    .cases hc
   |tmp t=>simp only[CC.op,ho]at hc;(repeat' split at hc)<;>simp only[aP,reduceCtorEq]at hc<;>subst hc<;>first|(simp[aG.calm]at h1;done)|(simp[aG.cN]at h3;done)
   |_=>simp[CC.op,ho]at hc
  |invoke r n=>simp only[CC.op,ho]at hc;(repeat' split at hc)<;>(try simp only[cS,reduceCtorEq]at hc)<;>first|(obtain⟨_,_,rfl⟩:=hc;simp[aG.calm]at h1;done)|exact hc.elim|cases hc
 |typeAssert p xt t ok=>cases ok<;>simp only[CC.op,ho]at hc<;>(try(repeat' split at hc))<;>(try simp only[aP,reduceCtorEq]at hc)<;>first|(subst hc;simp[aG.calm]at h1;done)|exact hc.elim|cases hc
 |makeMap t r=>cases r<;>simp only[CC.op,ho]at hc<;>(try cases hc)<;>(repeat' split at hc)<;>simp only[aP,reduceCtorEq]at hc<;>(subst hc;simp[aG.calm]at h1)
 |mapUpdate t p q r=>
  simp only[CC.op,ho]at hc;split at hc
  .rename_i a b c ha hb hc'
   (repeat' split at hc)<;>simp only[aP,reduceCtorEq]at hc
   subst hc;refine⟨a,⟨p,by simp[Op.operands],ha⟩,fun J m L hob=>⟨hob.1, ?_⟩⟩;obtain⟨l,kvs,hd,_,_⟩:=p0 hob.2.2.2.1;exact⟨l,by simp only[aG.wr,hd,xo],.inr (.inr hd)⟩
  .cases hc
 |lookup t p q ok=>
  cases ok with
  |true=>simp only[CC.op,ho]at hc;(repeat' split at hc)<;>simp only[aP,reduceCtorEq]at hc;subst hc;simp[aG.calm]at h1
  |false=>simp only[CC.op,ho]at hc;(repeat' split at hc)<;>simp only[aP,reduceCtorEq]at hc;subst hc;simp[aG.calm]at h1
 |makeFunc fn fst caps=>cases fn<;>simp only[CC.op,ho]at hc<;>(repeat' split at hc)<;>(try simp only[aP,reduceCtorEq]at hc)<;>first
  |(subst hc;simp[aG.calm]at h1)
  |exact hc.elim
  |(simp only[cS]at hc;obtain⟨_,_,rfl⟩:=hc;simp[aG.calm]at h1)
 |_=>
  simp only[CC.op,ho]at hc
  (try cases hc)<;>(repeat' split at hc)<;>(try simp only[aP,reduceCtorEq,cS]at hc)<;>first
    |(subst hc;simp[aG.calm]at h1;done)
    |(subst hc;simp[aG.cN]at h3;done)
    |(obtain⟨s,hs,rfl⟩:=hc;simp[aG.calm]at h1;done)
    |exact hc.elim
    |cases hc
structure JE (C:CC)(ops:Array Oper)(l:List GI)(bs:List Nat)(env:List bI)(nx:Nat)(VS:List bI)(M:Nat->List (Nat×bL))(x0:X)(listed:Array Bool)(a:Act)(x:X)(f:Nat->Option bL)(c:Nat):Prop where
 O0:oM C env (ops.toList.map (·.dst)) VS (fun p=>listed.getD p false=true) a x
 step:Step x0 x
 lC:eK C.ν x f
 size:listed.size=ops.size
 closed:∀j,listed.getD j false=true->∀p,(bs.getD j 0).testBit p=true->listed.getD p false=true
 β:∀l',nx<=l'->(∀p,listed.getD p false=true->l'≠nx+p)->x.β l'=none
 nc:∀(p:Nat) (g:GI),l[p]? =some g->g.i.calm=false->(listed.getD p false=true↔p<c)
 mem:∀l',x.β l'≠none->f l'=look (M (max c (l'+1-nx))) l'
 wrβ:∀(q:Nat) (g:GI),l[q]? =some g->g.i.calm=false->g.i.isApp=false->listed.getD q false=true->∀l'∈g.i.wr (Src.ev env (VS.take q)) (nx+q),x.β l'≠none
section
variable {ops:Array Oper} {l:List GI} {bs:List Nat} {env:List bI} {nx:Nat} {VS:List bI} {M:Nat->List (Nat×bL)} {x0:X} {listed:Array Bool} {a:Act} {x:X} {f:Nat->Option bL} {c:Nat}
def pZ (hs:listed.size=ops.size){p:Nat}(h:listed.getD p false=true):p<ops.size:=by
 grind
def JE.fin (h:JE C ops l bs env nx VS M x0 listed a x f c)(hsp:Spec C ops.toList l)(tr:Trace Y l env nx VS M)(hall:∀p,p<ops.size->listed.getD p false=true):
  oM C env (ops.toList.map (·.dst)) VS (· <ops.size) a x/\Step x0 x/\eK C.ν x (look (M l.length))/\ez ⟨nx+l.length,M l.length⟩ x:=by
 have hlen:l.length=ops.size:=by simpa using hsp.len
 have hβ:∀l',nx+l.length<=l'->x.β l'=none:=fun l' hl'=>h.β l' ah fun p hp=>by have:=pZ h.size hp;omega
 refine⟨h.O0.iff fun p=>⟨fun hp=>hall p hp,fun hp=>pZ h.size hp⟩,h.step,h.lC.less fun l'=>?_,hβ,fun l' hl'=>tr.fresh _ _ hl'⟩;by_cases hb:x.β l'=none
 .exact .inr (.inr hb)
 .left;rw[h.mem l' hb];have hlt:l'<nx+l.length:=by
   grind
  refine tr.same fun q g h1 h2 hg hw=>?_
  have hq:q<l.length:=(List.getElem?_eq_some_iff.1 hg).1;cases hc:g.i.calm with
  |true=>
   have:=j9 hc hw;omega
  |false=>
   have:=(h.nc q g hg hc).1 (hall q ah);omega
def JE.all (ho:Order ops.toList l bs)(hs:listed.size=ops.size)(hr:Region.ready .any ops listed=[]):∀p,p<ops.size->listed.getD p false=true:=by
 intro p;induction p using Nat.strongRecOn with
 |_ p ih=>
  intro hp;cases hd:listed.getD p false with
  |true=>rfl
  |false=>
   exfalso;have hm:p∈Region.ready .any ops listed:=by
    rw[mem_ready];refine⟨?_,ops[p],by simp[hp],fun e he hb=>?_⟩
    .grind
    .have:=ho.edge p ops[p] (by simp[hp]) e he hb;exact ih e.on this ah
   rw[hr]at hm;cases hm
def zi (ho:Order ops.toList l bs)(h:JE C ops l bs env nx VS M x0 listed a x f c){i:Nat}{o:Oper}(hi:ops[i]? =some o)(hni:listed.getD i false=false)
  (hed:∀e∈o.after,Region.binds .any e=true->listed.getD e.on false=true) {p:Nat} (hb:oK bs p i) (hne:p≠i):(p<i->listed.getD p false=true)/\(i<=p->¬listed.getD p false=true):=by
 unfold oK at hb;refine⟨fun hlt=>?_,fun hle hp=>?_⟩
 .rw[Nat.max_eq_left ah,Nat.min_eq_right ah]at hb;obtain⟨e,e1,e2,e3⟩:=ho.bef i o (by simpa using hi) p hb;rcases e3 with rfl|e3
  .exact hed e e1 e2
  .exact h.closed _ (hed e e1 e2) p e3
 .rw[Nat.max_eq_right ah,Nat.min_eq_left ah]at hb;have:=h.closed p hp i hb;rw[hni]at this;cases this
def Trace.disU (tr:Trace Y l env nx VS M){i n:Nat}{ag:Bool}{p:Src}{gd:Option (Nat×Bool)}(hi:l[i]? =some ⟨.ldU n ag p,gd⟩)(hf:flag (VS.take i) gd=true){l':Nat}(hl:l'∈dk (Src.ev env (VS.take i) p).d):
  ∀(j:Nat) (g:GI),i<j->l[j]? =some g->g.i.lh=true->(∀q g,i<q->q<j->l[q]? =some g->g.i.calm=true\/g.i.lh=true)->l'∉g.i.wr (Src.ev env (VS.take j)) (nx+j):=by
 intro j;induction j using Nat.strongRecOn with
 |_ j ih=>
  intro g hij hj hg hbt hw;obtain⟨k1,k2⟩:=tr.dE i _ hi hf;have hne:look (M i) l'≠none:=Bt (Y:=Y) (i:=.ldU n ag p) ⟨k1,k2⟩ rfl hl;have hlt:=tr.fresh i l' hne;have hc:look (M j) l'=look (M i) l':=tr.same fun q gq q1 q2 hq hqw=>by
   rw[Nat.min_eq_right ah]at q1;rw[Nat.max_eq_left ah]at q2;rcases dQ i q with h1|h1
   .rcases hbt q gq h1 q2 hq with h2|h2
    .have:=j9 h2 hqw;omega
    .exact ih q q2 gq h1 hq h2 (fun q' g' a b c=>hbt q' g' a ah c) hqw
   .obtain rfl:q=i:=ah;rw[hi]at hq;obtain rfl:=bd hq;cases hqw
  obtain⟨gi,gg⟩:=g;cases gi<;>simp only[aG.lh]at hg<;>try cases hg
  rename_i f r args sh;obtain⟨_,_,_,_,h4⟩:=(tr.rL hj).resolve_left (by simp[aG.calm]);cases hd:(Src.ev env (VS.take j) r).d<;>simp only[hd]at h4;rename_i l1 k1' i1 o1;simp only[aG.wr,hd,dk,bJ]at hw;subst hw;cases hdp:(Src.ev env (VS.take i) p).d<;>simp only[hdp]at k2<;>rw[hdp]at hl<;>simp only[dk,bJ,dI]at hl;subst hl;have e1:bh (M j) l'=bh (M i) l':=by simp only[bh,hc]
  rw[e1]at h4;obtain⟨_,_,_,h5,h6,_⟩:=h4
  match hb:bh (M i) l',h5,h6,k2.2 with
  |[d],_,h6,h7=>
   simp only[gB]at h6;simp[aR,h6]at h7
def Trace.disA (tr:Trace Y l env nx VS M){q:Nat}{g:GI}(hq:l[q]? =some g)(hg:g.i.isApp=true){l':Nat}(hw:l'∈g.i.wr (Src.ev env (VS.take q)) (nx+q))(hne:l'≠nx+q):∀k,look (M (q+1+k)) l'=none:=by
 have hc:g.i.calm=false:=by cases g with|mk i gd=>cases i<;>simp_all[aG.isApp,aG.calm]
 obtain⟨_,hob⟩:=(tr.rL hq).resolve_left (by simp[hc]);have hlt:l'<nx+q:=by
  rcases FM hob hw with e|e
  .exact absurd e hne
  .exact tr.fresh q l' e
 intro k;induction k with
 |zero=>
  rw[Nat.add_zero,tr.step q g hq];obtain⟨gi,gg⟩:=g;obtain⟨k,x,y,rfl⟩:∃k x y,gi=.app k x y:=by
   cases gi<;>first|exact⟨_,_,_,rfl⟩|(simp only[aG.isApp]at hg;cases hg)
  simp only[aG.wr,cM]at hw;have hw:=hw.resolve_left hne;simp only[aG.cr];cases hd:(Src.ev env (VS.take q) x).d<;>rw[hd]at hw<;>simp only[dk,bJ,dI]at hw;all_goals first
   |(subst hw;simp only;rw[cE,aj hne,fo,ay rfl])
   |(exfalso;simp only[aG.dE,hd]at hob;simp at hob)
 |succ k ih=>
  rw[show q+1+(k+1)=q+1+k+1 by omega];cases hg2:l[q+1+k]? with
  |none=>rw[tr.stop _ hg2];exact ih
  |some g2=>
   cases hx:look (M (q+1+k+1)) l' with
   |none=>rfl
   |some b=>
    rw[tr.step _ g2 hg2]at hx;have hco:g2.i.calm=true\/g2.i.dE Y (Src.ev env (VS.take (q+1+k))) (M (q+1+k)):=(tr.rL hg2).imp id (·.2);rcases pU hco (l:=l') (by rw[hx];simp)with e|e
    .exact absurd ih e
    .omega
def S1 {i:aG}{J:Src->bI}{L:Nat}(h:i.free=true\/i.lj=true):i.wr J L=[]:=by
 rcases h with h|h
 .exact P4 h
 .cases i<;>simp_all[aG.lj,aG.wr]
def Zi {i:aG}{J:Src->bI}{m:List (Nat×bL)}{L:Nat}(h:i.free=true\/i.lj=true):i.cr Y J m L=m:=by
 rcases h with h|h
 .exact Mq h
 .cases i<;>simp_all[aG.lj,aG.cr]
def SZ {i:aG}(h:i.lj=true):i.calm=true:=by cases i<;>simp_all[aG.lj,aG.calm]
def S0 {i:aG}(h:i.lj=true):i.free=false:=by cases i<;>simp_all[aG.lj,aG.free,aG.pure]
def U_mk {i:aG}(h:i.lj=true):i.ja=false:=by cases i<;>simp_all[aG.lj,aG.ja]
def Rc {i:aG}(h:i.lj=true):∃n ag p,i=.ldU n ag p:=by cases i<;>first|exact⟨_,_,_,rfl⟩|(simp only[aG.lj]at h;cases h)
def CH (hsp:Spec C ops.toList l)(ho:Order ops.toList l bs)(hnM:∀g∈l,g.i.cN=false)(hΓ:Ok C.P C.ν C.cr Y)(tr:Trace Y l env nx VS M){Q:Exit->Act->World->Prop}
  (hK:∀a' x',oM C env (ops.toList.map (·.dst)) VS (· <ops.size) a' x'->Step x0 x'->eK C.ν x' (look (M l.length))->ez ⟨nx+l.length,M l.length⟩ x'->Q .normal a' x'.w):
  ∀(fuel:Nat) (listed:Array Bool) (a:Act) (x:X) (f:Nat->Option bL) (c:Nat),JE C ops l bs env nx VS M x0 listed a x f c->L0 ops.size listed<=fuel->wpAny C.P .any ops Q fuel listed a x.w:=by
 intro fuel;have hlen:l.length=ops.size:=by simpa using hsp.len
 induction fuel with
 |zero=>
  intro listed a x f c h hc;have hall:∀p,p<ops.size->listed.getD p false=true:=by
   intro p hp;have h0:(List.range ops.size).filter (fun p=>!listed.getD p false)=[]:=jM (Nat.le_zero.1 hc);rw[List.filter_eq_nil_iff]at h0;simpa using h0 p (by simpa using hp)
  refine⟨?_, ?_⟩
  .rw[List.eq_nil_iff_forall_not_mem];intro j hj;obtain⟨h1,o,h2,_⟩:=mem_ready.1 hj;have hjl:j<ops.size:=(Array.getElem?_eq_some_iff.1 h2).1;have:=hall j hjl;have hjs:j<listed.size:=by rw[h.size];exact hjl
   simp only[Array.getD,hjs,dif_pos]at h1 this;rw[this]at h1;cases h1
  .obtain⟨q1,q2,q3,q4⟩:=h.fin hsp tr hall;exact hK a x q1 q2 q3 q4
 |succ fuel ih=>
  intro listed a x f c h hc;refine⟨fun hr=>?_,fun i hi=>?_⟩
  .obtain⟨q1,q2,q3,q4⟩:=h.fin hsp tr (JE.all ho h.size hr);exact hK a x q1 q2 q3 q4
  .obtain⟨h1,o,h2,hed⟩:=mem_ready.1 hi;have hil:i<ops.size:=(Array.getElem?_eq_some_iff.1 h2).1;have his:i<listed.size:=by rw[h.size];exact hil
   have hni:listed.getD i false=false:=by simp only[Array.getD,his,dif_pos]at h1⊢;exact h1
   have ho':ops.toList[i]? =some o:=by simpa using h2
   obtain⟨⟨ins,gd⟩,hg1,hg2,hg3⟩:=hsp.op i o ho';simp only at hg2 hg3;have hdst:(ops.toList.map (·.dst))[i]? =some o.dst:=by rw[List.getElem?_map,ho',Option.map_some]
   have hcm:ins.cN=false:=hnM _ (List.mem_of_getElem? hg1);have hreads:∀t p,t∈tmpsOf ops.toList o->(ops.toList.map (·.dst))[p]? =some (some t)->(p<i->listed.getD p false=true)/\(i<=p->¬listed.getD p false=true):=by
    intro t p ht hp;rw[List.getElem?_map,cS]at hp;obtain⟨op,hp1,hp2⟩:=hp;rcases ho.reads i p o op t ho' hp1 hp2 ht with rfl|hb
    .exact⟨fun h=>ah,fun _=>by rw[hni];simp⟩
    .by_cases hpi:p=i
     .subst hpi;exact⟨fun h=>ah,fun _=>by rw[hni];simp⟩
     .exact zi ho h h2 hni hed hb hpi
   have hρ:pM C ((ops.toList.map (·.dst)).take i) (Src.ev env (VS.take i)) a.eval x o.op.operands.toList:=
    h.O0.rho fun t p ht hp=>hreads t p (List.mem_append_left _ (List.mem_filterMap.2 ⟨.tmp t,ht,rfl⟩)) hp
   have hcst:∀d,Src.ev env (VS.take i) (.c d)=⟨true,d⟩:=fun _=>rfl
   have hgk:=tr.ET i _ hg1;obtain⟨hent1,hent2⟩:=tr.ent i _ hg1;have hMs:=tr.step i _ hg1;simp only at hgk hent1 hent2 hMs;have hwant:Region.wanted o (yielded ops a.tmps)=flag (VS.take i) gd:=by
    refine iF (g:=⟨ins,gd⟩) h.O0 hg3 (fun j w hg hji=>?_) (Mu hgk)

    simp only[hg,CC.guard]at hg3;split at hg3
    .rename_i t hj;rw[List.getElem?_take,ay hji]at hj;refine(hreads t j (List.mem_append_right _ ?_) hj).1 hji;rw[List.getElem?_map,cS]at hj;obtain⟨oj,hj1,hj2⟩:=hj;simp[hg,hj1,hj2]
    .cases hg3
   have hput:∀(v:Value) (x':X),Le x x'->((VS.getD i .un).ok=true->RD C.ν x' v (VS.getD i .un).d)->((VS.getD i .un).ok=false->v=undef)->
     oM C env (ops.toList.map (·.dst)) VS (fun p=>(listed.setIfInBounds i true).getD p false=true) (a.put o.dst v) x':=by
    intro v x' hle e1 e2;refine h.O0.put (i:=i) hle hdst (fun t ht=>⟨(hsp.dst i o t ho' ht).1,fun p hp e'=>hp (hsp.distinct (by rw[hdst,ht]) e')⟩) e1 e2 (fun p=>?_);rw[dZ his];by_cases e:p=i
    .simp[e]
    .simp[e]
   have hclosed:∀j,(listed.setIfInBounds i true).getD j false=true->∀p,(bs.getD j 0).testBit p=true->(listed.setIfInBounds i true).getD p false=true:=by
    intro j hj p hp;rw[dZ his]at hj⊢;by_cases e:p=i
    .rw[ay e]
    .rw[aj e];by_cases ej:j=i
     .subst ej;obtain⟨e',e1,e2,e3⟩:=ho.bef j o ho' p hp;rcases e3 with rfl|e3
      .exact hed e' e1 e2
      .exact h.closed _ (hed e' e1 e2) p e3
     .rw[aj ej]at hj;exact h.closed j hj p hp
   have hcnt:L0 ops.size (listed.setIfInBounds i true)<=fuel:=by have:=AT h.size hil hni;omega
   have hsz:(listed.setIfInBounds i true).size=ops.size:=by simp[h.size]
   have hL:x.β (nx+i)=none:=h.β _ ah fun p hp e=>by
    have:p=i:=ah;subst this;rw[hni]at hp;cases hp
   have hset:∀p,p≠i->((listed.setIfInBounds i true).getD p false=true↔listed.getD p false=true):=fun p hp=>by rw[dZ his,aj hp]
   unfold wpOp;simp only[h2,hwant];cases hfg:flag (VS.take i) gd with
   |false=>
    rw[aj bg];have hcalm:ins.calm=true:=by
     cases gd with
     |none=>simp[flag]at hfg
     |some jw=>obtain⟨j,w⟩:=jw;exact hgk.1
    refine ih _ _ x f c ⟨hput undef x (Le.refl x) (fun e=>by rw[hent1,hfg]at e;cases e) (fun _=>rfl),h.step,h.lC,hsz,hclosed,fun l' hl' hp=>h.β l' hl' fun p hp'=>?_,fun p g hp hpc=>?_,h.mem,fun p g hp hpc hpa hpl l' hl'=>?_⟩ hcnt
    .refine hp p ?_;rw[dZ his];split
     .rfl
     .exact hp'
    .by_cases e:p=i
     .subst e;rw[hg1]at hp;obtain rfl:=bd hp;rw[hcalm]at hpc;cases hpc
     .rw[hset p e];exact h.nc p g hp hpc
    .by_cases e:p=i
     .subst e;rw[hg1]at hp;obtain rfl:=bd hp;rw[hcalm]at hpc;cases hpc
     .exact h.wrβ p g hp hpc hpa ((hset p e).1 hpl) l' hl'
   |true=>
    rw[ay rfl];left;have hob:=tr.dE i _ hg1 hfg;simp only at hob

    have hf1:eK C.ν x (fun l'=>if x.β l'=none then look (M i) l' else f l'):=h.lC.less fun l'=>by
     by_cases hb:x.β l'=none
     .exact .inr (.inr hb)
     .left;simp[hb]

    have hnear0:ins.free=false->∀q g,l[q]? =some g->g.i.calm=false->(ins.ja=false\/(g.i.isApp=true/\i<q))->q≠i->(q<i↔q<c)\/ExU l g.i ins q i:=by
     intro hpu q g hq hqc hmk hqi;rcases ho.effs q i g ⟨ins,gd⟩ hq hg1 hqc hpu hmk with e|hb|hx
     .exact absurd e.symm hqi
     rotate_left
     .exact .inr hx
     .left;have hb':oK bs q i:=by unfold oK at hb⊢;rwa [Nat.max_comm,Nat.min_comm]
      obtain⟨b1,b2⟩:=zi ho h h2 hni hed hb' hqi;have hnc:=h.nc q g hq hqc;constructor
      .intro hlt;exact hnc.1 (b1 hlt)
      .intro hlt;rcases dQ q i with h3|h3
       .exact h3
       .exact absurd (hnc.2 hlt) (b2 h3)
    have hnear:ins.lj=false->ins.free=false->∀q g,l[q]? =some g->g.i.calm=false->(ins.ja=false\/(g.i.isApp=true/\i<q))->q≠i->(q<i↔q<c):=by
     intro hu hpu q g hq hqc hmk hqi;exact(hnear0 hpu q g hq hqc hmk hqi).resolve_right fun hx=>by rw[hx.1]at hu;cases hu
    have hag:yQ (fun l'=>if x.β l'=none then look (M i) l' else f l') (M i) (ins.kY (Src.ev env (VS.take i))):=by
     have key:ins.lj=false->ins.free=false->ins.ja=false->∀l',look (M i) l'≠none->(if x.β l'=none then look (M i) l' else f l')=look (M i) l':=by
      intro hu hpu hmk l' hl';by_cases hb:x.β l'=none
      .rw[ay hb]
      .rw[aj hb,h.mem l' hb];have hlt:=tr.fresh i l' hl';refine tr.same fun q g q1 q2 hq hw=>?_
       by_cases hqi:q=i
       .subst hqi;cases hqc:g.i.calm with
        |true=>have:=j9 hqc hw;omega
        |false=>
         have h5:=h.nc q g hq hqc;rw[hni]at h5;have:¬q<c:=fun e=>by cases h5.2 e
         omega
       .cases hqc:g.i.calm with
        |true=>have:=j9 hqc hw;omega
        |false=>have:=hnear hu hpu q g hq hqc (.inl hmk) hqi;omega
     have keyU:ins.lj=true->∀ls,ins.kY (Src.ev env (VS.take i))=some ls->∀l'∈ls,(if x.β l'=none then look (M i) l' else f l')=look (M i) l':=by
      intro hu ls hls l' hl';have hl'':=Bt hob hls hl';by_cases hb:x.β l'=none
      .rw[ay hb]
      .rw[aj hb,h.mem l' hb];have hlt:=tr.fresh i l' hl'';have hpu:=S0 hu;have hmk:=U_mk hu;refine tr.same fun q g q1 q2 hq hw=>?_
       by_cases hqi:q=i
       .subst hqi;rw[hg1]at hq;obtain rfl:=bd hq;rw[S1 (.inr hu)]at hw;cases hw
       .cases hqc:g.i.calm with
        |true=>have:=j9 hqc hw;omega
        |false=>
         rcases hnear0 hpu q g hq hqc (.inl hmk) hqi with h5|⟨_,⟨h5,h6⟩|⟨h5,h6,h7⟩⟩
         .omega
         .have:=tr.disA hq h5 hw ah (i-(q+1));rw[show q+1+(i-(q+1))=i by omega]at this;exact hl'' this
         .obtain⟨_,_,_,rfl⟩:=Rc hu;simp only[aG.kY,aP]at hls;subst hls;exact tr.disU hg1 hfg hl' q g h6 hq h5 h7 hw
     cases hu:ins.lj with
     |true=>
      cases htc:ins.kY (Src.ev env (VS.take i))with
      |none=>obtain⟨_,_,_,rfl⟩:=Rc hu;cases htc
      |some ls=>exact keyU hu ls htc
     |false=>
     cases hpu:ins.free with
     |true=>rw[Mr hpu hob];intro l' hl';cases hl'
     |false=>
      cases hmk:ins.ja with
      |true=>rw[J7 hmk];intro l' hl';cases hl'
      |false=>
       cases htc:ins.kY (Src.ev env (VS.take i))with
       |none=>exact key hu hpu hmk
       |some ls=>exact fun l' hl'=>key hu hpu hmk l' (Bt hob htc hl')
    refine(Bw (L:=nx+i) hg2 hcm hΓ hρ hcst hob hf1 hag hL (by
     show(if x.β (nx+i)=none then look (M i) (nx+i)else f (nx+i))=none;rw[ay hL];cases hx:look (M i) (nx+i)with
     |none=>rfl
     |some b=>have:=tr.fresh i (nx+i) (by rw[hx];simp);omega) (fun _=>rfl)).wp (fun v x' hG=>?_)
    obtain⟨g1,g2,g3,g4⟩:=hG;rw[<-hMs]at g3;refine ih _ _ x' _ (if ins.free=true\/ins.ja=true\/ins.lj=true then c else i+1) ⟨hput v x' g1.le (fun _=>by rw[<-hent2 hfg];exact g2) (fun e=>by rw[hent1,hfg]at e;cases e),h.step.trans g1,g3,hsz,hclosed,fun l' hl' hp=>?_,fun p g hp hpc=>?_,fun l' hl'=>?_,fun p g hp hpc hpa hpl l' hl'=>?_⟩ hcnt
    .have hne:l'≠nx+i:=hp i (by rw[dZ his,ay rfl]);rw[g4 l' hne];refine h.β l' hl' fun p hp'=>hp p ?_
     rw[dZ his];split
     .rfl
     .exact hp'
    .by_cases e:p=i
     .subst e;rw[hg1]at hp;obtain rfl:=bd hp;have hpf:¬(ins.free=true\/ins.ja=true\/ins.lj=true):=by
       rintro(hpu|hpu|hpu)
       .have:=JT hpu;simp only at hpc;rw[this]at hpc;cases hpc
       .have:=xq hpu;simp only at hpc;rw[this]at hpc;cases hpc
       .have:=SZ hpu;simp only at hpc;rw[this]at hpc;cases hpc
      rw[aj hpf,dZ his,ay rfl];simp
     .rw[hset p e];by_cases hpu:ins.free=true\/ins.ja=true\/ins.lj=true
      .rw[ay hpu];exact h.nc p g hp hpc
      .rw[aj hpu];have hf0:ins.free=false:=by cases hh:ins.free with|false=>rfl|true=>exact absurd (.inl hh) hpu
       have hm0:ins.ja=false:=by cases hh:ins.ja with|false=>rfl|true=>exact absurd (.inr (.inl hh)) hpu
       have hu0:ins.lj=false:=by cases hh:ins.lj with|false=>rfl|true=>exact absurd (.inr (.inr hh)) hpu
       have h3:=hnear hu0 hf0 p g hp hpc (.inl hm0) e;have h4:=h.nc p g hp hpc;constructor
       .intro h5;have:=h4.1 h5;omega
       .intro h5;exact h4.2 (h3.1 ah)
    .by_cases hlL:l'=nx+i
     ·
      subst hlL;have hMi:look (M i) (nx+i)=none:=by
       cases hx:look (M i) (nx+i)with
       |none=>rfl
       |some b=>have:=tr.fresh i (nx+i) (by rw[hx];simp);omega
      by_cases hst:ins.free=true\/ins.lj=true
      .rw[ay (hst.elim .inl fun h=>.inr (.inr h)),S1 hst];rw[show ij (fun l'=>if x.β l'=none then look (M i) l' else f l') [] (M (i+1))=(fun l'=>if x.β l'=none then look (M i) l' else f l')from pO];simp only[ay hL];have hM1:M (i+1)=M i:=by rw[hMs];exact Zi hst
       have:∀n,look (M (i+1+n)) (nx+i)=none:=by
        intro n;induction n with
        |zero=>rw[Nat.add_zero,hM1];exact hMi
        |succ n ihn=>
         rw[<-Nat.add_assoc];cases hg:l[i+1+n]? with
         |none=>rw[tr.stop _ hg];exact ihn
         |some g=>
          cases hx:look (M (i+1+n+1)) (nx+i)with
          |none=>rfl
          |some b=>
           rw[tr.step _ g hg]at hx;have hco:g.i.calm=true\/g.i.dE Y (Src.ev env (VS.take (i+1+n))) (M (i+1+n)):=(tr.rL hg).imp id (·.2);rcases pU hco (l:=nx+i) (by rw[hx];simp)with e|e
           .exact absurd ihn e
           .omega
       have:=this (max c (nx+i+1-nx) -(i+1));rw[show i+1+(max c (nx+i+1-nx) -(i+1))=max c (nx+i+1-nx)by omega]at this;rw[this];exact hMi
      .have hpu:ins.free=false:=by cases hh:ins.free with|false=>rfl|true=>exact absurd (.inl hh) hst
       have hu:ins.lj=false:=by cases hh:ins.lj with|false=>rfl|true=>exact absurd (.inr hh) hst
       have e0:ij (fun l'=>if x.β l'=none then look (M i) l' else f l') (ins.wr (Src.ev env (VS.take i)) (nx+i)) (M (i+1)) (nx+i)=look (M (i+1)) (nx+i):=by
        simp only[ij];split
        .rfl
        .rename_i hw;rw[hMs,sU hw]
       rw[e0];cases hmk:ins.ja with
       |false=>rw[aj (by simp[hpu,hu]),show max (i+1) (nx+i+1-nx)=i+1 by omega]
       |true=>
        rw[ay (.inr (.inl rfl))];refine tr.same fun q g q1 q2 hq hqw=>?_
        cases hqc:g.i.calm with
        |true=>have:=j9 hqc hqw;omega
        |false=>
         cases hqa:g.i.isApp with
         |true=>have:=hnear hu hpu q g hq hqc (.inr ⟨hqa,ah⟩) ah;omega
         |false=>exact h.wrβ q g hq hqc hqa ((h.nc q g hq hqc).2 ah) _ hqw hL
     .rw[g4 l' hlL]at hl';by_cases hst:ins.free=true\/ins.lj=true
      .rw[ay (hst.elim .inl fun h=>.inr (.inr h)),S1 hst];rw[show ij (fun l'=>if x.β l'=none then look (M i) l' else f l') [] (M (i+1))=(fun l'=>if x.β l'=none then look (M i) l' else f l')from pO];simp only[aj hl'];exact h.mem l' hl'
      .have hpu:ins.free=false:=by cases hh:ins.free with|false=>rfl|true=>exact absurd (.inl hh) hst
       have hu:ins.lj=false:=by cases hh:ins.lj with|false=>rfl|true=>exact absurd (.inr hh) hst
       cases hmk:ins.ja with
       |true=>
        rw[ay (.inr (.inl rfl))];have hw:l'∉ins.wr (Src.ev env (VS.take i)) (nx+i):=fun hw=>hlL (j9 (xq hmk) hw)
        simp only[ij,aj hw,aj hl'];exact h.mem l' hl'
       |false=>
       rw[aj (by simp[hpu,hu])];simp only[ij];split
       .rename_i hw;rcases FM hob hw with e|e
        .exact absurd e hlL
        .have:=tr.fresh i l' e;rw[show max (i+1) (l'+1-nx)=i+1 by omega]
       .rename_i hw;rw[h.mem l' hl'];refine tr.same fun q g q1 q2 hq hqw=>?_
        by_cases hqi:q=i
        .subst hqi;rw[hg1]at hq;obtain rfl:=bd hq;exact hw hqw
        .cases hqc:g.i.calm with
         |true=>have:=j9 hqc hqw;omega
         |false=>have:=hnear hu hpu q g hq hqc (.inl hmk) hqi;omega
    .by_cases e:p=i
     .subst e;rw[hg1]at hp;obtain rfl:=bd hp;rcases hg2 with hg2|⟨n',ag',s',rfl,_⟩|⟨k',y',rfl,_⟩|⟨k',z',n',ps',rfl,_⟩|⟨n',ag',s',rfl,_⟩
      .obtain⟨s,⟨q,hq1,hq2⟩,hs3⟩:=UW (Y:=Y) hg2 hpc hpa hcm;obtain⟨hok,l1,hwr,hd⟩:=hs3 _ _ (nx+p) hob;simp only at hl';rw[hwr]at hl';obtain rfl:=bJ.1 hl';have hrd:=hρ q hq1 s hq2 hok;generalize a.eval q=vq at hrd;rcases hd with⟨k1,i1,o1,hd⟩|hd|hd
       .rw[hd]at hrd;cases hrd with
        |ptr _ _ _ _ b base tot at_ hβ hat=>rw[g1.β _ _ hβ];simp
       .rw[hd]at hrd;cases hrd with
        |it _ b base tot hβ=>rw[g1.β _ _ hβ];simp
       .rw[hd]at hrd;obtain⟨b,base,tot,_,hβ⟩:=hrd.Bl hΓ.small;rw[g1.β _ _ hβ];simp
      .cases hpc
      .cases hpc
      .cases hpc
      .cases hpc
     .have h7:=h.wrβ p g hp hpc hpa ((hset p e).1 hpl) l' hl';cases hb:x.β l' with
      |none=>exact absurd hb h7
      |some y=>rw[g1.β _ _ hb];simp
end
section
variable {ops:Array Oper} {l:List GI} {bs:List Nat}
def xj (P:Program)(ops:Array Oper)(n:Nat)(Q:Exit->Act->World->Prop):Exit->Act->World->Prop:=fun e a w=>match e with
 | .normal=>wpOp P ops Q n (fun a w=>Q .normal a w) a w
 |e=>Q e a w
def OJ {P:Program}{n i:Nat}(hsz:ops.size=n+1)(hi:i<n)(hg:∀o,ops[i]? =some o->∀j w,o.guard=some (j,w)->j<n){Q:Exit->Act->World->Prop}{K:Act->World->Prop}{a:Act}{w:World}
  (h:wpOp P ops.pop (xj P ops n Q) i K a w):wpOp P ops Q i K a w:=by
 have hp:∀j,j<n->ops.pop[j]? =ops[j]? :=fun j hj=>by rw[Array.getElem?_pop,ay ah]
 unfold wpOp at h⊢;rw[hp i hi]at h;cases ho:ops[i]? with
 |none=>rw[ho]at h;exact h
 |some o=>
  rw[ho]at h;simp only at h⊢;have hw:Region.wanted o (yielded ops.pop a.tmps)=Region.wanted o (yielded ops a.tmps):=by
   unfold Region.wanted;cases hgd:o.guard with
   |none=>rfl
   |some jw=>obtain⟨j,b⟩:=jw;simp only[yielded,hp j (hg o ho j b hgd)]
  rw[hw]at h;split
  .rename_i hw2;rw[ay hw2]at h;refine h.imp (fun h=>?_) (fun h=>⟨h.1,h.2⟩);unfold Oper.wp at h⊢;generalize (execOp a.eval o).run P w=r at h⊢;cases r with
   |ok nx w'=>cases nx<;>exact h
   |halt x w'=>cases x<;>exact h
  .rename_i hw2;rw[aj hw2]at h;exact h
def LM {P:Program}{n:Nat}(hsz:ops.size=n+1)(ho:Order ops.toList l bs)(hfull:∀p,p<n->(bs.getD n 0).testBit p=true)(hg:∀(i:Nat)(o:Oper),ops[i]? =some o->∀j w,o.guard=some (j,w)->j<i){Q:Exit->Act->World->Prop}:
  ∀(fuel:Nat) (listed:Array Bool) (a:Act) (w:World),listed.size=n+1->listed.getD n false=false->(∀j,listed.getD j false=true->∀p,(bs.getD j 0).testBit p=true->listed.getD p false=true)->
   wpAny P .any ops.pop (xj P ops n Q) fuel listed.pop a w->wpAny P .any ops Q (fuel+1) listed a w:=by
 have hp:∀j,j<n->ops.pop[j]? =ops[j]? :=fun j hj=>by rw[Array.getElem?_pop,ay ah]
 have hlp:∀(listed:Array Bool),listed.size=n+1->∀j d,j<n->listed.pop.getD j d=listed.getD j d:=fun listed hl j d hj=>by
  simp only[Array.getD_eq_getD_getElem?,Array.getElem?_pop,ay (show j<listed.size-1 by omega)]

 have hrd:∀(listed:Array Bool),listed.size=n+1->∀i,i<n->(i∈Region.ready .any ops listed↔i∈Region.ready .any ops.pop listed.pop):=by
  intro listed hl i hi;rw[mem_ready,mem_ready,hp i hi,hlp listed hl i true hi];refine and_congr_right fun _=>exists_congr fun o=>and_congr_right fun ho'=>forall_congr' fun e=>imp_congr_right fun he=>imp_congr_right fun hb=>?_
  have:=ho.edge i o (by simpa using ho') e he hb;rw[hlp listed hl e.on false ah]
 have hlast:∀(listed:Array Bool),listed.size=n+1->(∀j,listed.getD j false=true->∀p,(bs.getD j 0).testBit p=true->listed.getD p false=true)->n∈Region.ready .any ops listed->∀p,p<n->listed.getD p false=true:=by
  intro listed hl hcl hn p hpn;obtain⟨_,o,ho',hed⟩:=mem_ready.1 hn;obtain⟨e,e1,e2,e3⟩:=ho.bef n o (by simpa using ho') p (hfull p hpn);rcases e3 with rfl|e3
  .exact hed e e1 e2
  .exact hcl _ (hed e e1 e2) p e3
 have hdone:∀(fuel:Nat) (listed:Array Bool) (a:Act) (w:World),listed.size=n+1->(∀p,p<n+1->listed.getD p false=true)->Q .normal a w->wpAny P .any ops Q fuel listed a w:=by
  intro fuel listed a w hl hall hq;have hr:Region.ready .any ops listed=[]:=by
   rw[List.eq_nil_iff_forall_not_mem];intro j hj;obtain⟨h1,o,h2,_⟩:=mem_ready.1 hj;have hjl:j<n+1:=by have:=(Array.getElem?_eq_some_iff.1 h2).1;omega
   have h3:=hall j hjl;have hjs:j<listed.size:=ah;simp only[Array.getD,hjs,dif_pos]at h1 h3;rw[h3]at h1;cases h1
  cases fuel with
  |zero=>exact⟨hr,hq⟩
  |succ fuel=>exact⟨fun _=>hq,fun i hi=>by rw[hr]at hi;cases hi⟩
 have hrest:∀(fuel:Nat) (listed:Array Bool) (a:Act) (w:World),listed.size=n+1->listed.getD n false=false->(∀j,listed.getD j false=true->∀p,(bs.getD j 0).testBit p=true->listed.getD p false=true)->n∈Region.ready .any ops listed->
   xj P ops n Q .normal a w->wpOp P ops Q n (wpAny P .any ops Q fuel (listed.setIfInBounds n true)) a w:=by
  intro fuel listed a w hl hn hcl hr hq;refine wpOp_mono (fun a w hq=>hdone fuel _ a w (by simp[hl]) (fun p hp'=>?_) hq) hq;rw[dZ ah];split
  .rfl
  .exact hlast listed hl hcl hr p ah

 have hend:∀(listed:Array Bool),listed.size=n+1->listed.getD n false=false->Region.ready .any ops.pop listed.pop=[]->n∈Region.ready .any ops listed:=by
  intro listed hl hn hr;have hall:∀p,p<n->listed.getD p false=true:=by
   intro p;induction p using Nat.strongRecOn with
   |_ p ih=>
    intro hpn;cases hd:listed.getD p false with
    |true=>rfl
    |false=>
     exfalso;have hm:p∈Region.ready .any ops listed:=by
      rw[mem_ready];refine⟨?_,ops[p],by simp[show p<ops.size by omega],fun e he hb=>?_⟩
      .have:p<listed.size:=ah;simp only[Array.getD,this,dif_pos]at hd⊢;exact hd
      .have:=ho.edge p ops[p] (by simp[show p<ops.size by omega]) e he hb;exact ih e.on this ah
     rw[hrd listed hl p hpn,hr]at hm;cases hm
  rw[mem_ready];refine⟨?_,ops[n],by simp[hsz],fun e he hb=>hall _ (ho.edge n ops[n] (by simp[hsz]) e he hb)⟩;have:n<listed.size:=ah;simp only[Array.getD,this,dif_pos]at hn⊢;exact hn
 intro fuel;induction fuel with
 |zero=>
  intro listed a w hl hn hcl h;obtain⟨h1,h2⟩:=h;refine⟨fun hr=>?_,fun i hi=>?_⟩
  .have:=hend listed hl hn h1;rw[hr]at this;cases this
  .have hin:i=n:=by
    rcases dQ i n with h3|h3
    .rw[hrd listed hl i h3,h1]at hi;cases hi
    .obtain⟨_,o,ho',_⟩:=mem_ready.1 hi;have:=(Array.getElem?_eq_some_iff.1 ho').1;omega
   subst hin;exact hrest 0 listed a w hl hn hcl hi h2
 |succ fuel ih=>
  intro listed a w hl hn hcl h;obtain⟨h1,h2⟩:=h;refine⟨fun hr=>?_,fun i hi=>?_⟩
  .have hr':Region.ready .any ops.pop listed.pop=[]:=by
    rw[List.eq_nil_iff_forall_not_mem];intro j hj;have hjn:j<n:=by
     obtain⟨_,o,ho',_⟩:=mem_ready.1 hj;have:=(Array.getElem?_eq_some_iff.1 ho').1;simp only[Array.size_pop]at this;omega
    rw[<-hrd listed hl j hjn,hr]at hj;cases hj
   have:=hend listed hl hn hr';rw[hr]at this;cases this
  .rcases dQ i n with h3|h3
   .have hi':=(hrd listed hl i h3).1 hi;have h4:=h2 i hi';obtain⟨_,o,ho',hed⟩:=mem_ready.1 hi;refine OJ hsz h3 (fun o' ho2 j b hj=>by have:=hg i o' ho2 j b hj;omega) (wpOp_mono (fun a w hh=>ih (listed.setIfInBounds i true) a w (by simp[hl]) ?_ ?_ ?_) h4)
    .rw[dZ ah,aj ah];exact hn
    .intro j hj p hp';rw[dZ ah]at hj⊢;by_cases e:p=i
     .rw[ay e]
     .rw[aj e];by_cases ej:j=i
      .subst ej;obtain⟨e',e1,e2,e3⟩:=ho.bef j o (by simpa using ho') p hp';rcases e3 with rfl|e3
       .exact hed e' e1 e2
       .exact hcl _ (hed e' e1 e2) p e3
      .rw[aj ej]at hj;exact hcl j hj p hp'
    .have:(listed.setIfInBounds i true).pop=listed.pop.setIfInBounds i true:=by
      apply Array.ext
      .simp
      .intro q h5 h6;simp only[Array.size_pop,Array.size_setIfInBounds]at h5;rw[Array.getElem_pop,Array.getElem_setIfInBounds,Array.getElem_setIfInBounds,Array.getElem_pop]
       (first|exact(by simpa using h5)|omega)
     rw[this];exact hh
   .have hin:i=n:=by
     obtain⟨_,o,ho',_⟩:=mem_ready.1 hi;have:=(Array.getElem?_eq_some_iff.1 ho').1;omega
    subst hin;have hr':Region.ready .any ops.pop listed.pop=[]:=by
     rw[List.eq_nil_iff_forall_not_mem];intro j hj;obtain⟨hj1,o,ho',_⟩:=mem_ready.1 hj;have hjn:j<i:=by
      have:=(Array.getElem?_eq_some_iff.1 ho').1;simp only[Array.size_pop]at this;omega
     rw[hlp listed hl j true hjn]at hj1;have:=hlast listed hl hcl hi j hjn;have hjs:j<listed.size:=ah;simp only[Array.getD,hjs,dif_pos]at hj1 this;rw[this]at hj1;cases hj1
    exact hrest _ listed a w hl hn hcl hi (h1 hr')
def K7 {P:Program}{n i:Nat}(hsz:ops.size=n+1)(hi:i<n)(hg:∀o,ops[i]? =some o->∀j w,o.guard=some (j,w)->j<n){Q:Exit->Act->World->Prop}{K:Act->World->Prop}{a:Act}{w:World}
  (h:wpOp P ops Q i K a w):wpOp P ops.pop (xj P ops n Q) i K a w:=by
 have hp:∀j,j<n->ops.pop[j]? =ops[j]? :=fun j hj=>by rw[Array.getElem?_pop,ay ah]
 unfold wpOp at h⊢;rw[hp i hi];cases ho:ops[i]? with
 |none=>rw[ho]at h;exact h
 |some o=>
  rw[ho]at h;simp only at h⊢;have hw:Region.wanted o (yielded ops.pop a.tmps)=Region.wanted o (yielded ops a.tmps):=by
   unfold Region.wanted;cases hgd:o.guard with
   |none=>rfl
   |some jw=>obtain⟨j,b⟩:=jw;simp only[yielded,hp j (hg o ho j b hgd)]
  rw[hw];split
  .rename_i hw2;rw[ay hw2]at h;refine h.imp (fun h=>?_) (fun h=>⟨h.1,h.2⟩);unfold Oper.wp at h⊢;generalize (execOp a.eval o).run P w=r at h⊢;cases r with
   |ok nx w'=>cases nx<;>exact h
   |halt x w'=>cases x<;>exact h
  .rename_i hw2;rw[aj hw2]at h;exact h
def AA {P:Program}{n:Nat}(hsz:ops.size=n+1)(hg:∀(i:Nat)(o:Oper),ops[i]? =some o->∀j w,o.guard=some (j,w)->j<i){Q:Exit->Act->World->Prop}:
  ∀(t k:Nat) (a:Act) (w:World),k+t=n->wpOps P ops Q (List.range' k (t+1)) a w->wpOps P ops.pop (xj P ops n Q) (List.range' k t) a w
 |0,k,a,w,hk,h=>by
  obtain rfl:k=n:=ah;rw[List.range'_succ,wpOps_cons]at h;exact h
 |t+1,k,a,w,hk,h=>by
  rw[List.range'_succ,wpOps_cons]at h⊢;exact K7 hsz ah (fun o ho j b hj=>by have:=hg k o ho j b hj;omega) (wpOp_mono (fun a w h=>AA hsz hg t (k+1) a w ah h) h)
def Az (N:Act->World->Prop)(Q:Exit->Act->World->Prop):Exit->Act->World->Prop:=fun e a w=>match e with
 | .normal=>N a w
 |e=>Q e a w
def FA (P:Program)(ops:Array Oper)(n t:Nat)(Q:Exit->Act->World->Prop):Exit->Act->World->Prop:=Az (wpOps P ops Q (List.range' n t)) Q
def Q0 {P:Program}{i:Nat}{N N':Act->World->Prop}{Q:Exit->Act->World->Prop}{K:Act->World->Prop}{a:Act}{w:World}(h:wpOp P ops (Az N Q) i K a w):wpOp P ops (Az N' Q) i K a w:=by
 unfold wpOp at h⊢;split at h
 .exact h
 .rename_i o ho;split at h
  .rename_i hw;rw[ay hw];refine h.imp (fun h=>?_) (fun h=>⟨h.1,h.2⟩);unfold Oper.wp at h⊢;generalize (execOp a.eval o).run P w=r at h⊢;cases r with
   |ok nx w'=>cases nx<;>exact h
   |halt x w'=>cases x<;>exact h
  .rename_i hw;rw[aj hw];exact h
def EG {P:Program}{N N':Act->World->Prop}{Q:Exit->Act->World->Prop}(hn:∀a w,N a w->N' a w):
  ∀(fuel:Nat) (listed:Array Bool) (a:Act) (w:World),wpAny P .any ops (Az N Q) fuel listed a w->wpAny P .any ops (Az N' Q) fuel listed a w
 |0,_,_,_,h=>⟨h.1,hn _ _ h.2⟩
 |fuel+1,_,_,_,h=>⟨fun hr=>hn _ _ (h.1 hr),fun i hi=>Q0 (wpOp_mono (fun _ _ h=>EG hn fuel _ _ _ h) (h.2 i hi))⟩
def zf {P:Program}:∀(t:Nat){ops:Array Oper}{l:List GI}{n:Nat}{Q:Exit->Act->World->Prop},ops.size=n+t->l.length=n+t->Order ops.toList l bs->(∀q,q<t->∀p,p<n+q->(bs.getD (n+q) 0).testBit p=true)->
  (∀(i:Nat) (o:Oper),ops[i]? =some o->∀j w,o.guard=some (j,w)->j<i)->∀(a:Act) (w:World),wpAny P .any (ops.extract 0 n) (FA P ops n t Q) n (Array.replicate n false) a w->wpAny P .any ops Q (n+t) (Array.replicate (n+t) false) a w
 |0,ops,l,n,Q,hsz,_,_,_,_,a,w,h=>by
  rw[show ops.extract 0 n=ops by rw[show n=ops.size by omega];simp]at h;rw[show FA P ops n 0 Q=Q by funext e a w;cases e<;>rfl]at h;exact h
 |t+1,ops,l,n,Q,hsz,hll,ho,hfull,hg,a,w,h=>by
  obtain⟨o,ho1⟩:∃o,ops[n+t]? =some o:=⟨ops[n+t],by simp[show n+t<ops.size by omega]⟩
  have hops:ops.toList=ops.pop.toList++[o]:=by
   apply List.ext_getElem?;intro q;rw[Array.toList_pop,List.dropLast_eq_take];rcases Nat.lt_trichotomy q (n+t)with h1|h1|h1
   .rw[List.getElem?_append_left dH,List.getElem?_take,ay dH]
   .subst h1;rw[List.getElem?_append_right dH];simp only[pH,Array.length_toList];rw[show n+t-min (ops.size-1) ops.size=0 by omega];simpa using ho1
   .rw[List.getElem?_eq_none dH,List.getElem?_eq_none dH]
  obtain⟨l',g,rfl⟩:∃l' g,l=l'++[g]:=by
   rcases List.eq_nil_or_concat l with rfl|⟨l',g,rfl⟩
   .simp at hll
   .exact⟨l',g,bg⟩
  have ho':Order ops.pop.toList l' bs:=Order.pre (os:=[o]) (ls:=[g]) (by rw[<-hops];exact ho);have hgp:∀(i:Nat) (o:Oper),ops.pop[i]? =some o->∀j w,o.guard=some (j,w)->j<i:=fun i o hi=>by
   rw[Array.getElem?_pop]at hi;split at hi
   .exact hg i o hi
   .cases hi
  have hno:∀(k p:Nat),¬(Array.replicate k false).getD p false=true:=fun k p=>by
   simp[Array.getElem?_replicate];split<;>simp
  refine LM (n:=n+t) hsz ho (hfull t ah) hg (n+t) _ a w dH (by simp[Array.getElem?_replicate]) (fun j hj=>absurd hj (hno _ j)) ?_;rw[show(Array.replicate (n+(t+1)) false).pop=Array.replicate (n+t) false by
   apply Array.ext
   .simp
   .intro q h5 h6;simp]
  refine zf t (ops:=ops.pop) (l:=l') dH (by simp at hll;omega) ho' (fun q hq=>hfull q ah) hgp a w ?_;rw[show ops.pop.extract 0 n=ops.extract 0 n by
   apply Array.ext
   .simp;omega
   .intro q h5 h6;simp]
  rw[show FA P ops.pop n t (xj P ops (n+t) Q)=Az (wpOps P ops.pop (xj P ops (n+t) Q) (List.range' n t)) Q by funext e a w;cases e<;>rfl];exact EG (fun a w h=>AA hsz hg t n a w rfl h) _ _ _ _ h
end
end
end
section
variable [di]
section
variable {C:CC} {Y:Ctx}
omit [di]in
theorem Ny {i:aG}(hp:i.pure=true){J:Src->bI}{m m':List (Nat×bL)}{L L':Nat}(h:i.dE Y J m):i.dE Y J m'/\i.val Y J m L=i.val Y J m' L':=by
 cases i<;>first
  |(simp[aG.pure]at hp;done)
  |exact⟨h,rfl⟩
def zT {ops:Array Oper}{env:List bI}{VS:List bI}{μ:List (Nat×bL)}{N:Nat}{listed:Array Bool}{a:Act}{x:X}{i:Nat}{o:Oper}{g:GI}(hΓ:Ok C.P C.ν C.cr Y)
  (h2:ops[i]? =some o) (hg2:C.op ((ops.toList.map (·.dst)).take i) o=some g.i) (hg3:CC.guard ((ops.toList.map (·.dst)).take i) o.guard=some g.g)
  (hdd:∀t,o.dst=some t->t<C.ntmps/\∀p,p≠i->(ops.toList.map (·.dst))[p]? ≠some (some t))
  (hp:g.i.pure=true\/g.i.yW=true) (hmid:oM C env (ops.toList.map (·.dst)) VS (fun p=>listed.getD p false=true) a x) (hs:eK C.ν x (look μ)) (his:i<listed.size)
  (hreads:∀t p,t∈tmpsOf ops.toList o->(ops.toList.map (·.dst))[p]? =some (some t)->(p<i->listed.getD p false=true)/\(i<=p->¬listed.getD p false=true))
  (hent:(VS.getD i .un).ok=flag (VS.take i) g.g) (hgk:ET (VS.take i) g.i g.g) (hgood:flag (VS.take i) g.g=true->g.i.dE Y (Src.ev env (VS.take i)) μ/\g.i.val Y (Src.ev env (VS.take i)) μ N=(VS.getD i .un).d)
  {Q:Exit->Act->World->Prop} {Kc:Act->World->Prop} (hK:∀a',oM C env (ops.toList.map (·.dst)) VS (fun p=>(listed.setIfInBounds i true).getD p false=true) a' x->Kc a' x.w):wpOp C.P ops Q i Kc a x.w:=by
 have ho':ops.toList[i]? =some o:=by simpa using h2
 have hdst:(ops.toList.map (·.dst))[i]? =some o.dst:=by rw[List.getElem?_map,ho',Option.map_some]
 have hρ:pM C ((ops.toList.map (·.dst)).take i) (Src.ev env (VS.take i)) a.eval x o.op.operands.toList:=
  hmid.rho fun t p ht hp=>hreads t p (List.mem_append_left _ (List.mem_filterMap.2 ⟨.tmp t,ht,rfl⟩)) hp
 have hcst:∀d,Src.ev env (VS.take i) (.c d)=⟨true,d⟩:=fun _=>rfl
 have hwant:Region.wanted o (yielded ops a.tmps)=flag (VS.take i) g.g:=by
  refine iF (g:=g) hmid hg3 (fun j w hg hji=>?_) (Mu hgk);simp only[hg,CC.guard]at hg3;split at hg3
  .rename_i t hj;rw[List.getElem?_take,ay hji]at hj;refine(hreads t j (List.mem_append_right _ ?_) hj).1 hji;rw[List.getElem?_map,cS]at hj;obtain⟨oj,hj1,hj2⟩:=hj;simp[hg,hj1,hj2]
  .cases hg3
 have hput:∀(v:Value),((VS.getD i .un).ok=true->RD C.ν x v (VS.getD i .un).d)->((VS.getD i .un).ok=false->v=undef)->
   oM C env (ops.toList.map (·.dst)) VS (fun p=>(listed.setIfInBounds i true).getD p false=true) (a.put o.dst v) x:=by
  intro v e1 e2;refine hmid.put (i:=i) (Le.refl x) hdst hdd e1 e2 (fun p=>?_);rw[dZ his];by_cases e:p=i
  .simp[e]
  .simp[e]
 unfold wpOp;simp only[h2,hwant];cases hfg:flag (VS.take i) g.g with
 |false=>
  rw[aj bg];exact hK _ (hput undef (fun e=>by rw[hent,hfg]at e;cases e) (fun _=>rfl))
 |true=>
  rw[ay rfl];left;obtain⟨hob,mJ⟩:=hgood hfg;have hd:Cj C.ν x (g.i.val Y (Src.ev env (VS.take i)) μ N) ((execOp a.eval o).run C.P x.w):=by
   by_cases hpu:g.i.pure=true
   .exact Dr (f:=look μ) hΓ.glz hcst hΓ.small hg2 hpu hρ hob hs (fun _=>rfl)
   .have hld:g.i.yW=true:=by rcases hp with h|h;exact absurd h hpu;exact h
    obtain⟨t,p,hop⟩:∃t p,o.op=.load t p:=by
     obtain⟨gi,gg⟩:=g;cases gi<;>simp only[aG.yW]at hld<;>try cases hld
     rename_i n ag s;cases hop:o.op with
     |load t p=>exact⟨t,p,rfl⟩
     |call c=>
      obtain⟨callee,args,argTypes⟩:=c;cases callee with
      |invoke r n=>simp only[CC.op,hop]at hg2;(repeat' split at hg2)<;>simp at hg2
      |builtin b=>cases b<;>simp only[CC.op,hop]at hg2<;>(try(repeat' split at hg2))<;>simp at hg2
      |value v=>cases v<;>simp only[CC.op,hop]at hg2<;>(try(repeat' split at hg2))<;>simp at hg2
     |makeFunc fn fst caps=>cases fn<;>simp only[CC.op,hop]at hg2<;>(repeat' split at hg2)<;>simp_all
     |next it b=>cases b<;>simp[CC.op,hop]at hg2
     |typeAssert p xt t ok=>cases ok<;>simp only[CC.op,hop]at hg2<;>(try(repeat' split at hg2))<;>simp at hg2
     |lookup t p q ok=>
      cases ok with
      |true=>simp only[CC.op,hop]at hg2;(repeat' split at hg2)<;>simp_all
      |false=>simp only[CC.op,hop]at hg2;(repeat' split at hg2)<;>simp_all
     |makeMap t r=>cases r<;>simp only[CC.op,hop]at hg2<;>(try(repeat' split at hg2))<;>simp at hg2
     |_=>
      simp only[CC.op,hop]at hg2
      (try(repeat' split at hg2))<;>simp at hg2
    exact Dq (f:=look μ) hpu hΓ.small hg2 hop hρ hob hs (by
     cases hq:g.i.kY (Src.ev env (VS.take i))with
     |none=>exact fun _ _=>rfl
     |some ls=>exact fun _ _=>rfl)
  rw[mJ]at hd;obtain⟨v,hr,hrd⟩:=hd;refine iI.wp (G:=fun v' x'=>v'=v/\x'=x) ?_ (fun v' x' hG=>?_)
  .left;exact⟨v,x,hr,rfl,rfl⟩
  .obtain⟨rfl,rfl⟩:=hG;exact hK _ (hput _ (fun _=>hrd) (fun e=>by rw[hent,hfg]at e;cases e))
def HL {env:List bI}{K:List bI->St->Prop}:∀{suf:List GI}{vs:List bI}{st:St},(∀g∈suf,g.g=none/\g.i.cN=false)->ew Y true suf env vs st K->ew Y false suf env vs st K
 |[],_,_,_,h=>h
 |⟨i,g⟩::r,vs,st,hs,h=>by
  obtain⟨h1,h2⟩:=hs _ (.head _);simp only at h1 h2;subst h1;rw[jt h2 rfl]at h;rw[jt h2 (by simp[aG.jQ])];obtain⟨_,w2,w3⟩:=h;refine⟨trivial,w2,fun ha=>?_⟩;obtain⟨d,e1,e2⟩:=w3 fun hf=>by
   have:=ha hf;have key:∀(s:Src) (X:Prop),X->(bif !s.xf then True else X):=fun s X h=>by cases s.xf<;>simp[h]
   cases i<;>first
    |exact trivial
    |exact key _ _ this
  exact⟨d,e1,HL (fun g hg=>hs g (.tail _ hg)) e2⟩
section
variable {ops:Array Oper} {pre:List GI} {lx:List GI} {bs:List Nat} {n:Nat} {env:List bI} {VS:List bI} {f:Nat} {ss:List Src} {chk:List (Nat×Nat×Bool×Src)} {x0:X} {Q:Exit->Act->World->Prop} {nx:Nat} {m:List (Nat×bL)}
def Me {VS:List bI}{e:bI}{i:Nat}(h:i<=VS.length):(VS++[e]).take i=VS.take i:=List.take_append_of_le_length h
def ext_get {VS:List bI}{e:bI}{i:Nat}(h:i<VS.length):(VS++[e]).getD i .un=VS.getD i .un:=by rw[cY,ay h]
def zU {listed:Array Bool}(ho:Order ops.toList lx bs)(hl:listed.size=ops.size)(hr:Region.ready .any ops listed=[]):∀p,p<ops.size->listed.getD p false=true:=by
 intro p;induction p using Nat.strongRecOn with
 |_ p ih=>
  intro hp;cases hd:listed.getD p false with
  |true=>rfl
  |false=>
   exfalso;have hm:p∈Region.ready .any ops listed:=by
    rw[mem_ready];refine⟨?_,ops[p],by simp[hp],fun e he hb=>?_⟩
    .have:p<listed.size:=ah;simp only[Array.getD,this,dif_pos]at hd⊢;exact hd
    .have:=ho.edge p ops[p] (by simp[hp]) e he hb;exact ih e.on this ah
   rw[hr]at hm;cases hm
def wF {listed:Array Bool}(ho:Order ops.toList lx bs)(hcl:∀j,listed.getD j false=true->∀p,(bs.getD j 0).testBit p=true->listed.getD p false=true){i:Nat}{o:Oper}(hi:ops[i]? =some o)(hni:listed.getD i false=false)
  (hed:∀e∈o.after,Region.binds .any e=true->listed.getD e.on false=true) {p:Nat} (hb:oK bs p i) (hne:p≠i):(p<i->listed.getD p false=true)/\(i<=p->¬listed.getD p false=true):=by
 unfold oK at hb;refine⟨fun hlt=>?_,fun hle hp=>?_⟩
 .rw[Nat.max_eq_left ah,Nat.min_eq_right ah]at hb;obtain⟨e,e1,e2,e3⟩:=ho.bef i o (by simpa using hi) p hb;rcases e3 with rfl|e3
  .exact hed e e1 e2
  .exact hcl _ (hed e e1 e2) p e3
 .rw[Nat.max_eq_right ah,Nat.min_eq_left ah]at hb;have:=hcl p hp i hb;rw[hni]at this;cases this
def FF {l:List GI}{c0:GI}{suf:List GI}{K:List bI->St->Prop}(hΓ:Ok C.P C.ν C.cr Y)(hsp:Spec C ops.toList l)(hl:l=pre++c0::suf)(hn:pre.length=n)(ho:Order ops.toList lx bs)(hVS:VS.length=n)
  (hop:∀(i:Nat) (o:Oper),ops.toList[i]? =some o->∃g,l[i]? =some g/\C.op ((ops.toList.map (·.dst)).take i) o=some g.i/\CC.guard ((ops.toList.map (·.dst)).take i) o.guard=some g.g)
  (hdst:∀(i:Nat) (o:Oper) (t:Nat),ops[i]? =some o->o.dst=some t->t<C.ntmps/\∀p,p≠i->(ops.toList.map (·.dst))[p]? ≠some (some t))
  (hpu:∀g∈pre,g.i.pure=true\/g.i.yW=true) (hsuf:∀g∈suf,g.g=none/\g.i.cN=false)
  (mJ:∀(i:Nat) (g:GI),pre[i]? =some g->(VS.getD i .un).ok=flag (VS.take i) g.g/\ET (VS.take i) g.i g.g/\(flag (VS.take i) g.g=true->g.i.dE Y (Src.ev env (VS.take i)) m/\g.i.val Y (Src.ev env (VS.take i)) m (nx+i)=(VS.getD i .un).d))
  (hchk:∀(i k:Nat) (ag:Bool) (p:Src) (gd:Option (Nat×Bool)),pre[i]? =some ⟨.ld k ag p,gd⟩->(bs.getD n 0).testBit i=true\/(i,k,ag,p)∈chk)
  (hfull:∀q,q<suf.length->∀p,p<n+1+q->(pre.getD p ⟨.mkB,none⟩).i.pure=true\/(bs.getD (n+1+q) 0).testBit p=true)
  (hK:∀vs' st' a' x',K vs' st'->vs'.length=ops.size->oM C env (ops.toList.map (·.dst)) vs' (· <ops.size) a' x'->Step x0 x'->eK C.ν x' (look st'.m)->ez st' x'->Q .normal a' x'.w):
  ∀(fuel q:Nat) (listed:Array Bool) (a:Act) (x:X) (vs:List bI) (st:St),listed.size=ops.size->(∀p,n<=p->p<ops.size->(listed.getD p false=true↔p<n+1+q))->q<=suf.length->
   (∀j,listed.getD j false=true->∀p,(bs.getD j 0).testBit p=true->listed.getD p false=true)->vs.length=n+1+q->vs.take n=VS->oM C env (ops.toList.map (·.dst)) vs (fun p=>listed.getD p false=true) a x->Step x0 x->eK C.ν x (look st.m)->ez ⟨st.nx+(n+1+q),st.m⟩ x->
   ew Y false (suf.drop q) env vs st K->(q=0->∀c∈chk,(VS.getD c.1 .un).ok=true->uN st.m c.2.1 (Src.ev env (VS.take c.1) c.2.2.2).d/\uc st.m c.2.1 c.2.2.1 (Src.ev env (VS.take c.1) c.2.2.2).d=(VS.getD c.1 .un).d)->
   L0 ops.size listed<=fuel->wpAny C.P .any ops Q fuel listed a x.w:=by
 have hsz:ops.size=n+1+suf.length:=by have:=hsp.len;simp[hl,hn]at this;omega
 have hdone:∀(q:Nat) (listed:Array Bool) (a:Act) (x:X) (vs:List bI) (st:St),listed.size=ops.size->(∀p,n<=p->p<ops.size->(listed.getD p false=true↔p<n+1+q))->q<=suf.length->vs.length=n+1+q->
   (∀p,p<ops.size->listed.getD p false=true)->oM C env (ops.toList.map (·.dst)) vs (fun p=>listed.getD p false=true) a x->Step x0 x->eK C.ν x (look st.m)->ez ⟨st.nx+(n+1+q),st.m⟩ x->ew Y false (suf.drop q) env vs st K->Q .normal a x.w:=by
  intro q listed a x vs st hls hq hqs hvl hall hmid hst hs hf hw;obtain rfl:q=suf.length:=by
   rcases dQ q suf.length with h|h
   .have:=(hq (n+1+q) ah ah).1 (hall _ ah);omega
   .omega
  rw[List.drop_length]at hw;simp only[ew]at hw;exact hK vs _ a x hw ah (hmid.iff fun p=>⟨fun hp=>hall p hp,fun hp=>by have:=pZ hls hp;omega⟩) hst hs (by rw[hvl];exact hf)
 intro fuel;induction fuel with
 |zero=>
  intro q listed a x vs st hls hq hqs hcl hvl hvt hmid hst hs hf hw hck hcnt;have hall:∀p,p<ops.size->listed.getD p false=true:=by
   intro p hp;have h0:(List.range ops.size).filter (fun p=>!listed.getD p false)=[]:=jM (Nat.le_zero.1 hcnt);rw[List.filter_eq_nil_iff]at h0;simpa using h0 p (by simpa using hp)
  refine⟨?_,hdone q listed a x vs st hls hq hqs hvl hall hmid hst hs hf hw⟩;rw[List.eq_nil_iff_forall_not_mem];intro j hj;obtain⟨h1,o,h2,_⟩:=mem_ready.1 hj;have hjl:j<ops.size:=(Array.getElem?_eq_some_iff.1 h2).1;have:=hall j hjl;have hjs:j<listed.size:=ah;simp only[Array.getD,hjs,dif_pos]at h1 this;rw[this]at h1;cases h1
 |succ fuel ih=>
  intro q listed a x vs st hls hq hqs hcl hvl hvt hmid hst hs hf hw hck hcnt;refine⟨fun hr=>hdone q listed a x vs st hls hq hqs hvl (zU ho hls hr) hmid hst hs hf hw,fun i hi=>?_⟩;obtain⟨h1,o,h2,hed⟩:=mem_ready.1 hi;have hil:i<ops.size:=(Array.getElem?_eq_some_iff.1 h2).1;have his:i<listed.size:=ah;have hni:listed.getD i false=false:=by simp only[Array.getD,his,dif_pos]at h1⊢;exact h1
  have ho':ops.toList[i]? =some o:=by simpa using h2
  have hreads:∀t p,t∈tmpsOf ops.toList o->(ops.toList.map (·.dst))[p]? =some (some t)->(p<i->listed.getD p false=true)/\(i<=p->¬listed.getD p false=true):=by
   intro t p ht hp;rw[List.getElem?_map,cS]at hp;obtain⟨op,hp1,hp2⟩:=hp;rcases ho.reads i p o op t ho' hp1 hp2 ht with rfl|hb
   .exact⟨fun h=>ah,fun _=>by rw[hni];simp⟩
   .by_cases hpi:p=i
    .subst hpi;exact⟨fun h=>ah,fun _=>by rw[hni];simp⟩
    .exact wF ho hcl h2 hni hed hb hpi
  have hready:∀p,(bs.getD i 0).testBit p=true->listed.getD p false=true:=by
   intro p hp;obtain⟨e',e1,e2,e3⟩:=ho.bef i o ho' p hp;rcases e3 with rfl|e3
   .exact hed e' e1 e2
   .exact hcl _ (hed e' e1 e2) p e3
  have hclosed:∀j,(listed.setIfInBounds i true).getD j false=true->∀p,(bs.getD j 0).testBit p=true->(listed.setIfInBounds i true).getD p false=true:=by
   intro j hj p hp;rw[dZ his]at hj⊢;by_cases e:p=i
   .rw[ay e]
   .rw[aj e];by_cases ej:j=i
    .subst ej;exact hready p hp
    .rw[aj ej]at hj;exact hcl j hj p hp
  have hcnt':L0 ops.size (listed.setIfInBounds i true)<=fuel:=by have:=AT hls hil hni;omega
  obtain⟨g,g1,g2,g3⟩:=hop i o ho';rcases dQ i n with hin|hin
  .rw[hl,List.getElem?_append_left ah]at g1;obtain⟨v1,v2,v3⟩:=mJ i g g1;have ht:vs.take i=VS.take i:=by rw[<-hvt,List.take_take,Nat.min_eq_left ah]
   have hgd:vs.getD i .un=VS.getD i .un:=by rw[<-hvt,getD_take _ _ _ _ hin]
   refine zT (N:=nx+i) (μ:=st.m) hΓ h2 g2 g3 (fun t ht=>hdst i o t h2 ht) (hpu _ (List.mem_of_getElem? g1)) hmid hs his hreads (by rw[ht,hgd];exact v1) (by rw[ht];exact v2) (fun hf=>?_)
    (fun a' hm=>ih q _ a' x vs st (by simp[hls]) (fun p hp hp2=>by rw[dZ his,aj ah];exact hq p hp hp2) hqs hclosed hvl hvt hm hst hs hf hw hck hcnt')
   rw[ht]at hf⊢;rw[hgd];obtain⟨o1,o2⟩:=v3 hf;rcases hpu _ (List.mem_of_getElem? g1)with hp|hp
   .obtain⟨q1,q2⟩:=Ny hp (m':=st.m) (L:=nx+i) (L':=nx+i) o1;exact⟨q1,q2.symm.trans o2⟩
   .obtain⟨gi,gg⟩:=g;cases gi<;>simp only[aG.yW]at hp<;>try cases hp
    rename_i k ag s;by_cases hq0:q=0
    .rcases hchk i k ag s gg g1 with hb|hm
     .have:=hcl n ((hq n (aM _) ah).2 ah) i hb;rw[hni]at this;cases this
     .obtain⟨c1,c2⟩:=hck hq0 _ hm (by rw[v1];exact hf);exact⟨And.intro o1.1 c1,c2⟩
    .exfalso;rcases hfull (q-1) ah i ah with hb|hb
     .rw[show pre.getD i ⟨.mkB,none⟩=⟨.ld k ag s,gg⟩by simp[List.getD,g1]]at hb;simp[aG.pure]at hb
     .have hlq:=(hq (n+1+(q-1)) ah ah).2 ah;have:=hcl _ hlq i hb;rw[hni]at this;cases this
  .have hge:n+1+q<=i:=by
    rcases dQ i (n+1+q)with h|h
    .have:=(hq i hin hil).2 h;rw[hni]at this;cases this
    .exact h
   obtain rfl:i=n+1+q:=by
    rcases dQ (n+1+q) i with h|h
    .exfalso;have hb:=hfull (i-(n+1)) ah (n+1+q) ah;rw[show n+1+(i-(n+1))=i by omega]at hb;rcases hb with hb|hb
     .rw[show pre.getD (n+1+q) ⟨.mkB,none⟩=⟨.mkB,none⟩by simp[List.getD,List.getElem?_eq_none (show pre.length<=n+1+q by omega)]]at hb;simp[aG.pure]at hb
     .have:=(hq (n+1+q) ah ah).1 (hready _ hb);omega
    .omega
   have hqlt:q<suf.length:=ah;have hgs:suf[q]? =some g:=by
    rw[hl,List.getElem?_append_right ah,hn,show n+1+q-n=q+1 by omega,List.getElem?_cons_succ]at g1;exact g1
   have hdrop:suf.drop q=g::suf.drop (q+1):=by
    rw[gZ hqlt];congr 1;exact(List.getElem?_eq_some_iff.1 hgs).2
   rw[hdrop]at hw;have hgn:o.guard=none:=by
    have:=(hsuf g (List.mem_of_getElem? hgs)).1;rw[this]at g3;cases hgg:o.guard with
    |none=>rfl
    |some jw=>
     rw[hgg]at g3;obtain⟨j,w⟩:=jw;simp only[CC.guard]at g3;split at g3<;>simp at g3
   refine Ek hsp hΓ h2 g1 (.inl g2) g3 hvl (fun p hp=>?_) (fun t p ht hp=>hreads t p (List.mem_append_left _ (List.mem_filterMap.2 ⟨.tmp t,ht,rfl⟩)) hp) (fun j w h=>by rw[hgn]at h;cases h) hmid hs hf hw
    (fun e st' x' a' h1 h2 h3 h4 h5=>ih (q+1) _ a' x' _ st' (by simp[hls]) (fun p hp hp2=>?_) ah hclosed (by simp[hvl];omega) (by rw[List.take_append_of_le_length ah];exact hvt) (h1.iff fun p=>?_) (hst.trans h2) h3 (by rw[show n+1+(q+1)=n+1+q+1 by omega];exact h4) h5 (fun h=>ah) hcnt')
   .rcases dQ p n with h|h
    .omega
    .exact(hq p h (by have:=pZ hls hp;omega)).1 hp
   .rw[dZ his];split
    .rename_i e;subst e;simp
    .rename_i e;rw[hq p hp hp2];omega
   .rw[dZ his];by_cases e:p=n+1+q
    .simp[e]
    .simp[e]
def J4 {l:List GI}{suf:List GI}{K:List bI->St->Prop}(hΓ:Ok C.P C.ν C.cr Y)(hsp:Spec C ops.toList l)(hl:l=pre++⟨.callM f ss,none⟩::suf)(hn:pre.length=n)(ho:Order ops.toList lx bs)(hVS:VS.length=n)
  (hop:∀(i:Nat) (o:Oper),ops.toList[i]? =some o->∃g,l[i]? =some g/\C.op ((ops.toList.map (·.dst)).take i) o=some g.i/\CC.guard ((ops.toList.map (·.dst)).take i) o.guard=some g.g)
  (hdst:∀(i:Nat) (o:Oper) (t:Nat),ops[i]? =some o->o.dst=some t->t<C.ntmps/\∀p,p≠i->(ops.toList.map (·.dst))[p]? ≠some (some t))
  (hpu:∀g∈pre,g.i.pure=true\/g.i.yW=true) (hsuf:∀g∈suf,g.g=none/\g.i.cN=false)
  (mJ:∀(i:Nat) (g:GI),pre[i]? =some g->(VS.getD i .un).ok=flag (VS.take i) g.g/\ET (VS.take i) g.i g.g/\(flag (VS.take i) g.g=true->g.i.dE Y (Src.ev env (VS.take i)) m/\g.i.val Y (Src.ev env (VS.take i)) m (nx+i)=(VS.getD i .un).d))
  (hchk:∀(i k:Nat) (ag:Bool) (p:Src) (gd:Option (Nat×Bool)),pre[i]? =some ⟨.ld k ag p,gd⟩->(bs.getD n 0).testBit i=true\/(i,k,ag,p)∈chk)
  (hfull:∀q,q<suf.length->∀p,p<n+1+q->(pre.getD p ⟨.mkB,none⟩).i.pure=true\/(bs.getD (n+1+q) 0).testBit p=true)
  (hoks:sH (Src.ev env VS) ss)
  (htr:Y.tr f (gV (Src.ev env VS) ss) ⟨nx+n,m⟩ fun d st'=>(∀c∈chk,(VS.getD c.1 .un).ok=true->uN st'.m c.2.1 (Src.ev env (VS.take c.1) c.2.2.2).d/\uc st'.m c.2.1 c.2.2.1 (Src.ev env (VS.take c.1) c.2.2.2).d=(VS.getD c.1 .un).d)/\
    nx+n<=st'.nx/\ew Y true suf env (VS++[⟨true,d⟩]) ⟨st'.nx-n,st'.m⟩ K)
  {x:X} (hx:Step x0 x) (hs:eK C.ν x (look m)) (hf:ez ⟨nx+n,m⟩ x)
  (hK:∀vs' st' a' x',K vs' st'->vs'.length=ops.size->oM C env (ops.toList.map (·.dst)) vs' (· <ops.size) a' x'->Step x0 x'->eK C.ν x' (look st'.m)->ez st' x'->Q .normal a' x'.w):
  ∀(fuel:Nat) (listed:Array Bool) (a:Act),listed.size=ops.size->(∀p,n<=p->listed.getD p false=false)->(∀j,listed.getD j false=true->∀p,(bs.getD j 0).testBit p=true->listed.getD p false=true)->
   oM C env (ops.toList.map (·.dst)) VS (fun p=>listed.getD p false=true) a x->L0 ops.size listed<=fuel->wpAny C.P .any ops Q fuel listed a x.w:=by
 have hsz:ops.size=n+1+suf.length:=by have:=hsp.len;simp[hl,hn]at this;omega
 intro fuel;induction fuel with
 |zero=>
  intro listed a hls hnl hcl hmid hcnt;exfalso;have h0:(List.range ops.size).filter (fun p=>!listed.getD p false)=[]:=jM (Nat.le_zero.1 hcnt);rw[List.filter_eq_nil_iff]at h0;have:=h0 n dH;rw[hnl n (aM _)]at this;exact this rfl
 |succ fuel ih=>
  intro listed a hls hnl hcl hmid hcnt;refine⟨fun hr=>?_,fun i hi=>?_⟩
  .have:=zU ho hls hr n ah;rw[hnl n (aM _)]at this;cases this
  obtain⟨h1,o,h2,hed⟩:=mem_ready.1 hi;have hil:i<ops.size:=(Array.getElem?_eq_some_iff.1 h2).1;have his:i<listed.size:=ah;have hni:listed.getD i false=false:=by simp only[Array.getD,his,dif_pos]at h1⊢;exact h1
  have ho':ops.toList[i]? =some o:=by simpa using h2
  have hreads:∀t p,t∈tmpsOf ops.toList o->(ops.toList.map (·.dst))[p]? =some (some t)->(p<i->listed.getD p false=true)/\(i<=p->¬listed.getD p false=true):=by
   intro t p ht hp;rw[List.getElem?_map,cS]at hp;obtain⟨op,hp1,hp2⟩:=hp;rcases ho.reads i p o op t ho' hp1 hp2 ht with rfl|hb
   .exact⟨fun h=>ah,fun _=>by rw[hni];simp⟩
   .by_cases hpi:p=i
    .subst hpi;exact⟨fun h=>ah,fun _=>by rw[hni];simp⟩
    .exact wF ho hcl h2 hni hed hb hpi
  have hready:∀p,(bs.getD i 0).testBit p=true->listed.getD p false=true:=by
   intro p hp;obtain⟨e',e1,e2,e3⟩:=ho.bef i o ho' p hp;rcases e3 with rfl|e3
   .exact hed e' e1 e2
   .exact hcl _ (hed e' e1 e2) p e3
  have hclosed:∀j,(listed.setIfInBounds i true).getD j false=true->∀p,(bs.getD j 0).testBit p=true->(listed.setIfInBounds i true).getD p false=true:=by
   intro j hj p hp;rw[dZ his]at hj⊢;by_cases e:p=i
   .rw[ay e]
   .rw[aj e];by_cases ej:j=i
    .subst ej;exact hready p hp
    .rw[aj ej]at hj;exact hcl j hj p hp
  have hcnt':L0 ops.size (listed.setIfInBounds i true)<=fuel:=by have:=AT hls hil hni;omega
  obtain⟨g,g1,g2,g3⟩:=hop i o ho';rcases dQ i n with hin|hin
  .rw[hl,List.getElem?_append_left ah]at g1;obtain⟨v1,v2,v3⟩:=mJ i g g1;exact zT (N:=nx+i) (μ:=m) hΓ h2 g2 g3 (fun t ht=>hdst i o t h2 ht) (hpu _ (List.mem_of_getElem? g1)) hmid hs his hreads v1 v2 v3
    (fun a' hm=>ih _ a' (by simp[hls]) (fun p hp=>by rw[dZ his,aj ah];exact hnl p hp) hclosed hm hcnt')
  .obtain rfl:i=n:=by
    rcases dQ n i with h|h
    .exfalso;have hb:=hfull (i-(n+1)) ah n ah;rw[show n+1+(i-(n+1))=i by omega]at hb;rcases hb with hb|hb
     .rw[show pre.getD n ⟨.mkB,none⟩=⟨.mkB,none⟩by simp[List.getD,List.getElem?_eq_none (show pre.length<=n by omega)]]at hb;simp[aG.pure]at hb
     .have:=hready _ hb;rw[hnl n (aM _)]at this;cases this
    .omega
   rw[hl,List.getElem?_append_right ah,hn,Nat.sub_self,List.getElem?_cons_zero]at g1;obtain rfl:=bd g1;have c2:o.guard=none:=by
    cases hgg:o.guard with
    |none=>rfl
    |some jw=>
     rw[hgg]at g3;obtain⟨j,w⟩:=jw;simp only[CC.guard]at g3;split at g3<;>simp at g3
   have hdd:(ops.toList.map (·.dst))[i]? =some o.dst:=by rw[List.getElem?_map,ho',Option.map_some]
   have hvt:VS.take i=VS:=gY ah;have hρ:pM C ((ops.toList.map (·.dst)).take i) (Src.ev env VS) a.eval x o.op.operands.toList:=by
    have:=hmid.rho (i:=i) (os:=o.op.operands.toList) fun t p ht hp=>hreads t p (List.mem_append_left _ (List.mem_filterMap.2 ⟨.tmp t,ht,rfl⟩)) hp
    rwa [hvt]at this
   unfold wpOp;simp only[h2];have hw:Region.wanted o (yielded ops a.tmps)=true:=by simp[Region.wanted,c2]
   rw[ay hw];left;refine(Dp (st:=⟨nx+i,m⟩) (fun _=>rfl) hΓ g2 hρ hoks hs hf htr).wp (fun v x' hG=>?_);obtain⟨d,st',⟨hck,hnx,hw'⟩,hst1,hrd,hs1,hf1⟩:=hG;have hmid':oM C env (ops.toList.map (·.dst)) (VS++[⟨true,d⟩]) (fun p=>(listed.setIfInBounds i true).getD p false=true) (a.put o.dst v) x':=by
    have hext:oM C env (ops.toList.map (·.dst)) (VS++[⟨true,d⟩]) (fun p=>listed.getD p false=true) a x:=by
     have hlt:∀p,listed.getD p false=true->(VS++[(⟨true,d⟩:bI)]).getD p .un=VS.getD p .un:=fun p hp=>by
      have hlt:p<i:=by
       rcases dQ p i with h|h
       .exact h
       .rw[hnl p h]at hp;cases hp
      exact ext_get ah
     exact⟨fun p t hp e ho=>by rw[hlt p hp]at ho⊢;exact hmid.val p t hp e ho,fun p t hp e ho=>by rw[hlt p hp]at ho;exact hmid.und p t hp e ho,hmid.old,hmid.size,hmid.defers⟩
    have he:(VS++[(⟨true,d⟩:bI)]).getD i .un=⟨true,d⟩:=by rw[cY,aj ah];simp[hVS]
    refine hext.put (i:=i) hst1.le hdd (fun t ht=>hdst i o t h2 ht) (fun _=>by rw[he];exact hrd) (fun h=>by rw[he]at h;cases h) (fun p=>?_);rw[dZ his];by_cases e:p=i
    .simp[e]
    .simp[e]
   refine FF hΓ hsp hl hn ho hVS hop hdst hpu hsuf mJ hchk hfull hK fuel 0 _ _ x' _ ⟨st'.nx-i,st'.m⟩ (by simp[hls]) (fun p hp hp2=>?_) (Nat.zero_le _) hclosed (by simp[hVS]) (by rw[Me ah];exact hvt) hmid' (hx.trans hst1) hs1 (hf1.up (by simp only;omega)) (by simpa using HL hsuf hw') (fun _=>hck) hcnt';rw[dZ his];split
   .rename_i e;subst e;simp
   .rename_i e;rw[hnl p hp];simp;omega
end
def Ds:∀(ops:List Oper) (ds:List (Option Nat)) (l:List GI),C.ops ds ops=some l->∀(i:Nat) (o:Oper),ops[i]? =some o->∃g,l[i]? =some g/\C.op (ds++(ops.map (·.dst)).take i) o=some g.i/\CC.guard (ds++(ops.map (·.dst)).take i) o.guard=some g.g
 |[],_,_,_,i,o,h=>by simp at h
 |q::r,ds,l,hc,i,o,h=>by
  simp only[CC.ops]at hc;split at hc
  .rename_i i0 g0 l' h1 h2 h3;split at hc
   .obtain rfl:=bd hc;cases i with
    |zero=>
     simp only[List.getElem?_cons_zero,aP]at h;subst h;exact⟨_,rfl,by simpa using h1,by simpa using h2⟩
    |succ i=>
     simp only[List.getElem?_cons_succ]at h;obtain⟨g,e1,e2,e3⟩:=Ds r _ l' h3 i o h;exact⟨g,by simpa using e1,by simpa using e2,by simpa using e3⟩
   .cases hc
  .cases hc
def Qy {ops:List Oper}{l:List GI}(h:C.ops [] ops=some l)(i:Nat)(o:Oper)(ho:ops[i]? =some o):∃g,l[i]? =some g/\C.op ((ops.map (·.dst)).take i) o=some g.i/\CC.guard ((ops.map (·.dst)).take i) o.guard=some g.g:=by
 simpa using Ds ops [] l h i o ho
def Dc {ops:List Oper}{l l':List GI}(h:FE ops l=some l'):∃pre f ss suf,l=pre++⟨.callM f ss,none⟩::suf/\l'=pre++⟨.callL f ss (tQ ((jV [] ops).getD pre.length 0) 0 pre),none⟩::suf/\
  (∀g∈pre,g.i.pure=true\/g.i.yW=true)/\(∀g∈suf,g.g=none/\g.i.cN=false)/\p8 ops (jV [] ops)=true/\nM 0 ops=true/\
  ∀q,q<suf.length->∀p,p<pre.length+1+q->(pre.getD p ⟨.mkB,none⟩).i.pure=true\/((jV [] ops).getD (pre.length+1+q) 0).testBit p=true:=by
 unfold FE at h;simp only at h;generalize List.findIdx (fun g:GI=>g.i.cN) l=n at h;split at h
 .rename_i f ss suf hd;split at h
  .rename_i hh;simp only[br,List.all_eq_true,List.mem_range,dW,cW,Option.isNone_iff_eq_none]at hh;obtain⟨a1,a2,a3,a4,a5⟩:=hh;obtain rfl:=bd h;have hn:n<l.length:=by
    rcases dQ n l.length with h|h
    .exact h
    .rw[kR h]at hd;cases hd
   have hl:(l.take n).length=n:=dH;refine⟨l.take n,f,ss,suf,by rw[<-hd,List.take_append_drop],by rw[hl],a1,a2,a3,a4,fun q hq p hp=>?_⟩;rw[hl]at hp⊢;exact a5 q hq p hp
  .cases h
 .cases h
def wI {b:Nat}:∀{pre:List GI}{p i k:Nat}{ag:Bool}{s:Src}{gd:Option (Nat×Bool)},pre[i]? =some ⟨.ld k ag s,gd⟩->b.testBit (p+i)=true\/(p+i,k,ag,s)∈tQ b p pre
 |[],_,i,_,_,_,_,h=>by simp at h
 |⟨g,gg⟩::r,p,0,k,ag,s,gd,h=>by
  simp only[List.getElem?_cons_zero,aP,GI.mk.injEq]at h;obtain⟨rfl,rfl⟩:=h;simp only[tQ,Nat.add_zero];cases hb:b.testBit p
  .right;simp
  .left;rfl
 |⟨g,gg⟩::r,p,i+1,k,ag,s,gd,h=>by
  simp only[List.getElem?_cons_succ]at h;have:=wI (b:=b) (p:=p+1) h;rw[show p+1+i=p+(i+1)by omega]at this;refine this.imp id fun h=>?_
  cases g<;>simp only[tQ]<;>try exact h
  split
  .exact h
  .exact .tail _ h
def Du {ops:List Oper}(h1:p8 ops (jV [] ops)=true)(h4:nM 0 ops=true):Order ops (List.replicate ops.length ⟨.mv (.c .any),none⟩) (jV [] ops):=by
 obtain⟨b1,b2,b3⟩:=sM ops [];simp only[aX,bq]at b2 b3;refine⟨fun j o hj p hp=>?_,fun j o hj e he hb=>by simpa using nN ops 0 h4 j o hj e he hb,fun j p oj op t hj hp hd ht=>?_,fun j i gj gi hj hi hc hpu hmk=>?_⟩
 .rw[b3 j o hj]at hp;obtain⟨e,e1,e2,e3⟩:=nF _ _ _ hp;refine⟨e,by simpa using e1,e2,e3.imp id fun h=>?_⟩;by_cases hlt:e.on<j
  .rwa [getD_take _ _ _ _ hlt]at h
  .simp only[List.getD,List.getElem?_take,hlt,aS,Option.getD_none,Nat.zero_testBit]at h;cases h
 .have hjl:j<ops.length:=(List.getElem?_eq_some_iff.1 hj).1;have hpl:p<ops.length:=(List.getElem?_eq_some_iff.1 hp).1;simp only[p8,List.all_eq_true,List.mem_range]at h1;have:=h1 j hjl p hpl;simp only[hj,hp,hd,dW,beq_iff_eq,cW,List.contains_eq_mem,dn]at this;rcases this with(h|h)|h
  .exact .inl h
  .exact absurd ht h
  .exact .inr h
 .rw[List.getElem?_replicate]at hj;split at hj
  .obtain rfl:=bd hj;cases hc
  .cases hj
end
end
section
variable [di]
section
variable {C:CC} {Y:Ctx}
structure Inv (C:CC)(a:Act)(x:X)(env:List bI)(st:St):Prop where
 len:env.length=C.slots.length
 env:∀n t:Nat,C.slots[n]? =some t->(env.getD n .un).ok=true->RD C.ν x (a.tmps.getD t undef) (env.getD n .un).d
 size:a.tmps.size=C.ntmps
 defers:a.defers=[]
 lC:eK C.ν x (look st.m)
 fresh:ez st x
def Inv.O0 {a:Act}{x:X}{env:List bI}{st:St}(h:Inv C a x env st)(DD:List (Option Nat))(VS:List bI){D:Nat->Prop}(hD:∀p,¬D p):oM C env DD VS D a x:=
 ⟨fun p t hp=>absurd hp (hD p),fun p t hp=>absurd hp (hD p),fun n t hn _ ho=>h.env n t hn ho,h.size,h.defers⟩
def wJ (vs:List bI):∀(cm:List (Nat×Nat)) (env:List bI),(fZ env vs cm).length=env.length
 |[],env=>rfl
 |(s,p)::r,env=>by simp only[fZ];rw[wJ vs r];simp
def zy {α:Type}(l:List α)(i j:Nat)(v d:α)(h:i<l.length):(l.set i v).getD j d=if j=i then v else l.getD j d:=by
 grind
def qG (hnd:C.slots.Nodup)(vs:List bI):∀(ops:List Oper) (p:Nat) (env:List bI) (n t:Nat),C.slots[n]? =some t->env.length=C.slots.length->
  ((∀(j:Nat) (o:Oper),ops[j]? =some o->o.dst≠some t)->(fZ env vs (C.fH p ops)).getD n .un=env.getD n .un)/\
  (∀(j:Nat) (o:Oper),ops[j]? =some o->o.dst=some t->(∀(j':Nat) (o':Oper),ops[j']? =some o'->o'.dst=some t->j'=j)->(fZ env vs (C.fH p ops)).getD n .un=vs.getD (p+j) .un)
 |[],p,env,n,t,hn,hl=>⟨fun _=>rfl,fun j o h=>by simp at h⟩
 |o::r,p,env,n,t,hn,hl=>by
  have hnl:n<C.slots.length:=(List.getElem?_eq_some_iff.1 hn).1;cases hb:o.dst.bind (uJ C.slots)with
  |none=>
   have e:C.fH p (o::r)=C.fH (p+1) r:=by simp[CC.fH,hb]
   rw[e];obtain⟨a1,a2⟩:=qG hnd vs r (p+1) env n t hn hl;have hne:o.dst≠some t:=fun e=>by rw[e,Option.bind_some,Bd _ _ _ hnd hn]at hb;cases hb
   refine⟨fun h=>a1 fun j o' hj=>h (j+1) o' (by simpa using hj),fun j o' hj hd hu=>?_⟩;cases j with
   |zero=>simp at hj;subst hj;exact absurd hd hne
   |succ j=>
    rw[show p+(j+1)=p+1+j by omega];exact a2 j o' (by simpa using hj) hd fun j' o'' hj' hd'=>by have:=hu (j'+1) o'' (by simpa using hj') hd';omega
  |some s=>
   have e:C.fH p (o::r)=(s,p)::C.fH (p+1) r:=by simp[CC.fH,hb]
   rw[e];simp only[fZ];obtain⟨t',ht',hs⟩:=Option.bind_eq_some_iff.1 hb;have hsl:=mY _ _ _ hs;have hslen:s<env.length:=by rw[hl];exact(List.getElem?_eq_some_iff.1 hsl).1
   obtain⟨a1,a2⟩:=qG hnd vs r (p+1) (env.set s (vs.getD p .un)) n t hn (by simpa using hl);have hst:s=n↔t'=t:=by
    constructor
    .rintro rfl;rw[hsl]at hn;exact bd hn
    .rintro rfl;have:=Bd _ _ _ hnd hn;rw[hs]at this;exact bd this
   refine⟨fun h=>?_,fun j o' hj hd hu=>?_⟩
   .have hne:t'≠t:=fun e=>h 0 o bg (by rw[ht',e])
    rw[a1 fun j o' hj=>h (j+1) o' (by simpa using hj),zy _ _ _ _ _ hslen,aj (fun e=>hne (hst.1 e.symm))]
   .cases j with
    |zero=>
     simp at hj;subst hj;have ht:t'=t:=by rw[ht']at hd;exact bd hd
     rw[a1 fun j o' hj hd'=>by have:=hu (j+1) o' (by simpa using hj) hd';omega,zy _ _ _ _ _ hslen,ay (hst.2 ht).symm];simp
    |succ j=>
     rw[show p+(j+1)=p+1+j by omega];exact a2 j o' (by simpa using hj) hd fun j' o'' hj' hd'=>by have:=hu (j'+1) o'' (by simpa using hj') hd';omega
def pY (hnd:C.slots.Nodup){ops:Array Oper}{l:List GI}(hsp:Spec C ops.toList l){env VS:List bI}{a:Act}{x:X}{st:St}(hlen:env.length=C.slots.length)(hm:oM C env (ops.toList.map (·.dst)) VS (· <ops.size) a x)
  (hs:eK C.ν x (look st.m)) (hf:ez st x):Inv C a x (fZ env VS (C.fH 0 ops.toList)) st:=by
 refine⟨by rw[wJ];exact hlen,fun n t hn ho=>?_,hm.size,hm.defers,hs,hf⟩;obtain⟨c1,c2⟩:=qG hnd VS ops.toList 0 env n t hn hlen;by_cases hw:∃j:Nat,(ops.toList.map (·.dst))[j]? =some (some t)
 .obtain⟨j,hj⟩:=hw;have hj':=hj;rw[List.getElem?_map,cS]at hj';obtain⟨o,ho1,ho2⟩:=hj';have e:=c2 j o ho1 ho2 fun j' o' h1 h2=>hsp.distinct hj (by rw[List.getElem?_map,h1,Option.map_some,h2])
  rw[bq]at e;rw[e]at ho⊢;have hjl:j<ops.size:=by simpa using(List.getElem?_eq_some_iff.1 ho1).1
  exact hm.val j t hjl hj ho
 .have hw':∀j:Nat,(ops.toList.map (·.dst))[j]? ≠some (some t):=fun j e=>hw ⟨j,e⟩
  rw[c1 fun j o h1 h2=>hw' j (by rw[List.getElem?_map,h1,Option.map_some,h2])]at ho⊢;exact hm.old n t hn (fun p _=>hw' p) ho
def Md {a:Act}{x:X}{env:List bI}{st:St}(h:Inv C a x env st){c:Operand}{s:Src}(hc:C.src [] c=some s)(hok:(s.ev env []).ok=true):RD C.ν x (a.eval c) (s.ev env []).d:=
 ((h.O0 [] [] (D:=fun _=>False) (fun _ h=>h)).rho (i:=0) (os:=[c]) (fun t p _ hp=>by simp at hp)) c (.head _) s (by simpa using hc) (by simpa using hok)
def Ex.of:Ex->Exit
 | .normal=>.normal
 | .exit id=>.exit id
 | .ret=>.ret
def Post (C:CC)(Q:Ex->List bI->St->Prop)(x0:X):Exit->Act->World->Prop:=fun e a w=>∃e' x' env' st',Ex.of e'=e/\x'.w=w/\Step x0 x'/\Inv C a x' env' st'/\Q e' env' st'
def Inv.weak {a:Act}{x:X}{env env':List bI}{nx:Nat}{m m':List (Nat×bL)}(h:Inv C a x env ⟨nx,m⟩)(hl:Uy env env')(hm:Ou m m'):Inv C a x env' ⟨nx,m'⟩:=by
 have hle:∀(e e':List bI),Uy e e'->e'.length=e.length/\∀n,e'.getD n .un=e.getD n .un\/e'.getD n .un=.un:=by
  intro e;induction e with
  |nil=>intro e' h;cases e'<;>simp_all[Uy]
  |cons b r ih=>
   intro e' h;cases e' with
   |nil=>simp[Uy]at h
   |cons b' r'=>
    simp only[Uy]at h;obtain⟨i1,i2⟩:=ih r' h.2;refine⟨by simp[i1],fun n=>?_⟩;cases n with
    |zero=>simpa using h.1
    |succ n=>simpa using i2 n
 have hsub:∀(m':List (Nat×bL)),Ou m m'->∀l b,look m' l=some b->look m l=some b:=by
  intro m';induction m' with
  |nil=>intro _ l b h;simp[look]at h
  |cons p r ih=>
   grind [Ou,look]
 obtain⟨l1,l2⟩:=hle env env' hl;refine⟨l1.trans h.len,fun n t hn ho=>?_,h.size,h.defers,h.lC.less fun l=>?_,h.fresh.β,fun l hl'=>?_⟩
 .rcases l2 n with e|e
  .rw[e]at ho⊢;exact h.env n t hn ho
  .rw[e];exact .any _
 .cases hl':look m' l with
  |none=>exact .inr (.inl rfl)
  |some b=>exact .inl (hsub m' hm l b hl').symm
 .cases hl2:look m' l with
  |none=>exact absurd hl2 hl'
  |some b=>exact h.fresh.m l (by show look m l≠none;rw[hsub m' hm l b hl2];simp)
theorem yP.cells {d d':D}(h:yP d d'):d'.cells.length=d.cells.length/\∀j,yP (d.cells.getD j .any) (d'.cells.getD j .any):=by
 cases h with
 |refl=>exact⟨rfl,fun j=>.refl _⟩
 |nil k=>exact⟨rfl,fun j=>by match j with
  |0=>exact .nil k
  |j+1=>exact .refl _⟩
 |agg a b hl h=>exact⟨hl,h⟩
 |sl k a b hl h=>exact⟨rfl,fun j=>by match j with
  |0=>exact .sl k a b hl h
  |j+1=>exact .refl _⟩
def yP.aZ {d d':D}(h:yP d d')(hn:d.aZ=true):d'.aZ=true:=by
 induction h with
 |refl=>exact hn
 |nil k=>rfl
 |agg a b hl h ih=>exact px fun i _=>ih i (cH hn i)
 |sl k a b hl h ih=>rfl
def RD.wk {ν:List (Nat×Nat)}{x:X}{v:Value}{d d':D}(hv:RD ν x v d)(hw:yP d d'):RD ν x v d':=by
 induction hv generalizing d' with
 |agg cs ds hl h1 h ih=>
  cases hw with
  |refl=>exact .agg cs ds hl h1 h
  |agg _ b hl2 h2=>exact .agg cs b (hl.trans hl2.symm) (fun i hi=>h1 i ah) (fun i hi=>ih i ah (h2 i))
 |sl a b off len cap k es c hlen ha hcap hm hk hn hc h1 h ih=>
  cases hw with
  |refl=>exact .sl a b off len cap k es c hlen ha hcap hm hk hn hc h1 h
  |sl _ _ es' hl2 h2=>
   refine .sl a b off len cap k es' c (hlen.trans hl2.symm) (ha.imp (fun e=>jM (by rw[hl2,e];rfl)) id) hcap hm (fun i hi=>(h2 i).cells.1.trans (hk i hi)) (fun i hi=>(h2 i).aZ (hn i hi)) hc h1 (fun i j hi hj=>ih i j hi hj ((h2 i).cells.2 j))
 |bM=>
  cases hw with
  |refl=>exact .bM
  |nil k=>exact .sl none 0 0 0 0 k [] (fun _ _=>undef) rfl (.inl rfl) (aM _) (Nat.zero_le _) (fun i hi=>ah) (fun i hi=>ah) (fun i j hi=>ah) (fun i j hi=>ah) (fun i j hi=>ah)
 |any v=>cases hw;exact .any v
 |bool b=>cases hw;exact .bool b
 |int k n=>cases hw;exact .int k n
 |str s h=>cases hw;exact .str s h
 |tup cs ds hl h ih=>cases hw;exact .tup cs ds hl h
 |ref b off k i o at_ es c hI hat hk hn hc h1 h ih=>cases hw;exact .ref b off k i o at_ es c hI hat hk hn hc h1 h
 |ptr l k i o b base tot at_ hβ hat=>cases hw;exact .ptr l k i o b base tot at_ hβ hat
 |own l k i n b base tot cap a hβ ha hcap hm ht=>cases hw;exact .own l k i n b base tot cap a hβ ha hcap hm ht
 |own0 l k i a=>cases hw;exact .own0 l k i a
 |nilp=>cases hw;exact .nilp
 |fn fid n cs ds hν hl h ih=>cases hw;exact .fn fid n cs ds hν hl h
 |ek fid n fs ds hν hl h ih=>cases hw;exact .ek fid n fs ds hν hl h
 |mp r es cl ds hI hh hl h ih=>cases hw;exact .mp r es cl ds hI hh hl h
 |bx b at_ ds v hI hc h1 hl h ih=>cases hw;exact .bx b at_ ds v hI hc h1 hl h
 |ifc t n v ds hν hn hl h ih=>cases hw;exact .ifc t n v ds hν hn hl h
 |ifn=>cases hw;exact .ifn
 |mpn=>cases hw;exact .mpn
 |zp a=>cases hw;exact .zp a
 |nilf=>cases hw;exact .nilf
 |im l b base tot hβ=>cases hw;exact .im l b base tot hβ
 |it l b base tot hβ=>cases hw;exact .it l b base tot hβ
def mG.wk {ν:List (Nat×Nat)}{x:X}{b base tot:Nat}{blk blk':bL}(h:mG ν x b base tot blk)(hw:S2 blk blk'):mG ν x b base tot blk':=by
 match blk,blk',hw with
 | .buf k es,.buf k' es',hw=>
  obtain⟨rfl,hl,h2⟩:=hw;obtain⟨p1,p2,c,T,fr,p3,p4,p5,p6⟩:=h;refine⟨p1,ah,c,T,fr,p3,p4,p5,fun i hi=>⟨(h2 i).cells.1.trans (p6 i ah).1,fun j hj=>⟨((p6 i ah).2 j hj).1,((p6 i ah).2 j hj).2.wk ((h2 i).cells.2 j)⟩⟩⟩
 | .buf k es,.iter s p,hw=>cases hw
 | .buf k es,.row s,hw=>cases hw
 | .buf k es,.bld o n u,hw=>cases hw
 | .buf k es,.mpb s,hw=>cases hw
 | .iter s p,b',hw=>simp only[S2]at hw;subst hw;exact h
 | .row s,b',hw=>simp only[S2]at hw;subst hw;exact h
 | .bld o n u,b',hw=>simp only[S2]at hw;subst hw;exact h
 | .mpb s,b',hw=>simp only[S2]at hw;subst hw;exact h
def Inv.nz {a:Act}{x:X}{env env':List bI}{nx:Nat}{m m':List (Nat×bL)}(h:Inv C a x env ⟨nx,m⟩)(hl:Rd env env')(hm:oJ m m'):Inv C a x env' ⟨nx,m'⟩:=by
 have hle:∀(e e':List bI),Rd e e'->e'.length=e.length/\∀n,(e'.getD n .un).ok=(e.getD n .un).ok/\yP (e.getD n .un).d (e'.getD n .un).d:=by
  intro e;induction e with
  |nil=>
   intro e' h;cases e' with
   |nil=>exact⟨rfl,fun n=>⟨rfl,.refl _⟩⟩
   |cons _ _=>exact h.elim
  |cons b r ih=>
   intro e' h;cases e' with
   |nil=>exact h.elim
   |cons b' r'=>
    obtain⟨i1,i2⟩:=ih r' h.2;refine⟨by simp[i1],fun n=>?_⟩;cases n with
    |zero=>simpa using h.1
    |succ n=>simpa using i2 n
 have hsub:∀(m':List (Nat×bL)),oJ m m'->∀l b',look m' l=some b'->∃b,look m l=some b/\S2 b b':=by
  intro m';induction m' with
  |nil=>intro _ l b h;simp[look]at h
  |cons p r ih=>
   obtain⟨l0,b0⟩:=p;intro hs l b h;simp only[look]at h;split at h
   .rename_i e;subst e;obtain rfl:=bd h;exact hs.1
   .exact ih hs.2 l b h
 obtain⟨l1,l2⟩:=hle env env' hl;have live:∀l,look m' l≠none->look m l≠none:=fun l hl'=>by
  cases hl2:look m' l with
  |none=>exact absurd hl2 hl'
  |some b=>obtain⟨b0,q1,_⟩:=hsub m' hm l b hl2;rw[q1];simp
 refine⟨l1.trans h.len,fun n t hn ho=>?_,h.size,h.defers,⟨fun l blk b base tot e1 e2=>?_,fun l l' b base tot base' tot' e1 e2 e3 e4=>h.lC.inj l l' b base tot base' tot' (live l e1) (live l' e2) e3 e4,h.lC.imm,h.lC.ek,h.lC.gd⟩,h.fresh.β,fun l hl'=>h.fresh.m l (live l hl')⟩
 .obtain⟨q1,q2⟩:=l2 n;rw[q1]at ho;exact(h.env n t hn ho).wk q2
 .obtain⟨b0,q1,q2⟩:=hsub m' hm l blk e1;obtain⟨o1,o2⟩:=h.lC.own l b0 b base tot q1 e2;exact⟨o1,o2.wk q2⟩
def JU (l k:Nat)(es:List D)(d:D):(eS l k es d).cells.length=d.cells.length/\∀j,(eS l k es d).cells.getD j .any=eS l k es (d.cells.getD j .any):=by
 cases d
 case agg cs=>exact⟨by simp[eS,D.cells,fe],fun j=>by simp only[eS,D.cells];exact iY l k es cs j⟩
 case own l' k' i n=>
  grind [eS,D.cells]
 case ptr l' k' i o=>
  grind [eS,D.cells]
 all_goals exact⟨by simp[eS,D.cells],fun j=>by cases j<;>simp[eS,D.cells]⟩
def Ho (l k:Nat)(es:List D):∀e:List bI,(iS l k es e).length=e.length
 |[]=>rfl
 |⟨ok,d⟩::r=>by simp[iS,Ho l k es r]
def CR (l k:Nat)(es:List D):∀(e:List bI) (i:Nat),(iS l k es e).getD i .un=⟨(e.getD i .un).ok,eS l k es (e.getD i .un).d⟩
 |[],i=>by simp[iS,eS,bI.un]
 |⟨ok,d⟩::r,0=>by simp[iS]
 |⟨ok,d⟩::r,i+1=>by simpa[iS]using CR l k es r i
def Da (l k:Nat)(es:List D)(l':Nat):∀m:List (Nat×bL),look (jf l k es m) l'=(look m l').map (jx l k es)
 |[]=>rfl
 |(a,b)::r=>by
  simp only[jf,look];split
  .rfl
  .exact Da l k es l' r
def Inv.Ld {a:Act}{x:X}{env:List bI}{nx:Nat}{m:List (Nat×bL)}(h:Inv C a x env ⟨nx,m⟩)(l:Nat):∃x':X,x'.w=x.w/\Step x x'/\Inv C a x' (Abs.Ld l (env,m)).1 ⟨nx,(Abs.Ld l (env,m)).2⟩:=by
 have hsame:∃x':X,x'.w=x.w/\Step x x'/\Inv C a x' env ⟨nx,m⟩:=⟨x,rfl,.refl x,h⟩
 simp only[Abs.Ld];split
 .rename_i k es hlk;cases hn:aR es with
  |false=>exact hsame
  |true=>
   simp only[cond_true]
   let x':X:=⟨x.w,fun b=>x.I b\/∃p,x.β l=some p/\p.1=b,x.β⟩
   have hle:Le x x':=⟨fun _ h=>.inl h,fun _ _=>rfl,fun _ _ h=>h⟩;have ho:∀b base tot,x.β l=some (b,base,tot)->x'.I b/\(∀i,i<es.length->(es.getD i .any).cells.length=k)/\∃c:Nat->Nat->Value,∀i j,i<es.length->j<k->
     x'.w.cell? ⟨b,base+i*k+j,none⟩=some (c i j)/\(c i j).oneCell'=true/\RD C.ν x' (c i j) ((es.getD i .any).cells.getD j .any):=by
    intro b base tot hβ;obtain⟨o1,o2,o3,c,T,fr,o4,o5,o6,o7⟩:=h.lC.own l _ b base tot hlk hβ;refine⟨.inr ⟨_,hβ,rfl⟩,fun i hi=>(o7 i hi).1,fun i j=>c.getD (base+i*k+j) undef,fun i j hi hj=>⟨?_,((o7 i hi).2 j hj).1,((o7 i hi).2 j hj).2.mono hle⟩⟩;exact cell_of_heap o4 (by have:=iA (tot:=tot) (show i<tot by omega) hj;omega)
   have hrd:∀{v:Value} {d:D},RD C.ν x v d->RD C.ν x' v (eS l k es d):=fun hv=>hv.fz hle hn ho
   refine⟨x',rfl,⟨rfl,rfl,rfl,aM _,fun _ h=>.inl h,fun _ _=>rfl,fun _ _ h=>h,fun _ _ _=>rfl,fun b hb=>?_,fun _ _ h=>.inl h⟩, ?_⟩
   .rcases hb with hb|⟨p,h1,h2⟩
    .exact .inl hb
    .exact .inr (.inr ⟨l,p,h1,h2⟩)
   .have hlook:∀l',look (jf l k es (cA m l)) l'=if l'=l then none else(look m l').map (jx l k es):=fun l'=>by
     rw[Da,fo];split<;>rfl
    refine⟨by rw[Ho];exact h.len,fun n t hn' hok=>?_,h.size,h.defers,⟨fun l' blk b base tot e1 e2=>?_,fun l1 l2 b base tot base' tot' e1 e2 e3 e4=>?_,fun b hb=>?_,h.lC.ek,og hle h.lC.gd⟩,⟨h.fresh.β,fun l' hl'=>?_⟩⟩
    .rw[CR]at hok⊢;exact hrd (h.env n t hn' hok)
    .simp only[hlook]at e1;split at e1
     .cases e1
     .rename_i hne;rw[cS]at e1;obtain⟨blk0,e3,rfl⟩:=e1;obtain⟨o1,o2⟩:=h.lC.own l' blk0 b base tot e3 e2;refine⟨?_, ?_⟩
      .rintro(hb|⟨⟨b',base',tot'⟩,h1,h2⟩)
       .exact o1 hb
       .simp only at h2;subst h2;exact hne (h.lC.inj l' l b' base tot base' tot' (by simp only;rw[e3];simp) (by simp only;rw[hlk];simp) e2 h1)
      .cases blk0 with
       |iter s pos=>exact o2
       |row s=>exact o2
       |bld o n u=>exact o2
       |mpb kvs=>
        obtain⟨p1,es2,cl,p2,p3,p4,p5⟩:=o2;exact⟨p1,es2,cl,p2,p3,p4,fun i hi=>(p5 i hi).mono hle⟩
       |buf k' es'=>
        obtain⟨p1,p2,c,T,fr,p3,p4,p5,p6⟩:=o2;refine⟨p1,by rw[fe];exact p2,c,T,fr,p3,p4,p5,fun i hi=>?_⟩;rw[fe]at hi;obtain⟨q1,q2⟩:=JU l k es (es'.getD i .any);rw[iY,q1];refine⟨(p6 i hi).1,fun j hj=>⟨((p6 i hi).2 j hj).1, ?_⟩⟩;rw[q2];exact hrd ((p6 i hi).2 j hj).2
    .simp only[hlook]at e1 e2;refine h.lC.inj l1 l2 b base tot base' tot' ?_ ?_ e3 e4
     .intro e;simp[e]at e1
     .intro e;simp[e]at e2
    .rcases hb with hb|⟨⟨b',base',tot'⟩,h1,h2⟩
     .exact h.lC.imm b hb
     .simp only at h2;subst h2;exact h.lC.ek l _ _ _ h1
    .simp only[hlook]at hl';refine h.fresh.m l' ?_;intro e;simp only at e;simp[e]at hl'
 .exact hsame
theorem gR {lo:Nat}{σ:List (Nat×Nat)}:∀{ds ds':List D},jm lo σ ds=some ds'->ds'.length=ds.length/\∀i,i<ds.length->kO lo σ (ds.getD i .any)=some (ds'.getD i .any)
 |[],ds',h=>by simp[jm]at h;subst h;exact⟨rfl,fun i hi=>by simp at hi⟩
 |d::r,ds',h=>by
  simp only[jm]at h;split at h
  .rename_i d' r' h1 h2;simp only[aP]at h;subst h;obtain⟨a1,a2⟩:=gR h2
   grind
  .cases h
theorem kF {lo:Nat}{σ:List (Nat×Nat)}{l:Nat}{f:Nat->D}{d:D}(h:vC lo σ l f=some d):∃l',gD lo σ l=some l'/\d=f l':=by
 grind [vC]
def sn {lo c:Nat}:∀{σ:List (Nat×Nat)}{l l':Nat},fk lo c σ=true->gD lo σ l=some l'->l'<c/\(l<lo/\l'=l\/lo<=l'/\(l,l')∈σ)
 |[],l,l',h0,h=>by
  unfold gD at h;simp only[fk,Nat.ble_eq]at h0;cases hb:Nat.blt l lo<;>simp only[hb,cond_true,cond_false,reduceCtorEq,aP]at h;have:l<lo:=by simp[Nat.blt]at hb;omega
  subst h;exact⟨ah,.inl ⟨this,rfl⟩⟩
 |(a,b)::r,l,l',h0,h=>by
  unfold gD at h;simp only[fk,br,Nat.ble_eq]at h0;obtain⟨p2,p3,p4,p5⟩:=h0;have p3:b<c:=by simp[Nat.blt]at p3;omega
  cases hq:Nat.beq a l<;>simp only[hq,cond_true,cond_false,aP]at h
  .obtain⟨q1,q2⟩:=sn p5 h
   grind
  .have:=Nat.eq_of_beq_eq_true hq;subst this;subst h;exact⟨p3,.inr ⟨p2,.head _⟩⟩
def pN {lo c:Nat}:∀{σ:List (Nat×Nat)}{a b:Nat},fk lo c σ=true->(a,b)∈σ->b<c
 |[],a,b,_,h=>by cases h
 |p::r,a,b,h0,h=>by
  simp only[fk,br,Nat.blt,Nat.ble_eq]at h0;rcases cM.1 h with rfl|h
  .have:=h0.2.1;simp only at this;omega
  .exact pN h0.2.2.2 h
theorem Cr {lo c:Nat}:∀{σ:List (Nat×Nat)}{a a' b b':Nat},fk lo c σ=true->(a,b)∈σ->(a',b')∈σ->(b=b'->a=a')
 |[],a,a',b,b',_,h,_=>by cases h
 |(a0,b0)::r,a,a',b,b',h0,h1,h2=>by
  simp only[fk,br,List.all_eq_true,cW]at h0;obtain⟨_,_,p4,p5⟩:=h0;intro e;rcases cM.1 h1 with h1|h1<;>rcases cM.1 h2 with h2|h2
  .simp only[dm]at h1 h2;omega
  .have:=(p4 _ h2).2;simp only[dm]at h1;obtain⟨rfl,rfl⟩:=h1;subst e;simp at this
  .have:=(p4 _ h1).2;simp only[dm]at h2;obtain⟨rfl,rfl⟩:=h2;subst e;simp at this
  .exact Cr p5 h1 h2 e
def kv:List (Nat×Nat)->Nat->Option Nat
 |[],_=>none
 |(a,b)::r,l=>if b=l then some a else kv r l
def kA:∀{σ:List (Nat×Nat)}{l a:Nat},kv σ l=some a->(a,l)∈σ
 |[],l,a,h=>by cases h
 |(a0,b0)::r,l,a,h=>by
  simp only[kv]at h;split at h
  .grind
  .exact .tail _ (kA h)
def vv {lo c:Nat}:∀{σ:List (Nat×Nat)}{l a:Nat},fk lo c σ=true->(a,l)∈σ->kv σ l=some a
 |[],l,a,_,h=>by cases h
 |(a0,b0)::r,l,a,h0,h=>by
  simp only[kv];split
  .grind [Cr]
  .rename_i e;rcases cM.1 h with h|h
   .grind
   .simp only[fk,br]at h0;exact vv h0.2.2.2 h
def Ac {lo:Nat}{σ:List (Nat×Nat)}{d d':D}(h:kO lo σ d=some d'):d'.cells.length=d.cells.length/\∀j,j<d.cells.length->kO lo σ (d.cells.getD j .any)=some (d'.cells.getD j .any):=by
 cases d
 case agg cs=>
  simp only[kO]at h;split at h
  .rename_i cs' h1;obtain rfl:=bd h;exact gR h1
  .cases h
 case tup cs=>
  simp only[kO]at h;split at h
  .obtain rfl:=bd h;exact⟨rfl,fun j hj=>by simp[D.cells]at hj⟩
  .cases h
 case fn f cs=>
  grind [kO,D.cells]
 case own l k i n=>
  grind [kO,kF,D.cells]
 case ptr l k i n=>
  grind [kO,kF,D.cells]
 case it l=>
  grind [kO,kF,D.cells]
 all_goals
  have h0:=h;simp only[kO,aP]at h;subst h;exact⟨rfl,fun j hj=>by simp[D.cells]at hj<;>(subst hj;simpa[D.cells]using h0)⟩
theorem RD.rn {ν:List (Nat×Nat)}{x x':X}{lo:Nat}{σ:List (Nat×Nat)}(hw:x'.w=x.w)(hI:x'.I=x.I)(hβ:∀l l',gD lo σ l=some l'->x'.β l'=x.β l){v:Value}{d:D}(h:RD ν x v d):∀d',kO lo σ d=some d'->RD ν x' v d':=by
 have hk:∀b,x.I b->x'.w.heap[b]? =x.w.heap[b]? :=fun _ _=>by rw[hw]
 have hI':∀b,x.I b->x'.I b:=fun b h=>by rw[hI];exact h
 induction h with
 |any v=>intro d' h;obtain rfl:=bd h;exact .any v
 |bool b=>intro d' h;obtain rfl:=bd h;exact .bool b
 |int k n=>intro d' h;obtain rfl:=bd h;exact .int k n
 |str s h0=>intro d' h;obtain rfl:=bd h;exact .str s h0
 |bM=>intro d' h;obtain rfl:=bd h;exact .bM
 |nilp=>intro d' h;obtain rfl:=bd h;exact .nilp
 |nilf=>intro d' h;obtain rfl:=bd h;exact .nilf
 |sl a b off len cap k' es' c hlen ha hcap hm hk' hn' hc h1 h _=>
  intro d' h2;obtain rfl:=bd h2;exact(RD.sl a b off len cap k' es' c hlen ha hcap hm hk' hn' hc h1 h).aZ rfl hI' hk
 |ref b off k' i o at_ es' c hI0 hat hk' hn' hc h1 h _=>
  intro d' h2;obtain rfl:=bd h2;exact(RD.ref b off k' i o at_ es' c hI0 hat hk' hn' hc h1 h).aZ rfl hI' hk
 |agg cs ds hl' h1 _ ih=>
  intro d' h;simp only[kO]at h;split at h
  .rename_i cs' h2;obtain rfl:=bd h;obtain⟨a1,a2⟩:=gR h2;exact .agg cs cs' ah (fun i hi=>h1 i ah) fun i hi=>ih i ah _ (a2 i ah)
  .cases h
 |tup cs ds hl' _ ih=>
  intro d' h;simp only[kO]at h;split at h
  .rename_i cs' h2;obtain rfl:=bd h;obtain⟨a1,a2⟩:=gR h2;exact .tup cs cs' ah fun i hi=>ih i ah _ (a2 i ah)
  .cases h
 |fn fid n cs ds hν hl' _ ih=>
  intro d' h;simp only[kO]at h;split at h
  .rename_i cs' h2;obtain rfl:=bd h;obtain⟨a1,a2⟩:=gR h2;exact .fn fid n cs cs' hν ah fun i hi=>ih i ah _ (a2 i ah)
  .cases h
 |ek fid n cs ds hν hl' _ ih=>
  grind [kO,gR,ek]
 |mp r es cl ds hI0 hh hl' _ ih=>
  intro d' h;simp only[kO]at h;split at h
  .rename_i cs' h2;obtain rfl:=bd h;obtain⟨a1,a2⟩:=gR h2;exact .mp r es cl cs' (hI' _ hI0) ((hk _ hI0).trans hh) ah fun i hi=>ih i ah _ (a2 i ah)
  .cases h
 |bx b at_ ds v hI0 hc h1 hl' _ ih=>
  intro d' h;simp only[kO]at h;split at h
  .rename_i cs' h2;obtain rfl:=bd h;obtain⟨a1,a2⟩:=gR h2;exact .bx b at_ cs' v (hI' _ hI0) (gU (hk _ hI0) hc) h1 ah fun i hi=>ih i ah _ (a2 i ah)
  .cases h
 |ifc t n v ds hν hn hl' _ ih=>
  intro d' h;simp only[kO]at h;split at h
  .rename_i cs' h2;obtain rfl:=bd h;obtain⟨a1,a2⟩:=gR h2;exact .ifc t n v cs' hν hn ah fun i hi=>ih i ah _ (a2 i ah)
  .cases h
 |ifn=>intro d' h;simp only[kO,jm,aP]at h;subst h;exact .ifn
 |mpn=>intro d' h;simp only[kO,jm,aP]at h;subst h;exact .mpn
 |zp a=>intro d' h;simp only[kO,jm,aP]at h;subst h;exact .zp a
 |ptr l k i o b base tot at_ hb hat=>
  intro d' h;obtain⟨l',h1,rfl⟩:=kF h;exact .ptr l' k i o b base tot at_ ((hβ _ _ h1).trans hb) hat
 |own l k i n b base tot cap a hb ha hcap hm ht=>
  intro d' h;obtain⟨l',h1,rfl⟩:=kF h;exact .own l' k i n b base tot cap a ((hβ _ _ h1).trans hb) ha hcap hm ht
 |own0 l k i a=>
  intro d' h;obtain⟨l',h1,rfl⟩:=kF h;exact .own0 l' k i a
 |im l b base tot hb=>
  intro d' h;simp only[kO]at h;split at h
  .rename_i cs' h2;obtain rfl:=bd h;obtain⟨a1,a2⟩:=gR h2;have a3:=a2 0 bg;obtain⟨l',h1,h3⟩:=kF (show kO lo σ (.it l)=some (cs'.getD 0 .any)from a3)
   match cs',a1,h3 with
   |[c],_,h3=>
    obtain rfl:c=.it l':=h3;exact .im l' b base tot ((hβ _ _ h1).trans hb)
  .cases h
 |it l b base tot hb=>
  intro d' h;obtain⟨l',h1,rfl⟩:=kF h;exact .it l' b base tot ((hβ _ _ h1).trans hb)
def oN:∀{ds ds':List D},EY ds ds'->ds'.length=ds.length/\∀i,i<ds.length->pL (ds.getD i .any) (ds'.getD i .any)
 |[],ds',h=>by simp only[EY]at h;subst h;exact⟨rfl,fun i hi=>by simp at hi⟩
 |d::r,ds',h=>by
  simp only[EY]at h;obtain⟨d',r',rfl,h1,h2⟩:=h;obtain⟨a1,a2⟩:=oN h2
  grind
def zd {d d':D}(h:pL d d'):d'.cells.length=d.cells.length/\∀j,j<d.cells.length->pL (d.cells.getD j .any) (d'.cells.getD j .any):=by
 cases d
 case agg a=>
  simp only[pL]at h;obtain⟨b,rfl,h⟩:=h;exact oN h
 case bM=>
  grind [pL,D.cells]
 all_goals
  have h0:=h;simp only[pL]at h;obtain⟨rfl,hn⟩:=h;refine⟨rfl,fun j hj=>?_⟩;simp[D.cells]at hj;try(subst hj;simpa[D.cells]using h0)
theorem RD.nl {ν:List (Nat×Nat)}{x x':X}(hw:x'.w=x.w)(hI:x'.I=x.I){v:Value}{d:D}(h:RD ν x v d):∀d',pL d d'->RD ν x' v d':=by
 have hk:∀b,x.I b->x'.w.heap[b]? =x.w.heap[b]? :=fun _ _=>by rw[hw]
 have hI':∀b,x.I b->x'.I b:=fun b h=>by rw[hI];exact h
 induction h with
 |bM=>
  intro d' h2;simp only[pL]at h2;rcases h2 with rfl|⟨l,k,i,rfl⟩
  .exact .bM
  .exact .own0 l k i _
 |agg cs ds hl' h1 _ ih=>
  intro d' h;simp only[pL]at h;obtain⟨b,rfl,h⟩:=h;obtain⟨a1,a2⟩:=oN h;exact .agg cs b ah (fun i hi=>h1 i ah) fun i hi=>ih i ah _ (a2 i ah)
 |any v=>intro d' h;simp only[pL]at h;rw[h.1];exact .any v
 |bool b=>intro d' h;simp only[pL]at h;rw[h.1];exact .bool b
 |int k n=>intro d' h;simp only[pL]at h;rw[h.1];exact .int k n
 |str s h0=>intro d' h;simp only[pL]at h;rw[h.1];exact .str s h0
 |tup cs ds hl' h0 _=>intro d' h;simp only[pL]at h;rw[h.1];exact(RD.tup cs ds hl' h0).aZ h.2 hI' hk
 |sl a b off len cap k' es' c hlen ha hcap hm hk' hn' hc h1 h0 _=>
  intro d' h2;simp only[pL]at h2;rw[h2.1];exact(RD.sl a b off len cap k' es' c hlen ha hcap hm hk' hn' hc h1 h0).aZ h2.2 hI' hk
 |ref b off k' i o at_ es' c hI0 hat hk' hn' hc h1 h0 _=>
  intro d' h2;simp only[pL]at h2;rw[h2.1];exact(RD.ref b off k' i o at_ es' c hI0 hat hk' hn' hc h1 h0).aZ h2.2 hI' hk
 |nilp=>intro d' h;simp only[pL]at h;rw[h.1];exact .nilp
 |nilf=>intro d' h;simp only[pL]at h;rw[h.1];exact .nilf
 |fn fid n cs ds hν hl' h0 _=>intro d' h;simp only[pL]at h;rw[h.1];exact(RD.fn fid n cs ds hν hl' h0).aZ h.2 hI' hk
 |ek fid n cs ds hν hl' h0 _=>intro d' h;simp only[pL]at h;rw[h.1];exact(RD.ek fid n cs ds hν hl' h0).aZ h.2 hI' hk
 |mp r es cl ds hI hh hl' h0 _=>intro d' h;simp only[pL]at h;rw[h.1];exact(RD.mp r es cl ds hI hh hl' h0).aZ h.2 hI' hk
 |bx b at_ ds v hI hc h1 hl' h0 _=>intro d' h;simp only[pL]at h;rw[h.1];exact(RD.bx b at_ ds v hI hc h1 hl' h0).aZ h.2 hI' hk
 |ifc t n v ds hν hn hl' h0 _=>intro d' h;simp only[pL]at h;rw[h.1];exact(RD.ifc t n v ds hν hn hl' h0).aZ h.2 hI' hk
 |ifn=>intro d' h;simp only[pL]at h;rw[h.1];exact .ifn
 |mpn=>intro d' h;simp only[pL]at h;rw[h.1];exact .mpn
 |zp a=>intro d' h;simp only[pL]at h;rw[h.1];exact .zp a
 |ptr=>intro d' h;simp only[pL]at h;simp[D.aZ]at h
 |own=>intro d' h;simp only[pL]at h;simp[D.aZ]at h
 |own0=>intro d' h;simp only[pL]at h;simp[D.aZ]at h
 |im=>intro d' h;simp only[pL]at h;simp[D.aZ,aR]at h
 |it=>intro d' h;simp only[pL]at h;simp[D.aZ]at h
def Co {lo:Nat}{σ:List (Nat×Nat)}:∀{e e':List bI},aL lo σ e e'->e'.length=e.length/\∀n,(e'.getD n .un).ok=(e.getD n .un).ok/\Pv lo σ (e.getD n .un).d (e'.getD n .un).d\/e'.getD n .un=.un
 |[],[],_=>⟨rfl,fun n=>.inr bg⟩
 |[],_::_,h=>h.elim
 |_::_,[],h=>h.elim
 |a::r,b::s,h=>by
  simp only[aL]at h;obtain⟨i1,i2⟩:=Co h.2;refine⟨by simp[i1],fun n=>?_⟩;cases n with
  |zero=>simpa using h.1
  |succ n=>simpa using i2 n
def Cq {lo c:Nat}{σ:List (Nat×Nat)}{m:List (Nat×bL)}:∀{m':List (Nat×bL)},aB lo c σ m m'->∀l' b',look m' l'=some b'->(∃l b,gD lo σ l=some l'/\look m l=some b/\lZ lo σ b b')\/(Nat.ble lo l'=true/\Nat.blt l' c=true/\σ.all (fun p=>!Nat.beq p.2 l')=true/\∃k,b'=.buf k [])
 |[],_,l',b',h=>by simp[look]at h
 |(l0,b0)::r,hh,l',b',h=>by
  simp only[aB]at hh;simp only[look]at h;split at h
  .grind
  .exact Cq hh.2 l' b' h
def zB:∀{σ:List (Nat×Nat)}{l:Nat},σ.all (fun p=>!Nat.beq p.2 l)=true->kv σ l=none
 |[],l,_=>rfl
 |(a,b)::r,l,h=>by
  simp only[List.all_cons,br,cW]at h;simp only[kv];rw[aj (fun e=>by subst e;simp at h),zB h.2]
def Inv.ren {a:Act}{x0 x:X}{env env':List bI}{nx:Nat}{m m':List (Nat×bL)}{lo c:Nat}{σ:List (Nat×Nat)}(h:Inv C a x env ⟨nx,m⟩)(hs:Step x0 x)(hlo:∀l,lo<=l->x0.β l=none)(hok:fk lo c σ=true)(he:aL lo σ env env')(hm:aB lo c σ m m'):
  ∃x':X,x'.w=x.w/\Step x0 x'/\Inv C a x' env' ⟨c,m'⟩:=by
 let x':X:=⟨x.w,x.I,fun l'=>if l'<lo then x.β l' else(kv σ l').bind x.β⟩
 have hβ:∀l l',gD lo σ l=some l'->x'.β l'=x.β l:=by
  intro l l' e;obtain⟨p1,p2⟩:=sn hok e;rcases p2 with⟨p2,rfl⟩|⟨p3,p4⟩
  .simp only[x',ay p2]
  .simp only[x',aj (Nat.not_lt.2 p3),vv hok p4,Option.bind_some]
 have hβi:∀l' p,x'.β l'=some p->∃l,x.β l=some p:=by
  intro l' p e;simp only[x']at e;split at e
  .exact⟨l',e⟩
  .obtain⟨l,_,h2⟩:=Option.bind_eq_some_iff.1 e;exact⟨l,h2⟩
 have hrd:∀{v:Value} {d d':D},RD C.ν x v d->Pv lo σ d d'->RD C.ν x' v d':=by
  intro v d d' hv hd;rcases hd with⟨rfl,hn⟩|hd|hd
  .exact hv.aZ hn (fun _ h=>h) (fun _ _=>rfl)
  rotate_left
  .exact RD.nl (x:=x) (x':=x') rfl rfl hv _ hd
  .exact RD.rn (x:=x) (x':=x') rfl rfl hβ hv _ hd
 obtain⟨e1,e2⟩:=Co he;have hm1:=Cq hm;have hm2:∀l' b' p,look m' l'=some b'->x'.β l'=some p->∃l b,gD lo σ l=some l'/\look m l=some b/\lZ lo σ b b':=by
  intro l' b' p h1 h2;rcases hm1 l' b' h1 with h3|⟨q1,q2,q3,q4⟩
  .exact h3
  .have q1:lo<=l':=by simpa using q1
   simp only[x',aj (show ¬l'<lo by omega),zB q3,Option.bind_none]at h2;cases h2
 refine⟨x',rfl,⟨hs.os,hs.tape,hs.output,hs.size,hs.I,hs.lK,fun l p hp=>?_,hs.old,hs.newI,fun l' p hp=>?_⟩,⟨e1.trans h.len,fun n t hn ho=>?_,h.size,h.defers,⟨fun l' blk b base tot e3 e4=>?_,fun l1 l2 b base tot base' tot' e3 e4 e5 e6=>?_,h.lC.imm,fun l' b base tot e=>?_,di.le x _ (fun _ h=>h) (fun _ _=>rfl) h.lC.gd⟩,⟨fun l' hl'=>?_,fun l' hl'=>?_⟩⟩⟩
 .have hl:l<lo:=by
   rcases dQ l lo with h1|h1
   .exact h1
   .rw[hlo l h1]at hp;cases hp
  simp only[x',ay hl];exact hs.β l p hp
 .obtain⟨l,hl⟩:=hβi l' p hp;rcases hs.newβ l p hl with h1|h1|h1
  .exact .inr (.inr ⟨l,p,h1,rfl⟩)
  .exact .inr (.inl h1)
  .exact .inr (.inr h1)
 .rcases e2 n with⟨q1,q2⟩|q
  .rw[q1]at ho;exact hrd (h.env n t hn ho) q2
  .rw[q];exact .any _
 .obtain⟨l,b0,q1,q2,q3⟩:=hm2 l' blk _ e3 e4;rw[hβ l l' q1]at e4;obtain⟨o1,o2⟩:=h.lC.own l b0 b base tot q2 e4;refine⟨o1, ?_⟩;cases b0 with
  |iter s p=>
   cases blk with
   |iter s' p'=>simp only[lZ]at q3;obtain⟨rfl,rfl⟩:=q3;exact o2
   |_=>simp[lZ]at q3
  |row s=>
   cases blk with
   |row s'=>simp only[lZ]at q3;subst q3;exact o2
   |_=>simp[lZ]at q3
  |mpb s=>
   cases blk with
   |mpb s'=>
    simp only[lZ]at q3;subst q3;obtain⟨p1,es2,cl,p2,p3,p4,p5⟩:=o2;exact⟨p1,es2,cl,p2,p3,p4,fun i hi=>(p5 i hi).aZ (cH p1 i) (fun _ h=>h) (fun _ _=>rfl)⟩
   |_=>simp[lZ]at q3
  |bld o n u=>
   cases blk with
   |bld o' n' u'=>
    simp only[lZ]at q3;obtain⟨q3,rfl,rfl⟩:=q3;obtain⟨p1,v,p2,p3⟩:=o2;refine⟨p1,v,p2, ?_⟩;cases o with
    |none=>simp only at q3;subst q3;exact p3
    |some l0=>
     obtain⟨l1,q4,rfl⟩:=q3;obtain⟨g,t,p4,p5,p6⟩:=p3;exact⟨g,t,p4,p5,by rw[hβ l0 l1 q4];exact p6⟩
   |_=>simp[lZ]at q3
  |buf k es=>
   cases blk with
   |iter s' p'=>simp[lZ]at q3
   |row s'=>simp[lZ]at q3
   |bld o' n' u'=>simp[lZ]at q3
   |mpb s'=>simp[lZ]at q3
   |buf k' es'=>
    simp only[lZ]at q3;obtain⟨rfl,q3⟩:=q3;obtain⟨p1,p2,cc,T,fr,p3,p4,p5,p6⟩:=o2;rcases q3 with⟨rfl,hn⟩|q3|q3
    .exact⟨p1,p2,cc,T,fr,p3,p4,p5,fun i hi=>⟨(p6 i hi).1,fun j hj=>⟨((p6 i hi).2 j hj).1,((p6 i hi).2 j hj).2.aZ (j1 (cH hn i) j) (fun _ h=>h) (fun _ _=>rfl)⟩⟩⟩
    rotate_left
    .obtain⟨r1,r2⟩:=oN q3;refine⟨p1,ah,cc,T,fr,p3,p4,p5,fun i hi=>?_⟩;have hi':i<es.length:=ah;obtain⟨s1,s2⟩:=zd (r2 i hi');refine⟨s1.trans (p6 i hi').1,fun j hj=>⟨((p6 i hi').2 j hj).1,hrd ((p6 i hi').2 j hj).2 (.inr (.inr (s2 j (by rw[(p6 i hi').1];exact hj))))⟩⟩
    .obtain⟨r1,r2⟩:=gR q3;refine⟨p1,ah,cc,T,fr,p3,p4,p5,fun i hi=>?_⟩;have hi':i<es.length:=ah;obtain⟨s1,s2⟩:=Ac (r2 i hi');refine⟨s1.trans (p6 i hi').1,fun j hj=>⟨((p6 i hi').2 j hj).1,hrd ((p6 i hi').2 j hj).2 (.inr (.inl (s2 j (by rw[(p6 i hi').1];exact hj))))⟩⟩
 .cases f1:look m' l1 with
  |none=>simp only at e3;exact absurd f1 e3
  |some b1=>
   cases f2:look m' l2 with
   |none=>simp only at e4;exact absurd f2 e4
   |some b2=>
    obtain⟨l1',b1',q1,q2,_⟩:=hm2 l1 b1 _ f1 e5;obtain⟨l2',b2',r1,r2,_⟩:=hm2 l2 b2 _ f2 e6;rw[hβ _ _ q1]at e5;rw[hβ _ _ r1]at e6;have:=h.lC.inj l1' l2' b base tot base' tot' (by simp only;rw[q2];simp) (by simp only;rw[r2];simp) e5 e6;subst this;rw[q1]at r1;exact bd r1
 .obtain⟨l,hl⟩:=hβi l' _ e;exact h.lC.ek l b base tot hl
 .have hc:lo<=c:=by
   clear hβ hrd e2 hm2 he hm;induction σ with
   |nil=>simpa[fk]using hok
   |cons p r ih=>simp only[fk,br,Nat.ble_eq,Nat.blt]at hok;omega
  have hl'':c<=l':=hl';simp only[x',aj (show ¬l'<lo by omega)];cases hi:kv σ l' with
  |none=>rfl
  |some l=>
   have hmem:=kA hi;have:=pN hok hmem;omega
 .cases f1:look m' l' with
  |none=>simp only at hl';exact absurd f1 hl'
  |some b1=>
   rcases hm1 l' b1 f1 with⟨l,b,q1,_⟩|⟨_,q2,_⟩
   .exact(sn hok q1).1
   .simp only;simp[Nat.blt]at q2;omega
def Inv.ghost {a:Act}{x0:X}{lo:Nat}{env env':List bI}{st st':St}(hlo:∀l,lo<=l->x0.β l=none)(g:aO lo env st env' st'):∀{x:X},Inv C a x env st->Step x0 x->∃x':X,x'.w=x.w/\Step x0 x'/\Inv C a x' env' st':=by
 induction g with
 |refl env st=>intro x h hs;exact⟨x,rfl,hs,h⟩
 |Ld l env st=>
  intro x h hs;obtain⟨x',a1,a2,a3⟩:=Inv.Ld (nx:=st.nx) (m:=st.m) h l;exact⟨x',a1,hs.trans a2,a3⟩
 |ren σ c env env' nx m m' h0 he hm=>intro x h hs;exact h.ren hs hlo h0 he hm
 |wk env env' nx m m' he hm=>intro x h hs;exact⟨x,rfl,hs,h.weak he hm⟩
 |nz env env' nx m m' he hm=>intro x h hs;exact⟨x,rfl,hs,h.nz he hm⟩
 |trans env1 env2 env3 st1 st2 st3 g1 g2 ih1 ih2=>
  grind
def least {p:Nat->Prop}(h:∃n,p n):∃n,p n/\∀m,p m->n<=m:=by
 obtain⟨n,hn⟩:=h;induction n using Nat.strongRecOn with
 |_ n ih=>
  grind
def nK (hΓ:Ok C.P C.ν C.cr Y)(hnd:C.slots.Nodup)(hmix:C.P.follows .mixedOrders=true)(x0:X)(hlo:∀l,Y.lo<=l->x0.β l=none):∀(c:Code) (ac:AC),C.code c=some ac->∀(Q:Ex->List bI->St->Prop) (env:List bI) (st:St) (a:Act) (x:X),
  bO Y ac Q env st->Inv C a x env st->Step x0 x->c.wp C.P (Post C Q x0) a x.w:=by
 intro c;induction c with
 |skip=>
  intro ac hc Q env st a x hw hi hs;simp only[CC.code,aP]at hc;subst hc;obtain⟨env,st,hgh,hw⟩:=hw;obtain⟨x,hxf,hs,hi⟩:=Inv.ghost hlo hgh hi hs;rw[<-hxf];exact wp_skip ⟨.normal,x,env,st,rfl,rfl,hs,hi,hw⟩
 |region id ops draw=>
  intro ac hc Q env st a x hw hi hs;simp only[CC.code]at hc;split at hc
  .rename_i l0 hl;cases draw with
   |false=>
    .simp only[iG,aS,aP]at hc;subst hc;have hsp:=Spec.start hl;simp only[bO]at hw;obtain⟨env,st,hgh,hw⟩:=hw;obtain⟨x,hxf,hs,hi⟩:=Inv.ghost hlo hgh hi hs;rw[<-hxf];refine wp_region ?_;rw[List.range_eq_range'];refine HP hsp hΓ (x0:=x0) (K:=fun vs st'=>Q .normal (fZ env vs (C.fH 0 ops.toList)) st') (fun vs' st' a' x' hk _ hm hst hsm hfr=>?_) ops.size 0 [] st x a ah rfl (hi.O0 _ _ (fun p h=>ah)) hs hi.lC hi.fresh hw;exact⟨.normal,x',_,st',rfl,rfl,hst,pY hnd hsp hi.len hm hsm hfr,hk⟩
   |true=>
    simp only[aY]at hc;split at hc
    .rename_i hdo;simp only[aP]at hc;subst hc;have hsp:=(Spec.start hl).kM (jV [] ops.toList);generalize kM (jV [] ops.toList) l0 0 l0=l at hsp hdo hw;simp only[bO]at hw;obtain⟨env,st,hgh,hw⟩:=hw;obtain⟨x,hxf,hs,hi⟩:=Inv.ghost hlo hgh hi hs;rw[<-hxf];have ho:=Nj hdo;have hasm:∀g∈l,∀vs',g.i.zh true (Src.ev env vs'):=by
      intro g hg vs';refine E3 fun s _ hS hok=>?_
      have:=hS rfl;obtain⟨n,rfl⟩:∃n,s=.s n:=by
       cases s<;>simp only[Src.xf]at this<;>first
        |exact⟨_,rfl⟩
        |cases this
      simp only[Src.ev]at hok⊢;by_cases hn:n<C.slots.length
      .exact⟨_,_,_,hi.env n C.slots[n] (by simp[hn]) hok⟩
      .refine⟨C.ν,x,undef, ?_⟩;have:env.getD n .un=.un:=by simp[List.getD,List.getElem?_eq_none (show env.length<=n by rw[hi.len];omega)]
       rw[this];exact .any _
     rcases UH hdo with hnM|hlm
     .obtain⟨VS,M,tr,hM0,hk⟩:=pC hnM hasm hi.fresh.m hw;have hg:fU x.w {x.w with drawn:=x.w.drawn+1}:=⟨rfl,rfl,rfl,aM _,fun _ _=>rfl⟩
      let x1:X:=⟨{x.w with drawn:=x.w.drawn+1},x.I,x.β⟩
      have hst1:Step x x1:=Step.grow hg hi.lC.imm;have hs1:eK C.ν x1 (look st.m):=hi.lC.grow hg;refine wp_region_any hmix ?_;refine CH hsp ho hnM hΓ tr (x0:=x0) (fun a' x' hm hst hsm hfr=>?_) ops.size _ a x1 (look st.m) 0 ?_ ?_
      .exact⟨.normal,x',_,_,rfl,rfl,hst,pY hnd hsp hi.len hm hsm hfr,hk⟩
      .have hno:∀p,¬(Array.replicate ops.size false).getD p false=true:=fun p=>by
        simp[Array.getElem?_replicate];split<;>simp
       refine⟨?_,hs.trans hst1,hs1,bg,fun j hj=>absurd hj (hno j),fun l' hl' _=>hi.fresh.β l' hl',fun p g _ _=>⟨fun h=>absurd h (hno p),fun h=>ah⟩,fun l' hl'=>?_,fun q g _ _ _ h=>absurd h (hno q)⟩
       .have:=hi.O0 (ops.toList.map (·.dst)) VS (D:=fun p=>(Array.replicate ops.size false).getD p false=true) hno;exact⟨fun p t hp=>absurd hp (hno p),fun p t hp=>absurd hp (hno p),fun n t hn h1 h2=>(this.old n t hn h1 h2).mono hst1.le,this.size,this.defers⟩
       .have hlt:l'<st.nx:=by
         rcases dQ l' st.nx with h1|h1
         .exact h1
         .exact absurd (hi.fresh.β l' h1) hl'
        rw[show max 0 (l'+1-st.nx)=0 by omega,hM0]
      .unfold L0;exact eP (List.length_filter_le _ _) bg
     .obtain⟨l',suf,rfl,hsuf,hfull,hnM⟩:=Fz hlm;have hlen:l'.length+suf.length=ops.size:=by have:=hsp.len;simpa using this
      have hsz:ops.size=l'.length+suf.length:=hlen.symm;have hpl:(ops.extract 0 l'.length).toList=ops.toList.take l'.length:=bg;have hpz:(ops.extract 0 l'.length).size=l'.length:=dH;have hops:ops.toList=(ops.extract 0 l'.length).toList++ops.toList.drop l'.length:=by rw[hpl,List.take_append_drop]
      generalize ops.extract 0 l'.length=ps at hpl hpz hops;have hpop:∀j,j<l'.length->ps.toList[j]? =ops.toList[j]? :=fun j hj=>by rw[hpl,List.getElem?_take,ay hj]
      have hdd:∀j,j<l'.length->(ps.toList.map (·.dst))[j]? =(ops.toList.map (·.dst))[j]? :=fun j hj=>by
       rw[List.getElem?_map,List.getElem?_map,hpop j hj]
      have htk:∀j,j<=l'.length->(ps.toList.map (·.dst)).take j=(ops.toList.map (·.dst)).take j:=fun j hj=>by
       rw[hpl,List.map_take,List.take_take,Nat.min_eq_left hj]
      have hsp':Spec C ps.toList l':=by
       refine⟨by simpa using hpz.symm,fun i oi hoi=>?_,fun i oi d hoi hd=>?_⟩
       .have hi':i<l'.length:=by have:=(List.getElem?_eq_some_iff.1 hoi).1;simp at this;omega
        rw[hpop i hi']at hoi;obtain⟨g,g1,g2,g3⟩:=hsp.op i oi hoi;rw[List.getElem?_append_left hi']at g1;exact⟨g,g1,by rw[htk i ah];exact g2,by rw[htk i ah];exact g3⟩
       .have hi':i<l'.length:=by have:=(List.getElem?_eq_some_iff.1 hoi).1;simp at this;omega
        rw[hpop i hi']at hoi;obtain⟨h1,h2⟩:=hsp.dst i oi d hoi hd;exact⟨h1,fun p hp=>by rw[hdd p ah];exact h2 p hp⟩
      have ho':Order ps.toList l' (jV [] ops.toList):=Order.pre (os:=ops.toList.drop l'.length) (ls:=suf) (by rw[<-hops];exact ho);have hgd:∀(i:Nat) (o:Oper),ops[i]? =some o->∀j w,o.guard=some (j,w)->j<i:=by
       intro i oi hoi j w hj;obtain⟨g,_,_,g3⟩:=hsp.op i oi (by simpa using hoi);rw[hj]at g3;simp only[CC.guard]at g3;split at g3
       .rename_i t ht;have:=(List.getElem?_eq_some_iff.1 ht).1;simp only[pH]at this;omega
       .cases g3
      have hw':=yh l' [] st rfl hnM hw;obtain⟨VS,M,tr,hM0,hk⟩:=pC hnM (fun g hg=>hasm g (List.mem_append_left _ hg)) hi.fresh.m hw';have hVS:VS.length=l'.length:=tr.len;have hg:fU x.w {x.w with drawn:=x.w.drawn+1}:=⟨rfl,rfl,rfl,aM _,fun _ _=>rfl⟩
      let x1:X:=⟨{x.w with drawn:=x.w.drawn+1},x.I,x.β⟩
      have hst1:Step x x1:=Step.grow hg hi.lC.imm;have hs1:eK C.ν x1 (look st.m):=hi.lC.grow hg;refine wp_region_any hmix ?_;have hno:∀(n p:Nat),¬(Array.replicate n false).getD p false=true:=fun n p=>by
       simp[Array.getElem?_replicate];split<;>simp
      rw[hsz];refine zf suf.length hsz bg ho hfull hgd a x1.w ?_;rw[show ops.extract 0 l'.length=ps by apply Array.ext';rw[hpl];simp];refine CH hsp' ho' hnM hΓ tr (x0:=x0) (fun a' x' hm hst hsm hfr=>?_) l'.length _ a x1 (look st.m) 0 ?_ ?_
      ·
       show wpOps C.P ops _ (List.range' l'.length suf.length) a' x'.w;have hk2:=Oa hsuf hk;simp only at hk2;rw[show st.nx+l'.length-VS.length=st.nx by omega]at hk2;have hmid:oM C env (ops.toList.map (·.dst)) VS (· <l'.length) a' x':=by
        refine⟨fun p t hp h1 h2=>hm.val p t (by rw[hpz];exact hp) (by rw[hdd p hp];exact h1) h2,fun p t hp h1 h2=>hm.und p t (by rw[hpz];exact hp) (by rw[hdd p hp];exact h1) h2,fun n t hn h1 h2=>hm.old n t hn (fun p hp=>?_) h2,hm.size,hm.defers⟩;have hp':p<l'.length:=by have hp:p<ps.size:=hp;omega
        rw[hdd p hp'];exact h1 p hp'
       exact HP hsp hΓ (x0:=x0) (K:=fun vs st'=>Q .normal (fZ env vs (C.fH 0 ops.toList)) st') (fun vs' st' a' x' hk _ hm hst hsm hfr=>⟨.normal,x',_,st',rfl,rfl,hst,pY hnd hsp hi.len hm hsm hfr,hk⟩) suf.length l'.length VS ⟨st.nx,M l'.length⟩ x' a' hlen hVS hmid hst hsm hfr (by rw[List.drop_left];exact hk2)
      .refine⟨?_,hs.trans hst1,hs1,by simp[hpz],fun j hj=>absurd hj (hno _ j),fun l' hl' _=>hi.fresh.β l' hl',fun p g _ _=>⟨fun h=>absurd h (hno _ p),fun h=>ah⟩,fun l' hl'=>?_,fun q g _ _ _ h=>absurd h (hno _ q)⟩
       .have:=hi.O0 (ps.toList.map (·.dst)) VS (D:=fun p=>(Array.replicate l'.length false).getD p false=true) (hno _);exact⟨fun p t hp=>absurd hp (hno _ p),fun p t hp=>absurd hp (hno _ p),fun n t hn h1 h2=>(this.old n t hn h1 h2).mono hst1.le,this.size,this.defers⟩
       .have hlt:l'<st.nx:=by
         rcases dQ l' st.nx with h1|h1
         .exact h1
         .exact absurd (hi.fresh.β l' h1) hl'
        rw[show max 0 (l'+1-st.nx)=0 by omega,hM0]
      .unfold L0;refine eP (List.length_filter_le _ _) (by simp[hpz])
    .simp only[cS]at hc;obtain⟨l',hlo',rfl⟩:=hc;obtain⟨pre,f,ss,suf,rfl,rfl,hpu,hsuf,hro,hed,hfull⟩:=Dc hlo';have hsp:=Spec.start hl;simp only[bO]at hw;obtain⟨env,st,hgh,hw⟩:=hw;obtain⟨x,hxf,hs,hi⟩:=Inv.ghost hlo hgh hi hs;rw[<-hxf];have ho:=Du hro hed;have hncm:∀g∈pre,g.i.cN=false:=fun g hg=>by
      rcases hpu g hg with h|h
      .obtain⟨gi,gg⟩:=g;cases gi<;>first|rfl|(simp[aG.pure]at h;done)
      .obtain⟨gi,gg⟩:=g;cases gi<;>first|rfl|(simp[aG.yW]at h;done)
     have hsz:ops.size=(pre.length+1)+suf.length:=by have:=hsp.len;simp at this;omega
     have hasm:∀g∈pre,∀vs',g.i.zh true (Src.ev env vs'):=by
      intro g hg vs';refine E3 fun s _ hS hok=>?_
      have:=hS rfl;obtain⟨n,rfl⟩:∃n,s=.s n:=by
       cases s<;>simp only[Src.xf]at this<;>first
        |exact⟨_,rfl⟩
        |cases this
      simp only[Src.ev]at hok⊢;by_cases hn:n<C.slots.length
      .exact⟨_,_,_,hi.env n C.slots[n] (by simp[hn]) hok⟩
      .refine⟨C.ν,x,undef, ?_⟩;have:env.getD n .un=.un:=by simp[List.getD,List.getElem?_eq_none (show env.length<=n by rw[hi.len];omega)]
       rw[this];exact .any _
     have hw':=yh pre [] st rfl hncm hw;obtain⟨VS,M,tr,hM0,hk⟩:=pC hncm hasm hi.fresh.m hw';have hVS:VS.length=pre.length:=tr.len;have hMc:∀k,M k=st.m:=by
      intro k;induction k with
      |zero=>exact hM0
      |succ k ih=>
       cases hg:pre[k]? with
       |none=>rw[tr.stop k hg,ih]
       |some g=>
        rw[tr.step k g hg,ih];rcases hpu g (List.mem_of_getElem? hg)with h|h
        .exact DA h
        .obtain⟨gi,gg⟩:=g;cases gi<;>first|rfl|(simp[aG.yW]at h;done)
     have hg:fU x.w {x.w with drawn:=x.w.drawn+1}:=⟨rfl,rfl,rfl,aM _,fun _ _=>rfl⟩
     let x1:X:=⟨{x.w with drawn:=x.w.drawn+1},x.I,x.β⟩
     have hst1:Step x x1:=Step.grow hg hi.lC.imm;have hs1:eK C.ν x1 (look st.m):=hi.lC.grow hg;refine wp_region_any hmix ?_;have hno:∀(n p:Nat),¬(Array.replicate n false).getD p false=true:=fun n p=>by
      simp[Array.getElem?_replicate];split<;>simp
     rw[hMc]at hk;simp only[ew]at hk;obtain⟨_,k1,k2⟩:=hk;rw[show st.nx+pre.length-VS.length+VS.length=st.nx+pre.length by omega,hVS]at k2;refine J4 (n:=pre.length) (nx:=st.nx) (m:=st.m) (x0:=x0) hΓ hsp rfl rfl ho hVS (Qy hl) (fun i o t hoi ht=>?_) hpu hsuf (fun i g hgi=>?_) (fun i k ag p gd hgi=>by simpa using wI (b:=(jV [] ops.toList).getD pre.length 0) (p:=0) hgi) hfull k1
      (K:=fun vs st'=>Q .normal (fZ env vs (C.fH 0 ops.toList)) st') ?_ (hs.trans hst1) hs1 ?_ (fun vs' st' a' x' hk _ hm hst hsm hfr=>⟨.normal,x',_,st',rfl,rfl,hst,pY hnd hsp hi.len hm hsm hfr,hk⟩) ops.size _ a bg (fun p _=>by simp[Array.getElem?_replicate];split<;>simp) (fun j hj=>absurd hj (hno _ j)) ?_ ?_
     .have hoi':ops.toList[i]? =some o:=by simpa using hoi
      obtain⟨h1,h2⟩:=hsp.dst i o t hoi' ht;exact⟨h1,fun p hp e=>hp (hsp.distinct (by rw[List.getElem?_map,hoi',Option.map_some,ht]) e)⟩
     .obtain⟨e1,e2⟩:=tr.ent i g hgi;refine⟨e1,tr.ET i g hgi,fun hf=>?_⟩;have h1:=tr.dE i g hgi hf;have h2:=e2 hf;rw[hMc]at h1 h2;exact⟨h1,h2⟩
     .exact k2
     .exact⟨fun l' hl'=>hi.fresh.β l' (by have:st.nx+pre.length<=l':=hl';omega),fun l' hl'=>by have:=hi.fresh.m l' hl';simp only;omega⟩
     .have:=hi.O0 (ops.toList.map (·.dst)) VS (D:=fun p=>(Array.replicate ops.size false).getD p false=true) (hno _);exact⟨fun p t hp=>absurd hp (hno _ p),fun p t hp=>absurd hp (hno _ p),fun n t hn h1 h2=>(this.old n t hn h1 h2).mono hst1.le,this.size,this.defers⟩
     .unfold L0;exact eP (List.length_filter_le _ _) bg
  .cases hc
 |seq c1 c2 ih1 ih2=>
  intro ac hc Q env st a x hw hi hs;simp only[CC.code]at hc;split at hc
  .rename_i a1 a2 h1 h2;simp only[aP]at hc;subst hc;simp only[bO]at hw;obtain⟨env,st,hgh,hw⟩:=hw;obtain⟨x,hxf,hs,hi⟩:=Inv.ghost hlo hgh hi hs;rw[<-hxf];refine wp_seq (wp_mono (ih1 a1 h1 _ env st a x hw hi hs) fun e a' w' hp=>?_);obtain⟨e',x',env',st',he,hxw,hst,hi',hq⟩:=hp;subst hxw;cases e' with
   |normal=>subst he;exact ih2 a2 h2 Q env' st' a' x' hq hi' hst
   |exit id=>subst he;exact⟨.exit id,x',env',st',rfl,rfl,hst,hi',hq⟩
   |ret=>subst he;exact⟨.ret,x',env',st',rfl,rfl,hst,hi',hq⟩
  .cases hc
 |cond c c1 c2 ih1 ih2=>
  intro ac hc Q env st a x hw hi hs;simp only[CC.code]at hc;split at hc
  .rename_i s a1 a2 h0 h1 h2;simp only[aP]at hc;subst hc;simp only[bO]at hw;obtain⟨env,st,hgh,hw⟩:=hw;obtain⟨x,hxf,hs,hi⟩:=Inv.ghost hlo hgh hi hs;rw[<-hxf];obtain⟨hok,hw⟩:=hw;have hv:=Md hi h0 hok;cases hd:(s.ev env []).d<;>simp only[hd]at hw;rename_i t;rw[hd]at hv;cases t with
   |true=>exact wp_cond_true hv.iW (ih1 a1 h1 Q env st a x (hw.1 rfl) hi hs)
   |false=>exact wp_cond_false hv.iW (ih2 a2 h2 Q env st a x (hw.2 rfl) hi hs)
  .cases hc
 |block id c1 ih=>
  intro ac hc Q env st a x hw hi hs;simp only[CC.code,cS]at hc;obtain⟨a1,h1,rfl⟩:=hc;simp only[bO]at hw;obtain⟨env,st,hgh,hw⟩:=hw;obtain⟨x,hxf,hs,hi⟩:=Inv.ghost hlo hgh hi hs;rw[<-hxf];refine wp_block (wp_mono (ih a1 h1 _ env st a x hw hi hs) fun e a' w' hp=>?_);obtain⟨e',x',env',st',he,hxw,hst,hi',hq⟩:=hp;subst hxw;cases e' with
  |normal=>subst he;exact⟨.normal,x',env',st',rfl,rfl,hst,hi',hq⟩
  |exit j=>
   subst he;simp only[Ex.of,Exit.inBlock];by_cases hj:j=id
   .rw[ay hj];simp only[hj,aY]at hq;exact⟨.normal,x',env',st',rfl,rfl,hst,hi',hq⟩
   .rw[aj hj];simp only[hj,aS]at hq;exact⟨.exit j,x',env',st',rfl,rfl,hst,hi',hq⟩
  |ret=>subst he;exact⟨.ret,x',env',st',rfl,rfl,hst,hi',hq⟩
 |loop c1 ih=>
  intro ac hc Q env st a x hw hi hs;simp only[CC.code,cS]at hc;obtain⟨a1,h1,rfl⟩:=hc;simp only[bO]at hw;obtain⟨env,st,hgh,hw⟩:=hw;obtain⟨x,hxf,hs,hi⟩:=Inv.ghost hlo hgh hi hs;rw[<-hxf];obtain⟨I,μ,hI,hround⟩:=hw
  let W:Act->World->Nat->Prop:=fun a w n=>∃env st x,x.w=w/\Step x0 x/\Inv C a x env st/\I env st/\μ env st=n
  open Classical in
  let μ':Act->World->Nat:=fun a w=>if h:∃n,W a w n then Classical.choose (least h)else 0
  refine wp_loop (fun a w=>∃n,W a w n) μ' ⟨_,env,st,x,rfl,hs,hi,hI,rfl⟩ fun a w hIn=>?_
  have hμ:μ' a w=Classical.choose (least hIn):=dif_pos hIn;obtain⟨env2,st2,x2,hxw,hst2,hi2,hI2,hmu⟩:=(Classical.choose_spec (least hIn)).1;subst hxw;refine wp_mono (ih a1 h1 _ env2 st2 a x2 (hround env2 st2 hI2) hi2 hst2) fun e a' w' hp=>?_
  obtain⟨e',x',env',st',he,hxw,hst,hi',hq⟩:=hp;subst hxw;cases e' with
  |normal=>
   subst he;obtain⟨env3,st3,hgh3,hI3,hlt⟩:=hq;obtain⟨x',hxf',hst,hi'⟩:=Inv.ghost hlo hgh3 hi' hst;rw[<-hxf'];have hW:W a' x'.w (μ env3 st3):=⟨env3,st3,x',rfl,hst,hi',hI3,rfl⟩;refine⟨⟨_,hW⟩, ?_⟩;have h2:μ' a' x'.w=Classical.choose (least (⟨_,hW⟩:∃n,W a' x'.w n)):=dif_pos ⟨_,hW⟩;rw[h2,hμ];exact Nat.lt_of_le_of_lt ((Classical.choose_spec (least (⟨_,hW⟩:∃n,W a' x'.w n))).2 _ hW) (by rw[<-hmu];exact hlt)
  |exit id=>subst he;exact⟨.exit id,x',env',st',rfl,rfl,hst,hi',hq⟩
  |ret=>subst he;exact⟨.ret,x',env',st',rfl,rfl,hst,hi',hq⟩
 |exit id=>
  intro ac hc Q env st a x hw hi hs;simp only[CC.code,aP]at hc;subst hc;obtain⟨env,st,hgh,hw⟩:=hw;obtain⟨x,hxf,hs,hi⟩:=Inv.ghost hlo hgh hi hs;rw[<-hxf];exact wp_exit ⟨.exit id,x,env,st,rfl,rfl,hs,hi,hw⟩
 |ret=>
  intro ac hc Q env st a x hw hi hs;simp only[CC.code,aP]at hc;subst hc;obtain⟨env,st,hgh,hw⟩:=hw;obtain⟨x,hxf,hs,hi⟩:=Inv.ghost hlo hgh hi hs;rw[<-hxf];exact wp_ret ⟨.ret,x,env,st,rfl,rfl,hs,hi,hw⟩
 |scope c1 ih=>
  intro ac hc Q env st a x hw hi hs;simp only[CC.code]at hc;refine wp_scope_straight (wp_mono (ih ac hc Q env st a x hw hi hs) fun e a' w' hp=>?_);obtain⟨e',x',env',st',he,hxw,hst,hi',hq⟩:=hp;subst he;cases e'<;>exact⟨_,x',env',st',rfl,hxw,hst,hi',hq⟩
 |label l=>
  intro ac hc Q env st a x hw hi hs;simp only[CC.code,aP]at hc;subst hc;obtain⟨env,st,hgh,hw⟩:=hw;obtain⟨x,hxf,hs,hi⟩:=Inv.ghost hlo hgh hi hs;rw[<-hxf];exact wp_label ⟨.normal,x,env,st,rfl,rfl,hs,hi,hw⟩
 |_=>intro ac hc;simp[CC.code]at hc
end
end
section
variable [di]
section
variable {C:CC} {Y:Ctx}
def MR {P:Program}{ν:List (Nat×Nat)}{x:X}{f:Nat->Option bL}{m:List (Nat×bL)}{t:TypeId}{v:Value}{d:D}(hsm:∀fid n,dp ν fid=some n->n<1000000)(hn0:P.cellsOf t≠0)(hu:(P.underlying t).isNone=false)(h1':cI P t=false->P.cellsOf t=1)
  (hv:RD ν x v d) (k2:uN m (P.cellsOf t) d) (hs:eK ν x f) (hag:∀l,look m l≠none->f l=look m l):
  ∃ad u,v=.pointer (some ad)/\(loadVar t ad).run P x.w=.ok u x.w/\RD ν x u (uc m (P.cellsOf t) (cI P t) d):=by
 cases d<;>simp only[uN]at k2
 .rename_i k es i o';cases hv with
  |ref b off _ _ _ at_ _ c hI hat hk hn hcc hone hh=>
   obtain⟨v,r1,r2⟩:=nU (P:=P) (ν:=ν) (x:=x) (e:=es.getD i .any) (k:=k) (n:=P.cellsOf t) (o:=o') (b:=b) (at0:=off+i*k) (ag:=cI P t) (ty:=t) (c:=c i) (hk i k2.1) k2.2
    (fun j hj=>⟨hcc i j k2.1 hj,hone i j k2.1 hj,hh i j k2.1 hj⟩) rfl hn0 hu rfl h1'
   grind [uc]
 .rename_i l k i o';cases hv with
  |ptr _ _ _ _ b base tot at_ hβ hat=>
   obtain⟨g1,g2,hnI,hk0,ht,c,T,fr,q1,q2,q3,q4⟩:=rI hs hag k2.1 hβ;have hi:i<(bh m l).length:=ah;obtain⟨v,r1,r2⟩:=nU (P:=P) (ν:=ν) (x:=x) (e:=(bh m l).getD i .any) (k:=k) (n:=P.cellsOf t) (o:=o') (b:=b) (at0:=base+i*k) (ag:=cI P t) (ty:=t) (c:=fun j=>c.getD (base+i*k+j) undef)
    ((q4 i hi).1) k2.2
    (fun j hj=>⟨cell_of_heap q1 (by have:=iA (tot:=tot) (show i<tot by omega) hj;omega),((q4 i hi).2 j hj).1,((q4 i hi).2 j hj).2⟩) rfl hn0 hu rfl h1'
   grind [uc]
 .rename_i q es;obtain⟨hq2,e1,e2,e3⟩:=k2;cases hv with
  |mp=>exfalso;omega
  |ifc=>exfalso;omega
  |ifn=>exfalso;omega
  |mpn=>exfalso;omega
  |zp=>exfalso;omega
  |im=>exfalso;omega
  |fn fid _ cs ds hν=>exact absurd (hsm _ _ hν) ah
  |ek fid _ cs ds hν=>exact absurd (hsm _ _ hν) ah
  |bx b at_ _ v0 hI hc0 h1 hl hh=>
   obtain⟨v,r1,r2⟩:=nU (P:=P) (ν:=ν) (x:=x) (e:=es.getD 0 .any) (k:=1) (n:=P.cellsOf t) (o:=0) (b:=b) (at0:=at_) (ag:=cI P t) (ty:=t) (c:=fun _=>v0) (by rw[e3];rfl) ah
    (fun j hj=>by obtain rfl:j=0:=ah;exact⟨hc0,h1,by rw[e3];exact hh 0 ah⟩) rfl hn0 hu rfl h1'
   exact⟨_,v,rfl,r1,by simpa only[uc]using r2⟩
def yk (a:Act):ResultVar->Sem Value
 | .tmp t=>pure (a.tmps.getD t undef)
 | .cell ad t=>do loadVar t (<-asAddr (a.tmps.getD ad undef))
def pD (hsm:∀fid n,dp C.ν fid=some n->n<1000000){a:Act}{x:X}{env:List bI}{st:St}(hi:Inv C a x env st):∀(rs:List ResultVar) (ars:List Ci),sk C.P C.slots rs=some ars->mN st.m env ars->
  ∃vs,(rs.mapM (yk a)).run C.P x.w=.ok vs x.w/\vs.length=ars.length/\(n5 st.m env ars).length=ars.length/\∀i,i<ars.length->RD C.ν x (vs.getD i undef) ((n5 st.m env ars).getD i .any)
 |[],ars,h,_=>by simp[sk]at h;subst h;exact⟨[],bg,rfl,by simp[n5],fun i hi=>by simp at hi⟩
 | .tmp t::r,ars,h,ho=>by
  simp only[sk]at h;split at h
  .rename_i s l h1 h2;simp only[aP]at h;subst h;simp only[mN]at ho;obtain⟨vs,b1,b2,b4,b3⟩:=pD hsm hi r l h2 ho.2.2;refine⟨a.tmps.getD t undef::vs,by simp[yk,b1],by simp[b2],by simp[n5,b4],fun i hil=>?_⟩;cases i with
   |zero=>simpa[n5,BZ]using hi.env s t (mY _ _ _ h1) ho.1
   |succ i=>simpa[n5]using b3 i (by simpa using hil)
  .cases h
 | .cell t ty::r,ars,h,ho=>by
  simp only[sk]at h;split at h
  .rename_i s l h1 h2;split at h
   .cases h
   rename_i hce;simp only[aP]at h;subst h;simp only[mN]at ho;obtain⟨vs,b1,b2,b4,b3⟩:=pD hsm hi r l h2 ho.2.2;have hu:(C.P.underlying ty).isNone=false:=by cases hn:(C.P.underlying ty).isNone with|false=>rfl|true=>exact absurd (.inr (.inl hn)) hce
   have h1':cI C.P ty=false->C.P.cellsOf ty=1:=fun e=>by
    rcases Nat.decEq (C.P.cellsOf ty) 1 with h|h
    .exact absurd (.inr (.inr ⟨e,h⟩)) hce
    .exact h
   obtain⟨ad,u,c1,c2,c3⟩:=MR hsm (fun e=>hce (.inl e)) hu h1' (hi.env s t (mY _ _ _ h1) ho.1) ho.2.1 hi.lC (fun _ _=>rfl);refine⟨u::vs, ?_,by simp[b2],by simp[n5,b4],fun i hil=>?_⟩
   .have e:(yk a (.cell t ty)).run C.P x.w=.ok u x.w:=by simp only[yk,c1];simp[asAddr,c2]
    simp[List.mapM_cons,e,b1]
   .cases i with
    |zero=>simpa[n5,BZ]using c3
    |succ i=>simpa[n5]using b3 i (by simpa using hil)
  .cases h
def Gq (fn:Func)(a:Act):results fn a.tmps=(do
  let vs <-fn.results.mapM (yk a)
  pure (if h:vs.size=1 then vs[0]else .tuple vs)):=by
 unfold results;congr 1
def mC (hsm:∀fid n,dp C.ν fid=some n->n<1000000){a:Act}{x:X}{env:List bI}{st:St}(hi:Inv C a x env st){fn:Func}{af:ax}(hr:sk C.P C.slots fn.results.toList=some af.res)(ho:mN st.m env af.res):
  ∃v,(results fn a.tmps).run C.P x.w=.ok v x.w/\RD C.ν x v (jl af env st)/\(af.res.length≠1->∃cs,v=.tuple cs):=by
 obtain⟨vs,b1,b2,b4,b3⟩:=pD hsm hi _ _ hr ho;have hrun:(results fn a.tmps).run C.P x.w=.ok (if h:vs.length=1 then vs[0]else .tuple vs.toArray) x.w:=by
  rw[Gq,Sem.run_bind,Array.mapM_eq_mapM_toList,Sem.run_map,b1];simp[Result.andThen]
 rcases hres:af.res with _|⟨r,_|⟨r2,rs⟩⟩
 .rw[hres]at b2 b3 b4;have h0:vs.length≠1:=by rw[b2];simp
  rw[dif_neg h0]at hrun;refine⟨_,hrun, ?_,fun _=>⟨_,rfl⟩⟩;simp only[jl,hres];refine .tup _ _ (by simp[b2,b4]) fun i hi=>?_
  have:=b3 i ah
  rwa [<-cB]
 .rw[hres]at b2 b3 b4;have h0:vs.length=1:=by rw[b2];rfl
  rw[dif_pos h0]at hrun;refine⟨_,hrun, ?_,fun h=>absurd rfl h⟩;simp only[jl,hres];have:=b3 0 bg;simp only[n5,gB]at this
  rwa [nR _ _ _ ah]at this
 .rw[hres]at b2 b3 b4;have h0:vs.length≠1:=by rw[b2];simp
  rw[dif_neg h0]at hrun;refine⟨_,hrun, ?_,fun _=>⟨_,rfl⟩⟩;simp only[jl,hres];refine .tup _ _ (by simp[b2,b4]) fun i hi=>?_
  have:=b3 i ah
  rwa [<-cB]
def sS:∀(l acc:List Nat),∃r,dedup acc l=acc.reverse++r
 |[],acc=>⟨[],by simp[dedup]⟩
 |a::l,acc=>by
  simp only[dedup];split
  .exact sS l acc
  .obtain⟨r,h⟩:=sS l (a::acc);exact⟨a::r,by rw[h];simp⟩
def oW:∀(l acc:List Nat),acc.Nodup->(dedup acc l).Nodup
 |[],acc,h=>by simp only[dedup];exact List.pairwise_reverse.2 (h.imp fun h=>Ne.symm h)
 |a::l,acc,h=>by
  simp only[dedup];split
  .exact oW l acc h
  .rename_i hn;exact oW l (a::acc) (List.nodup_cons.2 ⟨by simpa using hn,h⟩)
def tS (rest:List Nat):∀(n j:Nat),dedup (List.range j).reverse (List.range' j n++rest)=dedup (List.range (j+n)).reverse rest
 |0,j=>bg
 |n+1,j=>by
  rw[List.range'_succ,fR];simp only[dedup];rw[aj bg];have e:j::(List.range j).reverse=(List.range (j+1)).reverse:=by rw[List.range_succ];simp
  rw[e,tS rest n (j+1)];congr 2;congr 1;omega
def kH (fn:Func):(slotsOf fn).Nodup/\fn.params.size+fn.nfree<=(slotsOf fn).length/\∀n,n<fn.params.size+fn.nfree->(slotsOf fn)[n]? =some n:=by
 refine⟨oW _ _ List.nodup_nil, ?_⟩;have e:slotsOf fn=dedup (List.range (fn.params.size+fn.nfree)).reverse (p9 fn.results.toList++yA (fn.body.getD .skip)):=by
  have:=tS (p9 fn.results.toList++yA (fn.body.getD .skip)) (fn.params.size+fn.nfree) 0;simp only[List.range_zero,List.reverse_nil,bq]at this;unfold slotsOf;rw[eV,List.range_eq_range'];rw[this,List.range_eq_range']
 obtain⟨r,h⟩:=sS (p9 fn.results.toList++yA (fn.body.getD .skip)) (List.range (fn.params.size+fn.nfree)).reverse
 grind
end
end
end Go.Abs
