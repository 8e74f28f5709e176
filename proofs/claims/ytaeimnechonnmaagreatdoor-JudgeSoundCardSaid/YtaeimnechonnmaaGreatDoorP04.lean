/- A part of the proofs. -/
import Derived.Scope
import Derived.Test.YtaeimnechonnmaaGreatDoorP03
set_option linter.all false
set_option maxRecDepth 4000
namespace Go.Abs
section
variable [dw]
section
variable {C:CC} {Y:Ctx}
omit [dw]in
theorem IN {i:aI}(hp:i.pure=true){J:Src->b7}{m m':List (Nat×bT)}{L L':Nat}(h:i.dG Y J m):i.dG Y J m'/\i.val Y J m L=i.val Y J m' L':=by
 cases i<;>first
  |(simp[aI.pure]at hp;done)
  |exact⟨h,rfl⟩
def xK {ops:Array Oper}{env:List b7}{VS:List b7}{μ:List (Nat×bT)}{N:Nat}{listed:Array Bool}{a:Act}{x:X}{i:Nat}{o:Oper}{g:GI}(hΓ:Ok C.P C.ν C.cy Y)
  (h2:ops[i]? =some o) (hg2:C.op ((ops.toList.map (·.dst)).take i) o=some g.i) (hg3:CC.guard ((ops.toList.map (·.dst)).take i) o.guard=some g.g)
  (hdd:∀t,o.dst=some t->t<C.ntmps/\∀p,p≠i->(ops.toList.map (·.dst))[p]? ≠some (some t))
  (hp:g.i.pure=true\/g.i.wW=true) (hmid:nL C env (ops.toList.map (·.dst)) VS (fun p=>listed.getD p false=true) a x) (hs:eI C.ν x (look μ)) (his:i<listed.size)
  (hreads:∀t p,t∈tmpsOf ops.toList o->(ops.toList.map (·.dst))[p]? =some (some t)->(p<i->listed.getD p false=true)/\(i<=p->¬listed.getD p false=true))
  (hent:(VS.getD i .un).ok=flag (VS.take i) g.g) (hgk:GV (VS.take i) g.i g.g) (hgood:flag (VS.take i) g.g=true->g.i.dG Y (Src.ev env (VS.take i)) μ/\g.i.val Y (Src.ev env (VS.take i)) μ N=(VS.getD i .un).d)
  {Q:Exit->Act->World->Prop} {Kc:Act->World->Prop} (hK:∀a',nL C env (ops.toList.map (·.dst)) VS (fun p=>(listed.setIfInBounds i true).getD p false=true) a' x->Kc a' x.w):wpOp C.P ops Q i Kc a x.w:=by
 have ho':ops.toList[i]? =some o:=by simpa using h2
 have hdst:(ops.toList.map (·.dst))[i]? =some o.dst:=by rw[List.getElem?_map,ho',Option.map_some]
 have hρ:pI C ((ops.toList.map (·.dst)).take i) (Src.ev env (VS.take i)) a.eval x o.op.operands.toList:=
  hmid.RY fun t p ht hp=>hreads t p (List.mem_append_left _ (List.mem_filterMap.2 ⟨.tmp t,ht,rfl⟩)) hp
 have hcst:∀d,Src.ev env (VS.take i) (.c d)=⟨true,d⟩:=fun _=>rfl
 have hwant:Region.wanted o (yielded ops a.tmps)=flag (VS.take i) g.g:=by
  refine gU (g:=g) hmid hg3 (fun j w hg hji=>?_) (H5 hgk);simp only[hg,CC.guard]at hg3;split at hg3
  .rename_i t hj;rw[List.getElem?_take,ax hji]at hj;refine(hreads t j (List.mem_append_right _ ?_) hj).1 hji;rw[List.getElem?_map,cS]at hj;obtain⟨oj,hj1,hj2⟩:=hj;simp[hg,hj1,hj2]
  .cases hg3
 have hput:∀(v:Value),((VS.getD i .un).ok=true->RD C.ν x v (VS.getD i .un).d)->((VS.getD i .un).ok=false->v=undef)->
   nL C env (ops.toList.map (·.dst)) VS (fun p=>(listed.setIfInBounds i true).getD p false=true) (a.put o.dst v) x:=by
  intro v e1 e2;refine hmid.put (i:=i) (Le.refl x) hdst hdd e1 e2 (fun p=>?_);rw[dQ his];by_cases e:p=i
  .simp[e]
  .simp[e]
 unfold wpOp;simp only[h2,hwant];cases hfg:flag (VS.take i) g.g with
 |false=>
  rw[ai bz];exact hK _ (hput undef (fun e=>by rw[hent,hfg]at e;cases e) (fun _=>rfl))
 |true=>
  rw[ax rfl];left;obtain⟨hob,lN⟩:=hgood hfg;have hd:zo C.ν x (g.i.val Y (Src.ev env (VS.take i)) μ N) ((execOp a.eval o).run C.P x.w):=by
   by_cases hpu:g.i.pure=true
   .exact As (f:=look μ) hΓ.glz hcst hΓ.small hg2 hpu hρ hob hs (fun _=>rfl)
   .have hld:g.i.wW=true:=by rcases hp with h|h;exact absurd h hpu;exact h
    obtain⟨t,p,hop⟩:∃t p,o.op=.load t p:=by
     obtain⟨gi,gg⟩:=g;cases gi<;>simp only[aI.wW]at hld<;>try cases hld
     rename_i n ag s;cases hop:o.op with
     |load t p=>exact⟨t,p,rfl⟩
     |call c=>
      obtain⟨callee,args,argTypes⟩:=c;cases callee with
      |invoke r n=>simp only[CC.op,hop]at hg2;(repeat' split at hg2)<;>simp at hg2
      |builtin b=>cases b<;>simp only[CC.op,hop]at hg2<;>(try(repeat' split at hg2))<;>simp at hg2
      |value v=>cases v<;>simp only[CC.op,hop]at hg2<;>(try(repeat' split at hg2))<;>simp at hg2
     |makeFunc fn fst caps=>cases fn<;>simp only[CC.op,hop]at hg2<;>(repeat' split at hg2)<;>simp_all
     |next it b=>cases b<;>simp[CC.op,hop]at hg2
     |typeAssert p xt t ok=>cases ok<;>simp only[CC.op,hop]at hg2<;>(try(repeat' split at hg2))<;>simp at hg2
     |lookup t p q ok=>
      cases ok with
      |true=>simp[CC.op,hop]at hg2
      |false=>simp only[CC.op,hop]at hg2;(repeat' split at hg2)<;>simp_all
     |_=>
      simp only[CC.op,hop]at hg2
      (try(repeat' split at hg2))<;>simp at hg2
    exact Ar (f:=look μ) hpu hΓ.small hg2 hop hρ hob hs (by
     cases hq:g.i.kH (Src.ev env (VS.take i))with
     |none=>exact fun _ _=>rfl
     |some ls=>exact fun _ _=>rfl)
  rw[lN]at hd;obtain⟨v,hr,hrd⟩:=hd;refine iQ.wp (G:=fun v' x'=>v'=v/\x'=x) ?_ (fun v' x' hG=>?_)
  .left;exact⟨v,x,hr,rfl,rfl⟩
  .obtain⟨rfl,rfl⟩:=hG;exact hK _ (hput _ (fun _=>hrd) (fun e=>by rw[hent,hfg]at e;cases e))
def DT {env:List b7}{K:List b7->St->Prop}:∀{suf:List GI}{vs:List b7}{st:St},(∀g∈suf,g.g=none/\g.i.cz=false)->ep Y true suf env vs st K->ep Y false suf env vs st K
 |[],_,_,_,h=>h
 |⟨i,g⟩::r,vs,st,hs,h=>by
  obtain⟨h1,h2⟩:=hs _ (.head _);simp only at h1 h2;subst h1;rw[iM h2 rfl]at h;rw[iM h2 (by simp[aI.mg])];obtain⟨_,w2,w3⟩:=h;refine⟨trivial,w2,fun ha=>?_⟩;obtain⟨d,e1,e2⟩:=w3 fun hf=>by
   have:=ha hf;have key:∀(s:Src) (X:Prop),X->(bif !s.DB then True else X):=fun s X h=>by cases s.DB<;>simp[h]
   cases i<;>first
    |exact trivial
    |exact key _ _ this
  exact⟨d,e1,DT (fun g hg=>hs g (.tail _ hg)) e2⟩
section
variable {ops:Array Oper} {pre:List GI} {lx:List GI} {bs:List Nat} {n:Nat} {env:List b7} {VS:List b7} {f:Nat} {ss:List Src} {chk:List (Nat×Nat×Bool×Src)} {x0:X} {Q:Exit->Act->World->Prop} {nx:Nat} {m:List (Nat×bT)}
def HR {VS:List b7}{e:b7}{i:Nat}(h:i<=VS.length):(VS++[e]).take i=VS.take i:=List.take_append_of_le_length h
def ext_get {VS:List b7}{e:b7}{i:Nat}(h:i<VS.length):(VS++[e]).getD i .un=VS.getD i .un:=by rw[dh,ax h]
def xM {listed:Array Bool}(ho:Order ops.toList lx bs)(hl:listed.size=ops.size)(hr:Region.ready .any ops listed=[]):∀p,p<ops.size->listed.getD p false=true:=by
 intro p;induction p using Nat.strongRecOn with
 |_ p ih=>
  intro hp;cases hd:listed.getD p false with
  |true=>rfl
  |false=>
   exfalso;have hm:p∈Region.ready .any ops listed:=by
    rw[mem_ready];refine⟨?_,ops[p],by simp[hp],fun e he hb=>?_⟩
    .have:p<listed.size:=ae;simp only[Array.getD,this,dif_pos]at hd⊢;exact hd
    .have:=ho.edge p ops[p] (by simp[hp]) e he hb;exact ih e.on this ae
   rw[hr]at hm;cases hm
def uA {listed:Array Bool}(ho:Order ops.toList lx bs)(hcl:∀j,listed.getD j false=true->∀p,(bs.getD j 0).testBit p=true->listed.getD p false=true){i:Nat}{o:Oper}(hi:ops[i]? =some o)(hni:listed.getD i false=false)
  (hed:∀e∈o.after,Region.binds .any e=true->listed.getD e.on false=true) {p:Nat} (hb:nJ bs p i) (hne:p≠i):(p<i->listed.getD p false=true)/\(i<=p->¬listed.getD p false=true):=by
 unfold nJ at hb;refine⟨fun hlt=>?_,fun hle hp=>?_⟩
 .rw[Nat.max_eq_left ae,Nat.min_eq_right ae]at hb;obtain⟨e,e1,e2,e3⟩:=ho.bef i o (by simpa using hi) p hb;rcases e3 with rfl|e3
  .exact hed e e1 e2
  .exact hcl _ (hed e e1 e2) p e3
 .rw[Nat.max_eq_right ae,Nat.min_eq_left ae]at hb;have:=hcl p hp i hb;rw[hni]at this;cases this
def B5 {l:List GI}{c0:GI}{suf:List GI}{K:List b7->St->Prop}(hΓ:Ok C.P C.ν C.cy Y)(hsp:Spec C ops.toList l)(hl:l=pre++c0::suf)(hn:pre.length=n)(ho:Order ops.toList lx bs)(hVS:VS.length=n)
  (hop:∀(i:Nat) (o:Oper),ops.toList[i]? =some o->∃g,l[i]? =some g/\C.op ((ops.toList.map (·.dst)).take i) o=some g.i/\CC.guard ((ops.toList.map (·.dst)).take i) o.guard=some g.g)
  (hdst:∀(i:Nat) (o:Oper) (t:Nat),ops[i]? =some o->o.dst=some t->t<C.ntmps/\∀p,p≠i->(ops.toList.map (·.dst))[p]? ≠some (some t))
  (hpu:∀g∈pre,g.i.pure=true\/g.i.wW=true) (hsuf:∀g∈suf,g.g=none/\g.i.cz=false)
  (lN:∀(i:Nat) (g:GI),pre[i]? =some g->(VS.getD i .un).ok=flag (VS.take i) g.g/\GV (VS.take i) g.i g.g/\(flag (VS.take i) g.g=true->g.i.dG Y (Src.ev env (VS.take i)) m/\g.i.val Y (Src.ev env (VS.take i)) m (nx+i)=(VS.getD i .un).d))
  (hchk:∀(i k:Nat) (ag:Bool) (p:Src) (gd:Option (Nat×Bool)),pre[i]? =some ⟨.ld k ag p,gd⟩->(bs.getD n 0).testBit i=true\/(i,k,ag,p)∈chk)
  (hfull:∀q,q<suf.length->∀p,p<n+1+q->(pre.getD p ⟨.mkB,none⟩).i.pure=true\/(bs.getD (n+1+q) 0).testBit p=true)
  (hK:∀vs' st' a' x',K vs' st'->vs'.length=ops.size->nL C env (ops.toList.map (·.dst)) vs' (· <ops.size) a' x'->Step x0 x'->eI C.ν x' (look st'.m)->eG st' x'->Q .normal a' x'.w):
  ∀(fuel q:Nat) (listed:Array Bool) (a:Act) (x:X) (vs:List b7) (st:St),listed.size=ops.size->(∀p,n<=p->p<ops.size->(listed.getD p false=true↔p<n+1+q))->q<=suf.length->
   (∀j,listed.getD j false=true->∀p,(bs.getD j 0).testBit p=true->listed.getD p false=true)->vs.length=n+1+q->vs.take n=VS->nL C env (ops.toList.map (·.dst)) vs (fun p=>listed.getD p false=true) a x->Step x0 x->eI C.ν x (look st.m)->eG ⟨st.nx+(n+1+q),st.m⟩ x->
   ep Y false (suf.drop q) env vs st K->(q=0->∀c∈chk,(VS.getD c.1 .un).ok=true->wK st.m c.2.1 (Src.ev env (VS.take c.1) c.2.2.2).d/\tn st.m c.2.1 c.2.2.1 (Src.ev env (VS.take c.1) c.2.2.2).d=(VS.getD c.1 .un).d)->
   HM ops.size listed<=fuel->wpAny C.P .any ops Q fuel listed a x.w:=by
 have hsz:ops.size=n+1+suf.length:=by have:=hsp.len;simp[hl,hn]at this;omega
 have hdone:∀(q:Nat) (listed:Array Bool) (a:Act) (x:X) (vs:List b7) (st:St),listed.size=ops.size->(∀p,n<=p->p<ops.size->(listed.getD p false=true↔p<n+1+q))->q<=suf.length->vs.length=n+1+q->
   (∀p,p<ops.size->listed.getD p false=true)->nL C env (ops.toList.map (·.dst)) vs (fun p=>listed.getD p false=true) a x->Step x0 x->eI C.ν x (look st.m)->eG ⟨st.nx+(n+1+q),st.m⟩ x->ep Y false (suf.drop q) env vs st K->Q .normal a x.w:=by
  intro q listed a x vs st hls hq hqs hvl hall hmid hst hs hf hw;obtain rfl:q=suf.length:=by
   rcases cT q suf.length with h|h
   .have:=(hq (n+1+q) ae ae).1 (hall _ ae);omega
   .omega
  rw[List.drop_length]at hw;simp only[ep]at hw;exact hK vs _ a x hw ae (hmid.iff fun p=>⟨fun hp=>hall p hp,fun hp=>by have:=oT hls hp;omega⟩) hst hs (by rw[hvl];exact hf)
 intro fuel;induction fuel with
 |zero=>
  intro q listed a x vs st hls hq hqs hcl hvl hvt hmid hst hs hf hw hck hcnt;have hall:∀p,p<ops.size->listed.getD p false=true:=by
   intro p hp;have h0:(List.range ops.size).filter (fun p=>!listed.getD p false)=[]:=ij (Nat.le_zero.1 hcnt);rw[List.filter_eq_nil_iff]at h0;simpa using h0 p (by simpa using hp)
  refine⟨?_,hdone q listed a x vs st hls hq hqs hvl hall hmid hst hs hf hw⟩;rw[List.eq_nil_iff_forall_not_mem];intro j hj;obtain⟨h1,o,h2,_⟩:=mem_ready.1 hj;have hjl:j<ops.size:=(Array.getElem?_eq_some_iff.1 h2).1;have:=hall j hjl;have hjs:j<listed.size:=ae;simp only[Array.getD,hjs,dif_pos]at h1 this;rw[this]at h1;cases h1
 |succ fuel ih=>
  intro q listed a x vs st hls hq hqs hcl hvl hvt hmid hst hs hf hw hck hcnt;refine⟨fun hr=>hdone q listed a x vs st hls hq hqs hvl (xM ho hls hr) hmid hst hs hf hw,fun i hi=>?_⟩;obtain⟨h1,o,h2,hed⟩:=mem_ready.1 hi;have hil:i<ops.size:=(Array.getElem?_eq_some_iff.1 h2).1;have his:i<listed.size:=ae;have hni:listed.getD i false=false:=by simp only[Array.getD,his,dif_pos]at h1⊢;exact h1
  have ho':ops.toList[i]? =some o:=by simpa using h2
  have hreads:∀t p,t∈tmpsOf ops.toList o->(ops.toList.map (·.dst))[p]? =some (some t)->(p<i->listed.getD p false=true)/\(i<=p->¬listed.getD p false=true):=by
   intro t p ht hp;rw[List.getElem?_map,cS]at hp;obtain⟨op,hp1,hp2⟩:=hp;rcases ho.reads i p o op t ho' hp1 hp2 ht with rfl|hb
   .exact⟨fun h=>ae,fun _=>by rw[hni];simp⟩
   .by_cases hpi:p=i
    .subst hpi;exact⟨fun h=>ae,fun _=>by rw[hni];simp⟩
    .exact uA ho hcl h2 hni hed hb hpi
  have hready:∀p,(bs.getD i 0).testBit p=true->listed.getD p false=true:=by
   intro p hp;obtain⟨e',e1,e2,e3⟩:=ho.bef i o ho' p hp;rcases e3 with rfl|e3
   .exact hed e' e1 e2
   .exact hcl _ (hed e' e1 e2) p e3
  have hclosed:∀j,(listed.setIfInBounds i true).getD j false=true->∀p,(bs.getD j 0).testBit p=true->(listed.setIfInBounds i true).getD p false=true:=by
   intro j hj p hp;rw[dQ his]at hj⊢;by_cases e:p=i
   .rw[ax e]
   .rw[ai e];by_cases ej:j=i
    .subst ej;exact hready p hp
    .rw[ai ej]at hj;exact hcl j hj p hp
  have hcnt':HM ops.size (listed.setIfInBounds i true)<=fuel:=by have:=yy hls hil hni;omega
  obtain⟨g,g1,g2,g3⟩:=hop i o ho';rcases cT i n with hin|hin
  .rw[hl,List.getElem?_append_left ae]at g1;obtain⟨v1,v2,v3⟩:=lN i g g1;have ht:vs.take i=VS.take i:=by rw[<-hvt,List.take_take,Nat.min_eq_left ae]
   have hgd:vs.getD i .un=VS.getD i .un:=by rw[<-hvt,getD_take _ _ _ _ hin]
   refine xK (N:=nx+i) (μ:=st.m) hΓ h2 g2 g3 (fun t ht=>hdst i o t h2 ht) (hpu _ (List.mem_of_getElem? g1)) hmid hs his hreads (by rw[ht,hgd];exact v1) (by rw[ht];exact v2) (fun hf=>?_)
    (fun a' hm=>ih q _ a' x vs st (by simp[hls]) (fun p hp hp2=>by rw[dQ his,ai ae];exact hq p hp hp2) hqs hclosed hvl hvt hm hst hs hf hw hck hcnt')
   rw[ht]at hf⊢;rw[hgd];obtain⟨o1,o2⟩:=v3 hf;rcases hpu _ (List.mem_of_getElem? g1)with hp|hp
   .obtain⟨q1,q2⟩:=IN hp (m':=st.m) (L:=nx+i) (L':=nx+i) o1;exact⟨q1,q2.symm.trans o2⟩
   .obtain⟨gi,gg⟩:=g;cases gi<;>simp only[aI.wW]at hp<;>try cases hp
    rename_i k ag s;by_cases hq0:q=0
    .rcases hchk i k ag s gg g1 with hb|hm
     .have:=hcl n ((hq n (aA _) ae).2 ae) i hb;rw[hni]at this;cases this
     .obtain⟨c1,c2⟩:=hck hq0 _ hm (by rw[v1];exact hf);exact⟨And.intro o1.1 c1,c2⟩
    .exfalso;rcases hfull (q-1) ae i ae with hb|hb
     .rw[show pre.getD i ⟨.mkB,none⟩=⟨.ld k ag s,gg⟩by simp[List.getD,g1]]at hb;simp[aI.pure]at hb
     .have hlq:=(hq (n+1+(q-1)) ae ae).2 ae;have:=hcl _ hlq i hb;rw[hni]at this;cases this
  .have hge:n+1+q<=i:=by
    rcases cT i (n+1+q)with h|h
    .have:=(hq i hin hil).2 h;rw[hni]at this;cases this
    .exact h
   obtain rfl:i=n+1+q:=by
    rcases cT (n+1+q) i with h|h
    .exfalso;have hb:=hfull (i-(n+1)) ae (n+1+q) ae;rw[show n+1+(i-(n+1))=i by omega]at hb;rcases hb with hb|hb
     .rw[show pre.getD (n+1+q) ⟨.mkB,none⟩=⟨.mkB,none⟩by simp[List.getD,List.getElem?_eq_none (show pre.length<=n+1+q by omega)]]at hb;simp[aI.pure]at hb
     .have:=(hq (n+1+q) ae ae).1 (hready _ hb);omega
    .omega
   have hqlt:q<suf.length:=ae;have hgs:suf[q]? =some g:=by
    rw[hl,List.getElem?_append_right ae,hn,show n+1+q-n=q+1 by omega,List.getElem?_cons_succ]at g1;exact g1
   have hdrop:suf.drop q=g::suf.drop (q+1):=by
    rw[lf hqlt];congr 1;exact(List.getElem?_eq_some_iff.1 hgs).2
   rw[hdrop]at hw;have hgn:o.guard=none:=by
    have:=(hsuf g (List.mem_of_getElem? hgs)).1;rw[this]at g3;cases hgg:o.guard with
    |none=>rfl
    |some jw=>
     rw[hgg]at g3;obtain⟨j,w⟩:=jw;simp only[CC.guard]at g3;split at g3<;>simp at g3
   refine A1 hsp hΓ h2 g1 (.inl g2) g3 hvl (fun p hp=>?_) (fun t p ht hp=>hreads t p (List.mem_append_left _ (List.mem_filterMap.2 ⟨.tmp t,ht,rfl⟩)) hp) (fun j w h=>by rw[hgn]at h;cases h) hmid hs hf hw
    (fun e st' x' a' h1 h2 h3 h4 h5=>ih (q+1) _ a' x' _ st' (by simp[hls]) (fun p hp hp2=>?_) ae hclosed (by simp[hvl];omega) (by rw[List.take_append_of_le_length ae];exact hvt) (h1.iff fun p=>?_) (hst.trans h2) h3 (by rw[show n+1+(q+1)=n+1+q+1 by omega];exact h4) h5 (fun h=>ae) hcnt')
   .rcases cT p n with h|h
    .omega
    .exact(hq p h (by have:=oT hls hp;omega)).1 hp
   .rw[dQ his];split
    .rename_i e;subst e;simp
    .rename_i e;rw[hq p hp hp2];omega
   .rw[dQ his];by_cases e:p=n+1+q
    .simp[e]
    .simp[e]
def FX {l:List GI}{suf:List GI}{K:List b7->St->Prop}(hΓ:Ok C.P C.ν C.cy Y)(hsp:Spec C ops.toList l)(hl:l=pre++⟨.callM f ss,none⟩::suf)(hn:pre.length=n)(ho:Order ops.toList lx bs)(hVS:VS.length=n)
  (hop:∀(i:Nat) (o:Oper),ops.toList[i]? =some o->∃g,l[i]? =some g/\C.op ((ops.toList.map (·.dst)).take i) o=some g.i/\CC.guard ((ops.toList.map (·.dst)).take i) o.guard=some g.g)
  (hdst:∀(i:Nat) (o:Oper) (t:Nat),ops[i]? =some o->o.dst=some t->t<C.ntmps/\∀p,p≠i->(ops.toList.map (·.dst))[p]? ≠some (some t))
  (hpu:∀g∈pre,g.i.pure=true\/g.i.wW=true) (hsuf:∀g∈suf,g.g=none/\g.i.cz=false)
  (lN:∀(i:Nat) (g:GI),pre[i]? =some g->(VS.getD i .un).ok=flag (VS.take i) g.g/\GV (VS.take i) g.i g.g/\(flag (VS.take i) g.g=true->g.i.dG Y (Src.ev env (VS.take i)) m/\g.i.val Y (Src.ev env (VS.take i)) m (nx+i)=(VS.getD i .un).d))
  (hchk:∀(i k:Nat) (ag:Bool) (p:Src) (gd:Option (Nat×Bool)),pre[i]? =some ⟨.ld k ag p,gd⟩->(bs.getD n 0).testBit i=true\/(i,k,ag,p)∈chk)
  (hfull:∀q,q<suf.length->∀p,p<n+1+q->(pre.getD p ⟨.mkB,none⟩).i.pure=true\/(bs.getD (n+1+q) 0).testBit p=true)
  (hoks:sO (Src.ev env VS) ss)
  (htr:Y.tr f (gL (Src.ev env VS) ss) ⟨nx+n,m⟩ fun d st'=>(∀c∈chk,(VS.getD c.1 .un).ok=true->wK st'.m c.2.1 (Src.ev env (VS.take c.1) c.2.2.2).d/\tn st'.m c.2.1 c.2.2.1 (Src.ev env (VS.take c.1) c.2.2.2).d=(VS.getD c.1 .un).d)/\
    nx+n<=st'.nx/\ep Y true suf env (VS++[⟨true,d⟩]) ⟨st'.nx-n,st'.m⟩ K)
  {x:X} (hx:Step x0 x) (hs:eI C.ν x (look m)) (hf:eG ⟨nx+n,m⟩ x)
  (hK:∀vs' st' a' x',K vs' st'->vs'.length=ops.size->nL C env (ops.toList.map (·.dst)) vs' (· <ops.size) a' x'->Step x0 x'->eI C.ν x' (look st'.m)->eG st' x'->Q .normal a' x'.w):
  ∀(fuel:Nat) (listed:Array Bool) (a:Act),listed.size=ops.size->(∀p,n<=p->listed.getD p false=false)->(∀j,listed.getD j false=true->∀p,(bs.getD j 0).testBit p=true->listed.getD p false=true)->
   nL C env (ops.toList.map (·.dst)) VS (fun p=>listed.getD p false=true) a x->HM ops.size listed<=fuel->wpAny C.P .any ops Q fuel listed a x.w:=by
 have hsz:ops.size=n+1+suf.length:=by have:=hsp.len;simp[hl,hn]at this;omega
 intro fuel;induction fuel with
 |zero=>
  intro listed a hls hnl hcl hmid hcnt;exfalso;have h0:(List.range ops.size).filter (fun p=>!listed.getD p false)=[]:=ij (Nat.le_zero.1 hcnt);rw[List.filter_eq_nil_iff]at h0;have:=h0 n eB;rw[hnl n (aA _)]at this;exact this rfl
 |succ fuel ih=>
  intro listed a hls hnl hcl hmid hcnt;refine⟨fun hr=>?_,fun i hi=>?_⟩
  .have:=xM ho hls hr n ae;rw[hnl n (aA _)]at this;cases this
  obtain⟨h1,o,h2,hed⟩:=mem_ready.1 hi;have hil:i<ops.size:=(Array.getElem?_eq_some_iff.1 h2).1;have his:i<listed.size:=ae;have hni:listed.getD i false=false:=by simp only[Array.getD,his,dif_pos]at h1⊢;exact h1
  have ho':ops.toList[i]? =some o:=by simpa using h2
  have hreads:∀t p,t∈tmpsOf ops.toList o->(ops.toList.map (·.dst))[p]? =some (some t)->(p<i->listed.getD p false=true)/\(i<=p->¬listed.getD p false=true):=by
   intro t p ht hp;rw[List.getElem?_map,cS]at hp;obtain⟨op,hp1,hp2⟩:=hp;rcases ho.reads i p o op t ho' hp1 hp2 ht with rfl|hb
   .exact⟨fun h=>ae,fun _=>by rw[hni];simp⟩
   .by_cases hpi:p=i
    .subst hpi;exact⟨fun h=>ae,fun _=>by rw[hni];simp⟩
    .exact uA ho hcl h2 hni hed hb hpi
  have hready:∀p,(bs.getD i 0).testBit p=true->listed.getD p false=true:=by
   intro p hp;obtain⟨e',e1,e2,e3⟩:=ho.bef i o ho' p hp;rcases e3 with rfl|e3
   .exact hed e' e1 e2
   .exact hcl _ (hed e' e1 e2) p e3
  have hclosed:∀j,(listed.setIfInBounds i true).getD j false=true->∀p,(bs.getD j 0).testBit p=true->(listed.setIfInBounds i true).getD p false=true:=by
   intro j hj p hp;rw[dQ his]at hj⊢;by_cases e:p=i
   .rw[ax e]
   .rw[ai e];by_cases ej:j=i
    .subst ej;exact hready p hp
    .rw[ai ej]at hj;exact hcl j hj p hp
  have hcnt':HM ops.size (listed.setIfInBounds i true)<=fuel:=by have:=yy hls hil hni;omega
  obtain⟨g,g1,g2,g3⟩:=hop i o ho';rcases cT i n with hin|hin
  .rw[hl,List.getElem?_append_left ae]at g1;obtain⟨v1,v2,v3⟩:=lN i g g1;exact xK (N:=nx+i) (μ:=m) hΓ h2 g2 g3 (fun t ht=>hdst i o t h2 ht) (hpu _ (List.mem_of_getElem? g1)) hmid hs his hreads v1 v2 v3
    (fun a' hm=>ih _ a' (by simp[hls]) (fun p hp=>by rw[dQ his,ai ae];exact hnl p hp) hclosed hm hcnt')
  .obtain rfl:i=n:=by
    rcases cT n i with h|h
    .exfalso;have hb:=hfull (i-(n+1)) ae n ae;rw[show n+1+(i-(n+1))=i by omega]at hb;rcases hb with hb|hb
     .rw[show pre.getD n ⟨.mkB,none⟩=⟨.mkB,none⟩by simp[List.getD,List.getElem?_eq_none (show pre.length<=n by omega)]]at hb;simp[aI.pure]at hb
     .have:=hready _ hb;rw[hnl n (aA _)]at this;cases this
    .omega
   rw[hl,List.getElem?_append_right ae,hn,Nat.sub_self,List.getElem?_cons_zero]at g1;obtain rfl:=bl g1;have c2:o.guard=none:=by
    cases hgg:o.guard with
    |none=>rfl
    |some jw=>
     rw[hgg]at g3;obtain⟨j,w⟩:=jw;simp only[CC.guard]at g3;split at g3<;>simp at g3
   have hdd:(ops.toList.map (·.dst))[i]? =some o.dst:=by rw[List.getElem?_map,ho',Option.map_some]
   have hvt:VS.take i=VS:=eZ ae;have hρ:pI C ((ops.toList.map (·.dst)).take i) (Src.ev env VS) a.eval x o.op.operands.toList:=by
    have:=hmid.RY (i:=i) (os:=o.op.operands.toList) fun t p ht hp=>hreads t p (List.mem_append_left _ (List.mem_filterMap.2 ⟨.tmp t,ht,rfl⟩)) hp
    rwa [hvt]at this
   unfold wpOp;simp only[h2];have hw:Region.wanted o (yielded ops a.tmps)=true:=by simp[Region.wanted,c2]
   rw[ax hw];left;refine(Aq (st:=⟨nx+i,m⟩) (fun _=>rfl) hΓ g2 hρ hoks hs hf htr).wp (fun v x' hG=>?_);obtain⟨d,st',⟨hck,hnx,hw'⟩,hst1,hrd,hs1,hf1⟩:=hG;have hmid':nL C env (ops.toList.map (·.dst)) (VS++[⟨true,d⟩]) (fun p=>(listed.setIfInBounds i true).getD p false=true) (a.put o.dst v) x':=by
    have hext:nL C env (ops.toList.map (·.dst)) (VS++[⟨true,d⟩]) (fun p=>listed.getD p false=true) a x:=by
     have hlt:∀p,listed.getD p false=true->(VS++[(⟨true,d⟩:b7)]).getD p .un=VS.getD p .un:=fun p hp=>by
      have hlt:p<i:=by
       rcases cT p i with h|h
       .exact h
       .rw[hnl p h]at hp;cases hp
      exact ext_get ae
     exact⟨fun p t hp e ho=>by rw[hlt p hp]at ho⊢;exact hmid.val p t hp e ho,fun p t hp e ho=>by rw[hlt p hp]at ho;exact hmid.und p t hp e ho,hmid.old,hmid.size,hmid.defers⟩
    have he:(VS++[(⟨true,d⟩:b7)]).getD i .un=⟨true,d⟩:=by rw[dh,ai ae];simp[hVS]
    refine hext.put (i:=i) hst1.le hdd (fun t ht=>hdst i o t h2 ht) (fun _=>by rw[he];exact hrd) (fun h=>by rw[he]at h;cases h) (fun p=>?_);rw[dQ his];by_cases e:p=i
    .simp[e]
    .simp[e]
   refine B5 hΓ hsp hl hn ho hVS hop hdst hpu hsuf lN hchk hfull hK fuel 0 _ _ x' _ ⟨st'.nx-i,st'.m⟩ (by simp[hls]) (fun p hp hp2=>?_) (Nat.zero_le _) hclosed (by simp[hVS]) (by rw[HR ae];exact hvt) hmid' (hx.trans hst1) hs1 (hf1.up (by simp only;omega)) (by simpa using DT hsuf hw') (fun _=>hck) hcnt';rw[dQ his];split
   .rename_i e;subst e;simp
   .rename_i e;rw[hnl p hp];simp;omega
end
def At:∀(ops:List Oper) (ds:List (Option Nat)) (l:List GI),C.ops ds ops=some l->∀(i:Nat) (o:Oper),ops[i]? =some o->∃g,l[i]? =some g/\C.op (ds++(ops.map (·.dst)).take i) o=some g.i/\CC.guard (ds++(ops.map (·.dst)).take i) o.guard=some g.g
 |[],_,_,_,i,o,h=>by simp at h
 |q::r,ds,l,hc,i,o,h=>by
  simp only[CC.ops]at hc;split at hc
  .rename_i i0 g0 l' h1 h2 h3;split at hc
   .obtain rfl:=bl hc;cases i with
    |zero=>
     simp only[List.getElem?_cons_zero,bc]at h;subst h;exact⟨_,rfl,by simpa using h1,by simpa using h2⟩
    |succ i=>
     simp only[List.getElem?_cons_succ]at h;obtain⟨g,e1,e2,e3⟩:=At r _ l' h3 i o h;exact⟨g,by simpa using e1,by simpa using e2,by simpa using e3⟩
   .cases hc
  .cases hc
def Lu {ops:List Oper}{l:List GI}(h:C.ops [] ops=some l)(i:Nat)(o:Oper)(ho:ops[i]? =some o):∃g,l[i]? =some g/\C.op ((ops.map (·.dst)).take i) o=some g.i/\CC.guard ((ops.map (·.dst)).take i) o.guard=some g.g:=by
 simpa using At ops [] l h i o ho
def Ae {ops:List Oper}{l l':List GI}(h:B4 ops l=some l'):∃pre f ss suf,l=pre++⟨.callM f ss,none⟩::suf/\l'=pre++⟨.callL f ss (sB ((jv [] ops).getD pre.length 0) 0 pre),none⟩::suf/\
  (∀g∈pre,g.i.pure=true\/g.i.wW=true)/\(∀g∈suf,g.g=none/\g.i.cz=false)/\oY ops (jv [] ops)=true/\mT 0 ops=true/\
  ∀q,q<suf.length->∀p,p<pre.length+1+q->(pre.getD p ⟨.mkB,none⟩).i.pure=true\/((jv [] ops).getD (pre.length+1+q) 0).testBit p=true:=by
 unfold B4 at h;simp only at h;generalize List.findIdx (fun g:GI=>g.i.cz) l=n at h;split at h
 .rename_i f ss suf hd;split at h
  .rename_i hh;simp only[br,List.all_eq_true,List.mem_range,dZ,ef,Option.isNone_iff_eq_none]at hh;obtain⟨a1,a2,a3,a4,a5⟩:=hh;obtain rfl:=bl h;have hn:n<l.length:=by
    rcases cT n l.length with h|h
    .exact h
    .rw[nk h]at hd;cases hd
   have hl:(l.take n).length=n:=eB;refine⟨l.take n,f,ss,suf,by rw[<-hd,List.take_append_drop],by rw[hl],a1,a2,a3,a4,fun q hq p hp=>?_⟩;rw[hl]at hp⊢;exact a5 q hq p hp
  .cases h
 .cases h
def uE {b:Nat}:∀{pre:List GI}{p i k:Nat}{ag:Bool}{s:Src}{gd:Option (Nat×Bool)},pre[i]? =some ⟨.ld k ag s,gd⟩->b.testBit (p+i)=true\/(p+i,k,ag,s)∈sB b p pre
 |[],_,i,_,_,_,_,h=>by simp at h
 |⟨g,gg⟩::r,p,0,k,ag,s,gd,h=>by
  simp only[List.getElem?_cons_zero,bc,GI.mk.injEq]at h;obtain⟨rfl,rfl⟩:=h;simp only[sB,Nat.add_zero];cases hb:b.testBit p
  .right;simp
  .left;rfl
 |⟨g,gg⟩::r,p,i+1,k,ag,s,gd,h=>by
  simp only[List.getElem?_cons_succ]at h;have:=uE (b:=b) (p:=p+1) h;rw[show p+1+i=p+(i+1)by omega]at this;refine this.imp id fun h=>?_
  cases g<;>simp only[sB]<;>try exact h
  split
  .exact h
  .exact .tail _ h
def Av {ops:List Oper}(h1:oY ops (jv [] ops)=true)(h4:mT 0 ops=true):Order ops (List.replicate ops.length ⟨.mv (.c .any),none⟩) (jv [] ops):=by
 obtain⟨b1,b2,b3⟩:=rp ops [];simp only[bg,aB]at b2 b3;refine⟨fun j o hj p hp=>?_,fun j o hj e he hb=>by simpa using mU ops 0 h4 j o hj e he hb,fun j p oj op t hj hp hd ht=>?_,fun j i gj gi hj hi hc hpu hmk=>?_⟩
 .rw[b3 j o hj]at hp;obtain⟨e,e1,e2,e3⟩:=mK _ _ _ hp;refine⟨e,by simpa using e1,e2,e3.imp id fun h=>?_⟩;by_cases hlt:e.on<j
  .rwa [getD_take _ _ _ _ hlt]at h
  .simp only[List.getD,List.getElem?_take,hlt,aE,Option.getD_none,Nat.zero_testBit]at h;cases h
 .have hjl:j<ops.length:=(List.getElem?_eq_some_iff.1 hj).1;have hpl:p<ops.length:=(List.getElem?_eq_some_iff.1 hp).1;simp only[oY,List.all_eq_true,List.mem_range]at h1;have:=h1 j hjl p hpl;simp only[hj,hp,hd,dZ,beq_iff_eq,ef,List.contains_eq_mem,dc]at this;rcases this with(h|h)|h
  .exact .inl h
  .exact absurd ht h
  .exact .inr h
 .rw[List.getElem?_replicate]at hj;split at hj
  .obtain rfl:=bl hj;cases hc
  .cases hj
end
end
section
variable [dw]
section
variable {C:CC} {Y:Ctx}
structure Inv (C:CC)(a:Act)(x:X)(env:List b7)(st:St):Prop where
 len:env.length=C.slots.length
 env:∀n t:Nat,C.slots[n]? =some t->(env.getD n .un).ok=true->RD C.ν x (a.tmps.getD t undef) (env.getD n .un).d
 size:a.tmps.size=C.ntmps
 defers:a.defers=[]
 kZ:eI C.ν x (look st.m)
 fresh:eG st x
def Inv.Kf {a:Act}{x:X}{env:List b7}{st:St}(h:Inv C a x env st)(DD:List (Option Nat))(VS:List b7){D:Nat->Prop}(hD:∀p,¬D p):nL C env DD VS D a x:=
 ⟨fun p t hp=>absurd hp (hD p),fun p t hp=>absurd hp (hD p),fun n t hn _ ho=>h.env n t hn ho,h.size,h.defers⟩
def uF (vs:List b7):∀(cm:List (Nat×Nat)) (env:List b7),(fV env vs cm).length=env.length
 |[],env=>rfl
 |(s,p)::r,env=>by simp only[fV];rw[uF vs r];simp
def xn {α:Type}(l:List α)(i j:Nat)(v d:α)(h:i<l.length):(l.set i v).getD j d=if j=i then v else l.getD j d:=by
 grind
def pM (hnd:C.slots.Nodup)(vs:List b7):∀(ops:List Oper) (p:Nat) (env:List b7) (n t:Nat),C.slots[n]? =some t->env.length=C.slots.length->
  ((∀(j:Nat) (o:Oper),ops[j]? =some o->o.dst≠some t)->(fV env vs (C.ff p ops)).getD n .un=env.getD n .un)/\
  (∀(j:Nat) (o:Oper),ops[j]? =some o->o.dst=some t->(∀(j':Nat) (o':Oper),ops[j']? =some o'->o'.dst=some t->j'=j)->(fV env vs (C.ff p ops)).getD n .un=vs.getD (p+j) .un)
 |[],p,env,n,t,hn,hl=>⟨fun _=>rfl,fun j o h=>by simp at h⟩
 |o::r,p,env,n,t,hn,hl=>by
  have hnl:n<C.slots.length:=(List.getElem?_eq_some_iff.1 hn).1;cases hb:o.dst.bind (th C.slots)with
  |none=>
   have e:C.ff p (o::r)=C.ff (p+1) r:=by simp[CC.ff,hb]
   rw[e];obtain⟨a1,a2⟩:=pM hnd vs r (p+1) env n t hn hl;have hne:o.dst≠some t:=fun e=>by rw[e,Option.bind_some,yE _ _ _ hnd hn]at hb;cases hb
   refine⟨fun h=>a1 fun j o' hj=>h (j+1) o' (by simpa using hj),fun j o' hj hd hu=>?_⟩;cases j with
   |zero=>simp at hj;subst hj;exact absurd hd hne
   |succ j=>
    rw[show p+(j+1)=p+1+j by omega];exact a2 j o' (by simpa using hj) hd fun j' o'' hj' hd'=>by have:=hu (j'+1) o'' (by simpa using hj') hd';omega
  |some s=>
   have e:C.ff p (o::r)=(s,p)::C.ff (p+1) r:=by simp[CC.ff,hb]
   rw[e];simp only[fV];obtain⟨t',ht',hs⟩:=Option.bind_eq_some_iff.1 hb;have hsl:=mh _ _ _ hs;have hslen:s<env.length:=by rw[hl];exact(List.getElem?_eq_some_iff.1 hsl).1
   obtain⟨a1,a2⟩:=pM hnd vs r (p+1) (env.set s (vs.getD p .un)) n t hn (by simpa using hl);have hst:s=n↔t'=t:=by
    constructor
    .rintro rfl;rw[hsl]at hn;exact bl hn
    .rintro rfl;have:=yE _ _ _ hnd hn;rw[hs]at this;exact bl this
   refine⟨fun h=>?_,fun j o' hj hd hu=>?_⟩
   .have hne:t'≠t:=fun e=>h 0 o bz (by rw[ht',e])
    rw[a1 fun j o' hj=>h (j+1) o' (by simpa using hj),xn _ _ _ _ _ hslen,ai (fun e=>hne (hst.1 e.symm))]
   .cases j with
    |zero=>
     simp at hj;subst hj;have ht:t'=t:=by rw[ht']at hd;exact bl hd
     rw[a1 fun j o' hj hd'=>by have:=hu (j+1) o' (by simpa using hj) hd';omega,xn _ _ _ _ _ hslen,ax (hst.2 ht).symm];simp
    |succ j=>
     rw[show p+(j+1)=p+1+j by omega];exact a2 j o' (by simpa using hj) hd fun j' o'' hj' hd'=>by have:=hu (j'+1) o'' (by simpa using hj') hd';omega
def oR (hnd:C.slots.Nodup){ops:Array Oper}{l:List GI}(hsp:Spec C ops.toList l){env VS:List b7}{a:Act}{x:X}{st:St}(hlen:env.length=C.slots.length)(hm:nL C env (ops.toList.map (·.dst)) VS (· <ops.size) a x)
  (hs:eI C.ν x (look st.m)) (hf:eG st x):Inv C a x (fV env VS (C.ff 0 ops.toList)) st:=by
 refine⟨by rw[uF];exact hlen,fun n t hn ho=>?_,hm.size,hm.defers,hs,hf⟩;obtain⟨c1,c2⟩:=pM hnd VS ops.toList 0 env n t hn hlen;by_cases hw:∃j:Nat,(ops.toList.map (·.dst))[j]? =some (some t)
 .obtain⟨j,hj⟩:=hw;have hj':=hj;rw[List.getElem?_map,cS]at hj';obtain⟨o,ho1,ho2⟩:=hj';have e:=c2 j o ho1 ho2 fun j' o' h1 h2=>hsp.distinct hj (by rw[List.getElem?_map,h1,Option.map_some,h2])
  rw[aB]at e;rw[e]at ho⊢;have hjl:j<ops.size:=by simpa using(List.getElem?_eq_some_iff.1 ho1).1
  exact hm.val j t hjl hj ho
 .have hw':∀j:Nat,(ops.toList.map (·.dst))[j]? ≠some (some t):=fun j e=>hw ⟨j,e⟩
  rw[c1 fun j o h1 h2=>hw' j (by rw[List.getElem?_map,h1,Option.map_some,h2])]at ho⊢;exact hm.old n t hn (fun p _=>hw' p) ho
def HQ {a:Act}{x:X}{env:List b7}{st:St}(h:Inv C a x env st){c:Operand}{s:Src}(hc:C.src [] c=some s)(hok:(s.ev env []).ok=true):RD C.ν x (a.eval c) (s.ev env []).d:=
 ((h.Kf [] [] (D:=fun _=>False) (fun _ h=>h)).RY (i:=0) (os:=[c]) (fun t p _ hp=>by simp at hp)) c (.head _) s (by simpa using hc) (by simpa using hok)
def Ex.of:Ex->Exit
 | .normal=>.normal
 | .exit id=>.exit id
 | .ret=>.ret
def Post (C:CC)(Q:Ex->List b7->St->Prop)(x0:X):Exit->Act->World->Prop:=fun e a w=>∃e' x' env' st',Ex.of e'=e/\x'.w=w/\Step x0 x'/\Inv C a x' env' st'/\Q e' env' st'
def Inv.weak {a:Act}{x:X}{env env':List b7}{nx:Nat}{m m':List (Nat×bT)}(h:Inv C a x env ⟨nx,m⟩)(hl:Ob env env')(hm:JI m m'):Inv C a x env' ⟨nx,m'⟩:=by
 have hle:∀(e e':List b7),Ob e e'->e'.length=e.length/\∀n,e'.getD n .un=e.getD n .un\/e'.getD n .un=.un:=by
  intro e;induction e with
  |nil=>intro e' h;cases e'<;>simp_all[Ob]
  |cons b r ih=>
   intro e' h;cases e' with
   |nil=>simp[Ob]at h
   |cons b' r'=>
    simp only[Ob]at h;obtain⟨i1,i2⟩:=ih r' h.2;refine⟨by simp[i1],fun n=>?_⟩;cases n with
    |zero=>simpa using h.1
    |succ n=>simpa using i2 n
 have hsub:∀(m':List (Nat×bT)),JI m m'->∀l b,look m' l=some b->look m l=some b:=by
  intro m';induction m' with
  |nil=>intro _ l b h;simp[look]at h
  |cons p r ih=>
   grind [JI,look]
 obtain⟨l1,l2⟩:=hle env env' hl;refine⟨l1.trans h.len,fun n t hn ho=>?_,h.size,h.defers,h.kZ.less fun l=>?_,h.fresh.β,fun l hl'=>?_⟩
 .rcases l2 n with e|e
  .rw[e]at ho⊢;exact h.env n t hn ho
  .rw[e];exact .any _
 .cases hl':look m' l with
  |none=>exact .inr (.inl rfl)
  |some b=>exact .inl (hsub m' hm l b hl').symm
 .cases hl2:look m' l with
  |none=>exact absurd hl2 hl'
  |some b=>exact h.fresh.m l (by show look m l≠none;rw[hsub m' hm l b hl2];simp)
theorem sZ.cells {d d':D}(h:sZ d d'):d'.cells.length=d.cells.length/\∀j,sZ (d.cells.getD j .any) (d'.cells.getD j .any):=by
 cases h with
 |refl=>exact⟨rfl,fun j=>.refl _⟩
 |nil k=>exact⟨rfl,fun j=>by match j with
  |0=>exact .nil k
  |j+1=>exact .refl _⟩
 |agg a b hl h=>exact⟨hl,h⟩
 |sl k a b hl h=>exact⟨rfl,fun j=>by match j with
  |0=>exact .sl k a b hl h
  |j+1=>exact .refl _⟩
def sZ.bm {d d':D}(h:sZ d d')(hn:d.bm=true):d'.bm=true:=by
 induction h with
 |refl=>exact hn
 |nil k=>rfl
 |agg a b hl h ih=>exact oq fun i _=>ih i (cC hn i)
 |sl k a b hl h ih=>rfl
def RD.wk {ν:List (Nat×Nat)}{x:X}{v:Value}{d d':D}(hv:RD ν x v d)(hw:sZ d d'):RD ν x v d':=by
 induction hv generalizing d' with
 |agg cs ds hl h1 h ih=>
  cases hw with
  |refl=>exact .agg cs ds hl h1 h
  |agg _ b hl2 h2=>exact .agg cs b (hl.trans hl2.symm) (fun i hi=>h1 i ae) (fun i hi=>ih i ae (h2 i))
 |sl a b off len cap k es c hlen ha hcap hm hk hn hc h1 h ih=>
  cases hw with
  |refl=>exact .sl a b off len cap k es c hlen ha hcap hm hk hn hc h1 h
  |sl _ _ es' hl2 h2=>
   refine .sl a b off len cap k es' c (hlen.trans hl2.symm) (ha.imp (fun e=>ij (by rw[hl2,e];rfl)) id) hcap hm (fun i hi=>(h2 i).cells.1.trans (hk i hi)) (fun i hi=>(h2 i).bm (hn i hi)) hc h1 (fun i j hi hj=>ih i j hi hj ((h2 i).cells.2 j))
 |aG=>
  cases hw with
  |refl=>exact .aG
  |nil k=>exact .sl none 0 0 0 0 k [] (fun _ _=>undef) rfl (.inl rfl) (aA _) (Nat.zero_le _) (fun i hi=>ae) (fun i hi=>ae) (fun i j hi=>ae) (fun i j hi=>ae) (fun i j hi=>ae)
 |any v=>cases hw;exact .any v
 |bool b=>cases hw;exact .bool b
 |int k n=>cases hw;exact .int k n
 |str s h=>cases hw;exact .str s h
 |tup cs ds hl h ih=>cases hw;exact .tup cs ds hl h
 |ref b off k i o at_ es c hI hat hk hn hc h1 h ih=>cases hw;exact .ref b off k i o at_ es c hI hat hk hn hc h1 h
 |ptr l k i o b base tot at_ hβ hat=>cases hw;exact .ptr l k i o b base tot at_ hβ hat
 |own l k i n b base tot cap a hβ ha hcap hm ht=>cases hw;exact .own l k i n b base tot cap a hβ ha hcap hm ht
 |own0 l k i a=>cases hw;exact .own0 l k i a
 |nilp=>cases hw;exact .nilp
 |fn fid n cs ds hν hl h ih=>cases hw;exact .fn fid n cs ds hν hl h
 |ed fid n fs ds hν hl h ih=>cases hw;exact .ed fid n fs ds hν hl h
 |mp r es cl ds hI hh hl h ih=>cases hw;exact .mp r es cl ds hI hh hl h
 |bx b at_ ds v hI hc h1 hl h ih=>cases hw;exact .bx b at_ ds v hI hc h1 hl h
 |ifc t n v ds hν hn hl h ih=>cases hw;exact .ifc t n v ds hν hn hl h
 |ifn=>cases hw;exact .ifn
 |zp a=>cases hw;exact .zp a
 |nilf=>cases hw;exact .nilf
 |it l b base tot hβ=>cases hw;exact .it l b base tot hβ
def lG.wk {ν:List (Nat×Nat)}{x:X}{b base tot:Nat}{blk blk':bT}(h:lG ν x b base tot blk)(hw:Pa blk blk'):lG ν x b base tot blk':=by
 match blk,blk',hw with
 | .buf k es,.buf k' es',hw=>
  obtain⟨rfl,hl,h2⟩:=hw;obtain⟨p1,p2,c,T,fr,p3,p4,p5,p6⟩:=h;refine⟨p1,ae,c,T,fr,p3,p4,p5,fun i hi=>⟨(h2 i).cells.1.trans (p6 i ae).1,fun j hj=>⟨((p6 i ae).2 j hj).1,((p6 i ae).2 j hj).2.wk ((h2 i).cells.2 j)⟩⟩⟩
 | .buf k es,.iter s p,hw=>cases hw
 | .buf k es,.row s,hw=>cases hw
 | .buf k es,.bld o n u,hw=>cases hw
 | .iter s p,b',hw=>simp only[Pa]at hw;subst hw;exact h
 | .row s,b',hw=>simp only[Pa]at hw;subst hw;exact h
 | .bld o n u,b',hw=>simp only[Pa]at hw;subst hw;exact h
def Inv.nz {a:Act}{x:X}{env env':List b7}{nx:Nat}{m m':List (Nat×bT)}(h:Inv C a x env ⟨nx,m⟩)(hl:Mw env env')(hm:jJ m m'):Inv C a x env' ⟨nx,m'⟩:=by
 have hle:∀(e e':List b7),Mw e e'->e'.length=e.length/\∀n,(e'.getD n .un).ok=(e.getD n .un).ok/\sZ (e.getD n .un).d (e'.getD n .un).d:=by
  intro e;induction e with
  |nil=>
   intro e' h;cases e' with
   |nil=>exact⟨rfl,fun n=>⟨rfl,.refl _⟩⟩
   |cons _ _=>exact h.elim
  |cons b r ih=>
   intro e' h;cases e' with
   |nil=>exact h.elim
   |cons b' r'=>
    obtain⟨i1,i2⟩:=ih r' h.2;refine⟨by simp[i1],fun n=>?_⟩;cases n with
    |zero=>simpa using h.1
    |succ n=>simpa using i2 n
 have hsub:∀(m':List (Nat×bT)),jJ m m'->∀l b',look m' l=some b'->∃b,look m l=some b/\Pa b b':=by
  intro m';induction m' with
  |nil=>intro _ l b h;simp[look]at h
  |cons p r ih=>
   obtain⟨l0,b0⟩:=p;intro hs l b h;simp only[look]at h;split at h
   .rename_i e;subst e;obtain rfl:=bl h;exact hs.1
   .exact ih hs.2 l b h
 obtain⟨l1,l2⟩:=hle env env' hl;have live:∀l,look m' l≠none->look m l≠none:=fun l hl'=>by
  cases hl2:look m' l with
  |none=>exact absurd hl2 hl'
  |some b=>obtain⟨b0,q1,_⟩:=hsub m' hm l b hl2;rw[q1];simp
 refine⟨l1.trans h.len,fun n t hn ho=>?_,h.size,h.defers,⟨fun l blk b base tot e1 e2=>?_,fun l l' b base tot base' tot' e1 e2 e3 e4=>h.kZ.inj l l' b base tot base' tot' (live l e1) (live l' e2) e3 e4,h.kZ.imm,h.kZ.ed,h.kZ.gd⟩,h.fresh.β,fun l hl'=>h.fresh.m l (live l hl')⟩
 .obtain⟨q1,q2⟩:=l2 n;rw[q1]at ho;exact(h.env n t hn ho).wk q2
 .obtain⟨b0,q1,q2⟩:=hsub m' hm l blk e1;obtain⟨o1,o2⟩:=h.kZ.own l b0 b base tot q1 e2;exact⟨o1,o2.wk q2⟩
def FP (l k:Nat)(es:List D)(d:D):(dy l k es d).cells.length=d.cells.length/\∀j,(dy l k es d).cells.getD j .any=dy l k es (d.cells.getD j .any):=by
 cases d
 case agg cs=>exact⟨by simp[dy,D.cells,eK],fun j=>by simp only[dy,D.cells];exact iv l k es cs j⟩
 case own l' k' i n=>
  grind [dy,D.cells]
 case ptr l' k' i o=>
  grind [dy,D.cells]
 all_goals exact⟨by simp[dy,D.cells],fun j=>by cases j<;>simp[dy,D.cells]⟩
def Dx (l k:Nat)(es:List D):∀e:List b7,(eh l k es e).length=e.length
 |[]=>rfl
 |⟨ok,d⟩::r=>by simp[eh,Dx l k es r]
def zU (l k:Nat)(es:List D):∀(e:List b7) (i:Nat),(eh l k es e).getD i .un=⟨(e.getD i .un).ok,dy l k es (e.getD i .un).d⟩
 |[],i=>by simp[eh,dy,b7.un]
 |⟨ok,d⟩::r,0=>by simp[eh]
 |⟨ok,d⟩::r,i+1=>by simpa[eh]using zU l k es r i
def Ad (l k:Nat)(es:List D)(l':Nat):∀m:List (Nat×bT),look (ek l k es m) l'=(look m l').map (eu l k es)
 |[]=>rfl
 |(a,b)::r=>by
  simp only[ek,look];split
  .rfl
  .exact Ad l k es l' r
def Inv.GU {a:Act}{x:X}{env:List b7}{nx:Nat}{m:List (Nat×bT)}(h:Inv C a x env ⟨nx,m⟩)(l:Nat):∃x':X,x'.w=x.w/\Step x x'/\Inv C a x' (Abs.GU l (env,m)).1 ⟨nx,(Abs.GU l (env,m)).2⟩:=by
 have hsame:∃x':X,x'.w=x.w/\Step x x'/\Inv C a x' env ⟨nx,m⟩:=⟨x,rfl,.refl x,h⟩
 simp only[Abs.GU];split
 .rename_i k es hlk;cases hn:aW es with
  |false=>exact hsame
  |true=>
   simp only[cond_true]
   let x':X:=⟨x.w,fun b=>x.I b\/∃p,x.β l=some p/\p.1=b,x.β⟩
   have hle:Le x x':=⟨fun _ h=>.inl h,fun _ _=>rfl,fun _ _ h=>h⟩;have ho:∀b base tot,x.β l=some (b,base,tot)->x'.I b/\(∀i,i<es.length->(es.getD i .any).cells.length=k)/\∃c:Nat->Nat->Value,∀i j,i<es.length->j<k->
     x'.w.cell? ⟨b,base+i*k+j,none⟩=some (c i j)/\(c i j).oneCell'=true/\RD C.ν x' (c i j) ((es.getD i .any).cells.getD j .any):=by
    intro b base tot hβ;obtain⟨o1,o2,o3,c,T,fr,o4,o5,o6,o7⟩:=h.kZ.own l _ b base tot hlk hβ;refine⟨.inr ⟨_,hβ,rfl⟩,fun i hi=>(o7 i hi).1,fun i j=>c.getD (base+i*k+j) undef,fun i j hi hj=>⟨?_,((o7 i hi).2 j hj).1,((o7 i hi).2 j hj).2.mono hle⟩⟩;exact cell_of_heap o4 (by have:=gO (tot:=tot) (show i<tot by omega) hj;omega)
   have hrd:∀{v:Value} {d:D},RD C.ν x v d->RD C.ν x' v (dy l k es d):=fun hv=>hv.fz hle hn ho
   refine⟨x',rfl,⟨rfl,rfl,rfl,aA _,fun _ h=>.inl h,fun _ _=>rfl,fun _ _ h=>h,fun _ _ _=>rfl,fun b hb=>?_,fun _ _ h=>.inl h⟩, ?_⟩
   .rcases hb with hb|⟨p,h1,h2⟩
    .exact .inl hb
    .exact .inr (.inr ⟨l,p,h1,h2⟩)
   .have hlook:∀l',look (ek l k es (bF m l)) l'=if l'=l then none else(look m l').map (eu l k es):=fun l'=>by
     rw[Ad,gr];split<;>rfl
    refine⟨by rw[Dx];exact h.len,fun n t hn' hok=>?_,h.size,h.defers,⟨fun l' blk b base tot e1 e2=>?_,fun l1 l2 b base tot base' tot' e1 e2 e3 e4=>?_,fun b hb=>?_,h.kZ.ed,qI hle h.kZ.gd⟩,⟨h.fresh.β,fun l' hl'=>?_⟩⟩
    .rw[zU]at hok⊢;exact hrd (h.env n t hn' hok)
    .simp only[hlook]at e1;split at e1
     .cases e1
     .rename_i hne;rw[cS]at e1;obtain⟨blk0,e3,rfl⟩:=e1;obtain⟨o1,o2⟩:=h.kZ.own l' blk0 b base tot e3 e2;refine⟨?_, ?_⟩
      .rintro(hb|⟨⟨b',base',tot'⟩,h1,h2⟩)
       .exact o1 hb
       .simp only at h2;subst h2;exact hne (h.kZ.inj l' l b' base tot base' tot' (by simp only;rw[e3];simp) (by simp only;rw[hlk];simp) e2 h1)
      .cases blk0 with
       |iter s pos=>exact o2
       |row s=>exact o2
       |bld o n u=>exact o2
       |buf k' es'=>
        obtain⟨p1,p2,c,T,fr,p3,p4,p5,p6⟩:=o2;refine⟨p1,by rw[eK];exact p2,c,T,fr,p3,p4,p5,fun i hi=>?_⟩;rw[eK]at hi;obtain⟨q1,q2⟩:=FP l k es (es'.getD i .any);rw[iv,q1];refine⟨(p6 i hi).1,fun j hj=>⟨((p6 i hi).2 j hj).1, ?_⟩⟩;rw[q2];exact hrd ((p6 i hi).2 j hj).2
    .simp only[hlook]at e1 e2;refine h.kZ.inj l1 l2 b base tot base' tot' ?_ ?_ e3 e4
     .intro e;simp[e]at e1
     .intro e;simp[e]at e2
    .rcases hb with hb|⟨⟨b',base',tot'⟩,h1,h2⟩
     .exact h.kZ.imm b hb
     .simp only at h2;subst h2;exact h.kZ.ed l _ _ _ h1
    .simp only[hlook]at hl';refine h.fresh.m l' ?_;intro e;simp only at e;simp[e]at hl'
 .exact hsame
theorem gS {lo:Nat}{σ:List (Nat×Nat)}:∀{ds ds':List D},fk lo σ ds=some ds'->ds'.length=ds.length/\∀i,i<ds.length->jk lo σ (ds.getD i .any)=some (ds'.getD i .any)
 |[],ds',h=>by simp[fk]at h;subst h;exact⟨rfl,fun i hi=>by simp at hi⟩
 |d::r,ds',h=>by
  simp only[fk]at h;split at h
  .rename_i d' r' h1 h2;simp only[bc]at h;subst h;obtain⟨a1,a2⟩:=gS h2
   grind
  .cases h
theorem kV {lo:Nat}{σ:List (Nat×Nat)}{l:Nat}{f:Nat->D}{d:D}(h:qg lo σ l f=some d):∃l',e9 lo σ l=some l'/\d=f l':=by
 grind [qg]
def qW {lo c:Nat}:∀{σ:List (Nat×Nat)}{l l':Nat},eQ lo c σ=true->e9 lo σ l=some l'->l'<c/\(l<lo/\l'=l\/lo<=l'/\(l,l')∈σ)
 |[],l,l',h0,h=>by
  unfold e9 at h;simp only[eQ,Nat.ble_eq]at h0;cases hb:Nat.blt l lo<;>simp only[hb,cond_true,cond_false,reduceCtorEq,bc]at h;have:l<lo:=by simp[Nat.blt]at hb;omega
  subst h;exact⟨ae,.inl ⟨this,rfl⟩⟩
 |(a,b)::r,l,l',h0,h=>by
  unfold e9 at h;simp only[eQ,br,Nat.ble_eq]at h0;obtain⟨p2,p3,p4,p5⟩:=h0;have p3:b<c:=by simp[Nat.blt]at p3;omega
  cases hq:Nat.beq a l<;>simp only[hq,cond_true,cond_false,bc]at h
  .obtain⟨q1,q2⟩:=qW p5 h
   grind
  .have:=Nat.eq_of_beq_eq_true hq;subst this;subst h;exact⟨p3,.inr ⟨p2,.head _⟩⟩
def oH {lo c:Nat}:∀{σ:List (Nat×Nat)}{a b:Nat},eQ lo c σ=true->(a,b)∈σ->b<c
 |[],a,b,_,h=>by cases h
 |p::r,a,b,h0,h=>by
  simp only[eQ,br,Nat.blt,Nat.ble_eq]at h0;rcases dz.1 h with rfl|h
  .have:=h0.2.1;simp only at this;omega
  .exact oH h0.2.2.2 h
theorem zz {lo c:Nat}:∀{σ:List (Nat×Nat)}{a a' b b':Nat},eQ lo c σ=true->(a,b)∈σ->(a',b')∈σ->(b=b'->a=a')
 |[],a,a',b,b',_,h,_=>by cases h
 |(a0,b0)::r,a,a',b,b',h0,h1,h2=>by
  simp only[eQ,br,List.all_eq_true,ef]at h0;obtain⟨_,_,p4,p5⟩:=h0;intro e;rcases dz.1 h1 with h1|h1<;>rcases dz.1 h2 with h2|h2
  .simp only[eg]at h1 h2;omega
  .have:=(p4 _ h2).2;simp only[eg]at h1;obtain⟨rfl,rfl⟩:=h1;subst e;simp at this
  .have:=(p4 _ h1).2;simp only[eg]at h2;obtain⟨rfl,rfl⟩:=h2;subst e;simp at this
  .exact zz p5 h1 h2 e
def jx:List (Nat×Nat)->Nat->Option Nat
 |[],_=>none
 |(a,b)::r,l=>if b=l then some a else jx r l
def jV:∀{σ:List (Nat×Nat)}{l a:Nat},jx σ l=some a->(a,l)∈σ
 |[],l,a,h=>by cases h
 |(a0,b0)::r,l,a,h=>by
  simp only[jx]at h;split at h
  .grind
  .exact .tail _ (jV h)
def tQ {lo c:Nat}:∀{σ:List (Nat×Nat)}{l a:Nat},eQ lo c σ=true->(a,l)∈σ->jx σ l=some a
 |[],l,a,_,h=>by cases h
 |(a0,b0)::r,l,a,h0,h=>by
  simp only[jx];split
  .grind [zz]
  .rename_i e;rcases dz.1 h with h|h
   .grind
   .simp only[eQ,br]at h0;exact tQ h0.2.2.2 h
def xO {lo:Nat}{σ:List (Nat×Nat)}{d d':D}(h:jk lo σ d=some d'):d'.cells.length=d.cells.length/\∀j,j<d.cells.length->jk lo σ (d.cells.getD j .any)=some (d'.cells.getD j .any):=by
 cases d
 case agg cs=>
  simp only[jk]at h;split at h
  .rename_i cs' h1;obtain rfl:=bl h;exact gS h1
  .cases h
 case tup cs=>
  simp only[jk]at h;split at h
  .obtain rfl:=bl h;exact⟨rfl,fun j hj=>by simp[D.cells]at hj⟩
  .cases h
 case fn f cs=>
  grind [jk,D.cells]
 case own l k i n=>
  grind [jk,kV,D.cells]
 case ptr l k i n=>
  grind [jk,kV,D.cells]
 case it l=>
  grind [jk,kV,D.cells]
 all_goals
  have h0:=h;simp only[jk,bc]at h;subst h;exact⟨rfl,fun j hj=>by simp[D.cells]at hj<;>(subst hj;simpa[D.cells]using h0)⟩
theorem RD.rn {ν:List (Nat×Nat)}{x x':X}{lo:Nat}{σ:List (Nat×Nat)}(hw:x'.w=x.w)(hI:x'.I=x.I)(hβ:∀l l',e9 lo σ l=some l'->x'.β l'=x.β l){v:Value}{d:D}(h:RD ν x v d):∀d',jk lo σ d=some d'->RD ν x' v d':=by
 have hk:∀b,x.I b->x'.w.heap[b]? =x.w.heap[b]? :=fun _ _=>by rw[hw]
 have hI':∀b,x.I b->x'.I b:=fun b h=>by rw[hI];exact h
 induction h with
 |any v=>intro d' h;obtain rfl:=bl h;exact .any v
 |bool b=>intro d' h;obtain rfl:=bl h;exact .bool b
 |int k n=>intro d' h;obtain rfl:=bl h;exact .int k n
 |str s h0=>intro d' h;obtain rfl:=bl h;exact .str s h0
 |aG=>intro d' h;obtain rfl:=bl h;exact .aG
 |nilp=>intro d' h;obtain rfl:=bl h;exact .nilp
 |nilf=>intro d' h;obtain rfl:=bl h;exact .nilf
 |sl a b off len cap k' es' c hlen ha hcap hm hk' hn' hc h1 h _=>
  intro d' h2;obtain rfl:=bl h2;exact(RD.sl a b off len cap k' es' c hlen ha hcap hm hk' hn' hc h1 h).bm rfl hI' hk
 |ref b off k' i o at_ es' c hI0 hat hk' hn' hc h1 h _=>
  intro d' h2;obtain rfl:=bl h2;exact(RD.ref b off k' i o at_ es' c hI0 hat hk' hn' hc h1 h).bm rfl hI' hk
 |agg cs ds hl' h1 _ ih=>
  intro d' h;simp only[jk]at h;split at h
  .rename_i cs' h2;obtain rfl:=bl h;obtain⟨a1,a2⟩:=gS h2;exact .agg cs cs' ae (fun i hi=>h1 i ae) fun i hi=>ih i ae _ (a2 i ae)
  .cases h
 |tup cs ds hl' _ ih=>
  intro d' h;simp only[jk]at h;split at h
  .rename_i cs' h2;obtain rfl:=bl h;obtain⟨a1,a2⟩:=gS h2;exact .tup cs cs' ae fun i hi=>ih i ae _ (a2 i ae)
  .cases h
 |fn fid n cs ds hν hl' _ ih=>
  intro d' h;simp only[jk]at h;split at h
  .rename_i cs' h2;obtain rfl:=bl h;obtain⟨a1,a2⟩:=gS h2;exact .fn fid n cs cs' hν ae fun i hi=>ih i ae _ (a2 i ae)
  .cases h
 |ed fid n cs ds hν hl' _ ih=>
  grind [jk,gS,ed]
 |mp r es cl ds hI0 hh hl' _ ih=>
  intro d' h;simp only[jk]at h;split at h
  .rename_i cs' h2;obtain rfl:=bl h;obtain⟨a1,a2⟩:=gS h2;exact .mp r es cl cs' (hI' _ hI0) ((hk _ hI0).trans hh) ae fun i hi=>ih i ae _ (a2 i ae)
  .cases h
 |bx b at_ ds v hI0 hc h1 hl' _ ih=>
  intro d' h;simp only[jk]at h;split at h
  .rename_i cs' h2;obtain rfl:=bl h;obtain⟨a1,a2⟩:=gS h2;exact .bx b at_ cs' v (hI' _ hI0) (gZ (hk _ hI0) hc) h1 ae fun i hi=>ih i ae _ (a2 i ae)
  .cases h
 |ifc t n v ds hν hn hl' _ ih=>
  intro d' h;simp only[jk]at h;split at h
  .rename_i cs' h2;obtain rfl:=bl h;obtain⟨a1,a2⟩:=gS h2;exact .ifc t n v cs' hν hn ae fun i hi=>ih i ae _ (a2 i ae)
  .cases h
 |ifn=>intro d' h;simp only[jk,fk,bc]at h;subst h;exact .ifn
 |zp a=>intro d' h;simp only[jk,fk,bc]at h;subst h;exact .zp a
 |ptr l k i o b base tot at_ hb hat=>
  intro d' h;obtain⟨l',h1,rfl⟩:=kV h;exact .ptr l' k i o b base tot at_ ((hβ _ _ h1).trans hb) hat
 |own l k i n b base tot cap a hb ha hcap hm ht=>
  intro d' h;obtain⟨l',h1,rfl⟩:=kV h;exact .own l' k i n b base tot cap a ((hβ _ _ h1).trans hb) ha hcap hm ht
 |own0 l k i a=>
  intro d' h;obtain⟨l',h1,rfl⟩:=kV h;exact .own0 l' k i a
 |it l b base tot hb=>
  intro d' h;obtain⟨l',h1,rfl⟩:=kV h;exact .it l' b base tot ((hβ _ _ h1).trans hb)
def nM:∀{ds ds':List D},BC ds ds'->ds'.length=ds.length/\∀i,i<ds.length->px (ds.getD i .any) (ds'.getD i .any)
 |[],ds',h=>by simp only[BC]at h;subst h;exact⟨rfl,fun i hi=>by simp at hi⟩
 |d::r,ds',h=>by
  simp only[BC]at h;obtain⟨d',r',rfl,h1,h2⟩:=h;obtain⟨a1,a2⟩:=nM h2
  grind
def xb {d d':D}(h:px d d'):d'.cells.length=d.cells.length/\∀j,j<d.cells.length->px (d.cells.getD j .any) (d'.cells.getD j .any):=by
 cases d
 case agg a=>
  simp only[px]at h;obtain⟨b,rfl,h⟩:=h;exact nM h
 case aG=>
  grind [px,D.cells]
 all_goals
  have h0:=h;simp only[px]at h;obtain⟨rfl,hn⟩:=h;refine⟨rfl,fun j hj=>?_⟩;simp[D.cells]at hj;try(subst hj;simpa[D.cells]using h0)
theorem RD.nl {ν:List (Nat×Nat)}{x x':X}(hw:x'.w=x.w)(hI:x'.I=x.I){v:Value}{d:D}(h:RD ν x v d):∀d',px d d'->RD ν x' v d':=by
 have hk:∀b,x.I b->x'.w.heap[b]? =x.w.heap[b]? :=fun _ _=>by rw[hw]
 have hI':∀b,x.I b->x'.I b:=fun b h=>by rw[hI];exact h
 induction h with
 |aG=>
  intro d' h2;simp only[px]at h2;rcases h2 with rfl|⟨l,k,i,rfl⟩
  .exact .aG
  .exact .own0 l k i _
 |agg cs ds hl' h1 _ ih=>
  intro d' h;simp only[px]at h;obtain⟨b,rfl,h⟩:=h;obtain⟨a1,a2⟩:=nM h;exact .agg cs b ae (fun i hi=>h1 i ae) fun i hi=>ih i ae _ (a2 i ae)
 |any v=>intro d' h;simp only[px]at h;rw[h.1];exact .any v
 |bool b=>intro d' h;simp only[px]at h;rw[h.1];exact .bool b
 |int k n=>intro d' h;simp only[px]at h;rw[h.1];exact .int k n
 |str s h0=>intro d' h;simp only[px]at h;rw[h.1];exact .str s h0
 |tup cs ds hl' h0 _=>intro d' h;simp only[px]at h;rw[h.1];exact(RD.tup cs ds hl' h0).bm h.2 hI' hk
 |sl a b off len cap k' es' c hlen ha hcap hm hk' hn' hc h1 h0 _=>
  intro d' h2;simp only[px]at h2;rw[h2.1];exact(RD.sl a b off len cap k' es' c hlen ha hcap hm hk' hn' hc h1 h0).bm h2.2 hI' hk
 |ref b off k' i o at_ es' c hI0 hat hk' hn' hc h1 h0 _=>
  intro d' h2;simp only[px]at h2;rw[h2.1];exact(RD.ref b off k' i o at_ es' c hI0 hat hk' hn' hc h1 h0).bm h2.2 hI' hk
 |nilp=>intro d' h;simp only[px]at h;rw[h.1];exact .nilp
 |nilf=>intro d' h;simp only[px]at h;rw[h.1];exact .nilf
 |fn fid n cs ds hν hl' h0 _=>intro d' h;simp only[px]at h;rw[h.1];exact(RD.fn fid n cs ds hν hl' h0).bm h.2 hI' hk
 |ed fid n cs ds hν hl' h0 _=>intro d' h;simp only[px]at h;rw[h.1];exact(RD.ed fid n cs ds hν hl' h0).bm h.2 hI' hk
 |mp r es cl ds hI hh hl' h0 _=>intro d' h;simp only[px]at h;rw[h.1];exact(RD.mp r es cl ds hI hh hl' h0).bm h.2 hI' hk
 |bx b at_ ds v hI hc h1 hl' h0 _=>intro d' h;simp only[px]at h;rw[h.1];exact(RD.bx b at_ ds v hI hc h1 hl' h0).bm h.2 hI' hk
 |ifc t n v ds hν hn hl' h0 _=>intro d' h;simp only[px]at h;rw[h.1];exact(RD.ifc t n v ds hν hn hl' h0).bm h.2 hI' hk
 |ifn=>intro d' h;simp only[px]at h;rw[h.1];exact .ifn
 |zp a=>intro d' h;simp only[px]at h;rw[h.1];exact .zp a
 |ptr=>intro d' h;simp only[px]at h;simp[D.bm]at h
 |own=>intro d' h;simp only[px]at h;simp[D.bm]at h
 |own0=>intro d' h;simp only[px]at h;simp[D.bm]at h
 |it=>intro d' h;simp only[px]at h;simp[D.bm]at h
def zx {lo:Nat}{σ:List (Nat×Nat)}:∀{e e':List b7},aN lo σ e e'->e'.length=e.length/\∀n,(e'.getD n .un).ok=(e.getD n .un).ok/\KJ lo σ (e.getD n .un).d (e'.getD n .un).d\/e'.getD n .un=.un
 |[],[],_=>⟨rfl,fun n=>.inr bz⟩
 |[],_::_,h=>h.elim
 |_::_,[],h=>h.elim
 |a::r,b::s,h=>by
  simp only[aN]at h;obtain⟨i1,i2⟩:=zx h.2;refine⟨by simp[i1],fun n=>?_⟩;cases n with
  |zero=>simpa using h.1
  |succ n=>simpa using i2 n
def zy {lo c:Nat}{σ:List (Nat×Nat)}{m:List (Nat×bT)}:∀{m':List (Nat×bT)},aK lo c σ m m'->∀l' b',look m' l'=some b'->(∃l b,e9 lo σ l=some l'/\look m l=some b/\mH lo σ b b')\/(Nat.ble lo l'=true/\Nat.blt l' c=true/\σ.all (fun p=>!Nat.beq p.2 l')=true/\∃k,b'=.buf k [])
 |[],_,l',b',h=>by simp[look]at h
 |(l0,b0)::r,hh,l',b',h=>by
  simp only[aK]at hh;simp only[look]at h;split at h
  .grind
  .exact zy hh.2 l' b' h
def xr:∀{σ:List (Nat×Nat)}{l:Nat},σ.all (fun p=>!Nat.beq p.2 l)=true->jx σ l=none
 |[],l,_=>rfl
 |(a,b)::r,l,h=>by
  simp only[List.all_cons,br,ef]at h;simp only[jx];rw[ai (fun e=>by subst e;simp at h),xr h.2]
def Inv.ren {a:Act}{x0 x:X}{env env':List b7}{nx:Nat}{m m':List (Nat×bT)}{lo c:Nat}{σ:List (Nat×Nat)}(h:Inv C a x env ⟨nx,m⟩)(hs:Step x0 x)(hlo:∀l,lo<=l->x0.β l=none)(hok:eQ lo c σ=true)(he:aN lo σ env env')(hm:aK lo c σ m m'):
  ∃x':X,x'.w=x.w/\Step x0 x'/\Inv C a x' env' ⟨c,m'⟩:=by
 let x':X:=⟨x.w,x.I,fun l'=>if l'<lo then x.β l' else(jx σ l').bind x.β⟩
 have hβ:∀l l',e9 lo σ l=some l'->x'.β l'=x.β l:=by
  intro l l' e;obtain⟨p1,p2⟩:=qW hok e;rcases p2 with⟨p2,rfl⟩|⟨p3,p4⟩
  .simp only[x',ax p2]
  .simp only[x',ai (Nat.not_lt.2 p3),tQ hok p4,Option.bind_some]
 have hβi:∀l' p,x'.β l'=some p->∃l,x.β l=some p:=by
  intro l' p e;simp only[x']at e;split at e
  .exact⟨l',e⟩
  .obtain⟨l,_,h2⟩:=Option.bind_eq_some_iff.1 e;exact⟨l,h2⟩
 have hrd:∀{v:Value} {d d':D},RD C.ν x v d->KJ lo σ d d'->RD C.ν x' v d':=by
  intro v d d' hv hd;rcases hd with⟨rfl,hn⟩|hd|hd
  .exact hv.bm hn (fun _ h=>h) (fun _ _=>rfl)
  rotate_left
  .exact RD.nl (x:=x) (x':=x') rfl rfl hv _ hd
  .exact RD.rn (x:=x) (x':=x') rfl rfl hβ hv _ hd
 obtain⟨e1,e2⟩:=zx he;have hm1:=zy hm;have hm2:∀l' b' p,look m' l'=some b'->x'.β l'=some p->∃l b,e9 lo σ l=some l'/\look m l=some b/\mH lo σ b b':=by
  intro l' b' p h1 h2;rcases hm1 l' b' h1 with h3|⟨q1,q2,q3,q4⟩
  .exact h3
  .have q1:lo<=l':=by simpa using q1
   simp only[x',ai (show ¬l'<lo by omega),xr q3,Option.bind_none]at h2;cases h2
 refine⟨x',rfl,⟨hs.os,hs.tape,hs.output,hs.size,hs.I,hs.keep,fun l p hp=>?_,hs.old,hs.newI,fun l' p hp=>?_⟩,⟨e1.trans h.len,fun n t hn ho=>?_,h.size,h.defers,⟨fun l' blk b base tot e3 e4=>?_,fun l1 l2 b base tot base' tot' e3 e4 e5 e6=>?_,h.kZ.imm,fun l' b base tot e=>?_,dw.le x _ (fun _ h=>h) (fun _ _=>rfl) h.kZ.gd⟩,⟨fun l' hl'=>?_,fun l' hl'=>?_⟩⟩⟩
 .have hl:l<lo:=by
   rcases cT l lo with h1|h1
   .exact h1
   .rw[hlo l h1]at hp;cases hp
  simp only[x',ax hl];exact hs.β l p hp
 .obtain⟨l,hl⟩:=hβi l' p hp;rcases hs.newβ l p hl with h1|h1|h1
  .exact .inr (.inr ⟨l,p,h1,rfl⟩)
  .exact .inr (.inl h1)
  .exact .inr (.inr h1)
 .rcases e2 n with⟨q1,q2⟩|q
  .rw[q1]at ho;exact hrd (h.env n t hn ho) q2
  .rw[q];exact .any _
 .obtain⟨l,b0,q1,q2,q3⟩:=hm2 l' blk _ e3 e4;rw[hβ l l' q1]at e4;obtain⟨o1,o2⟩:=h.kZ.own l b0 b base tot q2 e4;refine⟨o1, ?_⟩;cases b0 with
  |iter s p=>
   cases blk with
   |iter s' p'=>simp only[mH]at q3;obtain⟨rfl,rfl⟩:=q3;exact o2
   |_=>simp[mH]at q3
  |row s=>
   cases blk with
   |row s'=>simp only[mH]at q3;subst q3;exact o2
   |_=>simp[mH]at q3
  |bld o n u=>
   cases blk with
   |bld o' n' u'=>
    simp only[mH]at q3;obtain⟨q3,rfl,rfl⟩:=q3;obtain⟨p1,v,p2,p3⟩:=o2;refine⟨p1,v,p2, ?_⟩;cases o with
    |none=>simp only at q3;subst q3;exact p3
    |some l0=>
     obtain⟨l1,q4,rfl⟩:=q3;obtain⟨g,t,p4,p5,p6⟩:=p3;exact⟨g,t,p4,p5,by rw[hβ l0 l1 q4];exact p6⟩
   |_=>simp[mH]at q3
  |buf k es=>
   cases blk with
   |iter s' p'=>simp[mH]at q3
   |row s'=>simp[mH]at q3
   |bld o' n' u'=>simp[mH]at q3
   |buf k' es'=>
    simp only[mH]at q3;obtain⟨rfl,q3⟩:=q3;obtain⟨p1,p2,cc,T,fr,p3,p4,p5,p6⟩:=o2;rcases q3 with⟨rfl,hn⟩|q3|q3
    .exact⟨p1,p2,cc,T,fr,p3,p4,p5,fun i hi=>⟨(p6 i hi).1,fun j hj=>⟨((p6 i hi).2 j hj).1,((p6 i hi).2 j hj).2.bm (jA (cC hn i) j) (fun _ h=>h) (fun _ _=>rfl)⟩⟩⟩
    rotate_left
    .obtain⟨r1,r2⟩:=nM q3;refine⟨p1,ae,cc,T,fr,p3,p4,p5,fun i hi=>?_⟩;have hi':i<es.length:=ae;obtain⟨s1,s2⟩:=xb (r2 i hi');refine⟨s1.trans (p6 i hi').1,fun j hj=>⟨((p6 i hi').2 j hj).1,hrd ((p6 i hi').2 j hj).2 (.inr (.inr (s2 j (by rw[(p6 i hi').1];exact hj))))⟩⟩
    .obtain⟨r1,r2⟩:=gS q3;refine⟨p1,ae,cc,T,fr,p3,p4,p5,fun i hi=>?_⟩;have hi':i<es.length:=ae;obtain⟨s1,s2⟩:=xO (r2 i hi');refine⟨s1.trans (p6 i hi').1,fun j hj=>⟨((p6 i hi').2 j hj).1,hrd ((p6 i hi').2 j hj).2 (.inr (.inl (s2 j (by rw[(p6 i hi').1];exact hj))))⟩⟩
 .cases f1:look m' l1 with
  |none=>simp only at e3;exact absurd f1 e3
  |some b1=>
   cases f2:look m' l2 with
   |none=>simp only at e4;exact absurd f2 e4
   |some b2=>
    obtain⟨l1',b1',q1,q2,_⟩:=hm2 l1 b1 _ f1 e5;obtain⟨l2',b2',r1,r2,_⟩:=hm2 l2 b2 _ f2 e6;rw[hβ _ _ q1]at e5;rw[hβ _ _ r1]at e6;have:=h.kZ.inj l1' l2' b base tot base' tot' (by simp only;rw[q2];simp) (by simp only;rw[r2];simp) e5 e6;subst this;rw[q1]at r1;exact bl r1
 .obtain⟨l,hl⟩:=hβi l' _ e;exact h.kZ.ed l b base tot hl
 .have hc:lo<=c:=by
   clear hβ hrd e2 hm2 he hm;induction σ with
   |nil=>simpa[eQ]using hok
   |cons p r ih=>simp only[eQ,br,Nat.ble_eq,Nat.blt]at hok;omega
  have hl'':c<=l':=hl';simp only[x',ai (show ¬l'<lo by omega)];cases hi:jx σ l' with
  |none=>rfl
  |some l=>
   have hmem:=jV hi;have:=oH hok hmem;omega
 .cases f1:look m' l' with
  |none=>simp only at hl';exact absurd f1 hl'
  |some b1=>
   rcases hm1 l' b1 f1 with⟨l,b,q1,_⟩|⟨_,q2,_⟩
   .exact(qW hok q1).1
   .simp only;simp[Nat.blt]at q2;omega
def Inv.ghost {a:Act}{x0:X}{lo:Nat}{env env':List b7}{st st':St}(hlo:∀l,lo<=l->x0.β l=none)(g:aU lo env st env' st'):∀{x:X},Inv C a x env st->Step x0 x->∃x':X,x'.w=x.w/\Step x0 x'/\Inv C a x' env' st':=by
 induction g with
 |refl env st=>intro x h hs;exact⟨x,rfl,hs,h⟩
 |GU l env st=>
  intro x h hs;obtain⟨x',a1,a2,a3⟩:=Inv.GU (nx:=st.nx) (m:=st.m) h l;exact⟨x',a1,hs.trans a2,a3⟩
 |ren σ c env env' nx m m' h0 he hm=>intro x h hs;exact h.ren hs hlo h0 he hm
 |wk env env' nx m m' he hm=>intro x h hs;exact⟨x,rfl,hs,h.weak he hm⟩
 |nz env env' nx m m' he hm=>intro x h hs;exact⟨x,rfl,hs,h.nz he hm⟩
 |trans env1 env2 env3 st1 st2 st3 g1 g2 ih1 ih2=>
  grind
def least {p:Nat->Prop}(h:∃n,p n):∃n,p n/\∀m,p m->n<=m:=by
 obtain⟨n,hn⟩:=h;induction n using Nat.strongRecOn with
 |_ n ih=>
  grind
def pL (hΓ:Ok C.P C.ν C.cy Y)(hnd:C.slots.Nodup)(hmix:C.P.follows .mixedOrders=true)(x0:X)(hlo:∀l,Y.lo<=l->x0.β l=none):∀(c:Code) (ac:AC),C.code c=some ac->∀(Q:Ex->List b7->St->Prop) (env:List b7) (st:St) (a:Act) (x:X),
  cq Y ac Q env st->Inv C a x env st->Step x0 x->c.wp C.P (Post C Q x0) a x.w:=by
 intro c;induction c with
 |skip=>
  intro ac hc Q env st a x hw hi hs;simp only[CC.code,bc]at hc;subst hc;obtain⟨env,st,hgh,hw⟩:=hw;obtain⟨x,hxf,hs,hi⟩:=Inv.ghost hlo hgh hi hs;rw[<-hxf];exact wp_skip ⟨.normal,x,env,st,rfl,rfl,hs,hi,hw⟩
 |region id ops draw=>
  intro ac hc Q env st a x hw hi hs;simp only[CC.code]at hc;split at hc
  .rename_i l0 hl;cases draw with
   |false=>
    .simp only[gV,aE,bc]at hc;subst hc;have hsp:=Spec.start hl;simp only[cq]at hw;obtain⟨env,st,hgh,hw⟩:=hw;obtain⟨x,hxf,hs,hi⟩:=Inv.ghost hlo hgh hi hs;rw[<-hxf];refine wp_region ?_;rw[List.range_eq_range'];refine DX hsp hΓ (x0:=x0) (K:=fun vs st'=>Q .normal (fV env vs (C.ff 0 ops.toList)) st') (fun vs' st' a' x' hk _ hm hst hsm hfr=>?_) ops.size 0 [] st x a ae rfl (hi.Kf _ _ (fun p h=>ae)) hs hi.kZ hi.fresh hw;exact⟨.normal,x',_,st',rfl,rfl,hst,oR hnd hsp hi.len hm hsm hfr,hk⟩
   |true=>
    simp only[aF]at hc;split at hc
    .rename_i hdo;simp only[bc]at hc;subst hc;have hsp:=(Spec.start hl).ke (jv [] ops.toList);generalize ke (jv [] ops.toList) l0 0 l0=l at hsp hdo hw;simp only[cq]at hw;obtain⟨env,st,hgh,hw⟩:=hw;obtain⟨x,hxf,hs,hi⟩:=Inv.ghost hlo hgh hi hs;rw[<-hxf];have ho:=IH hdo;have hasm:∀g∈l,∀vs',g.i.yo true (Src.ev env vs'):=by
      intro g hg vs';refine BI fun s _ hS hok=>?_
      have:=hS rfl;obtain⟨n,rfl⟩:∃n,s=.s n:=by
       cases s<;>simp only[Src.DB]at this<;>first
        |exact⟨_,rfl⟩
        |cases this
      simp only[Src.ev]at hok⊢;by_cases hn:n<C.slots.length
      .exact⟨_,_,_,hi.env n C.slots[n] (by simp[hn]) hok⟩
      .refine⟨C.ν,x,undef, ?_⟩;have:env.getD n .un=.un:=by simp[List.getD,List.getElem?_eq_none (show env.length<=n by rw[hi.len];omega)]
       rw[this];exact .any _
     rcases Of hdo with hnM|hlm
     .obtain⟨VS,M,tr,hM0,hk⟩:=ov hnM hasm hi.fresh.m hw;have hg:gY x.w {x.w with drawn:=x.w.drawn+1}:=⟨rfl,rfl,rfl,aA _,fun _ _=>rfl⟩
      let x1:X:=⟨{x.w with drawn:=x.w.drawn+1},x.I,x.β⟩
      have hst1:Step x x1:=Step.grow hg hi.kZ.imm;have hs1:eI C.ν x1 (look st.m):=hi.kZ.grow hg;refine wp_region_any hmix ?_;refine zP hsp ho hnM hΓ tr (x0:=x0) (fun a' x' hm hst hsm hfr=>?_) ops.size _ a x1 (look st.m) 0 ?_ ?_
      .exact⟨.normal,x',_,_,rfl,rfl,hst,oR hnd hsp hi.len hm hsm hfr,hk⟩
      .have hno:∀p,¬(Array.replicate ops.size false).getD p false=true:=fun p=>by
        simp[Array.getElem?_replicate];split<;>simp
       refine⟨?_,hs.trans hst1,hs1,bz,fun j hj=>absurd hj (hno j),fun l' hl' _=>hi.fresh.β l' hl',fun p g _ _=>⟨fun h=>absurd h (hno p),fun h=>ae⟩,fun l' hl'=>?_,fun q g _ _ _ h=>absurd h (hno q)⟩
       .have:=hi.Kf (ops.toList.map (·.dst)) VS (D:=fun p=>(Array.replicate ops.size false).getD p false=true) hno;exact⟨fun p t hp=>absurd hp (hno p),fun p t hp=>absurd hp (hno p),fun n t hn h1 h2=>(this.old n t hn h1 h2).mono hst1.le,this.size,this.defers⟩
       .have hlt:l'<st.nx:=by
         rcases cT l' st.nx with h1|h1
         .exact h1
         .exact absurd (hi.fresh.β l' h1) hl'
        rw[show max 0 (l'+1-st.nx)=0 by omega,hM0]
      .unfold HM;exact ea (List.length_filter_le _ _) bz
     .obtain⟨l',suf,rfl,hsuf,hfull,hnM⟩:=B0 hlm;have hlen:l'.length+suf.length=ops.size:=by have:=hsp.len;simpa using this
      have hsz:ops.size=l'.length+suf.length:=hlen.symm;have hpl:(ops.extract 0 l'.length).toList=ops.toList.take l'.length:=bz;have hpz:(ops.extract 0 l'.length).size=l'.length:=eB;have hops:ops.toList=(ops.extract 0 l'.length).toList++ops.toList.drop l'.length:=by rw[hpl,List.take_append_drop]
      generalize ops.extract 0 l'.length=ps at hpl hpz hops;have hpop:∀j,j<l'.length->ps.toList[j]? =ops.toList[j]? :=fun j hj=>by rw[hpl,List.getElem?_take,ax hj]
      have hdd:∀j,j<l'.length->(ps.toList.map (·.dst))[j]? =(ops.toList.map (·.dst))[j]? :=fun j hj=>by
       rw[List.getElem?_map,List.getElem?_map,hpop j hj]
      have htk:∀j,j<=l'.length->(ps.toList.map (·.dst)).take j=(ops.toList.map (·.dst)).take j:=fun j hj=>by
       rw[hpl,List.map_take,List.take_take,Nat.min_eq_left hj]
      have hsp':Spec C ps.toList l':=by
       refine⟨by simpa using hpz.symm,fun i oi hoi=>?_,fun i oi d hoi hd=>?_⟩
       .have hi':i<l'.length:=by have:=(List.getElem?_eq_some_iff.1 hoi).1;simp at this;omega
        rw[hpop i hi']at hoi;obtain⟨g,g1,g2,g3⟩:=hsp.op i oi hoi;rw[List.getElem?_append_left hi']at g1;exact⟨g,g1,by rw[htk i ae];exact g2,by rw[htk i ae];exact g3⟩
       .have hi':i<l'.length:=by have:=(List.getElem?_eq_some_iff.1 hoi).1;simp at this;omega
        rw[hpop i hi']at hoi;obtain⟨h1,h2⟩:=hsp.dst i oi d hoi hd;exact⟨h1,fun p hp=>by rw[hdd p ae];exact h2 p hp⟩
      have ho':Order ps.toList l' (jv [] ops.toList):=Order.pre (os:=ops.toList.drop l'.length) (ls:=suf) (by rw[<-hops];exact ho);have hgd:∀(i:Nat) (o:Oper),ops[i]? =some o->∀j w,o.guard=some (j,w)->j<i:=by
       intro i oi hoi j w hj;obtain⟨g,_,_,g3⟩:=hsp.op i oi (by simpa using hoi);rw[hj]at g3;simp only[CC.guard]at g3;split at g3
       .rename_i t ht;have:=(List.getElem?_eq_some_iff.1 ht).1;simp only[dM]at this;omega
       .cases g3
      have hw':=vT l' [] st rfl hnM hw;obtain⟨VS,M,tr,hM0,hk⟩:=ov hnM (fun g hg=>hasm g (List.mem_append_left _ hg)) hi.fresh.m hw';have hVS:VS.length=l'.length:=tr.len;have hg:gY x.w {x.w with drawn:=x.w.drawn+1}:=⟨rfl,rfl,rfl,aA _,fun _ _=>rfl⟩
      let x1:X:=⟨{x.w with drawn:=x.w.drawn+1},x.I,x.β⟩
      have hst1:Step x x1:=Step.grow hg hi.kZ.imm;have hs1:eI C.ν x1 (look st.m):=hi.kZ.grow hg;refine wp_region_any hmix ?_;have hno:∀(n p:Nat),¬(Array.replicate n false).getD p false=true:=fun n p=>by
       simp[Array.getElem?_replicate];split<;>simp
      rw[hsz];refine xe suf.length hsz bz ho hfull hgd a x1.w ?_;rw[show ops.extract 0 l'.length=ps by apply Array.ext';rw[hpl];simp];refine zP hsp' ho' hnM hΓ tr (x0:=x0) (fun a' x' hm hst hsm hfr=>?_) l'.length _ a x1 (look st.m) 0 ?_ ?_
      ·
       show wpOps C.P ops _ (List.range' l'.length suf.length) a' x'.w;have hk2:=Jr hsuf hk;simp only at hk2;rw[show st.nx+l'.length-VS.length=st.nx by omega]at hk2;have hmid:nL C env (ops.toList.map (·.dst)) VS (· <l'.length) a' x':=by
        refine⟨fun p t hp h1 h2=>hm.val p t (by rw[hpz];exact hp) (by rw[hdd p hp];exact h1) h2,fun p t hp h1 h2=>hm.und p t (by rw[hpz];exact hp) (by rw[hdd p hp];exact h1) h2,fun n t hn h1 h2=>hm.old n t hn (fun p hp=>?_) h2,hm.size,hm.defers⟩;have hp':p<l'.length:=by have hp:p<ps.size:=hp;omega
        rw[hdd p hp'];exact h1 p hp'
       exact DX hsp hΓ (x0:=x0) (K:=fun vs st'=>Q .normal (fV env vs (C.ff 0 ops.toList)) st') (fun vs' st' a' x' hk _ hm hst hsm hfr=>⟨.normal,x',_,st',rfl,rfl,hst,oR hnd hsp hi.len hm hsm hfr,hk⟩) suf.length l'.length VS ⟨st.nx,M l'.length⟩ x' a' hlen hVS hmid hst hsm hfr (by rw[List.drop_left];exact hk2)
      .refine⟨?_,hs.trans hst1,hs1,by simp[hpz],fun j hj=>absurd hj (hno _ j),fun l' hl' _=>hi.fresh.β l' hl',fun p g _ _=>⟨fun h=>absurd h (hno _ p),fun h=>ae⟩,fun l' hl'=>?_,fun q g _ _ _ h=>absurd h (hno _ q)⟩
       .have:=hi.Kf (ps.toList.map (·.dst)) VS (D:=fun p=>(Array.replicate l'.length false).getD p false=true) (hno _);exact⟨fun p t hp=>absurd hp (hno _ p),fun p t hp=>absurd hp (hno _ p),fun n t hn h1 h2=>(this.old n t hn h1 h2).mono hst1.le,this.size,this.defers⟩
       .have hlt:l'<st.nx:=by
         rcases cT l' st.nx with h1|h1
         .exact h1
         .exact absurd (hi.fresh.β l' h1) hl'
        rw[show max 0 (l'+1-st.nx)=0 by omega,hM0]
      .unfold HM;refine ea (List.length_filter_le _ _) (by simp[hpz])
    .simp only[cS]at hc;obtain⟨l',hlo',rfl⟩:=hc;obtain⟨pre,f,ss,suf,rfl,rfl,hpu,hsuf,hro,hed,hfull⟩:=Ae hlo';have hsp:=Spec.start hl;simp only[cq]at hw;obtain⟨env,st,hgh,hw⟩:=hw;obtain⟨x,hxf,hs,hi⟩:=Inv.ghost hlo hgh hi hs;rw[<-hxf];have ho:=Av hro hed;have hncm:∀g∈pre,g.i.cz=false:=fun g hg=>by
      rcases hpu g hg with h|h
      .obtain⟨gi,gg⟩:=g;cases gi<;>first|rfl|(simp[aI.pure]at h;done)
      .obtain⟨gi,gg⟩:=g;cases gi<;>first|rfl|(simp[aI.wW]at h;done)
     have hsz:ops.size=(pre.length+1)+suf.length:=by have:=hsp.len;simp at this;omega
     have hasm:∀g∈pre,∀vs',g.i.yo true (Src.ev env vs'):=by
      intro g hg vs';refine BI fun s _ hS hok=>?_
      have:=hS rfl;obtain⟨n,rfl⟩:∃n,s=.s n:=by
       cases s<;>simp only[Src.DB]at this<;>first
        |exact⟨_,rfl⟩
        |cases this
      simp only[Src.ev]at hok⊢;by_cases hn:n<C.slots.length
      .exact⟨_,_,_,hi.env n C.slots[n] (by simp[hn]) hok⟩
      .refine⟨C.ν,x,undef, ?_⟩;have:env.getD n .un=.un:=by simp[List.getD,List.getElem?_eq_none (show env.length<=n by rw[hi.len];omega)]
       rw[this];exact .any _
     have hw':=vT pre [] st rfl hncm hw;obtain⟨VS,M,tr,hM0,hk⟩:=ov hncm hasm hi.fresh.m hw';have hVS:VS.length=pre.length:=tr.len;have hMc:∀k,M k=st.m:=by
      intro k;induction k with
      |zero=>exact hM0
      |succ k ih=>
       cases hg:pre[k]? with
       |none=>rw[tr.stop k hg,ih]
       |some g=>
        rw[tr.step k g hg,ih];rcases hpu g (List.mem_of_getElem? hg)with h|h
        .exact Az h
        .obtain⟨gi,gg⟩:=g;cases gi<;>first|rfl|(simp[aI.wW]at h;done)
     have hg:gY x.w {x.w with drawn:=x.w.drawn+1}:=⟨rfl,rfl,rfl,aA _,fun _ _=>rfl⟩
     let x1:X:=⟨{x.w with drawn:=x.w.drawn+1},x.I,x.β⟩
     have hst1:Step x x1:=Step.grow hg hi.kZ.imm;have hs1:eI C.ν x1 (look st.m):=hi.kZ.grow hg;refine wp_region_any hmix ?_;have hno:∀(n p:Nat),¬(Array.replicate n false).getD p false=true:=fun n p=>by
      simp[Array.getElem?_replicate];split<;>simp
     rw[hMc]at hk;simp only[ep]at hk;obtain⟨_,k1,k2⟩:=hk;rw[show st.nx+pre.length-VS.length+VS.length=st.nx+pre.length by omega,hVS]at k2;refine FX (n:=pre.length) (nx:=st.nx) (m:=st.m) (x0:=x0) hΓ hsp rfl rfl ho hVS (Lu hl) (fun i o t hoi ht=>?_) hpu hsuf (fun i g hgi=>?_) (fun i k ag p gd hgi=>by simpa using uE (b:=(jv [] ops.toList).getD pre.length 0) (p:=0) hgi) hfull k1
      (K:=fun vs st'=>Q .normal (fV env vs (C.ff 0 ops.toList)) st') ?_ (hs.trans hst1) hs1 ?_ (fun vs' st' a' x' hk _ hm hst hsm hfr=>⟨.normal,x',_,st',rfl,rfl,hst,oR hnd hsp hi.len hm hsm hfr,hk⟩) ops.size _ a bz (fun p _=>by simp[Array.getElem?_replicate];split<;>simp) (fun j hj=>absurd hj (hno _ j)) ?_ ?_
     .have hoi':ops.toList[i]? =some o:=by simpa using hoi
      obtain⟨h1,h2⟩:=hsp.dst i o t hoi' ht;exact⟨h1,fun p hp e=>hp (hsp.distinct (by rw[List.getElem?_map,hoi',Option.map_some,ht]) e)⟩
     .obtain⟨e1,e2⟩:=tr.ent i g hgi;refine⟨e1,tr.GV i g hgi,fun hf=>?_⟩;have h1:=tr.dG i g hgi hf;have h2:=e2 hf;rw[hMc]at h1 h2;exact⟨h1,h2⟩
     .exact k2
     .exact⟨fun l' hl'=>hi.fresh.β l' (by have:st.nx+pre.length<=l':=hl';omega),fun l' hl'=>by have:=hi.fresh.m l' hl';simp only;omega⟩
     .have:=hi.Kf (ops.toList.map (·.dst)) VS (D:=fun p=>(Array.replicate ops.size false).getD p false=true) (hno _);exact⟨fun p t hp=>absurd hp (hno _ p),fun p t hp=>absurd hp (hno _ p),fun n t hn h1 h2=>(this.old n t hn h1 h2).mono hst1.le,this.size,this.defers⟩
     .unfold HM;exact ea (List.length_filter_le _ _) bz
  .cases hc
 |seq c1 c2 ih1 ih2=>
  intro ac hc Q env st a x hw hi hs;simp only[CC.code]at hc;split at hc
  .rename_i a1 a2 h1 h2;simp only[bc]at hc;subst hc;simp only[cq]at hw;obtain⟨env,st,hgh,hw⟩:=hw;obtain⟨x,hxf,hs,hi⟩:=Inv.ghost hlo hgh hi hs;rw[<-hxf];refine wp_seq (wp_mono (ih1 a1 h1 _ env st a x hw hi hs) fun e a' w' hp=>?_);obtain⟨e',x',env',st',he,hxw,hst,hi',hq⟩:=hp;subst hxw;cases e' with
   |normal=>subst he;exact ih2 a2 h2 Q env' st' a' x' hq hi' hst
   |exit id=>subst he;exact⟨.exit id,x',env',st',rfl,rfl,hst,hi',hq⟩
   |ret=>subst he;exact⟨.ret,x',env',st',rfl,rfl,hst,hi',hq⟩
  .cases hc
 |cond c c1 c2 ih1 ih2=>
  intro ac hc Q env st a x hw hi hs;simp only[CC.code]at hc;split at hc
  .rename_i s a1 a2 h0 h1 h2;simp only[bc]at hc;subst hc;simp only[cq]at hw;obtain⟨env,st,hgh,hw⟩:=hw;obtain⟨x,hxf,hs,hi⟩:=Inv.ghost hlo hgh hi hs;rw[<-hxf];obtain⟨hok,hw⟩:=hw;have hv:=HQ hi h0 hok;cases hd:(s.ev env []).d<;>simp only[hd]at hw;rename_i t;rw[hd]at hv;cases t with
   |true=>exact wp_cond_true hv.iq (ih1 a1 h1 Q env st a x (hw.1 rfl) hi hs)
   |false=>exact wp_cond_false hv.iq (ih2 a2 h2 Q env st a x (hw.2 rfl) hi hs)
  .cases hc
 |block id c1 ih=>
  intro ac hc Q env st a x hw hi hs;simp only[CC.code,cS]at hc;obtain⟨a1,h1,rfl⟩:=hc;simp only[cq]at hw;obtain⟨env,st,hgh,hw⟩:=hw;obtain⟨x,hxf,hs,hi⟩:=Inv.ghost hlo hgh hi hs;rw[<-hxf];refine wp_block (wp_mono (ih a1 h1 _ env st a x hw hi hs) fun e a' w' hp=>?_);obtain⟨e',x',env',st',he,hxw,hst,hi',hq⟩:=hp;subst hxw;cases e' with
  |normal=>subst he;exact⟨.normal,x',env',st',rfl,rfl,hst,hi',hq⟩
  |exit j=>
   subst he;simp only[Ex.of,Exit.inBlock];by_cases hj:j=id
   .rw[ax hj];simp only[hj,aF]at hq;exact⟨.normal,x',env',st',rfl,rfl,hst,hi',hq⟩
   .rw[ai hj];simp only[hj,aE]at hq;exact⟨.exit j,x',env',st',rfl,rfl,hst,hi',hq⟩
  |ret=>subst he;exact⟨.ret,x',env',st',rfl,rfl,hst,hi',hq⟩
 |loop c1 ih=>
  intro ac hc Q env st a x hw hi hs;simp only[CC.code,cS]at hc;obtain⟨a1,h1,rfl⟩:=hc;simp only[cq]at hw;obtain⟨env,st,hgh,hw⟩:=hw;obtain⟨x,hxf,hs,hi⟩:=Inv.ghost hlo hgh hi hs;rw[<-hxf];obtain⟨I,μ,hI,hround⟩:=hw
  let W:Act->World->Nat->Prop:=fun a w n=>∃env st x,x.w=w/\Step x0 x/\Inv C a x env st/\I env st/\μ env st=n
  open Classical in
  let μ':Act->World->Nat:=fun a w=>if h:∃n,W a w n then Classical.choose (least h)else 0
  refine wp_loop (fun a w=>∃n,W a w n) μ' ⟨_,env,st,x,rfl,hs,hi,hI,rfl⟩ fun a w hIn=>?_
  have hμ:μ' a w=Classical.choose (least hIn):=dif_pos hIn;obtain⟨env2,st2,x2,hxw,hst2,hi2,hI2,hmu⟩:=(Classical.choose_spec (least hIn)).1;subst hxw;refine wp_mono (ih a1 h1 _ env2 st2 a x2 (hround env2 st2 hI2) hi2 hst2) fun e a' w' hp=>?_
  obtain⟨e',x',env',st',he,hxw,hst,hi',hq⟩:=hp;subst hxw;cases e' with
  |normal=>
   subst he;obtain⟨env3,st3,hgh3,hI3,hlt⟩:=hq;obtain⟨x',hxf',hst,hi'⟩:=Inv.ghost hlo hgh3 hi' hst;rw[<-hxf'];have hW:W a' x'.w (μ env3 st3):=⟨env3,st3,x',rfl,hst,hi',hI3,rfl⟩;refine⟨⟨_,hW⟩, ?_⟩;have h2:μ' a' x'.w=Classical.choose (least (⟨_,hW⟩:∃n,W a' x'.w n)):=dif_pos ⟨_,hW⟩;rw[h2,hμ];exact Nat.lt_of_le_of_lt ((Classical.choose_spec (least (⟨_,hW⟩:∃n,W a' x'.w n))).2 _ hW) (by rw[<-hmu];exact hlt)
  |exit id=>subst he;exact⟨.exit id,x',env',st',rfl,rfl,hst,hi',hq⟩
  |ret=>subst he;exact⟨.ret,x',env',st',rfl,rfl,hst,hi',hq⟩
 |exit id=>
  intro ac hc Q env st a x hw hi hs;simp only[CC.code,bc]at hc;subst hc;obtain⟨env,st,hgh,hw⟩:=hw;obtain⟨x,hxf,hs,hi⟩:=Inv.ghost hlo hgh hi hs;rw[<-hxf];exact wp_exit ⟨.exit id,x,env,st,rfl,rfl,hs,hi,hw⟩
 |ret=>
  intro ac hc Q env st a x hw hi hs;simp only[CC.code,bc]at hc;subst hc;obtain⟨env,st,hgh,hw⟩:=hw;obtain⟨x,hxf,hs,hi⟩:=Inv.ghost hlo hgh hi hs;rw[<-hxf];exact wp_ret ⟨.ret,x,env,st,rfl,rfl,hs,hi,hw⟩
 |scope c1 ih=>
  intro ac hc Q env st a x hw hi hs;simp only[CC.code]at hc;refine wp_scope_straight (wp_mono (ih ac hc Q env st a x hw hi hs) fun e a' w' hp=>?_);obtain⟨e',x',env',st',he,hxw,hst,hi',hq⟩:=hp;subst he;cases e'<;>exact⟨_,x',env',st',rfl,hxw,hst,hi',hq⟩
 |label l=>
  intro ac hc Q env st a x hw hi hs;simp only[CC.code,bc]at hc;subst hc;obtain⟨env,st,hgh,hw⟩:=hw;obtain⟨x,hxf,hs,hi⟩:=Inv.ghost hlo hgh hi hs;rw[<-hxf];exact wp_label ⟨.normal,x,env,st,rfl,rfl,hs,hi,hw⟩
 |_=>intro ac hc;simp[CC.code]at hc
end
end
section
variable [dw]
section
variable {C:CC} {Y:Ctx}
def Ij {P:Program}{ν:List (Nat×Nat)}{x:X}{f:Nat->Option bT}{m:List (Nat×bT)}{t:TypeId}{v:Value}{d:D}(hsm:∀fid n,dx ν fid=some n->n<1000000)(hn0:P.cellsOf t≠0)(hu:(P.underlying t).isNone=false)(h1':cx P t=false->P.cellsOf t=1)
  (hv:RD ν x v d) (k2:wK m (P.cellsOf t) d) (hs:eI ν x f) (hag:∀l,look m l≠none->f l=look m l):
  ∃ad u,v=.pointer (some ad)/\(loadVar t ad).run P x.w=.ok u x.w/\RD ν x u (tn m (P.cellsOf t) (cx P t) d):=by
 cases d<;>simp only[wK]at k2
 .rename_i k es i o';cases hv with
  |ref b off _ _ _ at_ _ c hI hat hk hn hcc hone hh=>
   obtain⟨v,r1,r2⟩:=m7 (P:=P) (ν:=ν) (x:=x) (e:=es.getD i .any) (k:=k) (n:=P.cellsOf t) (o:=o') (b:=b) (at0:=off+i*k) (ag:=cx P t) (ty:=t) (c:=c i) (hk i k2.1) k2.2
    (fun j hj=>⟨hcc i j k2.1 hj,hone i j k2.1 hj,hh i j k2.1 hj⟩) rfl hn0 hu rfl h1'
   grind [tn]
 .rename_i l k i o';cases hv with
  |ptr _ _ _ _ b base tot at_ hβ hat=>
   obtain⟨g1,g2,hnI,hk0,ht,c,T,fr,q1,q2,q3,q4⟩:=qx hs hag k2.1 hβ;have hi:i<(ba m l).length:=ae;obtain⟨v,r1,r2⟩:=m7 (P:=P) (ν:=ν) (x:=x) (e:=(ba m l).getD i .any) (k:=k) (n:=P.cellsOf t) (o:=o') (b:=b) (at0:=base+i*k) (ag:=cx P t) (ty:=t) (c:=fun j=>c.getD (base+i*k+j) undef)
    ((q4 i hi).1) k2.2
    (fun j hj=>⟨cell_of_heap q1 (by have:=gO (tot:=tot) (show i<tot by omega) hj;omega),((q4 i hi).2 j hj).1,((q4 i hi).2 j hj).2⟩) rfl hn0 hu rfl h1'
   grind [tn]
 .rename_i q es;obtain⟨hq2,e1,e2,e3⟩:=k2;cases hv with
  |mp=>exfalso;omega
  |ifc=>exfalso;omega
  |ifn=>exfalso;omega
  |zp=>exfalso;omega
  |fn fid _ cs ds hν=>exact absurd (hsm _ _ hν) ae
  |ed fid _ cs ds hν=>exact absurd (hsm _ _ hν) ae
  |bx b at_ _ v0 hI hc0 h1 hl hh=>
   obtain⟨v,r1,r2⟩:=m7 (P:=P) (ν:=ν) (x:=x) (e:=es.getD 0 .any) (k:=1) (n:=P.cellsOf t) (o:=0) (b:=b) (at0:=at_) (ag:=cx P t) (ty:=t) (c:=fun _=>v0) (by rw[e3];rfl) ae
    (fun j hj=>by obtain rfl:j=0:=ae;exact⟨hc0,h1,by rw[e3];exact hh 0 ae⟩) rfl hn0 hu rfl h1'
   exact⟨_,v,rfl,r1,by simpa only[tn]using r2⟩
def vW (a:Act):ResultVar->Sem Value
 | .tmp t=>pure (a.tmps.getD t undef)
 | .cell ad t=>do loadVar t (<-asAddr (a.tmps.getD ad undef))
def oy (hsm:∀fid n,dx C.ν fid=some n->n<1000000){a:Act}{x:X}{env:List b7}{st:St}(hi:Inv C a x env st):∀(rs:List ResultVar) (ars:List Bx),qV C.P C.slots rs=some ars->ow st.m env ars->
  ∃vs,(rs.mapM (vW a)).run C.P x.w=.ok vs x.w/\vs.length=ars.length/\(nE st.m env ars).length=ars.length/\∀i,i<ars.length->RD C.ν x (vs.getD i undef) ((nE st.m env ars).getD i .any)
 |[],ars,h,_=>by simp[qV]at h;subst h;exact⟨[],bz,rfl,by simp[nE],fun i hi=>by simp at hi⟩
 | .tmp t::r,ars,h,ho=>by
  simp only[qV]at h;split at h
  .rename_i s l h1 h2;simp only[bc]at h;subst h;simp only[ow]at ho;obtain⟨vs,b1,b2,b4,b3⟩:=oy hsm hi r l h2 ho.2.2;refine⟨a.tmps.getD t undef::vs,by simp[vW,b1],by simp[b2],by simp[nE,b4],fun i hil=>?_⟩;cases i with
   |zero=>simpa[nE,AQ]using hi.env s t (mh _ _ _ h1) ho.1
   |succ i=>simpa[nE]using b3 i (by simpa using hil)
  .cases h
 | .cell t ty::r,ars,h,ho=>by
  simp only[qV]at h;split at h
  .rename_i s l h1 h2;split at h
   .cases h
   rename_i hce;simp only[bc]at h;subst h;simp only[ow]at ho;obtain⟨vs,b1,b2,b4,b3⟩:=oy hsm hi r l h2 ho.2.2;have hu:(C.P.underlying ty).isNone=false:=by cases hn:(C.P.underlying ty).isNone with|false=>rfl|true=>exact absurd (.inr (.inl hn)) hce
   have h1':cx C.P ty=false->C.P.cellsOf ty=1:=fun e=>by
    rcases Nat.decEq (C.P.cellsOf ty) 1 with h|h
    .exact absurd (.inr (.inr ⟨e,h⟩)) hce
    .exact h
   obtain⟨ad,u,c1,c2,c3⟩:=Ij hsm (fun e=>hce (.inl e)) hu h1' (hi.env s t (mh _ _ _ h1) ho.1) ho.2.1 hi.kZ (fun _ _=>rfl);refine⟨u::vs, ?_,by simp[b2],by simp[nE,b4],fun i hil=>?_⟩
   .have e:(vW a (.cell t ty)).run C.P x.w=.ok u x.w:=by simp only[vW,c1];simp[asAddr,c2]
    simp[List.mapM_cons,e,b1]
   .cases i with
    |zero=>simpa[nE,AQ]using c3
    |succ i=>simpa[nE]using b3 i (by simpa using hil)
  .cases h
def CM (fn:Func)(a:Act):results fn a.tmps=(do
  let vs <-fn.results.mapM (vW a)
  pure (if h:vs.size=1 then vs[0]else .tuple vs)):=by
 unfold results;congr 1
def ox (hsm:∀fid n,dx C.ν fid=some n->n<1000000){a:Act}{x:X}{env:List b7}{st:St}(hi:Inv C a x env st){fn:Func}{af:aM}(hr:qV C.P C.slots fn.results.toList=some af.res)(ho:ow st.m env af.res):
  ∃v,(results fn a.tmps).run C.P x.w=.ok v x.w/\RD C.ν x v (jD af env st)/\(af.res.length≠1->∃cs,v=.tuple cs):=by
 obtain⟨vs,b1,b2,b4,b3⟩:=oy hsm hi _ _ hr ho;have hrun:(results fn a.tmps).run C.P x.w=.ok (if h:vs.length=1 then vs[0]else .tuple vs.toArray) x.w:=by
  rw[CM,Sem.run_bind,Array.mapM_eq_mapM_toList,Sem.run_map,b1];simp[Result.andThen]
 rcases hres:af.res with _|⟨r,_|⟨r2,rs⟩⟩
 .rw[hres]at b2 b3 b4;have h0:vs.length≠1:=by rw[b2];simp
  rw[dif_neg h0]at hrun;refine⟨_,hrun, ?_,fun _=>⟨_,rfl⟩⟩;simp only[jD,hres];refine .tup _ _ (by simp[b2,b4]) fun i hi=>?_
  have:=b3 i ae
  rwa [<-cv]
 .rw[hres]at b2 b3 b4;have h0:vs.length=1:=by rw[b2];rfl
  rw[dif_pos h0]at hrun;refine⟨_,hrun, ?_,fun h=>absurd rfl h⟩;simp only[jD,hres];have:=b3 0 bz;simp only[nE,gW]at this
  rwa [mX _ _ _ ae]at this
 .rw[hres]at b2 b3 b4;have h0:vs.length≠1:=by rw[b2];simp
  rw[dif_neg h0]at hrun;refine⟨_,hrun, ?_,fun _=>⟨_,rfl⟩⟩;simp only[jD,hres];refine .tup _ _ (by simp[b2,b4]) fun i hi=>?_
  have:=b3 i ae
  rwa [<-cv]
def ry:∀(l acc:List Nat),∃r,dedup acc l=acc.reverse++r
 |[],acc=>⟨[],by simp[dedup]⟩
 |a::l,acc=>by
  simp only[dedup];split
  .exact ry l acc
  .obtain⟨r,h⟩:=ry l (a::acc);exact⟨a::r,by rw[h];simp⟩
def nX:∀(l acc:List Nat),acc.Nodup->(dedup acc l).Nodup
 |[],acc,h=>by simp only[dedup];exact List.pairwise_reverse.2 (h.imp fun h=>Ne.symm h)
 |a::l,acc,h=>by
  simp only[dedup];split
  .exact nX l acc h
  .rename_i hn;exact nX l (a::acc) (List.nodup_cons.2 ⟨by simpa using hn,h⟩)
def sD (rest:List Nat):∀(n j:Nat),dedup (List.range j).reverse (List.range' j n++rest)=dedup (List.range (j+n)).reverse rest
 |0,j=>bz
 |n+1,j=>by
  rw[List.range'_succ,qn];simp only[dedup];rw[ai bz];have e:j::(List.range j).reverse=(List.range (j+1)).reverse:=by rw[List.range_succ];simp
  rw[e,sD rest n (j+1)];congr 2;congr 1;omega
def lD (fn:Func):(slotsOf fn).Nodup/\fn.params.size+fn.nfree<=(slotsOf fn).length/\∀n,n<fn.params.size+fn.nfree->(slotsOf fn)[n]? =some n:=by
 refine⟨nX _ _ List.nodup_nil, ?_⟩;have e:slotsOf fn=dedup (List.range (fn.params.size+fn.nfree)).reverse (oZ fn.results.toList++wm (fn.body.getD .skip)):=by
  have:=sD (oZ fn.results.toList++wm (fn.body.getD .skip)) (fn.params.size+fn.nfree) 0;simp only[List.range_zero,List.reverse_nil,aB]at this;unfold slotsOf;rw[lW,List.range_eq_range'];rw[this,List.range_eq_range']
 obtain⟨r,h⟩:=ry (oZ fn.results.toList++wm (fn.body.getD .skip)) (List.range (fn.params.size+fn.nfree)).reverse
 grind
end
end
section
variable [dw]
section
variable {P:Program} {ν:List (Nat×Nat)} {cy:List Nat} {Y:Ctx}
def Ok.at (h:Ok P ν cy Y)(n:Nat):Ok P ν cy (Y.at n):=⟨h.small,h.bld,h.glz,h.pure,h.effF,h.cy⟩
def hH {fn:Func}{af:aM}(hc:compile P ν cy fn=some af):
  ∃body,fn.body=some body/\CC.code {P,ν,cy,slots:=slotsOf fn,ntmps:=fn.ntmps,vm:=GH P fn} body=some af.body/\qV P (slotsOf fn) fn.results.toList=some af.res/\
   fn.params.size+fn.nfree<=fn.ntmps/\af.np=fn.params.size+fn.nfree/\af.ns=(slotsOf fn).length:=by
 grind [compile]
def sj {fn:Func}{af:aM}{x:X}{args:Array Value}{ds:List D}{st:St}(hnp:fn.params.size+fn.nfree<=fn.ntmps)(h1:af.np=fn.params.size+fn.nfree)(h2:af.ns=(slotsOf fn).length)(hl:args.size=ds.length)(hd:ds.length=af.np)
  (hargs:∀i,i<ds.length->RD ν x (args.getD i undef) (ds.getD i .any)) (hs:eI ν x (look st.m)) (hf:eG st x):
  Inv {P,ν,cy,slots:=slotsOf fn,ntmps:=fn.ntmps,vm:=GH P fn} {tmps:=args++Array.replicate (fn.ntmps-args.size) undef,defers:=[]} x (fK af ds) st:=by
 obtain⟨s1,s2,s3⟩:=lD fn;refine⟨?_,fun n t hn ho=>?_,eB,rfl,hs,hf⟩
 .simp only[fK,cK,aD,List.length_replicate];omega
 .simp only at hn;simp only[fK]at ho⊢;rw[dh]at ho⊢;simp only[aD]at ho⊢;by_cases h:n<ds.length
  .grind [kB]
  .rw[ai h];have:(List.replicate (af.ns-af.np) b7.un).getD (n-ds.length) .un=.un:=by
    simp only[List.getD,List.getElem?_replicate];split<;>rfl
   rw[this];exact .any _
def Ex.yR {e:Ex}(h:e.home):Ex.of e=.normal\/Ex.of e=.ret:=by
 cases e with
 |normal=>exact .inl rfl
 |exit id=>exact h.elim
 |ret=>exact .inr rfl
def K3 {fid:Nat}{fn:Func}{af:aM}{d:D}(hΓ:Ok P ν cy Y)(hmix:P.follows .mixedOrders=true)(hf:P.funcs[fid]? =some fn)(hc:compile P ν cy fn=some af)
  {x:X} {args:Array Value} {ds:List D} (hl:args.size=ds.length) (hargs:∀i,i<ds.length->RD ν x (args.getD i undef) (ds.getD i .any)) (hnl:aW ds=true) (himm:∀b,x.I b->b<x.w.heap.size) (hgd:dw.gd x)
  (hnp:ds.length=af.np) (hw:cq (Y.at 0) af.body (fun e env st=>e.home/\ow st.m env af.res/\DU af env st/\LI af env st=d) (fK af ds) ⟨0,[]⟩):
  Calls P fid args x.w fun
   | .returned v,w'=>∃x',x'.w=w'/\nN x x'/\RD ν x' v d
   |_,_=>False:=by
 obtain⟨body,c1,c2,c3,c4,c5,c6⟩:=hH hc
 let x0:X:=⟨x.w,x.I,fun _=>none⟩
 have hs0:eI ν x0 (look []):=⟨fun l blk b base tot h=>by simp[look]at h,fun l l' b base tot base' tot' h=>by simp[look]at h,himm,fun l b base tot h=>(by cases h),dw.le x _ (fun _ h=>h) (fun _ _=>rfl) hgd⟩;have hf0:eG ⟨0,[]⟩ x0:=⟨fun l _=>rfl,fun l h=>by simp[look]at h⟩;have hi:=sj (P:=P) (ν:=ν) (cy:=cy) (x:=x0) (st:=⟨0,[]⟩) c4 c5 c6 hl hnp (fun i hi=>(hargs i hi).bm (cC hnl i) (fun _ h=>h) (fun _ _=>rfl)) hs0 hf0;have hcs:=pL (C:={P,ν,cy,slots:=slotsOf fn,ntmps:=fn.ntmps,vm:=GH P fn}) (hΓ.at 0) (lD fn).1 hmix x0 (fun _ _=>rfl) body af.body c2 _ _ _ _ x0 hw hi (.refl _);refine calls_of_wp hf c1 (wp_mono hcs fun e a w' hp=>?_);obtain⟨e',x',env',st',he,hxw,hst,hi',hh,hro,hrpo,hrp⟩:=hp;subst hxw;obtain⟨v,r1,r2,r3⟩:=ox hΓ.small hi' c3 hro;have hI:∀b,(x'.kA (look st'.m)).I b->b<x'.w.heap.size:=by
  intro b hb;rcases hb with h|⟨l,⟨b',base,tot⟩,h1,h2,h3⟩
  .exact hi'.kZ.imm b h
  .subst h2;exact hi'.kZ.ed l _ _ _ h1
 have hnew:∀b,(x'.kA (look st'.m)).I b->x.I b\/x.w.heap.size<=b:=by
  intro b hb;rcases hb with h|⟨l,p,h1,h2,h3⟩
  .rcases hst.newI b h with h|h|⟨l,p,h,_⟩
   .exact .inl h
   .exact .inr h
   .cases h
  .subst h2;rcases hst.newβ l p h1 with h|h|⟨l',p',h,_⟩
   .cases h
   .exact .inr h
   .cases h
 have hps:nN x ⟨x'.w,(x'.kA (look st'.m)).I,x.β⟩:=
  ⟨⟨hst.os,hst.tape,hst.output,hst.size,fun b hb=>hst.old b hb fun l p h=>by cases h⟩,fun b hb=>.inl (hst.I b hb),hnew,hI,rfl⟩
 have hrd:RD ν ⟨x'.w,(x'.kA (look st'.m)).I,x.β⟩ v d:=by
  rw[<-hrp];have key:∀(v:Value) (d:D),RD ν (x'.kA (look st'.m)) v d->d.bm=true->RD ν ⟨x'.w,(x'.kA (look st'.m)).I,x.β⟩ v d:=fun v d h hn=>h.bm hn (fun _ h=>h) (fun _ _=>rfl)
  unfold jD at r2;unfold DU at hrpo;unfold LI;rcases hres:af.res with _|⟨r,_|⟨r2',rs⟩⟩
  .simp only[hres]at r2 hrpo⊢;generalize hvs:nE st'.m env' []=vs at r2 hrpo⊢;cases r2 with
   |tup cs _ hl' hh'=>
    obtain⟨q1,q2,q3⟩:=iD hi'.kZ (fun _ _=>rfl) af.rsh vs (fun j=>cs.getD j undef) hh' hrpo;exact .tup cs _ (by rw[q1,hl']) fun i hi=>key _ _ (q3 i ae) (cC q2 i)
  .simp only[hres]at r2 hrpo⊢;obtain⟨q1,q2⟩:=qd hi'.kZ (fun _ _=>rfl) _ _ _ r2 hrpo;exact key _ _ q1 q2
  .simp only[hres]at r2 hrpo⊢;generalize hvs:nE st'.m env' (r::r2'::rs)=vs at r2 hrpo⊢;cases r2 with
   |tup cs _ hl' hh'=>
    obtain⟨q1,q2,q3⟩:=iD hi'.kZ (fun _ _=>rfl) af.rsh vs (fun j=>cs.getD j undef) hh' hrpo;exact .tup cs _ (by rw[q1,hl']) fun i hi=>key _ _ (q3 i ae) (cC q2 i)
 rcases Ex.yR hh with h|h<;>rw[h]at he<;>subst he<;>exact⟨hi'.defers,v,r1,⟨x'.w,(x'.kA (look st'.m)).I,x.β⟩,rfl,hps,hrd⟩
def K1 {fid:Nat}{fn:Func}{af:aM}{vd sd:D}(hΓ:Ok P ν cy Y)(hmix:P.follows .mixedOrders=true)(hf:P.funcs[fid]? =some fn)(hc:compile P ν cy fn=some af)
  {x:X} {f:Nat->Option bT} {args:Array Value} {l k:Nat} {d:D} {ds:List D} (hl:args.size=ds.length+1) (h0:RD ν x (args.getD 0 undef) (.ptr l k 0 0)) (hargs:∀i,i<ds.length->RD ν x (args.getD (i+1) undef) (ds.getD i .any))
  (hs:eI ν x f) (hfl:f l=some (.buf k [d])) (hd:d.bm=true) (hnl:aW ds=true) (hnp:ds.length+1=af.np)
  (hw:cq (Y.at 1) af.body (fun e env st=>e.home/\ow st.m env af.res/\(jD af env st).bm=true/\jD af env st=vd/\look st.m 0=some (.buf k [sd])/\sd.bm=true) (fK af (.ptr 0 k 0 0::ds)) ⟨1,[(0,.buf k [d])]⟩):
  Calls P fid args x.w fun
   | .returned v,w'=>∃x',x'.w=w'/\Step x x'/\RD ν x' v vd/\eI ν x' (fun l'=>if l'=l then some (.buf k [sd])else f l')/\x'.β=x.β
   |_,_=>False:=by
 obtain⟨body,c1,c2,c3,c4,c5,c6⟩:=hH hc;obtain⟨b,base,tot,hβ,ha0⟩:∃b base tot,x.β l=some (b,base,tot)/\args.getD 0 undef=.pointer (some ⟨b,base,none⟩):=by
  generalize args.getD 0 undef=v0 at h0;cases h0 with
  |ptr _ _ _ _ b base tot at_ hβ hat=>exact⟨b,base,tot,hβ,by simp[hat]⟩
 let x1:X:=⟨x.w,x.I,fun l'=>if l'=0 then x.β l else none⟩
 have hx1:∀l' p,x1.β l'=some p->l'=0/\p=(b,base,tot):=by
  intro l' p h;simp only[x1]at h;split at h
  .rename_i e;rw[hβ]at h;exact⟨e,(bl h).symm⟩
  .cases h
 have hx1':x1.β 0=some (b,base,tot):=by simp[x1,hβ]
 have key1:∀(v:Value) (d:D),RD ν x v d->d.bm=true->RD ν x1 v d:=fun v d h hn=>h.bm hn (fun _ h=>h) (fun _ _=>rfl)
 have hbR:=hs.own l _ b base tot hfl hβ;have hs1:eI ν x1 (look [(0,.buf k [d])]):=by
  refine⟨fun l' blk b' base' tot' e1 e2=>?_,fun l1 l2 b' base' tot' base'' tot'' e1 e2 e3 e4=>(hx1 _ _ e3).1.trans (hx1 _ _ e4).1.symm,hs.imm,fun l' b' base' tot' e=>?_,dw.le x _ (fun _ h=>h) (fun _ _=>rfl) hs.gd⟩
  .obtain⟨rfl,e3⟩:=hx1 _ _ e2;simp only[eg]at e3;obtain⟨rfl,rfl,rfl⟩:=e3;simp only[look,aF,bc]at e1;subst e1;refine⟨hbR.1, ?_⟩;obtain⟨p1,p2,c,T,fr,p3,p4,p5,p6⟩:=hbR.2;refine⟨p1,p2,c,T,fr,p3,p4,p5,fun i hi=>⟨(p6 i hi).1,fun j hj=>⟨((p6 i hi).2 j hj).1,key1 _ _ ((p6 i hi).2 j hj).2 ?_⟩⟩⟩;have:i=0:=by simpa using hi
   subst this;exact jA (by simpa using hd) j
  .obtain⟨_,e3⟩:=hx1 _ _ e;simp only[eg]at e3;rw[e3.1];exact hs.ed l b base tot hβ
 have hf1:eG ⟨1,[(0,.buf k [d])]⟩ x1:=⟨fun l' hl'=>by
   cases h:x1.β l' with
   |none=>rfl
   |some p=>have:=(hx1 _ _ h).1;simp only at hl';omega,fun l' hl'=>by
   simp only[look]at hl';split at hl'
   .rename_i e;simp only;omega
   .exact absurd rfl hl'⟩
 have hi:=sj (P:=P) (ν:=ν) (cy:=cy) (x:=x1) (ds:=.ptr 0 k 0 0::ds) (st:=⟨1,[(0,.buf k [d])]⟩) c4 c5 c6 (args:=args) (by simpa using hl) (by simpa using hnp) (fun i hi=>by
  cases i with
  |zero=>simp only[gW];rw[ha0];exact .ptr 0 k 0 0 b base tot base hx1' bz
  |succ i=>simp only[List.getD_cons_succ];exact key1 _ _ (hargs i (by simpa using hi)) (cC hnl i)) hs1 hf1
 have hcs:=pL (C:={P,ν,cy,slots:=slotsOf fn,ntmps:=fn.ntmps,vm:=GH P fn}) (hΓ.at 1) (lD fn).1 hmix x1 (fun l h=>hf1.β l h) body af.body c2 _ _ _ _ x1 hw hi (.refl _);refine calls_of_wp hf c1 (wp_mono hcs fun e a w' hp=>?_);obtain⟨e',x',env',st',he,hxw,hst,hi',hh,hro,hrn,hrv,hlk,hsn⟩:=hp;subst hxw;obtain⟨v,r1,r2,r3⟩:=ox hΓ.small hi' c3 hro
 let x2:X:=⟨x'.w,x'.I,x.β⟩
 have key2:∀(v:Value) (d:D),RD ν x' v d->d.bm=true->RD ν x2 v d:=fun v d h hn=>h.bm hn (fun _ h=>h) (fun _ _=>rfl)
 have hb':x'.β 0=some (b,base,tot):=hst.β _ _ hx1';have hnewI:∀b',x'.I b'->x.I b'\/x.w.heap.size<=b'\/b'=b:=by
  intro b' h;rcases hst.newI b' h with h|h|⟨l',p,h1,h2⟩
  .exact .inl h
  .exact .inr (.inl h)
  .right;right;rw[<-h2,(hx1 _ _ h1).2]
 have hstep:Step x x2:=by
  refine⟨hst.os,hst.tape,hst.output,hst.size,hst.I,hst.keep,fun _ _ h=>h,fun b' hb' hn=>hst.old b' hb' fun l' p h e=>?_,fun b' h=>?_,fun _ _ h=>.inl h⟩
  .have:=hn l _ hβ;rw[(hx1 _ _ h).2]at e;exact this e
  .rcases hnewI b' h with h|h|h
   .exact .inl h
   .exact .inr (.inl h)
   .exact .inr (.inr ⟨l,_,hβ,h.symm⟩)
 have hsim:eI ν x2 (fun l'=>if l'=l then some (.buf k [sd])else f l'):=by
  have hbb:=hi'.kZ.own 0 _ b base tot hlk hb';refine⟨fun l' blk b' base' tot' e1 e2=>?_,fun l1 l2 b' base' tot' base'' tot'' e1 e2 e3 e4=>?_,hi'.kZ.imm,fun l' b' base' tot' e=>jH (hs.ed l' b' base' tot' e) hst.size,dw.le x' _ (fun _ h=>h) (fun _ _=>rfl) hi'.kZ.gd⟩
  .by_cases hll:l'=l
   .subst hll;simp only[aF,bc]at e1;subst e1;have e2':x.β l'=some (b',base',tot'):=e2;rw[hβ]at e2';simp only[bc,eg]at e2';obtain⟨rfl,rfl,rfl⟩:=e2';refine⟨hbb.1, ?_⟩;obtain⟨p1,p2,c,T,fr,p3,p4,p5,p6⟩:=hbb.2;refine⟨p1,p2,c,T,fr,p3,p4,p5,fun i hi=>⟨(p6 i hi).1,fun j hj=>⟨((p6 i hi).2 j hj).1,key2 _ _ ((p6 i hi).2 j hj).2 ?_⟩⟩⟩;have:i=0:=by simpa using hi
    subst this;exact jA (by simpa using hsn) j
   .simp only[ai hll]at e1;have e2':x.β l'=some (b',base',tot'):=e2;obtain⟨q1,q2⟩:=hs.own l' blk b' base' tot' e1 e2';have hne:b'≠b:=fun e=>by subst e;exact hll (hs.inj l' l b' base' tot' base tot (by rw[e1];simp) (by rw[hfl];simp) e2' hβ)
    have hlt:=hs.ed l' b' base' tot' e2';refine⟨fun h=>?_,q2.mono hstep.le (hst.old b' hlt fun l'' p h e=>hne (by rw[<-e,(hx1 _ _ h).2]))⟩;rcases hnewI b' h with h|h|h
    .exact q1 h
    .omega
    .exact hne h
  .have hne:∀l',(if l'=l then some (bT.buf k [sd])else f l')≠none->f l'≠none:=fun l' h=>by
    by_cases e:l'=l
    .rw[e,hfl];simp
    .rwa [ai e]at h
   exact hs.inj l1 l2 b' base' tot' base'' tot'' (hne _ e1) (hne _ e2) e3 e4
 rw[hrv]at r2;rcases Ex.yR hh with h|h<;>rw[h]at he<;>subst he<;>exact⟨hi'.defers,v,r1,x2,rfl,hstep,key2 _ _ r2 (by rw[<-hrv];exact hrn),hsim,rfl⟩
structure ND where
 key:Nat->Nat
 mu:Nat->List D->Nat
 muE:Nat->List D->St->Nat
def Ctx.under (Y:Ctx)(R:ND)(k u:Nat):Ctx where
 pre n ds:=(R.key n<k\/R.key n=k/\R.mu n ds<u)/\Y.pre n ds
 val:=Y.val
 tr n ds st K:=(R.key n<k\/R.key n=k/\R.muE n ds st<u)/\Y.tr n ds st K
 fp n d ds:=(R.key n<k\/R.key n=k/\R.mu n (d::ds)<u)/\Y.fp n d ds
 fv:=Y.fv
 fs:=Y.fs
 lo:=Y.lo
def RL (R:ND)(hsm:∀fid n,dx ν fid=some n->n<1000000)(hB:∀t,cy.contains (1000000000+t)=true->t=dw.tB)(hG:∀g,cy.contains (500000000+g)=true->dw.gz g)
  (hp:∀fid n,dx ν fid=some n->∀ds,Y.pre n ds->Ok P ν cy (Y.under R (R.key n) (R.mu n ds))->∀(x:X) (args:Array Value),args.size=ds.length->(∀i,i<ds.length->RD ν x (args.getD i undef) (ds.getD i .any))->aW ds=true->
    (∀b,x.I b->b<x.w.heap.size)->dw.gd x->iQ P x (fun v x'=>nN x x'/\RD ν x' v (Y.val n ds)) ((callFunc fid args).run P x.w))
  (hf:∀fid n,dx ν fid=some n->cy.contains (2*n+1)=true->∀(d:D) (ds:List D),Y.fp n d ds->Ok P ν cy (Y.under R (R.key n) (R.mu n (d::ds)))->∀(x:X) (f:Nat->Option bT) (args:Array Value) (l k:Nat),args.size=ds.length+1->
    RD ν x (args.getD 0 undef) (.ptr l k 0 0)->(∀i,i<ds.length->RD ν x (args.getD (i+1) undef) (ds.getD i .any))->eI ν x f->f l=some (.buf k [d])->d.bm=true->aW ds=true->
    iQ P x (fun v x'=>Step x x'/\RD ν x' v (Y.fv n d ds)/\eI ν x' (fun l'=>if l'=l then some (.buf k [Y.fs n d ds])else f l')/\x'.β=x.β) ((callFunc fid args).run P x.w))
  (he:∀fid n,dx ν fid=some n->∀(ds:List D) (st:St) (K:D->St->Prop),Y.tr n ds st K->Ok P ν cy (Y.under R (R.key n) (R.muE n ds st))->∀(x:X) (args:Array Value),args.size=ds.length->(∀i,i<ds.length->RD ν x (args.getD i undef) (ds.getD i .any))->
    eI ν x (look st.m)->eG st x->iQ P x (fun v x'=>∃d st',K d st'/\Step x x'/\RD ν x' v d/\eI ν x' (look st'.m)/\eG st' x') ((callFunc fid args).run P x.w)):Ok P ν cy Y:=by
 have key:∀k u,Ok P ν cy (Y.under R k u):=by
  intro k;induction k using Nat.strongRecOn with
  |_ k ihk=>
   intro u;induction u using Nat.strongRecOn with
   |_ u ihu=>
    refine⟨hsm,hB,hG,fun fid n hn x args ds hl hargs hnl himm hgd hpre=>?_,fun fid n hn hef x f args l kk d ds hl h0 hargs hs hfl hd hnl hpre=>?_,fun fid n hn x args ds st K hl hargs hs hf' htr=>?_⟩
    .obtain⟨hlt,hpre⟩:=hpre;refine hp fid n hn ds hpre ?_ x args hl hargs hnl himm hgd;rcases hlt with h|⟨h1,h2⟩
     .exact ihk _ h _
     .rw[h1];exact ihu _ h2
    .obtain⟨hlt,hpre⟩:=hpre;refine hf fid n hn hef d ds hpre ?_ x f args l kk hl h0 hargs hs hfl hd hnl;rcases hlt with h|⟨h1,h2⟩
     .exact ihk _ h _
     .rw[h1];exact ihu _ h2
    .obtain⟨hlt,htr⟩:=htr;refine he fid n hn ds st K htr ?_ x args hl hargs hs hf';rcases hlt with h|⟨h1,h2⟩
     .exact ihk _ h _
     .rw[h1];exact ihu _ h2
 refine⟨hsm,hB,hG,fun fid n hn x args ds hl hargs hnl himm hgd hpre=>?_,fun fid n hn hef x f args l kk d ds hl h0 hargs hs hfl hd hnl hpre=>?_,fun fid n hn x args ds st K hl hargs hs hf' htr=>?_⟩
 .exact hp fid n hn ds hpre (key _ _) x args hl hargs hnl himm hgd
 .exact hf fid n hn hef d ds hpre (key _ _) x f args l kk hl h0 hargs hs hfl hd hnl
 .exact he fid n hn ds st K htr (key _ _) x args hl hargs hs hf'
def iS {fid:Nat}{fn:Func}(hf:P.funcs[fid]? =some fn)(hn:(fn.name== "runtime.NumGoroutine")=false)(hb:fn.body.isSome=true)(args:Array Value)(w:World):(callFunc fid args).run P w=.ok (.enter fid args) w:=by
 have h1:fn.name≠ "runtime.NumGoroutine" :=by simpa using hn
 have h2:fn.body≠none:=by intro h;rw[h]at hb;cases hb
 simp[callFunc,hf,h1,h2]
end
end
def cA {p:Prop}(h:p:=by first|exact fun _=>rfl|exact fun h=>h|(intro h;simp_all)):p:=h
def dA {p:Prop}(h:p:=by first|exact rfl|exact⟨_,_,rfl,rfl⟩):p:=h
def wC {p:Prop}(h:p:=by first|exact fun _=>rfl|(intro h;omega)|(intro h;simp at h;omega)):p:=h
def sw {p:Prop}(h:p:=by intro h;repeat' first|exact trivial|exact rfl|exact h|refine And.intro ?_ ?_|decide):p:=h
def tD {p:Prop}(h:p:=by simp only[aY,bg,Nat.reduceAdd];exact rfl):p:=h
def wD {p:Prop}(h:p:=by intro h;first|omega|(simp at h;omega)):p:=h
def Bo {p:Prop}(h:p:=by intro h;first|(constructor<;>omega)|(simp at h;constructor<;>omega)):p:=h
section
section
variable {Y:Ctx} {Q Q':Ex->List b7->St->Prop} {env:List b7} {st:St}
def Ctx.cM (Y:Ctx):Prop:=∀f ds st (K K':D->St->Prop),(∀d st,K d st->K' d st)->Y.tr f ds st K->Y.tr f ds st K'
def gv {draw:Bool}{K K':List b7->St->Prop}(h:∀vs st,K vs st->K' vs st)(htr:Y.cM):∀(l:List GI) (env vs:List b7) (st:St),ep Y draw l env vs st K->ep Y draw l env vs st K'
 |[],env,vs,st,hh=>h _ _ hh
 |⟨i,g⟩::r,env,vs,st,hh=>by
  cases hcm:i.cz with
  |true=>
   cases i<;>simp only[aI.cz]at hcm<;>try(cases hcm;done)
   .exact⟨hh.1,fun hf=>⟨(hh.2.1 hf).1,htr _ _ _ _ _ (fun d st' ⟨h1,h2⟩=>⟨h1,gv h htr r _ _ _ h2⟩) (hh.2.1 hf).2⟩,fun hf=>gv h htr r _ _ _ (hh.2.2 hf)⟩
   .rename_i fv args;simp only[ep]at hh⊢;refine⟨hh.1,fun hf=>⟨(hh.2.1 hf).1,(hh.2.1 hf).2.1, ?_⟩,fun hf=>gv h htr r _ _ _ (hh.2.2 hf)⟩;have h3:=(hh.2.1 hf).2.2;cases hd:(Src.ev env vs fv).d<;>simp only[hd]at h3⊢;exact⟨h3.1,htr _ _ _ _ _ (fun d st' ⟨h1,h2⟩=>⟨h1,gv h htr r _ _ _ h2⟩) h3.2⟩
   .exact⟨hh.1,hh.2.1,hh.2.2.1,fun b hb=>gv h htr r _ _ _ (hh.2.2.2 b hb)⟩
   .exact⟨hh.1,hh.2.1,htr _ _ _ _ _ (fun d st' ⟨h1,h2,h3⟩=>⟨h1,h2,gv h htr r _ _ _ h3⟩) hh.2.2⟩
  |false=>
   cases hf:i.mg draw g with
   |true=>
    rw[sg hcm hf]at hh⊢;exact⟨hh.1,fun e=>⟨(hh.2.1 e).1,gv h htr r _ _ _ (hh.2.1 e).2⟩,fun e=>gv h htr r _ _ _ (hh.2.2 e)⟩
   |false=>
    rw[iM hcm hf]at hh⊢;exact⟨hh.1,hh.2.1,fun ha=>(hh.2.2 ha).imp fun _ h2=>⟨h2.1,gv h htr r _ _ _ h2.2⟩⟩
def Gh.mono {lo:Nat}{p q:List b7->St->Prop}(h:∀env st,p env st->q env st):Gh lo p env st->Gh lo q env st
 |⟨e,s,h1,h2⟩=>⟨e,s,h1,h _ _ h2⟩
def Gh.intro {lo:Nat}{p:List b7->St->Prop}(h:p env st):Gh lo p env st:=⟨env,st,.refl _ _,h⟩
def gp (htr:Y.cM):∀(a:AC) (Q Q':Ex->List b7->St->Prop) (env:List b7) (st:St),(∀e env st,Q e env st->Q' e env st)->cq Y a Q env st->cq Y a Q' env st
 | .reg draw ins cm,Q,Q',env,st,h,hh=>Gh.mono (fun env st h2=>gv (fun vs st=>h _ _ _) htr _ _ _ _ h2) hh
 | .seq a b,Q,Q',env,st,h,hh=>Gh.mono (fun env st h2=>gp htr a _ _ env st (fun e env st h2=>by
   cases e with
   |normal=>exact gp htr b Q Q' env st h h2
   |exit id=>exact h _ _ _ h2
   |ret=>exact h _ _ _ h2) h2) hh
 | .cond c a b,Q,Q',env,st,h,hh=>Gh.mono (fun env st h2=>by
  refine⟨h2.1, ?_⟩;have:=h2.2;cases hd:(c.ev env []).d<;>simp only[hd]at this⊢;exact⟨fun ht=>gp htr a Q Q' env st h (this.1 ht),fun ht=>gp htr b Q Q' env st h (this.2 ht)⟩) hh
 | .block id a,Q,Q',env,st,h,hh=>Gh.mono (fun env st h2=>gp htr a _ _ env st (fun e env st h2=>by
   cases e with
   |normal=>exact h _ _ _ h2
   |exit j=>simp only at h2⊢;split<;>rename_i hj<;>simp only[hj,aF,aE]at h2<;>exact h _ _ _ h2
   |ret=>exact h _ _ _ h2) h2) hh
 | .loop a,Q,Q',env,st,h,hh=>Gh.mono (fun env st h2=>by
  obtain⟨I,μ,h1,h2⟩:=h2;refine⟨I,μ,h1,fun env st hi=>gp htr a _ _ env st (fun e env' st' h3=>?_) (h2 env st hi)⟩;cases e with
  |normal=>exact h3
  |exit id=>exact h _ _ _ h3
  |ret=>exact h _ _ _ h3) hh
 | .exit id,Q,Q',env,st,h,hh=>Gh.mono (fun _ _=>h _ _ _) hh
 | .ret,Q,Q',env,st,h,hh=>Gh.mono (fun _ _=>h _ _ _) hh
 | .skip,Q,Q',env,st,h,hh=>Gh.mono (fun _ _=>h _ _ _) hh
def dt {a:AC}{env':List b7}{st':St}(g:aU Y.lo env st env' st')(h:cq Y a Q env' st'):cq Y a Q env st:=by
 cases a<;>(obtain⟨e2,s2,g2,h2⟩:=h;exact⟨e2,s2,.trans _ _ _ _ _ _ g g2,h2⟩)
def BQ (Y:Ctx)(id:Nat)(r:AC)(Q:Ex->List b7->St->Prop):Ex->List b7->St->Prop:=fun e env st=>match e with
 | .normal=>cq Y r Q env st
 | .exit j=>if j=id then cq Y r Q env st else Q (.exit j) env st
 | .ret=>Q .ret env st
def LQ (Y:Ctx)(id:Nat)(r:AC)(next:List b7->St->Prop)(Q:Ex->List b7->St->Prop):Ex->List b7->St->Prop:=fun e env st=>match e with
 | .normal=>next env st
 | .exit j=>if j=id then cq Y r Q env st else Q (.exit j) env st
 | .ret=>Q .ret env st
def BQ.normal {id:Nat}{r:AC}(h:cq Y r Q env st):BQ Y id r Q .normal env st:=h
def BQ.out {id:Nat}{r:AC}(h:cq Y r Q env st):BQ Y id r Q (.exit id) env st:=by simp only[BQ,aF];exact h
def BQ.other {id j:Nat}{r:AC}(hj:(j==id)=false)(h:Q (.exit j) env st):BQ Y id r Q (.exit j) env st:=by simp only[BQ,ai (by simpa using hj)];exact h
def BQ.ret {id:Nat}{r:AC}(h:Q .ret env st):BQ Y id r Q .ret env st:=h
def LQ.normal {id:Nat}{r:AC}{next:List b7->St->Prop}(h:next env st):LQ Y id r next Q .normal env st:=h
def LQ.out {id:Nat}{r:AC}{next:List b7->St->Prop}(h:cq Y r Q env st):LQ Y id r next Q (.exit id) env st:=by simp only[LQ,aF];exact h
def LQ.other {id j:Nat}{r:AC}{next:List b7->St->Prop}(hj:(j==id)=false)(h:Q (.exit j) env st):LQ Y id r next Q (.exit j) env st:=by simp only[LQ,ai (by simpa using hj)];exact h
def LQ.ret {id:Nat}{r:AC}{next:List b7->St->Prop}(h:Q .ret env st):LQ Y id r next Q .ret env st:=h
def wv {a b c:AC}(h:cq Y (.seq a (.seq b c)) Q env st):cq Y (.seq (.seq a b) c) Q env st:=by
 obtain⟨e1,s1,g1,h1⟩:=h;refine⟨e1,s1,g1,e1,s1,.refl _ _, ?_⟩;have:∀(Q1 Q2:Ex->List b7->St->Prop),Q1=Q2->cq Y a Q1 e1 s1->cq Y a Q2 e1 s1:=fun _ _ e h=>e▸h
 refine this _ _ ?_ h1;funext e env st;cases e with
 |normal=>exact propext ⟨fun⟨e2,s2,g2,h2⟩=>dt g2 h2,fun h=>⟨_,_,.refl _ _,h⟩⟩
 |exit id=>rfl
 |ret=>rfl
def wA {b:AC}(h:cq Y b Q env st):cq Y (.seq .skip b) Q env st:=.intro (.intro h)
def wp_skip (h:Q .normal env st):cq Y .skip Q env st:=.intro h
def GQ {b:AC}(h:Q .ret env st):cq Y (.seq .ret b) Q env st:=.intro (.intro h)
def wp_ret (h:Q .ret env st):cq Y .ret Q env st:=.intro h
def wx {id:Nat}{b:AC}(h:Q (.exit id) env st):cq Y (.seq (.exit id) b) Q env st:=.intro (.intro h)
def wp_exit {id:Nat}(h:Q (.exit id) env st):cq Y (.exit id) Q env st:=.intro h
def sV {id:Nat}{a r:AC}(h:cq Y a (BQ Y id r Q) env st)(htr:Y.cM):cq Y (.seq (.block id a) r) Q env st:=by
 refine .intro (.intro (gp htr a _ _ _ _ (fun e env st h=>?_) h));cases e with
 |normal=>exact h
 |exit j=>simp only[BQ]at h⊢;split<;>rename_i hj<;>simp only[hj,aF,aE]at h<;>exact h
 |ret=>exact h
def wp_block {id:Nat}{a:AC}(h:cq Y a (BQ Y id .skip Q) env st)(htr:Y.cM)(hQ:∀e env env' st st',aU Y.lo env st env' st'->Q e env' st'->Q e env st):cq Y (.block id a) Q env st:=by
 refine .intro (gp htr a _ _ _ _ (fun e env st h=>?_) h);have hs:∀env st,cq Y .skip Q env st->Q .normal env st:=fun env st ⟨e2,s2,g2,h2⟩=>hQ _ _ _ _ _ g2 h2
 cases e with
 |normal=>exact hs _ _ h
 |exit j=>simp only[BQ]at h⊢;split<;>rename_i hj<;>simp only[hj,aF,aE]at h<;>first|exact hs _ _ h|exact h
 |ret=>exact h
def CQ (next:List b7->St->Prop)(Q:Ex->List b7->St->Prop):Ex->List b7->St->Prop:=fun e env st=>match e with
 | .normal=>next env st
 | .exit j=>Q (.exit j) env st
 | .ret=>Q .ret env st
def CQ.normal {next:List b7->St->Prop}(h:next env st):CQ next Q .normal env st:=h
def CQ.other {next:List b7->St->Prop}{j:Nat}(h:Q (.exit j) env st):CQ next Q (.exit j) env st:=h
def CQ.ret {next:List b7->St->Prop}(h:Q .ret env st):CQ next Q .ret env st:=h
def Bv (id:Nat)(Q:Ex->List b7->St->Prop):Ex->List b7->St->Prop:=fun e env st=>match e with
 | .normal=>Q .normal env st
 | .exit j=>if j=id then Q .normal env st else Q (.exit j) env st
 | .ret=>Q .ret env st
def Bv.normal {id:Nat}(h:Q .normal env st):Bv id Q .normal env st:=h
def Bv.out {id:Nat}(h:Q .normal env st):Bv id Q (.exit id) env st:=by simp only[Bv,aF];exact h
def Bv.other {id j:Nat}(hj:(j==id)=false)(h:Q (.exit j) env st):Bv id Q (.exit j) env st:=by grind [Bv]
def Bv.ret {id:Nat}(h:Q .ret env st):Bv id Q .ret env st:=h
def GP {id:Nat}{a:AC}(h:cq Y a (Bv id Q) env st)(htr:Y.cM):cq Y (.block id a) Q env st:=by
 refine .intro (gp htr a _ _ _ _ (fun e env st h=>?_) h);cases e with
 |normal=>exact h
 |exit j=>simp only[Bv]at h⊢;split<;>rename_i hj<;>simp only[hj,aF,aE]at h<;>exact h
 |ret=>exact h
def bJ (htr:Y.cM){a r:AC}{id:Nat}{ι:Type}(F:ι->List b7)(G:ι->List (Nat×bT))(c:Nat)(P:ι->Prop)(μ:ι->Nat)(i0:ι)
  (hP:P i0) (h0:aU Y.lo env st (F i0) ⟨c,G i0⟩)
  (hr:∀i,P i->cq Y a (LQ Y id r (fun env' st'=>∃j,P j/\μ j<μ i/\aU Y.lo env' st' (F j) ⟨c,G j⟩) Q) (F i) ⟨c,G i⟩):cq Y (.seq (.block id (.loop a)) r) Q env st:=by
 let W:List b7->St->Nat->Prop:=fun env st k=>∃i,env=F i/\st=⟨c,G i⟩/\P i/\μ i=k
 have least:∀env st,(∃k,W env st k)->∃k,W env st k/\∀k',W env st k'->k<=k':=by
  intro env st ⟨k,hk⟩;induction k using Nat.strongRecOn with
  |_ k ih=>
   by_cases h:∃k',k'<k/\W env st k'
   .obtain⟨k',h1,h2⟩:=h;exact ih k' h1 h2
   .exact⟨k,hk,fun k' hk'=>by
     rcases cT k' k with h1|h1
     .exact absurd ⟨k',h1,hk'⟩ h
     .exact h1⟩
 open Classical in
 refine .intro (.intro ⟨_,_,h0,fun env st=>∃k,W env st k,fun env st=>if h:∃k,W env st k then Classical.choose (least env st h)else 0,⟨_,i0,rfl,rfl,hP,rfl⟩,fun env st hk=>?_⟩);obtain⟨⟨i,e1,e2,e3,e5⟩,hmin⟩:=Classical.choose_spec (least env st hk);have:=hr i e3;rw[<-e1,<-e2]at this;refine gp htr a _ _ env st ?_ this
 .intro e env' st' h;cases e with
  |normal=>
   obtain⟨j,b3,b5,g⟩:=h;have hW:W (F j) ⟨c,G j⟩ (μ j):=⟨j,rfl,rfl,b3,rfl⟩;refine⟨F j,⟨c,G j⟩,g,⟨_,hW⟩, ?_⟩;show(if h:∃k,W (F j) ⟨c,G j⟩ k then Classical.choose (least _ _ h)else 0)<(if h:∃k,W env st k then Classical.choose (least env st h)else 0);rw[dif_pos ⟨_,hW⟩,dif_pos hk,<-e5];exact Nat.lt_of_le_of_lt ((Classical.choose_spec (least _ _ ⟨_,hW⟩)).2 _ hW) b5
  |exit j=>simp only[LQ]at h⊢;split<;>rename_i hj<;>simp only[hj,aF,aE]at h<;>exact h
  |ret=>exact h
def Bw (id:Nat)(next:List b7->St->Prop)(Q:Ex->List b7->St->Prop):Ex->List b7->St->Prop:=fun e env st=>match e with
 | .normal=>next env st
 | .exit j=>if j=id then Q .normal env st else Q (.exit j) env st
 | .ret=>Q .ret env st
def Bw.normal {id:Nat}{next:List b7->St->Prop}(h:next env st):Bw id next Q .normal env st:=h
def Bw.out {id:Nat}{next:List b7->St->Prop}(h:Q .normal env st):Bw id next Q (.exit id) env st:=by simp only[Bw,aF];exact h
def Bw.other {id j:Nat}{next:List b7->St->Prop}(hj:(j==id)=false)(h:Q (.exit j) env st):Bw id next Q (.exit j) env st:=by grind [Bw]
def Bw.ret {id:Nat}{next:List b7->St->Prop}(h:Q .ret env st):Bw id next Q .ret env st:=h
def pc (htr:Y.cM){a:AC}{id:Nat}{ι:Type}(F:ι->List b7)(G:ι->List (Nat×bT))(c:Nat)(P:ι->Prop)(μ:ι->Nat)(i0:ι)
  (hP:P i0) (h0:aU Y.lo env st (F i0) ⟨c,G i0⟩)
  (hr:∀i,P i->cq Y a (Bw id (fun env' st'=>∃j,P j/\μ j<μ i/\aU Y.lo env' st' (F j) ⟨c,G j⟩) Q) (F i) ⟨c,G i⟩):cq Y (.block id (.loop a)) Q env st:=by
 let W:List b7->St->Nat->Prop:=fun env st k=>∃i,env=F i/\st=⟨c,G i⟩/\P i/\μ i=k
 have least:∀env st,(∃k,W env st k)->∃k,W env st k/\∀k',W env st k'->k<=k':=by
  intro env st ⟨k,hk⟩;induction k using Nat.strongRecOn with
  |_ k ih=>
   by_cases h:∃k',k'<k/\W env st k'
   .obtain⟨k',h1,h2⟩:=h;exact ih k' h1 h2
   .exact⟨k,hk,fun k' hk'=>by
     rcases cT k' k with h1|h1
     .exact absurd ⟨k',h1,hk'⟩ h
     .exact h1⟩
 open Classical in
 refine .intro ⟨_,_,h0,fun env st=>∃k,W env st k,fun env st=>if h:∃k,W env st k then Classical.choose (least env st h)else 0,⟨_,i0,rfl,rfl,hP,rfl⟩,fun env st hk=>?_⟩;obtain⟨⟨i,e1,e2,e3,e5⟩,hmin⟩:=Classical.choose_spec (least env st hk);have:=hr i e3;rw[<-e1,<-e2]at this;refine gp htr a _ _ env st ?_ this
 .intro e env' st' h;cases e with
  |normal=>
   obtain⟨j,b3,b5,g⟩:=h;have hW:W (F j) ⟨c,G j⟩ (μ j):=⟨j,rfl,rfl,b3,rfl⟩;refine⟨F j,⟨c,G j⟩,g,⟨_,hW⟩, ?_⟩;show(if h:∃k,W (F j) ⟨c,G j⟩ k then Classical.choose (least _ _ h)else 0)<(if h:∃k,W env st k then Classical.choose (least env st h)else 0);rw[dif_pos ⟨_,hW⟩,dif_pos hk,<-e5];exact Nat.lt_of_le_of_lt ((Classical.choose_spec (least _ _ ⟨_,hW⟩)).2 _ hW) b5
  |exit j=>simp only[Bw]at h⊢;split<;>rename_i hj<;>simp only[hj,aF,aE]at h<;>exact h
  |ret=>exact h
def nth:List b7->Nat->b7
 |[],_=>.un
 |a::_,0=>a
 |_::r,n+1=>nth r n
def vF:∀(l:List b7) (n:Nat),l.getD n .un=nth l n
 |[],n=>by simp[nth]
 |a::_,0=>by simp[nth]
 |_::r,n+1=>by simpa[nth]using vF r n
def cL (env rs:List b7):Src->b7
 | .s n=>nth env n
 | .l p=>bif Nat.blt p rs.length then nth rs (rs.length-1-p)else .un
 | .c d=>⟨true,d⟩
theorem kv (env rs:List b7):Src.ev env rs.reverse=cL env rs:=by
 funext s;cases s with
 |s n=>exact vF env n
 |l p=>
  simp only[Src.ev,cL];cases h:Nat.blt p rs.length with
  |true=>
   have:p<rs.length:=by simp[Nat.blt]at h;omega
   rw[cond_true,<-vF]
   grind
  |false=>
   have:¬p<rs.length:=by intro e;have:Nat.blt p rs.length=true:=by {simp[Nat.blt];omega};rw[this]at h;cases h
   grind
 |c d=>rfl
def aJ (Y:Ctx)(draw:Bool)(l:List GI)(env rs:List b7)(nx:Nat)(m:List (Nat×bT))(K:List b7->St->Prop):Prop:=ep Y draw l env rs.reverse ⟨nx,m⟩ K
def HK (env rs:List b7):List (Nat×Nat)->List b7
 |[]=>env
 |(s,p)::r=>HK (env.set s (cL [] rs (.l p))) rs r
theorem BM (rs:List b7):∀(cm:List (Nat×Nat)) (env:List b7),fV env rs.reverse cm=HK env rs cm
 |[],env=>rfl
 |(s,p)::r,env=>by
  simp only[fV,HK];rw[BM rs r,<-congrFun (kv [] rs) (.l p)];rfl
def aq {draw:Bool}{ins:List GI}{cm:List (Nat×Nat)}{b:AC}{nx:Nat}{m:List (Nat×bT)}
  (h:aJ Y draw ins env [] nx m (fun vs st'=>cq Y b Q (fV env vs cm) st')):cq Y (.seq (.reg draw ins cm) b) Q env ⟨nx,m⟩:=.intro (.intro h)
def wz {draw:Bool}{ins:List GI}{cm:List (Nat×Nat)}{nx:Nat}{m:List (Nat×bT)}
  (h:aJ Y draw ins env [] nx m (fun vs st'=>Q .normal (fV env vs cm) st')):cq Y (.reg draw ins cm) Q env ⟨nx,m⟩:=.intro h
def lC {draw:Bool}{cm:List (Nat×Nat)}{b:AC}{nx nx':Nat}{m:List (Nat×bT)}{rs fK env':List b7}(h:cq Y b Q env' ⟨nx',m⟩)
  (he:HK env rs cm=env':=by exact rfl) (hn:nx+rs.length=nx':=by exact tD):aJ Y draw [] fK rs nx m (fun vs st'=>cq Y b Q (fV env vs cm) st'):=by
 grind [aJ,ep,BM]
def qU {draw:Bool}{cm:List (Nat×Nat)}{nx nx':Nat}{m:List (Nat×bT)}{rs fK env':List b7}(h:Q .normal env' ⟨nx',m⟩)
  (he:HK env rs cm=env':=by exact rfl) (hn:nx+rs.length=nx':=by exact tD):aJ Y draw [] fK rs nx m (fun vs st'=>Q .normal (fV env vs cm) st'):=by
 grind [aJ,ep,BM]
def bA {c:Src}{a b r:AC}{t:Bool}(h1:t=true->cq Y (.seq a r) Q env st)(h2:t=false->cq Y (.seq b r) Q env st)(hc:cL env [] c=⟨true,.bool t⟩:=by exact rfl):cq Y (.seq (.cond c a b) r) Q env st:=by
 have hc':c.ev env []=⟨true,.bool t⟩:=by rw[<-hc,<-kv];rfl
 refine .intro (.intro ?_);simp only[hc'];refine⟨trivial,fun ht=>?_,fun ht=>?_⟩
 .obtain⟨e,s,g,h⟩:=h1 ht;exact dt g h
 .obtain⟨e,s,g,h⟩:=h2 ht;exact dt g h
def wp_cond {c:Src}{a b:AC}{t:Bool}(h1:t=true->cq Y a Q env st)(h2:t=false->cq Y b Q env st)(hc:cL env [] c=⟨true,.bool t⟩:=by exact rfl):cq Y (.cond c a b) Q env st:=by
 have hc':c.ev env []=⟨true,.bool t⟩:=by rw[<-hc,<-kv];rfl
 refine .intro ?_
 grind
def aU.to {lo c nx nx':Nat}{env env':List b7}{m m':List (Nat×bT)}(σ:List (Nat×Nat))(hc:nx'=c)(h:eQ lo c σ=true)(he:aN lo σ env env')(hm:aK lo c σ m m'):aU lo env ⟨nx,m⟩ env' ⟨nx',m'⟩:=by
 subst hc;exact .ren σ nx' env env' nx m m' h he hm
theorem ak {α β:Type}(q:α->β)(xs:List α):(xs.map q).take xs.length=xs.map q:=eZ bz
def bL {α:Type}{q:α->D}(h:∀x,(q x).bm=true):∀xs:List α,aW (xs.map q)=true
 |[]=>rfl
 |a::r=>by simp only[List.map_cons,aW,h a,bL h r,eM]
def aU.fz {lo:Nat}{env env' env2:List b7}{nx k:Nat}{m m':List (Nat×bT)}{es:List D}{st2:St}(l:Nat)(hl:look m l=some (.buf k es))(hn:aW es=true)(he:eh l k es env=env')(hm:ek l k es (bF m l)=m')(h:aU lo env' ⟨nx,m'⟩ env2 st2):aU lo env ⟨nx,m⟩ env2 st2:=by
 have:=aU.GU (lo:=lo) l env ⟨nx,m⟩;simp only[Abs.GU,hl,hn,cond_true,he,hm]at this;exact .trans _ _ _ _ _ _ this h
def cu {a:AC}{nx k:Nat}{m m':List (Nat×bT)}{es:List D}{env env':List b7}(l:Nat)(h:cq Y a Q env' ⟨nx,m'⟩)(hl:look m l=some (.buf k es):=by exact rfl)(hn:aW es=true:=by first|exact rfl|exact bL (fun _=>rfl) _)
  (he:eh l k es env=env':=by simp only[eh,dy,du,ek,eu,bF,Nat.reduceEqDiff,aF,aE,aX,aP,aQ,aZ,a7,aB,aD,aA,aO,ak,reduceCtorEq,aY,bg,Nat.reduceAdd,Nat.reduceLeDiff];exact rfl)
  (hm:ek l k es (bF m l)=m':=by simp only[eh,dy,du,ek,eu,bF,Nat.reduceEqDiff,aF,aE,aX,aP,aQ,aZ,a7,aB,aD,aA,aO,ak,reduceCtorEq,aY,bg,Nat.reduceAdd,Nat.reduceLeDiff];exact rfl):cq Y a Q env ⟨nx,m⟩:=
 dt (aU.fz l hl hn he hm (.refl _ _)) h
def Mw.rf:∀e:List b7,Mw e e
 |[]=>trivial
 |_::r=>⟨⟨rfl,.refl _⟩,Mw.rf r⟩
def lX.nil:lX [] []:=⟨rfl,fun _=>.refl _⟩
def lX.cons {x y:D}{a b:List D}(h:sZ x y)(h2:lX a b):lX (x::a) (y::b):=⟨by simp[h2.1],fun i=>by cases i with
 |zero=>exact h
 |succ i=>simpa using h2.2 i⟩
def lX.rf (a:List D):lX a a:=⟨rfl,fun _=>.refl _⟩
def lX.map {α:Type}{q p:α->D}:∀{xs:List α},(∀x∈xs,sZ (q x) (p x))->lX (xs.map q) (xs.map p)
 |[],_=>.nil
 |x::r,h=>.cons (h x (.head _)) (lX.map fun y hy=>h y (.tail _ hy))
def sZ.ag {a b:List D}(h:lX a b):sZ (.agg a) (.agg b):=.agg _ _ h.1 h.2
def sZ.ss {k:Nat}{a b:List D}(h:lX a b):sZ (.sl k a) (.sl k b):=.sl _ _ _ h.1 h.2
def jJ.nil {m:List (Nat×bT)}:jJ m []:=trivial
def jJ.id {m r:List (Nat×bT)}{l:Nat}{b:bT}(h:look m l=some b)(h2:jJ m r):jJ m ((l,b)::r):=⟨⟨b,h,by cases b<;>first|exact⟨rfl,.rf _⟩|exact rfl⟩,h2⟩
def jJ.bf {m r:List (Nat×bT)}{l k:Nat}{es es':List D}(h:look m l=some (.buf k es))(hw:lX es es')(h2:jJ m r):jJ m ((l,.buf k es')::r):=⟨⟨_,h,rfl,hw⟩,h2⟩
def wy {a:AC}{nx:Nat}{m:List (Nat×bT)}{env:List b7}(m':List (Nat×bT))(hm:jJ m m')(h:cq Y a Q env ⟨nx,m'⟩):cq Y a Q env ⟨nx,m⟩:=dt (.nz _ _ _ _ _ (Mw.rf _) hm) h
def aN.nil {lo:Nat}{σ:List (Nat×Nat)}:aN lo σ [] []:=trivial
def aN.un {lo:Nat}{σ:List (Nat×Nat)}{a:b7}{r s:List b7}(h:aN lo σ r s):aN lo σ (a::r) (.un::s):=⟨.inr rfl,h⟩
def aN.eq {lo:Nat}{σ:List (Nat×Nat)}{ok:Bool}{d d':D}{r s:List b7}(hd:jk lo σ d=some d')(h:aN lo σ r s):aN lo σ (⟨ok,d⟩::r) (⟨ok,d'⟩::s):=⟨.inl ⟨rfl,.inr (.inl hd)⟩,h⟩
theorem aN.nl {lo:Nat}{σ:List (Nat×Nat)}{ok:Bool}{d d':D}{r s:List b7}(hd:d'=d)(hn:d.bm=true)(h:aN lo σ r s):aN lo σ (⟨ok,d⟩::r) (⟨ok,d'⟩::s):=⟨.inl ⟨rfl,.inl ⟨hd,hn⟩⟩,h⟩
def aN.ni {lo:Nat}{σ:List (Nat×Nat)}{ok:Bool}{d d':D}{r s:List b7}(hd:px d d')(h:aN lo σ r s):aN lo σ (⟨ok,d⟩::r) (⟨ok,d'⟩::s):=⟨.inl ⟨rfl,.inr (.inr hd)⟩,h⟩
section
variable {lo c:Nat} {σ:List (Nat×Nat)} {m r:List (Nat×bT)}
def aK.nil:aK lo c σ m []:=trivial
theorem aK.nl {k l':Nat}{es es':List D}(l:Nat)(hl:e9 lo σ l=some l')(hm:look m l=some (.buf k es))(he:es'=es)(hn:aW es=true)(h:aK lo c σ m r):aK lo c σ m ((l',.buf k es')::r):=
 ⟨.inl ⟨l,_,hl,hm,rfl,.inl ⟨he,hn⟩⟩,h⟩
def aK.eq {k l':Nat}{es es':List D}(l:Nat)(hl:e9 lo σ l=some l')(hm:look m l=some (.buf k es))(he:fk lo σ es=some es')(h:aK lo c σ m r):aK lo c σ m ((l',.buf k es')::r):=
 ⟨.inl ⟨l,_,hl,hm,rfl,.inr (.inl he)⟩,h⟩
def aK.ni {k l':Nat}{es es':List D}(l:Nat)(hl:e9 lo σ l=some l')(hm:look m l=some (.buf k es))(he:BC es es')(h:aK lo c σ m r):aK lo c σ m ((l',.buf k es')::r):=
 ⟨.inl ⟨l,_,hl,hm,rfl,.inr (.inr he)⟩,h⟩
def aK.gH {k l':Nat}{es':List D}(hl:e9 lo σ l'=some l')(hm:look m l'=some (.buf k es'))(hn:aW es'=true)(h:aK lo c σ m r):aK lo c σ m ((l',.buf k es')::r):=.nl l' hl hm rfl hn h
def aK.eF {k l':Nat}{es' es:List D}(hl:e9 lo σ l'=some l')(hm:look m l'=some (.buf k es))(he:fk lo σ es=some es')(h:aK lo c σ m r):aK lo c σ m ((l',.buf k es')::r):=.eq l' hl hm he h
def aK.mt {k l':Nat}{es':List D}(h1:Nat.ble lo l'=true)(h2:Nat.blt l' c=true)(h3:σ.all (fun p=>!Nat.beq p.2 l')=true)(he:es'=[])(h:aK lo c σ m r):aK lo c σ m ((l',.buf k es')::r):=
 ⟨.inr ⟨h1,h2,h3,k,by rw[he]⟩,h⟩
def aK.it {l' p p':Nat}{s s':List UInt8}(l:Nat)(hl:e9 lo σ l=some l')(hm:look m l=some (.iter s p))(hs:s'=s)(hp:p'=p)(h:aK lo c σ m r):aK lo c σ m ((l',.iter s' p')::r):=
 ⟨.inl ⟨l,_,hl,hm,hs,hp⟩,h⟩
def aK.qo {l' p p':Nat}{s s':List UInt8}(hl:e9 lo σ l'=some l')(hm:look m l'=some (.iter s p))(hs:s'=s)(hp:p'=p)(h:aK lo c σ m r):aK lo c σ m ((l',.iter s' p')::r):=.it l' hl hm hs hp h
def aK.rw {l':Nat}{s s':List UInt8}(l:Nat)(hl:e9 lo σ l=some l')(hm:look m l=some (.row s))(hs:s'=s)(h:aK lo c σ m r):aK lo c σ m ((l',.row s')::r):=
 ⟨.inl ⟨l,_,hl,hm,hs⟩,h⟩
def aK.b0 {l' n n':Nat}{u u':Bool}(l:Nat)(hl:e9 lo σ l=some l')(hm:look m l=some (.bld none n u))(hn:n'=n)(hu:u'=u)(h:aK lo c σ m r):aK lo c σ m ((l',.bld none n' u')::r):=
 ⟨.inl ⟨l,_,hl,hm,rfl,hn,hu⟩,h⟩
end
mutual
def xC (m:List (Nat×bT)):Sh->D->D
 | .a,d=>match d with
  | .aG=>.sl 0 []
  |d=>d
 | .sl k cs,d=>match d with
  | .aG=>.sl k []
  | .own l k' i c=>.sl k' ((((ba m l).drop i).take c).map fun e=>match e with
   | .agg ds=>.agg (xL m cs ds)
   |e=>xH m cs e)
  |d=>d
 | .pt cs,d=>match d with
  | .ptr l k i o=>.ref k ((ba m l).map fun e=>match e with
   | .agg ds=>.agg (xL m cs ds)
   |e=>xH m cs e) i o
  |d=>d
 | .kp cs,d=>match d with
  | .own l k' i c=>.sl k' ((((ba m l).drop i).take c).map fun e=>match e with
   | .agg ds=>.agg (xL m cs ds)
   |e=>xH m cs e)
  |d=>d
def xH (m:List (Nat×bT)):List Sh->D->D
 |[],d=>d
 |s::_,d=>xC m s d
def xL (m:List (Nat×bT)):List Sh->List D->List D
 |[],ds=>ds
 |s::r,ds=>match ds with
  |[]=>[]
  |d::ds=>xC m s d::xL m r ds
end
def xV (m:List (Nat×bT))(cs:List Sh):D->D
 | .agg ds=>.agg (xL m cs ds)
 |e=>xH m cs e
mutual
def Ki (m:List (Nat×bT)):Sh->D->Prop
 | .a,d=>d.bm=true
 | .sl _ cs,d=>match d with
  | .own l k' i c=>ew m l k' (i+c)/\∀e∈((ba m l).drop i).take c,(match e with
   | .agg ds=>D5 m cs ds
   |e=>Me m cs e)
  |d=>d.bm=true
 | .pt cs,d=>match d with
  | .ptr l k _ _=>ew m l k 0/\∀e∈ba m l,(match e with
   | .agg ds=>D5 m cs ds
   |e=>Me m cs e)
  |d=>d.bm=true
 | .kp cs,d=>match d with
  | .own l k' i c=>ew m l k' (i+c)/\∀e∈((ba m l).drop i).take c,(match e with
   | .agg ds=>D5 m cs ds
   |e=>Me m cs e)
  |d=>d.bm=true
def Me (m:List (Nat×bT)):List Sh->D->Prop
 |[],d=>d.bm=true
 |s::_,d=>Ki m s d
def D5 (m:List (Nat×bT)):List Sh->List D->Prop
 |[],ds=>aW ds=true
 |s::r,ds=>match ds with
  |[]=>True
  |d::ds=>Ki m s d/\D5 m r ds
end
def Kj (m:List (Nat×bT))(cs:List Sh):D->Prop
 | .agg ds=>D5 m cs ds
 |e=>Me m cs e
mutual
theorem JV (m:List (Nat×bT)):∀(s:Sh) (d:D),kU m s d=xC m s d/\(iK m s d↔Ki m s d)
 | .a,d=>by cases d<;>simp only[kU,xC,iK,Ki]<;>exact⟨trivial,trivial⟩
 | .sl k cs,d=>by
  cases d<;>simp only[kU,xC,iK,Ki]<;>first
   |exact⟨trivial,trivial⟩
   |skip
  rename_i l k' i c;exact⟨b8 (D.sl k') (List.map_congr_left fun e _=>(wB m cs e).1),and_congr_right fun _=>forall_congr' fun e=>imp_congr_right fun _=>(wB m cs e).2⟩
 | .pt cs,d=>by
  cases d<;>simp only[kU,xC,iK,Ki]<;>first
   |exact⟨trivial,trivial⟩
   |skip
  rename_i l k' i c;exact⟨b8 (fun x=>D.ref k' x i c) (List.map_congr_left fun e _=>(wB m cs e).1),and_congr_right fun _=>forall_congr' fun e=>imp_congr_right fun _=>(wB m cs e).2⟩
 | .kp cs,d=>by
  cases d<;>simp only[kU,xC,iK,Ki]<;>first
   |exact⟨trivial,trivial⟩
   |skip
  rename_i l k' i c;exact⟨b8 (D.sl k') (List.map_congr_left fun e _=>(wB m cs e).1),and_congr_right fun _=>forall_congr' fun e=>imp_congr_right fun _=>(wB m cs e).2⟩
theorem wB (m:List (Nat×bT)):∀(cs:List Sh) (d:D),iC m cs d=(match d with
   | .agg ds=>.agg (xL m cs ds)
   |e=>xH m cs e)/\(gD m cs d↔(match d with
   | .agg ds=>D5 m cs ds
   |e=>Me m cs e))
 |[],d=>by cases d<;>simp only[iC,xH,xL,gD,Me,D5,D.bm]<;>first|exact⟨trivial,Iff.rfl⟩|exact⟨trivial,trivial⟩
 |s::r,d=>by
  cases d<;>simp only[iC,xH,gD,Me]<;>first
   |exact JV m s _
   |skip
  rename_i ds;exact⟨b8 D.agg (D6 m (s::r) ds).1,(D6 m (s::r) ds).2⟩
theorem D6 (m:List (Nat×bT)):∀(cs:List Sh) (ds:List D),mr m cs ds=xL m cs ds/\(kl m cs ds↔D5 m cs ds)
 |[],ds=>by simp only[mr,xL,kl,D5];exact⟨trivial,trivial⟩
 |s::r,[]=>by simp only[mr,xL,kl,D5];exact⟨trivial,trivial⟩
 |s::r,d::ds=>by
  simp only[mr,xL,kl,D5,(JV m s d).1,(D6 m r ds).1];exact⟨trivial,and_congr (JV m s d).2 (D6 m r ds).2⟩
end
theorem yc (m:List (Nat×bT))(cs:List Sh)(d:D):iC m cs d=xV m cs d/\(gD m cs d↔Kj m cs d):=by
 have:=wB m cs d;cases d<;>exact this
def jC (m:List (Nat×bT)):List (List Sh)->List D->List D
 |_,[]=>[]
 |[],d::r=>xV m [.a] d::jC m [] r
 |s::ss,d::r=>xV m s d::jC m ss r
def je (m:List (Nat×bT)):List (List Sh)->List D->Prop
 |_,[]=>True
 |[],d::r=>Kj m [.a] d/\je m [] r
 |s::ss,d::r=>Kj m s d/\je m ss r
theorem c9 (m:List (Nat×bT)):∀(ss:List (List Sh)) (ds:List D),fX m ss ds=jC m ss ds/\(iL m ss ds↔je m ss ds)
 |ss,[]=>by simp[fX,jC,iL,je]
 |[],d::r=>by
  simp only[fX,jC,iL,je,(yc m [.a] d).1,(c9 m [] r).1];exact⟨trivial,and_congr (yc m _ d).2 (c9 m [] r).2⟩
 |s::ss,d::r=>by
  simp only[fX,jC,iL,je,(yc m s d).1,(c9 m ss r).1];exact⟨trivial,and_congr (yc m _ d).2 (c9 m ss r).2⟩
def O7 (a:aM)(d:D):Ex->List b7->St->Prop:=fun e env st=>e.home/\ow st.m env a.res/\DU a env st/\LI a env st=d
def JW (a:aM)(env:List b7)(m:List (Nat×bT)):D:=match a.res with
 |[r]=>xV m (a.rsh.getD 0 []) (AQ m env r)
 |rs=>.tup (jC m a.rsh (nE m env rs))
def Bn (a:aM)(env:List b7)(m:List (Nat×bT)):Prop:=match a.res with
 |[r]=>Kj m (a.rsh.getD 0 []) (AQ m env r)
 |rs=>je m a.rsh (nE m env rs)
def Js {a:aM}{d:D}{e:Ex}{nx:Nat}{m:List (Nat×bT)}(he:e.home)(h1:ow m env a.res)(h2:Bn a env m)(h3:JW a env m=d):O7 a d e env ⟨nx,m⟩:=by
 refine⟨he,h1, ?_, ?_⟩
 .unfold DU;unfold Bn at h2;split<;>rename_i hr
  .rw[hr]at h2;exact(yc _ _ _).2.2 h2
  .split at h2
   .rename_i hr2;exact absurd hr2 (hr _)
   .exact(c9 _ _ _).2.2 h2
 grind [LI,JW,yc,c9]
def NG (a:aM)(k:Nat)(vd sd:D):Ex->List b7->St->Prop:=fun e env st=>e.home/\ow st.m env a.res/\(jD a env st).bm=true/\jD a env st=vd/\look st.m 0=some (.buf k [sd])/\sd.bm=true
def LH {a:aM}{k:Nat}{vd sd:D}{e:Ex}{nx:Nat}{m:List (Nat×bT)}(he:e.home)(h1:ow m env a.res)(h2:jD a env ⟨nx,m⟩=vd)(h3:look m 0=some (.buf k [sd]))(hn:vd.bm=true)(hs:sd.bm=true):NG a k vd sd e env ⟨nx,m⟩:=⟨he,h1,by rw[h2];exact hn,h2,h3,hs⟩
end
end
end Go.Abs
