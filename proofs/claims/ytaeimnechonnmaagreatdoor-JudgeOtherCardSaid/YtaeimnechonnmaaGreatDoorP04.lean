/- A part of the proofs. -/
import Derived.Scope
import Derived.Test.YtaeimnechonnmaaGreatDoorP03
set_option linter.all false
set_option maxRecDepth 4000
namespace Go.Abs
section
variable [dq]
section
variable {C:CC} {Y:Ctx}
omit [dq]in
theorem I4 {i:aG}(hp:i.pure=true){J:Src->b8}{m m':List (Nat×bM)}{L L':Nat}(h:i.dF Y J m):i.dF Y J m'/\i.val Y J m L=i.val Y J m' L':=by
 cases i<;>first
  |(simp[aG.pure]at hp;done)
  |exact⟨h,rfl⟩
def xG {ops:Array Oper}{env:List b8}{VS:List b8}{μ:List (Nat×bM)}{N:Nat}{listed:Array Bool}{a:Act}{x:X}{i:Nat}{o:Oper}{g:GI}(hΓ:Ok C.P C.ν C.cC Y)
  (h2:ops[i]? =some o) (hg2:C.op ((ops.toList.map (·.dst)).take i) o=some g.i) (hg3:CC.guard ((ops.toList.map (·.dst)).take i) o.guard=some g.g)
  (hdd:∀t,o.dst=some t->t<C.ntmps/\∀p,p≠i->(ops.toList.map (·.dst))[p]? ≠some (some t))
  (hp:g.i.pure=true\/g.i.wN=true) (hmid:nP C env (ops.toList.map (·.dst)) VS (fun p=>listed.getD p false=true) a x) (hs:eG C.ν x (look μ)) (his:i<listed.size)
  (hreads:∀t p,t∈tmpsOf ops.toList o->(ops.toList.map (·.dst))[p]? =some (some t)->(p<i->listed.getD p false=true)/\(i<=p->¬listed.getD p false=true))
  (hent:(VS.getD i .un).ok=flag (VS.take i) g.g) (hgk:Ha (VS.take i) g.i g.g) (hgood:flag (VS.take i) g.g=true->g.i.dF Y (Src.ev env (VS.take i)) μ/\g.i.val Y (Src.ev env (VS.take i)) μ N=(VS.getD i .un).d)
  {Q:Exit->Act->World->Prop} {Kc:Act->World->Prop} (hK:∀a',nP C env (ops.toList.map (·.dst)) VS (fun p=>(listed.setIfInBounds i true).getD p false=true) a' x->Kc a' x.w):wpOp C.P ops Q i Kc a x.w:=by
 have ho':ops.toList[i]? =some o:=by simpa using h2
 have hdst:(ops.toList.map (·.dst))[i]? =some o.dst:=by rw[List.getElem?_map,ho',Option.map_some]
 have hρ:pI C ((ops.toList.map (·.dst)).take i) (Src.ev env (VS.take i)) a.eval x o.op.operands.toList:=
  hmid.Se fun t p ht hp=>hreads t p (List.mem_append_left _ (List.mem_filterMap.2 ⟨.tmp t,ht,rfl⟩)) hp
 have hcst:∀d,Src.ev env (VS.take i) (.c d)=⟨true,d⟩:=fun _=>rfl
 have hwant:Region.wanted o (yielded ops a.tmps)=flag (VS.take i) g.g:=by
  refine gT (g:=g) hmid hg3 (fun j w hg hji=>?_) (Ii hgk);simp only[hg,CC.guard]at hg3;split at hg3
  .rename_i t hj;rw[List.getElem?_take,aw hji]at hj;refine(hreads t j (List.mem_append_right _ ?_) hj).1 hji;rw[List.getElem?_map,cW]at hj;obtain⟨oj,hj1,hj2⟩:=hj;simp[hg,hj1,hj2]
  .cases hg3
 have hput:∀(v:Value),((VS.getD i .un).ok=true->RD C.ν x v (VS.getD i .un).d)->((VS.getD i .un).ok=false->v=undef)->
   nP C env (ops.toList.map (·.dst)) VS (fun p=>(listed.setIfInBounds i true).getD p false=true) (a.put o.dst v) x:=by
  intro v e1 e2;refine hmid.put (i:=i) (Le.refl x) hdst hdd e1 e2 (fun p=>?_);rw[dP his];by_cases e:p=i
  .simp[e]
  .simp[e]
 unfold wpOp;simp only[h2,hwant];cases hfg:flag (VS.take i) g.g with
 |false=>
  rw[ai bh];exact hK _ (hput undef (fun e=>by rw[hent,hfg]at e;cases e) (fun _=>rfl))
 |true=>
  rw[aw rfl];left;obtain⟨hob,lU⟩:=hgood hfg;have hd:zk C.ν x (g.i.val Y (Src.ev env (VS.take i)) μ N) ((execOp a.eval o).run C.P x.w):=by
   by_cases hpu:g.i.pure=true
   .exact As (f:=look μ) hΓ.glz hcst hΓ.small hg2 hpu hρ hob hs (fun _=>rfl)
   .have hld:g.i.wN=true:=by rcases hp with h|h;exact absurd h hpu;exact h
    obtain⟨t,p,hop⟩:∃t p,o.op=.load t p:=by
     obtain⟨gi,gg⟩:=g;cases gi<;>simp only[aG.wN]at hld<;>try cases hld
     rename_i n ag s;cases hop:o.op with
     |load t p=>exact⟨t,p,rfl⟩
     |call c=>
      obtain⟨callee,args,argTypes⟩:=c;cases callee with
      |invoke r n=>simp only[CC.op,hop]at hg2;(repeat' split at hg2)<;>simp at hg2
      |builtin b=>cases b<;>simp only[CC.op,hop]at hg2<;>(try(repeat' split at hg2))<;>simp at hg2
      |value v=>cases v<;>simp only[CC.op,hop]at hg2<;>(try(repeat' split at hg2))<;>simp at hg2
     |makeFunc fn fst caps=>cases fn<;>simp only[CC.op,hop]at hg2<;>(repeat' split at hg2)<;>simp_all
     |next it b=>cases b<;>simp[CC.op,hop]at hg2
     |typeAssert p xt t ok=>cases ok<;>simp only[CC.op,hop]at hg2<;>(try(repeat' split at hg2))<;>simp at hg2
     |lookup t p q ok=>
      cases ok with
      |true=>simp[CC.op,hop]at hg2
      |false=>simp only[CC.op,hop]at hg2;(repeat' split at hg2)<;>simp_all
     |_=>
      simp only[CC.op,hop]at hg2
      (try(repeat' split at hg2))<;>simp at hg2
    exact Ar (f:=look μ) hpu hΓ.small hg2 hop hρ hob hs (by
     cases hq:g.i.kV (Src.ev env (VS.take i))with
     |none=>exact fun _ _=>rfl
     |some ls=>exact fun _ _=>rfl)
  rw[lU]at hd;obtain⟨v,hr,hrd⟩:=hd;refine iX.wp (G:=fun v' x'=>v'=v/\x'=x) ?_ (fun v' x' hG=>?_)
  .left;exact⟨v,x,hr,rfl,rfl⟩
  .obtain⟨rfl,rfl⟩:=hG;exact hK _ (hput _ (fun _=>hrd) (fun e=>by rw[hent,hfg]at e;cases e))
def DX {env:List b8}{K:List b8->St->Prop}:∀{suf:List GI}{vs:List b8}{st:St},(∀g∈suf,g.g=none/\g.i.cB=false)->dZ Y true suf env vs st K->dZ Y false suf env vs st K
 |[],_,_,_,h=>h
 |⟨i,g⟩::r,vs,st,hs,h=>by
  obtain⟨h1,h2⟩:=hs _ (.head _);simp only at h1 h2;subst h1;rw[iV h2 rfl]at h;rw[iV h2 (by simp[aG.mr])];obtain⟨_,w2,w3⟩:=h;refine⟨trivial,w2,fun ha=>?_⟩;obtain⟨d,e1,e2⟩:=w3 fun hf=>by
   have:=ha hf;have key:∀(s:Src) (X:Prop),X->(bif !s.DF then True else X):=fun s X h=>by cases s.DF<;>simp[h]
   cases i<;>first
    |exact trivial
    |exact key _ _ this
  exact⟨d,e1,DX (fun g hg=>hs g (.tail _ hg)) e2⟩
section
variable {ops:Array Oper} {pre:List GI} {lx:List GI} {bs:List Nat} {n:Nat} {env:List b8} {VS:List b8} {f:Nat} {ss:List Src} {chk:List (Nat×Nat×Bool×Src)} {x0:X} {Q:Exit->Act->World->Prop} {nx:Nat} {m:List (Nat×bM)}
def H4 {VS:List b8}{e:b8}{i:Nat}(h:i<=VS.length):(VS++[e]).take i=VS.take i:=List.take_append_of_le_length h
def ext_get {VS:List b8}{e:b8}{i:Nat}(h:i<VS.length):(VS++[e]).getD i .un=VS.getD i .un:=by rw[df,aw h]
def xI {listed:Array Bool}(ho:Order ops.toList lx bs)(hl:listed.size=ops.size)(hr:Region.ready .any ops listed=[]):∀p,p<ops.size->listed.getD p false=true:=by
 intro p;induction p using Nat.strongRecOn with
 |_ p ih=>
  intro hp;cases hd:listed.getD p false with
  |true=>rfl
  |false=>
   exfalso;have hm:p∈Region.ready .any ops listed:=by
    rw[mem_ready];refine⟨?_,ops[p],by simp[hp],fun e he hb=>?_⟩
    .have:p<listed.size:=ae;simp only[Array.getD,this,dif_pos]at hd⊢;exact hd
    .have:=ho.edge p ops[p] (by simp[hp]) e he hb;exact ih e.on this ae
   rw[hr]at hm;cases hm
def uA {listed:Array Bool}(ho:Order ops.toList lx bs)(hcl:∀j,listed.getD j false=true->∀p,(bs.getD j 0).testBit p=true->listed.getD p false=true){i:Nat}{o:Oper}(hi:ops[i]? =some o)(hni:listed.getD i false=false)
  (hed:∀e∈o.after,Region.binds .any e=true->listed.getD e.on false=true) {p:Nat} (hb:nN bs p i) (hne:p≠i):(p<i->listed.getD p false=true)/\(i<=p->¬listed.getD p false=true):=by
 unfold nN at hb;refine⟨fun hlt=>?_,fun hle hp=>?_⟩
 .rw[Nat.max_eq_left ae,Nat.min_eq_right ae]at hb;obtain⟨e,e1,e2,e3⟩:=ho.bef i o (by simpa using hi) p hb;rcases e3 with rfl|e3
  .exact hed e e1 e2
  .exact hcl _ (hed e e1 e2) p e3
 .rw[Nat.max_eq_right ae,Nat.min_eq_left ae]at hb;have:=hcl p hp i hb;rw[hni]at this;cases this
def B9 {l:List GI}{c0:GI}{suf:List GI}{K:List b8->St->Prop}(hΓ:Ok C.P C.ν C.cC Y)(hsp:Spec C ops.toList l)(hl:l=pre++c0::suf)(hn:pre.length=n)(ho:Order ops.toList lx bs)(hVS:VS.length=n)
  (hop:∀(i:Nat) (o:Oper),ops.toList[i]? =some o->∃g,l[i]? =some g/\C.op ((ops.toList.map (·.dst)).take i) o=some g.i/\CC.guard ((ops.toList.map (·.dst)).take i) o.guard=some g.g)
  (hdst:∀(i:Nat) (o:Oper) (t:Nat),ops[i]? =some o->o.dst=some t->t<C.ntmps/\∀p,p≠i->(ops.toList.map (·.dst))[p]? ≠some (some t))
  (hpu:∀g∈pre,g.i.pure=true\/g.i.wN=true) (hsuf:∀g∈suf,g.g=none/\g.i.cB=false)
  (lU:∀(i:Nat) (g:GI),pre[i]? =some g->(VS.getD i .un).ok=flag (VS.take i) g.g/\Ha (VS.take i) g.i g.g/\(flag (VS.take i) g.g=true->g.i.dF Y (Src.ev env (VS.take i)) m/\g.i.val Y (Src.ev env (VS.take i)) m (nx+i)=(VS.getD i .un).d))
  (hchk:∀(i k:Nat) (ag:Bool) (p:Src) (gd:Option (Nat×Bool)),pre[i]? =some ⟨.ld k ag p,gd⟩->(bs.getD n 0).testBit i=true\/(i,k,ag,p)∈chk)
  (hfull:∀q,q<suf.length->∀p,p<n+1+q->(pre.getD p ⟨.mkB,none⟩).i.pure=true\/(bs.getD (n+1+q) 0).testBit p=true)
  (hK:∀vs' st' a' x',K vs' st'->vs'.length=ops.size->nP C env (ops.toList.map (·.dst)) vs' (· <ops.size) a' x'->Step x0 x'->eG C.ν x' (look st'.m)->eC st' x'->Q .normal a' x'.w):
  ∀(fuel q:Nat) (listed:Array Bool) (a:Act) (x:X) (vs:List b8) (st:St),listed.size=ops.size->(∀p,n<=p->p<ops.size->(listed.getD p false=true↔p<n+1+q))->q<=suf.length->
   (∀j,listed.getD j false=true->∀p,(bs.getD j 0).testBit p=true->listed.getD p false=true)->vs.length=n+1+q->vs.take n=VS->nP C env (ops.toList.map (·.dst)) vs (fun p=>listed.getD p false=true) a x->Step x0 x->eG C.ν x (look st.m)->eC ⟨st.nx+(n+1+q),st.m⟩ x->
   dZ Y false (suf.drop q) env vs st K->(q=0->∀c∈chk,(VS.getD c.1 .un).ok=true->wO st.m c.2.1 (Src.ev env (VS.take c.1) c.2.2.2).d/\tS st.m c.2.1 c.2.2.1 (Src.ev env (VS.take c.1) c.2.2.2).d=(VS.getD c.1 .un).d)->
   HY ops.size listed<=fuel->wpAny C.P .any ops Q fuel listed a x.w:=by
 have hsz:ops.size=n+1+suf.length:=by have:=hsp.len;simp[hl,hn]at this;omega
 have hdone:∀(q:Nat) (listed:Array Bool) (a:Act) (x:X) (vs:List b8) (st:St),listed.size=ops.size->(∀p,n<=p->p<ops.size->(listed.getD p false=true↔p<n+1+q))->q<=suf.length->vs.length=n+1+q->
   (∀p,p<ops.size->listed.getD p false=true)->nP C env (ops.toList.map (·.dst)) vs (fun p=>listed.getD p false=true) a x->Step x0 x->eG C.ν x (look st.m)->eC ⟨st.nx+(n+1+q),st.m⟩ x->dZ Y false (suf.drop q) env vs st K->Q .normal a x.w:=by
  intro q listed a x vs st hls hq hqs hvl hall hmid hst hs hf hw;obtain rfl:q=suf.length:=by
   rcases cQ q suf.length with h|h
   .have:=(hq (n+1+q) ae ae).1 (hall _ ae);omega
   .omega
  rw[List.drop_length]at hw;simp only[dZ]at hw;exact hK vs _ a x hw ae (hmid.iff fun p=>⟨fun hp=>hall p hp,fun hp=>by have:=oT hls hp;omega⟩) hst hs (by rw[hvl];exact hf)
 intro fuel;induction fuel with
 |zero=>
  intro q listed a x vs st hls hq hqs hcl hvl hvt hmid hst hs hf hw hck hcnt;have hall:∀p,p<ops.size->listed.getD p false=true:=by
   intro p hp;have h0:(List.range ops.size).filter (fun p=>!listed.getD p false)=[]:=iO (Nat.le_zero.1 hcnt);rw[List.filter_eq_nil_iff]at h0;simpa using h0 p (by simpa using hp)
  refine⟨?_,hdone q listed a x vs st hls hq hqs hvl hall hmid hst hs hf hw⟩;rw[List.eq_nil_iff_forall_not_mem];intro j hj;obtain⟨h1,o,h2,_⟩:=mem_ready.1 hj;have hjl:j<ops.size:=(Array.getElem?_eq_some_iff.1 h2).1;have:=hall j hjl;have hjs:j<listed.size:=ae;simp only[Array.getD,hjs,dif_pos]at h1 this;rw[this]at h1;cases h1
 |succ fuel ih=>
  intro q listed a x vs st hls hq hqs hcl hvl hvt hmid hst hs hf hw hck hcnt;refine⟨fun hr=>hdone q listed a x vs st hls hq hqs hvl (xI ho hls hr) hmid hst hs hf hw,fun i hi=>?_⟩;obtain⟨h1,o,h2,hed⟩:=mem_ready.1 hi;have hil:i<ops.size:=(Array.getElem?_eq_some_iff.1 h2).1;have his:i<listed.size:=ae;have hni:listed.getD i false=false:=by simp only[Array.getD,his,dif_pos]at h1⊢;exact h1
  have ho':ops.toList[i]? =some o:=by simpa using h2
  have hreads:∀t p,t∈tmpsOf ops.toList o->(ops.toList.map (·.dst))[p]? =some (some t)->(p<i->listed.getD p false=true)/\(i<=p->¬listed.getD p false=true):=by
   intro t p ht hp;rw[List.getElem?_map,cW]at hp;obtain⟨op,hp1,hp2⟩:=hp;rcases ho.reads i p o op t ho' hp1 hp2 ht with rfl|hb
   .exact⟨fun h=>ae,fun _=>by rw[hni];simp⟩
   .by_cases hpi:p=i
    .subst hpi;exact⟨fun h=>ae,fun _=>by rw[hni];simp⟩
    .exact uA ho hcl h2 hni hed hb hpi
  have hready:∀p,(bs.getD i 0).testBit p=true->listed.getD p false=true:=by
   intro p hp;obtain⟨e',e1,e2,e3⟩:=ho.bef i o ho' p hp;rcases e3 with rfl|e3
   .exact hed e' e1 e2
   .exact hcl _ (hed e' e1 e2) p e3
  have hclosed:∀j,(listed.setIfInBounds i true).getD j false=true->∀p,(bs.getD j 0).testBit p=true->(listed.setIfInBounds i true).getD p false=true:=by
   intro j hj p hp;rw[dP his]at hj⊢;by_cases e:p=i
   .rw[aw e]
   .rw[ai e];by_cases ej:j=i
    .subst ej;exact hready p hp
    .rw[ai ej]at hj;exact hcl j hj p hp
  have hcnt':HY ops.size (listed.setIfInBounds i true)<=fuel:=by have:=yp hls hil hni;omega
  obtain⟨g,g1,g2,g3⟩:=hop i o ho';rcases cQ i n with hin|hin
  .rw[hl,List.getElem?_append_left ae]at g1;obtain⟨v1,v2,v3⟩:=lU i g g1;have ht:vs.take i=VS.take i:=by rw[<-hvt,List.take_take,Nat.min_eq_left ae]
   have hgd:vs.getD i .un=VS.getD i .un:=by rw[<-hvt,getD_take _ _ _ _ hin]
   refine xG (N:=nx+i) (μ:=st.m) hΓ h2 g2 g3 (fun t ht=>hdst i o t h2 ht) (hpu _ (List.mem_of_getElem? g1)) hmid hs his hreads (by rw[ht,hgd];exact v1) (by rw[ht];exact v2) (fun hf=>?_)
    (fun a' hm=>ih q _ a' x vs st (by simp[hls]) (fun p hp hp2=>by rw[dP his,ai ae];exact hq p hp hp2) hqs hclosed hvl hvt hm hst hs hf hw hck hcnt')
   rw[ht]at hf⊢;rw[hgd];obtain⟨o1,o2⟩:=v3 hf;rcases hpu _ (List.mem_of_getElem? g1)with hp|hp
   .obtain⟨q1,q2⟩:=I4 hp (m':=st.m) (L:=nx+i) (L':=nx+i) o1;exact⟨q1,q2.symm.trans o2⟩
   .obtain⟨gi,gg⟩:=g;cases gi<;>simp only[aG.wN]at hp<;>try cases hp
    rename_i k ag s;by_cases hq0:q=0
    .rcases hchk i k ag s gg g1 with hb|hm
     .have:=hcl n ((hq n (aE _) ae).2 ae) i hb;rw[hni]at this;cases this
     .obtain⟨c1,c2⟩:=hck hq0 _ hm (by rw[v1];exact hf);exact⟨And.intro o1.1 c1,c2⟩
    .exfalso;rcases hfull (q-1) ae i ae with hb|hb
     .rw[show pre.getD i ⟨.mkB,none⟩=⟨.ld k ag s,gg⟩by simp[List.getD,g1]]at hb;simp[aG.pure]at hb
     .have hlq:=(hq (n+1+(q-1)) ae ae).2 ae;have:=hcl _ hlq i hb;rw[hni]at this;cases this
  .have hge:n+1+q<=i:=by
    rcases cQ i (n+1+q)with h|h
    .have:=(hq i hin hil).2 h;rw[hni]at this;cases this
    .exact h
   obtain rfl:i=n+1+q:=by
    rcases cQ (n+1+q) i with h|h
    .exfalso;have hb:=hfull (i-(n+1)) ae (n+1+q) ae;rw[show n+1+(i-(n+1))=i by omega]at hb;rcases hb with hb|hb
     .rw[show pre.getD (n+1+q) ⟨.mkB,none⟩=⟨.mkB,none⟩by simp[List.getD,List.getElem?_eq_none (show pre.length<=n+1+q by omega)]]at hb;simp[aG.pure]at hb
     .have:=(hq (n+1+q) ae ae).1 (hready _ hb);omega
    .omega
   have hqlt:q<suf.length:=ae;have hgs:suf[q]? =some g:=by
    rw[hl,List.getElem?_append_right ae,hn,show n+1+q-n=q+1 by omega,List.getElem?_cons_succ]at g1;exact g1
   have hdrop:suf.drop q=g::suf.drop (q+1):=by
    rw[jP hqlt];congr 1;exact(List.getElem?_eq_some_iff.1 hgs).2
   rw[hdrop]at hw;have hgn:o.guard=none:=by
    have:=(hsuf g (List.mem_of_getElem? hgs)).1;rw[this]at g3;cases hgg:o.guard with
    |none=>rfl
    |some jw=>
     rw[hgg]at g3;obtain⟨j,w⟩:=jw;simp only[CC.guard]at g3;split at g3<;>simp at g3
   refine AW hsp hΓ h2 g1 (.inl g2) g3 hvl (fun p hp=>?_) (fun t p ht hp=>hreads t p (List.mem_append_left _ (List.mem_filterMap.2 ⟨.tmp t,ht,rfl⟩)) hp) (fun j w h=>by rw[hgn]at h;cases h) hmid hs hf hw
    (fun e st' x' a' h1 h2 h3 h4 h5=>ih (q+1) _ a' x' _ st' (by simp[hls]) (fun p hp hp2=>?_) ae hclosed (by simp[hvl];omega) (by rw[List.take_append_of_le_length ae];exact hvt) (h1.iff fun p=>?_) (hst.trans h2) h3 (by rw[show n+1+(q+1)=n+1+q+1 by omega];exact h4) h5 (fun h=>ae) hcnt')
   .rcases cQ p n with h|h
    .omega
    .exact(hq p h (by have:=oT hls hp;omega)).1 hp
   .rw[dP his];split
    .rename_i e;subst e;simp
    .rename_i e;rw[hq p hp hp2];omega
   .rw[dP his];by_cases e:p=n+1+q
    .simp[e]
    .simp[e]
def Gd {l:List GI}{suf:List GI}{K:List b8->St->Prop}(hΓ:Ok C.P C.ν C.cC Y)(hsp:Spec C ops.toList l)(hl:l=pre++⟨.callM f ss,none⟩::suf)(hn:pre.length=n)(ho:Order ops.toList lx bs)(hVS:VS.length=n)
  (hop:∀(i:Nat) (o:Oper),ops.toList[i]? =some o->∃g,l[i]? =some g/\C.op ((ops.toList.map (·.dst)).take i) o=some g.i/\CC.guard ((ops.toList.map (·.dst)).take i) o.guard=some g.g)
  (hdst:∀(i:Nat) (o:Oper) (t:Nat),ops[i]? =some o->o.dst=some t->t<C.ntmps/\∀p,p≠i->(ops.toList.map (·.dst))[p]? ≠some (some t))
  (hpu:∀g∈pre,g.i.pure=true\/g.i.wN=true) (hsuf:∀g∈suf,g.g=none/\g.i.cB=false)
  (lU:∀(i:Nat) (g:GI),pre[i]? =some g->(VS.getD i .un).ok=flag (VS.take i) g.g/\Ha (VS.take i) g.i g.g/\(flag (VS.take i) g.g=true->g.i.dF Y (Src.ev env (VS.take i)) m/\g.i.val Y (Src.ev env (VS.take i)) m (nx+i)=(VS.getD i .un).d))
  (hchk:∀(i k:Nat) (ag:Bool) (p:Src) (gd:Option (Nat×Bool)),pre[i]? =some ⟨.ld k ag p,gd⟩->(bs.getD n 0).testBit i=true\/(i,k,ag,p)∈chk)
  (hfull:∀q,q<suf.length->∀p,p<n+1+q->(pre.getD p ⟨.mkB,none⟩).i.pure=true\/(bs.getD (n+1+q) 0).testBit p=true)
  (hoks:sU (Src.ev env VS) ss)
  (htr:Y.tr f (gL (Src.ev env VS) ss) ⟨nx+n,m⟩ fun d st'=>(∀c∈chk,(VS.getD c.1 .un).ok=true->wO st'.m c.2.1 (Src.ev env (VS.take c.1) c.2.2.2).d/\tS st'.m c.2.1 c.2.2.1 (Src.ev env (VS.take c.1) c.2.2.2).d=(VS.getD c.1 .un).d)/\
    nx+n<=st'.nx/\dZ Y true suf env (VS++[⟨true,d⟩]) ⟨st'.nx-n,st'.m⟩ K)
  {x:X} (hx:Step x0 x) (hs:eG C.ν x (look m)) (hf:eC ⟨nx+n,m⟩ x)
  (hK:∀vs' st' a' x',K vs' st'->vs'.length=ops.size->nP C env (ops.toList.map (·.dst)) vs' (· <ops.size) a' x'->Step x0 x'->eG C.ν x' (look st'.m)->eC st' x'->Q .normal a' x'.w):
  ∀(fuel:Nat) (listed:Array Bool) (a:Act),listed.size=ops.size->(∀p,n<=p->listed.getD p false=false)->(∀j,listed.getD j false=true->∀p,(bs.getD j 0).testBit p=true->listed.getD p false=true)->
   nP C env (ops.toList.map (·.dst)) VS (fun p=>listed.getD p false=true) a x->HY ops.size listed<=fuel->wpAny C.P .any ops Q fuel listed a x.w:=by
 have hsz:ops.size=n+1+suf.length:=by have:=hsp.len;simp[hl,hn]at this;omega
 intro fuel;induction fuel with
 |zero=>
  intro listed a hls hnl hcl hmid hcnt;exfalso;have h0:(List.range ops.size).filter (fun p=>!listed.getD p false)=[]:=iO (Nat.le_zero.1 hcnt);rw[List.filter_eq_nil_iff]at h0;have:=h0 n eo;rw[hnl n (aE _)]at this;exact this rfl
 |succ fuel ih=>
  intro listed a hls hnl hcl hmid hcnt;refine⟨fun hr=>?_,fun i hi=>?_⟩
  .have:=xI ho hls hr n ae;rw[hnl n (aE _)]at this;cases this
  obtain⟨h1,o,h2,hed⟩:=mem_ready.1 hi;have hil:i<ops.size:=(Array.getElem?_eq_some_iff.1 h2).1;have his:i<listed.size:=ae;have hni:listed.getD i false=false:=by simp only[Array.getD,his,dif_pos]at h1⊢;exact h1
  have ho':ops.toList[i]? =some o:=by simpa using h2
  have hreads:∀t p,t∈tmpsOf ops.toList o->(ops.toList.map (·.dst))[p]? =some (some t)->(p<i->listed.getD p false=true)/\(i<=p->¬listed.getD p false=true):=by
   intro t p ht hp;rw[List.getElem?_map,cW]at hp;obtain⟨op,hp1,hp2⟩:=hp;rcases ho.reads i p o op t ho' hp1 hp2 ht with rfl|hb
   .exact⟨fun h=>ae,fun _=>by rw[hni];simp⟩
   .by_cases hpi:p=i
    .subst hpi;exact⟨fun h=>ae,fun _=>by rw[hni];simp⟩
    .exact uA ho hcl h2 hni hed hb hpi
  have hready:∀p,(bs.getD i 0).testBit p=true->listed.getD p false=true:=by
   intro p hp;obtain⟨e',e1,e2,e3⟩:=ho.bef i o ho' p hp;rcases e3 with rfl|e3
   .exact hed e' e1 e2
   .exact hcl _ (hed e' e1 e2) p e3
  have hclosed:∀j,(listed.setIfInBounds i true).getD j false=true->∀p,(bs.getD j 0).testBit p=true->(listed.setIfInBounds i true).getD p false=true:=by
   intro j hj p hp;rw[dP his]at hj⊢;by_cases e:p=i
   .rw[aw e]
   .rw[ai e];by_cases ej:j=i
    .subst ej;exact hready p hp
    .rw[ai ej]at hj;exact hcl j hj p hp
  have hcnt':HY ops.size (listed.setIfInBounds i true)<=fuel:=by have:=yp hls hil hni;omega
  obtain⟨g,g1,g2,g3⟩:=hop i o ho';rcases cQ i n with hin|hin
  .rw[hl,List.getElem?_append_left ae]at g1;obtain⟨v1,v2,v3⟩:=lU i g g1;exact xG (N:=nx+i) (μ:=m) hΓ h2 g2 g3 (fun t ht=>hdst i o t h2 ht) (hpu _ (List.mem_of_getElem? g1)) hmid hs his hreads v1 v2 v3
    (fun a' hm=>ih _ a' (by simp[hls]) (fun p hp=>by rw[dP his,ai ae];exact hnl p hp) hclosed hm hcnt')
  .obtain rfl:i=n:=by
    rcases cQ n i with h|h
    .exfalso;have hb:=hfull (i-(n+1)) ae n ae;rw[show n+1+(i-(n+1))=i by omega]at hb;rcases hb with hb|hb
     .rw[show pre.getD n ⟨.mkB,none⟩=⟨.mkB,none⟩by simp[List.getD,List.getElem?_eq_none (show pre.length<=n by omega)]]at hb;simp[aG.pure]at hb
     .have:=hready _ hb;rw[hnl n (aE _)]at this;cases this
    .omega
   rw[hl,List.getElem?_append_right ae,hn,Nat.sub_self,List.getElem?_cons_zero]at g1;obtain rfl:=bg g1;have c2:o.guard=none:=by
    cases hgg:o.guard with
    |none=>rfl
    |some jw=>
     rw[hgg]at g3;obtain⟨j,w⟩:=jw;simp only[CC.guard]at g3;split at g3<;>simp at g3
   have hdd:(ops.toList.map (·.dst))[i]? =some o.dst:=by rw[List.getElem?_map,ho',Option.map_some]
   have hvt:VS.take i=VS:=iq ae;have hρ:pI C ((ops.toList.map (·.dst)).take i) (Src.ev env VS) a.eval x o.op.operands.toList:=by
    have:=hmid.Se (i:=i) (os:=o.op.operands.toList) fun t p ht hp=>hreads t p (List.mem_append_left _ (List.mem_filterMap.2 ⟨.tmp t,ht,rfl⟩)) hp
    rwa [hvt]at this
   unfold wpOp;simp only[h2];have hw:Region.wanted o (yielded ops a.tmps)=true:=by simp[Region.wanted,c2]
   rw[aw hw];left;refine(Aq (st:=⟨nx+i,m⟩) (fun _=>rfl) hΓ g2 hρ hoks hs hf htr).wp (fun v x' hG=>?_);obtain⟨d,st',⟨hck,hnx,hw'⟩,hst1,hrd,hs1,hf1⟩:=hG;have hmid':nP C env (ops.toList.map (·.dst)) (VS++[⟨true,d⟩]) (fun p=>(listed.setIfInBounds i true).getD p false=true) (a.put o.dst v) x':=by
    have hext:nP C env (ops.toList.map (·.dst)) (VS++[⟨true,d⟩]) (fun p=>listed.getD p false=true) a x:=by
     have hlt:∀p,listed.getD p false=true->(VS++[(⟨true,d⟩:b8)]).getD p .un=VS.getD p .un:=fun p hp=>by
      have hlt:p<i:=by
       rcases cQ p i with h|h
       .exact h
       .rw[hnl p h]at hp;cases hp
      exact ext_get ae
     exact⟨fun p t hp e ho=>by rw[hlt p hp]at ho⊢;exact hmid.val p t hp e ho,fun p t hp e ho=>by rw[hlt p hp]at ho;exact hmid.und p t hp e ho,hmid.old,hmid.size,hmid.defers⟩
    have he:(VS++[(⟨true,d⟩:b8)]).getD i .un=⟨true,d⟩:=by rw[df,ai ae];simp[hVS]
    refine hext.put (i:=i) hst1.le hdd (fun t ht=>hdst i o t h2 ht) (fun _=>by rw[he];exact hrd) (fun h=>by rw[he]at h;cases h) (fun p=>?_);rw[dP his];by_cases e:p=i
    .simp[e]
    .simp[e]
   refine B9 hΓ hsp hl hn ho hVS hop hdst hpu hsuf lU hchk hfull hK fuel 0 _ _ x' _ ⟨st'.nx-i,st'.m⟩ (by simp[hls]) (fun p hp hp2=>?_) (Nat.zero_le _) hclosed (by simp[hVS]) (by rw[H4 ae];exact hvt) hmid' (hx.trans hst1) hs1 (hf1.up (by simp only;omega)) (by simpa using DX hsuf hw') (fun _=>hck) hcnt';rw[dP his];split
   .rename_i e;subst e;simp
   .rename_i e;rw[hnl p hp];simp;omega
end
def At:∀(ops:List Oper) (ds:List (Option Nat)) (l:List GI),C.ops ds ops=some l->∀(i:Nat) (o:Oper),ops[i]? =some o->∃g,l[i]? =some g/\C.op (ds++(ops.map (·.dst)).take i) o=some g.i/\CC.guard (ds++(ops.map (·.dst)).take i) o.guard=some g.g
 |[],_,_,_,i,o,h=>by simp at h
 |q::r,ds,l,hc,i,o,h=>by
  simp only[CC.ops]at hc;split at hc
  .rename_i i0 g0 l' h1 h2 h3;split at hc
   .obtain rfl:=bg hc;cases i with
    |zero=>
     simp only[List.getElem?_cons_zero,aZ]at h;subst h;exact⟨_,rfl,by simpa using h1,by simpa using h2⟩
    |succ i=>
     simp only[List.getElem?_cons_succ]at h;obtain⟨g,e1,e2,e3⟩:=At r _ l' h3 i o h;exact⟨g,by simpa using e1,by simpa using e2,by simpa using e3⟩
   .cases hc
  .cases hc
def Lw {ops:List Oper}{l:List GI}(h:C.ops [] ops=some l)(i:Nat)(o:Oper)(ho:ops[i]? =some o):∃g,l[i]? =some g/\C.op ((ops.map (·.dst)).take i) o=some g.i/\CC.guard ((ops.map (·.dst)).take i) o.guard=some g.g:=by
 simpa using At ops [] l h i o ho
def Ae {ops:List Oper}{l l':List GI}(h:B8 ops l=some l'):∃pre f ss suf,l=pre++⟨.callM f ss,none⟩::suf/\l'=pre++⟨.callL f ss (sH ((jB [] ops).getD pre.length 0) 0 pre),none⟩::suf/\
  (∀g∈pre,g.i.pure=true\/g.i.wN=true)/\(∀g∈suf,g.g=none/\g.i.cB=false)/\oY ops (jB [] ops)=true/\mW 0 ops=true/\
  ∀q,q<suf.length->∀p,p<pre.length+1+q->(pre.getD p ⟨.mkB,none⟩).i.pure=true\/((jB [] ops).getD (pre.length+1+q) 0).testBit p=true:=by
 unfold B8 at h;simp only at h;generalize List.findIdx (fun g:GI=>g.i.cB) l=n at h;split at h
 .rename_i f ss suf hd;split at h
  .rename_i hh;simp only[bm,List.all_eq_true,List.mem_range,en,eB,Option.isNone_iff_eq_none]at hh;obtain⟨a1,a2,a3,a4,a5⟩:=hh;obtain rfl:=bg h;have hn:n<l.length:=by
    rcases cQ n l.length with h|h
    .exact h
    .rw[mf h]at hd;cases hd
   have hl:(l.take n).length=n:=eo;refine⟨l.take n,f,ss,suf,by rw[<-hd,List.take_append_drop],by rw[hl],a1,a2,a3,a4,fun q hq p hp=>?_⟩;rw[hl]at hp⊢;exact a5 q hq p hp
  .cases h
 .cases h
def uD {b:Nat}:∀{pre:List GI}{p i k:Nat}{ag:Bool}{s:Src}{gd:Option (Nat×Bool)},pre[i]? =some ⟨.ld k ag s,gd⟩->b.testBit (p+i)=true\/(p+i,k,ag,s)∈sH b p pre
 |[],_,i,_,_,_,_,h=>by simp at h
 |⟨g,gg⟩::r,p,0,k,ag,s,gd,h=>by
  simp only[List.getElem?_cons_zero,aZ,GI.mk.injEq]at h;obtain⟨rfl,rfl⟩:=h;simp only[sH,Nat.add_zero];cases hb:b.testBit p
  .right;simp
  .left;rfl
 |⟨g,gg⟩::r,p,i+1,k,ag,s,gd,h=>by
  simp only[List.getElem?_cons_succ]at h;have:=uD (b:=b) (p:=p+1) h;rw[show p+1+i=p+(i+1)by omega]at this;refine this.imp id fun h=>?_
  cases g<;>simp only[sH]<;>try exact h
  split
  .exact h
  .exact .tail _ h
def Av {ops:List Oper}(h1:oY ops (jB [] ops)=true)(h4:mW 0 ops=true):Order ops (List.replicate ops.length ⟨.mv (.c .any),none⟩) (jB [] ops):=by
 obtain⟨b1,b2,b3⟩:=rB ops [];simp only[bK,aO]at b2 b3;refine⟨fun j o hj p hp=>?_,fun j o hj e he hb=>by simpa using mX ops 0 h4 j o hj e he hb,fun j p oj op t hj hp hd ht=>?_,fun j i gj gi hj hi hc hpu hmk=>?_⟩
 .rw[b3 j o hj]at hp;obtain⟨e,e1,e2,e3⟩:=mM _ _ _ hp;refine⟨e,by simpa using e1,e2,e3.imp id fun h=>?_⟩;by_cases hlt:e.on<j
  .rwa [getD_take _ _ _ _ hlt]at h
  .simp only[List.getD,List.getElem?_take,hlt,aL,Option.getD_none,Nat.zero_testBit]at h;cases h
 .have hjl:j<ops.length:=(List.getElem?_eq_some_iff.1 hj).1;have hpl:p<ops.length:=(List.getElem?_eq_some_iff.1 hp).1;simp only[oY,List.all_eq_true,List.mem_range]at h1;have:=h1 j hjl p hpl;simp only[hj,hp,hd,en,beq_iff_eq,eB,List.contains_eq_mem,dA]at this;rcases this with(h|h)|h
  .exact .inl h
  .exact absurd ht h
  .exact .inr h
 .rw[List.getElem?_replicate]at hj;split at hj
  .obtain rfl:=bg hj;cases hc
  .cases hj
end
end
section
variable [dq]
section
variable {C:CC} {Y:Ctx}
structure Inv (C:CC)(a:Act)(x:X)(env:List b8)(st:St):Prop where
 len:env.length=C.slots.length
 env:∀n t:Nat,C.slots[n]? =some t->(env.getD n .un).ok=true->RD C.ν x (a.tmps.getD t undef) (env.getD n .un).d
 size:a.tmps.size=C.ntmps
 defers:a.defers=[]
 lv:eG C.ν x (look st.m)
 fresh:eC st x
def Inv.Ki {a:Act}{x:X}{env:List b8}{st:St}(h:Inv C a x env st)(DD:List (Option Nat))(VS:List b8){D:Nat->Prop}(hD:∀p,¬D p):nP C env DD VS D a x:=
 ⟨fun p t hp=>absurd hp (hD p),fun p t hp=>absurd hp (hD p),fun n t hn _ ho=>h.env n t hn ho,h.size,h.defers⟩
def uE (vs:List b8):∀(cm:List (Nat×Nat)) (env:List b8),(fT env vs cm).length=env.length
 |[],env=>rfl
 |(s,p)::r,env=>by simp only[fT];rw[uE vs r];simp
def xh {α:Type}(l:List α)(i j:Nat)(v d:α)(h:i<l.length):(l.set i v).getD j d=if j=i then v else l.getD j d:=by
 grind
def pO (hnd:C.slots.Nodup)(vs:List b8):∀(ops:List Oper) (p:Nat) (env:List b8) (n t:Nat),C.slots[n]? =some t->env.length=C.slots.length->
  ((∀(j:Nat) (o:Oper),ops[j]? =some o->o.dst≠some t)->(fT env vs (C.fe p ops)).getD n .un=env.getD n .un)/\
  (∀(j:Nat) (o:Oper),ops[j]? =some o->o.dst=some t->(∀(j':Nat) (o':Oper),ops[j']? =some o'->o'.dst=some t->j'=j)->(fT env vs (C.fe p ops)).getD n .un=vs.getD (p+j) .un)
 |[],p,env,n,t,hn,hl=>⟨fun _=>rfl,fun j o h=>by simp at h⟩
 |o::r,p,env,n,t,hn,hl=>by
  have hnl:n<C.slots.length:=(List.getElem?_eq_some_iff.1 hn).1;cases hb:o.dst.bind (tk C.slots)with
  |none=>
   have e:C.fe p (o::r)=C.fe (p+1) r:=by simp[CC.fe,hb]
   rw[e];obtain⟨a1,a2⟩:=pO hnd vs r (p+1) env n t hn hl;have hne:o.dst≠some t:=fun e=>by rw[e,Option.bind_some,yw _ _ _ hnd hn]at hb;cases hb
   refine⟨fun h=>a1 fun j o' hj=>h (j+1) o' (by simpa using hj),fun j o' hj hd hu=>?_⟩;cases j with
   |zero=>simp at hj;subst hj;exact absurd hd hne
   |succ j=>
    rw[show p+(j+1)=p+1+j by omega];exact a2 j o' (by simpa using hj) hd fun j' o'' hj' hd'=>by have:=hu (j'+1) o'' (by simpa using hj') hd';omega
  |some s=>
   have e:C.fe p (o::r)=(s,p)::C.fe (p+1) r:=by simp[CC.fe,hb]
   rw[e];simp only[fT];obtain⟨t',ht',hs⟩:=Option.bind_eq_some_iff.1 hb;have hsl:=mw _ _ _ hs;have hslen:s<env.length:=by rw[hl];exact(List.getElem?_eq_some_iff.1 hsl).1
   obtain⟨a1,a2⟩:=pO hnd vs r (p+1) (env.set s (vs.getD p .un)) n t hn (by simpa using hl);have hst:s=n↔t'=t:=by
    constructor
    .rintro rfl;rw[hsl]at hn;exact bg hn
    .rintro rfl;have:=yw _ _ _ hnd hn;rw[hs]at this;exact bg this
   refine⟨fun h=>?_,fun j o' hj hd hu=>?_⟩
   .have hne:t'≠t:=fun e=>h 0 o bh (by rw[ht',e])
    rw[a1 fun j o' hj=>h (j+1) o' (by simpa using hj),xh _ _ _ _ _ hslen,ai (fun e=>hne (hst.1 e.symm))]
   .cases j with
    |zero=>
     simp at hj;subst hj;have ht:t'=t:=by rw[ht']at hd;exact bg hd
     rw[a1 fun j o' hj hd'=>by have:=hu (j+1) o' (by simpa using hj) hd';omega,xh _ _ _ _ _ hslen,aw (hst.2 ht).symm];simp
    |succ j=>
     rw[show p+(j+1)=p+1+j by omega];exact a2 j o' (by simpa using hj) hd fun j' o'' hj' hd'=>by have:=hu (j'+1) o'' (by simpa using hj') hd';omega
def oS (hnd:C.slots.Nodup){ops:Array Oper}{l:List GI}(hsp:Spec C ops.toList l){env VS:List b8}{a:Act}{x:X}{st:St}(hlen:env.length=C.slots.length)(hm:nP C env (ops.toList.map (·.dst)) VS (· <ops.size) a x)
  (hs:eG C.ν x (look st.m)) (hf:eC st x):Inv C a x (fT env VS (C.fe 0 ops.toList)) st:=by
 refine⟨by rw[uE];exact hlen,fun n t hn ho=>?_,hm.size,hm.defers,hs,hf⟩;obtain⟨c1,c2⟩:=pO hnd VS ops.toList 0 env n t hn hlen;by_cases hw:∃j:Nat,(ops.toList.map (·.dst))[j]? =some (some t)
 .obtain⟨j,hj⟩:=hw;have hj':=hj;rw[List.getElem?_map,cW]at hj';obtain⟨o,ho1,ho2⟩:=hj';have e:=c2 j o ho1 ho2 fun j' o' h1 h2=>hsp.distinct hj (by rw[List.getElem?_map,h1,Option.map_some,h2])
  rw[aO]at e;rw[e]at ho⊢;have hjl:j<ops.size:=by simpa using(List.getElem?_eq_some_iff.1 ho1).1
  exact hm.val j t hjl hj ho
 .have hw':∀j:Nat,(ops.toList.map (·.dst))[j]? ≠some (some t):=fun j e=>hw ⟨j,e⟩
  rw[c1 fun j o h1 h2=>hw' j (by rw[List.getElem?_map,h1,Option.map_some,h2])]at ho⊢;exact hm.old n t hn (fun p _=>hw' p) ho
def H3 {a:Act}{x:X}{env:List b8}{st:St}(h:Inv C a x env st){c:Operand}{s:Src}(hc:C.src [] c=some s)(hok:(s.ev env []).ok=true):RD C.ν x (a.eval c) (s.ev env []).d:=
 ((h.Ki [] [] (D:=fun _=>False) (fun _ h=>h)).Se (i:=0) (os:=[c]) (fun t p _ hp=>by simp at hp)) c (.head _) s (by simpa using hc) (by simpa using hok)
def Ex.of:Ex->Exit
 | .normal=>.normal
 | .exit id=>.exit id
 | .ret=>.ret
def Post (C:CC)(Q:Ex->List b8->St->Prop)(x0:X):Exit->Act->World->Prop:=fun e a w=>∃e' x' env' st',Ex.of e'=e/\x'.w=w/\Step x0 x'/\Inv C a x' env' st'/\Q e' env' st'
def Inv.weak {a:Act}{x:X}{env env':List b8}{nx:Nat}{m m':List (Nat×bM)}(h:Inv C a x env ⟨nx,m⟩)(hl:Oe env env')(hm:JR m m'):Inv C a x env' ⟨nx,m'⟩:=by
 have hle:∀(e e':List b8),Oe e e'->e'.length=e.length/\∀n,e'.getD n .un=e.getD n .un\/e'.getD n .un=.un:=by
  intro e;induction e with
  |nil=>intro e' h;cases e'<;>simp_all[Oe]
  |cons b r ih=>
   intro e' h;cases e' with
   |nil=>simp[Oe]at h
   |cons b' r'=>
    simp only[Oe]at h;obtain⟨i1,i2⟩:=ih r' h.2;refine⟨by simp[i1],fun n=>?_⟩;cases n with
    |zero=>simpa using h.1
    |succ n=>simpa using i2 n
 have hsub:∀(m':List (Nat×bM)),JR m m'->∀l b,look m' l=some b->look m l=some b:=by
  intro m';induction m' with
  |nil=>intro _ l b h;simp[look]at h
  |cons p r ih=>
   grind [JR,look]
 obtain⟨l1,l2⟩:=hle env env' hl;refine⟨l1.trans h.len,fun n t hn ho=>?_,h.size,h.defers,h.lv.less fun l=>?_,h.fresh.β,fun l hl'=>?_⟩
 .rcases l2 n with e|e
  .rw[e]at ho⊢;exact h.env n t hn ho
  .rw[e];exact .any _
 .cases hl':look m' l with
  |none=>exact .inr (.inl rfl)
  |some b=>exact .inl (hsub m' hm l b hl').symm
 .cases hl2:look m' l with
  |none=>exact absurd hl2 hl'
  |some b=>exact h.fresh.m l (by show look m l≠none;rw[hsub m' hm l b hl2];simp)
theorem tG.cells {d d':D}(h:tG d d'):d'.cells.length=d.cells.length/\∀j,tG (d.cells.getD j .any) (d'.cells.getD j .any):=by
 cases h with
 |refl=>exact⟨rfl,fun j=>.refl _⟩
 |nil k=>exact⟨rfl,fun j=>by match j with
  |0=>exact .nil k
  |j+1=>exact .refl _⟩
 |agg a b hl h=>exact⟨hl,h⟩
 |sl k a b hl h=>exact⟨rfl,fun j=>by match j with
  |0=>exact .sl k a b hl h
  |j+1=>exact .refl _⟩
def tG.bc {d d':D}(h:tG d d')(hn:d.bc=true):d'.bc=true:=by
 induction h with
 |refl=>exact hn
 |nil k=>rfl
 |agg a b hl h ih=>exact ot fun i _=>ih i (cD hn i)
 |sl k a b hl h ih=>rfl
def RD.wk {ν:List (Nat×Nat)}{x:X}{v:Value}{d d':D}(hv:RD ν x v d)(hw:tG d d'):RD ν x v d':=by
 induction hv generalizing d' with
 |agg cs ds hl h1 h ih=>
  cases hw with
  |refl=>exact .agg cs ds hl h1 h
  |agg _ b hl2 h2=>exact .agg cs b (hl.trans hl2.symm) (fun i hi=>h1 i ae) (fun i hi=>ih i ae (h2 i))
 |sl a b off len cap k es c hlen ha hcap hm hk hn hc h1 h ih=>
  cases hw with
  |refl=>exact .sl a b off len cap k es c hlen ha hcap hm hk hn hc h1 h
  |sl _ _ es' hl2 h2=>
   refine .sl a b off len cap k es' c (hlen.trans hl2.symm) (ha.imp (fun e=>iO (by rw[hl2,e];rfl)) id) hcap hm (fun i hi=>(h2 i).cells.1.trans (hk i hi)) (fun i hi=>(h2 i).bc (hn i hi)) hc h1 (fun i j hi hj=>ih i j hi hj ((h2 i).cells.2 j))
 |aB=>
  cases hw with
  |refl=>exact .aB
  |nil k=>exact .sl none 0 0 0 0 k [] (fun _ _=>undef) rfl (.inl rfl) (aE _) (Nat.zero_le _) (fun i hi=>ae) (fun i hi=>ae) (fun i j hi=>ae) (fun i j hi=>ae) (fun i j hi=>ae)
 |any v=>cases hw;exact .any v
 |bool b=>cases hw;exact .bool b
 |int k n=>cases hw;exact .int k n
 |str s h=>cases hw;exact .str s h
 |tup cs ds hl h ih=>cases hw;exact .tup cs ds hl h
 |ref b off k i o at_ es c hI hat hk hn hc h1 h ih=>cases hw;exact .ref b off k i o at_ es c hI hat hk hn hc h1 h
 |ptr l k i o b base tot at_ hβ hat=>cases hw;exact .ptr l k i o b base tot at_ hβ hat
 |own l k i n b base tot cap a hβ ha hcap hm ht=>cases hw;exact .own l k i n b base tot cap a hβ ha hcap hm ht
 |own0 l k i a=>cases hw;exact .own0 l k i a
 |nilp=>cases hw;exact .nilp
 |fn fid n cs ds hν hl h ih=>cases hw;exact .fn fid n cs ds hν hl h
 |dW fid n fs ds hν hl h ih=>cases hw;exact .dW fid n fs ds hν hl h
 |mp r es cl ds hI hh hl h ih=>cases hw;exact .mp r es cl ds hI hh hl h
 |bx b at_ ds v hI hc h1 hl h ih=>cases hw;exact .bx b at_ ds v hI hc h1 hl h
 |ifc t n v ds hν hn hl h ih=>cases hw;exact .ifc t n v ds hν hn hl h
 |ifn=>cases hw;exact .ifn
 |zp a=>cases hw;exact .zp a
 |nilf=>cases hw;exact .nilf
 |it l b base tot hβ=>cases hw;exact .it l b base tot hβ
def lO.wk {ν:List (Nat×Nat)}{x:X}{b base tot:Nat}{blk blk':bM}(h:lO ν x b base tot blk)(hw:Pd blk blk'):lO ν x b base tot blk':=by
 match blk,blk',hw with
 | .buf k es,.buf k' es',hw=>
  obtain⟨rfl,hl,h2⟩:=hw;obtain⟨p1,p2,c,T,fr,p3,p4,p5,p6⟩:=h;refine⟨p1,ae,c,T,fr,p3,p4,p5,fun i hi=>⟨(h2 i).cells.1.trans (p6 i ae).1,fun j hj=>⟨((p6 i ae).2 j hj).1,((p6 i ae).2 j hj).2.wk ((h2 i).cells.2 j)⟩⟩⟩
 | .buf k es,.iter s p,hw=>cases hw
 | .buf k es,.row s,hw=>cases hw
 | .buf k es,.bld o n u,hw=>cases hw
 | .iter s p,b',hw=>simp only[Pd]at hw;subst hw;exact h
 | .row s,b',hw=>simp only[Pd]at hw;subst hw;exact h
 | .bld o n u,b',hw=>simp only[Pd]at hw;subst hw;exact h
def Inv.nz {a:Act}{x:X}{env env':List b8}{nx:Nat}{m m':List (Nat×bM)}(h:Inv C a x env ⟨nx,m⟩)(hl:MA env env')(hm:kl m m'):Inv C a x env' ⟨nx,m'⟩:=by
 have hle:∀(e e':List b8),MA e e'->e'.length=e.length/\∀n,(e'.getD n .un).ok=(e.getD n .un).ok/\tG (e.getD n .un).d (e'.getD n .un).d:=by
  intro e;induction e with
  |nil=>
   intro e' h;cases e' with
   |nil=>exact⟨rfl,fun n=>⟨rfl,.refl _⟩⟩
   |cons _ _=>exact h.elim
  |cons b r ih=>
   intro e' h;cases e' with
   |nil=>exact h.elim
   |cons b' r'=>
    obtain⟨i1,i2⟩:=ih r' h.2;refine⟨by simp[i1],fun n=>?_⟩;cases n with
    |zero=>simpa using h.1
    |succ n=>simpa using i2 n
 have hsub:∀(m':List (Nat×bM)),kl m m'->∀l b',look m' l=some b'->∃b,look m l=some b/\Pd b b':=by
  intro m';induction m' with
  |nil=>intro _ l b h;simp[look]at h
  |cons p r ih=>
   obtain⟨l0,b0⟩:=p;intro hs l b h;simp only[look]at h;split at h
   .rename_i e;subst e;obtain rfl:=bg h;exact hs.1
   .exact ih hs.2 l b h
 obtain⟨l1,l2⟩:=hle env env' hl;have live:∀l,look m' l≠none->look m l≠none:=fun l hl'=>by
  cases hl2:look m' l with
  |none=>exact absurd hl2 hl'
  |some b=>obtain⟨b0,q1,_⟩:=hsub m' hm l b hl2;rw[q1];simp
 refine⟨l1.trans h.len,fun n t hn ho=>?_,h.size,h.defers,⟨fun l blk b base tot e1 e2=>?_,fun l l' b base tot base' tot' e1 e2 e3 e4=>h.lv.inj l l' b base tot base' tot' (live l e1) (live l' e2) e3 e4,h.lv.imm,h.lv.dW,h.lv.gd⟩,h.fresh.β,fun l hl'=>h.fresh.m l (live l hl')⟩
 .obtain⟨q1,q2⟩:=l2 n;rw[q1]at ho;exact(h.env n t hn ho).wk q2
 .obtain⟨b0,q1,q2⟩:=hsub m' hm l blk e1;obtain⟨o1,o2⟩:=h.lv.own l b0 b base tot q1 e2;exact⟨o1,o2.wk q2⟩
def F7 (l k:Nat)(es:List D)(d:D):(er l k es d).cells.length=d.cells.length/\∀j,(er l k es d).cells.getD j .any=er l k es (d.cells.getD j .any):=by
 cases d
 case agg cs=>exact⟨by simp[er,D.cells,eI],fun j=>by simp only[er,D.cells];exact iw l k es cs j⟩
 case own l' k' i n=>
  grind [er,D.cells]
 case ptr l' k' i o=>
  grind [er,D.cells]
 all_goals exact⟨by simp[er,D.cells],fun j=>by cases j<;>simp[er,D.cells]⟩
def DA (l k:Nat)(es:List D):∀e:List b8,(gp l k es e).length=e.length
 |[]=>rfl
 |⟨ok,d⟩::r=>by simp[gp,DA l k es r]
def zU (l k:Nat)(es:List D):∀(e:List b8) (i:Nat),(gp l k es e).getD i .un=⟨(e.getD i .un).ok,er l k es (e.getD i .un).d⟩
 |[],i=>by simp[gp,er,b8.un]
 |⟨ok,d⟩::r,0=>by simp[gp]
 |⟨ok,d⟩::r,i+1=>by simpa[gp]using zU l k es r i
def Ad (l k:Nat)(es:List D)(l':Nat):∀m:List (Nat×bM),look (gy l k es m) l'=(look m l').map (gY l k es)
 |[]=>rfl
 |(a,b)::r=>by
  simp only[gy,look];split
  .rfl
  .exact Ad l k es l' r
def Inv.G9 {a:Act}{x:X}{env:List b8}{nx:Nat}{m:List (Nat×bM)}(h:Inv C a x env ⟨nx,m⟩)(l:Nat):∃x':X,x'.w=x.w/\Step x x'/\Inv C a x' (Abs.G9 l (env,m)).1 ⟨nx,(Abs.G9 l (env,m)).2⟩:=by
 have hsame:∃x':X,x'.w=x.w/\Step x x'/\Inv C a x' env ⟨nx,m⟩:=⟨x,rfl,.refl x,h⟩
 simp only[Abs.G9];split
 .rename_i k es hlk;cases hn:aV es with
  |false=>exact hsame
  |true=>
   simp only[cond_true]
   let x':X:=⟨x.w,fun b=>x.I b\/∃p,x.β l=some p/\p.1=b,x.β⟩
   have hle:Le x x':=⟨fun _ h=>.inl h,fun _ _=>rfl,fun _ _ h=>h⟩;have ho:∀b base tot,x.β l=some (b,base,tot)->x'.I b/\(∀i,i<es.length->(es.getD i .any).cells.length=k)/\∃c:Nat->Nat->Value,∀i j,i<es.length->j<k->
     x'.w.cell? ⟨b,base+i*k+j,none⟩=some (c i j)/\(c i j).oneCell'=true/\RD C.ν x' (c i j) ((es.getD i .any).cells.getD j .any):=by
    intro b base tot hβ;obtain⟨o1,o2,o3,c,T,fr,o4,o5,o6,o7⟩:=h.lv.own l _ b base tot hlk hβ;refine⟨.inr ⟨_,hβ,rfl⟩,fun i hi=>(o7 i hi).1,fun i j=>c.getD (base+i*k+j) undef,fun i j hi hj=>⟨?_,((o7 i hi).2 j hj).1,((o7 i hi).2 j hj).2.mono hle⟩⟩;exact cell_of_heap o4 (by have:=gO (tot:=tot) (show i<tot by omega) hj;omega)
   have hrd:∀{v:Value} {d:D},RD C.ν x v d->RD C.ν x' v (er l k es d):=fun hv=>hv.fz hle hn ho
   refine⟨x',rfl,⟨rfl,rfl,rfl,aE _,fun _ h=>.inl h,fun _ _=>rfl,fun _ _ h=>h,fun _ _ _=>rfl,fun b hb=>?_,fun _ _ h=>.inl h⟩, ?_⟩
   .rcases hb with hb|⟨p,h1,h2⟩
    .exact .inl hb
    .exact .inr (.inr ⟨l,p,h1,h2⟩)
   .have hlook:∀l',look (gy l k es (ct m l)) l'=if l'=l then none else(look m l').map (gY l k es):=fun l'=>by
     rw[Ad,gu];split<;>rfl
    refine⟨by rw[DA];exact h.len,fun n t hn' hok=>?_,h.size,h.defers,⟨fun l' blk b base tot e1 e2=>?_,fun l1 l2 b base tot base' tot' e1 e2 e3 e4=>?_,fun b hb=>?_,h.lv.dW,qM hle h.lv.gd⟩,⟨h.fresh.β,fun l' hl'=>?_⟩⟩
    .rw[zU]at hok⊢;exact hrd (h.env n t hn' hok)
    .simp only[hlook]at e1;split at e1
     .cases e1
     .rename_i hne;rw[cW]at e1;obtain⟨blk0,e3,rfl⟩:=e1;obtain⟨o1,o2⟩:=h.lv.own l' blk0 b base tot e3 e2;refine⟨?_, ?_⟩
      .rintro(hb|⟨⟨b',base',tot'⟩,h1,h2⟩)
       .exact o1 hb
       .simp only at h2;subst h2;exact hne (h.lv.inj l' l b' base tot base' tot' (by simp only;rw[e3];simp) (by simp only;rw[hlk];simp) e2 h1)
      .cases blk0 with
       |iter s pos=>exact o2
       |row s=>exact o2
       |bld o n u=>exact o2
       |buf k' es'=>
        obtain⟨p1,p2,c,T,fr,p3,p4,p5,p6⟩:=o2;refine⟨p1,by rw[eI];exact p2,c,T,fr,p3,p4,p5,fun i hi=>?_⟩;rw[eI]at hi;obtain⟨q1,q2⟩:=F7 l k es (es'.getD i .any);rw[iw,q1];refine⟨(p6 i hi).1,fun j hj=>⟨((p6 i hi).2 j hj).1, ?_⟩⟩;rw[q2];exact hrd ((p6 i hi).2 j hj).2
    .simp only[hlook]at e1 e2;refine h.lv.inj l1 l2 b base tot base' tot' ?_ ?_ e3 e4
     .intro e;simp[e]at e1
     .intro e;simp[e]at e2
    .rcases hb with hb|⟨⟨b',base',tot'⟩,h1,h2⟩
     .exact h.lv.imm b hb
     .simp only at h2;subst h2;exact h.lv.dW l _ _ _ h1
    .simp only[hlook]at hl';refine h.fresh.m l' ?_;intro e;simp only at e;simp[e]at hl'
 .exact hsame
theorem gR {lo:Nat}{σ:List (Nat×Nat)}:∀{ds ds':List D},iA lo σ ds=some ds'->ds'.length=ds.length/\∀i,i<ds.length->kv lo σ (ds.getD i .any)=some (ds'.getD i .any)
 |[],ds',h=>by simp[iA]at h;subst h;exact⟨rfl,fun i hi=>by simp at hi⟩
 |d::r,ds',h=>by
  simp only[iA]at h;split at h
  .rename_i d' r' h1 h2;simp only[aZ]at h;subst h;obtain⟨a1,a2⟩:=gR h2
   grind
  .cases h
theorem ll {lo:Nat}{σ:List (Nat×Nat)}{l:Nat}{f:Nat->D}{d:D}(h:rr lo σ l f=some d):∃l',fH lo σ l=some l'/\d=f l':=by
 grind [rr]
def q7 {lo c:Nat}:∀{σ:List (Nat×Nat)}{l l':Nat},eU lo c σ=true->fH lo σ l=some l'->l'<c/\(l<lo/\l'=l\/lo<=l'/\(l,l')∈σ)
 |[],l,l',h0,h=>by
  unfold fH at h;simp only[eU,Nat.ble_eq]at h0;cases hb:Nat.blt l lo<;>simp only[hb,cond_true,cond_false,reduceCtorEq,aZ]at h;have:l<lo:=by simp[Nat.blt]at hb;omega
  subst h;exact⟨ae,.inl ⟨this,rfl⟩⟩
 |(a,b)::r,l,l',h0,h=>by
  unfold fH at h;simp only[eU,bm,Nat.ble_eq]at h0;obtain⟨p2,p3,p4,p5⟩:=h0;have p3:b<c:=by simp[Nat.blt]at p3;omega
  cases hq:Nat.beq a l<;>simp only[hq,cond_true,cond_false,aZ]at h
  .obtain⟨q1,q2⟩:=q7 p5 h
   grind
  .have:=Nat.eq_of_beq_eq_true hq;subst this;subst h;exact⟨p3,.inr ⟨p2,.head _⟩⟩
def oH {lo c:Nat}:∀{σ:List (Nat×Nat)}{a b:Nat},eU lo c σ=true->(a,b)∈σ->b<c
 |[],a,b,_,h=>by cases h
 |p::r,a,b,h0,h=>by
  simp only[eU,bm,Nat.blt,Nat.ble_eq]at h0;rcases dx.1 h with rfl|h
  .have:=h0.2.1;simp only at this;omega
  .exact oH h0.2.2.2 h
theorem zw {lo c:Nat}:∀{σ:List (Nat×Nat)}{a a' b b':Nat},eU lo c σ=true->(a,b)∈σ->(a',b')∈σ->(b=b'->a=a')
 |[],a,a',b,b',_,h,_=>by cases h
 |(a0,b0)::r,a,a',b,b',h0,h1,h2=>by
  simp only[eU,bm,List.all_eq_true,eB]at h0;obtain⟨_,_,p4,p5⟩:=h0;intro e;rcases dx.1 h1 with h1|h1<;>rcases dx.1 h2 with h2|h2
  .simp only[ea]at h1 h2;omega
  .have:=(p4 _ h2).2;simp only[ea]at h1;obtain⟨rfl,rfl⟩:=h1;subst e;simp at this
  .have:=(p4 _ h1).2;simp only[ea]at h2;obtain⟨rfl,rfl⟩:=h2;subst e;simp at this
  .exact zw p5 h1 h2 e
def j6:List (Nat×Nat)->Nat->Option Nat
 |[],_=>none
 |(a,b)::r,l=>if b=l then some a else j6 r l
def j7:∀{σ:List (Nat×Nat)}{l a:Nat},j6 σ l=some a->(a,l)∈σ
 |[],l,a,h=>by cases h
 |(a0,b0)::r,l,a,h=>by
  simp only[j6]at h;split at h
  .grind
  .exact .tail _ (j7 h)
def tR {lo c:Nat}:∀{σ:List (Nat×Nat)}{l a:Nat},eU lo c σ=true->(a,l)∈σ->j6 σ l=some a
 |[],l,a,_,h=>by cases h
 |(a0,b0)::r,l,a,h0,h=>by
  simp only[j6];split
  .grind [zw]
  .rename_i e;rcases dx.1 h with h|h
   .grind
   .simp only[eU,bm]at h0;exact tR h0.2.2.2 h
def xK {lo:Nat}{σ:List (Nat×Nat)}{d d':D}(h:kv lo σ d=some d'):d'.cells.length=d.cells.length/\∀j,j<d.cells.length->kv lo σ (d.cells.getD j .any)=some (d'.cells.getD j .any):=by
 cases d
 case agg cs=>
  simp only[kv]at h;split at h
  .rename_i cs' h1;obtain rfl:=bg h;exact gR h1
  .cases h
 case tup cs=>
  simp only[kv]at h;split at h
  .obtain rfl:=bg h;exact⟨rfl,fun j hj=>by simp[D.cells]at hj⟩
  .cases h
 case fn f cs=>
  grind [kv,D.cells]
 case own l k i n=>
  grind [kv,ll,D.cells]
 case ptr l k i n=>
  grind [kv,ll,D.cells]
 case it l=>
  grind [kv,ll,D.cells]
 all_goals
  have h0:=h;simp only[kv,aZ]at h;subst h;exact⟨rfl,fun j hj=>by simp[D.cells]at hj<;>(subst hj;simpa[D.cells]using h0)⟩
theorem RD.rn {ν:List (Nat×Nat)}{x x':X}{lo:Nat}{σ:List (Nat×Nat)}(hw:x'.w=x.w)(hI:x'.I=x.I)(hβ:∀l l',fH lo σ l=some l'->x'.β l'=x.β l){v:Value}{d:D}(h:RD ν x v d):∀d',kv lo σ d=some d'->RD ν x' v d':=by
 have hk:∀b,x.I b->x'.w.heap[b]? =x.w.heap[b]? :=fun _ _=>by rw[hw]
 have hI':∀b,x.I b->x'.I b:=fun b h=>by rw[hI];exact h
 induction h with
 |any v=>intro d' h;obtain rfl:=bg h;exact .any v
 |bool b=>intro d' h;obtain rfl:=bg h;exact .bool b
 |int k n=>intro d' h;obtain rfl:=bg h;exact .int k n
 |str s h0=>intro d' h;obtain rfl:=bg h;exact .str s h0
 |aB=>intro d' h;obtain rfl:=bg h;exact .aB
 |nilp=>intro d' h;obtain rfl:=bg h;exact .nilp
 |nilf=>intro d' h;obtain rfl:=bg h;exact .nilf
 |sl a b off len cap k' es' c hlen ha hcap hm hk' hn' hc h1 h _=>
  intro d' h2;obtain rfl:=bg h2;exact(RD.sl a b off len cap k' es' c hlen ha hcap hm hk' hn' hc h1 h).bc rfl hI' hk
 |ref b off k' i o at_ es' c hI0 hat hk' hn' hc h1 h _=>
  intro d' h2;obtain rfl:=bg h2;exact(RD.ref b off k' i o at_ es' c hI0 hat hk' hn' hc h1 h).bc rfl hI' hk
 |agg cs ds hl' h1 _ ih=>
  intro d' h;simp only[kv]at h;split at h
  .rename_i cs' h2;obtain rfl:=bg h;obtain⟨a1,a2⟩:=gR h2;exact .agg cs cs' ae (fun i hi=>h1 i ae) fun i hi=>ih i ae _ (a2 i ae)
  .cases h
 |tup cs ds hl' _ ih=>
  intro d' h;simp only[kv]at h;split at h
  .rename_i cs' h2;obtain rfl:=bg h;obtain⟨a1,a2⟩:=gR h2;exact .tup cs cs' ae fun i hi=>ih i ae _ (a2 i ae)
  .cases h
 |fn fid n cs ds hν hl' _ ih=>
  intro d' h;simp only[kv]at h;split at h
  .rename_i cs' h2;obtain rfl:=bg h;obtain⟨a1,a2⟩:=gR h2;exact .fn fid n cs cs' hν ae fun i hi=>ih i ae _ (a2 i ae)
  .cases h
 |dW fid n cs ds hν hl' _ ih=>
  grind [kv,gR,dW]
 |mp r es cl ds hI0 hh hl' _ ih=>
  intro d' h;simp only[kv]at h;split at h
  .rename_i cs' h2;obtain rfl:=bg h;obtain⟨a1,a2⟩:=gR h2;exact .mp r es cl cs' (hI' _ hI0) ((hk _ hI0).trans hh) ae fun i hi=>ih i ae _ (a2 i ae)
  .cases h
 |bx b at_ ds v hI0 hc h1 hl' _ ih=>
  intro d' h;simp only[kv]at h;split at h
  .rename_i cs' h2;obtain rfl:=bg h;obtain⟨a1,a2⟩:=gR h2;exact .bx b at_ cs' v (hI' _ hI0) (hJ (hk _ hI0) hc) h1 ae fun i hi=>ih i ae _ (a2 i ae)
  .cases h
 |ifc t n v ds hν hn hl' _ ih=>
  intro d' h;simp only[kv]at h;split at h
  .rename_i cs' h2;obtain rfl:=bg h;obtain⟨a1,a2⟩:=gR h2;exact .ifc t n v cs' hν hn ae fun i hi=>ih i ae _ (a2 i ae)
  .cases h
 |ifn=>intro d' h;simp only[kv,iA,aZ]at h;subst h;exact .ifn
 |zp a=>intro d' h;simp only[kv,iA,aZ]at h;subst h;exact .zp a
 |ptr l k i o b base tot at_ hb hat=>
  intro d' h;obtain⟨l',h1,rfl⟩:=ll h;exact .ptr l' k i o b base tot at_ ((hβ _ _ h1).trans hb) hat
 |own l k i n b base tot cap a hb ha hcap hm ht=>
  intro d' h;obtain⟨l',h1,rfl⟩:=ll h;exact .own l' k i n b base tot cap a ((hβ _ _ h1).trans hb) ha hcap hm ht
 |own0 l k i a=>
  intro d' h;obtain⟨l',h1,rfl⟩:=ll h;exact .own0 l' k i a
 |it l b base tot hb=>
  intro d' h;obtain⟨l',h1,rfl⟩:=ll h;exact .it l' b base tot ((hβ _ _ h1).trans hb)
def nQ:∀{ds ds':List D},BE ds ds'->ds'.length=ds.length/\∀i,i<ds.length->pw (ds.getD i .any) (ds'.getD i .any)
 |[],ds',h=>by simp only[BE]at h;subst h;exact⟨rfl,fun i hi=>by simp at hi⟩
 |d::r,ds',h=>by
  simp only[BE]at h;obtain⟨d',r',rfl,h1,h2⟩:=h;obtain⟨a1,a2⟩:=nQ h2
  grind
def w6 {d d':D}(h:pw d d'):d'.cells.length=d.cells.length/\∀j,j<d.cells.length->pw (d.cells.getD j .any) (d'.cells.getD j .any):=by
 cases d
 case agg a=>
  simp only[pw]at h;obtain⟨b,rfl,h⟩:=h;exact nQ h
 case aB=>
  grind [pw,D.cells]
 all_goals
  have h0:=h;simp only[pw]at h;obtain⟨rfl,hn⟩:=h;refine⟨rfl,fun j hj=>?_⟩;simp[D.cells]at hj;try(subst hj;simpa[D.cells]using h0)
theorem RD.nl {ν:List (Nat×Nat)}{x x':X}(hw:x'.w=x.w)(hI:x'.I=x.I){v:Value}{d:D}(h:RD ν x v d):∀d',pw d d'->RD ν x' v d':=by
 have hk:∀b,x.I b->x'.w.heap[b]? =x.w.heap[b]? :=fun _ _=>by rw[hw]
 have hI':∀b,x.I b->x'.I b:=fun b h=>by rw[hI];exact h
 induction h with
 |aB=>
  intro d' h2;simp only[pw]at h2;rcases h2 with rfl|⟨l,k,i,rfl⟩
  .exact .aB
  .exact .own0 l k i _
 |agg cs ds hl' h1 _ ih=>
  intro d' h;simp only[pw]at h;obtain⟨b,rfl,h⟩:=h;obtain⟨a1,a2⟩:=nQ h;exact .agg cs b ae (fun i hi=>h1 i ae) fun i hi=>ih i ae _ (a2 i ae)
 |any v=>intro d' h;simp only[pw]at h;rw[h.1];exact .any v
 |bool b=>intro d' h;simp only[pw]at h;rw[h.1];exact .bool b
 |int k n=>intro d' h;simp only[pw]at h;rw[h.1];exact .int k n
 |str s h0=>intro d' h;simp only[pw]at h;rw[h.1];exact .str s h0
 |tup cs ds hl' h0 _=>intro d' h;simp only[pw]at h;rw[h.1];exact(RD.tup cs ds hl' h0).bc h.2 hI' hk
 |sl a b off len cap k' es' c hlen ha hcap hm hk' hn' hc h1 h0 _=>
  intro d' h2;simp only[pw]at h2;rw[h2.1];exact(RD.sl a b off len cap k' es' c hlen ha hcap hm hk' hn' hc h1 h0).bc h2.2 hI' hk
 |ref b off k' i o at_ es' c hI0 hat hk' hn' hc h1 h0 _=>
  intro d' h2;simp only[pw]at h2;rw[h2.1];exact(RD.ref b off k' i o at_ es' c hI0 hat hk' hn' hc h1 h0).bc h2.2 hI' hk
 |nilp=>intro d' h;simp only[pw]at h;rw[h.1];exact .nilp
 |nilf=>intro d' h;simp only[pw]at h;rw[h.1];exact .nilf
 |fn fid n cs ds hν hl' h0 _=>intro d' h;simp only[pw]at h;rw[h.1];exact(RD.fn fid n cs ds hν hl' h0).bc h.2 hI' hk
 |dW fid n cs ds hν hl' h0 _=>intro d' h;simp only[pw]at h;rw[h.1];exact(RD.dW fid n cs ds hν hl' h0).bc h.2 hI' hk
 |mp r es cl ds hI hh hl' h0 _=>intro d' h;simp only[pw]at h;rw[h.1];exact(RD.mp r es cl ds hI hh hl' h0).bc h.2 hI' hk
 |bx b at_ ds v hI hc h1 hl' h0 _=>intro d' h;simp only[pw]at h;rw[h.1];exact(RD.bx b at_ ds v hI hc h1 hl' h0).bc h.2 hI' hk
 |ifc t n v ds hν hn hl' h0 _=>intro d' h;simp only[pw]at h;rw[h.1];exact(RD.ifc t n v ds hν hn hl' h0).bc h.2 hI' hk
 |ifn=>intro d' h;simp only[pw]at h;rw[h.1];exact .ifn
 |zp a=>intro d' h;simp only[pw]at h;rw[h.1];exact .zp a
 |ptr=>intro d' h;simp only[pw]at h;simp[D.bc]at h
 |own=>intro d' h;simp only[pw]at h;simp[D.bc]at h
 |own0=>intro d' h;simp only[pw]at h;simp[D.bc]at h
 |it=>intro d' h;simp only[pw]at h;simp[D.bc]at h
def zt {lo:Nat}{σ:List (Nat×Nat)}:∀{e e':List b8},aH lo σ e e'->e'.length=e.length/\∀n,(e'.getD n .un).ok=(e.getD n .un).ok/\KK lo σ (e.getD n .un).d (e'.getD n .un).d\/e'.getD n .un=.un
 |[],[],_=>⟨rfl,fun n=>.inr bh⟩
 |[],_::_,h=>h.elim
 |_::_,[],h=>h.elim
 |a::r,b::s,h=>by
  simp only[aH]at h;obtain⟨i1,i2⟩:=zt h.2;refine⟨by simp[i1],fun n=>?_⟩;cases n with
  |zero=>simpa using h.1
  |succ n=>simpa using i2 n
def zu {lo c:Nat}{σ:List (Nat×Nat)}{m:List (Nat×bM)}:∀{m':List (Nat×bM)},aD lo c σ m m'->∀l' b',look m' l'=some b'->(∃l b,fH lo σ l=some l'/\look m l=some b/\mK lo σ b b')\/(Nat.ble lo l'=true/\Nat.blt l' c=true/\σ.all (fun p=>!Nat.beq p.2 l')=true/\∃k,b'=.buf k [])
 |[],_,l',b',h=>by simp[look]at h
 |(l0,b0)::r,hh,l',b',h=>by
  simp only[aD]at hh;simp only[look]at h;split at h
  .grind
  .exact zu hh.2 l' b' h
def xl:∀{σ:List (Nat×Nat)}{l:Nat},σ.all (fun p=>!Nat.beq p.2 l)=true->j6 σ l=none
 |[],l,_=>rfl
 |(a,b)::r,l,h=>by
  simp only[List.all_cons,bm,eB]at h;simp only[j6];rw[ai (fun e=>by subst e;simp at h),xl h.2]
def Inv.ren {a:Act}{x0 x:X}{env env':List b8}{nx:Nat}{m m':List (Nat×bM)}{lo c:Nat}{σ:List (Nat×Nat)}(h:Inv C a x env ⟨nx,m⟩)(hs:Step x0 x)(hlo:∀l,lo<=l->x0.β l=none)(hok:eU lo c σ=true)(he:aH lo σ env env')(hm:aD lo c σ m m'):
  ∃x':X,x'.w=x.w/\Step x0 x'/\Inv C a x' env' ⟨c,m'⟩:=by
 let x':X:=⟨x.w,x.I,fun l'=>if l'<lo then x.β l' else(j6 σ l').bind x.β⟩
 have hβ:∀l l',fH lo σ l=some l'->x'.β l'=x.β l:=by
  intro l l' e;obtain⟨p1,p2⟩:=q7 hok e;rcases p2 with⟨p2,rfl⟩|⟨p3,p4⟩
  .simp only[x',aw p2]
  .simp only[x',ai (Nat.not_lt.2 p3),tR hok p4,Option.bind_some]
 have hβi:∀l' p,x'.β l'=some p->∃l,x.β l=some p:=by
  intro l' p e;simp only[x']at e;split at e
  .exact⟨l',e⟩
  .obtain⟨l,_,h2⟩:=Option.bind_eq_some_iff.1 e;exact⟨l,h2⟩
 have hrd:∀{v:Value} {d d':D},RD C.ν x v d->KK lo σ d d'->RD C.ν x' v d':=by
  intro v d d' hv hd;rcases hd with⟨rfl,hn⟩|hd|hd
  .exact hv.bc hn (fun _ h=>h) (fun _ _=>rfl)
  rotate_left
  .exact RD.nl (x:=x) (x':=x') rfl rfl hv _ hd
  .exact RD.rn (x:=x) (x':=x') rfl rfl hβ hv _ hd
 obtain⟨e1,e2⟩:=zt he;have hm1:=zu hm;have hm2:∀l' b' p,look m' l'=some b'->x'.β l'=some p->∃l b,fH lo σ l=some l'/\look m l=some b/\mK lo σ b b':=by
  intro l' b' p h1 h2;rcases hm1 l' b' h1 with h3|⟨q1,q2,q3,q4⟩
  .exact h3
  .have q1:lo<=l':=by simpa using q1
   simp only[x',ai (show ¬l'<lo by omega),xl q3,Option.bind_none]at h2;cases h2
 refine⟨x',rfl,⟨hs.os,hs.tape,hs.output,hs.size,hs.I,hs.keep,fun l p hp=>?_,hs.old,hs.newI,fun l' p hp=>?_⟩,⟨e1.trans h.len,fun n t hn ho=>?_,h.size,h.defers,⟨fun l' blk b base tot e3 e4=>?_,fun l1 l2 b base tot base' tot' e3 e4 e5 e6=>?_,h.lv.imm,fun l' b base tot e=>?_,dq.le x _ (fun _ h=>h) (fun _ _=>rfl) h.lv.gd⟩,⟨fun l' hl'=>?_,fun l' hl'=>?_⟩⟩⟩
 .have hl:l<lo:=by
   rcases cQ l lo with h1|h1
   .exact h1
   .rw[hlo l h1]at hp;cases hp
  simp only[x',aw hl];exact hs.β l p hp
 .obtain⟨l,hl⟩:=hβi l' p hp;rcases hs.newβ l p hl with h1|h1|h1
  .exact .inr (.inr ⟨l,p,h1,rfl⟩)
  .exact .inr (.inl h1)
  .exact .inr (.inr h1)
 .rcases e2 n with⟨q1,q2⟩|q
  .rw[q1]at ho;exact hrd (h.env n t hn ho) q2
  .rw[q];exact .any _
 .obtain⟨l,b0,q1,q2,q3⟩:=hm2 l' blk _ e3 e4;rw[hβ l l' q1]at e4;obtain⟨o1,o2⟩:=h.lv.own l b0 b base tot q2 e4;refine⟨o1, ?_⟩;cases b0 with
  |iter s p=>
   cases blk with
   |iter s' p'=>simp only[mK]at q3;obtain⟨rfl,rfl⟩:=q3;exact o2
   |_=>simp[mK]at q3
  |row s=>
   cases blk with
   |row s'=>simp only[mK]at q3;subst q3;exact o2
   |_=>simp[mK]at q3
  |bld o n u=>
   cases blk with
   |bld o' n' u'=>
    simp only[mK]at q3;obtain⟨q3,rfl,rfl⟩:=q3;obtain⟨p1,v,p2,p3⟩:=o2;refine⟨p1,v,p2, ?_⟩;cases o with
    |none=>simp only at q3;subst q3;exact p3
    |some l0=>
     obtain⟨l1,q4,rfl⟩:=q3;obtain⟨g,t,p4,p5,p6⟩:=p3;exact⟨g,t,p4,p5,by rw[hβ l0 l1 q4];exact p6⟩
   |_=>simp[mK]at q3
  |buf k es=>
   cases blk with
   |iter s' p'=>simp[mK]at q3
   |row s'=>simp[mK]at q3
   |bld o' n' u'=>simp[mK]at q3
   |buf k' es'=>
    simp only[mK]at q3;obtain⟨rfl,q3⟩:=q3;obtain⟨p1,p2,cc,T,fr,p3,p4,p5,p6⟩:=o2;rcases q3 with⟨rfl,hn⟩|q3|q3
    .exact⟨p1,p2,cc,T,fr,p3,p4,p5,fun i hi=>⟨(p6 i hi).1,fun j hj=>⟨((p6 i hi).2 j hj).1,((p6 i hi).2 j hj).2.bc (jJ (cD hn i) j) (fun _ h=>h) (fun _ _=>rfl)⟩⟩⟩
    rotate_left
    .obtain⟨r1,r2⟩:=nQ q3;refine⟨p1,ae,cc,T,fr,p3,p4,p5,fun i hi=>?_⟩;have hi':i<es.length:=ae;obtain⟨s1,s2⟩:=w6 (r2 i hi');refine⟨s1.trans (p6 i hi').1,fun j hj=>⟨((p6 i hi').2 j hj).1,hrd ((p6 i hi').2 j hj).2 (.inr (.inr (s2 j (by rw[(p6 i hi').1];exact hj))))⟩⟩
    .obtain⟨r1,r2⟩:=gR q3;refine⟨p1,ae,cc,T,fr,p3,p4,p5,fun i hi=>?_⟩;have hi':i<es.length:=ae;obtain⟨s1,s2⟩:=xK (r2 i hi');refine⟨s1.trans (p6 i hi').1,fun j hj=>⟨((p6 i hi').2 j hj).1,hrd ((p6 i hi').2 j hj).2 (.inr (.inl (s2 j (by rw[(p6 i hi').1];exact hj))))⟩⟩
 .cases f1:look m' l1 with
  |none=>simp only at e3;exact absurd f1 e3
  |some b1=>
   cases f2:look m' l2 with
   |none=>simp only at e4;exact absurd f2 e4
   |some b2=>
    obtain⟨l1',b1',q1,q2,_⟩:=hm2 l1 b1 _ f1 e5;obtain⟨l2',b2',r1,r2,_⟩:=hm2 l2 b2 _ f2 e6;rw[hβ _ _ q1]at e5;rw[hβ _ _ r1]at e6;have:=h.lv.inj l1' l2' b base tot base' tot' (by simp only;rw[q2];simp) (by simp only;rw[r2];simp) e5 e6;subst this;rw[q1]at r1;exact bg r1
 .obtain⟨l,hl⟩:=hβi l' _ e;exact h.lv.dW l b base tot hl
 .have hc:lo<=c:=by
   clear hβ hrd e2 hm2 he hm;induction σ with
   |nil=>simpa[eU]using hok
   |cons p r ih=>simp only[eU,bm,Nat.ble_eq,Nat.blt]at hok;omega
  have hl'':c<=l':=hl';simp only[x',ai (show ¬l'<lo by omega)];cases hi:j6 σ l' with
  |none=>rfl
  |some l=>
   have hmem:=j7 hi;have:=oH hok hmem;omega
 .cases f1:look m' l' with
  |none=>simp only at hl';exact absurd f1 hl'
  |some b1=>
   rcases hm1 l' b1 f1 with⟨l,b,q1,_⟩|⟨_,q2,_⟩
   .exact(q7 hok q1).1
   .simp only;simp[Nat.blt]at q2;omega
def Inv.ghost {a:Act}{x0:X}{lo:Nat}{env env':List b8}{st st':St}(hlo:∀l,lo<=l->x0.β l=none)(g:aP lo env st env' st'):∀{x:X},Inv C a x env st->Step x0 x->∃x':X,x'.w=x.w/\Step x0 x'/\Inv C a x' env' st':=by
 induction g with
 |refl env st=>intro x h hs;exact⟨x,rfl,hs,h⟩
 |G9 l env st=>
  intro x h hs;obtain⟨x',a1,a2,a3⟩:=Inv.G9 (nx:=st.nx) (m:=st.m) h l;exact⟨x',a1,hs.trans a2,a3⟩
 |ren σ c env env' nx m m' h0 he hm=>intro x h hs;exact h.ren hs hlo h0 he hm
 |wk env env' nx m m' he hm=>intro x h hs;exact⟨x,rfl,hs,h.weak he hm⟩
 |nz env env' nx m m' he hm=>intro x h hs;exact⟨x,rfl,hs,h.nz he hm⟩
 |trans env1 env2 env3 st1 st2 st3 g1 g2 ih1 ih2=>
  grind
def least {p:Nat->Prop}(h:∃n,p n):∃n,p n/\∀m,p m->n<=m:=by
 obtain⟨n,hn⟩:=h;induction n using Nat.strongRecOn with
 |_ n ih=>
  grind
def pN (hΓ:Ok C.P C.ν C.cC Y)(hnd:C.slots.Nodup)(hmix:C.P.follows .mixedOrders=true)(x0:X)(hlo:∀l,Y.lo<=l->x0.β l=none):∀(c:Code) (ac:AC),C.code c=some ac->∀(Q:Ex->List b8->St->Prop) (env:List b8) (st:St) (a:Act) (x:X),
  cr Y ac Q env st->Inv C a x env st->Step x0 x->c.wp C.P (Post C Q x0) a x.w:=by
 intro c;induction c with
 |skip=>
  intro ac hc Q env st a x hw hi hs;simp only[CC.code,aZ]at hc;subst hc;obtain⟨env,st,hgh,hw⟩:=hw;obtain⟨x,hxf,hs,hi⟩:=Inv.ghost hlo hgh hi hs;rw[<-hxf];exact wp_skip ⟨.normal,x,env,st,rfl,rfl,hs,hi,hw⟩
 |region id ops draw=>
  intro ac hc Q env st a x hw hi hs;simp only[CC.code]at hc;split at hc
  .rename_i l0 hl;cases draw with
   |false=>
    .simp only[gV,aL,aZ]at hc;subst hc;have hsp:=Spec.start hl;simp only[cr]at hw;obtain⟨env,st,hgh,hw⟩:=hw;obtain⟨x,hxf,hs,hi⟩:=Inv.ghost hlo hgh hi hs;rw[<-hxf];refine wp_region ?_;rw[List.range_eq_range'];refine D2 hsp hΓ (x0:=x0) (K:=fun vs st'=>Q .normal (fT env vs (C.fe 0 ops.toList)) st') (fun vs' st' a' x' hk _ hm hst hsm hfr=>?_) ops.size 0 [] st x a ae rfl (hi.Ki _ _ (fun p h=>ae)) hs hi.lv hi.fresh hw;exact⟨.normal,x',_,st',rfl,rfl,hst,oS hnd hsp hi.len hm hsm hfr,hk⟩
   |true=>
    simp only[aN]at hc;split at hc
    .rename_i hdo;simp only[aZ]at hc;subst hc;have hsp:=(Spec.start hl).kr (jB [] ops.toList);generalize kr (jB [] ops.toList) l0 0 l0=l at hsp hdo hw;simp only[cr]at hw;obtain⟨env,st,hgh,hw⟩:=hw;obtain⟨x,hxf,hs,hi⟩:=Inv.ghost hlo hgh hi hs;rw[<-hxf];have ho:=IX hdo;have hasm:∀g∈l,∀vs',g.i.yi true (Src.ev env vs'):=by
      intro g hg vs';refine BK fun s _ hS hok=>?_
      have:=hS rfl;obtain⟨n,rfl⟩:∃n,s=.s n:=by
       cases s<;>simp only[Src.DF]at this<;>first
        |exact⟨_,rfl⟩
        |cases this
      simp only[Src.ev]at hok⊢;by_cases hn:n<C.slots.length
      .exact⟨_,_,_,hi.env n C.slots[n] (by simp[hn]) hok⟩
      .refine⟨C.ν,x,undef, ?_⟩;have:env.getD n .un=.un:=by simp[List.getD,List.getElem?_eq_none (show env.length<=n by rw[hi.len];omega)]
       rw[this];exact .any _
     rcases Oj hdo with hnM|hlm
     .obtain⟨VS,M,tr,hM0,hk⟩:=ox hnM hasm hi.fresh.m hw;have hg:hH x.w {x.w with drawn:=x.w.drawn+1}:=⟨rfl,rfl,rfl,aE _,fun _ _=>rfl⟩
      let x1:X:=⟨{x.w with drawn:=x.w.drawn+1},x.I,x.β⟩
      have hst1:Step x x1:=Step.grow hg hi.lv.imm;have hs1:eG C.ν x1 (look st.m):=hi.lv.grow hg;refine wp_region_any hmix ?_;refine zM hsp ho hnM hΓ tr (x0:=x0) (fun a' x' hm hst hsm hfr=>?_) ops.size _ a x1 (look st.m) 0 ?_ ?_
      .exact⟨.normal,x',_,_,rfl,rfl,hst,oS hnd hsp hi.len hm hsm hfr,hk⟩
      .have hno:∀p,¬(Array.replicate ops.size false).getD p false=true:=fun p=>by
        simp[Array.getElem?_replicate];split<;>simp
       refine⟨?_,hs.trans hst1,hs1,bh,fun j hj=>absurd hj (hno j),fun l' hl' _=>hi.fresh.β l' hl',fun p g _ _=>⟨fun h=>absurd h (hno p),fun h=>ae⟩,fun l' hl'=>?_,fun q g _ _ _ h=>absurd h (hno q)⟩
       .have:=hi.Ki (ops.toList.map (·.dst)) VS (D:=fun p=>(Array.replicate ops.size false).getD p false=true) hno;exact⟨fun p t hp=>absurd hp (hno p),fun p t hp=>absurd hp (hno p),fun n t hn h1 h2=>(this.old n t hn h1 h2).mono hst1.le,this.size,this.defers⟩
       .have hlt:l'<st.nx:=by
         rcases cQ l' st.nx with h1|h1
         .exact h1
         .exact absurd (hi.fresh.β l' h1) hl'
        rw[show max 0 (l'+1-st.nx)=0 by omega,hM0]
      .unfold HY;exact eK (List.length_filter_le _ _) bh
     .obtain⟨l',suf,rfl,hsuf,hfull,hnM⟩:=B4 hlm;have hlen:l'.length+suf.length=ops.size:=by have:=hsp.len;simpa using this
      have hsz:ops.size=l'.length+suf.length:=hlen.symm;have hpl:(ops.extract 0 l'.length).toList=ops.toList.take l'.length:=bh;have hpz:(ops.extract 0 l'.length).size=l'.length:=eo;have hops:ops.toList=(ops.extract 0 l'.length).toList++ops.toList.drop l'.length:=by rw[hpl,List.take_append_drop]
      generalize ops.extract 0 l'.length=ps at hpl hpz hops;have hpop:∀j,j<l'.length->ps.toList[j]? =ops.toList[j]? :=fun j hj=>by rw[hpl,List.getElem?_take,aw hj]
      have hdd:∀j,j<l'.length->(ps.toList.map (·.dst))[j]? =(ops.toList.map (·.dst))[j]? :=fun j hj=>by
       rw[List.getElem?_map,List.getElem?_map,hpop j hj]
      have htk:∀j,j<=l'.length->(ps.toList.map (·.dst)).take j=(ops.toList.map (·.dst)).take j:=fun j hj=>by
       rw[hpl,List.map_take,List.take_take,Nat.min_eq_left hj]
      have hsp':Spec C ps.toList l':=by
       refine⟨by simpa using hpz.symm,fun i oi hoi=>?_,fun i oi d hoi hd=>?_⟩
       .have hi':i<l'.length:=by have:=(List.getElem?_eq_some_iff.1 hoi).1;simp at this;omega
        rw[hpop i hi']at hoi;obtain⟨g,g1,g2,g3⟩:=hsp.op i oi hoi;rw[List.getElem?_append_left hi']at g1;exact⟨g,g1,by rw[htk i ae];exact g2,by rw[htk i ae];exact g3⟩
       .have hi':i<l'.length:=by have:=(List.getElem?_eq_some_iff.1 hoi).1;simp at this;omega
        rw[hpop i hi']at hoi;obtain⟨h1,h2⟩:=hsp.dst i oi d hoi hd;exact⟨h1,fun p hp=>by rw[hdd p ae];exact h2 p hp⟩
      have ho':Order ps.toList l' (jB [] ops.toList):=Order.pre (os:=ops.toList.drop l'.length) (ls:=suf) (by rw[<-hops];exact ho);have hgd:∀(i:Nat) (o:Oper),ops[i]? =some o->∀j w,o.guard=some (j,w)->j<i:=by
       intro i oi hoi j w hj;obtain⟨g,_,_,g3⟩:=hsp.op i oi (by simpa using hoi);rw[hj]at g3;simp only[CC.guard]at g3;split at g3
       .rename_i t ht;have:=(List.getElem?_eq_some_iff.1 ht).1;simp only[fo]at this;omega
       .cases g3
      have hw':=vO l' [] st rfl hnM hw;obtain⟨VS,M,tr,hM0,hk⟩:=ox hnM (fun g hg=>hasm g (List.mem_append_left _ hg)) hi.fresh.m hw';have hVS:VS.length=l'.length:=tr.len;have hg:hH x.w {x.w with drawn:=x.w.drawn+1}:=⟨rfl,rfl,rfl,aE _,fun _ _=>rfl⟩
      let x1:X:=⟨{x.w with drawn:=x.w.drawn+1},x.I,x.β⟩
      have hst1:Step x x1:=Step.grow hg hi.lv.imm;have hs1:eG C.ν x1 (look st.m):=hi.lv.grow hg;refine wp_region_any hmix ?_;have hno:∀(n p:Nat),¬(Array.replicate n false).getD p false=true:=fun n p=>by
       simp[Array.getElem?_replicate];split<;>simp
      rw[hsz];refine w8 suf.length hsz bh ho hfull hgd a x1.w ?_;rw[show ops.extract 0 l'.length=ps by apply Array.ext';rw[hpl];simp];refine zM hsp' ho' hnM hΓ tr (x0:=x0) (fun a' x' hm hst hsm hfr=>?_) l'.length _ a x1 (look st.m) 0 ?_ ?_
      ·
       show wpOps C.P ops _ (List.range' l'.length suf.length) a' x'.w;have hk2:=JG hsuf hk;simp only at hk2;rw[show st.nx+l'.length-VS.length=st.nx by omega]at hk2;have hmid:nP C env (ops.toList.map (·.dst)) VS (· <l'.length) a' x':=by
        refine⟨fun p t hp h1 h2=>hm.val p t (by rw[hpz];exact hp) (by rw[hdd p hp];exact h1) h2,fun p t hp h1 h2=>hm.und p t (by rw[hpz];exact hp) (by rw[hdd p hp];exact h1) h2,fun n t hn h1 h2=>hm.old n t hn (fun p hp=>?_) h2,hm.size,hm.defers⟩;have hp':p<l'.length:=by have hp:p<ps.size:=hp;omega
        rw[hdd p hp'];exact h1 p hp'
       exact D2 hsp hΓ (x0:=x0) (K:=fun vs st'=>Q .normal (fT env vs (C.fe 0 ops.toList)) st') (fun vs' st' a' x' hk _ hm hst hsm hfr=>⟨.normal,x',_,st',rfl,rfl,hst,oS hnd hsp hi.len hm hsm hfr,hk⟩) suf.length l'.length VS ⟨st.nx,M l'.length⟩ x' a' hlen hVS hmid hst hsm hfr (by rw[List.drop_left];exact hk2)
      .refine⟨?_,hs.trans hst1,hs1,by simp[hpz],fun j hj=>absurd hj (hno _ j),fun l' hl' _=>hi.fresh.β l' hl',fun p g _ _=>⟨fun h=>absurd h (hno _ p),fun h=>ae⟩,fun l' hl'=>?_,fun q g _ _ _ h=>absurd h (hno _ q)⟩
       .have:=hi.Ki (ps.toList.map (·.dst)) VS (D:=fun p=>(Array.replicate l'.length false).getD p false=true) (hno _);exact⟨fun p t hp=>absurd hp (hno _ p),fun p t hp=>absurd hp (hno _ p),fun n t hn h1 h2=>(this.old n t hn h1 h2).mono hst1.le,this.size,this.defers⟩
       .have hlt:l'<st.nx:=by
         rcases cQ l' st.nx with h1|h1
         .exact h1
         .exact absurd (hi.fresh.β l' h1) hl'
        rw[show max 0 (l'+1-st.nx)=0 by omega,hM0]
      .unfold HY;refine eK (List.length_filter_le _ _) (by simp[hpz])
    .simp only[cW]at hc;obtain⟨l',hlo',rfl⟩:=hc;obtain⟨pre,f,ss,suf,rfl,rfl,hpu,hsuf,hro,hed,hfull⟩:=Ae hlo';have hsp:=Spec.start hl;simp only[cr]at hw;obtain⟨env,st,hgh,hw⟩:=hw;obtain⟨x,hxf,hs,hi⟩:=Inv.ghost hlo hgh hi hs;rw[<-hxf];have ho:=Av hro hed;have hncm:∀g∈pre,g.i.cB=false:=fun g hg=>by
      rcases hpu g hg with h|h
      .obtain⟨gi,gg⟩:=g;cases gi<;>first|rfl|(simp[aG.pure]at h;done)
      .obtain⟨gi,gg⟩:=g;cases gi<;>first|rfl|(simp[aG.wN]at h;done)
     have hsz:ops.size=(pre.length+1)+suf.length:=by have:=hsp.len;simp at this;omega
     have hasm:∀g∈pre,∀vs',g.i.yi true (Src.ev env vs'):=by
      intro g hg vs';refine BK fun s _ hS hok=>?_
      have:=hS rfl;obtain⟨n,rfl⟩:∃n,s=.s n:=by
       cases s<;>simp only[Src.DF]at this<;>first
        |exact⟨_,rfl⟩
        |cases this
      simp only[Src.ev]at hok⊢;by_cases hn:n<C.slots.length
      .exact⟨_,_,_,hi.env n C.slots[n] (by simp[hn]) hok⟩
      .refine⟨C.ν,x,undef, ?_⟩;have:env.getD n .un=.un:=by simp[List.getD,List.getElem?_eq_none (show env.length<=n by rw[hi.len];omega)]
       rw[this];exact .any _
     have hw':=vO pre [] st rfl hncm hw;obtain⟨VS,M,tr,hM0,hk⟩:=ox hncm hasm hi.fresh.m hw';have hVS:VS.length=pre.length:=tr.len;have hMc:∀k,M k=st.m:=by
      intro k;induction k with
      |zero=>exact hM0
      |succ k ih=>
       cases hg:pre[k]? with
       |none=>rw[tr.stop k hg,ih]
       |some g=>
        rw[tr.step k g hg,ih];rcases hpu g (List.mem_of_getElem? hg)with h|h
        .exact Ax h
        .obtain⟨gi,gg⟩:=g;cases gi<;>first|rfl|(simp[aG.wN]at h;done)
     have hg:hH x.w {x.w with drawn:=x.w.drawn+1}:=⟨rfl,rfl,rfl,aE _,fun _ _=>rfl⟩
     let x1:X:=⟨{x.w with drawn:=x.w.drawn+1},x.I,x.β⟩
     have hst1:Step x x1:=Step.grow hg hi.lv.imm;have hs1:eG C.ν x1 (look st.m):=hi.lv.grow hg;refine wp_region_any hmix ?_;have hno:∀(n p:Nat),¬(Array.replicate n false).getD p false=true:=fun n p=>by
      simp[Array.getElem?_replicate];split<;>simp
     rw[hMc]at hk;simp only[dZ]at hk;obtain⟨_,k1,k2⟩:=hk;rw[show st.nx+pre.length-VS.length+VS.length=st.nx+pre.length by omega,hVS]at k2;refine Gd (n:=pre.length) (nx:=st.nx) (m:=st.m) (x0:=x0) hΓ hsp rfl rfl ho hVS (Lw hl) (fun i o t hoi ht=>?_) hpu hsuf (fun i g hgi=>?_) (fun i k ag p gd hgi=>by simpa using uD (b:=(jB [] ops.toList).getD pre.length 0) (p:=0) hgi) hfull k1
      (K:=fun vs st'=>Q .normal (fT env vs (C.fe 0 ops.toList)) st') ?_ (hs.trans hst1) hs1 ?_ (fun vs' st' a' x' hk _ hm hst hsm hfr=>⟨.normal,x',_,st',rfl,rfl,hst,oS hnd hsp hi.len hm hsm hfr,hk⟩) ops.size _ a bh (fun p _=>by simp[Array.getElem?_replicate];split<;>simp) (fun j hj=>absurd hj (hno _ j)) ?_ ?_
     .have hoi':ops.toList[i]? =some o:=by simpa using hoi
      obtain⟨h1,h2⟩:=hsp.dst i o t hoi' ht;exact⟨h1,fun p hp e=>hp (hsp.distinct (by rw[List.getElem?_map,hoi',Option.map_some,ht]) e)⟩
     .obtain⟨e1,e2⟩:=tr.ent i g hgi;refine⟨e1,tr.Ha i g hgi,fun hf=>?_⟩;have h1:=tr.dF i g hgi hf;have h2:=e2 hf;rw[hMc]at h1 h2;exact⟨h1,h2⟩
     .exact k2
     .exact⟨fun l' hl'=>hi.fresh.β l' (by have:st.nx+pre.length<=l':=hl';omega),fun l' hl'=>by have:=hi.fresh.m l' hl';simp only;omega⟩
     .have:=hi.Ki (ops.toList.map (·.dst)) VS (D:=fun p=>(Array.replicate ops.size false).getD p false=true) (hno _);exact⟨fun p t hp=>absurd hp (hno _ p),fun p t hp=>absurd hp (hno _ p),fun n t hn h1 h2=>(this.old n t hn h1 h2).mono hst1.le,this.size,this.defers⟩
     .unfold HY;exact eK (List.length_filter_le _ _) bh
  .cases hc
 |seq c1 c2 ih1 ih2=>
  intro ac hc Q env st a x hw hi hs;simp only[CC.code]at hc;split at hc
  .rename_i a1 a2 h1 h2;simp only[aZ]at hc;subst hc;simp only[cr]at hw;obtain⟨env,st,hgh,hw⟩:=hw;obtain⟨x,hxf,hs,hi⟩:=Inv.ghost hlo hgh hi hs;rw[<-hxf];refine wp_seq (wp_mono (ih1 a1 h1 _ env st a x hw hi hs) fun e a' w' hp=>?_);obtain⟨e',x',env',st',he,hxw,hst,hi',hq⟩:=hp;subst hxw;cases e' with
   |normal=>subst he;exact ih2 a2 h2 Q env' st' a' x' hq hi' hst
   |exit id=>subst he;exact⟨.exit id,x',env',st',rfl,rfl,hst,hi',hq⟩
   |ret=>subst he;exact⟨.ret,x',env',st',rfl,rfl,hst,hi',hq⟩
  .cases hc
 |cond c c1 c2 ih1 ih2=>
  intro ac hc Q env st a x hw hi hs;simp only[CC.code]at hc;split at hc
  .rename_i s a1 a2 h0 h1 h2;simp only[aZ]at hc;subst hc;simp only[cr]at hw;obtain⟨env,st,hgh,hw⟩:=hw;obtain⟨x,hxf,hs,hi⟩:=Inv.ghost hlo hgh hi hs;rw[<-hxf];obtain⟨hok,hw⟩:=hw;have hv:=H3 hi h0 hok;cases hd:(s.ev env []).d<;>simp only[hd]at hw;rename_i t;rw[hd]at hv;cases t with
   |true=>exact wp_cond_true hv.ir (ih1 a1 h1 Q env st a x (hw.1 rfl) hi hs)
   |false=>exact wp_cond_false hv.ir (ih2 a2 h2 Q env st a x (hw.2 rfl) hi hs)
  .cases hc
 |block id c1 ih=>
  intro ac hc Q env st a x hw hi hs;simp only[CC.code,cW]at hc;obtain⟨a1,h1,rfl⟩:=hc;simp only[cr]at hw;obtain⟨env,st,hgh,hw⟩:=hw;obtain⟨x,hxf,hs,hi⟩:=Inv.ghost hlo hgh hi hs;rw[<-hxf];refine wp_block (wp_mono (ih a1 h1 _ env st a x hw hi hs) fun e a' w' hp=>?_);obtain⟨e',x',env',st',he,hxw,hst,hi',hq⟩:=hp;subst hxw;cases e' with
  |normal=>subst he;exact⟨.normal,x',env',st',rfl,rfl,hst,hi',hq⟩
  |exit j=>
   subst he;simp only[Ex.of,Exit.inBlock];by_cases hj:j=id
   .rw[aw hj];simp only[hj,aN]at hq;exact⟨.normal,x',env',st',rfl,rfl,hst,hi',hq⟩
   .rw[ai hj];simp only[hj,aL]at hq;exact⟨.exit j,x',env',st',rfl,rfl,hst,hi',hq⟩
  |ret=>subst he;exact⟨.ret,x',env',st',rfl,rfl,hst,hi',hq⟩
 |loop c1 ih=>
  intro ac hc Q env st a x hw hi hs;simp only[CC.code,cW]at hc;obtain⟨a1,h1,rfl⟩:=hc;simp only[cr]at hw;obtain⟨env,st,hgh,hw⟩:=hw;obtain⟨x,hxf,hs,hi⟩:=Inv.ghost hlo hgh hi hs;rw[<-hxf];obtain⟨I,μ,hI,hround⟩:=hw
  let W:Act->World->Nat->Prop:=fun a w n=>∃env st x,x.w=w/\Step x0 x/\Inv C a x env st/\I env st/\μ env st=n
  open Classical in
  let μ':Act->World->Nat:=fun a w=>if h:∃n,W a w n then Classical.choose (least h)else 0
  refine wp_loop (fun a w=>∃n,W a w n) μ' ⟨_,env,st,x,rfl,hs,hi,hI,rfl⟩ fun a w hIn=>?_
  have hμ:μ' a w=Classical.choose (least hIn):=dif_pos hIn;obtain⟨env2,st2,x2,hxw,hst2,hi2,hI2,hmu⟩:=(Classical.choose_spec (least hIn)).1;subst hxw;refine wp_mono (ih a1 h1 _ env2 st2 a x2 (hround env2 st2 hI2) hi2 hst2) fun e a' w' hp=>?_
  obtain⟨e',x',env',st',he,hxw,hst,hi',hq⟩:=hp;subst hxw;cases e' with
  |normal=>
   subst he;obtain⟨env3,st3,hgh3,hI3,hlt⟩:=hq;obtain⟨x',hxf',hst,hi'⟩:=Inv.ghost hlo hgh3 hi' hst;rw[<-hxf'];have hW:W a' x'.w (μ env3 st3):=⟨env3,st3,x',rfl,hst,hi',hI3,rfl⟩;refine⟨⟨_,hW⟩, ?_⟩;have h2:μ' a' x'.w=Classical.choose (least (⟨_,hW⟩:∃n,W a' x'.w n)):=dif_pos ⟨_,hW⟩;rw[h2,hμ];exact Nat.lt_of_le_of_lt ((Classical.choose_spec (least (⟨_,hW⟩:∃n,W a' x'.w n))).2 _ hW) (by rw[<-hmu];exact hlt)
  |exit id=>subst he;exact⟨.exit id,x',env',st',rfl,rfl,hst,hi',hq⟩
  |ret=>subst he;exact⟨.ret,x',env',st',rfl,rfl,hst,hi',hq⟩
 |exit id=>
  intro ac hc Q env st a x hw hi hs;simp only[CC.code,aZ]at hc;subst hc;obtain⟨env,st,hgh,hw⟩:=hw;obtain⟨x,hxf,hs,hi⟩:=Inv.ghost hlo hgh hi hs;rw[<-hxf];exact wp_exit ⟨.exit id,x,env,st,rfl,rfl,hs,hi,hw⟩
 |ret=>
  intro ac hc Q env st a x hw hi hs;simp only[CC.code,aZ]at hc;subst hc;obtain⟨env,st,hgh,hw⟩:=hw;obtain⟨x,hxf,hs,hi⟩:=Inv.ghost hlo hgh hi hs;rw[<-hxf];exact wp_ret ⟨.ret,x,env,st,rfl,rfl,hs,hi,hw⟩
 |scope c1 ih=>
  intro ac hc Q env st a x hw hi hs;simp only[CC.code]at hc;refine wp_scope_straight (wp_mono (ih ac hc Q env st a x hw hi hs) fun e a' w' hp=>?_);obtain⟨e',x',env',st',he,hxw,hst,hi',hq⟩:=hp;subst he;cases e'<;>exact⟨_,x',env',st',rfl,hxw,hst,hi',hq⟩
 |label l=>
  intro ac hc Q env st a x hw hi hs;simp only[CC.code,aZ]at hc;subst hc;obtain⟨env,st,hgh,hw⟩:=hw;obtain⟨x,hxf,hs,hi⟩:=Inv.ghost hlo hgh hi hs;rw[<-hxf];exact wp_label ⟨.normal,x,env,st,rfl,rfl,hs,hi,hw⟩
 |_=>intro ac hc;simp[CC.code]at hc
end
end
section
variable [dq]
section
variable {C:CC} {Y:Ctx}
def Iw {P:Program}{ν:List (Nat×Nat)}{x:X}{f:Nat->Option bM}{m:List (Nat×bM)}{t:TypeId}{v:Value}{d:D}(hsm:∀fid n,dr ν fid=some n->n<1000000)(hn0:P.cellsOf t≠0)(hu:(P.underlying t).isNone=false)(h1':cx P t=false->P.cellsOf t=1)
  (hv:RD ν x v d) (k2:wO m (P.cellsOf t) d) (hs:eG ν x f) (hag:∀l,look m l≠none->f l=look m l):
  ∃ad u,v=.pointer (some ad)/\(loadVar t ad).run P x.w=.ok u x.w/\RD ν x u (tS m (P.cellsOf t) (cx P t) d):=by
 cases d<;>simp only[wO]at k2
 .rename_i k es i o';cases hv with
  |ref b off _ _ _ at_ _ c hI hat hk hn hcc hone hh=>
   obtain⟨v,r1,r2⟩:=m7 (P:=P) (ν:=ν) (x:=x) (e:=es.getD i .any) (k:=k) (n:=P.cellsOf t) (o:=o') (b:=b) (at0:=off+i*k) (ag:=cx P t) (ty:=t) (c:=c i) (hk i k2.1) k2.2
    (fun j hj=>⟨hcc i j k2.1 hj,hone i j k2.1 hj,hh i j k2.1 hj⟩) rfl hn0 hu rfl h1'
   grind [tS]
 .rename_i l k i o';cases hv with
  |ptr _ _ _ _ b base tot at_ hβ hat=>
   obtain⟨g1,g2,hnI,hk0,ht,c,T,fr,q1,q2,q3,q4⟩:=qB hs hag k2.1 hβ;have hi:i<(aW m l).length:=ae;obtain⟨v,r1,r2⟩:=m7 (P:=P) (ν:=ν) (x:=x) (e:=(aW m l).getD i .any) (k:=k) (n:=P.cellsOf t) (o:=o') (b:=b) (at0:=base+i*k) (ag:=cx P t) (ty:=t) (c:=fun j=>c.getD (base+i*k+j) undef)
    ((q4 i hi).1) k2.2
    (fun j hj=>⟨cell_of_heap q1 (by have:=gO (tot:=tot) (show i<tot by omega) hj;omega),((q4 i hi).2 j hj).1,((q4 i hi).2 j hj).2⟩) rfl hn0 hu rfl h1'
   grind [tS]
 .rename_i q es;obtain⟨hq2,e1,e2,e3⟩:=k2;cases hv with
  |mp=>exfalso;omega
  |ifc=>exfalso;omega
  |ifn=>exfalso;omega
  |zp=>exfalso;omega
  |fn fid _ cs ds hν=>exact absurd (hsm _ _ hν) ae
  |dW fid _ cs ds hν=>exact absurd (hsm _ _ hν) ae
  |bx b at_ _ v0 hI hc0 h1 hl hh=>
   obtain⟨v,r1,r2⟩:=m7 (P:=P) (ν:=ν) (x:=x) (e:=es.getD 0 .any) (k:=1) (n:=P.cellsOf t) (o:=0) (b:=b) (at0:=at_) (ag:=cx P t) (ty:=t) (c:=fun _=>v0) (by rw[e3];rfl) ae
    (fun j hj=>by obtain rfl:j=0:=ae;exact⟨hc0,h1,by rw[e3];exact hh 0 ae⟩) rfl hn0 hu rfl h1'
   exact⟨_,v,rfl,r1,by simpa only[tS]using r2⟩
def vR (a:Act):ResultVar->Sem Value
 | .tmp t=>pure (a.tmps.getD t undef)
 | .cell ad t=>do loadVar t (<-asAddr (a.tmps.getD ad undef))
def oA (hsm:∀fid n,dr C.ν fid=some n->n<1000000){a:Act}{x:X}{env:List b8}{st:St}(hi:Inv C a x env st):∀(rs:List ResultVar) (ars:List By),q6 C.P C.slots rs=some ars->oy st.m env ars->
  ∃vs,(rs.mapM (vR a)).run C.P x.w=.ok vs x.w/\vs.length=ars.length/\(nD st.m env ars).length=ars.length/\∀i,i<ars.length->RD C.ν x (vs.getD i undef) ((nD st.m env ars).getD i .any)
 |[],ars,h,_=>by simp[q6]at h;subst h;exact⟨[],bh,rfl,by simp[nD],fun i hi=>by simp at hi⟩
 | .tmp t::r,ars,h,ho=>by
  simp only[q6]at h;split at h
  .rename_i s l h1 h2;simp only[aZ]at h;subst h;simp only[oy]at ho;obtain⟨vs,b1,b2,b4,b3⟩:=oA hsm hi r l h2 ho.2.2;refine⟨a.tmps.getD t undef::vs,by simp[vR,b1],by simp[b2],by simp[nD,b4],fun i hil=>?_⟩;cases i with
   |zero=>simpa[nD,AO]using hi.env s t (mw _ _ _ h1) ho.1
   |succ i=>simpa[nD]using b3 i (by simpa using hil)
  .cases h
 | .cell t ty::r,ars,h,ho=>by
  simp only[q6]at h;split at h
  .rename_i s l h1 h2;split at h
   .cases h
   rename_i hce;simp only[aZ]at h;subst h;simp only[oy]at ho;obtain⟨vs,b1,b2,b4,b3⟩:=oA hsm hi r l h2 ho.2.2;have hu:(C.P.underlying ty).isNone=false:=by cases hn:(C.P.underlying ty).isNone with|false=>rfl|true=>exact absurd (.inr (.inl hn)) hce
   have h1':cx C.P ty=false->C.P.cellsOf ty=1:=fun e=>by
    rcases Nat.decEq (C.P.cellsOf ty) 1 with h|h
    .exact absurd (.inr (.inr ⟨e,h⟩)) hce
    .exact h
   obtain⟨ad,u,c1,c2,c3⟩:=Iw hsm (fun e=>hce (.inl e)) hu h1' (hi.env s t (mw _ _ _ h1) ho.1) ho.2.1 hi.lv (fun _ _=>rfl);refine⟨u::vs, ?_,by simp[b2],by simp[nD,b4],fun i hil=>?_⟩
   .have e:(vR a (.cell t ty)).run C.P x.w=.ok u x.w:=by simp only[vR,c1];simp[asAddr,c2]
    simp[List.mapM_cons,e,b1]
   .cases i with
    |zero=>simpa[nD,AO]using c3
    |succ i=>simpa[nD]using b3 i (by simpa using hil)
  .cases h
def CS (fn:Func)(a:Act):results fn a.tmps=(do
  let vs <-fn.results.mapM (vR a)
  pure (if h:vs.size=1 then vs[0]else .tuple vs)):=by
 unfold results;congr 1
def oz (hsm:∀fid n,dr C.ν fid=some n->n<1000000){a:Act}{x:X}{env:List b8}{st:St}(hi:Inv C a x env st){fn:Func}{af:aJ}(hr:q6 C.P C.slots fn.results.toList=some af.res)(ho:oy st.m env af.res):
  ∃v,(results fn a.tmps).run C.P x.w=.ok v x.w/\RD C.ν x v (jM af env st)/\(af.res.length≠1->∃cs,v=.tuple cs):=by
 obtain⟨vs,b1,b2,b4,b3⟩:=oA hsm hi _ _ hr ho;have hrun:(results fn a.tmps).run C.P x.w=.ok (if h:vs.length=1 then vs[0]else .tuple vs.toArray) x.w:=by
  rw[CS,Sem.run_bind,Array.mapM_eq_mapM_toList,Sem.run_map,b1];simp[Result.andThen]
 rcases hres:af.res with _|⟨r,_|⟨r2,rs⟩⟩
 .rw[hres]at b2 b3 b4;have h0:vs.length≠1:=by rw[b2];simp
  rw[dif_neg h0]at hrun;refine⟨_,hrun, ?_,fun _=>⟨_,rfl⟩⟩;simp only[jM,hres];refine .tup _ _ (by simp[b2,b4]) fun i hi=>?_
  have:=b3 i ae
  rwa [<-cw]
 .rw[hres]at b2 b3 b4;have h0:vs.length=1:=by rw[b2];rfl
  rw[dif_pos h0]at hrun;refine⟨_,hrun, ?_,fun h=>absurd rfl h⟩;simp only[jM,hres];have:=b3 0 bh;simp only[nD,gW]at this
  rwa [m4 _ _ _ ae]at this
 .rw[hres]at b2 b3 b4;have h0:vs.length≠1:=by rw[b2];simp
  rw[dif_neg h0]at hrun;refine⟨_,hrun, ?_,fun _=>⟨_,rfl⟩⟩;simp only[jM,hres];refine .tup _ _ (by simp[b2,b4]) fun i hi=>?_
  have:=b3 i ae
  rwa [<-cw]
def rI:∀(l acc:List Nat),∃r,dedup acc l=acc.reverse++r
 |[],acc=>⟨[],by simp[dedup]⟩
 |a::l,acc=>by
  simp only[dedup];split
  .exact rI l acc
  .obtain⟨r,h⟩:=rI l (a::acc);exact⟨a::r,by rw[h];simp⟩
def n4:∀(l acc:List Nat),acc.Nodup->(dedup acc l).Nodup
 |[],acc,h=>by simp only[dedup];exact List.pairwise_reverse.2 (h.imp fun h=>Ne.symm h)
 |a::l,acc,h=>by
  simp only[dedup];split
  .exact n4 l acc h
  .rename_i hn;exact n4 l (a::acc) (List.nodup_cons.2 ⟨by simpa using hn,h⟩)
def sJ (rest:List Nat):∀(n j:Nat),dedup (List.range j).reverse (List.range' j n++rest)=dedup (List.range (j+n)).reverse rest
 |0,j=>bh
 |n+1,j=>by
  rw[List.range'_succ,qq];simp only[dedup];rw[ai bh];have e:j::(List.range j).reverse=(List.range (j+1)).reverse:=by rw[List.range_succ];simp
  rw[e,sJ rest n (j+1)];congr 2;congr 1;omega
def lM (fn:Func):(slotsOf fn).Nodup/\fn.params.size+fn.nfree<=(slotsOf fn).length/\∀n,n<fn.params.size+fn.nfree->(slotsOf fn)[n]? =some n:=by
 refine⟨n4 _ _ List.nodup_nil, ?_⟩;have e:slotsOf fn=dedup (List.range (fn.params.size+fn.nfree)).reverse (oZ fn.results.toList++we (fn.body.getD .skip)):=by
  have:=sJ (oZ fn.results.toList++we (fn.body.getD .skip)) (fn.params.size+fn.nfree) 0;simp only[List.range_zero,List.reverse_nil,aO]at this;unfold slotsOf;rw[me,List.range_eq_range'];rw[this,List.range_eq_range']
 obtain⟨r,h⟩:=rI (oZ fn.results.toList++we (fn.body.getD .skip)) (List.range (fn.params.size+fn.nfree)).reverse
 grind
end
end
section
variable [dq]
section
variable {P:Program} {ν:List (Nat×Nat)} {cC:List Nat} {Y:Ctx}
def Ok.at (h:Ok P ν cC Y)(n:Nat):Ok P ν cC (Y.at n):=⟨h.small,h.bld,h.glz,h.pure,h.effF,h.cC⟩
def hO {fn:Func}{af:aJ}(hc:compile P ν cC fn=some af):
  ∃body,fn.body=some body/\CC.code {P,ν,cC,slots:=slotsOf fn,ntmps:=fn.ntmps,vm:=GY P fn} body=some af.body/\q6 P (slotsOf fn) fn.results.toList=some af.res/\
   fn.params.size+fn.nfree<=fn.ntmps/\af.np=fn.params.size+fn.nfree/\af.ns=(slotsOf fn).length:=by
 grind [compile]
def sA {fn:Func}{af:aJ}{x:X}{args:Array Value}{ds:List D}{st:St}(hnp:fn.params.size+fn.nfree<=fn.ntmps)(h1:af.np=fn.params.size+fn.nfree)(h2:af.ns=(slotsOf fn).length)(hl:args.size=ds.length)(hd:ds.length=af.np)
  (hargs:∀i,i<ds.length->RD ν x (args.getD i undef) (ds.getD i .any)) (hs:eG ν x (look st.m)) (hf:eC st x):
  Inv {P,ν,cC,slots:=slotsOf fn,ntmps:=fn.ntmps,vm:=GY P fn} {tmps:=args++Array.replicate (fn.ntmps-args.size) undef,defers:=[]} x (fZ af ds) st:=by
 obtain⟨s1,s2,s3⟩:=lM fn;refine⟨?_,fun n t hn ho=>?_,eo,rfl,hs,hf⟩
 .simp only[fZ,cK,aK,List.length_replicate];omega
 .simp only at hn;simp only[fZ]at ho⊢;rw[df]at ho⊢;simp only[aK]at ho⊢;by_cases h:n<ds.length
  .grind [kM]
  .rw[ai h];have:(List.replicate (af.ns-af.np) b8.un).getD (n-ds.length) .un=.un:=by
    simp only[List.getD,List.getElem?_replicate];split<;>rfl
   rw[this];exact .any _
def Ex.yH {e:Ex}(h:e.home):Ex.of e=.normal\/Ex.of e=.ret:=by
 cases e with
 |normal=>exact .inl rfl
 |exit id=>exact h.elim
 |ret=>exact .inr rfl
def K6 {fid:Nat}{fn:Func}{af:aJ}{d:D}(hΓ:Ok P ν cC Y)(hmix:P.follows .mixedOrders=true)(hf:P.funcs[fid]? =some fn)(hc:compile P ν cC fn=some af)
  {x:X} {args:Array Value} {ds:List D} (hl:args.size=ds.length) (hargs:∀i,i<ds.length->RD ν x (args.getD i undef) (ds.getD i .any)) (hnl:aV ds=true) (himm:∀b,x.I b->b<x.w.heap.size) (hgd:dq.gd x)
  (hnp:ds.length=af.np) (hw:cr (Y.at 0) af.body (fun e env st=>e.home/\oy st.m env af.res/\DY af env st/\LN af env st=d) (fZ af ds) ⟨0,[]⟩):
  Calls P fid args x.w fun
   | .returned v,w'=>∃x',x'.w=w'/\nR x x'/\RD ν x' v d
   |_,_=>False:=by
 obtain⟨body,c1,c2,c3,c4,c5,c6⟩:=hO hc
 let x0:X:=⟨x.w,x.I,fun _=>none⟩
 have hs0:eG ν x0 (look []):=⟨fun l blk b base tot h=>by simp[look]at h,fun l l' b base tot base' tot' h=>by simp[look]at h,himm,fun l b base tot h=>(by cases h),dq.le x _ (fun _ h=>h) (fun _ _=>rfl) hgd⟩;have hf0:eC ⟨0,[]⟩ x0:=⟨fun l _=>rfl,fun l h=>by simp[look]at h⟩;have hi:=sA (P:=P) (ν:=ν) (cC:=cC) (x:=x0) (st:=⟨0,[]⟩) c4 c5 c6 hl hnp (fun i hi=>(hargs i hi).bc (cD hnl i) (fun _ h=>h) (fun _ _=>rfl)) hs0 hf0;have hcs:=pN (C:={P,ν,cC,slots:=slotsOf fn,ntmps:=fn.ntmps,vm:=GY P fn}) (hΓ.at 0) (lM fn).1 hmix x0 (fun _ _=>rfl) body af.body c2 _ _ _ _ x0 hw hi (.refl _);refine calls_of_wp hf c1 (wp_mono hcs fun e a w' hp=>?_);obtain⟨e',x',env',st',he,hxw,hst,hi',hh,hro,hrpo,hrp⟩:=hp;subst hxw;obtain⟨v,r1,r2,r3⟩:=oz hΓ.small hi' c3 hro;have hI:∀b,(x'.kK (look st'.m)).I b->b<x'.w.heap.size:=by
  intro b hb;rcases hb with h|⟨l,⟨b',base,tot⟩,h1,h2,h3⟩
  .exact hi'.lv.imm b h
  .subst h2;exact hi'.lv.dW l _ _ _ h1
 have hnew:∀b,(x'.kK (look st'.m)).I b->x.I b\/x.w.heap.size<=b:=by
  intro b hb;rcases hb with h|⟨l,p,h1,h2,h3⟩
  .rcases hst.newI b h with h|h|⟨l,p,h,_⟩
   .exact .inl h
   .exact .inr h
   .cases h
  .subst h2;rcases hst.newβ l p h1 with h|h|⟨l',p',h,_⟩
   .cases h
   .exact .inr h
   .cases h
 have hps:nR x ⟨x'.w,(x'.kK (look st'.m)).I,x.β⟩:=
  ⟨⟨hst.os,hst.tape,hst.output,hst.size,fun b hb=>hst.old b hb fun l p h=>by cases h⟩,fun b hb=>.inl (hst.I b hb),hnew,hI,rfl⟩
 have hrd:RD ν ⟨x'.w,(x'.kK (look st'.m)).I,x.β⟩ v d:=by
  rw[<-hrp];have key:∀(v:Value) (d:D),RD ν (x'.kK (look st'.m)) v d->d.bc=true->RD ν ⟨x'.w,(x'.kK (look st'.m)).I,x.β⟩ v d:=fun v d h hn=>h.bc hn (fun _ h=>h) (fun _ _=>rfl)
  unfold jM at r2;unfold DY at hrpo;unfold LN;rcases hres:af.res with _|⟨r,_|⟨r2',rs⟩⟩
  .simp only[hres]at r2 hrpo⊢;generalize hvs:nD st'.m env' []=vs at r2 hrpo⊢;cases r2 with
   |tup cs _ hl' hh'=>
    obtain⟨q1,q2,q3⟩:=iI hi'.lv (fun _ _=>rfl) af.rsh vs (fun j=>cs.getD j undef) hh' hrpo;exact .tup cs _ (by rw[q1,hl']) fun i hi=>key _ _ (q3 i ae) (cD q2 i)
  .simp only[hres]at r2 hrpo⊢;obtain⟨q1,q2⟩:=qf hi'.lv (fun _ _=>rfl) _ _ _ r2 hrpo;exact key _ _ q1 q2
  .simp only[hres]at r2 hrpo⊢;generalize hvs:nD st'.m env' (r::r2'::rs)=vs at r2 hrpo⊢;cases r2 with
   |tup cs _ hl' hh'=>
    obtain⟨q1,q2,q3⟩:=iI hi'.lv (fun _ _=>rfl) af.rsh vs (fun j=>cs.getD j undef) hh' hrpo;exact .tup cs _ (by rw[q1,hl']) fun i hi=>key _ _ (q3 i ae) (cD q2 i)
 rcases Ex.yH hh with h|h<;>rw[h]at he<;>subst he<;>exact⟨hi'.defers,v,r1,⟨x'.w,(x'.kK (look st'.m)).I,x.β⟩,rfl,hps,hrd⟩
def K4 {fid:Nat}{fn:Func}{af:aJ}{vd sd:D}(hΓ:Ok P ν cC Y)(hmix:P.follows .mixedOrders=true)(hf:P.funcs[fid]? =some fn)(hc:compile P ν cC fn=some af)
  {x:X} {f:Nat->Option bM} {args:Array Value} {l k:Nat} {d:D} {ds:List D} (hl:args.size=ds.length+1) (h0:RD ν x (args.getD 0 undef) (.ptr l k 0 0)) (hargs:∀i,i<ds.length->RD ν x (args.getD (i+1) undef) (ds.getD i .any))
  (hs:eG ν x f) (hfl:f l=some (.buf k [d])) (hd:d.bc=true) (hnl:aV ds=true) (hnp:ds.length+1=af.np)
  (hw:cr (Y.at 1) af.body (fun e env st=>e.home/\oy st.m env af.res/\(jM af env st).bc=true/\jM af env st=vd/\look st.m 0=some (.buf k [sd])/\sd.bc=true) (fZ af (.ptr 0 k 0 0::ds)) ⟨1,[(0,.buf k [d])]⟩):
  Calls P fid args x.w fun
   | .returned v,w'=>∃x',x'.w=w'/\Step x x'/\RD ν x' v vd/\eG ν x' (fun l'=>if l'=l then some (.buf k [sd])else f l')/\x'.β=x.β
   |_,_=>False:=by
 obtain⟨body,c1,c2,c3,c4,c5,c6⟩:=hO hc;obtain⟨b,base,tot,hβ,ha0⟩:∃b base tot,x.β l=some (b,base,tot)/\args.getD 0 undef=.pointer (some ⟨b,base,none⟩):=by
  generalize args.getD 0 undef=v0 at h0;cases h0 with
  |ptr _ _ _ _ b base tot at_ hβ hat=>exact⟨b,base,tot,hβ,by simp[hat]⟩
 let x1:X:=⟨x.w,x.I,fun l'=>if l'=0 then x.β l else none⟩
 have hx1:∀l' p,x1.β l'=some p->l'=0/\p=(b,base,tot):=by
  intro l' p h;simp only[x1]at h;split at h
  .rename_i e;rw[hβ]at h;exact⟨e,(bg h).symm⟩
  .cases h
 have hx1':x1.β 0=some (b,base,tot):=by simp[x1,hβ]
 have key1:∀(v:Value) (d:D),RD ν x v d->d.bc=true->RD ν x1 v d:=fun v d h hn=>h.bc hn (fun _ h=>h) (fun _ _=>rfl)
 have hbR:=hs.own l _ b base tot hfl hβ;have hs1:eG ν x1 (look [(0,.buf k [d])]):=by
  refine⟨fun l' blk b' base' tot' e1 e2=>?_,fun l1 l2 b' base' tot' base'' tot'' e1 e2 e3 e4=>(hx1 _ _ e3).1.trans (hx1 _ _ e4).1.symm,hs.imm,fun l' b' base' tot' e=>?_,dq.le x _ (fun _ h=>h) (fun _ _=>rfl) hs.gd⟩
  .obtain⟨rfl,e3⟩:=hx1 _ _ e2;simp only[ea]at e3;obtain⟨rfl,rfl,rfl⟩:=e3;simp only[look,aN,aZ]at e1;subst e1;refine⟨hbR.1, ?_⟩;obtain⟨p1,p2,c,T,fr,p3,p4,p5,p6⟩:=hbR.2;refine⟨p1,p2,c,T,fr,p3,p4,p5,fun i hi=>⟨(p6 i hi).1,fun j hj=>⟨((p6 i hi).2 j hj).1,key1 _ _ ((p6 i hi).2 j hj).2 ?_⟩⟩⟩;have:i=0:=by simpa using hi
   subst this;exact jJ (by simpa using hd) j
  .obtain⟨_,e3⟩:=hx1 _ _ e;simp only[ea]at e3;rw[e3.1];exact hs.dW l b base tot hβ
 have hf1:eC ⟨1,[(0,.buf k [d])]⟩ x1:=⟨fun l' hl'=>by
   cases h:x1.β l' with
   |none=>rfl
   |some p=>have:=(hx1 _ _ h).1;simp only at hl';omega,fun l' hl'=>by
   simp only[look]at hl';split at hl'
   .rename_i e;simp only;omega
   .exact absurd rfl hl'⟩
 have hi:=sA (P:=P) (ν:=ν) (cC:=cC) (x:=x1) (ds:=.ptr 0 k 0 0::ds) (st:=⟨1,[(0,.buf k [d])]⟩) c4 c5 c6 (args:=args) (by simpa using hl) (by simpa using hnp) (fun i hi=>by
  cases i with
  |zero=>simp only[gW];rw[ha0];exact .ptr 0 k 0 0 b base tot base hx1' bh
  |succ i=>simp only[List.getD_cons_succ];exact key1 _ _ (hargs i (by simpa using hi)) (cD hnl i)) hs1 hf1
 have hcs:=pN (C:={P,ν,cC,slots:=slotsOf fn,ntmps:=fn.ntmps,vm:=GY P fn}) (hΓ.at 1) (lM fn).1 hmix x1 (fun l h=>hf1.β l h) body af.body c2 _ _ _ _ x1 hw hi (.refl _);refine calls_of_wp hf c1 (wp_mono hcs fun e a w' hp=>?_);obtain⟨e',x',env',st',he,hxw,hst,hi',hh,hro,hrn,hrv,hlk,hsn⟩:=hp;subst hxw;obtain⟨v,r1,r2,r3⟩:=oz hΓ.small hi' c3 hro
 let x2:X:=⟨x'.w,x'.I,x.β⟩
 have key2:∀(v:Value) (d:D),RD ν x' v d->d.bc=true->RD ν x2 v d:=fun v d h hn=>h.bc hn (fun _ h=>h) (fun _ _=>rfl)
 have hb':x'.β 0=some (b,base,tot):=hst.β _ _ hx1';have hnewI:∀b',x'.I b'->x.I b'\/x.w.heap.size<=b'\/b'=b:=by
  intro b' h;rcases hst.newI b' h with h|h|⟨l',p,h1,h2⟩
  .exact .inl h
  .exact .inr (.inl h)
  .right;right;rw[<-h2,(hx1 _ _ h1).2]
 have hstep:Step x x2:=by
  refine⟨hst.os,hst.tape,hst.output,hst.size,hst.I,hst.keep,fun _ _ h=>h,fun b' hb' hn=>hst.old b' hb' fun l' p h e=>?_,fun b' h=>?_,fun _ _ h=>.inl h⟩
  .have:=hn l _ hβ;rw[(hx1 _ _ h).2]at e;exact this e
  .rcases hnewI b' h with h|h|h
   .exact .inl h
   .exact .inr (.inl h)
   .exact .inr (.inr ⟨l,_,hβ,h.symm⟩)
 have hsim:eG ν x2 (fun l'=>if l'=l then some (.buf k [sd])else f l'):=by
  have hbb:=hi'.lv.own 0 _ b base tot hlk hb';refine⟨fun l' blk b' base' tot' e1 e2=>?_,fun l1 l2 b' base' tot' base'' tot'' e1 e2 e3 e4=>?_,hi'.lv.imm,fun l' b' base' tot' e=>jq (hs.dW l' b' base' tot' e) hst.size,dq.le x' _ (fun _ h=>h) (fun _ _=>rfl) hi'.lv.gd⟩
  .by_cases hll:l'=l
   .subst hll;simp only[aN,aZ]at e1;subst e1;have e2':x.β l'=some (b',base',tot'):=e2;rw[hβ]at e2';simp only[aZ,ea]at e2';obtain⟨rfl,rfl,rfl⟩:=e2';refine⟨hbb.1, ?_⟩;obtain⟨p1,p2,c,T,fr,p3,p4,p5,p6⟩:=hbb.2;refine⟨p1,p2,c,T,fr,p3,p4,p5,fun i hi=>⟨(p6 i hi).1,fun j hj=>⟨((p6 i hi).2 j hj).1,key2 _ _ ((p6 i hi).2 j hj).2 ?_⟩⟩⟩;have:i=0:=by simpa using hi
    subst this;exact jJ (by simpa using hsn) j
   .simp only[ai hll]at e1;have e2':x.β l'=some (b',base',tot'):=e2;obtain⟨q1,q2⟩:=hs.own l' blk b' base' tot' e1 e2';have hne:b'≠b:=fun e=>by subst e;exact hll (hs.inj l' l b' base' tot' base tot (by rw[e1];simp) (by rw[hfl];simp) e2' hβ)
    have hlt:=hs.dW l' b' base' tot' e2';refine⟨fun h=>?_,q2.mono hstep.le (hst.old b' hlt fun l'' p h e=>hne (by rw[<-e,(hx1 _ _ h).2]))⟩;rcases hnewI b' h with h|h|h
    .exact q1 h
    .omega
    .exact hne h
  .have hne:∀l',(if l'=l then some (bM.buf k [sd])else f l')≠none->f l'≠none:=fun l' h=>by
    by_cases e:l'=l
    .rw[e,hfl];simp
    .rwa [ai e]at h
   exact hs.inj l1 l2 b' base' tot' base'' tot'' (hne _ e1) (hne _ e2) e3 e4
 rw[hrv]at r2;rcases Ex.yH hh with h|h<;>rw[h]at he<;>subst he<;>exact⟨hi'.defers,v,r1,x2,rfl,hstep,key2 _ _ r2 (by rw[<-hrv];exact hrn),hsim,rfl⟩
structure NL where
 key:Nat->Nat
 mu:Nat->List D->Nat
 muE:Nat->List D->St->Nat
def Ctx.under (Y:Ctx)(R:NL)(k u:Nat):Ctx where
 pre n ds:=(R.key n<k\/R.key n=k/\R.mu n ds<u)/\Y.pre n ds
 val:=Y.val
 tr n ds st K:=(R.key n<k\/R.key n=k/\R.muE n ds st<u)/\Y.tr n ds st K
 fp n d ds:=(R.key n<k\/R.key n=k/\R.mu n (d::ds)<u)/\Y.fp n d ds
 fv:=Y.fv
 fs:=Y.fs
 lo:=Y.lo
def R0 (R:NL)(hsm:∀fid n,dr ν fid=some n->n<1000000)(hB:∀t,cC.contains (1000000000+t)=true->t=dq.tB)(hG:∀g,cC.contains (500000000+g)=true->dq.gz g)
  (hp:∀fid n,dr ν fid=some n->∀ds,Y.pre n ds->Ok P ν cC (Y.under R (R.key n) (R.mu n ds))->∀(x:X) (args:Array Value),args.size=ds.length->(∀i,i<ds.length->RD ν x (args.getD i undef) (ds.getD i .any))->aV ds=true->
    (∀b,x.I b->b<x.w.heap.size)->dq.gd x->iX P x (fun v x'=>nR x x'/\RD ν x' v (Y.val n ds)) ((callFunc fid args).run P x.w))
  (hf:∀fid n,dr ν fid=some n->cC.contains (2*n+1)=true->∀(d:D) (ds:List D),Y.fp n d ds->Ok P ν cC (Y.under R (R.key n) (R.mu n (d::ds)))->∀(x:X) (f:Nat->Option bM) (args:Array Value) (l k:Nat),args.size=ds.length+1->
    RD ν x (args.getD 0 undef) (.ptr l k 0 0)->(∀i,i<ds.length->RD ν x (args.getD (i+1) undef) (ds.getD i .any))->eG ν x f->f l=some (.buf k [d])->d.bc=true->aV ds=true->
    iX P x (fun v x'=>Step x x'/\RD ν x' v (Y.fv n d ds)/\eG ν x' (fun l'=>if l'=l then some (.buf k [Y.fs n d ds])else f l')/\x'.β=x.β) ((callFunc fid args).run P x.w))
  (he:∀fid n,dr ν fid=some n->∀(ds:List D) (st:St) (K:D->St->Prop),Y.tr n ds st K->Ok P ν cC (Y.under R (R.key n) (R.muE n ds st))->∀(x:X) (args:Array Value),args.size=ds.length->(∀i,i<ds.length->RD ν x (args.getD i undef) (ds.getD i .any))->
    eG ν x (look st.m)->eC st x->iX P x (fun v x'=>∃d st',K d st'/\Step x x'/\RD ν x' v d/\eG ν x' (look st'.m)/\eC st' x') ((callFunc fid args).run P x.w)):Ok P ν cC Y:=by
 have key:∀k u,Ok P ν cC (Y.under R k u):=by
  intro k;induction k using Nat.strongRecOn with
  |_ k ihk=>
   intro u;induction u using Nat.strongRecOn with
   |_ u ihu=>
    refine⟨hsm,hB,hG,fun fid n hn x args ds hl hargs hnl himm hgd hpre=>?_,fun fid n hn hef x f args l kk d ds hl h0 hargs hs hfl hd hnl hpre=>?_,fun fid n hn x args ds st K hl hargs hs hf' htr=>?_⟩
    .obtain⟨hlt,hpre⟩:=hpre;refine hp fid n hn ds hpre ?_ x args hl hargs hnl himm hgd;rcases hlt with h|⟨h1,h2⟩
     .exact ihk _ h _
     .rw[h1];exact ihu _ h2
    .obtain⟨hlt,hpre⟩:=hpre;refine hf fid n hn hef d ds hpre ?_ x f args l kk hl h0 hargs hs hfl hd hnl;rcases hlt with h|⟨h1,h2⟩
     .exact ihk _ h _
     .rw[h1];exact ihu _ h2
    .obtain⟨hlt,htr⟩:=htr;refine he fid n hn ds st K htr ?_ x args hl hargs hs hf';rcases hlt with h|⟨h1,h2⟩
     .exact ihk _ h _
     .rw[h1];exact ihu _ h2
 refine⟨hsm,hB,hG,fun fid n hn x args ds hl hargs hnl himm hgd hpre=>?_,fun fid n hn hef x f args l kk d ds hl h0 hargs hs hfl hd hnl hpre=>?_,fun fid n hn x args ds st K hl hargs hs hf' htr=>?_⟩
 .exact hp fid n hn ds hpre (key _ _) x args hl hargs hnl himm hgd
 .exact hf fid n hn hef d ds hpre (key _ _) x f args l kk hl h0 hargs hs hfl hd hnl
 .exact he fid n hn ds st K htr (key _ _) x args hl hargs hs hf'
def jd {fid:Nat}{fn:Func}(hf:P.funcs[fid]? =some fn)(hn:(fn.name== "runtime.NumGoroutine")=false)(hb:fn.body.isSome=true)(args:Array Value)(w:World):(callFunc fid args).run P w=.ok (.enter fid args) w:=by
 have h1:fn.name≠ "runtime.NumGoroutine" :=by simpa using hn
 have h2:fn.body≠none:=by intro h;rw[h]at hb;cases hb
 simp[callFunc,hf,h1,h2]
end
end
def cF {p:Prop}(h:p:=by first|exact fun _=>rfl|exact fun h=>h|(intro h;simp_all)):p:=h
def dz {p:Prop}(h:p:=by first|exact rfl|exact⟨_,_,rfl,rfl⟩):p:=h
def wq {p:Prop}(h:p:=by first|exact fun _=>rfl|(intro h;omega)|(intro h;simp at h;omega)):p:=h
def sD {p:Prop}(h:p:=by intro h;repeat' first|exact trivial|exact rfl|exact h|refine And.intro ?_ ?_|decide):p:=h
def tF {p:Prop}(h:p:=by simp only[bA,bK,Nat.reduceAdd];exact rfl):p:=h
def wu {p:Prop}(h:p:=by intro h;first|omega|(simp at h;omega)):p:=h
def Bk {p:Prop}(h:p:=by intro h;first|(constructor<;>omega)|(simp at h;constructor<;>omega)):p:=h
section
section
variable {Y:Ctx} {Q Q':Ex->List b8->St->Prop} {env:List b8} {st:St}
def Ctx.cP (Y:Ctx):Prop:=∀f ds st (K K':D->St->Prop),(∀d st,K d st->K' d st)->Y.tr f ds st K->Y.tr f ds st K'
def fQ {draw:Bool}{K K':List b8->St->Prop}(h:∀vs st,K vs st->K' vs st)(htr:Y.cP):∀(l:List GI) (env vs:List b8) (st:St),dZ Y draw l env vs st K->dZ Y draw l env vs st K'
 |[],env,vs,st,hh=>h _ _ hh
 |⟨i,g⟩::r,env,vs,st,hh=>by
  cases hcm:i.cB with
  |true=>
   cases i<;>simp only[aG.cB]at hcm<;>try(cases hcm;done)
   .exact⟨hh.1,fun hf=>⟨(hh.2.1 hf).1,htr _ _ _ _ _ (fun d st' ⟨h1,h2⟩=>⟨h1,fQ h htr r _ _ _ h2⟩) (hh.2.1 hf).2⟩,fun hf=>fQ h htr r _ _ _ (hh.2.2 hf)⟩
   .rename_i fv args;simp only[dZ]at hh⊢;refine⟨hh.1,fun hf=>⟨(hh.2.1 hf).1,(hh.2.1 hf).2.1, ?_⟩,fun hf=>fQ h htr r _ _ _ (hh.2.2 hf)⟩;have h3:=(hh.2.1 hf).2.2;cases hd:(Src.ev env vs fv).d<;>simp only[hd]at h3⊢;exact⟨h3.1,htr _ _ _ _ _ (fun d st' ⟨h1,h2⟩=>⟨h1,fQ h htr r _ _ _ h2⟩) h3.2⟩
   .exact⟨hh.1,fun hf=>⟨(hh.2.1 hf).1,(hh.2.1 hf).2.1,fun b hb=>fQ h htr r _ _ _ ((hh.2.1 hf).2.2 b hb)⟩,fun hf=>fQ h htr r _ _ _ (hh.2.2 hf)⟩
   .exact⟨hh.1,hh.2.1,htr _ _ _ _ _ (fun d st' ⟨h1,h2,h3⟩=>⟨h1,h2,fQ h htr r _ _ _ h3⟩) hh.2.2⟩
  |false=>
   cases hf:i.mr draw g with
   |true=>
    rw[sy hcm hf]at hh⊢;exact⟨hh.1,fun e=>⟨(hh.2.1 e).1,fQ h htr r _ _ _ (hh.2.1 e).2⟩,fun e=>fQ h htr r _ _ _ (hh.2.2 e)⟩
   |false=>
    rw[iV hcm hf]at hh⊢;exact⟨hh.1,hh.2.1,fun ha=>(hh.2.2 ha).imp fun _ h2=>⟨h2.1,fQ h htr r _ _ _ h2.2⟩⟩
def Gh.mono {lo:Nat}{p q:List b8->St->Prop}(h:∀env st,p env st->q env st):Gh lo p env st->Gh lo q env st
 |⟨e,s,h1,h2⟩=>⟨e,s,h1,h _ _ h2⟩
def Gh.intro {lo:Nat}{p:List b8->St->Prop}(h:p env st):Gh lo p env st:=⟨env,st,.refl _ _,h⟩
def gh (htr:Y.cP):∀(a:AC) (Q Q':Ex->List b8->St->Prop) (env:List b8) (st:St),(∀e env st,Q e env st->Q' e env st)->cr Y a Q env st->cr Y a Q' env st
 | .reg draw ins cm,Q,Q',env,st,h,hh=>Gh.mono (fun env st h2=>fQ (fun vs st=>h _ _ _) htr _ _ _ _ h2) hh
 | .seq a b,Q,Q',env,st,h,hh=>Gh.mono (fun env st h2=>gh htr a _ _ env st (fun e env st h2=>by
   cases e with
   |normal=>exact gh htr b Q Q' env st h h2
   |exit id=>exact h _ _ _ h2
   |ret=>exact h _ _ _ h2) h2) hh
 | .cond c a b,Q,Q',env,st,h,hh=>Gh.mono (fun env st h2=>by
  refine⟨h2.1, ?_⟩;have:=h2.2;cases hd:(c.ev env []).d<;>simp only[hd]at this⊢;exact⟨fun ht=>gh htr a Q Q' env st h (this.1 ht),fun ht=>gh htr b Q Q' env st h (this.2 ht)⟩) hh
 | .block id a,Q,Q',env,st,h,hh=>Gh.mono (fun env st h2=>gh htr a _ _ env st (fun e env st h2=>by
   cases e with
   |normal=>exact h _ _ _ h2
   |exit j=>simp only at h2⊢;split<;>rename_i hj<;>simp only[hj,aN,aL]at h2<;>exact h _ _ _ h2
   |ret=>exact h _ _ _ h2) h2) hh
 | .loop a,Q,Q',env,st,h,hh=>Gh.mono (fun env st h2=>by
  obtain⟨I,μ,h1,h2⟩:=h2;refine⟨I,μ,h1,fun env st hi=>gh htr a _ _ env st (fun e env' st' h3=>?_) (h2 env st hi)⟩;cases e with
  |normal=>exact h3
  |exit id=>exact h _ _ _ h3
  |ret=>exact h _ _ _ h3) hh
 | .exit id,Q,Q',env,st,h,hh=>Gh.mono (fun _ _=>h _ _ _) hh
 | .ret,Q,Q',env,st,h,hh=>Gh.mono (fun _ _=>h _ _ _) hh
 | .skip,Q,Q',env,st,h,hh=>Gh.mono (fun _ _=>h _ _ _) hh
def dG {a:AC}{env':List b8}{st':St}(g:aP Y.lo env st env' st')(h:cr Y a Q env' st'):cr Y a Q env st:=by
 cases a<;>(obtain⟨e2,s2,g2,h2⟩:=h;exact⟨e2,s2,.trans _ _ _ _ _ _ g g2,h2⟩)
def BQ (Y:Ctx)(id:Nat)(r:AC)(Q:Ex->List b8->St->Prop):Ex->List b8->St->Prop:=fun e env st=>match e with
 | .normal=>cr Y r Q env st
 | .exit j=>if j=id then cr Y r Q env st else Q (.exit j) env st
 | .ret=>Q .ret env st
def LQ (Y:Ctx)(id:Nat)(r:AC)(next:List b8->St->Prop)(Q:Ex->List b8->St->Prop):Ex->List b8->St->Prop:=fun e env st=>match e with
 | .normal=>next env st
 | .exit j=>if j=id then cr Y r Q env st else Q (.exit j) env st
 | .ret=>Q .ret env st
def BQ.normal {id:Nat}{r:AC}(h:cr Y r Q env st):BQ Y id r Q .normal env st:=h
def BQ.out {id:Nat}{r:AC}(h:cr Y r Q env st):BQ Y id r Q (.exit id) env st:=by simp only[BQ,aN];exact h
def BQ.other {id j:Nat}{r:AC}(hj:(j==id)=false)(h:Q (.exit j) env st):BQ Y id r Q (.exit j) env st:=by simp only[BQ,ai (by simpa using hj)];exact h
def BQ.ret {id:Nat}{r:AC}(h:Q .ret env st):BQ Y id r Q .ret env st:=h
def LQ.normal {id:Nat}{r:AC}{next:List b8->St->Prop}(h:next env st):LQ Y id r next Q .normal env st:=h
def LQ.out {id:Nat}{r:AC}{next:List b8->St->Prop}(h:cr Y r Q env st):LQ Y id r next Q (.exit id) env st:=by simp only[LQ,aN];exact h
def LQ.other {id j:Nat}{r:AC}{next:List b8->St->Prop}(hj:(j==id)=false)(h:Q (.exit j) env st):LQ Y id r next Q (.exit j) env st:=by simp only[LQ,ai (by simpa using hj)];exact h
def LQ.ret {id:Nat}{r:AC}{next:List b8->St->Prop}(h:Q .ret env st):LQ Y id r next Q .ret env st:=h
def J3 {a b c:AC}(h:cr Y (.seq a (.seq b c)) Q env st):cr Y (.seq (.seq a b) c) Q env st:=by
 obtain⟨e1,s1,g1,h1⟩:=h;refine⟨e1,s1,g1,e1,s1,.refl _ _, ?_⟩;have:∀(Q1 Q2:Ex->List b8->St->Prop),Q1=Q2->cr Y a Q1 e1 s1->cr Y a Q2 e1 s1:=fun _ _ e h=>e▸h
 refine this _ _ ?_ h1;funext e env st;cases e with
 |normal=>exact propext ⟨fun⟨e2,s2,g2,h2⟩=>dG g2 h2,fun h=>⟨_,_,.refl _ _,h⟩⟩
 |exit id=>rfl
 |ret=>rfl
def C4 {b:AC}(h:cr Y b Q env st):cr Y (.seq .skip b) Q env st:=.intro (.intro h)
def wp_skip (h:Q .normal env st):cr Y .skip Q env st:=.intro h
def G6 {b:AC}(h:Q .ret env st):cr Y (.seq .ret b) Q env st:=.intro (.intro h)
def wp_ret (h:Q .ret env st):cr Y .ret Q env st:=.intro h
def C3 {id:Nat}{b:AC}(h:Q (.exit id) env st):cr Y (.seq (.exit id) b) Q env st:=.intro (.intro h)
def wp_exit {id:Nat}(h:Q (.exit id) env st):cr Y (.exit id) Q env st:=.intro h
def Bh {id:Nat}{a r:AC}(h:cr Y a (BQ Y id r Q) env st)(htr:Y.cP):cr Y (.seq (.block id a) r) Q env st:=by
 refine .intro (.intro (gh htr a _ _ _ _ (fun e env st h=>?_) h));cases e with
 |normal=>exact h
 |exit j=>simp only[BQ]at h⊢;split<;>rename_i hj<;>simp only[hj,aN,aL]at h<;>exact h
 |ret=>exact h
def wp_block {id:Nat}{a:AC}(h:cr Y a (BQ Y id .skip Q) env st)(htr:Y.cP)(hQ:∀e env env' st st',aP Y.lo env st env' st'->Q e env' st'->Q e env st):cr Y (.block id a) Q env st:=by
 refine .intro (gh htr a _ _ _ _ (fun e env st h=>?_) h);have hs:∀env st,cr Y .skip Q env st->Q .normal env st:=fun env st ⟨e2,s2,g2,h2⟩=>hQ _ _ _ _ _ g2 h2
 cases e with
 |normal=>exact hs _ _ h
 |exit j=>simp only[BQ]at h⊢;split<;>rename_i hj<;>simp only[hj,aN,aL]at h<;>first|exact hs _ _ h|exact h
 |ret=>exact h
def CQ (next:List b8->St->Prop)(Q:Ex->List b8->St->Prop):Ex->List b8->St->Prop:=fun e env st=>match e with
 | .normal=>next env st
 | .exit j=>Q (.exit j) env st
 | .ret=>Q .ret env st
def CQ.normal {next:List b8->St->Prop}(h:next env st):CQ next Q .normal env st:=h
def CQ.other {next:List b8->St->Prop}{j:Nat}(h:Q (.exit j) env st):CQ next Q (.exit j) env st:=h
def CQ.ret {next:List b8->St->Prop}(h:Q .ret env st):CQ next Q .ret env st:=h
def Bs (id:Nat)(Q:Ex->List b8->St->Prop):Ex->List b8->St->Prop:=fun e env st=>match e with
 | .normal=>Q .normal env st
 | .exit j=>if j=id then Q .normal env st else Q (.exit j) env st
 | .ret=>Q .ret env st
def Bs.normal {id:Nat}(h:Q .normal env st):Bs id Q .normal env st:=h
def Bs.out {id:Nat}(h:Q .normal env st):Bs id Q (.exit id) env st:=by simp only[Bs,aN];exact h
def Bs.other {id j:Nat}(hj:(j==id)=false)(h:Q (.exit j) env st):Bs id Q (.exit j) env st:=by grind [Bs]
def Bs.ret {id:Nat}(h:Q .ret env st):Bs id Q .ret env st:=h
def G5 {id:Nat}{a:AC}(h:cr Y a (Bs id Q) env st)(htr:Y.cP):cr Y (.block id a) Q env st:=by
 refine .intro (gh htr a _ _ _ _ (fun e env st h=>?_) h);cases e with
 |normal=>exact h
 |exit j=>simp only[Bs]at h⊢;split<;>rename_i hj<;>simp only[hj,aN,aL]at h<;>exact h
 |ret=>exact h
def bB (htr:Y.cP){a r:AC}{id:Nat}{ι:Type}(F:ι->List b8)(G:ι->List (Nat×bM))(c:Nat)(P:ι->Prop)(μ:ι->Nat)(i0:ι)
  (hP:P i0) (h0:aP Y.lo env st (F i0) ⟨c,G i0⟩)
  (hr:∀i,P i->cr Y a (LQ Y id r (fun env' st'=>∃j,P j/\μ j<μ i/\aP Y.lo env' st' (F j) ⟨c,G j⟩) Q) (F i) ⟨c,G i⟩):cr Y (.seq (.block id (.loop a)) r) Q env st:=by
 let W:List b8->St->Nat->Prop:=fun env st k=>∃i,env=F i/\st=⟨c,G i⟩/\P i/\μ i=k
 have least:∀env st,(∃k,W env st k)->∃k,W env st k/\∀k',W env st k'->k<=k':=by
  intro env st ⟨k,hk⟩;induction k using Nat.strongRecOn with
  |_ k ih=>
   by_cases h:∃k',k'<k/\W env st k'
   .obtain⟨k',h1,h2⟩:=h;exact ih k' h1 h2
   .exact⟨k,hk,fun k' hk'=>by
     rcases cQ k' k with h1|h1
     .exact absurd ⟨k',h1,hk'⟩ h
     .exact h1⟩
 open Classical in
 refine .intro (.intro ⟨_,_,h0,fun env st=>∃k,W env st k,fun env st=>if h:∃k,W env st k then Classical.choose (least env st h)else 0,⟨_,i0,rfl,rfl,hP,rfl⟩,fun env st hk=>?_⟩);obtain⟨⟨i,e1,e2,e3,e5⟩,hmin⟩:=Classical.choose_spec (least env st hk);have:=hr i e3;rw[<-e1,<-e2]at this;refine gh htr a _ _ env st ?_ this
 .intro e env' st' h;cases e with
  |normal=>
   obtain⟨j,b3,b5,g⟩:=h;have hW:W (F j) ⟨c,G j⟩ (μ j):=⟨j,rfl,rfl,b3,rfl⟩;refine⟨F j,⟨c,G j⟩,g,⟨_,hW⟩, ?_⟩;show(if h:∃k,W (F j) ⟨c,G j⟩ k then Classical.choose (least _ _ h)else 0)<(if h:∃k,W env st k then Classical.choose (least env st h)else 0);rw[dif_pos ⟨_,hW⟩,dif_pos hk,<-e5];exact Nat.lt_of_le_of_lt ((Classical.choose_spec (least _ _ ⟨_,hW⟩)).2 _ hW) b5
  |exit j=>simp only[LQ]at h⊢;split<;>rename_i hj<;>simp only[hj,aN,aL]at h<;>exact h
  |ret=>exact h
def Bu (id:Nat)(next:List b8->St->Prop)(Q:Ex->List b8->St->Prop):Ex->List b8->St->Prop:=fun e env st=>match e with
 | .normal=>next env st
 | .exit j=>if j=id then Q .normal env st else Q (.exit j) env st
 | .ret=>Q .ret env st
def Bu.normal {id:Nat}{next:List b8->St->Prop}(h:next env st):Bu id next Q .normal env st:=h
def Bu.out {id:Nat}{next:List b8->St->Prop}(h:Q .normal env st):Bu id next Q (.exit id) env st:=by simp only[Bu,aN];exact h
def Bu.other {id j:Nat}{next:List b8->St->Prop}(hj:(j==id)=false)(h:Q (.exit j) env st):Bu id next Q (.exit j) env st:=by grind [Bu]
def Bu.ret {id:Nat}{next:List b8->St->Prop}(h:Q .ret env st):Bu id next Q .ret env st:=h
def kO (htr:Y.cP){a:AC}{id:Nat}{ι:Type}(F:ι->List b8)(G:ι->List (Nat×bM))(c:Nat)(P:ι->Prop)(μ:ι->Nat)(i0:ι)
  (hP:P i0) (h0:aP Y.lo env st (F i0) ⟨c,G i0⟩)
  (hr:∀i,P i->cr Y a (Bu id (fun env' st'=>∃j,P j/\μ j<μ i/\aP Y.lo env' st' (F j) ⟨c,G j⟩) Q) (F i) ⟨c,G i⟩):cr Y (.block id (.loop a)) Q env st:=by
 let W:List b8->St->Nat->Prop:=fun env st k=>∃i,env=F i/\st=⟨c,G i⟩/\P i/\μ i=k
 have least:∀env st,(∃k,W env st k)->∃k,W env st k/\∀k',W env st k'->k<=k':=by
  intro env st ⟨k,hk⟩;induction k using Nat.strongRecOn with
  |_ k ih=>
   by_cases h:∃k',k'<k/\W env st k'
   .obtain⟨k',h1,h2⟩:=h;exact ih k' h1 h2
   .exact⟨k,hk,fun k' hk'=>by
     rcases cQ k' k with h1|h1
     .exact absurd ⟨k',h1,hk'⟩ h
     .exact h1⟩
 open Classical in
 refine .intro ⟨_,_,h0,fun env st=>∃k,W env st k,fun env st=>if h:∃k,W env st k then Classical.choose (least env st h)else 0,⟨_,i0,rfl,rfl,hP,rfl⟩,fun env st hk=>?_⟩;obtain⟨⟨i,e1,e2,e3,e5⟩,hmin⟩:=Classical.choose_spec (least env st hk);have:=hr i e3;rw[<-e1,<-e2]at this;refine gh htr a _ _ env st ?_ this
 .intro e env' st' h;cases e with
  |normal=>
   obtain⟨j,b3,b5,g⟩:=h;have hW:W (F j) ⟨c,G j⟩ (μ j):=⟨j,rfl,rfl,b3,rfl⟩;refine⟨F j,⟨c,G j⟩,g,⟨_,hW⟩, ?_⟩;show(if h:∃k,W (F j) ⟨c,G j⟩ k then Classical.choose (least _ _ h)else 0)<(if h:∃k,W env st k then Classical.choose (least env st h)else 0);rw[dif_pos ⟨_,hW⟩,dif_pos hk,<-e5];exact Nat.lt_of_le_of_lt ((Classical.choose_spec (least _ _ ⟨_,hW⟩)).2 _ hW) b5
  |exit j=>simp only[Bu]at h⊢;split<;>rename_i hj<;>simp only[hj,aN,aL]at h<;>exact h
  |ret=>exact h
def nth:List b8->Nat->b8
 |[],_=>.un
 |a::_,0=>a
 |_::r,n+1=>nth r n
def vC:∀(l:List b8) (n:Nat),l.getD n .un=nth l n
 |[],n=>by simp[nth]
 |a::_,0=>by simp[nth]
 |_::r,n+1=>by simpa[nth]using vC r n
def cN (env rs:List b8):Src->b8
 | .s n=>nth env n
 | .l p=>bif Nat.blt p rs.length then nth rs (rs.length-1-p)else .un
 | .c d=>⟨true,d⟩
theorem kJ (env rs:List b8):Src.ev env rs.reverse=cN env rs:=by
 funext s;cases s with
 |s n=>exact vC env n
 |l p=>
  simp only[Src.ev,cN];cases h:Nat.blt p rs.length with
  |true=>
   have:p<rs.length:=by simp[Nat.blt]at h;omega
   rw[cond_true,<-vC]
   grind
  |false=>
   have:¬p<rs.length:=by intro e;have:Nat.blt p rs.length=true:=by {simp[Nat.blt];omega};rw[this]at h;cases h
   grind
 |c d=>rfl
def aI (Y:Ctx)(draw:Bool)(l:List GI)(env rs:List b8)(nx:Nat)(m:List (Nat×bM))(K:List b8->St->Prop):Prop:=dZ Y draw l env rs.reverse ⟨nx,m⟩ K
def HW (env rs:List b8):List (Nat×Nat)->List b8
 |[]=>env
 |(s,p)::r=>HW (env.set s (cN [] rs (.l p))) rs r
theorem BN (rs:List b8):∀(cm:List (Nat×Nat)) (env:List b8),fT env rs.reverse cm=HW env rs cm
 |[],env=>rfl
 |(s,p)::r,env=>by
  simp only[fT,HW];rw[BN rs r,<-congrFun (kJ [] rs) (.l p)];rfl
def ak {draw:Bool}{ins:List GI}{cm:List (Nat×Nat)}{b:AC}{nx:Nat}{m:List (Nat×bM)}
  (h:aI Y draw ins env [] nx m (fun vs st'=>cr Y b Q (fT env vs cm) st')):cr Y (.seq (.reg draw ins cm) b) Q env ⟨nx,m⟩:=.intro (.intro h)
def O6 {draw:Bool}{ins:List GI}{cm:List (Nat×Nat)}{nx:Nat}{m:List (Nat×bM)}
  (h:aI Y draw ins env [] nx m (fun vs st'=>Q .normal (fT env vs cm) st')):cr Y (.reg draw ins cm) Q env ⟨nx,m⟩:=.intro h
def LK {draw:Bool}{cm:List (Nat×Nat)}{b:AC}{nx nx':Nat}{m:List (Nat×bM)}{rs fZ env':List b8}(h:cr Y b Q env' ⟨nx',m⟩)
  (he:HW env rs cm=env':=by exact rfl) (hn:nx+rs.length=nx':=by exact tF):aI Y draw [] fZ rs nx m (fun vs st'=>cr Y b Q (fT env vs cm) st'):=by
 grind [aI,dZ,BN]
def LL {draw:Bool}{cm:List (Nat×Nat)}{nx nx':Nat}{m:List (Nat×bM)}{rs fZ env':List b8}(h:Q .normal env' ⟨nx',m⟩)
  (he:HW env rs cm=env':=by exact rfl) (hn:nx+rs.length=nx':=by exact tF):aI Y draw [] fZ rs nx m (fun vs st'=>Q .normal (fT env vs cm) st'):=by
 grind [aI,dZ,BN]
def bn {c:Src}{a b r:AC}{t:Bool}(h1:t=true->cr Y (.seq a r) Q env st)(h2:t=false->cr Y (.seq b r) Q env st)(hc:cN env [] c=⟨true,.bool t⟩:=by exact rfl):cr Y (.seq (.cond c a b) r) Q env st:=by
 have hc':c.ev env []=⟨true,.bool t⟩:=by rw[<-hc,<-kJ];rfl
 refine .intro (.intro ?_);simp only[hc'];refine⟨trivial,fun ht=>?_,fun ht=>?_⟩
 .obtain⟨e,s,g,h⟩:=h1 ht;exact dG g h
 .obtain⟨e,s,g,h⟩:=h2 ht;exact dG g h
def wp_cond {c:Src}{a b:AC}{t:Bool}(h1:t=true->cr Y a Q env st)(h2:t=false->cr Y b Q env st)(hc:cN env [] c=⟨true,.bool t⟩:=by exact rfl):cr Y (.cond c a b) Q env st:=by
 have hc':c.ev env []=⟨true,.bool t⟩:=by rw[<-hc,<-kJ];rfl
 refine .intro ?_
 grind
def aP.to {lo c nx nx':Nat}{env env':List b8}{m m':List (Nat×bM)}(σ:List (Nat×Nat))(hc:nx'=c)(h:eU lo c σ=true)(he:aH lo σ env env')(hm:aD lo c σ m m'):aP lo env ⟨nx,m⟩ env' ⟨nx',m'⟩:=by
 subst hc;exact .ren σ nx' env env' nx m m' h he hm
theorem az {α β:Type}(q:α->β)(xs:List α):(xs.map q).take xs.length=xs.map q:=iq bh
def bW {α:Type}{q:α->D}(h:∀x,(q x).bc=true):∀xs:List α,aV (xs.map q)=true
 |[]=>rfl
 |a::r=>by simp only[List.map_cons,aV,h a,bW h r,eZ]
def aP.fz {lo:Nat}{env env' env2:List b8}{nx k:Nat}{m m':List (Nat×bM)}{es:List D}{st2:St}(l:Nat)(hl:look m l=some (.buf k es))(hn:aV es=true)(he:gp l k es env=env')(hm:gy l k es (ct m l)=m')(h:aP lo env' ⟨nx,m'⟩ env2 st2):aP lo env ⟨nx,m⟩ env2 st2:=by
 have:=aP.G9 (lo:=lo) l env ⟨nx,m⟩;simp only[Abs.G9,hl,hn,cond_true,he,hm]at this;exact .trans _ _ _ _ _ _ this h
def cU {a:AC}{nx k:Nat}{m m':List (Nat×bM)}{es:List D}{env env':List b8}(l:Nat)(h:cr Y a Q env' ⟨nx,m'⟩)(hl:look m l=some (.buf k es):=by exact rfl)(hn:aV es=true:=by first|exact rfl|exact bW (fun _=>rfl) _)
  (he:gp l k es env=env':=by simp only[gp,er,eD,gy,gY,ct,Nat.reduceEqDiff,aN,aL,bZ,bC,bz,bX,bY,aO,aK,aE,bl,az,reduceCtorEq,bA,bK,Nat.reduceAdd,Nat.reduceLeDiff];exact rfl)
  (hm:gy l k es (ct m l)=m':=by simp only[gp,er,eD,gy,gY,ct,Nat.reduceEqDiff,aN,aL,bZ,bC,bz,bX,bY,aO,aK,aE,bl,az,reduceCtorEq,bA,bK,Nat.reduceAdd,Nat.reduceLeDiff];exact rfl):cr Y a Q env ⟨nx,m⟩:=
 dG (aP.fz l hl hn he hm (.refl _ _)) h
def MA.rf:∀e:List b8,MA e e
 |[]=>trivial
 |_::r=>⟨⟨rfl,.refl _⟩,MA.rf r⟩
def mg.nil:mg [] []:=⟨rfl,fun _=>.refl _⟩
def mg.cons {x y:D}{a b:List D}(h:tG x y)(h2:mg a b):mg (x::a) (y::b):=⟨by simp[h2.1],fun i=>by cases i with
 |zero=>exact h
 |succ i=>simpa using h2.2 i⟩
def mg.rf (a:List D):mg a a:=⟨rfl,fun _=>.refl _⟩
def mg.map {α:Type}{q p:α->D}:∀{xs:List α},(∀x∈xs,tG (q x) (p x))->mg (xs.map q) (xs.map p)
 |[],_=>.nil
 |x::r,h=>.cons (h x (.head _)) (mg.map fun y hy=>h y (.tail _ hy))
def tG.ag {a b:List D}(h:mg a b):tG (.agg a) (.agg b):=.agg _ _ h.1 h.2
def tG.ss {k:Nat}{a b:List D}(h:mg a b):tG (.sl k a) (.sl k b):=.sl _ _ _ h.1 h.2
def kl.nil {m:List (Nat×bM)}:kl m []:=trivial
def kl.id {m r:List (Nat×bM)}{l:Nat}{b:bM}(h:look m l=some b)(h2:kl m r):kl m ((l,b)::r):=⟨⟨b,h,by cases b<;>first|exact⟨rfl,.rf _⟩|exact rfl⟩,h2⟩
def kl.bf {m r:List (Nat×bM)}{l k:Nat}{es es':List D}(h:look m l=some (.buf k es))(hw:mg es es')(h2:kl m r):kl m ((l,.buf k es')::r):=⟨⟨_,h,rfl,hw⟩,h2⟩
def wm {a:AC}{nx:Nat}{m:List (Nat×bM)}{env:List b8}(m':List (Nat×bM))(hm:kl m m')(h:cr Y a Q env ⟨nx,m'⟩):cr Y a Q env ⟨nx,m⟩:=dG (.nz _ _ _ _ _ (MA.rf _) hm) h
def aH.nil {lo:Nat}{σ:List (Nat×Nat)}:aH lo σ [] []:=trivial
def aH.un {lo:Nat}{σ:List (Nat×Nat)}{a:b8}{r s:List b8}(h:aH lo σ r s):aH lo σ (a::r) (.un::s):=⟨.inr rfl,h⟩
def aH.eq {lo:Nat}{σ:List (Nat×Nat)}{ok:Bool}{d d':D}{r s:List b8}(hd:kv lo σ d=some d')(h:aH lo σ r s):aH lo σ (⟨ok,d⟩::r) (⟨ok,d'⟩::s):=⟨.inl ⟨rfl,.inr (.inl hd)⟩,h⟩
theorem aH.nl {lo:Nat}{σ:List (Nat×Nat)}{ok:Bool}{d d':D}{r s:List b8}(hd:d'=d)(hn:d.bc=true)(h:aH lo σ r s):aH lo σ (⟨ok,d⟩::r) (⟨ok,d'⟩::s):=⟨.inl ⟨rfl,.inl ⟨hd,hn⟩⟩,h⟩
def aH.ni {lo:Nat}{σ:List (Nat×Nat)}{ok:Bool}{d d':D}{r s:List b8}(hd:pw d d')(h:aH lo σ r s):aH lo σ (⟨ok,d⟩::r) (⟨ok,d'⟩::s):=⟨.inl ⟨rfl,.inr (.inr hd)⟩,h⟩
section
variable {lo c:Nat} {σ:List (Nat×Nat)} {m r:List (Nat×bM)}
def aD.nil:aD lo c σ m []:=trivial
theorem aD.nl {k l':Nat}{es es':List D}(l:Nat)(hl:fH lo σ l=some l')(hm:look m l=some (.buf k es))(he:es'=es)(hn:aV es=true)(h:aD lo c σ m r):aD lo c σ m ((l',.buf k es')::r):=
 ⟨.inl ⟨l,_,hl,hm,rfl,.inl ⟨he,hn⟩⟩,h⟩
def aD.eq {k l':Nat}{es es':List D}(l:Nat)(hl:fH lo σ l=some l')(hm:look m l=some (.buf k es))(he:iA lo σ es=some es')(h:aD lo c σ m r):aD lo c σ m ((l',.buf k es')::r):=
 ⟨.inl ⟨l,_,hl,hm,rfl,.inr (.inl he)⟩,h⟩
def aD.ni {k l':Nat}{es es':List D}(l:Nat)(hl:fH lo σ l=some l')(hm:look m l=some (.buf k es))(he:BE es es')(h:aD lo c σ m r):aD lo c σ m ((l',.buf k es')::r):=
 ⟨.inl ⟨l,_,hl,hm,rfl,.inr (.inr he)⟩,h⟩
def aD.gH {k l':Nat}{es':List D}(hl:fH lo σ l'=some l')(hm:look m l'=some (.buf k es'))(hn:aV es'=true)(h:aD lo c σ m r):aD lo c σ m ((l',.buf k es')::r):=.nl l' hl hm rfl hn h
def aD.ew {k l':Nat}{es' es:List D}(hl:fH lo σ l'=some l')(hm:look m l'=some (.buf k es))(he:iA lo σ es=some es')(h:aD lo c σ m r):aD lo c σ m ((l',.buf k es')::r):=.eq l' hl hm he h
def aD.mt {k l':Nat}{es':List D}(h1:Nat.ble lo l'=true)(h2:Nat.blt l' c=true)(h3:σ.all (fun p=>!Nat.beq p.2 l')=true)(he:es'=[])(h:aD lo c σ m r):aD lo c σ m ((l',.buf k es')::r):=
 ⟨.inr ⟨h1,h2,h3,k,by rw[he]⟩,h⟩
def aD.it {l' p p':Nat}{s s':List UInt8}(l:Nat)(hl:fH lo σ l=some l')(hm:look m l=some (.iter s p))(hs:s'=s)(hp:p'=p)(h:aD lo c σ m r):aD lo c σ m ((l',.iter s' p')::r):=
 ⟨.inl ⟨l,_,hl,hm,hs,hp⟩,h⟩
def aD.pT {l' p p':Nat}{s s':List UInt8}(hl:fH lo σ l'=some l')(hm:look m l'=some (.iter s p))(hs:s'=s)(hp:p'=p)(h:aD lo c σ m r):aD lo c σ m ((l',.iter s' p')::r):=.it l' hl hm hs hp h
def aD.rw {l':Nat}{s s':List UInt8}(l:Nat)(hl:fH lo σ l=some l')(hm:look m l=some (.row s))(hs:s'=s)(h:aD lo c σ m r):aD lo c σ m ((l',.row s')::r):=
 ⟨.inl ⟨l,_,hl,hm,hs⟩,h⟩
def aD.b0 {l' n n':Nat}{u u':Bool}(l:Nat)(hl:fH lo σ l=some l')(hm:look m l=some (.bld none n u))(hn:n'=n)(hu:u'=u)(h:aD lo c σ m r):aD lo c σ m ((l',.bld none n' u')::r):=
 ⟨.inl ⟨l,_,hl,hm,rfl,hn,hu⟩,h⟩
end
mutual
def xC (m:List (Nat×bM)):Sh->D->D
 | .a,d=>match d with
  | .aB=>.sl 0 []
  |d=>d
 | .sl k cs,d=>match d with
  | .aB=>.sl k []
  | .own l k' i c=>.sl k' ((((aW m l).drop i).take c).map fun e=>match e with
   | .agg ds=>.agg (xL m cs ds)
   |e=>xH m cs e)
  |d=>d
 | .pt cs,d=>match d with
  | .ptr l k i o=>.ref k ((aW m l).map fun e=>match e with
   | .agg ds=>.agg (xL m cs ds)
   |e=>xH m cs e) i o
  |d=>d
 | .kp cs,d=>match d with
  | .own l k' i c=>.sl k' ((((aW m l).drop i).take c).map fun e=>match e with
   | .agg ds=>.agg (xL m cs ds)
   |e=>xH m cs e)
  |d=>d
def xH (m:List (Nat×bM)):List Sh->D->D
 |[],d=>d
 |s::_,d=>xC m s d
def xL (m:List (Nat×bM)):List Sh->List D->List D
 |[],ds=>ds
 |s::r,ds=>match ds with
  |[]=>[]
  |d::ds=>xC m s d::xL m r ds
end
def xV (m:List (Nat×bM))(cs:List Sh):D->D
 | .agg ds=>.agg (xL m cs ds)
 |e=>xH m cs e
mutual
def Kk (m:List (Nat×bM)):Sh->D->Prop
 | .a,d=>d.bc=true
 | .sl _ cs,d=>match d with
  | .own l k' i c=>eg m l k' (i+c)/\∀e∈((aW m l).drop i).take c,(match e with
   | .agg ds=>Ea m cs ds
   |e=>Mh m cs e)
  |d=>d.bc=true
 | .pt cs,d=>match d with
  | .ptr l k _ _=>eg m l k 0/\∀e∈aW m l,(match e with
   | .agg ds=>Ea m cs ds
   |e=>Mh m cs e)
  |d=>d.bc=true
 | .kp cs,d=>match d with
  | .own l k' i c=>eg m l k' (i+c)/\∀e∈((aW m l).drop i).take c,(match e with
   | .agg ds=>Ea m cs ds
   |e=>Mh m cs e)
  |d=>d.bc=true
def Mh (m:List (Nat×bM)):List Sh->D->Prop
 |[],d=>d.bc=true
 |s::_,d=>Kk m s d
def Ea (m:List (Nat×bM)):List Sh->List D->Prop
 |[],ds=>aV ds=true
 |s::r,ds=>match ds with
  |[]=>True
  |d::ds=>Kk m s d/\Ea m r ds
end
def Hf (m:List (Nat×bM))(cs:List Sh):D->Prop
 | .agg ds=>Ea m cs ds
 |e=>Mh m cs e
mutual
theorem J4 (m:List (Nat×bM)):∀(s:Sh) (d:D),lj m s d=xC m s d/\(iT m s d↔Kk m s d)
 | .a,d=>by cases d<;>simp only[lj,xC,iT,Kk]<;>exact⟨trivial,trivial⟩
 | .sl k cs,d=>by
  cases d<;>simp only[lj,xC,iT,Kk]<;>first
   |exact⟨trivial,trivial⟩
   |skip
  rename_i l k' i c;exact⟨bS (D.sl k') (List.map_congr_left fun e _=>(wo m cs e).1),and_congr_right fun _=>forall_congr' fun e=>imp_congr_right fun _=>(wo m cs e).2⟩
 | .pt cs,d=>by
  cases d<;>simp only[lj,xC,iT,Kk]<;>first
   |exact⟨trivial,trivial⟩
   |skip
  rename_i l k' i c;exact⟨bS (fun x=>D.ref k' x i c) (List.map_congr_left fun e _=>(wo m cs e).1),and_congr_right fun _=>forall_congr' fun e=>imp_congr_right fun _=>(wo m cs e).2⟩
 | .kp cs,d=>by
  cases d<;>simp only[lj,xC,iT,Kk]<;>first
   |exact⟨trivial,trivial⟩
   |skip
  rename_i l k' i c;exact⟨bS (D.sl k') (List.map_congr_left fun e _=>(wo m cs e).1),and_congr_right fun _=>forall_congr' fun e=>imp_congr_right fun _=>(wo m cs e).2⟩
theorem wo (m:List (Nat×bM)):∀(cs:List Sh) (d:D),iH m cs d=(match d with
   | .agg ds=>.agg (xL m cs ds)
   |e=>xH m cs e)/\(gD m cs d↔(match d with
   | .agg ds=>Ea m cs ds
   |e=>Mh m cs e))
 |[],d=>by cases d<;>simp only[iH,xH,xL,gD,Mh,Ea,D.bc]<;>first|exact⟨trivial,Iff.rfl⟩|exact⟨trivial,trivial⟩
 |s::r,d=>by
  cases d<;>simp only[iH,xH,gD,Mh]<;>first
   |exact J4 m s _
   |skip
  rename_i ds;exact⟨bS D.agg (Eb m (s::r) ds).1,(Eb m (s::r) ds).2⟩
theorem Eb (m:List (Nat×bM)):∀(cs:List Sh) (ds:List D),mB m cs ds=xL m cs ds/\(kE m cs ds↔Ea m cs ds)
 |[],ds=>by simp only[mB,xL,kE,Ea];exact⟨trivial,trivial⟩
 |s::r,[]=>by simp only[mB,xL,kE,Ea];exact⟨trivial,trivial⟩
 |s::r,d::ds=>by
  simp only[mB,xL,kE,Ea,(J4 m s d).1,(Eb m r ds).1];exact⟨trivial,and_congr (J4 m s d).2 (Eb m r ds).2⟩
end
theorem ya (m:List (Nat×bM))(cs:List Sh)(d:D):iH m cs d=xV m cs d/\(gD m cs d↔Hf m cs d):=by
 have:=wo m cs d;cases d<;>exact this
def jL (m:List (Nat×bM)):List (List Sh)->List D->List D
 |_,[]=>[]
 |[],d::r=>xV m [.a] d::jL m [] r
 |s::ss,d::r=>xV m s d::jL m ss r
def jm (m:List (Nat×bM)):List (List Sh)->List D->Prop
 |_,[]=>True
 |[],d::r=>Hf m [.a] d/\jm m [] r
 |s::ss,d::r=>Hf m s d/\jm m ss r
theorem dc (m:List (Nat×bM)):∀(ss:List (List Sh)) (ds:List D),fU m ss ds=jL m ss ds/\(iU m ss ds↔jm m ss ds)
 |ss,[]=>by simp[fU,jL,iU,jm]
 |[],d::r=>by
  simp only[fU,jL,iU,jm,(ya m [.a] d).1,(dc m [] r).1];exact⟨trivial,and_congr (ya m _ d).2 (dc m [] r).2⟩
 |s::ss,d::r=>by
  simp only[fU,jL,iU,jm,(ya m s d).1,(dc m ss r).1];exact⟨trivial,and_congr (ya m _ d).2 (dc m ss r).2⟩
def Pa (a:aJ)(d:D):Ex->List b8->St->Prop:=fun e env st=>e.home/\oy st.m env a.res/\DY a env st/\LN a env st=d
def J6 (a:aJ)(env:List b8)(m:List (Nat×bM)):D:=match a.res with
 |[r]=>xV m (a.rsh.getD 0 []) (AO m env r)
 |rs=>.tup (jL m a.rsh (nD m env rs))
def Bj (a:aJ)(env:List b8)(m:List (Nat×bM)):Prop:=match a.res with
 |[r]=>Hf m (a.rsh.getD 0 []) (AO m env r)
 |rs=>jm m a.rsh (nD m env rs)
def CR {a:aJ}{d:D}{e:Ex}{nx:Nat}{m:List (Nat×bM)}(he:e.home)(h1:oy m env a.res)(h2:Bj a env m)(h3:J6 a env m=d):Pa a d e env ⟨nx,m⟩:=by
 refine⟨he,h1, ?_, ?_⟩
 .unfold DY;unfold Bj at h2;split<;>rename_i hr
  .rw[hr]at h2;exact(ya _ _ _).2.2 h2
  .split at h2
   .rename_i hr2;exact absurd hr2 (hr _)
   .exact(dc _ _ _).2.2 h2
 grind [LN,J6,ya,dc]
def NM (a:aJ)(k:Nat)(vd sd:D):Ex->List b8->St->Prop:=fun e env st=>e.home/\oy st.m env a.res/\(jM a env st).bc=true/\jM a env st=vd/\look st.m 0=some (.buf k [sd])/\sd.bc=true
def LM {a:aJ}{k:Nat}{vd sd:D}{e:Ex}{nx:Nat}{m:List (Nat×bM)}(he:e.home)(h1:oy m env a.res)(h2:jM a env ⟨nx,m⟩=vd)(h3:look m 0=some (.buf k [sd]))(hn:vd.bc=true)(hs:sd.bc=true):NM a k vd sd e env ⟨nx,m⟩:=⟨he,h1,by rw[h2];exact hn,h2,h3,hs⟩
end
end
end Go.Abs
