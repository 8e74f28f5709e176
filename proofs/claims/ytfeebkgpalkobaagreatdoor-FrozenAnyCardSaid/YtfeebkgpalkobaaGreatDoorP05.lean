/- A part of the proofs. -/
import Derived.IntWalk
import Derived.KernelRfl
import Derived.Lib.TrimUEq
import Derived.Test.YtfeebkgpalkobaaGreatDoorP04
set_option linter.all false
set_option maxRecDepth 60000
set_option maxHeartbeats 2000000
namespace Go.Abs
section
variable [di]
section
variable {P:Program} {ν:List (Nat×Nat)} {cr:List Nat} {Y:Ctx}
def Ok.at (h:Ok P ν cr Y)(n:Nat):Ok P ν cr (Y.at n):=⟨h.small,h.bld,h.glz,h.pure,h.effF,h.cr⟩
def fI {fn:Func}{af:ax}(hc:compile P ν cr fn=some af):
  ∃body,fn.body=some body/\CC.code {P,ν,cr,slots:=slotsOf fn,ntmps:=fn.ntmps,vm:=GJ P fn} body=some af.body/\sk P (slotsOf fn) fn.results.toList=some af.res/\
   fn.params.size+fn.nfree<=fn.ntmps/\af.np=fn.params.size+fn.nfree/\af.ns=(slotsOf fn).length:=by
 grind [compile]
def qb {fn:Func}{af:ax}{x:X}{args:Array Value}{ds:List D}{st:St}(hnp:fn.params.size+fn.nfree<=fn.ntmps)(h1:af.np=fn.params.size+fn.nfree)(h2:af.ns=(slotsOf fn).length)(hl:args.size=ds.length)(hd:ds.length=af.np)
  (hargs:∀i,i<ds.length->RD ν x (args.getD i undef) (ds.getD i .any)) (hs:eK ν x (look st.m)) (hf:ez st x):
  Inv {P,ν,cr,slots:=slotsOf fn,ntmps:=fn.ntmps,vm:=GJ P fn} {tmps:=args++Array.replicate (fn.ntmps-args.size) undef,defers:=[]} x (fC af ds) st:=by
 obtain⟨s1,s2,s3⟩:=kH fn;refine⟨?_,fun n t hn ho=>?_,dH,rfl,hs,hf⟩
 .simp only[fC,bS,bc,List.length_replicate];omega
 .simp only at hn;simp only[fC]at ho⊢;rw[cY]at ho⊢;simp only[bc]at ho⊢;by_cases h:n<ds.length
  .grind [lg]
  .rw[aj h];have:(List.replicate (af.ns-af.np) bI.un).getD (n-ds.length) .un=.un:=by
    simp only[List.getD,List.getElem?_replicate];split<;>rfl
   rw[this];exact .any _
def Ex.vy {e:Ex}(h:e.home):Ex.of e=.normal\/Ex.of e=.ret:=by
 cases e with
 |normal=>exact .inl rfl
 |exit id=>exact h.elim
 |ret=>exact .inr rfl
def P3 {fid:Nat}{fn:Func}{af:ax}{d:D}(hΓ:Ok P ν cr Y)(hmix:P.follows .mixedOrders=true)(hf:P.funcs[fid]? =some fn)(hc:compile P ν cr fn=some af)
  {x:X} {args:Array Value} {ds:List D} (hl:args.size=ds.length) (hargs:∀i,i<ds.length->RD ν x (args.getD i undef) (ds.getD i .any)) (hnl:aR ds=true) (himm:∀b,x.I b->b<x.w.heap.size) (hgd:di.gd x)
  (hnp:ds.length=af.np) (hw:bO (Y.at 0) af.body (fun e env st=>e.home/\mN st.m env af.res/\Ea af env st/\Oc af env st=d) (fC af ds) ⟨0,[]⟩):
  Calls P fid args x.w fun
   | .returned v,w'=>∃x',x'.w=w'/\lE x x'/\RD ν x' v d
   |_,_=>False:=by
 obtain⟨body,c1,c2,c3,c4,c5,c6⟩:=fI hc
 let x0:X:=⟨x.w,x.I,fun _=>none⟩
 have hs0:eK ν x0 (look []):=⟨fun l blk b base tot h=>by simp[look]at h,fun l l' b base tot base' tot' h=>by simp[look]at h,himm,fun l b base tot h=>(by cases h),di.le x _ (fun _ h=>h) (fun _ _=>rfl) hgd⟩;have hf0:ez ⟨0,[]⟩ x0:=⟨fun l _=>rfl,fun l h=>by simp[look]at h⟩;have hi:=qb (P:=P) (ν:=ν) (cr:=cr) (x:=x0) (st:=⟨0,[]⟩) c4 c5 c6 hl hnp (fun i hi=>(hargs i hi).aZ (cH hnl i) (fun _ h=>h) (fun _ _=>rfl)) hs0 hf0;have hcs:=nK (C:={P,ν,cr,slots:=slotsOf fn,ntmps:=fn.ntmps,vm:=GJ P fn}) (hΓ.at 0) (kH fn).1 hmix x0 (fun _ _=>rfl) body af.body c2 _ _ _ _ x0 hw hi (.refl _);refine calls_of_wp hf c1 (wp_mono hcs fun e a w' hp=>?_);obtain⟨e',x',env',st',he,hxw,hst,hi',hh,hro,hrpo,hrp⟩:=hp;subst hxw;obtain⟨v,r1,r2,r3⟩:=mC hΓ.small hi' c3 hro;have hI:∀b,(x'.lf (look st'.m)).I b->b<x'.w.heap.size:=by
  intro b hb;rcases hb with h|⟨l,⟨b',base,tot⟩,h1,h2,h3⟩
  .exact hi'.lC.imm b h
  .subst h2;exact hi'.lC.ek l _ _ _ h1
 have hnew:∀b,(x'.lf (look st'.m)).I b->x.I b\/x.w.heap.size<=b:=by
  intro b hb;rcases hb with h|⟨l,p,h1,h2,h3⟩
  .rcases hst.newI b h with h|h|⟨l,p,h,_⟩
   .exact .inl h
   .exact .inr h
   .cases h
  .subst h2;rcases hst.newβ l p h1 with h|h|⟨l',p',h,_⟩
   .cases h
   .exact .inr h
   .cases h
 have hps:lE x ⟨x'.w,(x'.lf (look st'.m)).I,x.β⟩:=
  ⟨⟨hst.os,hst.tape,hst.output,hst.size,fun b hb=>hst.old b hb fun l p h=>by cases h⟩,fun b hb=>.inl (hst.I b hb),hnew,hI,rfl⟩
 have hrd:RD ν ⟨x'.w,(x'.lf (look st'.m)).I,x.β⟩ v d:=by
  rw[<-hrp];have key:∀(v:Value) (d:D),RD ν (x'.lf (look st'.m)) v d->d.aZ=true->RD ν ⟨x'.w,(x'.lf (look st'.m)).I,x.β⟩ v d:=fun v d h hn=>h.aZ hn (fun _ h=>h) (fun _ _=>rfl)
  unfold jl at r2;unfold Ea at hrpo;unfold Oc;rcases hres:af.res with _|⟨r,_|⟨r2',rs⟩⟩
  .simp only[hres]at r2 hrpo⊢;generalize hvs:n5 st'.m env' []=vs at r2 hrpo⊢;cases r2 with
   |tup cs _ hl' hh'=>
    obtain⟨q1,q2,q3⟩:=jk hi'.lC (fun _ _=>rfl) af.rsh vs (fun j=>cs.getD j undef) hh' hrpo;exact .tup cs _ (by rw[q1,hl']) fun i hi=>key _ _ (q3 i ah) (cH q2 i)
  .simp only[hres]at r2 hrpo⊢;obtain⟨q1,q2⟩:=qZ hi'.lC (fun _ _=>rfl) _ _ _ r2 hrpo;exact key _ _ q1 q2
  .simp only[hres]at r2 hrpo⊢;generalize hvs:n5 st'.m env' (r::r2'::rs)=vs at r2 hrpo⊢;cases r2 with
   |tup cs _ hl' hh'=>
    obtain⟨q1,q2,q3⟩:=jk hi'.lC (fun _ _=>rfl) af.rsh vs (fun j=>cs.getD j undef) hh' hrpo;exact .tup cs _ (by rw[q1,hl']) fun i hi=>key _ _ (q3 i ah) (cH q2 i)
 rcases Ex.vy hh with h|h<;>rw[h]at he<;>subst he<;>exact⟨hi'.defers,v,r1,⟨x'.w,(x'.lf (look st'.m)).I,x.β⟩,rfl,hps,hrd⟩
def Ud {fid:Nat}{fn:Func}{af:ax}(hΓ:Ok P ν cr Y)(hmix:P.follows .mixedOrders=true)(hf:P.funcs[fid]? =some fn)(hc:compile P ν cr fn=some af)
  {x:X} {args:Array Value} {ds:List D} {st:St} {K:D->St->Prop} (hl:args.size=ds.length) (hargs:∀i,i<ds.length->RD ν x (args.getD i undef) (ds.getD i .any)) (hs:eK ν x (look st.m)) (hfr:ez st x)
  (hw:trOf Y af ds st K):
  Calls P fid args x.w fun
   | .returned v,w'=>∃x',x'.w=w'/\∃d st',K d st'/\Step x x'/\RD ν x' v d/\eK ν x' (look st'.m)/\ez st' x'
   |_,_=>False:=by
 obtain⟨body,c1,c2,c3,c4,c5,c6⟩:=fI hc;obtain⟨hnp,hw⟩:=hw;have hi:=qb (P:=P) (ν:=ν) (cr:=cr) (x:=x) (st:=st) c4 c5 c6 hl hnp hargs hs hfr;have hcs:=nK (C:={P,ν,cr,slots:=slotsOf fn,ntmps:=fn.ntmps,vm:=GJ P fn}) (hΓ.at st.nx) (kH fn).1 hmix x (fun l h=>hfr.β l h) body af.body c2 _ _ _ _ x hw hi (.refl _);refine calls_of_wp hf c1 (wp_mono hcs fun e a w' hp=>?_);obtain⟨e',x',env',st',he,hxw,hst,hi',hh,hro,hk⟩:=hp;subst hxw;obtain⟨v,r1,r2,r3⟩:=mC hΓ.small hi' c3 hro;rcases Ex.vy hh with h|h<;>rw[h]at he<;>subst he<;>exact⟨hi'.defers,v,r1,x',rfl,_,st',hk,hst,r2,hi'.lC,hi'.fresh⟩
def P1 {fid:Nat}{fn:Func}{af:ax}{vd sd:D}(hΓ:Ok P ν cr Y)(hmix:P.follows .mixedOrders=true)(hf:P.funcs[fid]? =some fn)(hc:compile P ν cr fn=some af)
  {x:X} {f:Nat->Option bL} {args:Array Value} {l k:Nat} {d:D} {ds:List D} (hl:args.size=ds.length+1) (h0:RD ν x (args.getD 0 undef) (.ptr l k 0 0)) (hargs:∀i,i<ds.length->RD ν x (args.getD (i+1) undef) (ds.getD i .any))
  (hs:eK ν x f) (hfl:f l=some (.buf k [d])) (hd:d.aZ=true) (hnl:aR ds=true) (hnp:ds.length+1=af.np)
  (hw:bO (Y.at 1) af.body (fun e env st=>e.home/\mN st.m env af.res/\(jl af env st).aZ=true/\jl af env st=vd/\look st.m 0=some (.buf k [sd])/\sd.aZ=true) (fC af (.ptr 0 k 0 0::ds)) ⟨1,[(0,.buf k [d])]⟩):
  Calls P fid args x.w fun
   | .returned v,w'=>∃x',x'.w=w'/\Step x x'/\RD ν x' v vd/\eK ν x' (fun l'=>if l'=l then some (.buf k [sd])else f l')/\x'.β=x.β
   |_,_=>False:=by
 obtain⟨body,c1,c2,c3,c4,c5,c6⟩:=fI hc;obtain⟨b,base,tot,hβ,ha0⟩:∃b base tot,x.β l=some (b,base,tot)/\args.getD 0 undef=.pointer (some ⟨b,base,none⟩):=by
  generalize args.getD 0 undef=v0 at h0;cases h0 with
  |ptr _ _ _ _ b base tot at_ hβ hat=>exact⟨b,base,tot,hβ,by simp[hat]⟩
 let x1:X:=⟨x.w,x.I,fun l'=>if l'=0 then x.β l else none⟩
 have hx1:∀l' p,x1.β l'=some p->l'=0/\p=(b,base,tot):=by
  intro l' p h;simp only[x1]at h;split at h
  .rename_i e;rw[hβ]at h;exact⟨e,(bd h).symm⟩
  .cases h
 have hx1':x1.β 0=some (b,base,tot):=by simp[x1,hβ]
 have key1:∀(v:Value) (d:D),RD ν x v d->d.aZ=true->RD ν x1 v d:=fun v d h hn=>h.aZ hn (fun _ h=>h) (fun _ _=>rfl)
 have hbR:=hs.own l _ b base tot hfl hβ;have hs1:eK ν x1 (look [(0,.buf k [d])]):=by
  refine⟨fun l' blk b' base' tot' e1 e2=>?_,fun l1 l2 b' base' tot' base'' tot'' e1 e2 e3 e4=>(hx1 _ _ e3).1.trans (hx1 _ _ e4).1.symm,hs.imm,fun l' b' base' tot' e=>?_,di.le x _ (fun _ h=>h) (fun _ _=>rfl) hs.gd⟩
  .obtain⟨rfl,e3⟩:=hx1 _ _ e2;simp only[dm]at e3;obtain⟨rfl,rfl,rfl⟩:=e3;simp only[look,aY,aP]at e1;subst e1;refine⟨hbR.1, ?_⟩;obtain⟨p1,p2,c,T,fr,p3,p4,p5,p6⟩:=hbR.2;refine⟨p1,p2,c,T,fr,p3,p4,p5,fun i hi=>⟨(p6 i hi).1,fun j hj=>⟨((p6 i hi).2 j hj).1,key1 _ _ ((p6 i hi).2 j hj).2 ?_⟩⟩⟩;have:i=0:=by simpa using hi
   subst this;exact j1 (by simpa using hd) j
  .obtain⟨_,e3⟩:=hx1 _ _ e;simp only[dm]at e3;rw[e3.1];exact hs.ek l b base tot hβ
 have hf1:ez ⟨1,[(0,.buf k [d])]⟩ x1:=⟨fun l' hl'=>by
   cases h:x1.β l' with
   |none=>rfl
   |some p=>have:=(hx1 _ _ h).1;simp only at hl';omega,fun l' hl'=>by
   simp only[look]at hl';split at hl'
   .rename_i e;simp only;omega
   .exact absurd rfl hl'⟩
 have hi:=qb (P:=P) (ν:=ν) (cr:=cr) (x:=x1) (ds:=.ptr 0 k 0 0::ds) (st:=⟨1,[(0,.buf k [d])]⟩) c4 c5 c6 (args:=args) (by simpa using hl) (by simpa using hnp) (fun i hi=>by
  cases i with
  |zero=>simp only[gB];rw[ha0];exact .ptr 0 k 0 0 b base tot base hx1' bg
  |succ i=>simp only[List.getD_cons_succ];exact key1 _ _ (hargs i (by simpa using hi)) (cH hnl i)) hs1 hf1
 have hcs:=nK (C:={P,ν,cr,slots:=slotsOf fn,ntmps:=fn.ntmps,vm:=GJ P fn}) (hΓ.at 1) (kH fn).1 hmix x1 (fun l h=>hf1.β l h) body af.body c2 _ _ _ _ x1 hw hi (.refl _);refine calls_of_wp hf c1 (wp_mono hcs fun e a w' hp=>?_);obtain⟨e',x',env',st',he,hxw,hst,hi',hh,hro,hrn,hrv,hlk,hsn⟩:=hp;subst hxw;obtain⟨v,r1,r2,r3⟩:=mC hΓ.small hi' c3 hro
 let x2:X:=⟨x'.w,x'.I,x.β⟩
 have key2:∀(v:Value) (d:D),RD ν x' v d->d.aZ=true->RD ν x2 v d:=fun v d h hn=>h.aZ hn (fun _ h=>h) (fun _ _=>rfl)
 have hb':x'.β 0=some (b,base,tot):=hst.β _ _ hx1';have hnewI:∀b',x'.I b'->x.I b'\/x.w.heap.size<=b'\/b'=b:=by
  intro b' h;rcases hst.newI b' h with h|h|⟨l',p,h1,h2⟩
  .exact .inl h
  .exact .inr (.inl h)
  .right;right;rw[<-h2,(hx1 _ _ h1).2]
 have hstep:Step x x2:=by
  refine⟨hst.os,hst.tape,hst.output,hst.size,hst.I,hst.lK,fun _ _ h=>h,fun b' hb' hn=>hst.old b' hb' fun l' p h e=>?_,fun b' h=>?_,fun _ _ h=>.inl h⟩
  .have:=hn l _ hβ;rw[(hx1 _ _ h).2]at e;exact this e
  .rcases hnewI b' h with h|h|h
   .exact .inl h
   .exact .inr (.inl h)
   .exact .inr (.inr ⟨l,_,hβ,h.symm⟩)
 have hsim:eK ν x2 (fun l'=>if l'=l then some (.buf k [sd])else f l'):=by
  have hbb:=hi'.lC.own 0 _ b base tot hlk hb';refine⟨fun l' blk b' base' tot' e1 e2=>?_,fun l1 l2 b' base' tot' base'' tot'' e1 e2 e3 e4=>?_,hi'.lC.imm,fun l' b' base' tot' e=>iV (hs.ek l' b' base' tot' e) hst.size,di.le x' _ (fun _ h=>h) (fun _ _=>rfl) hi'.lC.gd⟩
  .by_cases hll:l'=l
   .subst hll;simp only[aY,aP]at e1;subst e1;have e2':x.β l'=some (b',base',tot'):=e2;rw[hβ]at e2';simp only[aP,dm]at e2';obtain⟨rfl,rfl,rfl⟩:=e2';refine⟨hbb.1, ?_⟩;obtain⟨p1,p2,c,T,fr,p3,p4,p5,p6⟩:=hbb.2;refine⟨p1,p2,c,T,fr,p3,p4,p5,fun i hi=>⟨(p6 i hi).1,fun j hj=>⟨((p6 i hi).2 j hj).1,key2 _ _ ((p6 i hi).2 j hj).2 ?_⟩⟩⟩;have:i=0:=by simpa using hi
    subst this;exact j1 (by simpa using hsn) j
   .simp only[aj hll]at e1;have e2':x.β l'=some (b',base',tot'):=e2;obtain⟨q1,q2⟩:=hs.own l' blk b' base' tot' e1 e2';have hne:b'≠b:=fun e=>by subst e;exact hll (hs.inj l' l b' base' tot' base tot (by rw[e1];simp) (by rw[hfl];simp) e2' hβ)
    have hlt:=hs.ek l' b' base' tot' e2';refine⟨fun h=>?_,q2.mono hstep.le (hst.old b' hlt fun l'' p h e=>hne (by rw[<-e,(hx1 _ _ h).2]))⟩;rcases hnewI b' h with h|h|h
    .exact q1 h
    .omega
    .exact hne h
  .have hne:∀l',(if l'=l then some (bL.buf k [sd])else f l')≠none->f l'≠none:=fun l' h=>by
    by_cases e:l'=l
    .rw[e,hfl];simp
    .rwa [aj e]at h
   exact hs.inj l1 l2 b' base' tot' base'' tot'' (hne _ e1) (hne _ e2) e3 e4
 rw[hrv]at r2;rcases Ex.vy hh with h|h<;>rw[h]at he<;>subst he<;>exact⟨hi'.defers,v,r1,x2,rfl,hstep,key2 _ _ r2 (by rw[<-hrv];exact hrn),hsim,rfl⟩
structure SW where
 key:Nat->Nat
 mu:Nat->List D->Nat
 muE:Nat->List D->St->Nat
def Ctx.under (Y:Ctx)(R:SW)(k u:Nat):Ctx where
 pre n ds:=(R.key n<k\/R.key n=k/\R.mu n ds<u)/\Y.pre n ds
 val:=Y.val
 tr n ds st K:=(R.key n<k\/R.key n=k/\R.muE n ds st<u)/\Y.tr n ds st K
 fp n d ds:=(R.key n<k\/R.key n=k/\R.mu n (d::ds)<u)/\Y.fp n d ds
 fv:=Y.fv
 fs:=Y.fs
 lo:=Y.lo
def ZY (R:SW)(hsm:∀fid n,dp ν fid=some n->n<1000000)(hB:∀t,cr.contains (1000000000+t)=true->t=di.tB)(hG:∀g,cr.contains (500000000+g)=true/\g<400000000->di.gz g)
  (hp:∀fid n,dp ν fid=some n->∀ds,Y.pre n ds->Ok P ν cr (Y.under R (R.key n) (R.mu n ds))->∀(x:X) (args:Array Value),args.size=ds.length->(∀i,i<ds.length->RD ν x (args.getD i undef) (ds.getD i .any))->aR ds=true->
    (∀b,x.I b->b<x.w.heap.size)->di.gd x->iI P x (fun v x'=>lE x x'/\RD ν x' v (Y.val n ds)) ((callFunc fid args).run P x.w))
  (hf:∀fid n,dp ν fid=some n->cr.contains (2*n+1)=true->∀(d:D) (ds:List D),Y.fp n d ds->Ok P ν cr (Y.under R (R.key n) (R.mu n (d::ds)))->∀(x:X) (f:Nat->Option bL) (args:Array Value) (l k:Nat),args.size=ds.length+1->
    RD ν x (args.getD 0 undef) (.ptr l k 0 0)->(∀i,i<ds.length->RD ν x (args.getD (i+1) undef) (ds.getD i .any))->eK ν x f->f l=some (.buf k [d])->d.aZ=true->aR ds=true->
    iI P x (fun v x'=>Step x x'/\RD ν x' v (Y.fv n d ds)/\eK ν x' (fun l'=>if l'=l then some (.buf k [Y.fs n d ds])else f l')/\x'.β=x.β) ((callFunc fid args).run P x.w))
  (he:∀fid n,dp ν fid=some n->∀(ds:List D) (st:St) (K:D->St->Prop),Y.tr n ds st K->Ok P ν cr (Y.under R (R.key n) (R.muE n ds st))->∀(x:X) (args:Array Value),args.size=ds.length->(∀i,i<ds.length->RD ν x (args.getD i undef) (ds.getD i .any))->
    eK ν x (look st.m)->ez st x->iI P x (fun v x'=>∃d st',K d st'/\Step x x'/\RD ν x' v d/\eK ν x' (look st'.m)/\ez st' x') ((callFunc fid args).run P x.w)):Ok P ν cr Y:=by
 have key:∀k u,Ok P ν cr (Y.under R k u):=by
  intro k;induction k using Nat.strongRecOn with
  |_ k ihk=>
   intro u;induction u using Nat.strongRecOn with
   |_ u ihu=>
    refine⟨hsm,hB,hG,fun fid n hn x args ds hl hargs hnl himm hgd hpre=>?_,fun fid n hn hef x f args l kk d ds hl h0 hargs hs hfl hd hnl hpre=>?_,fun fid n hn x args ds st K hl hargs hs hf' htr=>?_⟩
    .obtain⟨hlt,hpre⟩:=hpre;refine hp fid n hn ds hpre ?_ x args hl hargs hnl himm hgd;rcases hlt with h|⟨h1,h2⟩
     .exact ihk _ h _
     .rw[h1];exact ihu _ h2
    .obtain⟨hlt,hpre⟩:=hpre;refine hf fid n hn hef d ds hpre ?_ x f args l kk hl h0 hargs hs hfl hd hnl;rcases hlt with h|⟨h1,h2⟩
     .exact ihk _ h _
     .rw[h1];exact ihu _ h2
    .obtain⟨hlt,htr⟩:=htr;refine he fid n hn ds st K htr ?_ x args hl hargs hs hf';rcases hlt with h|⟨h1,h2⟩
     .exact ihk _ h _
     .rw[h1];exact ihu _ h2
 refine⟨hsm,hB,hG,fun fid n hn x args ds hl hargs hnl himm hgd hpre=>?_,fun fid n hn hef x f args l kk d ds hl h0 hargs hs hfl hd hnl hpre=>?_,fun fid n hn x args ds st K hl hargs hs hf' htr=>?_⟩
 .exact hp fid n hn ds hpre (key _ _) x args hl hargs hnl himm hgd
 .exact hf fid n hn hef d ds hpre (key _ _) x f args l kk hl h0 hargs hs hfl hd hnl
 .exact he fid n hn ds st K htr (key _ _) x args hl hargs hs hf'
def fY {fid:Nat}{fn:Func}(hf:P.funcs[fid]? =some fn)(hn:(fn.name== "runtime.NumGoroutine")=false)(hb:fn.body.isSome=true)(args:Array Value)(w:World):(callFunc fid args).run P w=.ok (.enter fid args) w:=by
 have h1:fn.name≠ "runtime.NumGoroutine" :=by simpa using hn
 have h2:fn.body≠none:=by intro h;rw[h]at hb;cases hb
 simp[callFunc,hf,h1,h2]
end
end
def cD {p:Prop}(h:p:=by first|exact fun _=>rfl|exact fun h=>h|(intro h;simp_all)):p:=h
def dt {p:Prop}(h:p:=by first|exact rfl|exact⟨_,_,rfl,rfl⟩):p:=h
def yK {p:Prop}(h:p:=by first|exact fun _=>rfl|(intro h;omega)|(intro h;simp at h;omega)):p:=h
def tM {p:Prop}(h:p:=by intro h;repeat' first|exact trivial|exact rfl|exact h|refine And.intro ?_ ?_|decide):p:=h
def tN {p:Prop}(h:p:=by simp only[aT,aX,Nat.reduceAdd];exact rfl):p:=h
def sB {p:Prop}(h:p:=by intro h;first|omega|(simp at h;omega)):p:=h
def GQ {p:Prop}(h:p:=by intro h;first|(constructor<;>omega)|(simp at h;constructor<;>omega)):p:=h
section
section
variable {Y:Ctx} {Q Q':Ex->List bI->St->Prop} {env:List bI} {st:St}
def Ctx.cj (Y:Ctx):Prop:=∀f ds st (K K':D->St->Prop),(∀d st,K d st->K' d st)->Y.tr f ds st K->Y.tr f ds st K'
def gv {draw:Bool}{K K':List bI->St->Prop}(h:∀vs st,K vs st->K' vs st)(htr:Y.cj):∀(l:List GI) (env vs:List bI) (st:St),ew Y draw l env vs st K->ew Y draw l env vs st K'
 |[],env,vs,st,hh=>h _ _ hh
 |⟨i,g⟩::r,env,vs,st,hh=>by
  cases hcm:i.cN with
  |true=>
   cases i<;>simp only[aG.cN]at hcm<;>try(cases hcm;done)
   .exact⟨hh.1,fun hf=>⟨(hh.2.1 hf).1,htr _ _ _ _ _ (fun d st' ⟨h1,h2⟩=>⟨h1,gv h htr r _ _ _ h2⟩) (hh.2.1 hf).2⟩,fun hf=>gv h htr r _ _ _ (hh.2.2 hf)⟩
   .rename_i fv args;simp only[ew]at hh⊢;refine⟨hh.1,fun hf=>⟨(hh.2.1 hf).1,(hh.2.1 hf).2.1, ?_⟩,fun hf=>gv h htr r _ _ _ (hh.2.2 hf)⟩;have h3:=(hh.2.1 hf).2.2;cases hd:(Src.ev env vs fv).d<;>simp only[hd]at h3⊢;exact⟨h3.1,htr _ _ _ _ _ (fun d st' ⟨h1,h2⟩=>⟨h1,gv h htr r _ _ _ h2⟩) h3.2⟩
   .exact⟨hh.1,fun hf=>⟨(hh.2.1 hf).1,(hh.2.1 hf).2.1,fun b hb=>gv h htr r _ _ _ ((hh.2.1 hf).2.2 b hb)⟩,fun hf=>gv h htr r _ _ _ (hh.2.2 hf)⟩
   .exact⟨hh.1,hh.2.1,htr _ _ _ _ _ (fun d st' ⟨h1,h2,h3⟩=>⟨h1,h2,gv h htr r _ _ _ h3⟩) hh.2.2⟩
  |false=>
   cases hf:i.jQ draw g with
   |true=>
    rw[tE hcm hf]at hh⊢;exact⟨hh.1,fun e=>⟨(hh.2.1 e).1,gv h htr r _ _ _ (hh.2.1 e).2⟩,fun e=>gv h htr r _ _ _ (hh.2.2 e)⟩
   |false=>
    rw[jt hcm hf]at hh⊢;exact⟨hh.1,hh.2.1,fun ha=>(hh.2.2 ha).imp fun _ h2=>⟨h2.1,gv h htr r _ _ _ h2.2⟩⟩
def Gh.mono {lo:Nat}{p q:List bI->St->Prop}(h:∀env st,p env st->q env st):Gh lo p env st->Gh lo q env st
 |⟨e,s,h1,h2⟩=>⟨e,s,h1,h _ _ h2⟩
def Gh.intro {lo:Nat}{p:List bI->St->Prop}(h:p env st):Gh lo p env st:=⟨env,st,.refl _ _,h⟩
def gy (htr:Y.cj):∀(a:AC) (Q Q':Ex->List bI->St->Prop) (env:List bI) (st:St),(∀e env st,Q e env st->Q' e env st)->bO Y a Q env st->bO Y a Q' env st
 | .reg draw ins cm,Q,Q',env,st,h,hh=>Gh.mono (fun env st h2=>gv (fun vs st=>h _ _ _) htr _ _ _ _ h2) hh
 | .seq a b,Q,Q',env,st,h,hh=>Gh.mono (fun env st h2=>gy htr a _ _ env st (fun e env st h2=>by
   cases e with
   |normal=>exact gy htr b Q Q' env st h h2
   |exit id=>exact h _ _ _ h2
   |ret=>exact h _ _ _ h2) h2) hh
 | .cond c a b,Q,Q',env,st,h,hh=>Gh.mono (fun env st h2=>by
  refine⟨h2.1, ?_⟩;have:=h2.2;cases hd:(c.ev env []).d<;>simp only[hd]at this⊢;exact⟨fun ht=>gy htr a Q Q' env st h (this.1 ht),fun ht=>gy htr b Q Q' env st h (this.2 ht)⟩) hh
 | .block id a,Q,Q',env,st,h,hh=>Gh.mono (fun env st h2=>gy htr a _ _ env st (fun e env st h2=>by
   cases e with
   |normal=>exact h _ _ _ h2
   |exit j=>simp only at h2⊢;split<;>rename_i hj<;>simp only[hj,aY,aS]at h2<;>exact h _ _ _ h2
   |ret=>exact h _ _ _ h2) h2) hh
 | .loop a,Q,Q',env,st,h,hh=>Gh.mono (fun env st h2=>by
  obtain⟨I,μ,h1,h2⟩:=h2;refine⟨I,μ,h1,fun env st hi=>gy htr a _ _ env st (fun e env' st' h3=>?_) (h2 env st hi)⟩;cases e with
  |normal=>exact h3
  |exit id=>exact h _ _ _ h3
  |ret=>exact h _ _ _ h3) hh
 | .exit id,Q,Q',env,st,h,hh=>Gh.mono (fun _ _=>h _ _ _) hh
 | .ret,Q,Q',env,st,h,hh=>Gh.mono (fun _ _=>h _ _ _) hh
 | .skip,Q,Q',env,st,h,hh=>Gh.mono (fun _ _=>h _ _ _) hh
def eI {a:AC}{env':List bI}{st':St}(g:aO Y.lo env st env' st')(h:bO Y a Q env' st'):bO Y a Q env st:=by
 cases a<;>(obtain⟨e2,s2,g2,h2⟩:=h;exact⟨e2,s2,.trans _ _ _ _ _ _ g g2,h2⟩)
def BQ (Y:Ctx)(id:Nat)(r:AC)(Q:Ex->List bI->St->Prop):Ex->List bI->St->Prop:=fun e env st=>match e with
 | .normal=>bO Y r Q env st
 | .exit j=>if j=id then bO Y r Q env st else Q (.exit j) env st
 | .ret=>Q .ret env st
def LQ (Y:Ctx)(id:Nat)(r:AC)(next:List bI->St->Prop)(Q:Ex->List bI->St->Prop):Ex->List bI->St->Prop:=fun e env st=>match e with
 | .normal=>next env st
 | .exit j=>if j=id then bO Y r Q env st else Q (.exit j) env st
 | .ret=>Q .ret env st
def BQ.normal {id:Nat}{r:AC}(h:bO Y r Q env st):BQ Y id r Q .normal env st:=h
def BQ.out {id:Nat}{r:AC}(h:bO Y r Q env st):BQ Y id r Q (.exit id) env st:=by simp only[BQ,aY];exact h
def BQ.other {id j:Nat}{r:AC}(hj:(j==id)=false)(h:Q (.exit j) env st):BQ Y id r Q (.exit j) env st:=by simp only[BQ,aj (by simpa using hj)];exact h
def BQ.ret {id:Nat}{r:AC}(h:Q .ret env st):BQ Y id r Q .ret env st:=h
def LQ.normal {id:Nat}{r:AC}{next:List bI->St->Prop}(h:next env st):LQ Y id r next Q .normal env st:=h
def LQ.out {id:Nat}{r:AC}{next:List bI->St->Prop}(h:bO Y r Q env st):LQ Y id r next Q (.exit id) env st:=by simp only[LQ,aY];exact h
def LQ.other {id j:Nat}{r:AC}{next:List bI->St->Prop}(hj:(j==id)=false)(h:Q (.exit j) env st):LQ Y id r next Q (.exit j) env st:=by simp only[LQ,aj (by simpa using hj)];exact h
def LQ.ret {id:Nat}{r:AC}{next:List bI->St->Prop}(h:Q .ret env st):LQ Y id r next Q .ret env st:=h
def OK {a b c:AC}(h:bO Y (.seq a (.seq b c)) Q env st):bO Y (.seq (.seq a b) c) Q env st:=by
 obtain⟨e1,s1,g1,h1⟩:=h;refine⟨e1,s1,g1,e1,s1,.refl _ _, ?_⟩;have:∀(Q1 Q2:Ex->List bI->St->Prop),Q1=Q2->bO Y a Q1 e1 s1->bO Y a Q2 e1 s1:=fun _ _ e h=>e▸h
 refine this _ _ ?_ h1;funext e env st;cases e with
 |normal=>exact propext ⟨fun⟨e2,s2,g2,h2⟩=>eI g2 h2,fun h=>⟨_,_,.refl _ _,h⟩⟩
 |exit id=>rfl
 |ret=>rfl
def GM {b:AC}(h:bO Y b Q env st):bO Y (.seq .skip b) Q env st:=.intro (.intro h)
def wp_skip (h:Q .normal env st):bO Y .skip Q env st:=.intro h
def K9 {b:AC}(h:Q .ret env st):bO Y (.seq .ret b) Q env st:=.intro (.intro h)
def wp_ret (h:Q .ret env st):bO Y .ret Q env st:=.intro h
def GL {id:Nat}{b:AC}(h:Q (.exit id) env st):bO Y (.seq (.exit id) b) Q env st:=.intro (.intro h)
def wp_exit {id:Nat}(h:Q (.exit id) env st):bO Y (.exit id) Q env st:=.intro h
def EH {id:Nat}{a r:AC}(h:bO Y a (BQ Y id r Q) env st)(htr:Y.cj):bO Y (.seq (.block id a) r) Q env st:=by
 refine .intro (.intro (gy htr a _ _ _ _ (fun e env st h=>?_) h));cases e with
 |normal=>exact h
 |exit j=>simp only[BQ]at h⊢;split<;>rename_i hj<;>simp only[hj,aY,aS]at h<;>exact h
 |ret=>exact h
def wp_block {id:Nat}{a:AC}(h:bO Y a (BQ Y id .skip Q) env st)(htr:Y.cj)(hQ:∀e env env' st st',aO Y.lo env st env' st'->Q e env' st'->Q e env st):bO Y (.block id a) Q env st:=by
 refine .intro (gy htr a _ _ _ _ (fun e env st h=>?_) h);have hs:∀env st,bO Y .skip Q env st->Q .normal env st:=fun env st ⟨e2,s2,g2,h2⟩=>hQ _ _ _ _ _ g2 h2
 cases e with
 |normal=>exact hs _ _ h
 |exit j=>simp only[BQ]at h⊢;split<;>rename_i hj<;>simp only[hj,aY,aS]at h<;>first|exact hs _ _ h|exact h
 |ret=>exact h
def CQ (next:List bI->St->Prop)(Q:Ex->List bI->St->Prop):Ex->List bI->St->Prop:=fun e env st=>match e with
 | .normal=>next env st
 | .exit j=>Q (.exit j) env st
 | .ret=>Q .ret env st
def CQ.normal {next:List bI->St->Prop}(h:next env st):CQ next Q .normal env st:=h
def CQ.other {next:List bI->St->Prop}{j:Nat}(h:Q (.exit j) env st):CQ next Q (.exit j) env st:=h
def CQ.ret {next:List bI->St->Prop}(h:Q .ret env st):CQ next Q .ret env st:=h
def EO (id:Nat)(Q:Ex->List bI->St->Prop):Ex->List bI->St->Prop:=fun e env st=>match e with
 | .normal=>Q .normal env st
 | .exit j=>if j=id then Q .normal env st else Q (.exit j) env st
 | .ret=>Q .ret env st
def EO.normal {id:Nat}(h:Q .normal env st):EO id Q .normal env st:=h
def EO.out {id:Nat}(h:Q .normal env st):EO id Q (.exit id) env st:=by simp only[EO,aY];exact h
def EO.other {id j:Nat}(hj:(j==id)=false)(h:Q (.exit j) env st):EO id Q (.exit j) env st:=by grind [EO]
def EO.ret {id:Nat}(h:Q .ret env st):EO id Q .ret env st:=h
def K8 {id:Nat}{a:AC}(h:bO Y a (EO id Q) env st)(htr:Y.cj):bO Y (.block id a) Q env st:=by
 refine .intro (gy htr a _ _ _ _ (fun e env st h=>?_) h);cases e with
 |normal=>exact h
 |exit j=>simp only[EO]at h⊢;split<;>rename_i hj<;>simp only[hj,aY,aS]at h<;>exact h
 |ret=>exact h
def Cd (htr:Y.cj){a b:AC}{ι:Type}(F:ι->List bI)(G:ι->List (Nat×bL))(c:Nat)(P:ι->Prop)
  (h1:bO Y a (CQ (fun env' st'=>∃j,P j/\aO Y.lo env' st' (F j) ⟨c,G j⟩) Q) env st)
  (h2:∀i,P i->bO Y b Q (F i) ⟨c,G i⟩):bO Y (.seq a b) Q env st:=by
 refine .intro (gy htr a _ _ _ _ (fun e env st h=>?_) h1);cases e with
 |normal=>obtain⟨j,hj,g⟩:=h;exact eI g (h2 j hj)
 |exit j=>exact h
 |ret=>exact h
def a7 (htr:Y.cj){a r:AC}{id:Nat}{ι:Type}(F:ι->List bI)(G:ι->List (Nat×bL))(c:Nat)(P:ι->Prop)(μ:ι->Nat)(i0:ι)
  (hP:P i0) (h0:aO Y.lo env st (F i0) ⟨c,G i0⟩)
  (hr:∀i,P i->bO Y a (LQ Y id r (fun env' st'=>∃j,P j/\μ j<μ i/\aO Y.lo env' st' (F j) ⟨c,G j⟩) Q) (F i) ⟨c,G i⟩):bO Y (.seq (.block id (.loop a)) r) Q env st:=by
 let W:List bI->St->Nat->Prop:=fun env st k=>∃i,env=F i/\st=⟨c,G i⟩/\P i/\μ i=k
 have least:∀env st,(∃k,W env st k)->∃k,W env st k/\∀k',W env st k'->k<=k':=by
  intro env st ⟨k,hk⟩;induction k using Nat.strongRecOn with
  |_ k ih=>
   by_cases h:∃k',k'<k/\W env st k'
   .obtain⟨k',h1,h2⟩:=h;exact ih k' h1 h2
   .exact⟨k,hk,fun k' hk'=>by
     rcases dQ k' k with h1|h1
     .exact absurd ⟨k',h1,hk'⟩ h
     .exact h1⟩
 open Classical in
 refine .intro (.intro ⟨_,_,h0,fun env st=>∃k,W env st k,fun env st=>if h:∃k,W env st k then Classical.choose (least env st h)else 0,⟨_,i0,rfl,rfl,hP,rfl⟩,fun env st hk=>?_⟩);obtain⟨⟨i,e1,e2,e3,e5⟩,hmin⟩:=Classical.choose_spec (least env st hk);have:=hr i e3;rw[<-e1,<-e2]at this;refine gy htr a _ _ env st ?_ this
 .intro e env' st' h;cases e with
  |normal=>
   obtain⟨j,b3,b5,g⟩:=h;have hW:W (F j) ⟨c,G j⟩ (μ j):=⟨j,rfl,rfl,b3,rfl⟩;refine⟨F j,⟨c,G j⟩,g,⟨_,hW⟩, ?_⟩;show(if h:∃k,W (F j) ⟨c,G j⟩ k then Classical.choose (least _ _ h)else 0)<(if h:∃k,W env st k then Classical.choose (least env st h)else 0);rw[dif_pos ⟨_,hW⟩,dif_pos hk,<-e5];exact Nat.lt_of_le_of_lt ((Classical.choose_spec (least _ _ ⟨_,hW⟩)).2 _ hW) b5
  |exit j=>simp only[LQ]at h⊢;split<;>rename_i hj<;>simp only[hj,aY,aS]at h<;>exact h
  |ret=>exact h
def ES (id:Nat)(next:List bI->St->Prop)(Q:Ex->List bI->St->Prop):Ex->List bI->St->Prop:=fun e env st=>match e with
 | .normal=>next env st
 | .exit j=>if j=id then Q .normal env st else Q (.exit j) env st
 | .ret=>Q .ret env st
def ES.normal {id:Nat}{next:List bI->St->Prop}(h:next env st):ES id next Q .normal env st:=h
def ES.out {id:Nat}{next:List bI->St->Prop}(h:Q .normal env st):ES id next Q (.exit id) env st:=by simp only[ES,aY];exact h
def ES.other {id j:Nat}{next:List bI->St->Prop}(hj:(j==id)=false)(h:Q (.exit j) env st):ES id next Q (.exit j) env st:=by grind [ES]
def ES.ret {id:Nat}{next:List bI->St->Prop}(h:Q .ret env st):ES id next Q .ret env st:=h
def sz (htr:Y.cj){a:AC}{id:Nat}{ι:Type}(F:ι->List bI)(G:ι->List (Nat×bL))(c:Nat)(P:ι->Prop)(μ:ι->Nat)(i0:ι)
  (hP:P i0) (h0:aO Y.lo env st (F i0) ⟨c,G i0⟩)
  (hr:∀i,P i->bO Y a (ES id (fun env' st'=>∃j,P j/\μ j<μ i/\aO Y.lo env' st' (F j) ⟨c,G j⟩) Q) (F i) ⟨c,G i⟩):bO Y (.block id (.loop a)) Q env st:=by
 let W:List bI->St->Nat->Prop:=fun env st k=>∃i,env=F i/\st=⟨c,G i⟩/\P i/\μ i=k
 have least:∀env st,(∃k,W env st k)->∃k,W env st k/\∀k',W env st k'->k<=k':=by
  intro env st ⟨k,hk⟩;induction k using Nat.strongRecOn with
  |_ k ih=>
   by_cases h:∃k',k'<k/\W env st k'
   .obtain⟨k',h1,h2⟩:=h;exact ih k' h1 h2
   .exact⟨k,hk,fun k' hk'=>by
     rcases dQ k' k with h1|h1
     .exact absurd ⟨k',h1,hk'⟩ h
     .exact h1⟩
 open Classical in
 refine .intro ⟨_,_,h0,fun env st=>∃k,W env st k,fun env st=>if h:∃k,W env st k then Classical.choose (least env st h)else 0,⟨_,i0,rfl,rfl,hP,rfl⟩,fun env st hk=>?_⟩;obtain⟨⟨i,e1,e2,e3,e5⟩,hmin⟩:=Classical.choose_spec (least env st hk);have:=hr i e3;rw[<-e1,<-e2]at this;refine gy htr a _ _ env st ?_ this
 .intro e env' st' h;cases e with
  |normal=>
   obtain⟨j,b3,b5,g⟩:=h;have hW:W (F j) ⟨c,G j⟩ (μ j):=⟨j,rfl,rfl,b3,rfl⟩;refine⟨F j,⟨c,G j⟩,g,⟨_,hW⟩, ?_⟩;show(if h:∃k,W (F j) ⟨c,G j⟩ k then Classical.choose (least _ _ h)else 0)<(if h:∃k,W env st k then Classical.choose (least env st h)else 0);rw[dif_pos ⟨_,hW⟩,dif_pos hk,<-e5];exact Nat.lt_of_le_of_lt ((Classical.choose_spec (least _ _ ⟨_,hW⟩)).2 _ hW) b5
  |exit j=>simp only[ES]at h⊢;split<;>rename_i hj<;>simp only[hj,aY,aS]at h<;>exact h
  |ret=>exact h
def nth:List bI->Nat->bI
 |[],_=>.un
 |a::_,0=>a
 |_::r,n+1=>nth r n
def xJ:∀(l:List bI) (n:Nat),l.getD n .un=nth l n
 |[],n=>by simp[nth]
 |a::_,0=>by simp[nth]
 |_::r,n+1=>by simpa[nth]using xJ r n
def cP (env rs:List bI):Src->bI
 | .s n=>nth env n
 | .l p=>bif Nat.blt p rs.length then nth rs (rs.length-1-p)else .un
 | .c d=>⟨true,d⟩
theorem mj (env rs:List bI):Src.ev env rs.reverse=cP env rs:=by
 funext s;cases s with
 |s n=>exact xJ env n
 |l p=>
  simp only[Src.ev,cP];cases h:Nat.blt p rs.length with
  |true=>
   have:p<rs.length:=by simp[Nat.blt]at h;omega
   rw[cond_true,<-xJ]
   grind
  |false=>
   have:¬p<rs.length:=by intro e;have:Nat.blt p rs.length=true:=by {simp[Nat.blt];omega};rw[this]at h;cases h
   grind
 |c d=>rfl
def aI (Y:Ctx)(draw:Bool)(l:List GI)(env rs:List bI)(nx:Nat)(m:List (Nat×bL))(K:List bI->St->Prop):Prop:=ew Y draw l env rs.reverse ⟨nx,m⟩ K
def LY (env rs:List bI):List (Nat×Nat)->List bI
 |[]=>env
 |(s,p)::r=>LY (env.set s (cP [] rs (.l p))) rs r
theorem Ff (rs:List bI):∀(cm:List (Nat×Nat)) (env:List bI),fZ env rs.reverse cm=LY env rs cm
 |[],env=>rfl
 |(s,p)::r,env=>by
  simp only[fZ,LY];rw[Ff rs r,<-congrFun (mj [] rs) (.l p)];rfl
def ai {draw:Bool}{ins:List GI}{cm:List (Nat×Nat)}{b:AC}{nx:Nat}{m:List (Nat×bL)}
  (h:aI Y draw ins env [] nx m (fun vs st'=>bO Y b Q (fZ env vs cm) st')):bO Y (.seq (.reg draw ins cm) b) Q env ⟨nx,m⟩:=.intro (.intro h)
def VN {draw:Bool}{ins:List GI}{cm:List (Nat×Nat)}{nx:Nat}{m:List (Nat×bL)}
  (h:aI Y draw ins env [] nx m (fun vs st'=>Q .normal (fZ env vs cm) st')):bO Y (.reg draw ins cm) Q env ⟨nx,m⟩:=.intro h
def QK {draw:Bool}{cm:List (Nat×Nat)}{b:AC}{nx nx':Nat}{m:List (Nat×bL)}{rs fC env':List bI}(h:bO Y b Q env' ⟨nx',m⟩)
  (he:LY env rs cm=env':=by exact rfl) (hn:nx+rs.length=nx':=by exact tN):aI Y draw [] fC rs nx m (fun vs st'=>bO Y b Q (fZ env vs cm) st'):=by
 grind [aI,ew,Ff]
def QL {draw:Bool}{cm:List (Nat×Nat)}{nx nx':Nat}{m:List (Nat×bL)}{rs fC env':List bI}(h:Q .normal env' ⟨nx',m⟩)
  (he:LY env rs cm=env':=by exact rfl) (hn:nx+rs.length=nx':=by exact tN):aI Y draw [] fC rs nx m (fun vs st'=>Q .normal (fZ env vs cm) st'):=by
 grind [aI,ew,Ff]
def bC {c:Src}{a b r:AC}{t:Bool}(h1:t=true->bO Y (.seq a r) Q env st)(h2:t=false->bO Y (.seq b r) Q env st)(hc:cP env [] c=⟨true,.bool t⟩:=by exact rfl):bO Y (.seq (.cond c a b) r) Q env st:=by
 have hc':c.ev env []=⟨true,.bool t⟩:=by rw[<-hc,<-mj];rfl
 refine .intro (.intro ?_);simp only[hc'];refine⟨trivial,fun ht=>?_,fun ht=>?_⟩
 .obtain⟨e,s,g,h⟩:=h1 ht;exact eI g h
 .obtain⟨e,s,g,h⟩:=h2 ht;exact eI g h
def wp_cond {c:Src}{a b:AC}{t:Bool}(h1:t=true->bO Y a Q env st)(h2:t=false->bO Y b Q env st)(hc:cP env [] c=⟨true,.bool t⟩:=by exact rfl):bO Y (.cond c a b) Q env st:=by
 have hc':c.ev env []=⟨true,.bool t⟩:=by rw[<-hc,<-mj];rfl
 refine .intro ?_
 grind
def aO.to {lo c nx nx':Nat}{env env':List bI}{m m':List (Nat×bL)}(σ:List (Nat×Nat))(hc:nx'=c)(h:fk lo c σ=true)(he:aL lo σ env env')(hm:aB lo c σ m m'):aO lo env ⟨nx,m⟩ env' ⟨nx',m'⟩:=by
 subst hc;exact .ren σ nx' env env' nx m m' h he hm
theorem aE {α β:Type}(q:α->β)(xs:List α):(xs.map q).take xs.length=xs.map q:=gY bg
def bH {α:Type}{q:α->D}(h:∀x,(q x).aZ=true):∀xs:List α,aR (xs.map q)=true
 |[]=>rfl
 |a::r=>by simp only[List.map_cons,aR,h a,bH h r,fh]
def aO.fz {lo:Nat}{env env' env2:List bI}{nx k:Nat}{m m':List (Nat×bL)}{es:List D}{st2:St}(l:Nat)(hl:look m l=some (.buf k es))(hn:aR es=true)(he:iS l k es env=env')(hm:jf l k es (cA m l)=m')(h:aO lo env' ⟨nx,m'⟩ env2 st2):aO lo env ⟨nx,m⟩ env2 st2:=by
 have:=aO.Ld (lo:=lo) l env ⟨nx,m⟩;simp only[Abs.Ld,hl,hn,cond_true,he,hm]at this;exact .trans _ _ _ _ _ _ this h
def dd {a:AC}{nx k:Nat}{m m':List (Nat×bL)}{es:List D}{env env':List bI}(l:Nat)(h:bO Y a Q env' ⟨nx,m'⟩)(hl:look m l=some (.buf k es):=by exact rfl)(hn:aR es=true:=by first|exact rfl|exact bH (fun _=>rfl) _)
  (he:iS l k es env=env':=by simp only[iS,eS,fL,jf,jx,cA,Nat.reduceEqDiff,aY,aS,cx,b9,bW,cv,cw,bq,bc,aM,bP,aE,reduceCtorEq,aT,aX,Nat.reduceAdd,Nat.reduceLeDiff];exact rfl)
  (hm:jf l k es (cA m l)=m':=by simp only[iS,eS,fL,jf,jx,cA,Nat.reduceEqDiff,aY,aS,cx,b9,bW,cv,cw,bq,bc,aM,bP,aE,reduceCtorEq,aT,aX,Nat.reduceAdd,Nat.reduceLeDiff];exact rfl):bO Y a Q env ⟨nx,m⟩:=
 eI (aO.fz l hl hn he hm (.refl _ _)) h
def Rd.rf:∀e:List bI,Rd e e
 |[]=>trivial
 |_::r=>⟨⟨rfl,.refl _⟩,Rd.rf r⟩
def GX.nil:GX [] []:=⟨rfl,fun _=>.refl _⟩
def GX.cons {x y:D}{a b:List D}(h:yP x y)(h2:GX a b):GX (x::a) (y::b):=⟨by simp[h2.1],fun i=>by cases i with
 |zero=>exact h
 |succ i=>simpa using h2.2 i⟩
def GX.rf (a:List D):GX a a:=⟨rfl,fun _=>.refl _⟩
def GX.map {α:Type}{q p:α->D}:∀{xs:List α},(∀x∈xs,yP (q x) (p x))->GX (xs.map q) (xs.map p)
 |[],_=>.nil
 |x::r,h=>.cons (h x (.head _)) (GX.map fun y hy=>h y (.tail _ hy))
def yP.ag {a b:List D}(h:GX a b):yP (.agg a) (.agg b):=.agg _ _ h.1 h.2
def yP.ss {k:Nat}{a b:List D}(h:GX a b):yP (.sl k a) (.sl k b):=.sl _ _ _ h.1 h.2
def oJ.nil {m:List (Nat×bL)}:oJ m []:=trivial
def oJ.id {m r:List (Nat×bL)}{l:Nat}{b:bL}(h:look m l=some b)(h2:oJ m r):oJ m ((l,b)::r):=⟨⟨b,h,by cases b<;>first|exact⟨rfl,.rf _⟩|exact rfl⟩,h2⟩
def oJ.bf {m r:List (Nat×bL)}{l k:Nat}{es es':List D}(h:look m l=some (.buf k es))(hw:GX es es')(h2:oJ m r):oJ m ((l,.buf k es')::r):=⟨⟨_,h,rfl,hw⟩,h2⟩
def sA {a:AC}{nx:Nat}{m:List (Nat×bL)}{env:List bI}(m':List (Nat×bL))(hm:oJ m m')(h:bO Y a Q env ⟨nx,m'⟩):bO Y a Q env ⟨nx,m⟩:=eI (.nz _ _ _ _ _ (Rd.rf _) hm) h
def aL.nil {lo:Nat}{σ:List (Nat×Nat)}:aL lo σ [] []:=trivial
def aL.un {lo:Nat}{σ:List (Nat×Nat)}{a:bI}{r s:List bI}(h:aL lo σ r s):aL lo σ (a::r) (.un::s):=⟨.inr rfl,h⟩
def aL.eq {lo:Nat}{σ:List (Nat×Nat)}{ok:Bool}{d d':D}{r s:List bI}(hd:kO lo σ d=some d')(h:aL lo σ r s):aL lo σ (⟨ok,d⟩::r) (⟨ok,d'⟩::s):=⟨.inl ⟨rfl,.inr (.inl hd)⟩,h⟩
theorem aL.nl {lo:Nat}{σ:List (Nat×Nat)}{ok:Bool}{d d':D}{r s:List bI}(hd:d'=d)(hn:d.aZ=true)(h:aL lo σ r s):aL lo σ (⟨ok,d⟩::r) (⟨ok,d'⟩::s):=⟨.inl ⟨rfl,.inl ⟨hd,hn⟩⟩,h⟩
def aL.ni {lo:Nat}{σ:List (Nat×Nat)}{ok:Bool}{d d':D}{r s:List bI}(hd:pL d d')(h:aL lo σ r s):aL lo σ (⟨ok,d⟩::r) (⟨ok,d'⟩::s):=⟨.inl ⟨rfl,.inr (.inr hd)⟩,h⟩
section
variable {lo c:Nat} {σ:List (Nat×Nat)} {m r:List (Nat×bL)}
def aB.nil:aB lo c σ m []:=trivial
theorem aB.nl {k l':Nat}{es es':List D}(l:Nat)(hl:gD lo σ l=some l')(hm:look m l=some (.buf k es))(he:es'=es)(hn:aR es=true)(h:aB lo c σ m r):aB lo c σ m ((l',.buf k es')::r):=
 ⟨.inl ⟨l,_,hl,hm,rfl,.inl ⟨he,hn⟩⟩,h⟩
def aB.eq {k l':Nat}{es es':List D}(l:Nat)(hl:gD lo σ l=some l')(hm:look m l=some (.buf k es))(he:jm lo σ es=some es')(h:aB lo c σ m r):aB lo c σ m ((l',.buf k es')::r):=
 ⟨.inl ⟨l,_,hl,hm,rfl,.inr (.inl he)⟩,h⟩
def aB.ni {k l':Nat}{es es':List D}(l:Nat)(hl:gD lo σ l=some l')(hm:look m l=some (.buf k es))(he:EY es es')(h:aB lo c σ m r):aB lo c σ m ((l',.buf k es')::r):=
 ⟨.inl ⟨l,_,hl,hm,rfl,.inr (.inr he)⟩,h⟩
def aB.ee {k l':Nat}{es':List D}(hl:gD lo σ l'=some l')(hm:look m l'=some (.buf k es'))(hn:aR es'=true)(h:aB lo c σ m r):aB lo c σ m ((l',.buf k es')::r):=.nl l' hl hm rfl hn h
def aB.ep {k l':Nat}{es' es:List D}(hl:gD lo σ l'=some l')(hm:look m l'=some (.buf k es))(he:jm lo σ es=some es')(h:aB lo c σ m r):aB lo c σ m ((l',.buf k es')::r):=.eq l' hl hm he h
def aB.mt {k l':Nat}{es':List D}(h1:Nat.ble lo l'=true)(h2:Nat.blt l' c=true)(h3:σ.all (fun p=>!Nat.beq p.2 l')=true)(he:es'=[])(h:aB lo c σ m r):aB lo c σ m ((l',.buf k es')::r):=
 ⟨.inr ⟨h1,h2,h3,k,by rw[he]⟩,h⟩
def aB.it {l' p p':Nat}{s s':List UInt8}(l:Nat)(hl:gD lo σ l=some l')(hm:look m l=some (.iter s p))(hs:s'=s)(hp:p'=p)(h:aB lo c σ m r):aB lo c σ m ((l',.iter s' p')::r):=
 ⟨.inl ⟨l,_,hl,hm,hs,hp⟩,h⟩
def aB.oE {l' p p':Nat}{s s':List UInt8}(hl:gD lo σ l'=some l')(hm:look m l'=some (.iter s p))(hs:s'=s)(hp:p'=p)(h:aB lo c σ m r):aB lo c σ m ((l',.iter s' p')::r):=.it l' hl hm hs hp h
def aB.rw {l':Nat}{s s':List UInt8}(l:Nat)(hl:gD lo σ l=some l')(hm:look m l=some (.row s))(hs:s'=s)(h:aB lo c σ m r):aB lo c σ m ((l',.row s')::r):=
 ⟨.inl ⟨l,_,hl,hm,hs⟩,h⟩
def aB.bl {l' l1 l2 n n':Nat}{u u':Bool}(l:Nat)(hl:gD lo σ l=some l')(hm:look m l=some (.bld (some l1) n u))(h1:gD lo σ l1=some l2)(hn:n'=n)(hu:u'=u)(h:aB lo c σ m r):aB lo c σ m ((l',.bld (some l2) n' u')::r):=
 ⟨.inl ⟨l,_,hl,hm,⟨l2,h1,rfl⟩,hn,hu⟩,h⟩
def aB.b0 {l' n n':Nat}{u u':Bool}(l:Nat)(hl:gD lo σ l=some l')(hm:look m l=some (.bld none n u))(hn:n'=n)(hu:u'=u)(h:aB lo c σ m r):aB lo c σ m ((l',.bld none n' u')::r):=
 ⟨.inl ⟨l,_,hl,hm,rfl,hn,hu⟩,h⟩
end
mutual
def xC (m:List (Nat×bL)):Sh->D->D
 | .a,d=>match d with
  | .bM=>.sl 0 []
  |d=>d
 | .sl k cs,d=>match d with
  | .bM=>.sl k []
  | .own l k' i c=>.sl k' ((((bh m l).drop i).take c).map fun e=>match e with
   | .agg ds=>.agg (xL m cs ds)
   |e=>xH m cs e)
  |d=>d
 | .pt cs,d=>match d with
  | .ptr l k i o=>.ref k ((bh m l).map fun e=>match e with
   | .agg ds=>.agg (xL m cs ds)
   |e=>xH m cs e) i o
  |d=>d
 | .kp cs,d=>match d with
  | .own l k' i c=>.sl k' ((((bh m l).drop i).take c).map fun e=>match e with
   | .agg ds=>.agg (xL m cs ds)
   |e=>xH m cs e)
  |d=>d
def xH (m:List (Nat×bL)):List Sh->D->D
 |[],d=>d
 |s::_,d=>xC m s d
def xL (m:List (Nat×bL)):List Sh->List D->List D
 |[],ds=>ds
 |s::r,ds=>match ds with
  |[]=>[]
  |d::ds=>xC m s d::xL m r ds
end
def xV (m:List (Nat×bL))(cs:List Sh):D->D
 | .agg ds=>.agg (xL m cs ds)
 |e=>xH m cs e
mutual
def OM (m:List (Nat×bL)):Sh->D->Prop
 | .a,d=>d.aZ=true
 | .sl _ cs,d=>match d with
  | .own l k' i c=>eM m l k' (i+c)/\∀e∈((bh m l).drop i).take c,(match e with
   | .agg ds=>GP m cs ds
   |e=>Q3 m cs e)
  |d=>d.aZ=true
 | .pt cs,d=>match d with
  | .ptr l k _ _=>eM m l k 0/\∀e∈bh m l,(match e with
   | .agg ds=>GP m cs ds
   |e=>Q3 m cs e)
  |d=>d.aZ=true
 | .kp cs,d=>match d with
  | .own l k' i c=>eM m l k' (i+c)/\∀e∈((bh m l).drop i).take c,(match e with
   | .agg ds=>GP m cs ds
   |e=>Q3 m cs e)
  |d=>d.aZ=true
def Q3 (m:List (Nat×bL)):List Sh->D->Prop
 |[],d=>d.aZ=true
 |s::_,d=>OM m s d
def GP (m:List (Nat×bL)):List Sh->List D->Prop
 |[],ds=>aR ds=true
 |s::r,ds=>match ds with
  |[]=>True
  |d::ds=>OM m s d/\GP m r ds
end
def OO (m:List (Nat×bL))(cs:List Sh):D->Prop
 | .agg ds=>GP m cs ds
 |e=>Q3 m cs e
mutual
theorem ON (m:List (Nat×bL)):∀(s:Sh) (d:D),jF m s d=xC m s d/\(gH m s d↔OM m s d)
 | .a,d=>by cases d<;>simp only[jF,xC,gH,OM]<;>exact⟨trivial,trivial⟩
 | .sl k cs,d=>by
  cases d<;>simp only[jF,xC,gH,OM]<;>first
   |exact⟨trivial,trivial⟩
   |skip
  rename_i l k' i c;exact⟨aC (D.sl k') (List.map_congr_left fun e _=>(yJ m cs e).1),and_congr_right fun _=>forall_congr' fun e=>imp_congr_right fun _=>(yJ m cs e).2⟩
 | .pt cs,d=>by
  cases d<;>simp only[jF,xC,gH,OM]<;>first
   |exact⟨trivial,trivial⟩
   |skip
  rename_i l k' i c;exact⟨aC (fun x=>D.ref k' x i c) (List.map_congr_left fun e _=>(yJ m cs e).1),and_congr_right fun _=>forall_congr' fun e=>imp_congr_right fun _=>(yJ m cs e).2⟩
 | .kp cs,d=>by
  cases d<;>simp only[jF,xC,gH,OM]<;>first
   |exact⟨trivial,trivial⟩
   |skip
  rename_i l k' i c;exact⟨aC (D.sl k') (List.map_congr_left fun e _=>(yJ m cs e).1),and_congr_right fun _=>forall_congr' fun e=>imp_congr_right fun _=>(yJ m cs e).2⟩
theorem yJ (m:List (Nat×bL)):∀(cs:List Sh) (d:D),il m cs d=(match d with
   | .agg ds=>.agg (xL m cs ds)
   |e=>xH m cs e)/\(fM m cs d↔(match d with
   | .agg ds=>GP m cs ds
   |e=>Q3 m cs e))
 |[],d=>by cases d<;>simp only[il,xH,xL,fM,Q3,GP,D.aZ]<;>first|exact⟨trivial,Iff.rfl⟩|exact⟨trivial,trivial⟩
 |s::r,d=>by
  cases d<;>simp only[il,xH,fM,Q3]<;>first
   |exact ON m s _
   |skip
  rename_i ds;exact⟨aC D.agg (H0 m (s::r) ds).1,(H0 m (s::r) ds).2⟩
theorem H0 (m:List (Nat×bL)):∀(cs:List Sh) (ds:List D),ll m cs ds=xL m cs ds/\(js m cs ds↔GP m cs ds)
 |[],ds=>by simp only[ll,xL,js,GP];exact⟨trivial,trivial⟩
 |s::r,[]=>by simp only[ll,xL,js,GP];exact⟨trivial,trivial⟩
 |s::r,d::ds=>by
  simp only[ll,xL,js,GP,(ON m s d).1,(H0 m r ds).1];exact⟨trivial,and_congr (ON m s d).2 (H0 m r ds).2⟩
end
theorem AD (m:List (Nat×bL))(cs:List Sh)(d:D):il m cs d=xV m cs d/\(fM m cs d↔OO m cs d):=by
 have:=yJ m cs d;cases d<;>exact this
def kN (m:List (Nat×bL)):List (List Sh)->List D->List D
 |_,[]=>[]
 |[],d::r=>xV m [.a] d::kN m [] r
 |s::ss,d::r=>xV m s d::kN m ss r
def ke (m:List (Nat×bL)):List (List Sh)->List D->Prop
 |_,[]=>True
 |[],d::r=>OO m [.a] d/\ke m [] r
 |s::ss,d::r=>OO m s d/\ke m ss r
theorem dz (m:List (Nat×bL)):∀(ss:List (List Sh)) (ds:List D),fV m ss ds=kN m ss ds/\(iB m ss ds↔ke m ss ds)
 |ss,[]=>by simp[fV,kN,iB,ke]
 |[],d::r=>by
  simp only[fV,kN,iB,ke,(AD m [.a] d).1,(dz m [] r).1];exact⟨trivial,and_congr (AD m _ d).2 (dz m [] r).2⟩
 |s::ss,d::r=>by
  simp only[fV,kN,iB,ke,(AD m s d).1,(dz m ss r).1];exact⟨trivial,and_congr (AD m _ d).2 (dz m ss r).2⟩
def SX (a:ax)(d:D):Ex->List bI->St->Prop:=fun e env st=>e.home/\mN st.m env a.res/\Ea a env st/\Oc a env st=d
def Lb (a:ax)(env:List bI)(m:List (Nat×bL)):D:=match a.res with
 |[r]=>xV m (a.rsh.getD 0 []) (BZ m env r)
 |rs=>.tup (kN m a.rsh (n5 m env rs))
def AE (a:ax)(env:List bI)(m:List (Nat×bL)):Prop:=match a.res with
 |[r]=>OO m (a.rsh.getD 0 []) (BZ m env r)
 |rs=>ke m a.rsh (n5 m env rs)
def Gp {a:ax}{d:D}{e:Ex}{nx:Nat}{m:List (Nat×bL)}(he:e.home)(h1:mN m env a.res)(h2:AE a env m)(h3:Lb a env m=d):SX a d e env ⟨nx,m⟩:=by
 refine⟨he,h1, ?_, ?_⟩
 .unfold Ea;unfold AE at h2;split<;>rename_i hr
  .rw[hr]at h2;exact(AD _ _ _).2.2 h2
  .split at h2
   .rename_i hr2;exact absurd hr2 (hr _)
   .exact(dz _ _ _).2.2 h2
 grind [Oc,Lb,AD,dz]
def AI (a:ax)(k:Nat)(vd sd:D):Ex->List bI->St->Prop:=fun e env st=>e.home/\mN st.m env a.res/\(jl a env st).aZ=true/\jl a env st=vd/\look st.m 0=some (.buf k [sd])/\sd.aZ=true
def hZ {a:ax}{k:Nat}{vd sd:D}{e:Ex}{nx:Nat}{m:List (Nat×bL)}(he:e.home)(h1:mN m env a.res)(h2:jl a env ⟨nx,m⟩=vd)(h3:look m 0=some (.buf k [sd]))(hn:vd.aZ=true)(hs:sd.aZ=true):AI a k vd sd e env ⟨nx,m⟩:=⟨he,h1,by rw[h2];exact hn,h2,h3,hs⟩
end
end
section
section
variable {Y:Ctx} {draw:Bool} {r:List GI} {env rs:List bI} {nx:Nat} {m:List (Nat×bL)} {K:List bI->St->Prop} {g:Option (Nat×Bool)} {f:Bool}
def at8 (s:List UInt8)(i:Nat):Int:=((s.getD i 0).toNat:Int)
def AN (s:List UInt8)(i:Nat):0<=at8 s i/\at8 s i<256:=by
 have:=(s.getD i 0).toNat_lt;unfold at8;omega
def D.Uq:D->Bool
 | .str _=>true
 |_=>false
def wrap_i64 {a:Int}(h1:-9223372036854775808<=a)(h2:a<=9223372036854775807):IntKind.i64.wrap a=a:=IntWalk.i64_in _ ah
def nG (a b:List UInt8):(a==b)=decide (a=b):=by
 grind
def getD_map {α:Type} [Inhabited α]{q:α->D}{xs:List α}{i:Nat}(h:i<xs.length):(xs.map q).getD i .any=q xs[i]! :=by
 simp[List.getD,h]
def VI (b:UInt8):(D.int .u8 b.toNat).u8=b:=by simp[D.u8]
def PC (s:List UInt8):D.str ((s.map fun b=>D.int .u8 b.toNat).map D.u8)=.str s:=by
 congr 1;rw[List.map_map]
 conv=>rhs;rw[<-List.map_id s]
 apply List.map_congr_left;intro b _;exact VI b
def GF (rs:List bI):Option (Nat×Bool)->Bool->Prop
 |none,f=>f=true
 |some (j,w),f=>∃ok b,cP [] rs (.l j)=⟨ok,.bool b⟩/\(ok&&(b==w))=f
def GF.flag (h:GF rs g f):flag rs.reverse g=f/\uI rs.reverse g:=by
 cases g with
 |none=>exact⟨h.symm,trivial⟩
 |some jw=>
  obtain⟨j,w⟩:=jw;obtain⟨ok,b,h1,h2⟩:=h;have h3:rs.reverse.getD j .un=⟨ok,.bool b⟩:=by rw[<-h1,<-mj];rfl
  simp only[Abs.flag,uI,h3,h2,D.isBool];exact⟨trivial,fun _=>trivial⟩
def NH {i:aG}(hM:i.cN=false)(hF:i.jQ draw g=false)(hC:g.isSome=true->i.calm=true)(hg:GF rs g f)(d:D)(ho:f=true->i.dE Y (cP env rs) m)
  (hv:f=true->i.val Y (cP env rs) m (nx+rs.length)=d) (m':List (Nat×bL)) (hm:i.cr Y (cP env rs) m (nx+rs.length)=m')
  (h:(f=true->i.zh draw (cP env rs))->aI Y draw r env (⟨f,d⟩::rs) nx m' K):aI Y draw (⟨i,g⟩::r) env rs nx m K:=by
 obtain⟨hf,hb⟩:=hg.flag;unfold aI;rw[jt hM hF,mj,hf];refine⟨?_,ho,fun ha=>⟨d,by simpa using hv, ?_⟩⟩
 .cases g with
  |none=>trivial
  |some jw=>exact⟨hC rfl,hb⟩
 grind [aI]
def fO {i:aG}(hC:i.calm=true)(hg:GF rs g f)(d:D)(ho:f=true->i.dE Y (cP env rs) m)
  (hv:f=true->i.val Y (cP env rs) m (nx+rs.length)=d) (m':List (Nat×bL)) (hm:i.cr Y (cP env rs) m (nx+rs.length)=m')
  (h:(f=true->i.zh draw (cP env rs))->aI Y draw r env (⟨f,d⟩::rs) nx m' K):aI Y draw (⟨i,g⟩::r) env rs nx m K:=
 NH (by cases i<;>first|rfl|cases hC) (by simp[aG.jQ,hC]) (fun _=>hC) hg d ho hv m' hm h
def cg {i:aG}(hC:i.pure=true)(hg:GF rs g f)(d:D)(ho:f=true->i.dE Y (cP env rs) m)
  (hv:f=true->i.val Y (cP env rs) m (nx+rs.length)=d) 
  (h:(f=true->i.zh draw (cP env rs))->aI Y draw r env (⟨f,d⟩::rs) nx m K):aI Y draw (⟨i,g⟩::r) env rs nx m K:=
 fO (Kt hC) hg d ho hv m (DA hC) h
def nZ {i:aG}(hM:i.cN=false)(d:D)(ho:i.dE Y (cP env rs) m)
  (hv:i.val Y (cP env rs) m (nx+rs.length)=d) (m':List (Nat×bL)) (hm:i.cr Y (cP env rs) m (nx+rs.length)=m')
  (h:i.zh draw (cP env rs)->aI Y draw r env (⟨true,d⟩::rs) nx m' K):aI Y draw (⟨i,none⟩::r) env rs nx m K:=
 NH hM (by simp[aG.jQ]) (fun h=>by cases h) rfl d (fun _=>ho) (fun _=>hv) m' hm (fun ha=>h (ha rfl))
def NI {i:aG}{j:Nat}{w:Bool}(hM:i.cN=false)(hC:i.calm=false)(hg:GF rs (some (j,w)) f)(h1:f=true->∃d,i.dE Y (cP env rs) m/\i.val Y (cP env rs) m (nx+rs.length)=d/\∃m',i.cr Y (cP env rs) m (nx+rs.length)=m'/\aI Y false r env (⟨true,d⟩::rs) nx m' K)
  (h2:f=false->aI Y false r env (⟨false,.any⟩::rs) nx m K):aI Y false (⟨i,some (j,w)⟩::r) env rs nx m K:=by
 obtain⟨hf,hb⟩:=hg.flag
 grind [aI,tE,aG.jQ,mj]
def r_mv {x:Src}{fx:Bool}{d:D}(h:aI Y draw r env (⟨f,d⟩::rs) nx m K)(hg:GF rs g f:=by exact dt)(hx:cP env rs x=⟨fx,d⟩:=by exact rfl)(kx:f=true->fx=true:=by exact cD):aI Y draw (⟨.mv x,g⟩::r) env rs nx m K:=
 cg rfl hg _ (fun hf=>by simp[aG.dE,hx,kx hf]) (fun hf=>by simp[aG.val,hx]) (fun ha=>h)
def r_not {x:Src}{fx:Bool}{b:Bool}(h:aI Y draw r env (⟨f,.bool (!b)⟩::rs) nx m K)(hg:GF rs g f:=by exact dt)(hx:cP env rs x=⟨fx,.bool b⟩:=by exact rfl)(kx:f=true->fx=true:=by exact cD):aI Y draw (⟨.un .not x,g⟩::r) env rs nx m K:=
 cg rfl hg _ (fun hf=>by simp[aG.dE,hx,kx hf]) (fun hf=>by simp[aG.val,hx]) (fun ha=>h)
def r_or {c b:Src}{fc fb t y:Bool}(h:aI Y draw r env (⟨f,.bool (t ||y)⟩::rs) nx m K)(hg:GF rs g f:=by exact dt)(hc:cP env rs c=⟨fc,.bool t⟩:=by exact rfl)(hb:cP env rs b=⟨fb,.bool y⟩:=by exact rfl)(kc:f=true->fc=true:=by exact cD)(kb:f=true->t=false->fb=true:=by intro h1 h2;first|(rw[h2];exact rfl)|(rw[h2,h1];rfl)|(rw[h1,h2];rfl)|simp_all):aI Y draw (⟨.pick c (.c (.bool true)) b,g⟩::r) env rs nx m K:=
 cg rfl hg _ (fun hf=>by simp only[aG.dE,hc,hb];exact⟨kc hf,fun _=>rfl,fun e=>kb hf e⟩) (fun hf=>by simp only[aG.val,hc,hb];cases t<;>rfl) (fun _=>h)
def Z8 {c a:Src}{fc fa t y:Bool}(h:aI Y draw r env (⟨f,.bool (t&&y)⟩::rs) nx m K)(hg:GF rs g f:=by exact dt)(hc:cP env rs c=⟨fc,.bool t⟩:=by exact rfl)(ha:cP env rs a=⟨fa,.bool y⟩:=by exact rfl)(kc:f=true->fc=true:=by exact cD)(ka:f=true->t=true->fa=true:=by intro h1 h2;first|(rw[h2];exact rfl)|(rw[h2,h1];rfl)|(rw[h1,h2];rfl)|simp_all):aI Y draw (⟨.pick c a (.c (.bool false)),g⟩::r) env rs nx m K:=
 cg rfl hg _ (fun hf=>by simp only[aG.dE,hc,ha];exact⟨kc hf,fun e=>ka hf e,fun _=>rfl⟩) (fun hf=>by simp only[aG.val,hc,ha];cases t<;>rfl) (fun _=>h)
def ba {x y:Src}{fx fy:Bool}{a b:Int}(h:aI Y draw r env (⟨f,.int .i64 (a+b)⟩::rs) nx m K)(hg:GF rs g f:=by exact dt)(hx:cP env rs x=⟨fx,.int .i64 a⟩:=by exact rfl)(hy:cP env rs y=⟨fy,.int .i64 b⟩:=by exact rfl)(kx:f=true->fx=true:=by exact cD)(ky:f=true->fy=true:=by exact cD)(hb:f=true->-9223372036854775808<=a+b/\a+b<=9223372036854775807:=by exact GQ):aI Y draw (⟨.bin .add x y,g⟩::r) env rs nx m K:=
 cg rfl hg _ (fun hf=>by simp[aG.dE,hx,hy,kx hf,ky hf,iu]) (fun hf=>by simp only[aG.val,hx,hy,jh];rw[wrap_i64 (hb hf).1 (hb hf).2]) (fun ha=>h)
def ND {x y:Src}{fx fy:Bool}{k:IntKind}{a b:Int}(v:Int)(h:aI Y draw r env (⟨f,.int k v⟩::rs) nx m K)(hg:GF rs g f:=by exact dt)(hx:cP env rs x=⟨fx,.int k a⟩:=by exact rfl)(hy:cP env rs y=⟨fy,.int k b⟩:=by exact rfl)(kx:f=true->fx=true:=by exact cD)(ky:f=true->fy=true:=by exact cD)(hb:f=true->k.wrap (a+b)=v):aI Y draw (⟨.bin .add x y,g⟩::r) env rs nx m K:=
 cg rfl hg _ (fun hf=>by simp[aG.dE,hx,hy,kx hf,ky hf,iu]) (fun hf=>by simp only[aG.val,hx,hy,jh];rw[hb hf]) (fun ha=>h)
def iN {x y:Src}{fx fy:Bool}{a b:Int}(h:aI Y draw r env (⟨f,.int .i64 (a-b)⟩::rs) nx m K)(hg:GF rs g f:=by exact dt)(hx:cP env rs x=⟨fx,.int .i64 a⟩:=by exact rfl)(hy:cP env rs y=⟨fy,.int .i64 b⟩:=by exact rfl)(kx:f=true->fx=true:=by exact cD)(ky:f=true->fy=true:=by exact cD)(hb:f=true->-9223372036854775808<=a-b/\a-b<=9223372036854775807:=by exact GQ):aI Y draw (⟨.bin .sub x y,g⟩::r) env rs nx m K:=
 cg rfl hg _ (fun hf=>by simp[aG.dE,hx,hy,kx hf,ky hf,iu]) (fun hf=>by simp only[aG.val,hx,hy,jh];rw[wrap_i64 (hb hf).1 (hb hf).2]) (fun ha=>h)
def BK {x y:Src}{fx fy:Bool}{k:IntKind}{a b:Int}(v:Int)(h:aI Y draw r env (⟨f,.int k v⟩::rs) nx m K)(hg:GF rs g f:=by exact dt)(hx:cP env rs x=⟨fx,.int k a⟩:=by exact rfl)(hy:cP env rs y=⟨fy,.int k b⟩:=by exact rfl)(kx:f=true->fx=true:=by exact cD)(ky:f=true->fy=true:=by exact cD)(hb:f=true->k.wrap (a-b)=v):aI Y draw (⟨.bin .sub x y,g⟩::r) env rs nx m K:=
 cg rfl hg _ (fun hf=>by simp[aG.dE,hx,hy,kx hf,ky hf,iu]) (fun hf=>by simp only[aG.val,hx,hy,jh];rw[hb hf]) (fun ha=>h)
def HK {x y:Src}{fx fy:Bool}{a b:Int}(h:aI Y draw r env (⟨f,.int .i64 (a*b)⟩::rs) nx m K)(hg:GF rs g f:=by exact dt)(hx:cP env rs x=⟨fx,.int .i64 a⟩:=by exact rfl)(hy:cP env rs y=⟨fy,.int .i64 b⟩:=by exact rfl)(kx:f=true->fx=true:=by exact cD)(ky:f=true->fy=true:=by exact cD)(hb:f=true->-9223372036854775808<=a*b/\a*b<=9223372036854775807:=by exact GQ):aI Y draw (⟨.bin .mul x y,g⟩::r) env rs nx m K:=
 cg rfl hg _ (fun hf=>by simp[aG.dE,hx,hy,kx hf,ky hf,iu]) (fun hf=>by simp only[aG.val,hx,hy,jh];rw[wrap_i64 (hb hf).1 (hb hf).2]) (fun ha=>h)
def NO {x y:Src}{fx fy:Bool}{k:IntKind}{a b:Int}(v:Int)(h:aI Y draw r env (⟨f,.int k v⟩::rs) nx m K)(hg:GF rs g f:=by exact dt)(hx:cP env rs x=⟨fx,.int k a⟩:=by exact rfl)(hy:cP env rs y=⟨fy,.int k b⟩:=by exact rfl)(kx:f=true->fx=true:=by exact cD)(ky:f=true->fy=true:=by exact cD)(hb:f=true->k.wrap (a*b)=v):aI Y draw (⟨.bin .mul x y,g⟩::r) env rs nx m K:=
 cg rfl hg _ (fun hf=>by simp[aG.dE,hx,hy,kx hf,ky hf,iu]) (fun hf=>by simp only[aG.val,hx,hy,jh];rw[hb hf]) (fun ha=>h)
def r_quo {x y:Src}{fx fy:Bool}{k:IntKind}{a b:Int}(v:Int)(h:aI Y draw r env (⟨f,.int k v⟩::rs) nx m K)(hg:GF rs g f:=by exact dt)(hx:cP env rs x=⟨fx,.int k a⟩:=by exact rfl)(hy:cP env rs y=⟨fy,.int k b⟩:=by exact rfl)(kx:f=true->fx=true:=by exact cD)(ky:f=true->fy=true:=by exact cD)(hn:f=true->b≠0)(hb:f=true->k.wrap (a.tdiv b)=v):aI Y draw (⟨.bin .quo x y,g⟩::r) env rs nx m K:=
 cg rfl hg _ (fun hf=>by simp[aG.dE,hx,hy,kx hf,ky hf,iu,hn hf]) (fun hf=>by simp only[aG.val,hx,hy,jh];rw[hb hf]) (fun ha=>h)
def DC {x y:Src}{fx fy:Bool}{k:IntKind}{a b:Int}(v:Int)(h:aI Y draw r env (⟨f,.int k v⟩::rs) nx m K)(hg:GF rs g f:=by exact dt)(hx:cP env rs x=⟨fx,.int k a⟩:=by exact rfl)(hy:cP env rs y=⟨fy,.int k b⟩:=by exact rfl)(kx:f=true->fx=true:=by exact cD)(ky:f=true->fy=true:=by exact cD)(hn:f=true->b≠0)(hb:f=true->a.tmod b=v):aI Y draw (⟨.bin .rem x y,g⟩::r) env rs nx m K:=
 cg rfl hg _ (fun hf=>by simp[aG.dE,hx,hy,kx hf,ky hf,iu,hn hf]) (fun hf=>by simp only[aG.val,hx,hy,jh];rw[hb hf]) (fun ha=>h)
def RF {x y:Src}{fx fy:Bool}{k k2:IntKind}{a b:Int}(v:Int)(h:aI Y draw r env (⟨f,.int k v⟩::rs) nx m K)(hg:GF rs g f:=by exact dt)(hx:cP env rs x=⟨fx,.int k a⟩:=by exact rfl)(hy:cP env rs y=⟨fy,.int k2 b⟩:=by exact rfl)(kx:f=true->fx=true:=by exact cD)(ky:f=true->fy=true:=by exact cD)(hn:f=true->0<=b:=by exact sB)(hb:f=true->k.wrap (a*2^(min b.toNat k.bits))=v):aI Y draw (⟨.bin .shl x y,g⟩::r) env rs nx m K:=
 cg rfl hg _ (fun hf=>by simp[aG.dE,hx,hy,kx hf,ky hf,iu,hn hf]) (fun hf=>by simp only[aG.val,hx,hy,jh];rw[hb hf]) (fun ha=>h)
def zS {x y:Src}{fx fy:Bool}{k k2:IntKind}{a b:Int}(v:Int)(h:aI Y draw r env (⟨f,.int k v⟩::rs) nx m K)(hg:GF rs g f:=by exact dt)(hx:cP env rs x=⟨fx,.int k a⟩:=by exact rfl)(hy:cP env rs y=⟨fy,.int k2 b⟩:=by exact rfl)(kx:f=true->fx=true:=by exact cD)(ky:f=true->fy=true:=by exact cD)(hn:f=true->0<=b:=by exact sB)(hb:f=true->a.fdiv (2^(min b.toNat k.bits))=v):aI Y draw (⟨.bin .shr x y,g⟩::r) env rs nx m K:=
 cg rfl hg _ (fun hf=>by simp[aG.dE,hx,hy,kx hf,ky hf,iu,hn hf]) (fun hf=>by simp only[aG.val,hx,hy,jh];rw[hb hf]) (fun ha=>h)
def FQ {x y:Src}{fx fy:Bool}{k:IntKind}{a b:Int}(v:Int)(h:aI Y draw r env (⟨f,.int k v⟩::rs) nx m K)(hg:GF rs g f:=by exact dt)(hx:cP env rs x=⟨fx,.int k a⟩:=by exact rfl)(hy:cP env rs y=⟨fy,.int k b⟩:=by exact rfl)(kx:f=true->fx=true:=by exact cD)(ky:f=true->fy=true:=by exact cD)(hb:f=true->k.wrap (((BitVec.ofInt k.bits a)&&&(BitVec.ofInt k.bits b)).toNat)=v):aI Y draw (⟨.bin .and x y,g⟩::r) env rs nx m K:=
 cg rfl hg _ (fun hf=>by simp[aG.dE,hx,hy,kx hf,ky hf,iu]) (fun hf=>by simp only[aG.val,hx,hy,jh];rw[hb hf]) (fun ha=>h)
def RB {x y:Src}{fx fy:Bool}{k:IntKind}{a b:Int}(v:Int)(h:aI Y draw r env (⟨f,.int k v⟩::rs) nx m K)(hg:GF rs g f:=by exact dt)(hx:cP env rs x=⟨fx,.int k a⟩:=by exact rfl)(hy:cP env rs y=⟨fy,.int k b⟩:=by exact rfl)(kx:f=true->fx=true:=by exact cD)(ky:f=true->fy=true:=by exact cD)(hb:f=true->k.wrap (((BitVec.ofInt k.bits a) |||(BitVec.ofInt k.bits b)).toNat)=v):aI Y draw (⟨.bin .or x y,g⟩::r) env rs nx m K:=
 cg rfl hg _ (fun hf=>by simp[aG.dE,hx,hy,kx hf,ky hf,iu]) (fun hf=>by simp only[aG.val,hx,hy,jh];rw[hb hf]) (fun ha=>h)
def BG {x y:Src}{fx fy:Bool}{k:IntKind}{a b:Int}(v:Int)(h:aI Y draw r env (⟨f,.int k v⟩::rs) nx m K)(hg:GF rs g f:=by exact dt)(hx:cP env rs x=⟨fx,.int k a⟩:=by exact rfl)(hy:cP env rs y=⟨fy,.int k b⟩:=by exact rfl)(kx:f=true->fx=true:=by exact cD)(ky:f=true->fy=true:=by exact cD)(hb:f=true->k.wrap (((BitVec.ofInt k.bits a)^^^(BitVec.ofInt k.bits b)).toNat)=v):aI Y draw (⟨.bin .xor x y,g⟩::r) env rs nx m K:=
 cg rfl hg _ (fun hf=>by simp[aG.dE,hx,hy,kx hf,ky hf,iu]) (fun hf=>by simp only[aG.val,hx,hy,jh];rw[hb hf]) (fun ha=>h)
def FX {x y:Src}{fx fy:Bool}{k:IntKind}{a b:Int}(h:aI Y draw r env (⟨f,.bool (decide (a<b))⟩::rs) nx m K)(hg:GF rs g f:=by exact dt)(hx:cP env rs x=⟨fx,.int k a⟩:=by exact rfl)(hy:cP env rs y=⟨fy,.int k b⟩:=by exact rfl)(kx:f=true->fx=true:=by exact cD)(ky:f=true->fy=true:=by exact cD):aI Y draw (⟨.bin .lss x y,g⟩::r) env rs nx m K:=
 cg rfl hg _ (fun hf=>by simp[aG.dE,hx,hy,kx hf,ky hf,iu]) (fun hf=>by simp only[aG.val,hx,hy,jh]<;>rfl) (fun ha=>h)
def Vk {x y:Src}{fx fy:Bool}{k:IntKind}{a b:Int}(h:aI Y draw r env (⟨f,.bool (decide (a<=b))⟩::rs) nx m K)(hg:GF rs g f:=by exact dt)(hx:cP env rs x=⟨fx,.int k a⟩:=by exact rfl)(hy:cP env rs y=⟨fy,.int k b⟩:=by exact rfl)(kx:f=true->fx=true:=by exact cD)(ky:f=true->fy=true:=by exact cD):aI Y draw (⟨.bin .leq x y,g⟩::r) env rs nx m K:=
 cg rfl hg _ (fun hf=>by simp[aG.dE,hx,hy,kx hf,ky hf,iu]) (fun hf=>by simp only[aG.val,hx,hy,jh]<;>rfl) (fun ha=>h)
def Vd {x y:Src}{fx fy:Bool}{k:IntKind}{a b:Int}(h:aI Y draw r env (⟨f,.bool (decide (b<a))⟩::rs) nx m K)(hg:GF rs g f:=by exact dt)(hx:cP env rs x=⟨fx,.int k a⟩:=by exact rfl)(hy:cP env rs y=⟨fy,.int k b⟩:=by exact rfl)(kx:f=true->fx=true:=by exact cD)(ky:f=true->fy=true:=by exact cD):aI Y draw (⟨.bin .gtr x y,g⟩::r) env rs nx m K:=
 cg rfl hg _ (fun hf=>by simp[aG.dE,hx,hy,kx hf,ky hf,iu]) (fun hf=>by simp only[aG.val,hx,hy,jh]<;>rfl) (fun ha=>h)
def Vb {x y:Src}{fx fy:Bool}{k:IntKind}{a b:Int}(h:aI Y draw r env (⟨f,.bool (decide (b<=a))⟩::rs) nx m K)(hg:GF rs g f:=by exact dt)(hx:cP env rs x=⟨fx,.int k a⟩:=by exact rfl)(hy:cP env rs y=⟨fy,.int k b⟩:=by exact rfl)(kx:f=true->fx=true:=by exact cD)(ky:f=true->fy=true:=by exact cD):aI Y draw (⟨.bin .geq x y,g⟩::r) env rs nx m K:=
 cg rfl hg _ (fun hf=>by simp[aG.dE,hx,hy,kx hf,ky hf,iu]) (fun hf=>by simp only[aG.val,hx,hy,jh]<;>rfl) (fun ha=>h)
def FU {x y:Src}{fx fy:Bool}{k:IntKind}{a b:Int}(h:aI Y draw r env (⟨f,.bool (decide (a=b))⟩::rs) nx m K)(hg:GF rs g f:=by exact dt)(hx:cP env rs x=⟨fx,.int k a⟩:=by exact rfl)(hy:cP env rs y=⟨fy,.int k b⟩:=by exact rfl)(kx:f=true->fx=true:=by exact cD)(ky:f=true->fy=true:=by exact cD):aI Y draw (⟨.bin .eql x y,g⟩::r) env rs nx m K:=
 cg rfl hg _ (fun hf=>by simp[aG.dE,hx,hy,kx hf,ky hf,iu]) (fun hf=>by simp only[aG.val,hx,hy,jh]<;>rfl) (fun ha=>h)
def Vn {x y:Src}{fx fy:Bool}{k:IntKind}{a b:Int}(h:aI Y draw r env (⟨f,.bool (!decide (a=b))⟩::rs) nx m K)(hg:GF rs g f:=by exact dt)(hx:cP env rs x=⟨fx,.int k a⟩:=by exact rfl)(hy:cP env rs y=⟨fy,.int k b⟩:=by exact rfl)(kx:f=true->fx=true:=by exact cD)(ky:f=true->fy=true:=by exact cD):aI Y draw (⟨.bin .neq x y,g⟩::r) env rs nx m K:=
 cg rfl hg _ (fun hf=>by simp[aG.dE,hx,hy,kx hf,ky hf,iu]) (fun hf=>by simp only[aG.val,hx,hy,jh]<;>rfl) (fun ha=>h)
def Vm {x y:Src}{fx fy:Bool}{a b:List UInt8}(h:aI Y draw r env (⟨f,.bool (Op.bytesLess a b)⟩::rs) nx m K)(hg:GF rs g f:=by exact dt)(hx:cP env rs x=⟨fx,.str a⟩:=by exact rfl)(hy:cP env rs y=⟨fy,.str b⟩:=by exact rfl)(kx:f=true->fx=true:=by exact cD)(ky:f=true->fy=true:=by exact cD):aI Y draw (⟨.bin .lss x y,g⟩::r) env rs nx m K:=
 cg rfl hg _ (fun hf=>by simp[aG.dE,hx,hy,kx hf,ky hf,iu]) (fun hf=>by simp only[aG.val,hx,hy,jh,nG]) (fun ha=>h)
def Vl {x y:Src}{fx fy:Bool}{a b:List UInt8}(h:aI Y draw r env (⟨f,.bool (Op.bytesLess a b ||decide (a=b))⟩::rs) nx m K)(hg:GF rs g f:=by exact dt)(hx:cP env rs x=⟨fx,.str a⟩:=by exact rfl)(hy:cP env rs y=⟨fy,.str b⟩:=by exact rfl)(kx:f=true->fx=true:=by exact cD)(ky:f=true->fy=true:=by exact cD):aI Y draw (⟨.bin .leq x y,g⟩::r) env rs nx m K:=
 cg rfl hg _ (fun hf=>by simp[aG.dE,hx,hy,kx hf,ky hf,iu]) (fun hf=>by simp only[aG.val,hx,hy,jh,nG]) (fun ha=>h)
def Ve {x y:Src}{fx fy:Bool}{a b:List UInt8}(h:aI Y draw r env (⟨f,.bool (!(Op.bytesLess a b ||decide (a=b)))⟩::rs) nx m K)(hg:GF rs g f:=by exact dt)(hx:cP env rs x=⟨fx,.str a⟩:=by exact rfl)(hy:cP env rs y=⟨fy,.str b⟩:=by exact rfl)(kx:f=true->fx=true:=by exact cD)(ky:f=true->fy=true:=by exact cD):aI Y draw (⟨.bin .gtr x y,g⟩::r) env rs nx m K:=
 cg rfl hg _ (fun hf=>by simp[aG.dE,hx,hy,kx hf,ky hf,iu]) (fun hf=>by simp only[aG.val,hx,hy,jh,nG]) (fun ha=>h)
def Vc {x y:Src}{fx fy:Bool}{a b:List UInt8}(h:aI Y draw r env (⟨f,.bool (!Op.bytesLess a b)⟩::rs) nx m K)(hg:GF rs g f:=by exact dt)(hx:cP env rs x=⟨fx,.str a⟩:=by exact rfl)(hy:cP env rs y=⟨fy,.str b⟩:=by exact rfl)(kx:f=true->fx=true:=by exact cD)(ky:f=true->fy=true:=by exact cD):aI Y draw (⟨.bin .geq x y,g⟩::r) env rs nx m K:=
 cg rfl hg _ (fun hf=>by simp[aG.dE,hx,hy,kx hf,ky hf,iu]) (fun hf=>by simp only[aG.val,hx,hy,jh,nG]) (fun ha=>h)
def FV {x y:Src}{fx fy:Bool}{a b:List UInt8}(h:aI Y draw r env (⟨f,.bool (decide (a=b))⟩::rs) nx m K)(hg:GF rs g f:=by exact dt)(hx:cP env rs x=⟨fx,.str a⟩:=by exact rfl)(hy:cP env rs y=⟨fy,.str b⟩:=by exact rfl)(kx:f=true->fx=true:=by exact cD)(ky:f=true->fy=true:=by exact cD):aI Y draw (⟨.bin .eql x y,g⟩::r) env rs nx m K:=
 cg rfl hg _ (fun hf=>by simp[aG.dE,hx,hy,kx hf,ky hf,iu]) (fun hf=>by simp only[aG.val,hx,hy,jh,nG]) (fun ha=>h)
def Vo {x y:Src}{fx fy:Bool}{a b:List UInt8}(h:aI Y draw r env (⟨f,.bool (!decide (a=b))⟩::rs) nx m K)(hg:GF rs g f:=by exact dt)(hx:cP env rs x=⟨fx,.str a⟩:=by exact rfl)(hy:cP env rs y=⟨fy,.str b⟩:=by exact rfl)(kx:f=true->fx=true:=by exact cD)(ky:f=true->fy=true:=by exact cD):aI Y draw (⟨.bin .neq x y,g⟩::r) env rs nx m K:=
 cg rfl hg _ (fun hf=>by simp[aG.dE,hx,hy,kx hf,ky hf,iu]) (fun hf=>by simp only[aG.val,hx,hy,jh,nG]) (fun ha=>h)
def eF {x y:Src}{fx fy:Bool}{a b:List UInt8}(h:aI Y draw r env (⟨f,.str (a++b)⟩::rs) nx m K)(hg:GF rs g f:=by exact dt)(hx:cP env rs x=⟨fx,.str a⟩:=by exact rfl)(hy:cP env rs y=⟨fy,.str b⟩:=by exact rfl)(kx:f=true->fx=true:=by exact cD)(ky:f=true->fy=true:=by exact cD)(hb:f=true->a.length+b.length<=9223372036854775807):aI Y draw (⟨.bin .add x y,g⟩::r) env rs nx m K:=
 cg rfl hg _ (fun hf=>by simp[aG.dE,hx,hy,kx hf,ky hf,iu,hb hf]) (fun hf=>by simp only[aG.val,hx,hy,jh]) (fun ha=>h)
def xX {x y:Src}{fx fy:Bool}{ag:Bool}{ks:List CK}{a b:D}{v:Bool}(h:aI Y draw r env (⟨f,.bool (v)⟩::rs) nx m K)(hb:iw a.cells b.cells=v)(hg:GF rs g f:=by exact dt)(hx:cP env rs x=⟨fx,a⟩:=by exact rfl)(hy:cP env rs y=⟨fy,b⟩:=by exact rfl)(kx:f=true->fx=true:=by exact cD)(ky:f=true->fy=true:=by exact cD)(h1:f=true->a.isAgg=ag/\b.isAgg=ag/\fK ks a.cells/\fK ks b.cells:=by exact tM):aI Y draw (⟨.eqA false ag ks x y,g⟩::r) env rs nx m K:=
 cg rfl hg _ (fun hf=>by simp only[aG.dE,hx,hy];exact⟨kx hf,ky hf,h1 hf⟩) (fun hf=>by simp only[aG.val,hx,hy];rw[hb];rfl) (fun ha=>h)
def HI {x y:Src}{fx fy:Bool}{ag:Bool}{ks:List CK}{a b:D}{v:Bool}(h:aI Y draw r env (⟨f,.bool (!v)⟩::rs) nx m K)(hb:iw a.cells b.cells=v)(hg:GF rs g f:=by exact dt)(hx:cP env rs x=⟨fx,a⟩:=by exact rfl)(hy:cP env rs y=⟨fy,b⟩:=by exact rfl)(kx:f=true->fx=true:=by exact cD)(ky:f=true->fy=true:=by exact cD)(h1:f=true->a.isAgg=ag/\b.isAgg=ag/\fK ks a.cells/\fK ks b.cells:=by exact tM):aI Y draw (⟨.eqA true ag ks x y,g⟩::r) env rs nx m K:=
 cg rfl hg _ (fun hf=>by simp only[aG.dE,hx,hy];exact⟨kx hf,ky hf,h1 hf⟩) (fun hf=>by simp only[aG.val,hx,hy];rw[hb];rfl) (fun ha=>h)
def pA {x:Src}{fx:Bool}{k k2:IntKind}{a:Int}(v:Int)(h:aI Y draw r env (⟨f,.int k v⟩::rs) nx m K)(hg:GF rs g f:=by exact dt)(hx:cP env rs x=⟨fx,.int k2 a⟩:=by exact rfl)(kx:f=true->fx=true:=by exact cD)(hb:f=true->k.wrap a=v):aI Y draw (⟨.cvi k x,g⟩::r) env rs nx m K:=
 cg rfl hg _ (fun hf=>by simp[aG.dE,hx,kx hf]) (fun hf=>by simp only[aG.val,hx];rw[hb hf]) (fun ha=>h)
def NN {x:Src}{fx:Bool}{s:List UInt8}(h:(f=true->draw=false->s.length<=9223372036854775807)->aI Y draw r env (⟨f,.int .i64 s.length⟩::rs) nx m K)(hg:GF rs g f:=by exact dt)(hx:cP env rs x=⟨fx,.str s⟩:=by exact rfl)(kx:f=true->fx=true:=by exact cD):aI Y draw (⟨.lenS x,g⟩::r) env rs nx m K:=
 cg rfl hg _ (fun hf=>by simp[aG.dE,hx,kx hf]) (fun hf=>by simp[aG.val,hx]) (fun ha=>h (fun hf hd=>by have:=ha hf;subst hd;simpa[aG.zh,hx,kx hf]using this))
def NL {x:Src}{fx:Bool}{α:Type}{k:Nat}{q:α->D}{xs:List α}(h:(f=true->draw=false->xs.length<=9223372036854775807)->aI Y draw r env (⟨f,.int .i64 xs.length⟩::rs) nx m K)(hg:GF rs g f:=by exact dt)(hx:cP env rs x=⟨fx,.sl k (xs.map q)⟩:=by exact rfl)(kx:f=true->fx=true:=by exact cD):aI Y draw (⟨.len x,g⟩::r) env rs nx m K:=
 cg rfl hg _ (fun hf=>by simp[aG.dE,hx,kx hf]) (fun hf=>by simp[aG.val,hx]) (fun ha=>h (fun hf hd=>by have:=ha hf;subst hd;simpa[aG.zh,hx,kx hf]using this))
def NM {x:Src}{fx:Bool}{l k i n:Nat}(h:(f=true->draw=false->n<=9223372036854775807)->aI Y draw r env (⟨f,.int .i64 n⟩::rs) nx m K)(hg:GF rs g f:=by exact dt)(hx:cP env rs x=⟨fx,.own l k i n⟩:=by exact rfl)(kx:f=true->fx=true:=by exact cD):aI Y draw (⟨.len x,g⟩::r) env rs nx m K:=
 cg rfl hg _ (fun hf=>by simp[aG.dE,hx,kx hf]) (fun hf=>by simp[aG.val,hx]) (fun ha=>h (fun hf hd=>by have:=ha hf;subst hd;simpa[aG.zh,hx,kx hf]using this))
def Vj {x:Src}{fx:Bool}(h:aI Y draw r env (⟨f,.int .i64 0⟩::rs) nx m K)(hg:GF rs g f:=by exact dt)(hx:cP env rs x=⟨fx,.bM⟩:=by exact rfl)(kx:f=true->fx=true:=by exact cD):aI Y draw (⟨.len x,g⟩::r) env rs nx m K:=
 cg rfl hg _ (fun hf=>by simp[aG.dE,hx,kx hf]) (fun hf=>by simp[aG.val,hx]) (fun ha=>h)
def Vp {x:Src}{fx:Bool}{l k i o:Nat}(h:aI Y draw r env (⟨f,.ptr l k i o⟩::rs) nx m K)(hg:GF rs g f:=by exact dt)(hx:cP env rs x=⟨fx,.ptr l k i o⟩:=by exact rfl)(kx:f=true->fx=true:=by exact cD):aI Y draw (⟨.nilck x,g⟩::r) env rs nx m K:=
 cg rfl hg _ (fun hf=>by simp[aG.dE,hx,kx hf]) (fun hf=>by simp[aG.val,hx]) (fun ha=>h)
def Vq {x:Src}{fx:Bool}{k i o:Nat}{es:List D}(h:aI Y draw r env (⟨f,.ref k es i o⟩::rs) nx m K)(hg:GF rs g f:=by exact dt)(hx:cP env rs x=⟨fx,.ref k es i o⟩:=by exact rfl)(kx:f=true->fx=true:=by exact cD):aI Y draw (⟨.nilck x,g⟩::r) env rs nx m K:=
 cg rfl hg _ (fun hf=>by simp[aG.dE,hx,kx hf]) (fun hf=>by simp[aG.val,hx]) (fun ha=>h)
def r_faP {x:Src}{fx:Bool}{off l k i o:Nat}(h:aI Y draw r env (⟨f,.ptr l k i (o+off)⟩::rs) nx m K)(hg:GF rs g f:=by exact dt)(hx:cP env rs x=⟨fx,.ptr l k i o⟩:=by exact rfl)(kx:f=true->fx=true:=by exact cD):aI Y draw (⟨.fa off x,g⟩::r) env rs nx m K:=
 cg rfl hg _ (fun hf=>by simp[aG.dE,hx,kx hf]) (fun hf=>by simp[aG.val,hx]) (fun ha=>h)
def r_faR {x:Src}{fx:Bool}{off k i o:Nat}{es:List D}(h:aI Y draw r env (⟨f,.ref k es i (o+off)⟩::rs) nx m K)(hg:GF rs g f:=by exact dt)(hx:cP env rs x=⟨fx,.ref k es i o⟩:=by exact rfl)(kx:f=true->fx=true:=by exact cD):aI Y draw (⟨.fa off x,g⟩::r) env rs nx m K:=
 cg rfl hg _ (fun hf=>by simp[aG.dE,hx,kx hf]) (fun hf=>by simp[aG.val,hx]) (fun ha=>h)
def aV {x y:Src}{fx fy:Bool}{α:Type}{k:Nat}{q:α->D}{xs:List α}{i:Int}{kk:IntKind}(j:Nat)(h:aI Y draw r env (⟨f,.ref k (xs.map q) j 0⟩::rs) nx m K)(hg:GF rs g f:=by exact dt)(hx:cP env rs x=⟨fx,.sl k (xs.map q)⟩:=by exact rfl)(hy:cP env rs y=⟨fy,.int kk i⟩:=by exact rfl)(kx:f=true->fx=true:=by exact cD)(ky:f=true->fy=true:=by exact cD)(hj:f=true->i=(j:Int):=by exact yK)(hb:f=true->j<xs.length:=by exact sB):aI Y draw (⟨.ia k x y,g⟩::r) env rs nx m K:=
 cg rfl hg _ (fun hf=>by simp only[aG.dE,hx,hy,bc];exact⟨kx hf,ky hf,trivial,by have:=hj hf;omega,by have:=hj hf;have:=hb hf;omega⟩) (fun hf=>by simp only[aG.val,hx,hy];rw[hj hf];rfl) (fun ha=>h)
def hY {x y:Src}{fx fy:Bool}{l k i0 n:Nat}{i:Int}{kk:IntKind}(j:Nat)(h:aI Y draw r env (⟨f,.ptr l k (i0+j) 0⟩::rs) nx m K)(hg:GF rs g f:=by exact dt)(hx:cP env rs x=⟨fx,.own l k i0 n⟩:=by exact rfl)(hy:cP env rs y=⟨fy,.int kk i⟩:=by exact rfl)(kx:f=true->fx=true:=by exact cD)(ky:f=true->fy=true:=by exact cD)(hj:f=true->i=(j:Int):=by exact yK)(hb:f=true->j<n:=by exact sB):aI Y draw (⟨.ia k x y,g⟩::r) env rs nx m K:=
 cg rfl hg _ (fun hf=>by simp only[aG.dE,hx,hy];exact⟨kx hf,ky hf,trivial,by have:=hj hf;omega,by have:=hj hf;have:=hb hf;omega⟩) (fun hf=>by simp only[aG.val,hx,hy];rw[hj hf];rfl) (fun ha=>h)
def FW {x y:Src}{fx fy:Bool}{l k k2 n i0 o:Nat}{i:Int}{kk:IntKind}(j:Nat)(h:aI Y draw r env (⟨f,.ptr l k2 i0 (o+j*k)⟩::rs) nx m K)(hg:GF rs g f:=by exact dt)(hx:cP env rs x=⟨fx,.ptr l k2 i0 o⟩:=by exact rfl)(hy:cP env rs y=⟨fy,.int kk i⟩:=by exact rfl)(kx:f=true->fx=true:=by exact cD)(ky:f=true->fy=true:=by exact cD)(hj:f=true->i=(j:Int):=by exact yK)(hb:f=true->j<n:=by exact sB):aI Y draw (⟨.iaP n k x y,g⟩::r) env rs nx m K:=
 cg rfl hg _ (fun hf=>by simp only[aG.dE,hx,hy];exact⟨kx hf,ky hf,by have:=hj hf;omega,by have:=hj hf;have:=hb hf;omega⟩) (fun hf=>by simp only[aG.val,hx,hy];rw[hj hf];rfl) (fun ha=>h)
def xY {x y:Src}{fx fy:Bool}{s:List UInt8}{i:Int}{kk:IntKind}(j:Nat)(h:aI Y draw r env (⟨f,.int .u8 (at8 s j)⟩::rs) nx m K)(hg:GF rs g f:=by exact dt)(hx:cP env rs x=⟨fx,.str s⟩:=by exact rfl)(hy:cP env rs y=⟨fy,.int kk i⟩:=by exact rfl)(kx:f=true->fx=true:=by exact cD)(ky:f=true->fy=true:=by exact cD)(hj:f=true->i=(j:Int):=by exact yK)(hb:f=true->j<s.length:=by exact sB):aI Y draw (⟨.ixS x y,g⟩::r) env rs nx m K:=
 cg rfl hg _ (fun hf=>by simp only[aG.dE,hx,hy];exact⟨kx hf,ky hf,by have:=hj hf;omega,by have:=hj hf;have:=hb hf;omega⟩) (fun hf=>by simp only[aG.val,hx,hy];rw[hj hf];rfl) (fun ha=>h)
def r_ixA {x y:Src}{fx fy:Bool}{n k:Nat}{ag:Bool}{cs:List D}{i:Int}{kk:IntKind}(j:Nat)(v:D)(h:aI Y draw r env (⟨f,v⟩::rs) nx m K)(hg:GF rs g f:=by exact dt)(hx:cP env rs x=⟨fx,.agg cs⟩:=by exact rfl)(hy:cP env rs y=⟨fy,.int kk i⟩:=by exact rfl)(kx:f=true->fx=true:=by exact cD)(ky:f=true->fy=true:=by exact cD)(hj:f=true->i=(j:Int):=by exact yK)(hb:f=true->j<n:=by exact sB)(hl:cs.length=n*k:=by exact rfl)(h1:ag=false->k=1:=by intro h;first|exact rfl|cases h)(hv:f=true->cut cs (j*k) k ag=v):aI Y draw (⟨.ixA n k ag x y,g⟩::r) env rs nx m K:=
 cg rfl hg _ (fun hf=>by simp only[aG.dE,hx,hy];exact⟨kx hf,ky hf,h1,by have:=hj hf;omega,by have:=hj hf;have:=hb hf;omega,hl⟩) (fun hf=>by simp only[aG.val,hx,hy];rw[<-hv hf,hj hf];rfl) (fun ha=>h)
def NJ {x y:Src}{fx fy:Bool}{α:Type}{k:Nat}{q:α->D}{xs:List α}{i:Int}{kk:IntKind}(h:aI Y draw r env (⟨f,.ref k (xs.map q) i.toNat 0⟩::rs) nx m K)(hg:GF rs g f:=by exact dt)(hx:cP env rs x=⟨fx,.sl k (xs.map q)⟩:=by exact rfl)(hy:cP env rs y=⟨fy,.int kk i⟩:=by exact rfl)(kx:f=true->fx=true:=by exact cD)(ky:f=true->fy=true:=by exact cD)(hb:f=true->0<=i/\i<(xs.length:Nat):=by exact GQ):aI Y draw (⟨.ia k x y,g⟩::r) env rs nx m K:=
 cg rfl hg _ (fun hf=>by simp only[aG.dE,hx,hy,bc];exact⟨kx hf,ky hf,trivial,(hb hf).1,(hb hf).2⟩) (fun hf=>by simp only[aG.val,hx,hy]<;>rfl) (fun ha=>h)
def Vf {x y:Src}{fx fy:Bool}{l k i0 n:Nat}{i:Int}{kk:IntKind}(h:aI Y draw r env (⟨f,.ptr l k (i0+i.toNat) 0⟩::rs) nx m K)(hg:GF rs g f:=by exact dt)(hx:cP env rs x=⟨fx,.own l k i0 n⟩:=by exact rfl)(hy:cP env rs y=⟨fy,.int kk i⟩:=by exact rfl)(kx:f=true->fx=true:=by exact cD)(ky:f=true->fy=true:=by exact cD)(hb:f=true->0<=i/\i<(n:Nat):=by exact GQ):aI Y draw (⟨.ia k x y,g⟩::r) env rs nx m K:=
 cg rfl hg _ (fun hf=>by simp only[aG.dE,hx,hy,bc];exact⟨kx hf,ky hf,trivial,(hb hf).1,(hb hf).2⟩) (fun hf=>by simp only[aG.val,hx,hy]<;>rfl) (fun ha=>h)
def Vg {x y:Src}{fx fy:Bool}{s:List UInt8}{i:Int}{kk:IntKind}(h:aI Y draw r env (⟨f,.int .u8 (at8 s i.toNat)⟩::rs) nx m K)(hg:GF rs g f:=by exact dt)(hx:cP env rs x=⟨fx,.str s⟩:=by exact rfl)(hy:cP env rs y=⟨fy,.int kk i⟩:=by exact rfl)(kx:f=true->fx=true:=by exact cD)(ky:f=true->fy=true:=by exact cD)(hb:f=true->0<=i/\i<(s.length:Nat):=by exact GQ):aI Y draw (⟨.ixS x y,g⟩::r) env rs nx m K:=
 cg rfl hg _ (fun hf=>by simp only[aG.dE,hx,hy,bc];exact⟨kx hf,ky hf,(hb hf).1,(hb hf).2⟩) (fun hf=>by simp only[aG.val,hx,hy]<;>rfl) (fun ha=>h)
def DF {x y:Src}{fx fy:Bool}{s:List UInt8}{k2:IntKind}{a:Int}(i:Nat)(h:aI Y draw r env (⟨f,.str (s.drop i)⟩::rs) nx m K)(hg:GF rs g f:=by exact dt)(hx:cP env rs x=⟨fx,.str s⟩:=by exact rfl)(hy:cP env rs y=⟨fy,.int k2 a⟩:=by exact rfl)(kx:f=true->fx=true:=by exact cD)(ky:f=true->fy=true:=by exact cD)(hi:f=true->a=(i:Int):=by exact yK)(hb:f=true->i<=s.length:=by exact sB):aI Y draw (⟨.slS x (some y) none,g⟩::r) env rs nx m K:=
 cg rfl hg _ (fun hf=>by simp only[aG.dE,Kh,dO,hx,hy];have:=hb hf;have:=hi hf;refine⟨kx hf,ky hf,trivial, ?_⟩;simp only[mS,ek,b9,bW,Int.ofNat_eq_natCast];omega) (fun hf=>by simp only[aG.val,dO,ek,hx,hy];rw[hi hf];simp) (fun ha=>h)
def NR {x y:Src}{fx fy:Bool}{α:Type}{k:Nat}{q:α->D}{s:List α}{k2:IntKind}{a:Int}(i:Nat)(h:aI Y draw r env (⟨f,.sl k ((s.drop i).map q)⟩::rs) nx m K)(hg:GF rs g f:=by exact dt)(hx:cP env rs x=⟨fx,.sl k (s.map q)⟩:=by exact rfl)(hy:cP env rs y=⟨fy,.int k2 a⟩:=by exact rfl)(kx:f=true->fx=true:=by exact cD)(ky:f=true->fy=true:=by exact cD)(hi:f=true->a=(i:Int):=by exact yK)(hb:f=true->i<=s.length:=by exact sB):aI Y draw (⟨.slA k x (some y) none,g⟩::r) env rs nx m K:=
 cg rfl hg _ (fun hf=>by simp only[aG.dE,Kh,dO,hx,hy,bc];have:=hb hf;have:=hi hf;refine⟨kx hf,ky hf,trivial,trivial, ?_⟩;simp only[mS,ek,b9,bW,Int.ofNat_eq_natCast];omega) (fun hf=>by simp only[aG.val,dO,ek,hx,hy];rw[hi hf];first|(simp only[List.take_length,Int.toNat_natCast,List.map_drop];done)|simp[List.map_drop,List.map_take]) (fun ha=>h)
def nd {x y:Src}{fx fy:Bool}{l k i0 n:Nat}{k2:IntKind}{a:Int}(i:Nat)(h:aI Y draw r env (⟨f,.own l k (i0+i) (n-i)⟩::rs) nx m K)(hg:GF rs g f:=by exact dt)(hx:cP env rs x=⟨fx,.own l k i0 n⟩:=by exact rfl)(hy:cP env rs y=⟨fy,.int k2 a⟩:=by exact rfl)(kx:f=true->fx=true:=by exact cD)(ky:f=true->fy=true:=by exact cD)(hi:f=true->a=(i:Int):=by exact yK)(hb:f=true->i<=n:=by exact sB):aI Y draw (⟨.slA k x (some y) none,g⟩::r) env rs nx m K:=
 cg rfl hg _ (fun hf=>by simp only[aG.dE,Kh,dO,hx,hy];have:=hb hf;have:=hi hf;refine⟨kx hf,ky hf,trivial,trivial, ?_⟩;simp only[mS,ek,b9,bW,Int.ofNat_eq_natCast];omega) (fun hf=>by simp only[aG.val,dO,ek,hx,hy];rw[hi hf];simp) (fun ha=>h)
def NQ {x z:Src}{fx fz:Bool}{α:Type}{k:Nat}{q:α->D}{s:List α}{k3:IntKind}{c:Int}(j:Nat)(h:aI Y draw r env (⟨f,.sl k ((s.take j).map q)⟩::rs) nx m K)(hg:GF rs g f:=by exact dt)(hx:cP env rs x=⟨fx,.sl k (s.map q)⟩:=by exact rfl)(hz:cP env rs z=⟨fz,.int k3 c⟩:=by exact rfl)(kx:f=true->fx=true:=by exact cD)(kz:f=true->fz=true:=by exact cD)(hj:f=true->c=(j:Int):=by exact yK)(hb:f=true->j<=s.length:=by exact sB):aI Y draw (⟨.slA k x none (some z),g⟩::r) env rs nx m K:=
 cg rfl hg _ (fun hf=>by simp only[aG.dE,Kh,dO,hx,hz,bc];have:=hb hf;have:=hj hf;refine⟨kx hf,trivial,kz hf,trivial, ?_⟩;simp only[mS,ek,b9,bW,Int.ofNat_eq_natCast];omega) (fun hf=>by simp only[aG.val,dO,ek,hx,hz];rw[hj hf];first|(simp only[List.take_length,Int.toNat_natCast,List.map_drop];done)|simp[List.map_drop,List.map_take]) (fun ha=>h)
def DE {x y z:Src}{fx fy fz:Bool}{s:List UInt8}{k2:IntKind}{a:Int}(i:Nat){k3:IntKind}{c:Int}(j:Nat)(h:aI Y draw r env (⟨f,.str ((s.take j).drop i)⟩::rs) nx m K)(hg:GF rs g f:=by exact dt)(hx:cP env rs x=⟨fx,.str s⟩:=by exact rfl)(hy:cP env rs y=⟨fy,.int k2 a⟩:=by exact rfl)(hz:cP env rs z=⟨fz,.int k3 c⟩:=by exact rfl)(kx:f=true->fx=true:=by exact cD)(ky:f=true->fy=true:=by exact cD)(kz:f=true->fz=true:=by exact cD)(hi:f=true->a=(i:Int):=by exact yK)(hj:f=true->c=(j:Int):=by exact yK)(hb:f=true->i<=j/\j<=s.length:=by exact GQ):aI Y draw (⟨.slS x (some y) (some z),g⟩::r) env rs nx m K:=
 cg rfl hg _ (fun hf=>by simp only[aG.dE,Kh,dO,hx,hy,hz];have:=hb hf;have:=hi hf;have:=hj hf;refine⟨kx hf,ky hf,kz hf, ?_⟩;simp only[mS,ek,b9,bW,Int.ofNat_eq_natCast];omega) (fun hf=>by simp only[aG.val,dO,ek,hx,hy,hz];rw[hi hf,hj hf];simp) (fun ha=>h)
def mw {x:Src}{fx:Bool}{i:Nat}{ds:List D}(v:D)(h:aI Y draw r env (⟨f,v⟩::rs) nx m K)(hg:GF rs g f:=by exact dt)(hx:cP env rs x=⟨fx,.tup ds⟩:=by exact rfl)(kx:f=true->fx=true:=by exact cD)(hv:f=true->ds.getD i .any=v:=by exact fun _=>rfl)(hb:f=true->i<ds.length:=by intro _;simp only[aT,aX];omega):aI Y draw (⟨.ext x i,g⟩::r) env rs nx m K:=
 cg rfl hg _ (fun hf=>by simp only[aG.dE,hx];exact⟨kx hf,hb hf⟩) (fun hf=>by simp only[aG.val,hx];exact hv hf) (fun ha=>h)
def cJ {z:List D}{ps:List (Nat×Nat×Src)}(v:List D)(h:aI Y draw r env (⟨f,.agg v⟩::rs) nx m K)(hg:GF rs g f:=by exact dt)(hv:f=true->wS (cP env rs) z ps=v:=by exact fun _=>rfl)(ho:f=true->tY (cP env rs) z.length ps:=by exact tM):aI Y draw (⟨.build z ps,g⟩::r) env rs nx m K:=
 cg rfl hg _ (fun hf=>ho hf) (fun hf=>by simp only[aG.val];rw[hv hf]) (fun _=>h)
def b6 {z:List D}{ps:List (Nat×Nat×Src)}(d:D)(h:aI Y draw r env (⟨f,d⟩::rs) nx m K)(hg:GF rs g f:=by exact dt)(hv:f=true->D.agg (wS (cP env rs) z ps)=d:=by exact fun _=>rfl)(ho:f=true->tY (cP env rs) z.length ps:=by exact tM):aI Y draw (⟨.build z ps,g⟩::r) env rs nx m K:=
 cg rfl hg _ (fun hf=>ho hf) (fun hf=>by simp only[aG.val];exact hv hf) (fun _=>h)
def Ux {e:D}{n o:Nat}{ag:Bool}(h:e.isAgg=ag):me e n n o ag=e:=by simp[me,h]
def bo {x:Src}{fx:Bool}{n l:Nat}{ag:Bool}{d:D}(h:aI Y draw r env (⟨f,d⟩::rs) nx m K)(hg:GF rs g f:=by exact dt)(hx:cP env rs x=⟨fx,.ptr l n 0 0⟩:=by exact rfl)(kx:f=true->fx=true:=by exact cD)(hl:f=true->look m l=some (.buf n [d]):=by exact fun _=>rfl)(ha:f=true->d.isAgg=ag:=by exact fun _=>rfl):aI Y draw (⟨.ld n ag x,g⟩::r) env rs nx m K:=
 fO rfl hg _ (fun hf=>by simp only[aG.dE,hx,uN,eM,hl hf];exact⟨kx hf,⟨trivial,bg⟩,ah⟩) (fun hf=>by simp only[aG.val,hx,uc,bh,hl hf,gB];exact Ux (ha hf)) m rfl (fun ha=>h)
def az {x:Src}{fx:Bool}{n l k o:Nat}{ag:Bool}{d:D}(v:D)(h:aI Y draw r env (⟨f,v⟩::rs) nx m K)(hg:GF rs g f:=by exact dt)(hx:cP env rs x=⟨fx,.ptr l k 0 o⟩:=by exact rfl)(kx:f=true->fx=true:=by exact cD)(hl:f=true->look m l=some (.buf k [d]):=by exact fun _=>rfl)(hv:f=true->me d k n o ag=v:=by exact fun _=>rfl)(ho:o+n<=k:=by omega):aI Y draw (⟨.ld n ag x,g⟩::r) env rs nx m K:=
 fO rfl hg _ (fun hf=>by simp only[aG.dE,hx,uN,eM,hl hf];exact⟨kx hf,⟨trivial,bg⟩,ho⟩) (fun hf=>by simp only[aG.val,hx,uc,bh,hl hf,gB];exact hv hf) m rfl (fun ha=>h)
def ox {x:Src}{fx:Bool}{α:Type} [Inhabited α]{n l k i o:Nat}{ag:Bool}{q:α->D}{xs:List α}(v:D)(h:aI Y draw r env (⟨f,v⟩::rs) nx m K)(hg:GF rs g f:=by exact dt)(hx:cP env rs x=⟨fx,.ptr l k i o⟩:=by exact rfl)(kx:f=true->fx=true:=by exact cD)(hl:f=true->look m l=some (.buf k (xs.map q)):=by exact fun _=>rfl)(hi:f=true->i<xs.length:=by exact sB)(hv:f=true->me (q xs[i]!) k n o ag=v:=by exact fun _=>rfl)(ho:o+n<=k:=by omega):aI Y draw (⟨.ld n ag x,g⟩::r) env rs nx m K:=
 fO rfl hg _ (fun hf=>by simp only[aG.dE,hx,uN,eM,hl hf,bc];exact⟨kx hf,⟨trivial,by have:=hi hf;omega⟩,ho⟩) (fun hf=>by simp only[aG.val,hx,uc,bh,hl hf];rw[getD_map (hi hf)];exact hv hf) m rfl (fun ha=>h)
def aW {x:Src}{fx:Bool}{α:Type} [Inhabited α]{n k i o:Nat}{ag:Bool}{q:α->D}{xs:List α}(v:D)(h:aI Y draw r env (⟨f,v⟩::rs) nx m K)(hg:GF rs g f:=by exact dt)(hx:cP env rs x=⟨fx,.ref k (xs.map q) i o⟩:=by exact rfl)(kx:f=true->fx=true:=by exact cD)(hi:f=true->i<xs.length:=by exact sB)(hv:f=true->me (q xs[i]!) k n o ag=v:=by exact fun _=>rfl)(ho:o+n<=k:=by omega):aI Y draw (⟨.ld n ag x,g⟩::r) env rs nx m K:=
 fO rfl hg _ (fun hf=>by simp only[aG.dE,hx,uN,bc];exact⟨kx hf,hi hf,ho⟩) (fun hf=>by simp only[aG.val,hx,uc];rw[getD_map (hi hf)];exact hv hf) m rfl (fun ha=>h)
def fw {x:Src}{fx:Bool}{n k i o:Nat}{ag:Bool}{es:List D}(v:D)(h:aI Y draw r env (⟨f,v⟩::rs) nx m K)(hg:GF rs g f:=by exact dt)(hx:cP env rs x=⟨fx,.ref k es i o⟩:=by exact rfl)(kx:f=true->fx=true:=by exact cD)(hi:f=true->i<es.length:=by intro _;simp only[aT,aX];omega)(hv:f=true->me (es.getD i .any) k n o ag=v:=by exact fun _=>rfl)(ho:o+n<=k:=by omega):aI Y draw (⟨.ld n ag x,g⟩::r) env rs nx m K:=
 fO rfl hg _ (fun hf=>by simp only[aG.dE,hx,uN];exact⟨kx hf,hi hf,ho⟩) (fun hf=>by simp only[aG.val,hx,uc];exact hv hf) m rfl (fun ha=>h)
def Vh {x:Src}{fx:Bool}{n k i o:Nat}{ag:Bool}{es:List D}(v:D)(h:aI Y draw r env (⟨f,v⟩::rs) nx m K)(hg:GF rs g f:=by exact dt)(hx:cP env rs x=⟨fx,.ref k es i o⟩:=by exact rfl)(kx:f=true->fx=true:=by exact cD)(hi:f=true->i<es.length:=by intro _;simp only[aT,aX];omega)(hv:f=true->me (es.getD i .any) k n o ag=v:=by exact fun _=>rfl)(ho:o+n<=k:=by omega):aI Y draw (⟨.ldI n ag x,g⟩::r) env rs nx m K:=
 cg rfl hg _ (fun hf=>by simp only[aG.dE,hx,uN];exact⟨kx hf,hi hf,ho⟩) (fun hf=>by simp only[aG.val,hx,uc];exact hv hf) (fun ha=>h)
def Z9 {x:Src}{fx:Bool}{k:Nat}{d:D}{L:Nat}{m2:List (Nat×bL)}(h:aI Y draw r env (⟨f,.ptr L k 0 0⟩::rs) nx m2 K)(hg:GF rs g f:=by exact dt)(hx:cP env rs x=⟨fx,d⟩:=by exact rfl)(kx:f=true->fx=true:=by exact cD)(hc:d.cells.length=k:=by exact rfl)(hL:nx+rs.length=L:=by exact tN)(hm:cR m L (.buf k [d])=m2:=by simp only[cR,cA,Nat.reduceEqDiff,aY,aS,Nat.reduceAdd,reduceCtorEq];exact rfl):aI Y draw (⟨.box k x,g⟩::r) env rs nx m K:=
 fO rfl hg _ (fun hf=>by simp only[aG.dE,hx];exact⟨kx hf,hc⟩) (fun hf=>by simp only[aG.val,hx,hL]) _ (by simp only[aG.cr,hx,hL];exact hm) (fun _=>h)
def r_mkB {L:Nat}{m2:List (Nat×bL)}(h:aI Y draw r env (⟨f,.ptr L 2 0 0⟩::rs) nx m2 K)(hg:GF rs g f:=by exact dt)(hL:nx+rs.length=L:=by exact tN)(hm:cR m L (.bld none 0 false)=m2:=by simp only[cR,cA,Nat.reduceEqDiff,aY,aS,Nat.reduceAdd,reduceCtorEq];exact rfl):aI Y draw (⟨.mkB,g⟩::r) env rs nx m K:=
 fO rfl hg _ (fun _=>trivial) (fun hf=>by simp only[aG.val,hL]) _ (by simp only[aG.cr,hL];exact hm) (fun _=>h)
def r_s2b {x:Src}{fx:Bool}{s:List UInt8}{L:Nat}{m2:List (Nat×bL)}(h:aI Y draw r env (⟨f,.own L 1 0 s.length⟩::rs) nx m2 K)(hg:GF rs g f:=by exact dt)(hx:cP env rs x=⟨fx,.str s⟩:=by exact rfl)(kx:f=true->fx=true:=by exact cD)(hL:nx+rs.length=L:=by exact tN)(hm:cR m L (.buf 1 (s.map fun b=>.int .u8 b.toNat))=m2:=by simp only[cR,cA,Nat.reduceEqDiff,aY,aS,Nat.reduceAdd,reduceCtorEq];exact rfl):aI Y draw (⟨.s2b x,g⟩::r) env rs nx m K:=
 fO rfl hg _ (fun hf=>by simp only[aG.dE,hx];exact⟨kx hf,trivial⟩) (fun hf=>by simp only[aG.val,hx,hL]) _ (by simp only[aG.cr,hx,hL];exact hm) (fun _=>h)
def r_rng {x:Src}{fx:Bool}{s:List UInt8}{L:Nat}{m2:List (Nat×bL)}(h:aI Y draw r env (⟨f,.it L⟩::rs) nx m2 K)(hg:GF rs g f:=by exact dt)(hx:cP env rs x=⟨fx,.str s⟩:=by exact rfl)(kx:f=true->fx=true:=by exact cD)(hL:nx+rs.length=L:=by exact tN)(hm:cR m L (.iter s 0)=m2:=by simp only[cR,cA,Nat.reduceEqDiff,aY,aS,Nat.reduceAdd,reduceCtorEq];exact rfl):aI Y draw (⟨.rng x,g⟩::r) env rs nx m K:=
 fO rfl hg _ (fun hf=>by simp only[aG.dE,hx];exact⟨kx hf,trivial⟩) (fun hf=>by simp only[aG.val,hx,hL]) _ (by simp only[aG.cr,hx,hL];exact hm) (fun _=>h)
def bY {k n:Nat}{z:D}{ps:List (Nat×Src)}{L:Nat}{m2:List (Nat×bL)}(es:List D)(h:aI Y draw r env (⟨f,.own L k 0 n⟩::rs) nx m2 K)(hg:GF rs g f:=by exact dt)(he:kr (cP env rs) (List.replicate n z) ps=es:=by exact rfl)(ho:f=true->mH (cP env rs) k n ps:=by exact tM)(hz:z.cells.length=k:=by exact rfl)(hL:nx+rs.length=L:=by exact tN)(hm:cR m L (.buf k es)=m2:=by simp only[cR,cA,Nat.reduceEqDiff,aY,aS,Nat.reduceAdd,reduceCtorEq];exact rfl):aI Y draw (⟨.bsl k z n ps,g⟩::r) env rs nx m K:=
 fO rfl hg _ (fun hf=>⟨hz,ho hf⟩) (fun hf=>by simp only[aG.val,hL]) _ (by simp only[aG.cr,he,hL];exact hm) (fun _=>h)
def RE {k:Nat}{z:D}{x y:Src}{k1 k2:IntKind}{a c:Int}{L:Nat}{m2:List (Nat×bL)}(n:Nat)(h:aI Y draw r env (⟨true,.own L k 0 n⟩::rs) nx m2 K)(hx:cP env rs x=⟨true,.int k1 a⟩:=by exact rfl)(hy:cP env rs y=⟨true,.int k2 c⟩:=by exact rfl)(hn:a=(n:Int):=by first|exact rfl|omega)(hc:a<=c/\c<=1073741824:=by constructor<;>omega)(hz:z.cells.length=k:=by exact rfl)(hL:nx+rs.length=L:=by exact tN)(hm:cR m L (.buf k (List.replicate n z))=m2:=by simp only[cR,cA,Nat.reduceEqDiff,aY,aS,Nat.reduceAdd,reduceCtorEq];exact rfl):aI Y draw (⟨.mks k z x y,none⟩::r) env rs nx m K:=
 nZ rfl _ (by simp only[aG.dE,hx,hy];exact⟨trivial,trivial,hz,ah,hc.1,hc.2⟩) (by simp only[aG.val,hx,hL,D.nat,hn];rfl) _ (by simp only[aG.cr,hx,hL,D.nat,hn];exact hm) (fun _=>h)
def bD {n l k o:Nat}{x y:Src}{d v:D}{m2:List (Nat×bL)}(e:D)(h:aI Y draw r env (⟨true,.any⟩::rs) nx m2 K)(hx:cP env rs x=⟨true,.ptr l k 0 o⟩:=by exact rfl)(hy:cP env rs y=⟨true,v⟩:=by exact rfl)(hl:look m l=some (.buf k [d]):=by exact rfl)(hc:v.cells.length=n:=by exact rfl)(he:uV d k n o v=e:=by exact rfl)(ho:o+n<=k:=by omega)(hm:cR m l (.buf k [e])=m2:=by simp only[cR,cA,Nat.reduceEqDiff,aY,aS,Nat.reduceAdd,reduceCtorEq];exact rfl):aI Y draw (⟨.st n x y,none⟩::r) env rs nx m K:=
 nZ rfl _ (by simp only[aG.dE,hx,hy,eM,hl];exact⟨trivial,trivial,hc,⟨trivial,bg⟩,ho⟩) rfl _ (by simp only[aG.cr,hx,hy,bh,hl,gB,List.set_cons_zero,he];exact hm) (fun _=>h)
def jS {n l k i o:Nat}{x y:Src}{v:D}{es:List D}{m2:List (Nat×bL)}(es2:List D)(h:aI Y draw r env (⟨true,.any⟩::rs) nx m2 K)(hx:cP env rs x=⟨true,.ptr l k i o⟩:=by exact rfl)(hy:cP env rs y=⟨true,v⟩:=by exact rfl)(hl:look m l=some (.buf k es):=by exact rfl)(hi:i<es.length)(hc:v.cells.length=n:=by exact rfl)(he:es.set i (uV (es.getD i .any) k n o v)=es2)(ho:o+n<=k:=by omega)(hm:cR m l (.buf k es2)=m2:=by simp only[cR,cA,Nat.reduceEqDiff,aY,aS,Nat.reduceAdd,reduceCtorEq];exact rfl):aI Y draw (⟨.st n x y,none⟩::r) env rs nx m K:=
 nZ rfl _ (by simp only[aG.dE,hx,hy,eM,hl];exact⟨trivial,trivial,hc,⟨trivial,ah⟩,ho⟩) rfl _ (by simp only[aG.cr,hx,hy,bh,hl,he];exact hm) (fun _=>h)
def pK (m:List (Nat×bL))(k:Nat)(d:D)(ys:List D):Prop:=wP m k d/\nO m d=ys
def pK.sl {k:Nat}{es:List D}:pK m k (.sl k es) es:=⟨rfl,rfl⟩
def pK.bM {k:Nat}:pK m k .bM []:=⟨trivial,rfl⟩
def pK.own {l k i n:Nat}{es:List D}(hl:look m l=some (.buf k es))(hb:i+n<=es.length):pK m k (.own l k i n) ((es.drop i).take n):=⟨⟨rfl,by simp only[eM,hl];exact⟨trivial,hb⟩⟩,by simp only[nO,bh,hl]⟩
def pK.all {l k n:Nat}{es:List D}(hl:look m l=some (.buf k es))(hb:n=es.length):pK m k (.own l k 0 n) es:=by
 have:=pK.own (i:=0) (n:=n) hl ah;simpa[hb]using this
def pK.str {s:List UInt8}:pK m 1 (.str s) (s.map fun b=>.int .u8 b.toNat):=⟨rfl,rfl⟩
def BE {k n:Nat}{x y:Src}{d:D}{ys:List D}{L:Nat}{m2:List (Nat×bL)}(h:aI Y draw r env (⟨true,.own L k 0 n⟩::rs) nx m2 K)(hx:cP env rs x=⟨true,.bM⟩:=by exact rfl)(hy:cP env rs y=⟨true,d⟩:=by exact rfl)(he:pK m k d ys)(hn:ys.length=n)(hb:n<=1073741824:=by omega)(hL:nx+rs.length=L:=by exact tN)(hm:cR m L (.buf k ys)=m2:=by simp only[cR,cA,Nat.reduceEqDiff,aY,aS,Nat.reduceAdd,reduceCtorEq];exact rfl):aI Y draw (⟨.app k x y,none⟩::r) env rs nx m K:=
 nZ rfl _ (by simp only[aG.dE,hx,hy,he.2,hn];exact⟨trivial,trivial,he.1,hb⟩) (by simp only[aG.val,hx,hy,he.2,hn,hL]) _ (by simp only[aG.cr,hx,hy,he.2,hL];exact hm) (fun _=>h)
def HH {k n:Nat}{y:Src}{fy:Bool}{d:D}{ys:List D}{L:Nat}{m2:List (Nat×bL)}(h:aI Y draw r env (⟨f,.own L k 0 n⟩::rs) nx m2 K)(hg:GF rs g f:=by exact dt)(hy:cP env rs y=⟨fy,d⟩:=by exact rfl)(ky:f=true->fy=true:=by exact cD)(he:pK m k d ys)(hn:ys.length=n)(hb:n<=1073741824:=by omega)(hL:nx+rs.length=L:=by exact tN)(hm:cR m L (.buf k ys)=m2:=by simp only[cR,cA,Nat.reduceEqDiff,aY,aS,Nat.reduceAdd,reduceCtorEq];exact rfl):aI Y draw (⟨.appN k y,g⟩::r) env rs nx m K:=
 fO rfl hg _ (fun hf=>by simp only[aG.dE,hy,he.2,hn];exact⟨ky hf,he.1,hb⟩) (fun hf=>by simp only[aG.val,hy,he.2,hn,hL]) _ (by simp only[aG.cr,hy,he.2,hL];exact hm) (fun _=>h)
def DB {k l i a n:Nat}{x y:Src}{d:D}{xs ys:List D}{L:Nat}{m2:List (Nat×bL)}(zs:List D)(h:aI Y draw r env (⟨true,.own L k 0 n⟩::rs) nx m2 K)(hx:cP env rs x=⟨true,.own l k i a⟩:=by exact rfl)(hy:cP env rs y=⟨true,d⟩:=by exact rfl)(hl:look m l=some (.buf k xs):=by exact rfl)(ha:i+a<=xs.length)(he:pK m k d ys)(hz:(xs.drop i).take a++ys=zs)(hn:a+ys.length=n)(hb:n<=1073741824:=by omega)(hL:nx+rs.length=L:=by exact tN)(hm:cR (cA m l) L (.buf k zs)=m2:=by simp only[cR,cA,Nat.reduceEqDiff,aY,aS,Nat.reduceAdd,reduceCtorEq];exact rfl):aI Y draw (⟨.app k x y,none⟩::r) env rs nx m K:=
 nZ rfl _ (by simp only[aG.dE,hx,hy,he.2,eM,hl,hn];exact⟨trivial,trivial,he.1,trivial,⟨trivial,ha⟩,hb⟩) (by simp only[aG.val,hx,hy,he.2,hn,hL]) _ (by simp only[aG.cr,hx,hy,he.2,bh,hl,hz,hL];exact hm) (fun _=>h)
def iU {α:Type}{q:α->D}{xs:List α}{e:α}{k l ly:Nat}{x y:Src}{L:Nat}{m2:List (Nat×bL)}(h:aI Y draw r env (⟨true,.own L k 0 (xs++[e]).length⟩::rs) nx m2 K)(hx:cP env rs x=⟨true,.own l k 0 xs.length⟩:=by exact rfl)(hy:cP env rs y=⟨true,.own ly k 0 1⟩:=by exact rfl)(hl:look m l=some (.buf k (xs.map q)):=by exact rfl)(he:look m ly=some (.buf k [q e]):=by exact rfl)(hb:xs.length+1<=1073741824:=by omega)(hL:nx+rs.length=L:=by exact tN)(hm:cR (cA m l) L (.buf k ((xs++[e]).map q))=m2:=by simp only[cR,cA,Nat.reduceEqDiff,aY,aS,Nat.reduceAdd,reduceCtorEq];exact rfl):aI Y draw (⟨.app k x y,none⟩::r) env rs nx m K:=
 DB (zs:=(xs++[e]).map q) (hx:=hx) (hy:=hy) (hl:=hl) (ha:=bg) (he:=pK.all (es:=[q e]) he rfl) (hz:=by rw[bP,gY bg];simp) (hn:=bg) (hb:=dH) (hL:=hL) (hm:=hm) (h:=h)
def xU {α:Type}{q:α->D}{xs ys:List α}{k l:Nat}{x y:Src}{d:D}{L:Nat}{m2:List (Nat×bL)}(h:aI Y draw r env (⟨true,.own L k 0 (xs++ys).length⟩::rs) nx m2 K)(hx:cP env rs x=⟨true,.own l k 0 xs.length⟩:=by exact rfl)(hy:cP env rs y=⟨true,d⟩:=by exact rfl)(hl:look m l=some (.buf k (xs.map q)):=by exact rfl)(he:pK m k d (ys.map q))(hb:xs.length+ys.length<=1073741824:=by omega)(hL:nx+rs.length=L:=by exact tN)(hm:cR (cA m l) L (.buf k ((xs++ys).map q))=m2:=by simp only[cR,cA,Nat.reduceEqDiff,aY,aS,Nat.reduceAdd,reduceCtorEq];exact rfl):aI Y draw (⟨.app k x y,none⟩::r) env rs nx m K:=
 DB (zs:=(xs++ys).map q) (hx:=hx) (hy:=hy) (hl:=hl) (ha:=bg) (he:=he) (hz:=by rw[bP,gY bg];simp) (hn:=bg) (hb:=dH) (hL:=hL) (hm:=hm) (h:=h)
def NG {x:Src}{fx:Bool}{d:D}{ys:List D}(s:List UInt8)(h:aI Y draw r env (⟨f,.str s⟩::rs) nx m K)(hg:GF rs g f:=by exact dt)(hx:cP env rs x=⟨fx,d⟩:=by exact rfl)(kx:f=true->fx=true:=by exact cD)(he:f=true->pK m 1 d ys)(hs:f=true->ys=s.map fun b=>.int .u8 b.toNat)(hd:d.Uq=false:=by exact rfl):aI Y draw (⟨.b2s x,g⟩::r) env rs nx m K:=
 fO rfl hg _ (fun hf=>by
  simp only[aG.dE,hx,(he hf).2,hs hf];refine⟨kx hf,(by cases d<;>first|trivial|(cases hd)),(he hf).1,fun e hm=>?_⟩;obtain⟨b,_,rfl⟩:=fF.1 hm;have:=b.toNat_lt;exact⟨rfl,ah,ah⟩) (fun hf=>by simp only[aG.val,hx,(he hf).2,hs hf];rw[PC]) m rfl (fun _=>h)
def BJ {x:Src}{l pos:Nat}{s:List UInt8}{m2:List (Nat×bL)}(c w:Nat)(h:aI Y draw r env (⟨true,.tup [.bool true,.int .i64 pos,.int .i32 c]⟩::rs) nx m2 K)(hx:cP env rs x=⟨true,.it l⟩:=by exact rfl)(hl:look m l=some (.iter s pos):=by exact rfl)(hp:pos<s.length)(hc:sR s pos=(c,w))(hm:cR m l (.iter s (pos+w))=m2:=by simp only[cR,cA,Nat.reduceEqDiff,aY,aS,Nat.reduceAdd,reduceCtorEq];exact rfl):aI Y draw (⟨.au x,none⟩::r) env rs nx m K:=
 nZ rfl _ (by simp only[aG.dE,hx,hl];exact⟨trivial,trivial⟩) (by simp only[aG.val,hx,hl,hc,hp,decide_true,cond_true]) _ (by simp only[aG.cr,hx,hl,hc,hp,decide_true,cond_true];exact hm) (fun _=>h)
def BI {x:Src}{l pos:Nat}{s:List UInt8}(h:aI Y draw r env (⟨true,.tup [.bool false]⟩::rs) nx m K)(hx:cP env rs x=⟨true,.it l⟩:=by exact rfl)(hl:look m l=some (.iter s pos):=by exact rfl)(hp:¬pos<s.length):aI Y draw (⟨.au x,none⟩::r) env rs nx m K:=
 nZ rfl _ (by simp only[aG.dE,hx,hl];exact⟨trivial,trivial⟩) (by simp only[aG.val,hx,hl,hp,decide_false,cond_false]) _ (by simp only[aG.cr,hx,hl,hp,decide_false,cond_false]) (fun _=>h)
def ak {n:Nat}{args:List Src}{sh:List (List Sh)}{amf:List D}{v:D}(h:aI Y draw r env (⟨f,v⟩::rs) nx m K)(hg:GF rs g f:=by exact dt)(hc:Y.pre n amf/\Y.val n amf=v)(ha:f=true->kN m sh (gV (cP env rs) args)=amf:=by exact fun _=>rfl)(ho:f=true->sH (cP env rs) args:=by exact tM)(hp:f=true->ke m sh (gV (cP env rs) args):=by exact tM)(hk:f=true->nJ (gV (cP env rs) args) v=true:=by exact fun _=>rfl):aI Y draw (⟨.call n args sh,g⟩::r) env rs nx m K:=
 fO rfl hg _ (fun hf=>by simp only[aG.dE,(dz _ _ _).1,ha hf,hc.2];exact⟨ho hf,(dz _ _ _).2.2 (hp hf),hc.1,hk hf⟩) (fun hf=>by simp only[aG.val,(dz _ _ _).1,ha hf,hc.2]) m rfl (fun _=>h)
def bK {n:Nat}{args:List Src}{sh:List (List Sh)}{amf:List D}{v:D}(h:aI Y draw r env (⟨f,v⟩::rs) nx m K)(hg:GF rs g f:=by exact dt)(hc:f=true->Y.pre n amf/\Y.val n amf=v)(ha:f=true->kN m sh (gV (cP env rs) args)=amf:=by exact fun _=>rfl)(ho:f=true->sH (cP env rs) args:=by exact tM)(hp:f=true->ke m sh (gV (cP env rs) args):=by exact tM)(hk:f=true->nJ (gV (cP env rs) args) v=true:=by exact fun _=>rfl):aI Y draw (⟨.call n args sh,g⟩::r) env rs nx m K:=
 fO rfl hg _ (fun hf=>by simp only[aG.dE,(dz _ _ _).1,ha hf,(hc hf).2];exact⟨ho hf,(dz _ _ _).2.2 (hp hf),(hc hf).1,hk hf⟩) (fun hf=>by simp only[aG.val,(dz _ _ _).1,ha hf,(hc hf).2]) m rfl (fun _=>h)
def vA {n:Nat}{x:Src}{fx:Bool}{caps:List D}{args:List Src}{sh:List (List Sh)}{amf:List D}{v:D}(h:aI Y draw r env (⟨f,v⟩::rs) nx m K)(hg:GF rs g f:=by exact dt)(hx:cP env rs x=⟨fx,.fn n caps⟩:=by exact rfl)(kx:f=true->fx=true:=by exact cD)(hb:n<1000000:=by decide)(hc:f=true->Y.pre n amf/\Y.val n amf=v)(ha:f=true->kN m sh (gV (cP env rs) args++caps)=amf:=by exact fun _=>rfl)(ho:f=true->sH (cP env rs) args:=by exact tM)(hp:f=true->ke m sh (gV (cP env rs) args++caps):=by exact tM)(hk:f=true->nJ (gV (cP env rs) args++caps) v=true:=by exact fun _=>rfl):aI Y draw (⟨.callv x args sh,g⟩::r) env rs nx m K:=
 fO rfl hg _ (fun hf=>by simp only[aG.dE,hx,(dz _ _ _).1,ha hf,(hc hf).2];exact⟨kx hf,ho hf,hb,(dz _ _ _).2.2 (hp hf),(hc hf).1,hk hf⟩) (fun hf=>by simp only[aG.val,hx,(dz _ _ _).1,ha hf,(hc hf).2]) m rfl (fun _=>h)
def HJ {n:Nat}{caps:List Src}(cs:List D)(h:aI Y draw r env (⟨f,.fn n cs⟩::rs) nx m K)(hg:GF rs g f:=by exact dt)(hc:f=true->gV (cP env rs) caps=cs:=by exact fun _=>rfl)(ho:f=true->sH (cP env rs) caps:=by exact tM):aI Y draw (⟨.mkf n caps,g⟩::r) env rs nx m K:=
 cg rfl hg _ (fun hf=>ho hf) (fun hf=>by simp only[aG.val,hc hf]) (fun _=>h)
def ch {n l k:Nat}{x:Src}{args:List Src}{sh:List (List Sh)}{d v e:D}{amf:List D}{m2:List (Nat×bL)}(h:aI Y draw r env (⟨true,v⟩::rs) nx m2 K)(hx:cP env rs x=⟨true,.ptr l k 0 0⟩:=by exact rfl)(hl:look m l=some (.buf k [d]):=by exact rfl)(hd:d.aZ=true:=by exact rfl)(hc:Y.fp n d amf/\Y.fv n d amf=v/\Y.fs n d amf=e)(ha:kN [] sh (gV (cP env rs) args)=amf:=by exact rfl)(ho:sH (cP env rs) args:=by repeat' first|exact trivial|exact rfl|refine And.intro ?_ ?_|decide)(hn:aR (gV (cP env rs) args)=true:=by exact rfl)(hm:cR m l (.buf k [e])=m2:=by simp only[cR,cA,Nat.reduceEqDiff,aY,aS,Nat.reduceAdd,reduceCtorEq];exact rfl):aI Y draw (⟨.callF n x args sh,none⟩::r) env rs nx m K:=
 nZ rfl _ (by simp only[aG.dE,hx,eM,bh,hl,gB,(dz _ _ _).1,ha];exact⟨trivial,ho,hn,trivial,trivial,⟨trivial,bg⟩,bg,hd,hc.1⟩) (by simp only[aG.val,hx,bh,hl,gB,(dz _ _ _).1,ha,hc.2.1]) _ (by simp only[aG.cr,hx,bh,hl,gB,(dz _ _ _).1,ha,hc.2.2];exact hm) (fun _=>h)
end
end
end Go.Abs
section
namespace Go.Abs
abbrev aU:=List UInt8
structure aQ where
 major:Int
 minor:Int
 patch:Int
 pre:aU
 build:aU
 deriving Inhabited,DecidableEq
def aQ.D (v:aQ):D:=.agg [.int .i64 v.major,.int .i64 v.minor,.int .i64 v.patch,.str v.pre,.str v.build]
structure cU where
 name:aU
 v:aQ
 shelf:aU
 sum:Int
 feats:List aU
 deriving Inhabited,DecidableEq
def cU.D (x:cU):D:=.agg [.str x.name,.int .i64 x.v.major,.int .i64 x.v.minor,.int .i64 x.v.patch,.str x.v.pre,.str x.v.build,.str x.shelf,.int .u64 x.sum,.sl 1 (x.feats.map D.str)]
structure Env where
 e0:aU
 e1:aU
 e2:aU
 deriving Inhabited,DecidableEq
def Env.D (e:Env):D:=.agg [.str e.e0,.str e.e1,.str e.e2]
structure gT where
 env:Env
 lines:List cU
 deriving Inhabited,DecidableEq
def gT.D (l:gT):D:=.agg [.str l.env.e0,.str l.env.e1,.str l.env.e2,.sl 9 (l.lines.map cU.D)]
end Go.Abs
namespace Go.Abs
theorem vu (a b:List UInt8):T9 (.str a) (.str b)=decide (a=b):=nG a b
theorem vt (k k2:IntKind)(a b:Int):T9 (.int k a) (.int k2 b)=decide (a=b):=rfl
def aQ.eq (a b:aQ):iw (aQ.D a).cells (aQ.D b).cells=decide (a=b):=by
 obtain⟨a1,a2,a3,a4,a5⟩:=a;obtain⟨b1,b2,b3,b4,b5⟩:=b
 grind [aQ.D,D.cells,iw,vu,vt]
def Env.eq (a b:Env):iw (Env.D a).cells (Env.D b).cells=decide (a=b):=by
 obtain⟨a1,a2,a3⟩:=a;obtain⟨b1,b2,b3⟩:=b
 grind [Env.D,D.cells,iw,vu,vt]
theorem aQ.inj {a b:aQ}(h:aQ.D a=aQ.D b):a=b:=by
 obtain⟨a1,a2,a3,a4,a5⟩:=a;obtain⟨b1,b2,b3,b4,b5⟩:=b
 grind [aQ.D]
theorem Env.inj {a b:Env}(h:Env.D a=Env.D b):a=b:=by
 obtain⟨a1,a2,a3⟩:=a;obtain⟨b1,b2,b3⟩:=b
 grind [Env.D]
theorem map_inj {α:Type}{q:α->D}(hq:∀a b,q a=q b->a=b):∀{xs ys:List α},xs.map q=ys.map q->xs=ys
 |[],[],_=>rfl
 |[],_::_,h=>by simp at h
 |_::_,[],h=>by simp at h
 |a::r,b::s,h=>by
  simp only[List.map_cons,pJ]at h;rw[hq a b h.1,map_inj hq h.2]
theorem str_inj (a b:List UInt8)(h:D.str a=D.str b):a=b:=by simpa using h
theorem cU.inj {a b:cU}(h:cU.D a=cU.D b):a=b:=by
 obtain⟨a1,⟨v1,v2,v3,v4,v5⟩,a2,a3,a4⟩:=a;obtain⟨b1,⟨w1,w2,w3,w4,w5⟩,b2,b3,b4⟩:=b
 grind [cU.D,map_inj,str_inj]
theorem gT.inj {a b:gT}(h:gT.D a=gT.D b):a=b:=by
 obtain⟨⟨a1,a2,a3⟩,a4⟩:=a;obtain⟨⟨b1,b2,b3⟩,b4⟩:=b
 grind [gT.D,map_inj,cU.inj]
end Go.Abs
end
section
namespace Go.Abs
def allI (p:Nat->Bool):Nat->Nat->Bool
 |_,0=>true
 |i,k+1=>p i&&allI p (i+1) k
def cF (p:Nat->Bool)(i n:Nat):Bool:=allI p i (n-i)
def aN {p:Nat->Bool}{i n:Nat}(h:i<n):cF p i n=(p i&&cF p (i+1) n):=by
 unfold cF;rw[show n-i=(n-(i+1))+1 by omega];rfl
def b7 {p:Nat->Bool}{i n:Nat}(h:n<=i):cF p i n=true:=by
 unfold cF;rw[show n-i=0 by omega];rfl
theorem Ct {p:Nat->Bool}:∀{k i:Nat},allI p i k=true↔∀j,i<=j->j<i+k->p j=true
 |0,i=>by simp[allI];intro j h1 h2;omega
 |k+1,i=>by
  simp only[allI,br,Ct (k:=k)]
  grind
theorem dL {p:Nat->Bool}{i n:Nat}:cF p i n=true↔∀j,i<=j->j<n->p j=true:=by
 grind [cF,Ct]
end Go.Abs
namespace Go.Abs
def ct {a a' b b':D}(h1:a=a')(h2:b=b'):D.tup [a,b]=D.tup [a',b']:=by rw[h1,h2]
end Go.Abs
namespace Go.Abs
def ld8 (s:aU)(i:Nat):me (D.int .u8 (s[i]!).toNat) 1 1 0 false=.int .u8 (at8 s i):=by
 simp only[me,D.isAgg,at8];simp;rfl
end Go.Abs
namespace Go.Abs
def rQ (s:aU)(pos:Nat)(h:pos<s.length):∃c w,sR s pos=(c,w)/\1<=w/\((w=1/\(c:Int)=at8 s pos/\c<128)\/(128<=c/\128<=at8 s pos)):=by
 refine⟨(sR s pos).1,(sR s pos).2,rfl, ?_⟩;have e:sR s pos=Lib.decodeN (s.length-pos) (s.getD pos 0).toNat (s.getD (pos+1) 0).toNat (s.getD (pos+2) 0).toNat (s.getD (pos+3) 0).toNat:=Lib.decode_N ⟨⟨s⟩⟩ pos;rw[e];unfold at8;generalize (s.getD pos 0).toNat=b0;generalize (s.getD (pos+1) 0).toNat=b1;generalize (s.getD (pos+2) 0).toNat=b2;generalize (s.getD (pos+3) 0).toNat=b3;generalize s.length-pos=n;by_cases hb:b0<128
 .unfold Lib.decodeN;rw[ay hb];exact⟨aM _,.inl ⟨rfl,rfl,hb⟩⟩
 .unfold Lib.decodeN
  grind
end Go.Abs
namespace Go.Abs
def qc {α:Type}{q:α->D}{xs:List α}{m:List (Nat×bL)}{l:Nat}(hq:∀x,xV m [.a] (q x)=q x)(hl:look m l=some (.buf 1 (xs.map q))):xV m [.sl 1 [.a]] (.own l 1 0 xs.length)=.sl 1 (xs.map q):=by
 show D.sl 1 _=_;simp only[bh,hl,bP,aE,List.map_map];congr 1;apply List.map_congr_left;intro x _;have:=hq x;simp only[Function.comp];generalize q x=d at this;cases d<;>exact this
def ny {α:Type}{q:α->D}{xs:List α}{m:List (Nat×bL)}{l:Nat}(hq:∀x,OO m [.a] (q x))(hl:look m l=some (.buf 1 (xs.map q))):OO m [.sl 1 [.a]] (.own l 1 0 xs.length):=by
 grind [OO,Q3,OM,eM,bh,aE]
end Go.Abs
end
namespace Go.Abs
def iT (c:Int):Bool:=decide (97<=c)&&decide (c<=122)
def cn (c:Int):Bool:=decide (48<=c)&&decide (c<=57)
def Ay (c:Int):Bool:=iT c ||cn c ||decide (c=95)
def fj (s:aU):Bool:=decide (1<=s.length)&&decide (s.length<=12)&&cF (fun i=>Ay (at8 s i)) 0 s.length
def V3 (s:aU)(i:Nat):Bool:=(iT (at8 s i) ||cn (at8 s i) ||decide (at8 s i=45))&& !(decide (at8 s i=45)&&decide (at8 s (i-1)=45))
def fS (s:aU):Bool:=decide (1<=s.length)&&decide (s.length<=16)&&iT (at8 s 0)&& !decide (at8 s (s.length-1)=45)&&cF (V3 s) 1 s.length
def mL (s:aU)(i:Nat):Bool:=iT (at8 s i) ||(cn (at8 s i)&& !decide (i=0)) ||(decide (at8 s i=45)&& !decide (i=0)&& !decide (i=s.length-1)&& !decide (at8 s (i-1)=45))
def Ql (s:aU)(h1:1<=s.length)(h2:s.length<=16):fS s=cF (mL s) 0 s.length:=by
 rw[Bool.eq_iff_iff];simp only[fS,cX h1,cX h2,eJ,br,cW,dn,dL];constructor
 .rintro⟨⟨h3,h4⟩,h5⟩ j _ hj;rcases Nat.eq_zero_or_pos j with rfl|hp
  .simp[mL,h3]
  .have:=h5 j hp hj;simp only[V3,br,dW,cW,ey,bU,dn]at this;simp only[mL,br,dW,cW,bU,dn];rcases this with⟨(h6|h6)|h6,h7⟩
   .exact Or.inl (Or.inl h6)
   .exact Or.inl (Or.inr ⟨h6,ah⟩)
   .refine Or.inr ⟨⟨⟨h6,ah⟩, ?_⟩, ?_⟩
    .rintro rfl;exact h4 h6
    .rcases h7 with h7|h7
     .exact absurd h6 h7
     .exact h7
 .intro h;have h0:=h 0 ah ah;have hlow:iT (at8 s 0)=true:=by simpa[mL]using h0
  refine⟨⟨hlow, ?_⟩,fun j hj1 hj2=>?_⟩
  .intro he;have hl:=h (s.length-1) ah ah;rcases Nat.eq_or_lt_of_le h1 with e|e
   .rw[<-e]at he;simp only[Nat.sub_self]at he;simp only[iT,br,bU]at hlow;omega
   .simp only[mL,he,iT,cn]at hl;simp at hl
  .have:=h j ah hj2;simp only[mL,br,dW,cW,bU,dn]at this;simp only[V3,br,dW,cW,ey,bU,dn];rcases this with(h6|h6)|h6
   .refine⟨Or.inl (Or.inl h6),Or.inl ?_⟩;simp only[iT,br,bU]at h6;omega
   .refine⟨Or.inl (Or.inr h6.1),Or.inl ?_⟩;have:=h6.1;simp only[cn,br,bU]at this;omega
   .exact⟨Or.inr h6.1.1.1,Or.inr h6.2⟩
def eN (s:aU):Nat:=s.foldl (fun n b=>n*10+(b.toNat-48)) 0
def kD (s:aU):Bool:=decide (1<=s.length)&&decide (s.length<=9)&& !(decide (1<s.length)&&decide (at8 s 0=48))&&cF (fun i=>cn (at8 s i)) 0 s.length&&decide (eN s<=9999)
def tt (s:aU):Int:=if kD s=true then(eN s:Int)else 0
theorem oa (s:aU)(i:Nat)(h:i<s.length):s.take (i+1)=s.take i++[s.getD i 0]:=by
 rw[List.take_succ];simp[h]
def ug (s:aU)(i:Nat)(h:i<s.length):eN (s.take (i+1))=eN (s.take i)*10+((at8 s i).toNat-48):=by
 rw[oa s i h];simp[eN,List.foldl_append,at8]
def Kg (s:aU):eN s+23<=23*10^s.length:=by
 have:∀(s:aU) (n k:Nat),n+23<=23*10^k->s.foldl (fun n b=>n*10+(b.toNat-48)) n+23<=23*10^(k+s.length):=by
  intro s;induction s with
  |nil=>intro n k h;simpa using h
  |cons b r ih=>
   intro n k h;have hb:=b.toNat_lt;have:=ih (n*10+(b.toNat-48)) (k+1) (by rw[Nat.pow_succ];omega);simp only[List.foldl_cons,aT];rw[show k+(r.length+1)=k+1+r.length by omega];exact this
 have:=this s 0 0 bg;simpa[eN]using this
def sc (s:aU)(i:Nat)(h:i<=9):eN (s.take i)<=23000000000:=by
 have h1:=Kg (s.take i);have h2:(s.take i).length<=9:=dH;have h3:10^(s.take i).length<=10^9:=Nat.pow_le_pow_right ah h2;omega
def Dl (s:aU):∀n:Nat,s.foldl (fun n b=>n*10+(b.toNat-48)) n=n*10^s.length+eN s:=by
 unfold eN;induction s with
 |nil=>intro n;simp
 |cons b r ih=>
  intro n;simp only[List.foldl_cons,aT];rw[ih,ih (0*10+(b.toNat-48)),Nat.pow_succ];simp only[Nat.zero_mul,bq,Nat.add_mul];rw[Nat.mul_assoc n 10,Nat.mul_comm 10];omega
def uf (b:UInt8)(r:aU):eN (b::r)=(b.toNat-48)*10^r.length+eN r:=by
 have:=Dl r (0*10+(b.toNat-48));simp only[eN,List.foldl_cons]at this⊢;rw[this];simp
def tT {b:UInt8}{r:aU}(h:cF (fun i=>cn (at8 (b::r) i)) 0 (b::r).length=true):cn b.toNat=true/\cF (fun i=>cn (at8 r i)) 0 r.length=true:=by
 rw[dL]at h;refine⟨by simpa[at8]using h 0 ah bg, ?_⟩;rw[dL];intro j _ hj;simpa[at8]using h (j+1) ah dH
def zK:∀(s:aU),cF (fun i=>cn (at8 s i)) 0 s.length=true->eN s<10^s.length
 |[],_=>by simp[eN]
 |b::r,h=>by
  obtain⟨h1,h2⟩:=tT h;have:=zK r h2;rw[uf,aT,Nat.pow_succ];simp only[cn,br,bU]at h1;have h3:b.toNat-48<=9:=ah;have:=fg (10^r.length) h3;omega
def Kf {b:UInt8}{r:aU}(h:49<=b.toNat):10^r.length<=eN (b::r):=by
 rw[uf];have:=fg (10^r.length) (show 1<=b.toNat-48 by omega);omega
def M6 (s:aU):kD s=(decide (1<=s.length)&&decide (s.length<=4)&& !(decide (1<s.length)&&decide (at8 s 0=48))&&cF (fun i=>cn (at8 s i)) 0 s.length):=by
 unfold kD;cases hd:cF (fun i=>cn (at8 s i)) 0 s.length with
 |false=>simp
 |true=>
  have hlt:=zK s hd;by_cases h4:s.length<=4
  .have:10^s.length<=10^4:=Nat.pow_le_pow_right ah h4;rw[cX h4,cX (by omega:s.length<=9),cX (by omega:eN s<=9999)];simp
  .rw[dx h4]
   match s,hd,h4 with
   |b::r,hd,h4=>
    by_cases h0:at8 (b::r) 0=48
    .rw[cX h0,cX (by omega:1<(b::r).length)];simp
    .have h1:=(tT hd).1;simp only[cn,br,bU]at h1;have h2:49<=b.toNat:=by
      simp[at8]at h0;omega
     have h3:=Kf (r:=r) h2;have:10^4<=10^r.length:=Nat.pow_le_pow_right ah (by simp at h4;omega);rw[dx (by omega:¬eN (b::r)<=9999)];simp
def dg (n:Nat):UInt8:=UInt8.ofNat (48+n)
def AU:Nat->Nat->aU
 |0,n=>[dg n]
 |f+1,n=>if n<10 then [dg n]else AU f (n/10)++[dg (n%10)]
def jC (n:Nat):aU:=AU n n
def Hd:∀(f g n:Nat),n<=f->n<=g->AU f n=AU g n
 |0,0,n,_,_=>rfl
 |0,g+1,n,h,_=>by
  obtain rfl:n=0:=ah;simp[AU]
 |f+1,0,n,_,h=>by
  obtain rfl:n=0:=ah;simp[AU]
 |f+1,g+1,n,h1,h2=>by
  simp only[AU];split
  .rfl
  .rw[Hd f g (n/10) ah ah]
def vo {n:Nat}(h:n<10):jC n=[dg n]:=by
 unfold jC;cases n<;>simp[AU,h]
def vl {n:Nat}(h:9<n):jC n=jC (n/10)++[dg (n%10)]:=by
 unfold jC;obtain⟨k,rfl⟩:∃k,n=k+1:=⟨n-1,ah⟩
 simp only[AU];rw[aj ah,Hd k ((k+1) /10) _ ah ah]
def gh:∀(k n:Nat),n<10^k->0<k->(jC n).length<=k:=by
 intro k;induction k with
 |zero=>intro n _ h;omega
 |succ k ih=>
  intro n h _;by_cases h10:n<10
  .rw[vo h10];simp
  .rw[vl ah];have hk:0<k:=by
    rcases Nat.eq_zero_or_pos k with rfl|h0
    .simp at h;omega
    .exact h0
   have:=ih (n/10) (by rw[Nat.pow_succ]at h;omega) hk;simp;omega
def Rk {n:Nat}(h:n<10):((dg n).toNat:Int)=48+n:=by
 have:(48+n)%256=48+n:=Nat.mod_eq_of_lt ah;simp[dg,this]
def eU (b:Int):aU->aU->List aU
 |[],cur=>[cur]
 |c::r,cur=>if(c.toNat:Int)=b then cur::eU b r []else eU b r (cur++[c])
def bE (s:aU)(b:Int):List aU:=eU b s []
def Hg (s:aU)(i:Nat)(h:i<s.length):s.drop i=s.getD i 0::s.drop (i+1):=by
 rw[gZ h];simp[h]
def Aj {s:aU}{b:Int}{i fr:Nat}(h:i<s.length)(he:at8 s i=b):eU b (s.drop i) ((s.take i).drop fr)=((s.take i).drop fr)::eU b (s.drop (i+1)) ((s.take (i+1)).drop (i+1)):=by
 rw[Hg s i h];have h2:(s.take (i+1)).drop (i+1)=[]:=bg;rw[h2];simp only[eU];rw[ay (by simpa[at8]using he)]
def Ak {s:aU}{b:Int}{i fr:Nat}(h:i<s.length)(hf:fr<=i)(he:¬at8 s i=b):eU b (s.drop i) ((s.take i).drop fr)=eU b (s.drop (i+1)) ((s.take (i+1)).drop fr):=by
 rw[Hg s i h,oa s i h,List.drop_append_of_le_length dH];simp only[eU];rw[aj (by simpa[at8]using he)]
def yt {s:aU}{b:Int}{i fr:Nat}(h:s.length<=i):eU b (s.drop i) ((s.take i).drop fr)=[s.drop fr]:=by
 rw[kR h,gY h];rfl
def rj (b:Int):∀(s cur:aU),(eU b s cur).length<=s.length+1
 |[],cur=>by simp[eU]
 |c::r,cur=>by
  simp only[eU];split
  .have:=rj b r [];simp;omega
  .have:=rj b r (cur++[c]);simp;omega
def n8 (s:aU)(b:Int):(bE s b).length<=s.length+1:=rj b s []
def kY (c:Int):Bool:=iT c ||cn c ||decide (c=45)
def qk (t:aU):Bool:=decide (1<=t.length)&&decide (t.length<=8)&&cF (fun i=>kY (at8 t i)) 0 t.length
def cV (t:aU):Bool:=cF (fun i=>cn (at8 t i)) 0 t.length&&decide (0<t.length)
def ie (p:Bool)(t:aU):Bool:=qk t&& !(p&&cV t&& !kD t)
def nu (s:aU)(p:Bool):Bool:=decide ((bE s 46).length<=4)&&cF (fun i=>ie p (bE s 46)[i]!) 0 (bE s 46).length
def uy (s:aU)(p:Bool):Bool:=decide (s=[]) ||nu s p
def o8 (n:Int):Bool:=decide (0<=n)&&decide (n<=9999)
def fE (v:aQ):Bool:=o8 v.major&&o8 v.minor&&o8 v.patch&&uy v.pre true&&uy v.build false
def za (v:aQ):aU:=jC v.major.toNat++[46]++jC v.minor.toNat++[46]++jC v.patch.toNat++(if v.pre=[]then []else 45::v.pre)++(if v.build=[]then []else 43::v.build)
def oH (v:aQ):aU:=if fE v=true then za v else []
def aQ.sm (v:aQ):Prop:=v.pre.length<=1048576/\v.build.length<=1048576
def or64 (a b:Int):Int:=IntKind.u64.wrap ((BitVec.ofInt 64 a |||BitVec.ofInt 64 b).toNat)
def H2 (a b:Int):Int:=IntKind.u64.wrap ((BitVec.ofInt 64 a^^^BitVec.ofInt 64 b).toNat)
def Ol (a:Int)(k:Nat):Int:=IntKind.u64.wrap (a*2^k)
def Ag (a:Int)(k:Nat):Int:=a.fdiv (2^k)
def Vu (h:Int)(k:Nat):Int:=or64 (Ol h k) (Ag h (64-k))
def HT (h:Int)(c:Int):Int:=IntKind.u64.wrap (Vu (H2 h c) 13*18397679294719823053)
def tJ (s:aU):Int:=s.foldl (fun h c=>HT h c.toNat) 11400714819323198485
def KZ (s:aU):Int:=H2 (tJ s) (Ag (tJ s) 29)
def An (s:aU)(i:Nat)(h:i<s.length):tJ (s.take (i+1))=HT (tJ (s.take i)) (at8 s i):=by
 grind [oa,tJ,at8]
def Env.at (e:Env):Nat->aU
 |0=>e.e0
 |1=>e.e1
 |_=>e.e2
def Env.ld (e:Env){i:Nat}(h:i<3):me (Env.D e) 3 1 (0+i*1) false=.str (e.at i):=by
 match i,h with
 |0,_=>rfl
 |1,_=>rfl
 |2,_=>rfl
def gT.ld (l:gT){i:Nat}(h:i<3):me (gT.D l) 4 1 (0+i*1) false=.str (l.env.at i):=by
 match i,h with
 |0,_=>rfl
 |1,_=>rfl
 |2,_=>rfl
def Env.cut (e:Env){i:Nat}(h:i<3):Abs.cut [.str e.e0,.str e.e1,.str e.e2] (i*1) 1 false=.str (e.at i):=by
 match i,h with
 |0,_=>rfl
 |1,_=>rfl
 |2,_=>rfl
def wQ (e:Env):Bool:=cF (fun i=>decide (e.at i=[]) ||fj (e.at i)) 0 3
def lH (l:List aU)(i:Nat):Bool:=fj l[i]! && !(decide (0<i)&& !Op.bytesLess l[i-1]! l[i]!)
def r7 (x:cU):Bool:=fS x.name&&fE x.v&& !(decide (x.shelf≠[])&& !fS x.shelf)&& !(decide (x.shelf=[])&&decide (x.sum≠0))&&decide (x.feats.length<=9)&&cF (lH x.feats) 0 x.feats.length
def m8 (l:List cU)(i:Nat):Bool:=r7 l[i]! && !(decide (0<i)&& !Op.bytesLess l[i-1]!.name l[i]!.name)
def uM (l:gT):Bool:=wQ l.env&&decide (l.lines.length<=48)&&cF (m8 l.lines) 0 l.lines.length
def cU.sm (x:cU):Prop:=x.v.sm/\x.name.length<=1048576/\x.shelf.length<=1048576/\x.feats.length<=1048576/\∀t∈x.feats,t.length<=1048576
def gT.sm (l:gT):Prop:=l.lines.length<=1048576/\(∀x∈l.lines,x.sm)/\∀i,(l.env.at i).length<=1048576
theorem aq {α:Type} [Inhabited α]{l:List α}{i:Nat}(h:i<l.length):l[i]! ∈l:=by
 simp[h]
structure Kp where
 name:aU
 v:aQ
 deriving Inhabited,DecidableEq
def Kp.D (x:Kp):D:=.agg [.str x.name,.int .i64 x.v.major,.int .i64 x.v.minor,.int .i64 x.v.patch,.str x.v.pre,.str x.v.build]
def Ej {α:Type} [Inhabited α] [DecidableEq α]{a b:List α}(h:a.length=b.length):decide (a=b)=cF (fun i=>decide (a[i]! =b[i]!)) 0 a.length:=by
 rw[Bool.eq_iff_iff,bU,dL];constructor
 .rintro rfl j _ _;simp
 .intro hj;apply List.ext_getElem h
  grind
def cU.same {a b:cU}(e1:a.name=b.name)(e2:a.v=b.v)(e3:a.shelf=b.shelf)(e4:a.sum=b.sum)(e5:a.feats.length=b.feats.length):decide (a=b)=cF (fun i=>decide (a.feats[i]! =b.feats[i]!)) 0 a.feats.length:=by
 rw[<-Ej e5];obtain⟨a1,a2,a3,a4,a5⟩:=a;obtain⟨b1,b2,b3,b4,b5⟩:=b
 grind
def cL (b:aU):List aU->aU
 |[]=>[]
 |[t]=>t
 |t::u::r=>t++b++cL b (u::r)
def qP (b t:aU)(r:List aU)(h:r≠[]):cL b (t::r)=t++b++cL b r:=by
 cases r with
 |nil=>exact absurd rfl h
 |cons u r=>rfl
def o9 {α:Type}(q:α->aU)(B:Nat):∀l:List α,(∀x∈l,(q x).length<=B)->((l.map q).flatten).length<=l.length*B
 |[],_=>bg
 |a::r,h=>by
  have h1:=h a (.head _);have h2:=o9 q B r fun x hx=>h x (.tail _ hx)
  simp only[List.map_cons,List.flatten_cons,bS,aT,Nat.succ_mul];omega
def yB (v:aQ)(h:v.sm):(oH v).length<=2097200:=by
 unfold oH;split
 .rename_i hv;simp only[fE,br]at hv;obtain⟨⟨⟨⟨hv1,hv2⟩,hv3⟩,_⟩,_⟩:=hv;simp only[o8,br,bU]at hv1 hv2 hv3;have hl1:=gh 4 v.major.toNat ah ah;have hl2:=gh 4 v.minor.toNat ah ah;have hl3:=gh 4 v.patch.toNat ah ah;obtain⟨h1,h2⟩:=h
  grind [za]
 .simp
def Env.sm (e:Env):Prop:=∀i,(e.at i).length<=1048576
end Go.Abs
section
namespace Go.Abs
def gW (v n:Int):Int:=if n<1 then 0 else if v.tmod n<0 then v.tmod n+n else v.tmod n
def yw (v n:Int)(h:1<=n):-n<v.tmod n/\v.tmod n<n:=⟨Int.lt_tmod_of_pos v ah,Int.tmod_lt_of_pos v ah⟩
def gL (v n:Int)(h:1<=n):0<=gW v n/\gW v n<n:=by
 have:=yw v n h
 grind [gW]
def JJ (l:List Int)(i:Int):Int:=if i<0\/(l.length:Int)<=i then i.tmod 3 else l[i.toNat]!
structure Gs where
 l:List Int
 i:Int
 deriving Inhabited
def Gs.D (g:Gs):D:=.agg [.sl 1 (g.l.map (D.int .i64)),.int .i64 g.i]
def Gs.val (g:Gs)(n:Int):Int:=gW (JJ g.l g.i) n
def Gs.au (g:Gs):Gs:=⟨g.l,g.i+1⟩
def qh (s:aU)(b:UInt8):aU×aU×Bool:=match s.findIdx? (fun c=>c==b)with
 |some k=>(s.take k,s.drop (k+1),true)
 |none=>(s,[],false)
def nL (s p:aU):aU×Bool:=if p.isPrefixOf s=true then(s.drop p.length,true)else(s,false)
def L1 (s:aU)(b:UInt8):(qh s b).1.length<=s.length/\((qh s b).2.2=true->(qh s b).1.length+1<=s.length):=by
 unfold qh;split
 .rename_i k h;have:=List.findIdx?_eq_some_iff_findIdx_eq.1 h;simp only[pH];omega
 .simp
structure Rb where
 s:aU
 at':Nat
 n:Nat
def Rb.D (r:Rb):D:=.agg [.str r.s,.int .i64 (r.at':Nat),.int .i64 (r.n:Nat)]
def Rb.ln (r:Rb):aU×aU×Bool:=qh (r.s.drop r.at') 10
def Rb.au (r:Rb):Rb:=⟨r.s,if r.ln.2.2=true then r.at'+(r.ln.1.length+1)else r.at',r.n+1⟩
def rl (b:Int):∀(s cur:aU),∀t∈eU b s cur,t.length<=cur.length+s.length
 |[],cur,t,h=>by simp only[eU,bJ]at h;subst h;simp
 |c::r,cur,t,h=>by
  simp only[eU]at h;split at h
  .rcases cM.1 h with rfl|h
   .simp
   .have:=rl b r [] t h;simp at this⊢;omega
  .have:=rl b r (cur++[c]) t h;simp at this⊢;omega
def Gy (s:aU)(b:Int){t:aU}(h:t∈bE s b):t.length<=s.length:=by
 have:=rl b s [] t h;simpa using this
end Go.Abs
namespace Go.Abs
end Go.Abs
namespace Go.Abs
end Go.Abs
namespace Go.Abs
end Go.Abs
namespace Go.Abs
def Fg (s p:aU):(nL s p).1.length<=s.length:=by
 unfold nL;split<;>simp
end Go.Abs
namespace Go.Abs
variable {e:Env} {f:Nat} {r:Rb} {ls:List cU}
end Go.Abs
namespace Go.Abs
end Go.Abs
end
namespace Go.Abs
section
section
variable {Y:Ctx} {draw:Bool} {r:List GI} {env rs:List bI} {nx:Nat} {m:List (Nat×bL)} {K:List bI->St->Prop} {g:Option (Nat×Bool)} {f:Bool}
def xW {n l k j:Nat}{w:Bool}{x:Src}{args:List Src}{sh:List (List Sh)}{d v e:D}{amf:List D}{m2:List (Nat×bL)}(h:aI Y false r env (⟨true,v⟩::rs) nx m2 K)(hg:GF rs (some (j,w)) true:=by exact⟨_,_,rfl,rfl⟩)(hx:cP env rs x=⟨true,.ptr l k 0 0⟩:=by exact rfl)(hl:look m l=some (.buf k [d]):=by exact rfl)(hd:d.aZ=true:=by exact rfl)(hc:Y.fp n d amf/\Y.fv n d amf=v/\Y.fs n d amf=e)(ha:kN [] sh (gV (cP env rs) args)=amf:=by exact rfl)(ho:sH (cP env rs) args:=by repeat' first|exact trivial|exact rfl|refine And.intro ?_ ?_|decide)(hn:aR (gV (cP env rs) args)=true:=by exact rfl)(hm:cR m l (.buf k [e])=m2:=by simp only[cR,cA,Nat.reduceEqDiff,aY,aS,Nat.reduceAdd,reduceCtorEq];exact rfl):aI Y false (⟨.callF n x args sh,some (j,w)⟩::r) env rs nx m K:=
 NI rfl rfl hg (fun _=>⟨v,by simp only[aG.dE,hx,eM,bh,hl,gB,(dz _ _ _).1,ha];exact⟨trivial,ho,hn,trivial,trivial,⟨trivial,bg⟩,bg,hd,hc.1⟩,by simp only[aG.val,hx,bh,hl,gB,(dz _ _ _).1,ha,hc.2.1],m2,by simp only[aG.cr,hx,bh,hl,gB,(dz _ _ _).1,ha,hc.2.2];exact hm,h⟩) (fun h=>by cases h)
def FR {i:aG}{j:Nat}{w:Bool}(h:aI Y false r env (⟨false,.any⟩::rs) nx m K)(hM:i.cN=false:=by exact rfl)(hC:i.calm=false:=by exact rfl)(hg:GF rs (some (j,w)) false:=by exact⟨_,_,rfl,rfl⟩):aI Y false (⟨i,some (j,w)⟩::r) env rs nx m K:=
 NI hM hC hg (fun h=>by cases h) (fun _=>h)
def NP {i:aG}{j:Nat}{w:Bool}(d:D)(h:aI Y draw r env (⟨false,d⟩::rs) nx m K)(hC:i.pure=true:=by exact rfl)(hg:GF rs (some (j,w)) false:=by exact⟨_,_,rfl,rfl⟩):aI Y draw (⟨i,some (j,w)⟩::r) env rs nx m K:=
 cg hC hg d (fun h=>by cases h) (fun h=>by cases h) (fun _=>h)
def Va {k n:Nat}{z:D}{ps:List (Nat×Src)}(es:List D)(h:aI Y draw r env (⟨f,.sl k es⟩::rs) nx m K)(hg:GF rs g f:=by exact dt)(he:kr (cP env rs) (List.replicate n z) ps=es:=by exact rfl)(ho:f=true->mH (cP env rs) k n ps:=by exact tM)(hz:z.cells.length=k:=by exact rfl)(hn:f=true->aR es=true:=by exact fun _=>rfl):aI Y draw (⟨.bslI k z n ps,g⟩::r) env rs nx m K:=
 cg rfl hg _ (fun hf=>by simp only[aG.dE,he];exact⟨hz,ho hf,hn hf⟩) (fun hf=>by simp only[aG.val,he]) (fun _=>h)
def dX {n:Nat}{args:List Src}{amf:List D}{v:D}{nx':Nat}{m':List (Nat×bL)}(h:aI Y draw r env (⟨true,v⟩::rs) nx' m' K)
  (hc:∀K':D->St->Prop,K' v ⟨nx'+rs.length,m'⟩->Y.tr n amf ⟨nx+rs.length,m⟩ K') (hn:nx<=nx') (ha:gV (cP env rs) args=amf:=by exact rfl)
  (ho:sH (cP env rs) args:=by repeat' first|exact trivial|exact rfl|refine And.intro ?_ ?_):aI Y draw (⟨.callM n args,none⟩::r) env rs nx m K:=by
 unfold aI;show True/\(true=true->sH (Src.ev env rs.reverse) args/\Y.tr n (gV (Src.ev env rs.reverse) args) {nx:=nx+rs.reverse.length,m:=m} _)/\(true=false->_)
 grind [mj,aI]
def Vr {α:Type}{q:α->D}{s:List α}{k:Nat}{x y z:Src}{fx fy fz:Bool}{kh km:IntKind}{h' m':Int}(j:Nat)(h:aI Y draw r env (⟨f,.sl k ((s.take j).map q)⟩::rs) nx m K)(hg:GF rs g f:=by exact dt)(hx:cP env rs x=⟨fx,.sl k (s.map q)⟩:=by exact rfl)(hy:cP env rs y=⟨fy,.int kh h'⟩:=by exact rfl)(hz:cP env rs z=⟨fz,.int km m'⟩:=by exact rfl)
  (kx:f=true->fx=true:=by exact cD) (ky:f=true->fy=true:=by exact cD) (kz:f=true->fz=true:=by exact cD)
  (hj:f=true->h'=(j:Int)) (hb:f=true->(j:Int)<=m'/\m'<=(s.length:Int)):aI Y draw (⟨.slX k x y z,g⟩::r) env rs nx m K:=
 cg rfl hg _ (fun hf=>by have h1:=hj hf;have h2:=hb hf;simp only[aG.dE,hx,hy,hz,bc];exact⟨kx hf,ky hf,kz hf,ah,ah,trivial,h2.2⟩) (fun hf=>by simp only[aG.val,hx,hy];rw[hj hf,Int.toNat_natCast,List.map_take]) (fun _=>h)
def q9 {x:Src}{fx:Bool}{α:Type} [Inhabited α]{n k i o:Nat}{ag:Bool}{q:α->D}{xs:List α}(v:D)(h:aI Y draw r env (⟨f,v⟩::rs) nx m K)(hg:GF rs g f:=by exact dt)(hx:cP env rs x=⟨fx,.ref k (xs.map q) i o⟩:=by exact rfl)(kx:f=true->fx=true:=by exact cD)(hi:f=true->i<xs.length:=by exact sB)(hv:f=true->me (q xs[i]!) k n o ag=v:=by exact fun _=>rfl)(ho:o+n<=k:=by omega):aI Y draw (⟨.ldU n ag x,g⟩::r) env rs nx m K:=
 fO rfl hg _ (fun hf=>by simp only[aG.dE,hx,uN,bc];exact⟨kx hf,hi hf,ho⟩) (fun hf=>by simp only[aG.val,hx,uc];rw[getD_map (hi hf)];exact hv hf) m rfl (fun ha=>h)
def Vi {x:Src}{fx:Bool}{n k i o:Nat}{ag:Bool}{es:List D}(v:D)(h:aI Y draw r env (⟨f,v⟩::rs) nx m K)(hg:GF rs g f:=by exact dt)(hx:cP env rs x=⟨fx,.ref k es i o⟩:=by exact rfl)(kx:f=true->fx=true:=by exact cD)(hi:f=true->i<es.length:=by intro _;simp only[aT,aX];omega)(hv:f=true->me (es.getD i .any) k n o ag=v:=by exact fun _=>rfl)(ho:o+n<=k:=by omega):aI Y draw (⟨.ldU n ag x,g⟩::r) env rs nx m K:=
 fO rfl hg _ (fun hf=>by simp only[aG.dE,hx,uN];exact⟨kx hf,hi hf,ho⟩) (fun hf=>by simp only[aG.val,hx,uc];exact hv hf) m rfl (fun ha=>h)
def NK {x:Src}{fx:Bool}{n l k o:Nat}{ag:Bool}{d:D}(v:D)(h:aI Y draw r env (⟨f,v⟩::rs) nx m K)(hg:GF rs g f:=by exact dt)(hx:cP env rs x=⟨fx,.ptr l k 0 o⟩:=by exact rfl)(kx:f=true->fx=true:=by exact cD)(hl:f=true->look m l=some (.buf k [d]):=by exact fun _=>rfl)(hv:f=true->me d k n o ag=v:=by exact fun _=>rfl)(ho:o+n<=k:=by omega)(hd:f=true->d.aZ=false:=by exact fun _=>rfl):aI Y draw (⟨.ldU n ag x,g⟩::r) env rs nx m K:=
 fO rfl hg _ (fun hf=>by simp only[aG.dE,hx,uN,eM,hl hf];exact⟨kx hf,⟨⟨trivial,bg⟩,ho⟩,by simp only[bh,hl hf,aR,hd hf];rfl⟩) (fun hf=>by simp only[aG.val,hx,uc,bh,hl hf,gB];exact hv hf) m rfl (fun ha=>h)
end
end
end Go.Abs
section
namespace Go.Abs
def Gs.dC (g:Gs):g.au.i=g.i+1:=rfl
def Gs.eh (g:Gs)(n:Int)(h:1<=n):0<=g.val n/\g.val n<n:=gL _ _ h
def fJ:aU:=[100,101,102,97,117,108,116]
def fW:aU:=[102]
def Hv:aU:=[109,97,105,110]
def HR:aU:=[115,105,100,101]
def bB:List aU:=[[97,110,116],[98,101,101],[99,111,119],[100,111,103]]
def cu:List aQ:=[⟨1,0,0,[],[]⟩,⟨1,2,0,[],[]⟩,⟨2,0,0,[97,46,49],[]⟩,⟨2,0,0,[],[]⟩]
def df:List aU:=[Hv,HR,[]]
def zo:List aU:=[[],[108,105,110,117,120],[112,108,97,110,57]]
def sW (n:Int):Env:=⟨zo[(gW n 3).toNat]!,[],[]⟩
def y9 (g:Gs)(sh:aU)(su:Int):Int×Gs:=if sh=[]then((if 0<g.val 9 then 0 else su),g.au)else(su,g)
def eL (g:Gs):List aU×Gs:=
 if g.val 4=0 then([fJ],g.au)else if g.val 4=1 then([fJ,fW],g.au)else if g.val 4=2 then([fW,fJ].drop (g.au.val 2).toNat,g.au.au)else([],g.au)
def C8 (i:Nat)(g:Gs):cU×Gs:=
 let a:=y9 g.au.au.au df[(g.au.val 3).toNat]! (g.au.au.val 1073741824)
 let b:=eL a.2
 (⟨bB[i]!,cu[(g.val 4).toNat]!,df[(g.au.val 3).toNat]!,a.1,b.1⟩,b.2)
def oA (i:Nat)(g:Gs)(ls:List cU):Gs×List cU:=if g.val 3=0 then(g.au,ls)else((C8 i g.au).2,ls++[(C8 i g.au).1])
def pf:Nat->Nat->Gs->List cU->List cU
 |0,_,_,ls=>ls
 |n+1,i,g,ls=>pf n (i+1) (oA i g ls).1 (oA i g ls).2
def lM (ks:List Int):gT:=⟨sW ((⟨ks,0⟩:Gs).val 3),pf 4 0 (⟨ks,0⟩:Gs).au []⟩
def nlS:List aU->D
 |[]=>.bM
 |a::r=>.sl 1 ((a::r).map D.str)
def Kb:∀l,(nlS l).aZ=true
 |[]=>rfl
 |a::r=>rfl
def cU.N (x:cU):Go.Abs.D:=.agg [.str x.name,.int .i64 x.v.major,.int .i64 x.v.minor,.int .i64 x.v.patch,.str x.v.pre,.str x.v.build,.str x.shelf,.int .u64 x.sum,nlS x.feats]
def cU.fG (x:cU):x.N.aZ=true:=by
 have:=Kb x.feats;simp only[cU.N,D.aZ,aR,this,fh]
def eY {i:Nat}{g:Gs}{ls:List cU}{n:Nat}{g':Gs}{ls':List cU}(h:oA i g ls=(g',ls')):pf (n+1) i g ls=pf n (i+1) g' ls':=by
 simp only[pf,h]
def step_mk {i:Nat}{g:Gs}{ls:List cU}{su:Int}{g5 g6:Gs}{fs:List aU}(h0:¬g.val 3=0)(ha:y9 g.au.au.au.au df[(g.au.au.val 3).toNat]! (g.au.au.au.val 1073741824)=(su,g5))(hb:eL g5=(fs,g6)):
  oA i g ls=(g6,ls++[⟨bB[i]!,cu[(g.au.val 4).toNat]!,df[(g.au.au.val 3).toNat]!,su,fs⟩]):=by
 simp only[oA,aj h0,C8,ha,hb]
end Go.Abs
namespace Go.Abs
def cU.F (name:aU)(v:aQ)(shelf:aU)(sum:Int)(fs:Go.Abs.D):Go.Abs.D:=.agg [.str name,.int .i64 v.major,.int .i64 v.minor,.int .i64 v.patch,.str v.pre,.str v.build,.str shelf,.int .u64 sum,fs]
def hN (l k:Nat)(es:List Go.Abs.D)(a:aU)(v:aQ)(s:aU)(n:Int)(fs:Go.Abs.D):eS l k es (cU.F a v s n fs)=cU.F a v s n (eS l k es fs):=rfl
def eo (l k:Nat)(es:List Go.Abs.D)(g:Gs):eS l k es (Gs.D g)=Gs.D g:=rfl
mutual
theorem kL (l k:Nat)(es:List D):∀d:D,d.aZ=true->eS l k es d=d
 | .agg a,h=>by simp only[eS,jj l k es a (by simpa[D.aZ]using h)]
 | .tup a,h=>by simp only[eS,jj l k es a (by simpa[D.aZ]using h)]
 | .fn n a,h=>by simp only[eS,jj l k es a (by simpa[D.aZ]using h)]
 | .own ..,h=>by simp[D.aZ]at h
 | .ptr ..,h=>by simp[D.aZ]at h
 | .it ..,h=>by simp[D.aZ]at h
 | .any,_| .bool _,_| .int ..,_| .str _,_| .bM,_| .sl ..,_| .ref ..,_| .nilp,_| .nilf,_=>rfl
theorem jj (l k:Nat)(es:List D):∀ds:List D,aR ds=true->fL l k es ds=ds
 |[],_=>rfl
 |d::r,h=>by
  simp only[aR,br]at h;simp only[fL,kL l k es d h.1,jj l k es r h.2]
end
def hR (l k:Nat)(es:List D)(ls:List cU):fL l k es (ls.map cU.N)=ls.map cU.N:=jj l k es _ (bH cU.fG _)
end Go.Abs
namespace Go.Abs
def Uw {m:List (Nat×bL)}{l:Nat}(E:Env)(ls:List cU)(hl:look m l=some (.buf 9 (ls.map cU.N))):xV m [.a,.a,.a,.sl 9 [.a,.a,.a,.a,.a,.a,.a,.a,.sl 1 [.a]]] (.agg [.str E.e0,.str E.e1,.str E.e2,.own l 9 0 ls.length])=gT.D ⟨E,ls⟩:=by
 show D.agg [.str E.e0,.str E.e1,.str E.e2,.sl 9 _]=_;simp only[bh,hl,bP,aE,List.map_map];show _=D.agg [.str E.e0,.str E.e1,.str E.e2,.sl 9 (ls.map cU.D)];refine aC (fun q=>D.agg [.str E.e0,.str E.e1,.str E.e2,.sl 9 q]) (?_:_=ls.map cU.D);refine List.map_congr_left fun x _=>?_
 obtain⟨a,v,s,n,fs⟩:=x;cases fs<;>rfl
def Uv {m:List (Nat×bL)}{l:Nat}(E:Env)(ls:List cU)(hl:look m l=some (.buf 9 (ls.map cU.N))):OO m [.a,.a,.a,.sl 9 [.a,.a,.a,.a,.a,.a,.a,.a,.sl 1 [.a]]] (.agg [.str E.e0,.str E.e1,.str E.e2,.own l 9 0 ls.length]):=by
 simp only[OO,GP,OM,D.aZ,bh,hl,bP,aE,b9];refine⟨⟨by simp[eM,hl], ?_⟩,rfl⟩;intro e he;obtain⟨⟨a,v,s,n,fs⟩,_,rfl⟩:=fF.1 he;cases fs<;>exact⟨rfl,rfl,rfl,rfl,rfl,rfl,rfl,rfl,rfl,rfl⟩
end Go.Abs
namespace Go.Abs
end Go.Abs
namespace Go.Abs
end Go.Abs
namespace Go.Abs
end Go.Abs
namespace Go.Abs
end Go.Abs
end
section
namespace Go.Abs
end Go.Abs
namespace Go.Abs
def Kp.eq (a b:Kp):iw (Kp.D a).cells (Kp.D b).cells=decide (a=b):=by
 obtain⟨n1,⟨a1,a2,a3,a4,a5⟩⟩:=a;obtain⟨n2,⟨b1,b2,b3,b4,b5⟩⟩:=b
 grind [Kp.D,D.cells,iw,vu,vt]
def Fo {l:List aU}{B:Nat}(h:∀t∈l,t.length<=B)(i:Nat):(l[i]!).length<=B:=by
 by_cases hi:i<l.length
 .grind
 .simp only[List.getElem!_eq_getElem?_getD,List.getElem?_eq_none (Nat.le_of_not_lt hi),Option.getD_none];exact Nat.zero_le _
def VK (i:Nat):(cu[i]!).pre.length<=3/\(cu[i]!).build.length<=2:=by
 by_cases hi:i<4
 .grind [cu]
 .have:cu[i]! =default:=by
   grind [cu]
  rw[this];decide
structure cU.ok (n:Nat)(x:cU):Prop where
 pre:x.v.pre.length<=3
 build:x.v.build.length<=2
 name:x.name.length<=16
 shelf:x.shelf.length<=16
 nf:x.feats.length<=n
 ft:∀t∈x.feats,t.length<=16
 sum:0<=x.sum/\x.sum<18446744073709551616
structure gT.ok (n:Nat)(l:gT):Prop where
 len:l.lines.length<=4
 lines:∀x∈l.lines,x.ok n
 env:∀i,(l.env.at i).length<=16
theorem gT.ok.sm {n:Nat}{l:gT}(h:l.ok n)(hn:n<=1000):l.sm:=by
 refine⟨by have:=h.len;omega,fun x hx=>?_,fun i=>by have:=h.env i;omega⟩;have k:=h.lines x hx;have k1:=k.pre;have k2:=k.build;have k3:=k.name;have k4:=k.shelf;have k5:=k.nf;exact⟨⟨ah,ah⟩,ah,ah,ah,fun t ht=>by have:=k.ft t ht;omega⟩
def PZ (n:Int)(i:Nat):((sW n).at i).length<=16:=by
 have h:∀t∈zo,t.length<=16:=bj
 match i with
 |0=>exact Fo h _
 |1=>show([]:aU).length<=_;decide
 |_+2=>show([]:aU).length<=_;decide
def Mg (g:Gs):(eL g).1.length<=2/\∀t∈(eL g).1,t.length<=16:=by
 have h1:([fJ].length<=2/\∀t∈[fJ],t.length<=16):=bj;have h2:([fJ,fW].length<=2/\∀t∈[fJ,fW],t.length<=16):=bj
 grind [fJ,eL]
theorem MQ (i:Nat)(g:Gs):(C8 i g).1.ok 2:=by
 have hn:∀t∈bB,t.length<=16:=bj
 have hs:∀t∈df,t.length<=16:=bj
 have hv:=VK (g.val 4).toNat;simp only[C8];have pe:=Mg (y9 g.au.au.au df[(g.au.val 3).toNat]! (g.au.au.val 1073741824)).2;generalize eL _=b at pe;refine⟨hv.1,hv.2,Fo hn _,Fo hs _,pe.1,pe.2, ?_⟩;have hr:=g.au.au.eh 1073741824 ah
 grind [y9]
def Db:∀(n i:Nat) (g:Gs) (ls:List cU),(∀x∈ls,x.ok 2)->(∀x∈pf n i g ls,x.ok 2)/\(pf n i g ls).length<=ls.length+n
 |0,_,_,ls,h=>⟨h,by simp[pf]⟩
 |n+1,i,g,ls,h=>by
  simp only[pf];have hs:(∀x∈(oA i g ls).2,x.ok 2)/\(oA i g ls).2.length<=ls.length+1:=by
   grind [oA,MQ]
  obtain⟨a,b⟩:=Db n (i+1) (oA i g ls).1 (oA i g ls).2 hs.1;exact⟨a,ah⟩
def MS (ks:List Int):(lM ks).ok 2:=by
 obtain⟨a,b⟩:=Db 4 0 (⟨ks,0⟩:Gs).au [] bg;exact⟨by simpa[lM]using b,a,PZ _⟩
def cU.ok.mono {n m:Nat}{x:cU}(h:x.ok n)(hm:n<=m):x.ok m:=⟨h.pre,h.build,h.name,h.shelf,eP h.nf hm,h.ft,h.sum⟩
end Go.Abs
end
namespace Go.Abs
section
def lk {α:Type}:List (Nat×α)->Nat->α->α
 |[],_,d=>d
 |(a,b)::r,n,d=>bif Nat.beq a n then b else lk r n d
structure Row where
 key:Nat
 pre:List D->Prop
 val:List D->D
structure Zg where
 pre:D->List D->Prop
 val:D->List D->D
 new:D->List D->D
def Row.no:Row:=⟨0,fun _=>False,fun _=>.any⟩
def Zg.no:Zg:=⟨fun _ _=>False,fun _ _=>.any,fun _ _=>.any⟩
section
variable [di] {P:Program} {ν:List (Nat×Nat)} {cr:List Nat} {Y:Ctx}
end
end
end Go.Abs
