/- A part of the proofs of the statements: AbsV, LY, AbsW, AbsX, LData, LBase, LSpec1, LSpec2, LSpec3, AbsY, LSpec4, LSpec5, LAsm. -/
import Derived.IntWalk
import Derived.KernelRfl
import Derived.Lib.TrimUEq
import Derived.Test.YtpdlhpamcaocgaaGreatDoorP03
set_option linter.all false
set_option maxRecDepth 4000
section
namespace Go.Abs
variable [bU]
section
variable {P:Program} {ν:List (Nat×Nat)} {bA:List Nat} {Γ:Ctx}
def Ok.at (h:Ok P ν bA Γ)(n:Nat):Ok P ν bA (Γ.at n):=⟨h.small,h.bld,h.pure,h.effF,h.bA⟩
def eY {fn:Func}{af:aB}(hc:compile P ν bA fn=some af):
  ∃body,fn.body=some body∧CC.code {P,ν,bA,slots:=slotsOf fn,ntmps:=fn.ntmps,vm:=Ed P fn} body=some af.body∧qb P (slotsOf fn) fn.results.toList=some af.res∧
   fn.params.size+fn.nfree≤fn.ntmps∧af.np=fn.params.size+fn.nfree∧af.ns=(slotsOf fn).length:=by
 unfold compile at hc;split at hc
 ·rename_i body hb;split at hc
  ·rename_i a res h1 h2;split at hc
   ·rename_i h3;simp only[Option.some.injEq]at hc;subst hc;exact⟨body,hb,h1,h2,h3,rfl,rfl⟩
   ·cases hc
  ·cases hc
 ·cases hc
def rp {fn:Func}{af:aB}{x:X}{args:Array Value}{ds:List D}{st:St}(hnp:fn.params.size+fn.nfree≤fn.ntmps)(h1:af.np=fn.params.size+fn.nfree)(h2:af.ns=(slotsOf fn).length)(hl:args.size=ds.length)(hd:ds.length=af.np)
  (hargs:∀i,i<ds.length→RD ν x (args.getD i undef) (ds.getD i .any)) (hs:dz ν x (look st.m)) (hf:du st x):
  Inv {P,ν,bA,slots:=slotsOf fn,ntmps:=fn.ntmps,vm:=Ed P fn} {tmps:=args++Array.replicate (fn.ntmps-args.size) undef,defers:=[]} x (eL af ds) st:=by
 obtain⟨s1,s2,s3⟩:=ko fn;refine⟨?_,fun n t hn ho=>?_,by simp;omega,rfl,hs,hf⟩
 ·simp only[eL,List.length_append,List.length_map,List.length_replicate];omega
 ·simp only at hn;simp only[eL]at ho⊢;rw[bI]at ho⊢;simp only[List.length_map]at ho⊢;by_cases h:n<ds.length
  ·rw[if_pos h];have:=s3 n (by omega);rw[this]at hn;obtain rfl:=Option.some.inj hn;have e:(ds.map fun d=>(⟨true,d⟩:aW)).getD n .un=⟨true,ds.getD n .any⟩:=by simp[List.getD,h]
   rw[e];have e2:(args++Array.replicate (fn.ntmps-args.size) undef).getD n undef=args.getD n undef:=by rw[jA,if_pos (by omega)]
   simp only;rw[e2];exact hargs n h
  ·rw[if_neg h];have:(List.replicate (af.ns-af.np) aW.un).getD (n-ds.length) .un=.un:=by
    simp only[List.getD,List.getElem?_replicate];split<;>rfl
   rw[this];exact .any _
def Ex.xP {e:Ex}(h:e.home):Ex.of e=.normal∨Ex.of e=.ret:=by
 cases e with
 |normal=>exact .inl rfl
 |exit id=>exact h.elim
 |ret=>exact .inr rfl
def HP {fid:Nat}{fn:Func}{af:aB}{d:D}(hΓ:Ok P ν bA Γ)(hmix:P.follows .mixedOrders=true)(hf:P.funcs[fid]? =some fn)(hc:compile P ν bA fn=some af)
  {x:X} {args:Array Value} {ds:List D} (hl:args.size=ds.length) (hargs:∀i,i<ds.length→RD ν x (args.getD i undef) (ds.getD i .any)) (hnl:aH ds=true) (himm:∀b,x.I b→b<x.w.heap.size) (hgd:bU.gd x)
  (hnp:ds.length=af.np) (hw:bB (Γ.at 0) af.body (fun e env st=>e.home∧mn st.m env af.res∧Cl af env st∧IW af env st=d) (eL af ds) ⟨0,[]⟩):
  Calls P fid args x.w fun
   | .returned v,w'=>∃x',x'.w=w'∧jN x x'∧RD ν x' v d
   |_,_=>False:=by
 obtain⟨body,c1,c2,c3,c4,c5,c6⟩:=eY hc
 let x0:X:=⟨x.w,x.I,fun _=>none⟩
 have hs0:dz ν x0 (look []):=⟨fun l blk b base tot h=>by simp[look]at h,fun l l' b base tot base' tot' h=>by simp[look]at h,himm,fun l b base tot h=>(by cases h),bU.le x _ (fun _ h=>h) (fun _ _=>rfl) hgd⟩;have hf0:du ⟨0,[]⟩ x0:=⟨fun l _=>rfl,fun l h=>by simp[look]at h⟩;have hi:=rp (P:=P) (ν:=ν) (bA:=bA) (x:=x0) (st:=⟨0,[]⟩) c4 c5 c6 hl hnp (fun i hi=>(hargs i hi).aK (bS hnl i) (fun _ h=>h) (fun _ _=>rfl)) hs0 hf0;have hcs:=oF (C:={P,ν,bA,slots:=slotsOf fn,ntmps:=fn.ntmps,vm:=Ed P fn}) (hΓ.at 0) (ko fn).1 hmix x0 (fun _ _=>rfl) body af.body c2 _ _ _ _ x0 hw hi (.refl _);refine calls_of_wp hf c1 (wp_mono hcs fun e a w' hp=>?_);obtain⟨e',x',env',st',he,hxw,hst,hi',hh,hro,hrpo,hrp⟩:=hp;subst hxw;obtain⟨v,r1,r2,r3⟩:=nq hi' c3 hro;have hI:∀b,(x'.jR (look st'.m)).I b→b<x'.w.heap.size:=by
  intro b hb;rcases hb with h|⟨l,⟨b',base,tot⟩,h1,h2,h3⟩
  ·exact hi'.j9.imm b h
  ·subst h2;exact hi'.j9.cM l _ _ _ h1
 have hnew:∀b,(x'.jR (look st'.m)).I b→x.I b∨x.w.heap.size≤b:=by
  intro b hb;rcases hb with h|⟨l,p,h1,h2,h3⟩
  ·rcases hst.newI b h with h|h|⟨l,p,h,_⟩
   ·exact .inl h
   ·exact .inr h
   ·cases h
  ·subst h2;rcases hst.newβ l p h1 with h|h|⟨l',p',h,_⟩
   ·cases h
   ·exact .inr h
   ·cases h
 have hps:jN x ⟨x'.w,(x'.jR (look st'.m)).I,x.β⟩:=
  ⟨⟨hst.os,hst.tape,hst.output,hst.size,fun b hb=>hst.old b hb fun l p h=>by cases h⟩,fun b hb=>.inl (hst.I b hb),hnew,hI,rfl⟩
 have hrd:RD ν ⟨x'.w,(x'.jR (look st'.m)).I,x.β⟩ v d:=by
  rw[←hrp];have key:∀(v:Value) (d:D),RD ν (x'.jR (look st'.m)) v d→d.aK=true→RD ν ⟨x'.w,(x'.jR (look st'.m)).I,x.β⟩ v d:=fun v d h hn=>h.aK hn (fun _ h=>h) (fun _ _=>rfl)
  unfold iF at r2;unfold Cl at hrpo;unfold IW;rcases hres:af.res with _|⟨r,_|⟨r2',rs⟩⟩
  ·simp only[hres]at r2 hrpo⊢;generalize hvs:mq st'.m env' []=vs at r2 hrpo⊢;cases r2 with
   |tup cs _ hl' hh'=>
    obtain⟨q1,q2,q3⟩:=fR hi'.j9 (fun _ _=>rfl) af.rsh vs (fun j=>cs.getD j undef) hh' hrpo;exact .tup cs _ (by rw[q1,hl']) fun i hi=>key _ _ (q3 i (by omega)) (bS q2 i)
  ·simp only[hres]at r2 hrpo⊢;obtain⟨q1,q2⟩:=oX hi'.j9 (fun _ _=>rfl) _ _ _ r2 hrpo;exact key _ _ q1 q2
  ·simp only[hres]at r2 hrpo⊢;generalize hvs:mq st'.m env' (r::r2'::rs)=vs at r2 hrpo⊢;cases r2 with
   |tup cs _ hl' hh'=>
    obtain⟨q1,q2,q3⟩:=fR hi'.j9 (fun _ _=>rfl) af.rsh vs (fun j=>cs.getD j undef) hh' hrpo;exact .tup cs _ (by rw[q1,hl']) fun i hi=>key _ _ (q3 i (by omega)) (bS q2 i)
 rcases Ex.xP hh with h|h<;>rw[h]at he<;>subst he<;>exact⟨hi'.defers,v,r1,⟨x'.w,(x'.jR (look st'.m)).I,x.β⟩,rfl,hps,hrd⟩
def HN {fid:Nat}{fn:Func}{af:aB}{vd sd:D}(hΓ:Ok P ν bA Γ)(hmix:P.follows .mixedOrders=true)(hf:P.funcs[fid]? =some fn)(hc:compile P ν bA fn=some af)
  {x:X} {f:Nat→Option aV} {args:Array Value} {l k:Nat} {d:D} {ds:List D} (hl:args.size=ds.length+1) (h0:RD ν x (args.getD 0 undef) (.ptr l k 0 0)) (hargs:∀i,i<ds.length→RD ν x (args.getD (i+1) undef) (ds.getD i .any))
  (hs:dz ν x f) (hfl:f l=some (.buf k [d])) (hd:d.aK=true) (hnl:aH ds=true) (hnp:ds.length+1=af.np)
  (hw:bB (Γ.at 1) af.body (fun e env st=>e.home∧mn st.m env af.res∧(iF af env st).aK=true∧iF af env st=vd∧look st.m 0=some (.buf k [sd])∧sd.aK=true) (eL af (.ptr 0 k 0 0::ds)) ⟨1,[(0,.buf k [d])]⟩):
  Calls P fid args x.w fun
   | .returned v,w'=>∃x',x'.w=w'∧Step x x'∧RD ν x' v vd∧dz ν x' (fun l'=>if l'=l then some (.buf k [sd])else f l')∧x'.β=x.β
   |_,_=>False:=by
 obtain⟨body,c1,c2,c3,c4,c5,c6⟩:=eY hc;obtain⟨b,base,tot,hβ,ha0⟩:∃b base tot,x.β l=some (b,base,tot)∧args.getD 0 undef=.pointer (some ⟨b,base,none⟩):=by
  generalize args.getD 0 undef=v0 at h0;cases h0 with
  |ptr _ _ _ _ b base tot at_ hβ hat=>exact⟨b,base,tot,hβ,by simp[hat]⟩
 let x1:X:=⟨x.w,x.I,fun l'=>if l'=0 then x.β l else none⟩
 have hx1:∀l' p,x1.β l'=some p→l'=0∧p=(b,base,tot):=by
  intro l' p h;simp only[x1]at h;split at h
  ·rename_i e;rw[hβ]at h;exact⟨e,(Option.some.inj h).symm⟩
  ·cases h
 have hx1':x1.β 0=some (b,base,tot):=by simp[x1,hβ]
 have key1:∀(v:Value) (d:D),RD ν x v d→d.aK=true→RD ν x1 v d:=fun v d h hn=>h.aK hn (fun _ h=>h) (fun _ _=>rfl)
 have hbR:=hs.own l _ b base tot hfl hβ;have hs1:dz ν x1 (look [(0,.buf k [d])]):=by
  refine⟨fun l' blk b' base' tot' e1 e2=>?_,fun l1 l2 b' base' tot' base'' tot'' e1 e2 e3 e4=>(hx1 _ _ e3).1.trans (hx1 _ _ e4).1.symm,hs.imm,fun l' b' base' tot' e=>?_,bU.le x _ (fun _ h=>h) (fun _ _=>rfl) hs.gd⟩
  ·obtain⟨rfl,e3⟩:=hx1 _ _ e2;simp only[Prod.mk.injEq]at e3;obtain⟨rfl,rfl,rfl⟩:=e3;simp only[look,if_true,Option.some.injEq]at e1;subst e1;refine⟨hbR.1, ?_⟩;obtain⟨p1,p2,c,T,fr,p3,p4,p5,p6⟩:=hbR.2;refine⟨p1,p2,c,T,fr,p3,p4,p5,fun i hi=>⟨(p6 i hi).1,fun j hj=>⟨((p6 i hi).2 j hj).1,key1 _ _ ((p6 i hi).2 j hj).2 ?_⟩⟩⟩;have:i=0:=by simpa using hi
   subst this;exact iA (by simpa using hd) j
  ·obtain⟨_,e3⟩:=hx1 _ _ e;simp only[Prod.mk.injEq]at e3;rw[e3.1];exact hs.cM l b base tot hβ
 have hf1:du ⟨1,[(0,.buf k [d])]⟩ x1:=⟨fun l' hl'=>by
   cases h:x1.β l' with
   |none=>rfl
   |some p=>have:=(hx1 _ _ h).1;simp only at hl';omega,fun l' hl'=>by
   simp only[look]at hl';split at hl'
   ·rename_i e;simp only;omega
   ·exact absurd rfl hl'⟩
 have hi:=rp (P:=P) (ν:=ν) (bA:=bA) (x:=x1) (ds:=.ptr 0 k 0 0::ds) (st:=⟨1,[(0,.buf k [d])]⟩) c4 c5 c6 (args:=args) (by simpa using hl) (by simpa using hnp) (fun i hi=>by
  cases i with
  |zero=>simp only[List.getD_cons_zero];rw[ha0];exact .ptr 0 k 0 0 b base tot base hx1' (by simp)
  |succ i=>simp only[List.getD_cons_succ];exact key1 _ _ (hargs i (by simpa using hi)) (bS hnl i)) hs1 hf1
 have hcs:=oF (C:={P,ν,bA,slots:=slotsOf fn,ntmps:=fn.ntmps,vm:=Ed P fn}) (hΓ.at 1) (ko fn).1 hmix x1 (fun l h=>hf1.β l h) body af.body c2 _ _ _ _ x1 hw hi (.refl _);refine calls_of_wp hf c1 (wp_mono hcs fun e a w' hp=>?_);obtain⟨e',x',env',st',he,hxw,hst,hi',hh,hro,hrn,hrv,hlk,hsn⟩:=hp;subst hxw;obtain⟨v,r1,r2,r3⟩:=nq hi' c3 hro
 let x2:X:=⟨x'.w,x'.I,x.β⟩
 have key2:∀(v:Value) (d:D),RD ν x' v d→d.aK=true→RD ν x2 v d:=fun v d h hn=>h.aK hn (fun _ h=>h) (fun _ _=>rfl)
 have hb':x'.β 0=some (b,base,tot):=hst.β _ _ hx1';have hnewI:∀b',x'.I b'→x.I b'∨x.w.heap.size≤b'∨b'=b:=by
  intro b' h;rcases hst.newI b' h with h|h|⟨l',p,h1,h2⟩
  ·exact .inl h
  ·exact .inr (.inl h)
  ·right;right;rw[←h2,(hx1 _ _ h1).2]
 have hstep:Step x x2:=by
  refine⟨hst.os,hst.tape,hst.output,hst.size,hst.I,hst.lJ,fun _ _ h=>h,fun b' hb' hn=>hst.old b' hb' fun l' p h e=>?_,fun b' h=>?_,fun _ _ h=>.inl h⟩
  ·have:=hn l _ hβ;rw[(hx1 _ _ h).2]at e;exact this e
  ·rcases hnewI b' h with h|h|h
   ·exact .inl h
   ·exact .inr (.inl h)
   ·exact .inr (.inr ⟨l,_,hβ,h.symm⟩)
 have hsim:dz ν x2 (fun l'=>if l'=l then some (.buf k [sd])else f l'):=by
  have hbb:=hi'.j9.own 0 _ b base tot hlk hb';refine⟨fun l' blk b' base' tot' e1 e2=>?_,fun l1 l2 b' base' tot' base'' tot'' e1 e2 e3 e4=>?_,hi'.j9.imm,fun l' b' base' tot' e=>Nat.lt_of_lt_of_le (hs.cM l' b' base' tot' e) hst.size,bU.le x' _ (fun _ h=>h) (fun _ _=>rfl) hi'.j9.gd⟩
  ·by_cases hll:l'=l
   ·subst hll;simp only[if_true,Option.some.injEq]at e1;subst e1;have e2':x.β l'=some (b',base',tot'):=e2;rw[hβ]at e2';simp only[Option.some.injEq,Prod.mk.injEq]at e2';obtain⟨rfl,rfl,rfl⟩:=e2';refine⟨hbb.1, ?_⟩;obtain⟨p1,p2,c,T,fr,p3,p4,p5,p6⟩:=hbb.2;refine⟨p1,p2,c,T,fr,p3,p4,p5,fun i hi=>⟨(p6 i hi).1,fun j hj=>⟨((p6 i hi).2 j hj).1,key2 _ _ ((p6 i hi).2 j hj).2 ?_⟩⟩⟩;have:i=0:=by simpa using hi
    subst this;exact iA (by simpa using hsn) j
   ·simp only[if_neg hll]at e1;have e2':x.β l'=some (b',base',tot'):=e2;obtain⟨q1,q2⟩:=hs.own l' blk b' base' tot' e1 e2';have hne:b'≠b:=fun e=>by subst e;exact hll (hs.inj l' l b' base' tot' base tot (by rw[e1];simp) (by rw[hfl];simp) e2' hβ)
    have hlt:=hs.cM l' b' base' tot' e2';refine⟨fun h=>?_,q2.mono hstep.le (hst.old b' hlt fun l'' p h e=>hne (by rw[←e,(hx1 _ _ h).2]))⟩;rcases hnewI b' h with h|h|h
    ·exact q1 h
    ·omega
    ·exact hne h
  ·have hne:∀l',(if l'=l then some (aV.buf k [sd])else f l')≠none→f l'≠none:=fun l' h=>by
    by_cases e:l'=l
    ·rw[e,hfl];simp
    ·rwa [if_neg e]at h
   exact hs.inj l1 l2 b' base' tot' base'' tot'' (hne _ e1) (hne _ e2) e3 e4
 rw[hrv]at r2;rcases Ex.xP hh with h|h<;>rw[h]at he<;>subst he<;>exact⟨hi'.defers,v,r1,x2,rfl,hstep,key2 _ _ r2 (by rw[←hrv];exact hrn),hsim,rfl⟩
structure Km where
 key:Nat→Nat
 mu:Nat→List D→Nat
 muE:Nat→List D→St→Nat
def Ctx.under (Γ:Ctx)(R:Km)(k u:Nat):Ctx where
 pre n ds:=(R.key n<k∨R.key n=k∧R.mu n ds<u)∧Γ.pre n ds
 val:=Γ.val
 tr n ds st K:=(R.key n<k∨R.key n=k∧R.muE n ds st<u)∧Γ.tr n ds st K
 fp n d ds:=(R.key n<k∨R.key n=k∧R.mu n (d::ds)<u)∧Γ.fp n d ds
 fv:=Γ.fv
 fs:=Γ.fs
 lo:=Γ.lo
def NR (R:Km)(hsm:∀fid n,c9 ν fid=some n→n<1000000)(hB:∀t,bA.contains (1000000000+t)=true→t=bU.tB)
  (hp:∀fid n,c9 ν fid=some n→∀ds,Γ.pre n ds→Ok P ν bA (Γ.under R (R.key n) (R.mu n ds))→∀(x:X) (args:Array Value),args.size=ds.length→(∀i,i<ds.length→RD ν x (args.getD i undef) (ds.getD i .any))→aH ds=true→
    (∀b,x.I b→b<x.w.heap.size)→bU.gd x→fK P x (fun v x'=>jN x x'∧RD ν x' v (Γ.val n ds)) ((callFunc fid args).run P x.w))
  (hf:∀fid n,c9 ν fid=some n→bA.contains (2*n+1)=true→∀(d:D) (ds:List D),Γ.fp n d ds→Ok P ν bA (Γ.under R (R.key n) (R.mu n (d::ds)))→∀(x:X) (f:Nat→Option aV) (args:Array Value) (l k:Nat),args.size=ds.length+1→
    RD ν x (args.getD 0 undef) (.ptr l k 0 0)→(∀i,i<ds.length→RD ν x (args.getD (i+1) undef) (ds.getD i .any))→dz ν x f→f l=some (.buf k [d])→d.aK=true→aH ds=true→
    fK P x (fun v x'=>Step x x'∧RD ν x' v (Γ.fv n d ds)∧dz ν x' (fun l'=>if l'=l then some (.buf k [Γ.fs n d ds])else f l')∧x'.β=x.β) ((callFunc fid args).run P x.w))
  (he:∀fid n,c9 ν fid=some n→∀(ds:List D) (st:St) (K:D→St→Prop),Γ.tr n ds st K→Ok P ν bA (Γ.under R (R.key n) (R.muE n ds st))→∀(x:X) (args:Array Value),args.size=ds.length→(∀i,i<ds.length→RD ν x (args.getD i undef) (ds.getD i .any))→
    dz ν x (look st.m)→du st x→fK P x (fun v x'=>∃d st',K d st'∧Step x x'∧RD ν x' v d∧dz ν x' (look st'.m)∧du st' x') ((callFunc fid args).run P x.w)):Ok P ν bA Γ:=by
 have key:∀k u,Ok P ν bA (Γ.under R k u):=by
  intro k;induction k using Nat.strongRecOn with
  |_ k ihk=>
   intro u;induction u using Nat.strongRecOn with
   |_ u ihu=>
    refine⟨hsm,hB,fun fid n hn x args ds hl hargs hnl himm hgd hpre=>?_,fun fid n hn hef x f args l kk d ds hl h0 hargs hs hfl hd hnl hpre=>?_,fun fid n hn x args ds st K hl hargs hs hf' htr=>?_⟩
    ·obtain⟨hlt,hpre⟩:=hpre;refine hp fid n hn ds hpre ?_ x args hl hargs hnl himm hgd;rcases hlt with h|⟨h1,h2⟩
     ·exact ihk _ h _
     ·rw[h1];exact ihu _ h2
    ·obtain⟨hlt,hpre⟩:=hpre;refine hf fid n hn hef d ds hpre ?_ x f args l kk hl h0 hargs hs hfl hd hnl;rcases hlt with h|⟨h1,h2⟩
     ·exact ihk _ h _
     ·rw[h1];exact ihu _ h2
    ·obtain⟨hlt,htr⟩:=htr;refine he fid n hn ds st K htr ?_ x args hl hargs hs hf';rcases hlt with h|⟨h1,h2⟩
     ·exact ihk _ h _
     ·rw[h1];exact ihu _ h2
 refine⟨hsm,hB,fun fid n hn x args ds hl hargs hnl himm hgd hpre=>?_,fun fid n hn hef x f args l kk d ds hl h0 hargs hs hfl hd hnl hpre=>?_,fun fid n hn x args ds st K hl hargs hs hf' htr=>?_⟩
 ·exact hp fid n hn ds hpre (key _ _) x args hl hargs hnl himm hgd
 ·exact hf fid n hn hef d ds hpre (key _ _) x f args l kk hl h0 hargs hs hfl hd hnl
 ·exact he fid n hn ds st K htr (key _ _) x args hl hargs hs hf'
def eI {fid:Nat}{fn:Func}(hf:P.funcs[fid]? =some fn)(hn:(fn.name== "runtime.NumGoroutine")=false)(hb:fn.body.isSome=true)(args:Array Value)(w:World):(callFunc fid args).run P w=.ok (.enter fid args) w:=by
 have h1:fn.name≠ "runtime.NumGoroutine" :=by simpa using hn
 have h2:fn.body≠none:=by intro h;rw[h]at hb;cases hb
 simp[callFunc,hf,h1,h2]
end
end Go.Abs
end
namespace Go.Abs
def bm {p:Prop}(h:p:=by first|exact fun _=>rfl|exact fun h=>h|(intro h;simp_all)):p:=h
def bZ {p:Prop}(h:p:=by first|exact rfl|exact⟨_,_,rfl,rfl⟩):p:=h
def sI {p:Prop}(h:p:=by first|exact fun _=>rfl|(intro h;omega)|(intro h;simp at h;omega)):p:=h
def Ag {p:Prop}(h:p:=by intro h;repeat' first|exact trivial|exact rfl|exact h|refine And.intro ?_ ?_|decide):p:=h
def ry {p:Prop}(h:p:=by simp only[List.length_cons,List.length_nil,Nat.reduceAdd];exact rfl):p:=h
def qi {p:Prop}(h:p:=by intro h;first|omega|(simp at h;omega)):p:=h
def BB {p:Prop}(h:p:=by intro h;first|(constructor<;>omega)|(simp at h;constructor<;>omega)):p:=h
end Go.Abs
section
namespace Go.Abs
section
variable {Γ:Ctx} {Q Q':Ex→List aW→St→Prop} {env:List aW} {st:St}
def Ctx.br (Γ:Ctx):Prop:=∀f ds st (K K':D→St→Prop),(∀d st,K d st→K' d st)→Γ.tr f ds st K→Γ.tr f ds st K'
def iE {draw:Bool}{K K':List aW→St→Prop}(h:∀vs st,K vs st→K' vs st)(htr:Γ.br):∀(l:List GI)(env vs:List aW)(st:St),fH Γ draw l env vs st K→fH Γ draw l env vs st K'
 |[],env,vs,st,hh=>h _ _ hh
 |⟨i,g⟩::r,env,vs,st,hh=>by
  cases hcm:i.cb with
  |true=>
   cases i<;>simp only[aw.cb]at hcm<;>try(cases hcm;done)
   ·exact⟨hh.1,fun hf=>⟨(hh.2.1 hf).1,htr _ _ _ _ _ (fun d st' ⟨h1,h2⟩=>⟨h1,iE h htr r _ _ _ h2⟩) (hh.2.1 hf).2⟩,fun hf=>iE h htr r _ _ _ (hh.2.2 hf)⟩
   ·rename_i fv args;simp only[fH]at hh⊢;refine⟨hh.1,hh.2.1,hh.2.2.1, ?_⟩;have h3:=hh.2.2.2;cases hd:(Src.ev env vs fv).d<;>simp only[hd]at h3⊢;exact htr _ _ _ _ _ (fun d st' ⟨h1,h2⟩=>⟨h1,iE h htr r _ _ _ h2⟩) h3
  |false=>
   cases hf:i.rN draw g with
   |true=>
    rw[wz hcm hf]at hh⊢;exact⟨hh.1,fun e=>⟨(hh.2.1 e).1,iE h htr r _ _ _ (hh.2.1 e).2⟩,fun e=>iE h htr r _ _ _ (hh.2.2 e)⟩
   |false=>
    rw[jL hcm hf]at hh⊢;exact⟨hh.1,hh.2.1,fun ha=>(hh.2.2 ha).imp fun _ h2=>⟨h2.1,iE h htr r _ _ _ h2.2⟩⟩
def Gh.mono {lo:Nat}{p q:List aW→St→Prop}(h:∀env st,p env st→q env st):Gh lo p env st→Gh lo q env st
 |⟨e,s,h1,h2⟩=>⟨e,s,h1,h _ _ h2⟩
def Gh.intro {lo:Nat}{p:List aW→St→Prop}(h:p env st):Gh lo p env st:=⟨env,st,.refl _ _,h⟩
def dY (htr:Γ.br):∀(a:AC)(Q Q':Ex→List aW→St→Prop)(env:List aW)(st:St),(∀e env st,Q e env st→Q' e env st)→bB Γ a Q env st→bB Γ a Q' env st
 | .reg draw ins cm,Q,Q',env,st,h,hh=>Gh.mono (fun env st h2=>iE (fun vs st=>h _ _ _) htr _ _ _ _ h2) hh
 | .seq a b,Q,Q',env,st,h,hh=>Gh.mono (fun env st h2=>dY htr a _ _ env st (fun e env st h2=>by
   cases e with
   |normal=>exact dY htr b Q Q' env st h h2
   |exit id=>exact h _ _ _ h2
   |ret=>exact h _ _ _ h2) h2) hh
 | .cond c a b,Q,Q',env,st,h,hh=>Gh.mono (fun env st h2=>by
  refine⟨h2.1, ?_⟩;have:=h2.2;cases hd:(c.ev env []).d<;>simp only[hd]at this⊢;exact⟨fun ht=>dY htr a Q Q' env st h (this.1 ht),fun ht=>dY htr b Q Q' env st h (this.2 ht)⟩) hh
 | .block id a,Q,Q',env,st,h,hh=>Gh.mono (fun env st h2=>dY htr a _ _ env st (fun e env st h2=>by
   cases e with
   |normal=>exact h _ _ _ h2
   |exit j=>simp only at h2⊢;split<;>rename_i hj<;>simp only[hj,if_true,if_false]at h2<;>exact h _ _ _ h2
   |ret=>exact h _ _ _ h2) h2) hh
 | .loop a,Q,Q',env,st,h,hh=>Gh.mono (fun env st h2=>by
  obtain⟨I,μ,h1,h2⟩:=h2;refine⟨I,μ,h1,fun env st hi=>dY htr a _ _ env st (fun e env' st' h3=>?_) (h2 env st hi)⟩;cases e with
  |normal=>exact h3
  |exit id=>exact h _ _ _ h3
  |ret=>exact h _ _ _ h3) hh
 | .exit id,Q,Q',env,st,h,hh=>Gh.mono (fun _ _=>h _ _ _) hh
 | .ret,Q,Q',env,st,h,hh=>Gh.mono (fun _ _=>h _ _ _) hh
 | .skip,Q,Q',env,st,h,hh=>Gh.mono (fun _ _=>h _ _ _) hh
def gy {a:AC}{env':List aW}{st':St}(g:aN Γ.lo env st env' st')(h:bB Γ a Q env' st'):bB Γ a Q env st:=by
 cases a<;>(obtain⟨e2,s2,g2,h2⟩:=h;exact⟨e2,s2,.trans _ _ _ _ _ _ g g2,h2⟩)
def BQ (Γ:Ctx)(id:Nat)(r:AC)(Q:Ex→List aW→St→Prop):Ex→List aW→St→Prop:=fun e env st=>match e with
 | .normal=>bB Γ r Q env st
 | .exit j=>if j=id then bB Γ r Q env st else Q (.exit j) env st
 | .ret=>Q .ret env st
def LQ (Γ:Ctx)(id:Nat)(r:AC)(next:List aW→St→Prop)(Q:Ex→List aW→St→Prop):Ex→List aW→St→Prop:=fun e env st=>match e with
 | .normal=>next env st
 | .exit j=>if j=id then bB Γ r Q env st else Q (.exit j) env st
 | .ret=>Q .ret env st
def BQ.normal {id:Nat}{r:AC}(h:bB Γ r Q env st):BQ Γ id r Q .normal env st:=h
def BQ.out {id:Nat}{r:AC}(h:bB Γ r Q env st):BQ Γ id r Q (.exit id) env st:=by simp only[BQ,if_true];exact h
def BQ.other {id j:Nat}{r:AC}(hj:(j==id)=false)(h:Q (.exit j) env st):BQ Γ id r Q (.exit j) env st:=by simp only[BQ,if_neg (by simpa using hj)];exact h
def BQ.ret {id:Nat}{r:AC}(h:Q .ret env st):BQ Γ id r Q .ret env st:=h
def LQ.normal {id:Nat}{r:AC}{next:List aW→St→Prop}(h:next env st):LQ Γ id r next Q .normal env st:=h
def LQ.out {id:Nat}{r:AC}{next:List aW→St→Prop}(h:bB Γ r Q env st):LQ Γ id r next Q (.exit id) env st:=by simp only[LQ,if_true];exact h
def LQ.other {id j:Nat}{r:AC}{next:List aW→St→Prop}(hj:(j==id)=false)(h:Q (.exit j) env st):LQ Γ id r next Q (.exit j) env st:=by simp only[LQ,if_neg (by simpa using hj)];exact h
def LQ.ret {id:Nat}{r:AC}{next:List aW→St→Prop}(h:Q .ret env st):LQ Γ id r next Q .ret env st:=h
def G5 {a b c:AC}(h:bB Γ (.seq a (.seq b c)) Q env st):bB Γ (.seq (.seq a b) c) Q env st:=by
 obtain⟨e1,s1,g1,h1⟩:=h;refine⟨e1,s1,g1,e1,s1,.refl _ _, ?_⟩;have:∀(Q1 Q2:Ex→List aW→St→Prop),Q1=Q2→bB Γ a Q1 e1 s1→bB Γ a Q2 e1 s1:=fun _ _ e h=>e▸h
 refine this _ _ ?_ h1;funext e env st;cases e with
 |normal=>exact propext ⟨fun⟨e2,s2,g2,h2⟩=>gy g2 h2,fun h=>⟨_,_,.refl _ _,h⟩⟩
 |exit id=>rfl
 |ret=>rfl
def BA {b:AC}(h:bB Γ b Q env st):bB Γ (.seq .skip b) Q env st:=.intro (.intro h)
def wp_skip (h:Q .normal env st):bB Γ .skip Q env st:=.intro h
def Ej {b:AC}(h:Q .ret env st):bB Γ (.seq .ret b) Q env st:=.intro (.intro h)
def wp_ret (h:Q .ret env st):bB Γ .ret Q env st:=.intro h
def Bz {id:Nat}{b:AC}(h:Q (.exit id) env st):bB Γ (.seq (.exit id) b) Q env st:=.intro (.intro h)
def wp_exit {id:Nat}(h:Q (.exit id) env st):bB Γ (.exit id) Q env st:=.intro h
def Ae {id:Nat}{a r:AC}(h:bB Γ a (BQ Γ id r Q) env st)(htr:Γ.br):bB Γ (.seq (.block id a) r) Q env st:=by
 refine .intro (.intro (dY htr a _ _ _ _ (fun e env st h=>?_) h));cases e with
 |normal=>exact h
 |exit j=>simp only[BQ]at h⊢;split<;>rename_i hj<;>simp only[hj,if_true,if_false]at h<;>exact h
 |ret=>exact h
def wp_block {id:Nat}{a:AC}(h:bB Γ a (BQ Γ id .skip Q) env st)(htr:Γ.br)(hQ:∀e env env' st st',aN Γ.lo env st env' st'→Q e env' st'→Q e env st):bB Γ (.block id a) Q env st:=by
 refine .intro (dY htr a _ _ _ _ (fun e env st h=>?_) h);have hs:∀env st,bB Γ .skip Q env st→Q .normal env st:=fun env st ⟨e2,s2,g2,h2⟩=>hQ _ _ _ _ _ g2 h2
 cases e with
 |normal=>exact hs _ _ h
 |exit j=>simp only[BQ]at h⊢;split<;>rename_i hj<;>simp only[hj,if_true,if_false]at h<;>first|exact hs _ _ h|exact h
 |ret=>exact h
def CQ (next:List aW→St→Prop)(Q:Ex→List aW→St→Prop):Ex→List aW→St→Prop:=fun e env st=>match e with
 | .normal=>next env st
 | .exit j=>Q (.exit j) env st
 | .ret=>Q .ret env st
def CQ.normal {next:List aW→St→Prop}(h:next env st):CQ next Q .normal env st:=h
def CQ.other {next:List aW→St→Prop}{j:Nat}(h:Q (.exit j) env st):CQ next Q (.exit j) env st:=h
def CQ.ret {next:List aW→St→Prop}(h:Q .ret env st):CQ next Q .ret env st:=h
def Ai (id:Nat)(Q:Ex→List aW→St→Prop):Ex→List aW→St→Prop:=fun e env st=>match e with
 | .normal=>Q .normal env st
 | .exit j=>if j=id then Q .normal env st else Q (.exit j) env st
 | .ret=>Q .ret env st
def Ai.normal {id:Nat}(h:Q .normal env st):Ai id Q .normal env st:=h
def Ai.out {id:Nat}(h:Q .normal env st):Ai id Q (.exit id) env st:=by simp only[Ai,if_true];exact h
def Ai.other {id j:Nat}(hj:(j==id)=false)(h:Q (.exit j) env st):Ai id Q (.exit j) env st:=by simp only[Ai,if_neg (by simpa using hj)];exact h
def Ai.ret {id:Nat}(h:Q .ret env st):Ai id Q .ret env st:=h
def Ei {id:Nat}{a:AC}(h:bB Γ a (Ai id Q) env st)(htr:Γ.br):bB Γ (.block id a) Q env st:=by
 refine .intro (dY htr a _ _ _ _ (fun e env st h=>?_) h);cases e with
 |normal=>exact h
 |exit j=>simp only[Ai]at h⊢;split<;>rename_i hj<;>simp only[hj,if_true,if_false]at h<;>exact h
 |ret=>exact h
def po (htr:Γ.br){a b:AC}{ι:Type}(F:ι→List aW)(G:ι→List (Nat×aV))(c:Nat)(P:ι→Prop)
  (h1:bB Γ a (CQ (fun env' st'=>∃j,P j∧aN Γ.lo env' st' (F j) ⟨c,G j⟩) Q) env st)
  (h2:∀i,P i→bB Γ b Q (F i) ⟨c,G i⟩):bB Γ (.seq a b) Q env st:=by
 refine .intro (dY htr a _ _ _ _ (fun e env st h=>?_) h1);cases e with
 |normal=>obtain⟨j,hj,g⟩:=h;exact gy g (h2 j hj)
 |exit j=>exact h
 |ret=>exact h
def bt (htr:Γ.br){a r:AC}{id:Nat}{ι:Type}(F:ι→List aW)(G:ι→List (Nat×aV))(c:Nat)(P:ι→Prop)(μ:ι→Nat)(i0:ι)
  (hP:P i0) (h0:aN Γ.lo env st (F i0) ⟨c,G i0⟩)
  (hr:∀i,P i→bB Γ a (LQ Γ id r (fun env' st'=>∃j,P j∧μ j<μ i∧aN Γ.lo env' st' (F j) ⟨c,G j⟩) Q) (F i) ⟨c,G i⟩):bB Γ (.seq (.block id (.loop a)) r) Q env st:=by
 let W:List aW→St→Nat→Prop:=fun env st k=>∃i,env=F i∧st=⟨c,G i⟩∧P i∧μ i=k
 have least:∀env st,(∃k,W env st k)→∃k,W env st k∧∀k',W env st k'→k≤k':=by
  intro env st ⟨k,hk⟩;induction k using Nat.strongRecOn with
  |_ k ih=>
   by_cases h:∃k',k'<k∧W env st k'
   ·obtain⟨k',h1,h2⟩:=h;exact ih k' h1 h2
   ·exact⟨k,hk,fun k' hk'=>by
     rcases Nat.lt_or_ge k' k with h1|h1
     ·exact absurd ⟨k',h1,hk'⟩ h
     ·exact h1⟩
 open Classical in
 refine .intro (.intro ⟨_,_,h0,fun env st=>∃k,W env st k,fun env st=>if h:∃k,W env st k then Classical.choose (least env st h)else 0,⟨_,i0,rfl,rfl,hP,rfl⟩,fun env st hk=>?_⟩);obtain⟨⟨i,e1,e2,e3,e5⟩,hmin⟩:=Classical.choose_spec (least env st hk);have:=hr i e3;rw[←e1,←e2]at this;refine dY htr a _ _ env st ?_ this
 ·intro e env' st' h;cases e with
  |normal=>
   obtain⟨j,b3,b5,g⟩:=h;have hW:W (F j) ⟨c,G j⟩ (μ j):=⟨j,rfl,rfl,b3,rfl⟩;refine⟨F j,⟨c,G j⟩,g,⟨_,hW⟩, ?_⟩;show(if h:∃k,W (F j) ⟨c,G j⟩ k then Classical.choose (least _ _ h)else 0)<(if h:∃k,W env st k then Classical.choose (least env st h)else 0);rw[dif_pos ⟨_,hW⟩,dif_pos hk,←e5];exact Nat.lt_of_le_of_lt ((Classical.choose_spec (least _ _ ⟨_,hW⟩)).2 _ hW) b5
  |exit j=>simp only[LQ]at h⊢;split<;>rename_i hj<;>simp only[hj,if_true,if_false]at h<;>exact h
  |ret=>exact h
def Aj (id:Nat)(next:List aW→St→Prop)(Q:Ex→List aW→St→Prop):Ex→List aW→St→Prop:=fun e env st=>match e with
 | .normal=>next env st
 | .exit j=>if j=id then Q .normal env st else Q (.exit j) env st
 | .ret=>Q .ret env st
def Aj.normal {id:Nat}{next:List aW→St→Prop}(h:next env st):Aj id next Q .normal env st:=h
def Aj.out {id:Nat}{next:List aW→St→Prop}(h:Q .normal env st):Aj id next Q (.exit id) env st:=by simp only[Aj,if_true];exact h
def Aj.other {id j:Nat}{next:List aW→St→Prop}(hj:(j==id)=false)(h:Q (.exit j) env st):Aj id next Q (.exit j) env st:=by simp only[Aj,if_neg (by simpa using hj)];exact h
def Aj.ret {id:Nat}{next:List aW→St→Prop}(h:Q .ret env st):Aj id next Q .ret env st:=h
def qg (htr:Γ.br){a:AC}{id:Nat}{ι:Type}(F:ι→List aW)(G:ι→List (Nat×aV))(c:Nat)(P:ι→Prop)(μ:ι→Nat)(i0:ι)
  (hP:P i0) (h0:aN Γ.lo env st (F i0) ⟨c,G i0⟩)
  (hr:∀i,P i→bB Γ a (Aj id (fun env' st'=>∃j,P j∧μ j<μ i∧aN Γ.lo env' st' (F j) ⟨c,G j⟩) Q) (F i) ⟨c,G i⟩):bB Γ (.block id (.loop a)) Q env st:=by
 let W:List aW→St→Nat→Prop:=fun env st k=>∃i,env=F i∧st=⟨c,G i⟩∧P i∧μ i=k
 have least:∀env st,(∃k,W env st k)→∃k,W env st k∧∀k',W env st k'→k≤k':=by
  intro env st ⟨k,hk⟩;induction k using Nat.strongRecOn with
  |_ k ih=>
   by_cases h:∃k',k'<k∧W env st k'
   ·obtain⟨k',h1,h2⟩:=h;exact ih k' h1 h2
   ·exact⟨k,hk,fun k' hk'=>by
     rcases Nat.lt_or_ge k' k with h1|h1
     ·exact absurd ⟨k',h1,hk'⟩ h
     ·exact h1⟩
 open Classical in
 refine .intro ⟨_,_,h0,fun env st=>∃k,W env st k,fun env st=>if h:∃k,W env st k then Classical.choose (least env st h)else 0,⟨_,i0,rfl,rfl,hP,rfl⟩,fun env st hk=>?_⟩;obtain⟨⟨i,e1,e2,e3,e5⟩,hmin⟩:=Classical.choose_spec (least env st hk);have:=hr i e3;rw[←e1,←e2]at this;refine dY htr a _ _ env st ?_ this
 ·intro e env' st' h;cases e with
  |normal=>
   obtain⟨j,b3,b5,g⟩:=h;have hW:W (F j) ⟨c,G j⟩ (μ j):=⟨j,rfl,rfl,b3,rfl⟩;refine⟨F j,⟨c,G j⟩,g,⟨_,hW⟩, ?_⟩;show(if h:∃k,W (F j) ⟨c,G j⟩ k then Classical.choose (least _ _ h)else 0)<(if h:∃k,W env st k then Classical.choose (least env st h)else 0);rw[dif_pos ⟨_,hW⟩,dif_pos hk,←e5];exact Nat.lt_of_le_of_lt ((Classical.choose_spec (least _ _ ⟨_,hW⟩)).2 _ hW) b5
  |exit j=>simp only[Aj]at h⊢;split<;>rename_i hj<;>simp only[hj,if_true,if_false]at h<;>exact h
  |ret=>exact h
def nth:List aW→Nat→aW
 |[],_=>.un
 |a::_,0=>a
 |_::r,n+1=>nth r n
def uq:∀(l:List aW)(n:Nat),l.getD n .un=nth l n
 |[],n=>by simp[nth]
 |a::_,0=>by simp[nth]
 |_::r,n+1=>by simpa[nth]using uq r n
def bE (env rs:List aW):Src→aW
 | .s n=>nth env n
 | .l p=>bif Nat.blt p rs.length then nth rs (rs.length-1-p)else .un
 | .c d=>⟨true,d⟩
def kf (env rs:List aW):Src.ev env rs.reverse=bE env rs:=by
 funext s;cases s with
 |s n=>exact uq env n
 |l p=>
  simp only[Src.ev,bE];cases h:Nat.blt p rs.length with
  |true=>
   have:p<rs.length:=by simp[Nat.blt]at h;omega
   rw[cond_true,←uq];simp only[List.getD];rw[List.getElem?_reverse this]
  |false=>
   have:¬p<rs.length:=by intro e;have:Nat.blt p rs.length=true:=by {simp[Nat.blt];omega};rw[this]at h;cases h
   rw[cond_false];simp[List.getD,List.getElem?_eq_none (show rs.reverse.length≤p by simp;omega)]
 |c d=>rfl
def au (Γ:Ctx)(draw:Bool)(l:List GI)(env rs:List aW)(nx:Nat)(m:List (Nat×aV))(K:List aW→St→Prop):Prop:=fH Γ draw l env rs.reverse ⟨nx,m⟩ K
def ES (env rs:List aW):List (Nat×Nat)→List aW
 |[]=>env
 |(s,p)::r=>ES (env.set s (bE [] rs (.l p))) rs r
def AE (rs:List aW):∀(cm:List (Nat×Nat))(env:List aW),eK env rs.reverse cm=ES env rs cm
 |[],env=>rfl
 |(s,p)::r,env=>by
  simp only[eK,ES];rw[AE rs r,←congrFun (kf [] rs) (.l p)];rfl
def ak {draw:Bool}{ins:List GI}{cm:List (Nat×Nat)}{b:AC}{nx:Nat}{m:List (Nat×aV)}
  (h:au Γ draw ins env [] nx m (fun vs st'=>bB Γ b Q (eK env vs cm) st')):bB Γ (.seq (.reg draw ins cm) b) Q env ⟨nx,m⟩:=.intro (.intro h)
def LL {draw:Bool}{ins:List GI}{cm:List (Nat×Nat)}{nx:Nat}{m:List (Nat×aV)}
  (h:au Γ draw ins env [] nx m (fun vs st'=>Q .normal (eK env vs cm) st')):bB Γ (.reg draw ins cm) Q env ⟨nx,m⟩:=.intro h
def IQ {draw:Bool}{cm:List (Nat×Nat)}{b:AC}{nx nx':Nat}{m:List (Nat×aV)}{rs eL env':List aW}(h:bB Γ b Q env' ⟨nx',m⟩)
  (he:ES env rs cm=env':=by exact rfl) (hn:nx+rs.length=nx':=by exact ry):au Γ draw [] eL rs nx m (fun vs st'=>bB Γ b Q (eK env vs cm) st'):=by
 subst he;subst hn;simp only[au,fH,List.length_reverse,AE];exact h
def IU {draw:Bool}{cm:List (Nat×Nat)}{nx nx':Nat}{m:List (Nat×aV)}{rs eL env':List aW}(h:Q .normal env' ⟨nx',m⟩)
  (he:ES env rs cm=env':=by exact rfl) (hn:nx+rs.length=nx':=by exact ry):au Γ draw [] eL rs nx m (fun vs st'=>Q .normal (eK env vs cm) st'):=by
 subst he;subst hn;simp only[au,fH,List.length_reverse,AE];exact h
def aq {c:Src}{a b r:AC}{t:Bool}(h1:t=true→bB Γ (.seq a r) Q env st)(h2:t=false→bB Γ (.seq b r) Q env st)(hc:bE env [] c=⟨true,.bool t⟩:=by exact rfl):bB Γ (.seq (.cond c a b) r) Q env st:=by
 have hc':c.ev env []=⟨true,.bool t⟩:=by rw[←hc,←kf];rfl
 refine .intro (.intro ?_);simp only[hc'];refine⟨trivial,fun ht=>?_,fun ht=>?_⟩
 ·obtain⟨e,s,g,h⟩:=h1 ht;exact gy g h
 ·obtain⟨e,s,g,h⟩:=h2 ht;exact gy g h
def wp_cond {c:Src}{a b:AC}{t:Bool}(h1:t=true→bB Γ a Q env st)(h2:t=false→bB Γ b Q env st)(hc:bE env [] c=⟨true,.bool t⟩:=by exact rfl):bB Γ (.cond c a b) Q env st:=by
 have hc':c.ev env []=⟨true,.bool t⟩:=by rw[←hc,←kf];rfl
 refine .intro ?_;simp only[hc'];exact⟨trivial,h1,h2⟩
def aN.to {lo c nx nx':Nat}{env env':List aW}{m m':List (Nat×aV)}(σ:List (Nat×Nat))(hc:nx'=c)(h:eW lo c σ=true)(he:c8 lo σ env env')(hm:aC lo c σ m m'):aN lo env ⟨nx,m⟩ env' ⟨nx',m'⟩:=by
 subst hc;exact .ren σ nx' env env' nx m m' h he hm
def aJ {α β:Type}(q:α→β)(xs:List α):(xs.map q).take xs.length=xs.map q:=List.take_of_length_le (by simp)
def bq {α:Type}{q:α→D}(h:∀x,(q x).aK=true):∀xs:List α,aH (xs.map q)=true
 |[]=>rfl
 |a::r=>by simp only[List.map_cons,aH,h a,bq h r,Bool.and_true]
def aN.fz {lo:Nat}{env env' env2:List aW}{nx k:Nat}{m m':List (Nat×aV)}{es:List D}{st2:St}(l:Nat)(hl:look m l=some (.buf k es))(hn:aH es=true)(he:lY l k es env=env')(hm:mQ l k es (bN m l)=m')(h:aN lo env' ⟨nx,m'⟩ env2 st2):aN lo env ⟨nx,m⟩ env2 st2:=by
 have:=aN.En (lo:=lo) l env ⟨nx,m⟩;simp only[Abs.En,hl,hn,cond_true,he,hm]at this;exact .trans _ _ _ _ _ _ this h
def eB {a:AC}{nx k:Nat}{m m':List (Nat×aV)}{es:List D}{env env':List aW}(l:Nat)(h:bB Γ a Q env' ⟨nx,m'⟩)(hl:look m l=some (.buf k es):=by exact rfl)(hn:aH es=true:=by first|exact rfl|exact bq (fun _=>rfl) _)
  (he:lY l k es env=env':=by simp only[lY,gU,kK,mQ,oL,bN,Nat.reduceEqDiff,if_true,if_false,and_self,true_and,and_true,false_and,and_false,Nat.zero_add,List.length_map,Nat.le_refl,List.drop_zero,aJ,reduceCtorEq,List.length_cons,List.length_nil,Nat.reduceAdd,Nat.reduceLeDiff];exact rfl)
  (hm:mQ l k es (bN m l)=m':=by simp only[lY,gU,kK,mQ,oL,bN,Nat.reduceEqDiff,if_true,if_false,and_self,true_and,and_true,false_and,and_false,Nat.zero_add,List.length_map,Nat.le_refl,List.drop_zero,aJ,reduceCtorEq,List.length_cons,List.length_nil,Nat.reduceAdd,Nat.reduceLeDiff];exact rfl):bB Γ a Q env ⟨nx,m⟩:=
 gy (aN.fz l hl hn he hm (.refl _ _)) h
def Jo.rf:∀e:List aW,Jo e e
 |[]=>trivial
 |_::r=>⟨⟨rfl,.refl _⟩,Jo.rf r⟩
def BF.nil:BF [] []:=⟨rfl,fun _=>.refl _⟩
def BF.cons {x y:D}{a b:List D}(h:sJ x y)(h2:BF a b):BF (x::a) (y::b):=⟨by simp[h2.1],fun i=>by cases i with
 |zero=>exact h
 |succ i=>simpa using h2.2 i⟩
def BF.rf (a:List D):BF a a:=⟨rfl,fun _=>.refl _⟩
def BF.map {α:Type}{q p:α→D}:∀{xs:List α},(∀x∈xs,sJ (q x) (p x))→BF (xs.map q) (xs.map p)
 |[],_=>.nil
 |x::r,h=>.cons (h x (.head _)) (BF.map fun y hy=>h y (.tail _ hy))
def sJ.ag {a b:List D}(h:BF a b):sJ (.agg a) (.agg b):=.agg _ _ h.1 h.2
def sJ.ss {k:Nat}{a b:List D}(h:BF a b):sJ (.sl k a) (.sl k b):=.sl _ _ _ h.1 h.2
def CM.nil {m:List (Nat×aV)}:CM m []:=trivial
def CM.id {m r:List (Nat×aV)}{l:Nat}{b:aV}(h:look m l=some b)(h2:CM m r):CM m ((l,b)::r):=⟨⟨b,h,by cases b<;>first|exact⟨rfl,.rf _⟩|exact rfl⟩,h2⟩
def CM.bf {m r:List (Nat×aV)}{l k:Nat}{es es':List D}(h:look m l=some (.buf k es))(hw:BF es es')(h2:CM m r):CM m ((l,.buf k es')::r):=⟨⟨_,h,rfl,hw⟩,h2⟩
def mc {a:AC}{nx:Nat}{m:List (Nat×aV)}{env:List aW}(m':List (Nat×aV))(hm:CM m m')(h:bB Γ a Q env ⟨nx,m'⟩):bB Γ a Q env ⟨nx,m⟩:=gy (.nz _ _ _ _ _ (Jo.rf _) hm) h
def c8.nil {lo:Nat}{σ:List (Nat×Nat)}:c8 lo σ [] []:=trivial
def c8.un {lo:Nat}{σ:List (Nat×Nat)}{a:aW}{r s:List aW}(h:c8 lo σ r s):c8 lo σ (a::r) (.un::s):=⟨.inr rfl,h⟩
def c8.eq {lo:Nat}{σ:List (Nat×Nat)}{ok:Bool}{d d':D}{r s:List aW}(hd:rZ lo σ d=some d')(h:c8 lo σ r s):c8 lo σ (⟨ok,d⟩::r) (⟨ok,d'⟩::s):=⟨.inl ⟨rfl,.inr (.inl hd)⟩,h⟩
def c8.nl {lo:Nat}{σ:List (Nat×Nat)}{ok:Bool}{d d':D}{r s:List aW}(hd:d'=d)(hn:d.aK=true)(h:c8 lo σ r s):c8 lo σ (⟨ok,d⟩::r) (⟨ok,d'⟩::s):=⟨.inl ⟨rfl,.inl ⟨hd,hn⟩⟩,h⟩
def c8.ni {lo:Nat}{σ:List (Nat×Nat)}{ok:Bool}{d d':D}{r s:List aW}(hd:qo d d')(h:c8 lo σ r s):c8 lo σ (⟨ok,d⟩::r) (⟨ok,d'⟩::s):=⟨.inl ⟨rfl,.inr (.inr hd)⟩,h⟩
section
variable {lo c:Nat} {σ:List (Nat×Nat)} {m r:List (Nat×aV)}
def aC.nil:aC lo c σ m []:=trivial
def aC.nl {k l':Nat}{es es':List D}(l:Nat)(hl:kG lo σ l=some l')(hm:look m l=some (.buf k es))(he:es'=es)(hn:aH es=true)(h:aC lo c σ m r):aC lo c σ m ((l',.buf k es')::r):=
 ⟨.inl ⟨l,_,hl,hm,rfl,.inl ⟨he,hn⟩⟩,h⟩
def aC.eq {k l':Nat}{es es':List D}(l:Nat)(hl:kG lo σ l=some l')(hm:look m l=some (.buf k es))(he:qc lo σ es=some es')(h:aC lo c σ m r):aC lo c σ m ((l',.buf k es')::r):=
 ⟨.inl ⟨l,_,hl,hm,rfl,.inr (.inl he)⟩,h⟩
def aC.ni {k l':Nat}{es es':List D}(l:Nat)(hl:kG lo σ l=some l')(hm:look m l=some (.buf k es))(he:Ap es es')(h:aC lo c σ m r):aC lo c σ m ((l',.buf k es')::r):=
 ⟨.inl ⟨l,_,hl,hm,rfl,.inr (.inr he)⟩,h⟩
def aC.df {k l':Nat}{es':List D}(hl:kG lo σ l'=some l')(hm:look m l'=some (.buf k es'))(hn:aH es'=true)(h:aC lo c σ m r):aC lo c σ m ((l',.buf k es')::r):=.nl l' hl hm rfl hn h
def aC.mw {k l':Nat}{es' es:List D}(hl:kG lo σ l'=some l')(hm:look m l'=some (.buf k es))(he:qc lo σ es=some es')(h:aC lo c σ m r):aC lo c σ m ((l',.buf k es')::r):=.eq l' hl hm he h
def aC.mt {k l':Nat}{es':List D}(h1:Nat.ble lo l'=true)(h2:Nat.blt l' c=true)(h3:σ.all (fun p=>!Nat.beq p.2 l')=true)(he:es'=[])(h:aC lo c σ m r):aC lo c σ m ((l',.buf k es')::r):=
 ⟨.inr ⟨h1,h2,h3,k,by rw[he]⟩,h⟩
def aC.it {l' p p':Nat}{s s':List UInt8}(l:Nat)(hl:kG lo σ l=some l')(hm:look m l=some (.iter s p))(hs:s'=s)(hp:p'=p)(h:aC lo c σ m r):aC lo c σ m ((l',.iter s' p')::r):=
 ⟨.inl ⟨l,_,hl,hm,hs,hp⟩,h⟩
def aC.qk {l' p p':Nat}{s s':List UInt8}(hl:kG lo σ l'=some l')(hm:look m l'=some (.iter s p))(hs:s'=s)(hp:p'=p)(h:aC lo c σ m r):aC lo c σ m ((l',.iter s' p')::r):=.it l' hl hm hs hp h
def aC.rw {l':Nat}{s s':List UInt8}(l:Nat)(hl:kG lo σ l=some l')(hm:look m l=some (.row s))(hs:s'=s)(h:aC lo c σ m r):aC lo c σ m ((l',.row s')::r):=
 ⟨.inl ⟨l,_,hl,hm,hs⟩,h⟩
def aC.bl {l' l1 l2 n n':Nat}{u u':Bool}(l:Nat)(hl:kG lo σ l=some l')(hm:look m l=some (.bld (some l1) n u))(h1:kG lo σ l1=some l2)(hn:n'=n)(hu:u'=u)(h:aC lo c σ m r):aC lo c σ m ((l',.bld (some l2) n' u')::r):=
 ⟨.inl ⟨l,_,hl,hm,⟨l2,h1,rfl⟩,hn,hu⟩,h⟩
def aC.b0 {l' n n':Nat}{u u':Bool}(l:Nat)(hl:kG lo σ l=some l')(hm:look m l=some (.bld none n u))(hn:n'=n)(hu:u'=u)(h:aC lo c σ m r):aC lo c σ m ((l',.bld none n' u')::r):=
 ⟨.inl ⟨l,_,hl,hm,rfl,hn,hu⟩,h⟩
end
mutual
def xC (m:List (Nat×aV)):Sh→D→D
 | .a,d=>match d with
  | .av=>.sl 0 []
  |d=>d
 | .sl k cs,d=>match d with
  | .av=>.sl k []
  | .own l k' i c=>.sl k' ((((aD m l).drop i).take c).map fun e=>match e with
   | .agg ds=>.agg (xL m cs ds)
   |e=>xH m cs e)
  |d=>d
 | .pt cs,d=>match d with
  | .ptr l k i o=>.ref k ((aD m l).map fun e=>match e with
   | .agg ds=>.agg (xL m cs ds)
   |e=>xH m cs e) i o
  |d=>d
def xH (m:List (Nat×aV)):List Sh→D→D
 |[],d=>d
 |s::_,d=>xC m s d
def xL (m:List (Nat×aV)):List Sh→List D→List D
 |[],ds=>ds
 |s::r,ds=>match ds with
  |[]=>[]
  |d::ds=>xC m s d::xL m r ds
end
def xV (m:List (Nat×aV))(cs:List Sh):D→D
 | .agg ds=>.agg (xL m cs ds)
 |e=>xH m cs e
mutual
def JM (m:List (Nat×aV)):Sh→D→Prop
 | .a,d=>d.aK=true
 | .sl _ cs,d=>match d with
  | .own l k' i c=>dE m l k' (i+c)∧∀e∈((aD m l).drop i).take c,(match e with
   | .agg ds=>Hf m cs ds
   |e=>JN m cs e)
  |d=>d.aK=true
 | .pt cs,d=>match d with
  | .ptr l k _ _=>dE m l k 0∧∀e∈aD m l,(match e with
   | .agg ds=>Hf m cs ds
   |e=>JN m cs e)
  |d=>d.aK=true
def JN (m:List (Nat×aV)):List Sh→D→Prop
 |[],d=>d.aK=true
 |s::_,d=>JM m s d
def Hf (m:List (Nat×aV)):List Sh→List D→Prop
 |[],ds=>aH ds=true
 |s::r,ds=>match ds with
  |[]=>True
  |d::ds=>JM m s d∧Hf m r ds
end
def Hg (m:List (Nat×aV))(cs:List Sh):D→Prop
 | .agg ds=>Hf m cs ds
 |e=>JN m cs e
mutual
theorem G6 (m:List (Nat×aV)):∀(s:Sh)(d:D),k9 m s d=xC m s d∧(iV m s d↔JM m s d)
 | .a,d=>by cases d<;>simp only[k9,xC,iV,JM]<;>exact⟨trivial,trivial⟩
 | .sl k cs,d=>by
  cases d<;>simp only[k9,xC,iV,JM]<;>first
   |exact⟨trivial,trivial⟩
   |skip
  rename_i l k' i c;exact⟨congrArg (D.sl k') (List.map_congr_left fun e _=>(Af m cs e).1),and_congr_right fun _=>forall_congr' fun e=>imp_congr_right fun _=>(Af m cs e).2⟩
 | .pt cs,d=>by
  cases d<;>simp only[k9,xC,iV,JM]<;>first
   |exact⟨trivial,trivial⟩
   |skip
  rename_i l k' i c;exact⟨congrArg (fun x=>D.ref k' x i c) (List.map_congr_left fun e _=>(Af m cs e).1),and_congr_right fun _=>forall_congr' fun e=>imp_congr_right fun _=>(Af m cs e).2⟩
theorem Af (m:List (Nat×aV)):∀(cs:List Sh)(d:D),gB m cs d=(match d with
   | .agg ds=>.agg (xL m cs ds)
   |e=>xH m cs e)∧(eN m cs d↔(match d with
   | .agg ds=>Hf m cs ds
   |e=>JN m cs e))
 |[],d=>by cases d<;>simp only[gB,xH,xL,eN,JN,Hf,D.aK]<;>first|exact⟨trivial,Iff.rfl⟩|exact⟨trivial,trivial⟩
 |s::r,d=>by
  cases d<;>simp only[gB,xH,eN,JN]<;>first
   |exact G6 m s _
   |skip
  rename_i ds;exact⟨congrArg D.agg (CB m (s::r) ds).1,(CB m (s::r) ds).2⟩
theorem CB (m:List (Nat×aV)):∀(cs:List Sh)(ds:List D),lf m cs ds=xL m cs ds∧(jt m cs ds↔Hf m cs ds)
 |[],ds=>by simp only[lf,xL,jt,Hf];exact⟨trivial,trivial⟩
 |s::r,[]=>by simp only[lf,xL,jt,Hf];exact⟨trivial,trivial⟩
 |s::r,d::ds=>by
  simp only[lf,xL,jt,Hf,(G6 m s d).1,(CB m r ds).1];exact⟨trivial,and_congr (G6 m s d).2 (CB m r ds).2⟩
end
def xb (m:List (Nat×aV))(cs:List Sh)(d:D):gB m cs d=xV m cs d∧(eN m cs d↔Hg m cs d):=by
 have:=Af m cs d;cases d<;>exact this
def kF (m:List (Nat×aV)):List (List Sh)→List D→List D
 |_,[]=>[]
 |[],d::r=>xV m [.a] d::kF m [] r
 |s::ss,d::r=>xV m s d::kF m ss r
def iK (m:List (Nat×aV)):List (List Sh)→List D→Prop
 |_,[]=>True
 |[],d::r=>Hg m [.a] d∧iK m [] r
 |s::ss,d::r=>Hg m s d∧iK m ss r
def cP (m:List (Nat×aV)):∀(ss:List (List Sh))(ds:List D),dP m ss ds=kF m ss ds∧(gh m ss ds↔iK m ss ds)
 |ss,[]=>by simp[dP,kF,gh,iK]
 |[],d::r=>by
  simp only[dP,kF,gh,iK,(xb m [.a] d).1,(cP m [] r).1];exact⟨trivial,and_congr (xb m _ d).2 (cP m [] r).2⟩
 |s::ss,d::r=>by
  simp only[dP,kF,gh,iK,(xb m s d).1,(cP m ss r).1];exact⟨trivial,and_congr (xb m _ d).2 (cP m ss r).2⟩
def Kn (a:aB)(d:D):Ex→List aW→St→Prop:=fun e env st=>e.home∧mn st.m env a.res∧Cl a env st∧IW a env st=d
def Ek (a:aB)(env:List aW)(m:List (Nat×aV)):D:=match a.res with
 |[r]=>xV m (a.rsh.getD 0 []) (zI m env r)
 |rs=>.tup (kF m a.rsh (mq m env rs))
def xc (a:aB)(env:List aW)(m:List (Nat×aV)):Prop:=match a.res with
 |[r]=>Hg m (a.rsh.getD 0 []) (zI m env r)
 |rs=>iK m a.rsh (mq m env rs)
def Lx {a:aB}{d:D}{e:Ex}{nx:Nat}{m:List (Nat×aV)}(he:e.home)(h1:mn m env a.res)(h2:xc a env m)(h3:Ek a env m=d):Kn a d e env ⟨nx,m⟩:=by
 refine⟨he,h1, ?_, ?_⟩
 ·unfold Cl;unfold xc at h2;split<;>rename_i hr
  ·rw[hr]at h2;exact(xb _ _ _).2.2 h2
  ·split at h2
   ·rename_i hr2;exact absurd hr2 (hr _)
   ·exact(cP _ _ _).2.2 h2
 ·unfold IW;unfold Ek at h3;split<;>rename_i hr
  ·rw[hr]at h3;rw[(xb _ _ _).1];exact h3
  ·split at h3
   ·rename_i hr2;exact absurd hr2 (hr _)
   ·rw[(cP _ _ _).1];exact h3
def CL (a:aB)(k:Nat)(vd sd:D):Ex→List aW→St→Prop:=fun e env st=>e.home∧mn st.m env a.res∧(iF a env st).aK=true∧iF a env st=vd∧look st.m 0=some (.buf k [sd])∧sd.aK=true
def eh {a:aB}{k:Nat}{vd sd:D}{e:Ex}{nx:Nat}{m:List (Nat×aV)}(he:e.home)(h1:mn m env a.res)(h2:iF a env ⟨nx,m⟩=vd)(h3:look m 0=some (.buf k [sd]))(hn:vd.aK=true)(hs:sd.aK=true):CL a k vd sd e env ⟨nx,m⟩:=⟨he,h1,by rw[h2];exact hn,h2,h3,hs⟩
end
end Go.Abs
end
section
namespace Go.Abs
section
variable {Γ:Ctx} {draw:Bool} {r:List GI} {env rs:List aW} {nx:Nat} {m:List (Nat×aV)} {K:List aW→St→Prop} {g:Option (Nat×Bool)} {f:Bool}
def at8 (s:List UInt8)(i:Nat):Int:=((s.getD i 0).toNat:Int)
def EI (s:List UInt8)(i:Nat):0≤at8 s i∧at8 s i<256:=by
 have:=(s.getD i 0).toNat_lt;unfold at8;omega
def D.KO:D→Bool
 | .str _=>true
 |_=>false
def wrap_i64 {a:Int}(h1:-9223372036854775808≤a)(h2:a≤9223372036854775807):IntKind.i64.wrap a=a:=IntWalk.i64_in _ (by omega)
def lA (a b:List UInt8):(a==b)=decide (a=b):=by
 by_cases h:a=b
 ·subst h;simp
 ·simp[h]
def getD_map {α:Type} [Inhabited α]{q:α→D}{xs:List α}{i:Nat}(h:i<xs.length):(xs.map q).getD i .any=q xs[i]! :=by
 simp[List.getD,h]
def LF (b:UInt8):(D.int .u8 b.toNat).u8=b:=by simp[D.u8]
def HA (s:List UInt8):D.str ((s.map fun b=>D.int .u8 b.toNat).map D.u8)=.str s:=by
 congr 1;rw[List.map_map]
 conv=>rhs;rw[←List.map_id s]
 apply List.map_congr_left;intro b _;exact LF b
def GF (rs:List aW):Option (Nat×Bool)→Bool→Prop
 |none,f=>f=true
 |some (j,w),f=>∃ok b,bE [] rs (.l j)=⟨ok,.bool b⟩∧(ok&&(b==w))=f
def GF.flag (h:GF rs g f):flag rs.reverse g=f∧y0 rs.reverse g:=by
 cases g with
 |none=>exact⟨h.symm,trivial⟩
 |some jw=>
  obtain⟨j,w⟩:=jw;obtain⟨ok,b,h1,h2⟩:=h;have h3:rs.reverse.getD j .un=⟨ok,.bool b⟩:=by rw[←h1,←kf];rfl
  simp only[Abs.flag,y0,h3,h2,D.isBool];exact⟨trivial,fun _=>trivial⟩
def Gu {i:aw}(hM:i.cb=false)(hF:i.rN draw g=false)(hC:g.isSome=true→i.calm=true)(hg:GF rs g f)(d:D)(ho:f=true→i.cE Γ (bE env rs) m)
  (hv:f=true→i.val Γ (bE env rs) m (nx+rs.length)=d) (m':List (Nat×aV)) (hm:i.bA Γ (bE env rs) m (nx+rs.length)=m')
  (h:(f=true→i.Au draw (bE env rs))→au Γ draw r env (⟨f,d⟩::rs) nx m' K):au Γ draw (⟨i,g⟩::r) env rs nx m K:=by
 obtain⟨hf,hb⟩:=hg.flag;unfold au;rw[jL hM hF,kf,hf];refine⟨?_,ho,fun ha=>⟨d,by simpa using hv, ?_⟩⟩
 ·cases g with
  |none=>trivial
  |some jw=>exact⟨hC rfl,hb⟩
 ·have:=h ha;unfold au at this;simp only[List.reverse_cons]at this;simpa only[List.length_reverse,hm]using this
def eO {i:aw}(hC:i.calm=true)(hg:GF rs g f)(d:D)(ho:f=true→i.cE Γ (bE env rs) m)
  (hv:f=true→i.val Γ (bE env rs) m (nx+rs.length)=d) (m':List (Nat×aV)) (hm:i.bA Γ (bE env rs) m (nx+rs.length)=m')
  (h:(f=true→i.Au draw (bE env rs))→au Γ draw r env (⟨f,d⟩::rs) nx m' K):au Γ draw (⟨i,g⟩::r) env rs nx m K:=
 Gu (by cases i<;>first|rfl|cases hC) (by simp[aw.rN,hC]) (fun _=>hC) hg d ho hv m' hm h
def a8 {i:aw}(hC:i.pure=true)(hg:GF rs g f)(d:D)(ho:f=true→i.cE Γ (bE env rs) m)
  (hv:f=true→i.val Γ (bE env rs) m (nx+rs.length)=d) 
  (h:(f=true→i.Au draw (bE env rs))→au Γ draw r env (⟨f,d⟩::rs) nx m K):au Γ draw (⟨i,g⟩::r) env rs nx m K:=
 eO (DY hC) hg d ho hv m (Gn hC) h
def ng {i:aw}(hM:i.cb=false)(d:D)(ho:i.cE Γ (bE env rs) m)
  (hv:i.val Γ (bE env rs) m (nx+rs.length)=d) (m':List (Nat×aV)) (hm:i.bA Γ (bE env rs) m (nx+rs.length)=m')
  (h:i.Au draw (bE env rs)→au Γ draw r env (⟨true,d⟩::rs) nx m' K):au Γ draw (⟨i,none⟩::r) env rs nx m K:=
 Gu hM (by simp[aw.rN]) (fun h=>by cases h) rfl d (fun _=>ho) (fun _=>hv) m' hm (fun ha=>h (ha rfl))
def r_mv {x:Src}{fx:Bool}{d:D}(h:au Γ draw r env (⟨f,d⟩::rs) nx m K)(hg:GF rs g f:=by exact bZ)(hx:bE env rs x=⟨fx,d⟩:=by exact rfl)(kx:f=true→fx=true:=by exact bm):au Γ draw (⟨.mv x,g⟩::r) env rs nx m K:=
 a8 rfl hg _ (fun hf=>by simp[aw.cE,hx,kx hf]) (fun hf=>by simp[aw.val,hx]) (fun ha=>h)
def N1 {x:Src}{fx:Bool}{b:Bool}(h:au Γ draw r env (⟨f,.bool (!b)⟩::rs) nx m K)(hg:GF rs g f:=by exact bZ)(hx:bE env rs x=⟨fx,.bool b⟩:=by exact rfl)(kx:f=true→fx=true:=by exact bm):au Γ draw (⟨.un .not x,g⟩::r) env rs nx m K:=
 a8 rfl hg _ (fun hf=>by simp[aw.cE,hx,kx hf]) (fun hf=>by simp[aw.val,hx]) (fun ha=>h)
def r_or {c b:Src}{fc fb t y:Bool}(h:au Γ draw r env (⟨f,.bool (t ||y)⟩::rs) nx m K)(hg:GF rs g f:=by exact bZ)(hc:bE env rs c=⟨fc,.bool t⟩:=by exact rfl)(hb:bE env rs b=⟨fb,.bool y⟩:=by exact rfl)(kc:f=true→fc=true:=by exact bm)(kb:f=true→t=false→fb=true:=by intro h1 h2;first|(rw[h2];exact rfl)|(rw[h2,h1];rfl)|(rw[h1,h2];rfl)|simp_all):au Γ draw (⟨.pick c (.c (.bool true)) b,g⟩::r) env rs nx m K:=
 a8 rfl hg _ (fun hf=>by simp only[aw.cE,hc,hb];exact⟨kc hf,fun _=>rfl,fun e=>kb hf e⟩) (fun hf=>by simp only[aw.val,hc,hb];cases t<;>rfl) (fun _=>h)
def NU {c a:Src}{fc fa t y:Bool}(h:au Γ draw r env (⟨f,.bool (t&&y)⟩::rs) nx m K)(hg:GF rs g f:=by exact bZ)(hc:bE env rs c=⟨fc,.bool t⟩:=by exact rfl)(ha:bE env rs a=⟨fa,.bool y⟩:=by exact rfl)(kc:f=true→fc=true:=by exact bm)(ka:f=true→t=true→fa=true:=by intro h1 h2;first|(rw[h2];exact rfl)|(rw[h2,h1];rfl)|(rw[h1,h2];rfl)|simp_all):au Γ draw (⟨.pick c a (.c (.bool false)),g⟩::r) env rs nx m K:=
 a8 rfl hg _ (fun hf=>by simp only[aw.cE,hc,ha];exact⟨kc hf,fun e=>ka hf e,fun _=>rfl⟩) (fun hf=>by simp only[aw.val,hc,ha];cases t<;>rfl) (fun _=>h)
def II {x y:Src}{fx fy:Bool}{a b:Int}(h:au Γ draw r env (⟨f,.int .i64 (a+b)⟩::rs) nx m K)(hg:GF rs g f:=by exact bZ)(hx:bE env rs x=⟨fx,.int .i64 a⟩:=by exact rfl)(hy:bE env rs y=⟨fy,.int .i64 b⟩:=by exact rfl)(kx:f=true→fx=true:=by exact bm)(ky:f=true→fy=true:=by exact bm)(hb:f=true→-9223372036854775808≤a+b∧a+b≤9223372036854775807:=by exact BB):au Γ draw (⟨.bin .add x y,g⟩::r) env rs nx m K:=
 a8 rfl hg _ (fun hf=>by simp[aw.cE,hx,hy,kx hf,ky hf,gE]) (fun hf=>by simp only[aw.val,hx,hy,il];rw[wrap_i64 (hb hf).1 (hb hf).2]) (fun ha=>h)
def Gr {x y:Src}{fx fy:Bool}{k:IntKind}{a b:Int}(v:Int)(h:au Γ draw r env (⟨f,.int k v⟩::rs) nx m K)(hg:GF rs g f:=by exact bZ)(hx:bE env rs x=⟨fx,.int k a⟩:=by exact rfl)(hy:bE env rs y=⟨fy,.int k b⟩:=by exact rfl)(kx:f=true→fx=true:=by exact bm)(ky:f=true→fy=true:=by exact bm)(hb:f=true→k.wrap (a+b)=v):au Γ draw (⟨.bin .add x y,g⟩::r) env rs nx m K:=
 a8 rfl hg _ (fun hf=>by simp[aw.cE,hx,hy,kx hf,ky hf,gE]) (fun hf=>by simp only[aw.val,hx,hy,il];rw[hb hf]) (fun ha=>h)
def IK {x y:Src}{fx fy:Bool}{a b:Int}(h:au Γ draw r env (⟨f,.int .i64 (a-b)⟩::rs) nx m K)(hg:GF rs g f:=by exact bZ)(hx:bE env rs x=⟨fx,.int .i64 a⟩:=by exact rfl)(hy:bE env rs y=⟨fy,.int .i64 b⟩:=by exact rfl)(kx:f=true→fx=true:=by exact bm)(ky:f=true→fy=true:=by exact bm)(hb:f=true→-9223372036854775808≤a-b∧a-b≤9223372036854775807:=by exact BB):au Γ draw (⟨.bin .sub x y,g⟩::r) env rs nx m K:=
 a8 rfl hg _ (fun hf=>by simp[aw.cE,hx,hy,kx hf,ky hf,gE]) (fun hf=>by simp only[aw.val,hx,hy,il];rw[wrap_i64 (hb hf).1 (hb hf).2]) (fun ha=>h)
def GB {x y:Src}{fx fy:Bool}{k:IntKind}{a b:Int}(v:Int)(h:au Γ draw r env (⟨f,.int k v⟩::rs) nx m K)(hg:GF rs g f:=by exact bZ)(hx:bE env rs x=⟨fx,.int k a⟩:=by exact rfl)(hy:bE env rs y=⟨fy,.int k b⟩:=by exact rfl)(kx:f=true→fx=true:=by exact bm)(ky:f=true→fy=true:=by exact bm)(hb:f=true→k.wrap (a-b)=v):au Γ draw (⟨.bin .sub x y,g⟩::r) env rs nx m K:=
 a8 rfl hg _ (fun hf=>by simp[aw.cE,hx,hy,kx hf,ky hf,gE]) (fun hf=>by simp only[aw.val,hx,hy,il];rw[hb hf]) (fun ha=>h)
def sZ {x y:Src}{fx fy:Bool}{a b:Int}(h:au Γ draw r env (⟨f,.int .i64 (a*b)⟩::rs) nx m K)(hg:GF rs g f:=by exact bZ)(hx:bE env rs x=⟨fx,.int .i64 a⟩:=by exact rfl)(hy:bE env rs y=⟨fy,.int .i64 b⟩:=by exact rfl)(kx:f=true→fx=true:=by exact bm)(ky:f=true→fy=true:=by exact bm)(hb:f=true→-9223372036854775808≤a*b∧a*b≤9223372036854775807:=by exact BB):au Γ draw (⟨.bin .mul x y,g⟩::r) env rs nx m K:=
 a8 rfl hg _ (fun hf=>by simp[aw.cE,hx,hy,kx hf,ky hf,gE]) (fun hf=>by simp only[aw.val,hx,hy,il];rw[wrap_i64 (hb hf).1 (hb hf).2]) (fun ha=>h)
def N2 {x y:Src}{fx fy:Bool}{k:IntKind}{a b:Int}(v:Int)(h:au Γ draw r env (⟨f,.int k v⟩::rs) nx m K)(hg:GF rs g f:=by exact bZ)(hx:bE env rs x=⟨fx,.int k a⟩:=by exact rfl)(hy:bE env rs y=⟨fy,.int k b⟩:=by exact rfl)(kx:f=true→fx=true:=by exact bm)(ky:f=true→fy=true:=by exact bm)(hn:f=true→b≠0)(hb:f=true→k.wrap (a.tdiv b)=v):au Γ draw (⟨.bin .quo x y,g⟩::r) env rs nx m K:=
 a8 rfl hg _ (fun hf=>by simp[aw.cE,hx,hy,kx hf,ky hf,gE,hn hf]) (fun hf=>by simp only[aw.val,hx,hy,il];rw[hb hf]) (fun ha=>h)
def Cg {x y:Src}{fx fy:Bool}{k:IntKind}{a b:Int}(v:Int)(h:au Γ draw r env (⟨f,.int k v⟩::rs) nx m K)(hg:GF rs g f:=by exact bZ)(hx:bE env rs x=⟨fx,.int k a⟩:=by exact rfl)(hy:bE env rs y=⟨fy,.int k b⟩:=by exact rfl)(kx:f=true→fx=true:=by exact bm)(ky:f=true→fy=true:=by exact bm)(hn:f=true→b≠0)(hb:f=true→a.tmod b=v):au Γ draw (⟨.bin .rem x y,g⟩::r) env rs nx m K:=
 a8 rfl hg _ (fun hf=>by simp[aw.cE,hx,hy,kx hf,ky hf,gE,hn hf]) (fun hf=>by simp only[aw.val,hx,hy,il];rw[hb hf]) (fun ha=>h)
def Ch {x y:Src}{fx fy:Bool}{k k2:IntKind}{a b:Int}(v:Int)(h:au Γ draw r env (⟨f,.int k v⟩::rs) nx m K)(hg:GF rs g f:=by exact bZ)(hx:bE env rs x=⟨fx,.int k a⟩:=by exact rfl)(hy:bE env rs y=⟨fy,.int k2 b⟩:=by exact rfl)(kx:f=true→fx=true:=by exact bm)(ky:f=true→fy=true:=by exact bm)(hn:f=true→0≤b:=by exact qi)(hb:f=true→a.fdiv (2^(min b.toNat k.bits))=v):au Γ draw (⟨.bin .shr x y,g⟩::r) env rs nx m K:=
 a8 rfl hg _ (fun hf=>by simp[aw.cE,hx,hy,kx hf,ky hf,gE,hn hf]) (fun hf=>by simp only[aw.val,hx,hy,il];rw[hb hf]) (fun ha=>h)
def xW {x y:Src}{fx fy:Bool}{k:IntKind}{a b:Int}(v:Int)(h:au Γ draw r env (⟨f,.int k v⟩::rs) nx m K)(hg:GF rs g f:=by exact bZ)(hx:bE env rs x=⟨fx,.int k a⟩:=by exact rfl)(hy:bE env rs y=⟨fy,.int k b⟩:=by exact rfl)(kx:f=true→fx=true:=by exact bm)(ky:f=true→fy=true:=by exact bm)(hb:f=true→k.wrap (((BitVec.ofInt k.bits a)&&&(BitVec.ofInt k.bits b)).toNat)=v):au Γ draw (⟨.bin .and x y,g⟩::r) env rs nx m K:=
 a8 rfl hg _ (fun hf=>by simp[aw.cE,hx,hy,kx hf,ky hf,gE]) (fun hf=>by simp only[aw.val,hx,hy,il];rw[hb hf]) (fun ha=>h)
def Lp {x y:Src}{fx fy:Bool}{k:IntKind}{a b:Int}(h:au Γ draw r env (⟨f,.bool (decide (a<b))⟩::rs) nx m K)(hg:GF rs g f:=by exact bZ)(hx:bE env rs x=⟨fx,.int k a⟩:=by exact rfl)(hy:bE env rs y=⟨fy,.int k b⟩:=by exact rfl)(kx:f=true→fx=true:=by exact bm)(ky:f=true→fy=true:=by exact bm):au Γ draw (⟨.bin .lss x y,g⟩::r) env rs nx m K:=
 a8 rfl hg _ (fun hf=>by simp[aw.cE,hx,hy,kx hf,ky hf,gE]) (fun hf=>by simp only[aw.val,hx,hy,il]<;>rfl) (fun ha=>h)
def Ln {x y:Src}{fx fy:Bool}{k:IntKind}{a b:Int}(h:au Γ draw r env (⟨f,.bool (decide (a≤b))⟩::rs) nx m K)(hg:GF rs g f:=by exact bZ)(hx:bE env rs x=⟨fx,.int k a⟩:=by exact rfl)(hy:bE env rs y=⟨fy,.int k b⟩:=by exact rfl)(kx:f=true→fx=true:=by exact bm)(ky:f=true→fy=true:=by exact bm):au Γ draw (⟨.bin .leq x y,g⟩::r) env rs nx m K:=
 a8 rfl hg _ (fun hf=>by simp[aw.cE,hx,hy,kx hf,ky hf,gE]) (fun hf=>by simp only[aw.val,hx,hy,il]<;>rfl) (fun ha=>h)
def Bf {x y:Src}{fx fy:Bool}{k:IntKind}{a b:Int}(h:au Γ draw r env (⟨f,.bool (decide (b<a))⟩::rs) nx m K)(hg:GF rs g f:=by exact bZ)(hx:bE env rs x=⟨fx,.int k a⟩:=by exact rfl)(hy:bE env rs y=⟨fy,.int k b⟩:=by exact rfl)(kx:f=true→fx=true:=by exact bm)(ky:f=true→fy=true:=by exact bm):au Γ draw (⟨.bin .gtr x y,g⟩::r) env rs nx m K:=
 a8 rfl hg _ (fun hf=>by simp[aw.cE,hx,hy,kx hf,ky hf,gE]) (fun hf=>by simp only[aw.val,hx,hy,il]<;>rfl) (fun ha=>h)
def Li {x y:Src}{fx fy:Bool}{k:IntKind}{a b:Int}(h:au Γ draw r env (⟨f,.bool (decide (b≤a))⟩::rs) nx m K)(hg:GF rs g f:=by exact bZ)(hx:bE env rs x=⟨fx,.int k a⟩:=by exact rfl)(hy:bE env rs y=⟨fy,.int k b⟩:=by exact rfl)(kx:f=true→fx=true:=by exact bm)(ky:f=true→fy=true:=by exact bm):au Γ draw (⟨.bin .geq x y,g⟩::r) env rs nx m K:=
 a8 rfl hg _ (fun hf=>by simp[aw.cE,hx,hy,kx hf,ky hf,gE]) (fun hf=>by simp only[aw.val,hx,hy,il]<;>rfl) (fun ha=>h)
def Lg {x y:Src}{fx fy:Bool}{k:IntKind}{a b:Int}(h:au Γ draw r env (⟨f,.bool (decide (a=b))⟩::rs) nx m K)(hg:GF rs g f:=by exact bZ)(hx:bE env rs x=⟨fx,.int k a⟩:=by exact rfl)(hy:bE env rs y=⟨fy,.int k b⟩:=by exact rfl)(kx:f=true→fx=true:=by exact bm)(ky:f=true→fy=true:=by exact bm):au Γ draw (⟨.bin .eql x y,g⟩::r) env rs nx m K:=
 a8 rfl hg _ (fun hf=>by simp[aw.cE,hx,hy,kx hf,ky hf,gE]) (fun hf=>by simp only[aw.val,hx,hy,il]<;>rfl) (fun ha=>h)
def Lr {x y:Src}{fx fy:Bool}{k:IntKind}{a b:Int}(h:au Γ draw r env (⟨f,.bool (!decide (a=b))⟩::rs) nx m K)(hg:GF rs g f:=by exact bZ)(hx:bE env rs x=⟨fx,.int k a⟩:=by exact rfl)(hy:bE env rs y=⟨fy,.int k b⟩:=by exact rfl)(kx:f=true→fx=true:=by exact bm)(ky:f=true→fy=true:=by exact bm):au Γ draw (⟨.bin .neq x y,g⟩::r) env rs nx m K:=
 a8 rfl hg _ (fun hf=>by simp[aw.cE,hx,hy,kx hf,ky hf,gE]) (fun hf=>by simp only[aw.val,hx,hy,il]<;>rfl) (fun ha=>h)
def Lq {x y:Src}{fx fy:Bool}{a b:List UInt8}(h:au Γ draw r env (⟨f,.bool (Op.bytesLess a b)⟩::rs) nx m K)(hg:GF rs g f:=by exact bZ)(hx:bE env rs x=⟨fx,.str a⟩:=by exact rfl)(hy:bE env rs y=⟨fy,.str b⟩:=by exact rfl)(kx:f=true→fx=true:=by exact bm)(ky:f=true→fy=true:=by exact bm):au Γ draw (⟨.bin .lss x y,g⟩::r) env rs nx m K:=
 a8 rfl hg _ (fun hf=>by simp[aw.cE,hx,hy,kx hf,ky hf,gE]) (fun hf=>by simp only[aw.val,hx,hy,il,lA]) (fun ha=>h)
def Lo {x y:Src}{fx fy:Bool}{a b:List UInt8}(h:au Γ draw r env (⟨f,.bool (Op.bytesLess a b ||decide (a=b))⟩::rs) nx m K)(hg:GF rs g f:=by exact bZ)(hx:bE env rs x=⟨fx,.str a⟩:=by exact rfl)(hy:bE env rs y=⟨fy,.str b⟩:=by exact rfl)(kx:f=true→fx=true:=by exact bm)(ky:f=true→fy=true:=by exact bm):au Γ draw (⟨.bin .leq x y,g⟩::r) env rs nx m K:=
 a8 rfl hg _ (fun hf=>by simp[aw.cE,hx,hy,kx hf,ky hf,gE]) (fun hf=>by simp only[aw.val,hx,hy,il,lA]) (fun ha=>h)
def Bg {x y:Src}{fx fy:Bool}{a b:List UInt8}(h:au Γ draw r env (⟨f,.bool (!(Op.bytesLess a b ||decide (a=b)))⟩::rs) nx m K)(hg:GF rs g f:=by exact bZ)(hx:bE env rs x=⟨fx,.str a⟩:=by exact rfl)(hy:bE env rs y=⟨fy,.str b⟩:=by exact rfl)(kx:f=true→fx=true:=by exact bm)(ky:f=true→fy=true:=by exact bm):au Γ draw (⟨.bin .gtr x y,g⟩::r) env rs nx m K:=
 a8 rfl hg _ (fun hf=>by simp[aw.cE,hx,hy,kx hf,ky hf,gE]) (fun hf=>by simp only[aw.val,hx,hy,il,lA]) (fun ha=>h)
def Lj {x y:Src}{fx fy:Bool}{a b:List UInt8}(h:au Γ draw r env (⟨f,.bool (!Op.bytesLess a b)⟩::rs) nx m K)(hg:GF rs g f:=by exact bZ)(hx:bE env rs x=⟨fx,.str a⟩:=by exact rfl)(hy:bE env rs y=⟨fy,.str b⟩:=by exact rfl)(kx:f=true→fx=true:=by exact bm)(ky:f=true→fy=true:=by exact bm):au Γ draw (⟨.bin .geq x y,g⟩::r) env rs nx m K:=
 a8 rfl hg _ (fun hf=>by simp[aw.cE,hx,hy,kx hf,ky hf,gE]) (fun hf=>by simp only[aw.val,hx,hy,il,lA]) (fun ha=>h)
def Lh {x y:Src}{fx fy:Bool}{a b:List UInt8}(h:au Γ draw r env (⟨f,.bool (decide (a=b))⟩::rs) nx m K)(hg:GF rs g f:=by exact bZ)(hx:bE env rs x=⟨fx,.str a⟩:=by exact rfl)(hy:bE env rs y=⟨fy,.str b⟩:=by exact rfl)(kx:f=true→fx=true:=by exact bm)(ky:f=true→fy=true:=by exact bm):au Γ draw (⟨.bin .eql x y,g⟩::r) env rs nx m K:=
 a8 rfl hg _ (fun hf=>by simp[aw.cE,hx,hy,kx hf,ky hf,gE]) (fun hf=>by simp only[aw.val,hx,hy,il,lA]) (fun ha=>h)
def Ls {x y:Src}{fx fy:Bool}{a b:List UInt8}(h:au Γ draw r env (⟨f,.bool (!decide (a=b))⟩::rs) nx m K)(hg:GF rs g f:=by exact bZ)(hx:bE env rs x=⟨fx,.str a⟩:=by exact rfl)(hy:bE env rs y=⟨fy,.str b⟩:=by exact rfl)(kx:f=true→fx=true:=by exact bm)(ky:f=true→fy=true:=by exact bm):au Γ draw (⟨.bin .neq x y,g⟩::r) env rs nx m K:=
 a8 rfl hg _ (fun hf=>by simp[aw.cE,hx,hy,kx hf,ky hf,gE]) (fun hf=>by simp only[aw.val,hx,hy,il,lA]) (fun ha=>h)
def dc {x y:Src}{fx fy:Bool}{a b:List UInt8}(h:au Γ draw r env (⟨f,.str (a++b)⟩::rs) nx m K)(hg:GF rs g f:=by exact bZ)(hx:bE env rs x=⟨fx,.str a⟩:=by exact rfl)(hy:bE env rs y=⟨fy,.str b⟩:=by exact rfl)(kx:f=true→fx=true:=by exact bm)(ky:f=true→fy=true:=by exact bm)(hb:f=true→a.length+b.length≤9223372036854775807):au Γ draw (⟨.bin .add x y,g⟩::r) env rs nx m K:=
 a8 rfl hg _ (fun hf=>by simp[aw.cE,hx,hy,kx hf,ky hf,gE,hb hf]) (fun hf=>by simp only[aw.val,hx,hy,il]) (fun ha=>h)
def rW {x:Src}{fx:Bool}{k k2:IntKind}{a:Int}(v:Int)(h:au Γ draw r env (⟨f,.int k v⟩::rs) nx m K)(hg:GF rs g f:=by exact bZ)(hx:bE env rs x=⟨fx,.int k2 a⟩:=by exact rfl)(kx:f=true→fx=true:=by exact bm)(hb:f=true→k.wrap a=v):au Γ draw (⟨.cvi k x,g⟩::r) env rs nx m K:=
 a8 rfl hg _ (fun hf=>by simp[aw.cE,hx,kx hf]) (fun hf=>by simp only[aw.val,hx];rw[hb hf]) (fun ha=>h)
def GA {x:Src}{fx:Bool}{s:List UInt8}(h:(f=true→draw=false→s.length≤9223372036854775807)→au Γ draw r env (⟨f,.int .i64 s.length⟩::rs) nx m K)(hg:GF rs g f:=by exact bZ)(hx:bE env rs x=⟨fx,.str s⟩:=by exact rfl)(kx:f=true→fx=true:=by exact bm):au Γ draw (⟨.lenS x,g⟩::r) env rs nx m K:=
 a8 rfl hg _ (fun hf=>by simp[aw.cE,hx,kx hf]) (fun hf=>by simp[aw.val,hx]) (fun ha=>h (fun hf hd=>by have:=ha hf;subst hd;simpa[aw.Au,hx,kx hf]using this))
def Gy {x:Src}{fx:Bool}{α:Type}{k:Nat}{q:α→D}{xs:List α}(h:(f=true→draw=false→xs.length≤9223372036854775807)→au Γ draw r env (⟨f,.int .i64 xs.length⟩::rs) nx m K)(hg:GF rs g f:=by exact bZ)(hx:bE env rs x=⟨fx,.sl k (xs.map q)⟩:=by exact rfl)(kx:f=true→fx=true:=by exact bm):au Γ draw (⟨.len x,g⟩::r) env rs nx m K:=
 a8 rfl hg _ (fun hf=>by simp[aw.cE,hx,kx hf]) (fun hf=>by simp[aw.val,hx]) (fun ha=>h (fun hf hd=>by have:=ha hf;subst hd;simpa[aw.Au,hx,kx hf]using this))
def Gz {x:Src}{fx:Bool}{l k i n:Nat}(h:(f=true→draw=false→n≤9223372036854775807)→au Γ draw r env (⟨f,.int .i64 n⟩::rs) nx m K)(hg:GF rs g f:=by exact bZ)(hx:bE env rs x=⟨fx,.own l k i n⟩:=by exact rfl)(kx:f=true→fx=true:=by exact bm):au Γ draw (⟨.len x,g⟩::r) env rs nx m K:=
 a8 rfl hg _ (fun hf=>by simp[aw.cE,hx,kx hf]) (fun hf=>by simp[aw.val,hx]) (fun ha=>h (fun hf hd=>by have:=ha hf;subst hd;simpa[aw.Au,hx,kx hf]using this))
def Lm {x:Src}{fx:Bool}(h:au Γ draw r env (⟨f,.int .i64 0⟩::rs) nx m K)(hg:GF rs g f:=by exact bZ)(hx:bE env rs x=⟨fx,.av⟩:=by exact rfl)(kx:f=true→fx=true:=by exact bm):au Γ draw (⟨.len x,g⟩::r) env rs nx m K:=
 a8 rfl hg _ (fun hf=>by simp[aw.cE,hx,kx hf]) (fun hf=>by simp[aw.val,hx]) (fun ha=>h)
def Lt {x:Src}{fx:Bool}{l k i o:Nat}(h:au Γ draw r env (⟨f,.ptr l k i o⟩::rs) nx m K)(hg:GF rs g f:=by exact bZ)(hx:bE env rs x=⟨fx,.ptr l k i o⟩:=by exact rfl)(kx:f=true→fx=true:=by exact bm):au Γ draw (⟨.nilck x,g⟩::r) env rs nx m K:=
 a8 rfl hg _ (fun hf=>by simp[aw.cE,hx,kx hf]) (fun hf=>by simp[aw.val,hx]) (fun ha=>h)
def Lu {x:Src}{fx:Bool}{k i o:Nat}{es:List D}(h:au Γ draw r env (⟨f,.ref k es i o⟩::rs) nx m K)(hg:GF rs g f:=by exact bZ)(hx:bE env rs x=⟨fx,.ref k es i o⟩:=by exact rfl)(kx:f=true→fx=true:=by exact bm):au Γ draw (⟨.nilck x,g⟩::r) env rs nx m K:=
 a8 rfl hg _ (fun hf=>by simp[aw.cE,hx,kx hf]) (fun hf=>by simp[aw.val,hx]) (fun ha=>h)
def NW {x:Src}{fx:Bool}{off l k i o:Nat}(h:au Γ draw r env (⟨f,.ptr l k i (o+off)⟩::rs) nx m K)(hg:GF rs g f:=by exact bZ)(hx:bE env rs x=⟨fx,.ptr l k i o⟩:=by exact rfl)(kx:f=true→fx=true:=by exact bm):au Γ draw (⟨.fa off x,g⟩::r) env rs nx m K:=
 a8 rfl hg _ (fun hf=>by simp[aw.cE,hx,kx hf]) (fun hf=>by simp[aw.val,hx]) (fun ha=>h)
def NX {x:Src}{fx:Bool}{off k i o:Nat}{es:List D}(h:au Γ draw r env (⟨f,.ref k es i (o+off)⟩::rs) nx m K)(hg:GF rs g f:=by exact bZ)(hx:bE env rs x=⟨fx,.ref k es i o⟩:=by exact rfl)(kx:f=true→fx=true:=by exact bm):au Γ draw (⟨.fa off x,g⟩::r) env rs nx m K:=
 a8 rfl hg _ (fun hf=>by simp[aw.cE,hx,kx hf]) (fun hf=>by simp[aw.val,hx]) (fun ha=>h)
def cH {x y:Src}{fx fy:Bool}{α:Type}{k:Nat}{q:α→D}{xs:List α}{i:Int}{kk:IntKind}(j:Nat)(h:au Γ draw r env (⟨f,.ref k (xs.map q) j 0⟩::rs) nx m K)(hg:GF rs g f:=by exact bZ)(hx:bE env rs x=⟨fx,.sl k (xs.map q)⟩:=by exact rfl)(hy:bE env rs y=⟨fy,.int kk i⟩:=by exact rfl)(kx:f=true→fx=true:=by exact bm)(ky:f=true→fy=true:=by exact bm)(hj:f=true→i=(j:Int):=by exact sI)(hb:f=true→j<xs.length:=by exact qi):au Γ draw (⟨.ia k x y,g⟩::r) env rs nx m K:=
 a8 rfl hg _ (fun hf=>by simp only[aw.cE,hx,hy,List.length_map];exact⟨kx hf,ky hf,trivial,by have:=hj hf;omega,by have:=hj hf;have:=hb hf;omega⟩) (fun hf=>by simp only[aw.val,hx,hy];rw[hj hf];rfl) (fun ha=>h)
def lh {x y:Src}{fx fy:Bool}{l k i0 n:Nat}{i:Int}{kk:IntKind}(j:Nat)(h:au Γ draw r env (⟨f,.ptr l k (i0+j) 0⟩::rs) nx m K)(hg:GF rs g f:=by exact bZ)(hx:bE env rs x=⟨fx,.own l k i0 n⟩:=by exact rfl)(hy:bE env rs y=⟨fy,.int kk i⟩:=by exact rfl)(kx:f=true→fx=true:=by exact bm)(ky:f=true→fy=true:=by exact bm)(hj:f=true→i=(j:Int):=by exact sI)(hb:f=true→j<n:=by exact qi):au Γ draw (⟨.ia k x y,g⟩::r) env rs nx m K:=
 a8 rfl hg _ (fun hf=>by simp only[aw.cE,hx,hy];exact⟨kx hf,ky hf,trivial,by have:=hj hf;omega,by have:=hj hf;have:=hb hf;omega⟩) (fun hf=>by simp only[aw.val,hx,hy];rw[hj hf];rfl) (fun ha=>h)
def xX {x y:Src}{fx fy:Bool}{l k k2 n i0 o:Nat}{i:Int}{kk:IntKind}(j:Nat)(h:au Γ draw r env (⟨f,.ptr l k2 i0 (o+j*k)⟩::rs) nx m K)(hg:GF rs g f:=by exact bZ)(hx:bE env rs x=⟨fx,.ptr l k2 i0 o⟩:=by exact rfl)(hy:bE env rs y=⟨fy,.int kk i⟩:=by exact rfl)(kx:f=true→fx=true:=by exact bm)(ky:f=true→fy=true:=by exact bm)(hj:f=true→i=(j:Int):=by exact sI)(hb:f=true→j<n:=by exact qi):au Γ draw (⟨.iaP n k x y,g⟩::r) env rs nx m K:=
 a8 rfl hg _ (fun hf=>by simp only[aw.cE,hx,hy];exact⟨kx hf,ky hf,by have:=hj hf;omega,by have:=hj hf;have:=hb hf;omega⟩) (fun hf=>by simp only[aw.val,hx,hy];rw[hj hf];rfl) (fun ha=>h)
def Bh {x y:Src}{fx fy:Bool}{k k2 n i0 o:Nat}{es:List D}{i:Int}{kk:IntKind}(j:Nat)(h:au Γ draw r env (⟨f,.ref k2 es i0 (o+j*k)⟩::rs) nx m K)(hg:GF rs g f:=by exact bZ)(hx:bE env rs x=⟨fx,.ref k2 es i0 o⟩:=by exact rfl)(hy:bE env rs y=⟨fy,.int kk i⟩:=by exact rfl)(kx:f=true→fx=true:=by exact bm)(ky:f=true→fy=true:=by exact bm)(hj:f=true→i=(j:Int):=by first|exact fun _=>rfl|(intro _;omega))(hb:f=true→j<n:=by intro _;omega):au Γ draw (⟨.iaP n k x y,g⟩::r) env rs nx m K:=
 a8 rfl hg _ (fun hf=>by simp only[aw.cE,hx,hy];exact⟨kx hf,ky hf,by have:=hj hf;omega,by have:=hj hf;have:=hb hf;omega⟩) (fun hf=>by simp only[aw.val,hx,hy];rw[hj hf];rfl) (fun ha=>h)
def zv {x y:Src}{fx fy:Bool}{s:List UInt8}{i:Int}{kk:IntKind}(j:Nat)(h:au Γ draw r env (⟨f,.int .u8 (at8 s j)⟩::rs) nx m K)(hg:GF rs g f:=by exact bZ)(hx:bE env rs x=⟨fx,.str s⟩:=by exact rfl)(hy:bE env rs y=⟨fy,.int kk i⟩:=by exact rfl)(kx:f=true→fx=true:=by exact bm)(ky:f=true→fy=true:=by exact bm)(hj:f=true→i=(j:Int):=by exact sI)(hb:f=true→j<s.length:=by exact qi):au Γ draw (⟨.ixS x y,g⟩::r) env rs nx m K:=
 a8 rfl hg _ (fun hf=>by simp only[aw.cE,hx,hy];exact⟨kx hf,ky hf,by have:=hj hf;omega,by have:=hj hf;have:=hb hf;omega⟩) (fun hf=>by simp only[aw.val,hx,hy];rw[hj hf];rfl) (fun ha=>h)
def Cf {x y:Src}{fx fy:Bool}{n k:Nat}{ag:Bool}{cs:List D}{i:Int}{kk:IntKind}(j:Nat)(v:D)(h:au Γ draw r env (⟨f,v⟩::rs) nx m K)(hg:GF rs g f:=by exact bZ)(hx:bE env rs x=⟨fx,.agg cs⟩:=by exact rfl)(hy:bE env rs y=⟨fy,.int kk i⟩:=by exact rfl)(kx:f=true→fx=true:=by exact bm)(ky:f=true→fy=true:=by exact bm)(hj:f=true→i=(j:Int):=by exact sI)(hb:f=true→j<n:=by exact qi)(hl:cs.length=n*k:=by exact rfl)(h1:ag=false→k=1:=by intro h;first|exact rfl|cases h)(hv:f=true→cut cs (j*k) k ag=v):au Γ draw (⟨.ixA n k ag x y,g⟩::r) env rs nx m K:=
 a8 rfl hg _ (fun hf=>by simp only[aw.cE,hx,hy];exact⟨kx hf,ky hf,h1,by have:=hj hf;omega,by have:=hj hf;have:=hb hf;omega,hl⟩) (fun hf=>by simp only[aw.val,hx,hy];rw[←hv hf,hj hf];rfl) (fun ha=>h)
def Gv {x y:Src}{fx fy:Bool}{α:Type}{k:Nat}{q:α→D}{xs:List α}{i:Int}{kk:IntKind}(h:au Γ draw r env (⟨f,.ref k (xs.map q) i.toNat 0⟩::rs) nx m K)(hg:GF rs g f:=by exact bZ)(hx:bE env rs x=⟨fx,.sl k (xs.map q)⟩:=by exact rfl)(hy:bE env rs y=⟨fy,.int kk i⟩:=by exact rfl)(kx:f=true→fx=true:=by exact bm)(ky:f=true→fy=true:=by exact bm)(hb:f=true→0≤i∧i<(xs.length:Nat):=by exact BB):au Γ draw (⟨.ia k x y,g⟩::r) env rs nx m K:=
 a8 rfl hg _ (fun hf=>by simp only[aw.cE,hx,hy,List.length_map];exact⟨kx hf,ky hf,trivial,(hb hf).1,(hb hf).2⟩) (fun hf=>by simp only[aw.val,hx,hy]<;>rfl) (fun ha=>h)
def Lk {x y:Src}{fx fy:Bool}{l k i0 n:Nat}{i:Int}{kk:IntKind}(h:au Γ draw r env (⟨f,.ptr l k (i0+i.toNat) 0⟩::rs) nx m K)(hg:GF rs g f:=by exact bZ)(hx:bE env rs x=⟨fx,.own l k i0 n⟩:=by exact rfl)(hy:bE env rs y=⟨fy,.int kk i⟩:=by exact rfl)(kx:f=true→fx=true:=by exact bm)(ky:f=true→fy=true:=by exact bm)(hb:f=true→0≤i∧i<(n:Nat):=by exact BB):au Γ draw (⟨.ia k x y,g⟩::r) env rs nx m K:=
 a8 rfl hg _ (fun hf=>by simp only[aw.cE,hx,hy,List.length_map];exact⟨kx hf,ky hf,trivial,(hb hf).1,(hb hf).2⟩) (fun hf=>by simp only[aw.val,hx,hy]<;>rfl) (fun ha=>h)
def Ll {x y:Src}{fx fy:Bool}{s:List UInt8}{i:Int}{kk:IntKind}(h:au Γ draw r env (⟨f,.int .u8 (at8 s i.toNat)⟩::rs) nx m K)(hg:GF rs g f:=by exact bZ)(hx:bE env rs x=⟨fx,.str s⟩:=by exact rfl)(hy:bE env rs y=⟨fy,.int kk i⟩:=by exact rfl)(kx:f=true→fx=true:=by exact bm)(ky:f=true→fy=true:=by exact bm)(hb:f=true→0≤i∧i<(s.length:Nat):=by exact BB):au Γ draw (⟨.ixS x y,g⟩::r) env rs nx m K:=
 a8 rfl hg _ (fun hf=>by simp only[aw.cE,hx,hy,List.length_map];exact⟨kx hf,ky hf,(hb hf).1,(hb hf).2⟩) (fun hf=>by simp only[aw.val,hx,hy]<;>rfl) (fun ha=>h)
def nj {x y:Src}{fx fy:Bool}{s:List UInt8}{k2:IntKind}{a:Int}(i:Nat)(h:au Γ draw r env (⟨f,.str (s.drop i)⟩::rs) nx m K)(hg:GF rs g f:=by exact bZ)(hx:bE env rs x=⟨fx,.str s⟩:=by exact rfl)(hy:bE env rs y=⟨fy,.int k2 a⟩:=by exact rfl)(kx:f=true→fx=true:=by exact bm)(ky:f=true→fy=true:=by exact bm)(hi:f=true→a=(i:Int):=by exact sI)(hb:f=true→i≤s.length:=by exact qi):au Γ draw (⟨.slS x (some y) none,g⟩::r) env rs nx m K:=
 a8 rfl hg _ (fun hf=>by simp only[aw.cE,Eo,dO,hx,hy];have:=hb hf;have:=hi hf;refine⟨kx hf,ky hf,trivial, ?_⟩;simp only[lB,cM,true_and,and_true,Int.ofNat_eq_natCast];omega) (fun hf=>by simp only[aw.val,dO,cM,hx,hy];rw[hi hf];simp) (fun ha=>h)
def uG {x y:Src}{fx fy:Bool}{α:Type}{k:Nat}{q:α→D}{s:List α}{k2:IntKind}{a:Int}(i:Nat)(h:au Γ draw r env (⟨f,.sl k ((s.drop i).map q)⟩::rs) nx m K)(hg:GF rs g f:=by exact bZ)(hx:bE env rs x=⟨fx,.sl k (s.map q)⟩:=by exact rfl)(hy:bE env rs y=⟨fy,.int k2 a⟩:=by exact rfl)(kx:f=true→fx=true:=by exact bm)(ky:f=true→fy=true:=by exact bm)(hi:f=true→a=(i:Int):=by exact sI)(hb:f=true→i≤s.length:=by exact qi):au Γ draw (⟨.slA k x (some y) none,g⟩::r) env rs nx m K:=
 a8 rfl hg _ (fun hf=>by simp only[aw.cE,Eo,dO,hx,hy,List.length_map];have:=hb hf;have:=hi hf;refine⟨kx hf,ky hf,trivial,trivial, ?_⟩;simp only[lB,cM,true_and,and_true,Int.ofNat_eq_natCast];omega) (fun hf=>by simp only[aw.val,dO,cM,hx,hy];rw[hi hf];first|(simp only[List.take_length,Int.toNat_natCast,List.map_drop];done)|simp[List.map_drop,List.map_take]) (fun ha=>h)
def p8 {x z:Src}{fx fz:Bool}{s:List UInt8}{k3:IntKind}{c:Int}(j:Nat)(h:au Γ draw r env (⟨f,.str (s.take j)⟩::rs) nx m K)(hg:GF rs g f:=by exact bZ)(hx:bE env rs x=⟨fx,.str s⟩:=by exact rfl)(hz:bE env rs z=⟨fz,.int k3 c⟩:=by exact rfl)(kx:f=true→fx=true:=by exact bm)(kz:f=true→fz=true:=by exact bm)(hj:f=true→c=(j:Int):=by exact sI)(hb:f=true→j≤s.length:=by exact qi):au Γ draw (⟨.slS x none (some z),g⟩::r) env rs nx m K:=
 a8 rfl hg _ (fun hf=>by simp only[aw.cE,Eo,dO,hx,hz];have:=hb hf;have:=hj hf;refine⟨kx hf,trivial,kz hf, ?_⟩;simp only[lB,cM,true_and,and_true,Int.ofNat_eq_natCast];omega) (fun hf=>by simp only[aw.val,dO,cM,hx,hz];rw[hj hf];simp) (fun ha=>h)
def uF {x z:Src}{fx fz:Bool}{α:Type}{k:Nat}{q:α→D}{s:List α}{k3:IntKind}{c:Int}(j:Nat)(h:au Γ draw r env (⟨f,.sl k ((s.take j).map q)⟩::rs) nx m K)(hg:GF rs g f:=by exact bZ)(hx:bE env rs x=⟨fx,.sl k (s.map q)⟩:=by exact rfl)(hz:bE env rs z=⟨fz,.int k3 c⟩:=by exact rfl)(kx:f=true→fx=true:=by exact bm)(kz:f=true→fz=true:=by exact bm)(hj:f=true→c=(j:Int):=by exact sI)(hb:f=true→j≤s.length:=by exact qi):au Γ draw (⟨.slA k x none (some z),g⟩::r) env rs nx m K:=
 a8 rfl hg _ (fun hf=>by simp only[aw.cE,Eo,dO,hx,hz,List.length_map];have:=hb hf;have:=hj hf;refine⟨kx hf,trivial,kz hf,trivial, ?_⟩;simp only[lB,cM,true_and,and_true,Int.ofNat_eq_natCast];omega) (fun hf=>by simp only[aw.val,dO,cM,hx,hz];rw[hj hf];first|(simp only[List.take_length,Int.toNat_natCast,List.map_drop];done)|simp[List.map_drop,List.map_take]) (fun ha=>h)
def zw {x z:Src}{fx fz:Bool}{l k i0 n:Nat}{k3:IntKind}{c:Int}(j:Nat)(h:au Γ draw r env (⟨f,.own l k i0 j⟩::rs) nx m K)(hg:GF rs g f:=by exact bZ)(hx:bE env rs x=⟨fx,.own l k i0 n⟩:=by exact rfl)(hz:bE env rs z=⟨fz,.int k3 c⟩:=by exact rfl)(kx:f=true→fx=true:=by exact bm)(kz:f=true→fz=true:=by exact bm)(hj:f=true→c=(j:Int):=by exact sI)(hb:f=true→j≤n:=by exact qi):au Γ draw (⟨.slA k x none (some z),g⟩::r) env rs nx m K:=
 a8 rfl hg _ (fun hf=>by simp only[aw.cE,Eo,dO,hx,hz];have:=hb hf;have:=hj hf;refine⟨kx hf,trivial,kz hf,trivial, ?_⟩;simp only[lB,cM,true_and,and_true,Int.ofNat_eq_natCast];omega) (fun hf=>by simp only[aw.val,dO,cM,hx,hz];rw[hj hf];simp) (fun ha=>h)
def zx {x y z:Src}{fx fy fz:Bool}{s:List UInt8}{k2:IntKind}{a:Int}(i:Nat){k3:IntKind}{c:Int}(j:Nat)(h:au Γ draw r env (⟨f,.str ((s.take j).drop i)⟩::rs) nx m K)(hg:GF rs g f:=by exact bZ)(hx:bE env rs x=⟨fx,.str s⟩:=by exact rfl)(hy:bE env rs y=⟨fy,.int k2 a⟩:=by exact rfl)(hz:bE env rs z=⟨fz,.int k3 c⟩:=by exact rfl)(kx:f=true→fx=true:=by exact bm)(ky:f=true→fy=true:=by exact bm)(kz:f=true→fz=true:=by exact bm)(hi:f=true→a=(i:Int):=by exact sI)(hj:f=true→c=(j:Int):=by exact sI)(hb:f=true→i≤j∧j≤s.length:=by exact BB):au Γ draw (⟨.slS x (some y) (some z),g⟩::r) env rs nx m K:=
 a8 rfl hg _ (fun hf=>by simp only[aw.cE,Eo,dO,hx,hy,hz];have:=hb hf;have:=hi hf;have:=hj hf;refine⟨kx hf,ky hf,kz hf, ?_⟩;simp only[lB,cM,true_and,and_true,Int.ofNat_eq_natCast];omega) (fun hf=>by simp only[aw.val,dO,cM,hx,hy,hz];rw[hi hf,hj hf];simp) (fun ha=>h)
def fG {x:Src}{fx:Bool}{i:Nat}{ds:List D}(v:D)(h:au Γ draw r env (⟨f,v⟩::rs) nx m K)(hg:GF rs g f:=by exact bZ)(hx:bE env rs x=⟨fx,.tup ds⟩:=by exact rfl)(kx:f=true→fx=true:=by exact bm)(hv:f=true→ds.getD i .any=v:=by exact fun _=>rfl)(hb:f=true→i<ds.length:=by intro _;simp only[List.length_cons,List.length_nil];omega):au Γ draw (⟨.ext x i,g⟩::r) env rs nx m K:=
 a8 rfl hg _ (fun hf=>by simp only[aw.cE,hx];exact⟨kx hf,hb hf⟩) (fun hf=>by simp only[aw.val,hx];exact hv hf) (fun ha=>h)
def fe {z:List D}{ps:List (Nat×Nat×Src)}(v:List D)(h:au Γ draw r env (⟨f,.agg v⟩::rs) nx m K)(hg:GF rs g f:=by exact bZ)(hv:f=true→tI (bE env rs) z ps=v:=by exact fun _=>rfl)(ho:f=true→vV (bE env rs) z.length ps:=by exact Ag):au Γ draw (⟨.build z ps,g⟩::r) env rs nx m K:=
 a8 rfl hg _ (fun hf=>ho hf) (fun hf=>by simp only[aw.val];rw[hv hf]) (fun _=>h)
def bx {z:List D}{ps:List (Nat×Nat×Src)}(d:D)(h:au Γ draw r env (⟨f,d⟩::rs) nx m K)(hg:GF rs g f:=by exact bZ)(hv:f=true→D.agg (tI (bE env rs) z ps)=d:=by exact fun _=>rfl)(ho:f=true→vV (bE env rs) z.length ps:=by exact Ag):au Γ draw (⟨.build z ps,g⟩::r) env rs nx m K:=
 a8 rfl hg _ (fun hf=>ho hf) (fun hf=>by simp only[aw.val];exact hv hf) (fun _=>h)
def KR {e:D}{n o:Nat}{ag:Bool}(h:e.isAgg=ag):mi e n n o ag=e:=by simp[mi,h]
def cS {x:Src}{fx:Bool}{n l:Nat}{ag:Bool}{d:D}(h:au Γ draw r env (⟨f,d⟩::rs) nx m K)(hg:GF rs g f:=by exact bZ)(hx:bE env rs x=⟨fx,.ptr l n 0 0⟩:=by exact rfl)(kx:f=true→fx=true:=by exact bm)(hl:f=true→look m l=some (.buf n [d]):=by exact fun _=>rfl)(ha:f=true→d.isAgg=ag:=by exact fun _=>rfl):au Γ draw (⟨.ld n ag x,g⟩::r) env rs nx m K:=
 eO rfl hg _ (fun hf=>by simp only[aw.cE,hx,Al,dE,hl hf];exact⟨kx hf,⟨trivial,by simp⟩,by omega⟩) (fun hf=>by simp only[aw.val,hx,zd,aD,hl hf,List.getD_cons_zero];exact KR (ha hf)) m rfl (fun ha=>h)
def cy {x:Src}{fx:Bool}{n l k o:Nat}{ag:Bool}{d:D}(v:D)(h:au Γ draw r env (⟨f,v⟩::rs) nx m K)(hg:GF rs g f:=by exact bZ)(hx:bE env rs x=⟨fx,.ptr l k 0 o⟩:=by exact rfl)(kx:f=true→fx=true:=by exact bm)(hl:f=true→look m l=some (.buf k [d]):=by exact fun _=>rfl)(hv:f=true→mi d k n o ag=v:=by exact fun _=>rfl)(ho:o+n≤k:=by omega):au Γ draw (⟨.ld n ag x,g⟩::r) env rs nx m K:=
 eO rfl hg _ (fun hf=>by simp only[aw.cE,hx,Al,dE,hl hf];exact⟨kx hf,⟨trivial,by simp⟩,ho⟩) (fun hf=>by simp only[aw.val,hx,zd,aD,hl hf,List.getD_cons_zero];exact hv hf) m rfl (fun ha=>h)
def rX {x:Src}{fx:Bool}{α:Type} [Inhabited α]{n l k i o:Nat}{ag:Bool}{q:α→D}{xs:List α}(v:D)(h:au Γ draw r env (⟨f,v⟩::rs) nx m K)(hg:GF rs g f:=by exact bZ)(hx:bE env rs x=⟨fx,.ptr l k i o⟩:=by exact rfl)(kx:f=true→fx=true:=by exact bm)(hl:f=true→look m l=some (.buf k (xs.map q)):=by exact fun _=>rfl)(hi:f=true→i<xs.length:=by exact qi)(hv:f=true→mi (q xs[i]!) k n o ag=v:=by exact fun _=>rfl)(ho:o+n≤k:=by omega):au Γ draw (⟨.ld n ag x,g⟩::r) env rs nx m K:=
 eO rfl hg _ (fun hf=>by simp only[aw.cE,hx,Al,dE,hl hf,List.length_map];exact⟨kx hf,⟨trivial,by have:=hi hf;omega⟩,ho⟩) (fun hf=>by simp only[aw.val,hx,zd,aD,hl hf];rw[getD_map (hi hf)];exact hv hf) m rfl (fun ha=>h)
def cj {x:Src}{fx:Bool}{α:Type} [Inhabited α]{n k i o:Nat}{ag:Bool}{q:α→D}{xs:List α}(v:D)(h:au Γ draw r env (⟨f,v⟩::rs) nx m K)(hg:GF rs g f:=by exact bZ)(hx:bE env rs x=⟨fx,.ref k (xs.map q) i o⟩:=by exact rfl)(kx:f=true→fx=true:=by exact bm)(hi:f=true→i<xs.length:=by exact qi)(hv:f=true→mi (q xs[i]!) k n o ag=v:=by exact fun _=>rfl)(ho:o+n≤k:=by omega):au Γ draw (⟨.ld n ag x,g⟩::r) env rs nx m K:=
 eO rfl hg _ (fun hf=>by simp only[aw.cE,hx,Al,List.length_map];exact⟨kx hf,hi hf,ho⟩) (fun hf=>by simp only[aw.val,hx,zd];rw[getD_map (hi hf)];exact hv hf) m rfl (fun ha=>h)
def ic {x:Src}{fx:Bool}{n k i o:Nat}{ag:Bool}{es:List D}(v:D)(h:au Γ draw r env (⟨f,v⟩::rs) nx m K)(hg:GF rs g f:=by exact bZ)(hx:bE env rs x=⟨fx,.ref k es i o⟩:=by exact rfl)(kx:f=true→fx=true:=by exact bm)(hi:f=true→i<es.length:=by intro _;simp only[List.length_cons,List.length_nil];omega)(hv:f=true→mi (es.getD i .any) k n o ag=v:=by exact fun _=>rfl)(ho:o+n≤k:=by omega):au Γ draw (⟨.ld n ag x,g⟩::r) env rs nx m K:=
 eO rfl hg _ (fun hf=>by simp only[aw.cE,hx,Al];exact⟨kx hf,hi hf,ho⟩) (fun hf=>by simp only[aw.val,hx,zd];exact hv hf) m rfl (fun ha=>h)
def Bi {x:Src}{fx:Bool}{n k i o:Nat}{ag:Bool}{es:List D}(v:D)(h:au Γ draw r env (⟨f,v⟩::rs) nx m K)(hg:GF rs g f:=by exact bZ)(hx:bE env rs x=⟨fx,.ref k es i o⟩:=by exact rfl)(kx:f=true→fx=true:=by exact bm)(hi:f=true→i<es.length:=by intro _;simp only[List.length_cons,List.length_nil];omega)(hv:f=true→mi (es.getD i .any) k n o ag=v:=by exact fun _=>rfl)(ho:o+n≤k:=by omega):au Γ draw (⟨.ldI n ag x,g⟩::r) env rs nx m K:=
 a8 rfl hg _ (fun hf=>by simp only[aw.cE,hx,Al];exact⟨kx hf,hi hf,ho⟩) (fun hf=>by simp only[aw.val,hx,zd];exact hv hf) (fun ha=>h)
def NV {x:Src}{fx:Bool}{k:Nat}{d:D}{L:Nat}{m2:List (Nat×aV)}(h:au Γ draw r env (⟨f,.ptr L k 0 0⟩::rs) nx m2 K)(hg:GF rs g f:=by exact bZ)(hx:bE env rs x=⟨fx,d⟩:=by exact rfl)(kx:f=true→fx=true:=by exact bm)(hc:d.cells.length=k:=by exact rfl)(hL:nx+rs.length=L:=by exact ry)(hm:bR m L (.buf k [d])=m2:=by simp only[bR,bN,Nat.reduceEqDiff,if_true,if_false,Nat.reduceAdd,reduceCtorEq];exact rfl):au Γ draw (⟨.box k x,g⟩::r) env rs nx m K:=
 eO rfl hg _ (fun hf=>by simp only[aw.cE,hx];exact⟨kx hf,hc⟩) (fun hf=>by simp only[aw.val,hx,hL]) _ (by simp only[aw.bA,hx,hL];exact hm) (fun _=>h)
def NY {L:Nat}{m2:List (Nat×aV)}(h:au Γ draw r env (⟨f,.ptr L 2 0 0⟩::rs) nx m2 K)(hg:GF rs g f:=by exact bZ)(hL:nx+rs.length=L:=by exact ry)(hm:bR m L (.bld none 0 false)=m2:=by simp only[bR,bN,Nat.reduceEqDiff,if_true,if_false,Nat.reduceAdd,reduceCtorEq];exact rfl):au Γ draw (⟨.mkB,g⟩::r) env rs nx m K:=
 eO rfl hg _ (fun _=>trivial) (fun hf=>by simp only[aw.val,hL]) _ (by simp only[aw.bA,hL];exact hm) (fun _=>h)
def N4 {x:Src}{fx:Bool}{s:List UInt8}{L:Nat}{m2:List (Nat×aV)}(h:au Γ draw r env (⟨f,.own L 1 0 s.length⟩::rs) nx m2 K)(hg:GF rs g f:=by exact bZ)(hx:bE env rs x=⟨fx,.str s⟩:=by exact rfl)(kx:f=true→fx=true:=by exact bm)(hL:nx+rs.length=L:=by exact ry)(hm:bR m L (.buf 1 (s.map fun b=>.int .u8 b.toNat))=m2:=by simp only[bR,bN,Nat.reduceEqDiff,if_true,if_false,Nat.reduceAdd,reduceCtorEq];exact rfl):au Γ draw (⟨.s2b x,g⟩::r) env rs nx m K:=
 eO rfl hg _ (fun hf=>by simp only[aw.cE,hx];exact⟨kx hf,trivial⟩) (fun hf=>by simp only[aw.val,hx,hL]) _ (by simp only[aw.bA,hx,hL];exact hm) (fun _=>h)
def N3 {x:Src}{fx:Bool}{s:List UInt8}{L:Nat}{m2:List (Nat×aV)}(h:au Γ draw r env (⟨f,.it L⟩::rs) nx m2 K)(hg:GF rs g f:=by exact bZ)(hx:bE env rs x=⟨fx,.str s⟩:=by exact rfl)(kx:f=true→fx=true:=by exact bm)(hL:nx+rs.length=L:=by exact ry)(hm:bR m L (.iter s 0)=m2:=by simp only[bR,bN,Nat.reduceEqDiff,if_true,if_false,Nat.reduceAdd,reduceCtorEq];exact rfl):au Γ draw (⟨.rng x,g⟩::r) env rs nx m K:=
 eO rfl hg _ (fun hf=>by simp only[aw.cE,hx];exact⟨kx hf,trivial⟩) (fun hf=>by simp only[aw.val,hx,hL]) _ (by simp only[aw.bA,hx,hL];exact hm) (fun _=>h)
def cx {k n:Nat}{z:D}{ps:List (Nat×Src)}{L:Nat}{m2:List (Nat×aV)}(es:List D)(h:au Γ draw r env (⟨f,.own L k 0 n⟩::rs) nx m2 K)(hg:GF rs g f:=by exact bZ)(he:jr (bE env rs) (List.replicate n z) ps=es:=by exact rfl)(ho:f=true→oJ (bE env rs) k n ps:=by exact Ag)(hz:z.cells.length=k:=by exact rfl)(hL:nx+rs.length=L:=by exact ry)(hm:bR m L (.buf k es)=m2:=by simp only[bR,bN,Nat.reduceEqDiff,if_true,if_false,Nat.reduceAdd,reduceCtorEq];exact rfl):au Γ draw (⟨.bsl k z n ps,g⟩::r) env rs nx m K:=
 eO rfl hg _ (fun hf=>⟨hz,ho hf⟩) (fun hf=>by simp only[aw.val,hL]) _ (by simp only[aw.bA,he,hL];exact hm) (fun _=>h)
def N0 {k:Nat}{z:D}{x y:Src}{k1 k2:IntKind}{a c:Int}{L:Nat}{m2:List (Nat×aV)}(n:Nat)(h:au Γ draw r env (⟨true,.own L k 0 n⟩::rs) nx m2 K)(hx:bE env rs x=⟨true,.int k1 a⟩:=by exact rfl)(hy:bE env rs y=⟨true,.int k2 c⟩:=by exact rfl)(hn:a=(n:Int):=by first|exact rfl|omega)(hc:a≤c∧c≤1073741824:=by constructor<;>omega)(hz:z.cells.length=k:=by exact rfl)(hL:nx+rs.length=L:=by exact ry)(hm:bR m L (.buf k (List.replicate n z))=m2:=by simp only[bR,bN,Nat.reduceEqDiff,if_true,if_false,Nat.reduceAdd,reduceCtorEq];exact rfl):au Γ draw (⟨.mks k z x y,none⟩::r) env rs nx m K:=
 ng rfl _ (by simp only[aw.cE,hx,hy];exact⟨trivial,trivial,hz,by omega,hc.1,hc.2⟩) (by simp only[aw.val,hx,hL,D.nat,hn];rfl) _ (by simp only[aw.bA,hx,hL,D.nat,hn];exact hm) (fun _=>h)
def aI {n l k o:Nat}{x y:Src}{d v:D}{m2:List (Nat×aV)}(e:D)(h:au Γ draw r env (⟨true,.any⟩::rs) nx m2 K)(hx:bE env rs x=⟨true,.ptr l k 0 o⟩:=by exact rfl)(hy:bE env rs y=⟨true,v⟩:=by exact rfl)(hl:look m l=some (.buf k [d]):=by exact rfl)(hc:v.cells.length=n:=by exact rfl)(he:uO d k n o v=e:=by exact rfl)(ho:o+n≤k:=by omega)(hm:bR m l (.buf k [e])=m2:=by simp only[bR,bN,Nat.reduceEqDiff,if_true,if_false,Nat.reduceAdd,reduceCtorEq];exact rfl):au Γ draw (⟨.st n x y,none⟩::r) env rs nx m K:=
 ng rfl _ (by simp only[aw.cE,hx,hy,dE,hl];exact⟨trivial,trivial,hc,⟨trivial,by simp⟩,ho⟩) rfl _ (by simp only[aw.bA,hx,hy,aD,hl,List.getD_cons_zero,List.set_cons_zero,he];exact hm) (fun _=>h)
def Ci {n l k i o:Nat}{x y:Src}{v:D}{es:List D}{m2:List (Nat×aV)}(es2:List D)(h:au Γ draw r env (⟨true,.any⟩::rs) nx m2 K)(hx:bE env rs x=⟨true,.ptr l k i o⟩:=by exact rfl)(hy:bE env rs y=⟨true,v⟩:=by exact rfl)(hl:look m l=some (.buf k es):=by exact rfl)(hi:i<es.length)(hc:v.cells.length=n:=by exact rfl)(he:es.set i (uO (es.getD i .any) k n o v)=es2)(ho:o+n≤k:=by omega)(hm:bR m l (.buf k es2)=m2:=by simp only[bR,bN,Nat.reduceEqDiff,if_true,if_false,Nat.reduceAdd,reduceCtorEq];exact rfl):au Γ draw (⟨.st n x y,none⟩::r) env rs nx m K:=
 ng rfl _ (by simp only[aw.cE,hx,hy,dE,hl];exact⟨trivial,trivial,hc,⟨trivial,by omega⟩,ho⟩) rfl _ (by simp only[aw.bA,hx,hy,aD,hl,he];exact hm) (fun _=>h)
def sc (m:List (Nat×aV))(k:Nat)(d:D)(ys:List D):Prop:=xt m k d∧mg m d=ys
def sc.sl {k:Nat}{es:List D}:sc m k (.sl k es) es:=⟨rfl,rfl⟩
def sc.av {k:Nat}:sc m k .av []:=⟨trivial,rfl⟩
def sc.own {l k i n:Nat}{es:List D}(hl:look m l=some (.buf k es))(hb:i+n≤es.length):sc m k (.own l k i n) ((es.drop i).take n):=⟨⟨rfl,by simp only[dE,hl];exact⟨trivial,hb⟩⟩,by simp only[mg,aD,hl]⟩
def sc.all {l k n:Nat}{es:List D}(hl:look m l=some (.buf k es))(hb:n=es.length):sc m k (.own l k 0 n) es:=by
 have:=sc.own (i:=0) (n:=n) hl (by omega);simpa[hb]using this
def sc.str {s:List UInt8}:sc m 1 (.str s) (s.map fun b=>.int .u8 b.toNat):=⟨rfl,rfl⟩
def Lb {k n:Nat}{x y:Src}{d:D}{ys:List D}{L:Nat}{m2:List (Nat×aV)}(h:au Γ draw r env (⟨true,.own L k 0 n⟩::rs) nx m2 K)(hx:bE env rs x=⟨true,.av⟩:=by exact rfl)(hy:bE env rs y=⟨true,d⟩:=by exact rfl)(he:sc m k d ys)(hn:ys.length=n)(hb:n≤1073741824:=by omega)(hL:nx+rs.length=L:=by exact ry)(hm:bR m L (.buf k ys)=m2:=by simp only[bR,bN,Nat.reduceEqDiff,if_true,if_false,Nat.reduceAdd,reduceCtorEq];exact rfl):au Γ draw (⟨.app k x y,none⟩::r) env rs nx m K:=
 ng rfl _ (by simp only[aw.cE,hx,hy,he.2,hn];exact⟨trivial,trivial,he.1,hb⟩) (by simp only[aw.val,hx,hy,he.2,hn,hL]) _ (by simp only[aw.bA,hx,hy,he.2,hL];exact hm) (fun _=>h)
def IJ {k n:Nat}{y:Src}{fy:Bool}{d:D}{ys:List D}{L:Nat}{m2:List (Nat×aV)}(h:au Γ draw r env (⟨f,.own L k 0 n⟩::rs) nx m2 K)(hg:GF rs g f:=by exact bZ)(hy:bE env rs y=⟨fy,d⟩:=by exact rfl)(ky:f=true→fy=true:=by exact bm)(he:sc m k d ys)(hn:ys.length=n)(hb:n≤1073741824:=by omega)(hL:nx+rs.length=L:=by exact ry)(hm:bR m L (.buf k ys)=m2:=by simp only[bR,bN,Nat.reduceEqDiff,if_true,if_false,Nat.reduceAdd,reduceCtorEq];exact rfl):au Γ draw (⟨.appN k y,g⟩::r) env rs nx m K:=
 eO rfl hg _ (fun hf=>by simp only[aw.cE,hy,he.2,hn];exact⟨ky hf,he.1,hb⟩) (fun hf=>by simp only[aw.val,hy,he.2,hn,hL]) _ (by simp only[aw.bA,hy,he.2,hL];exact hm) (fun _=>h)
def Ce {k l i a n:Nat}{x y:Src}{d:D}{xs ys:List D}{L:Nat}{m2:List (Nat×aV)}(zs:List D)(h:au Γ draw r env (⟨true,.own L k 0 n⟩::rs) nx m2 K)(hx:bE env rs x=⟨true,.own l k i a⟩:=by exact rfl)(hy:bE env rs y=⟨true,d⟩:=by exact rfl)(hl:look m l=some (.buf k xs):=by exact rfl)(ha:i+a≤xs.length)(he:sc m k d ys)(hz:(xs.drop i).take a++ys=zs)(hn:a+ys.length=n)(hb:n≤1073741824:=by omega)(hL:nx+rs.length=L:=by exact ry)(hm:bR (bN m l) L (.buf k zs)=m2:=by simp only[bR,bN,Nat.reduceEqDiff,if_true,if_false,Nat.reduceAdd,reduceCtorEq];exact rfl):au Γ draw (⟨.app k x y,none⟩::r) env rs nx m K:=
 ng rfl _ (by simp only[aw.cE,hx,hy,he.2,dE,hl,hn];exact⟨trivial,trivial,he.1,trivial,⟨trivial,ha⟩,hb⟩) (by simp only[aw.val,hx,hy,he.2,hn,hL]) _ (by simp only[aw.bA,hx,hy,he.2,aD,hl,hz,hL];exact hm) (fun _=>h)
def jl {α:Type}{q:α→D}{xs:List α}{e:α}{k l ly:Nat}{x y:Src}{L:Nat}{m2:List (Nat×aV)}(h:au Γ draw r env (⟨true,.own L k 0 (xs++[e]).length⟩::rs) nx m2 K)(hx:bE env rs x=⟨true,.own l k 0 xs.length⟩:=by exact rfl)(hy:bE env rs y=⟨true,.own ly k 0 1⟩:=by exact rfl)(hl:look m l=some (.buf k (xs.map q)):=by exact rfl)(he:look m ly=some (.buf k [q e]):=by exact rfl)(hb:xs.length+1≤1073741824:=by omega)(hL:nx+rs.length=L:=by exact ry)(hm:bR (bN m l) L (.buf k ((xs++[e]).map q))=m2:=by simp only[bR,bN,Nat.reduceEqDiff,if_true,if_false,Nat.reduceAdd,reduceCtorEq];exact rfl):au Γ draw (⟨.app k x y,none⟩::r) env rs nx m K:=
 Ce (zs:=(xs++[e]).map q) (hx:=hx) (hy:=hy) (hl:=hl) (ha:=by simp) (he:=sc.all (es:=[q e]) he rfl) (hz:=by rw[List.drop_zero,List.take_of_length_le (by simp)];simp) (hn:=by simp) (hb:=by simp;omega) (hL:=hL) (hm:=hm) (h:=h)
def Lc {α:Type}{q:α→D}{xs ys:List α}{k l:Nat}{x y:Src}{d:D}{L:Nat}{m2:List (Nat×aV)}(h:au Γ draw r env (⟨true,.own L k 0 (xs++ys).length⟩::rs) nx m2 K)(hx:bE env rs x=⟨true,.own l k 0 xs.length⟩:=by exact rfl)(hy:bE env rs y=⟨true,d⟩:=by exact rfl)(hl:look m l=some (.buf k (xs.map q)):=by exact rfl)(he:sc m k d (ys.map q))(hb:xs.length+ys.length≤1073741824:=by omega)(hL:nx+rs.length=L:=by exact ry)(hm:bR (bN m l) L (.buf k ((xs++ys).map q))=m2:=by simp only[bR,bN,Nat.reduceEqDiff,if_true,if_false,Nat.reduceAdd,reduceCtorEq];exact rfl):au Γ draw (⟨.app k x y,none⟩::r) env rs nx m K:=
 Ce (zs:=(xs++ys).map q) (hx:=hx) (hy:=hy) (hl:=hl) (ha:=by simp) (he:=he) (hz:=by rw[List.drop_zero,List.take_of_length_le (by simp)];simp) (hn:=by simp) (hb:=by simp;omega) (hL:=hL) (hm:=hm) (h:=h)
def Gt {x:Src}{fx:Bool}{d:D}{ys:List D}(s:List UInt8)(h:au Γ draw r env (⟨f,.str s⟩::rs) nx m K)(hg:GF rs g f:=by exact bZ)(hx:bE env rs x=⟨fx,d⟩:=by exact rfl)(kx:f=true→fx=true:=by exact bm)(he:f=true→sc m 1 d ys)(hs:f=true→ys=s.map fun b=>.int .u8 b.toNat)(hd:d.KO=false:=by exact rfl):au Γ draw (⟨.b2s x,g⟩::r) env rs nx m K:=
 eO rfl hg _ (fun hf=>by
  simp only[aw.cE,hx,(he hf).2,hs hf];refine⟨kx hf,(by cases d<;>first|trivial|(cases hd)),(he hf).1,fun e hm=>?_⟩;obtain⟨b,_,rfl⟩:=List.mem_map.1 hm;have:=b.toNat_lt;exact⟨rfl,by omega,by omega⟩) (fun hf=>by simp only[aw.val,hx,(he hf).2,hs hf];rw[HA]) m rfl (fun _=>h)
def xZ {x:Src}{l pos:Nat}{s:List UInt8}{m2:List (Nat×aV)}(c w:Nat)(h:au Γ draw r env (⟨true,.tup [.bool true,.int .i64 pos,.int .i32 c]⟩::rs) nx m2 K)(hx:bE env rs x=⟨true,.it l⟩:=by exact rfl)(hl:look m l=some (.iter s pos):=by exact rfl)(hp:pos<s.length)(hc:qC s pos=(c,w))(hm:bR m l (.iter s (pos+w))=m2:=by simp only[bR,bN,Nat.reduceEqDiff,if_true,if_false,Nat.reduceAdd,reduceCtorEq];exact rfl):au Γ draw (⟨.ve x,none⟩::r) env rs nx m K:=
 ng rfl _ (by simp only[aw.cE,hx,hl];exact⟨trivial,trivial⟩) (by simp only[aw.val,hx,hl,hc,hp,decide_true,cond_true]) _ (by simp only[aw.bA,hx,hl,hc,hp,decide_true,cond_true];exact hm) (fun _=>h)
def xY {x:Src}{l pos:Nat}{s:List UInt8}(h:au Γ draw r env (⟨true,.tup [.bool false]⟩::rs) nx m K)(hx:bE env rs x=⟨true,.it l⟩:=by exact rfl)(hl:look m l=some (.iter s pos):=by exact rfl)(hp:¬pos<s.length):au Γ draw (⟨.ve x,none⟩::r) env rs nx m K:=
 ng rfl _ (by simp only[aw.cE,hx,hl];exact⟨trivial,trivial⟩) (by simp only[aw.val,hx,hl,hp,decide_false,cond_false]) _ (by simp only[aw.bA,hx,hl,hp,decide_false,cond_false]) (fun _=>h)
def aj {n:Nat}{args:List Src}{sh:List (List Sh)}{VM:List D}{v:D}(h:au Γ draw r env (⟨f,v⟩::rs) nx m K)(hg:GF rs g f:=by exact bZ)(hc:Γ.pre n VM∧Γ.val n VM=v)(ha:f=true→kF m sh (fm (bE env rs) args)=VM:=by exact fun _=>rfl)(ho:f=true→uu (bE env rs) args:=by exact Ag)(hp:f=true→iK m sh (fm (bE env rs) args):=by exact Ag)(hk:f=true→qy (fm (bE env rs) args) v=true:=by exact fun _=>rfl):au Γ draw (⟨.call n args sh,g⟩::r) env rs nx m K:=
 eO rfl hg _ (fun hf=>by simp only[aw.cE,(cP _ _ _).1,ha hf,hc.2];exact⟨ho hf,(cP _ _ _).2.2 (hp hf),hc.1,hk hf⟩) (fun hf=>by simp only[aw.val,(cP _ _ _).1,ha hf,hc.2]) m rfl (fun _=>h)
def ff {n:Nat}{args:List Src}{sh:List (List Sh)}{VM:List D}{v:D}(h:au Γ draw r env (⟨f,v⟩::rs) nx m K)(hg:GF rs g f:=by exact bZ)(hc:f=true→Γ.pre n VM∧Γ.val n VM=v)(ha:f=true→kF m sh (fm (bE env rs) args)=VM:=by exact fun _=>rfl)(ho:f=true→uu (bE env rs) args:=by exact Ag)(hp:f=true→iK m sh (fm (bE env rs) args):=by exact Ag)(hk:f=true→qy (fm (bE env rs) args) v=true:=by exact fun _=>rfl):au Γ draw (⟨.call n args sh,g⟩::r) env rs nx m K:=
 eO rfl hg _ (fun hf=>by simp only[aw.cE,(cP _ _ _).1,ha hf,(hc hf).2];exact⟨ho hf,(cP _ _ _).2.2 (hp hf),(hc hf).1,hk hf⟩) (fun hf=>by simp only[aw.val,(cP _ _ _).1,ha hf,(hc hf).2]) m rfl (fun _=>h)
def NZ {n:Nat}{caps:List Src}(cs:List D)(h:au Γ draw r env (⟨f,.fn n cs⟩::rs) nx m K)(hg:GF rs g f:=by exact bZ)(hc:f=true→fm (bE env rs) caps=cs:=by exact fun _=>rfl)(ho:f=true→uu (bE env rs) caps:=by exact Ag):au Γ draw (⟨.mkf n caps,g⟩::r) env rs nx m K:=
 a8 rfl hg _ (fun hf=>ho hf) (fun hf=>by simp only[aw.val,hc hf]) (fun _=>h)
def jE {n l k:Nat}{x:Src}{args:List Src}{sh:List (List Sh)}{d v e:D}{VM:List D}{m2:List (Nat×aV)}(h:au Γ draw r env (⟨true,v⟩::rs) nx m2 K)(hx:bE env rs x=⟨true,.ptr l k 0 0⟩:=by exact rfl)(hl:look m l=some (.buf k [d]):=by exact rfl)(hd:d.aK=true:=by exact rfl)(hc:Γ.fp n d VM∧Γ.fv n d VM=v∧Γ.fs n d VM=e)(ha:kF [] sh (fm (bE env rs) args)=VM:=by exact rfl)(ho:uu (bE env rs) args:=by repeat' first|exact trivial|exact rfl|refine And.intro ?_ ?_|decide)(hn:aH (fm (bE env rs) args)=true:=by exact rfl)(hm:bR m l (.buf k [e])=m2:=by simp only[bR,bN,Nat.reduceEqDiff,if_true,if_false,Nat.reduceAdd,reduceCtorEq];exact rfl):au Γ draw (⟨.callF n x args sh,none⟩::r) env rs nx m K:=
 ng rfl _ (by simp only[aw.cE,hx,dE,aD,hl,List.getD_cons_zero,(cP _ _ _).1,ha];exact⟨trivial,ho,hn,trivial,trivial,⟨trivial,by simp⟩,by simp,hd,hc.1⟩) (by simp only[aw.val,hx,aD,hl,List.getD_cons_zero,(cP _ _ _).1,ha,hc.2.1]) _ (by simp only[aw.bA,hx,aD,hl,List.getD_cons_zero,(cP _ _ _).1,ha,hc.2.2];exact hm) (fun _=>h)
end
end Go.Abs
end
section
namespace Go.Abs
abbrev ah:=List UInt8
structure dt where
 major:Int
 minor:Int
 patch:Int
 pre:ah
 build:ah
 deriving Inhabited,DecidableEq
def dt.D (v:dt):D:=.agg [.int .i64 v.major,.int .i64 v.minor,.int .i64 v.patch,.str v.pre,.str v.build]
structure qn where
 name:ah
 v:dt
 shelf:ah
 sum:Int
 feats:List ah
 deriving Inhabited,DecidableEq
def qn.D (x:qn):D:=.agg [.str x.name,.int .i64 x.v.major,.int .i64 x.v.minor,.int .i64 x.v.patch,.str x.v.pre,.str x.v.build,.str x.shelf,.int .u64 x.sum,.sl 1 (x.feats.map D.str)]
structure Env where
 e0:ah
 e1:ah
 e2:ah
 deriving Inhabited,DecidableEq
def Env.D (e:Env):D:=.agg [.str e.e0,.str e.e1,.str e.e2]
structure yi where
 env:Env
 lines:List qn
 deriving Inhabited,DecidableEq
def yi.D (l:yi):D:=.agg [.str l.env.e0,.str l.env.e1,.str l.env.e2,.sl 9 (l.lines.map qn.D)]
end Go.Abs
namespace Go.Abs
def pK (a b:List UInt8):KA (.str a) (.str b)=decide (a=b):=lA a b
def sO (k k2:IntKind)(a b:Int):KA (.int k a) (.int k2 b)=decide (a=b):=rfl
def dt.eq (a b:dt):fE (dt.D a).cells (dt.D b).cells=decide (a=b):=by
 obtain⟨a1,a2,a3,a4,a5⟩:=a;obtain⟨b1,b2,b3,b4,b5⟩:=b;simp only[dt.D,D.cells,fE,pK,sO,dt.mk.injEq,Bool.and_true];simp only[Bool.decide_and]
def Env.eq (a b:Env):fE (Env.D a).cells (Env.D b).cells=decide (a=b):=by
 obtain⟨a1,a2,a3⟩:=a;obtain⟨b1,b2,b3⟩:=b;simp only[Env.D,D.cells,fE,pK,sO,Env.mk.injEq,Bool.and_true];simp only[Bool.decide_and]
def dt.inj {a b:dt}(h:dt.D a=dt.D b):a=b:=by
 obtain⟨a1,a2,a3,a4,a5⟩:=a;obtain⟨b1,b2,b3,b4,b5⟩:=b;simp only[dt.D,D.agg.injEq,List.cons.injEq,D.int.injEq,D.str.injEq,true_and,and_true]at h;simp[h]
def Env.inj {a b:Env}(h:Env.D a=Env.D b):a=b:=by
 obtain⟨a1,a2,a3⟩:=a;obtain⟨b1,b2,b3⟩:=b;simp only[Env.D,D.agg.injEq,List.cons.injEq,D.int.injEq,D.str.injEq,true_and,and_true]at h;simp[h]
def map_inj {α:Type}{q:α→D}(hq:∀a b,q a=q b→a=b):∀{xs ys:List α},xs.map q=ys.map q→xs=ys
 |[],[],_=>rfl
 |[],_::_,h=>by simp at h
 |_::_,[],h=>by simp at h
 |a::r,b::s,h=>by
  simp only[List.map_cons,List.cons.injEq]at h;rw[hq a b h.1,map_inj hq h.2]
def str_inj (a b:List UInt8)(h:D.str a=D.str b):a=b:=by simpa using h
def qn.inj {a b:qn}(h:qn.D a=qn.D b):a=b:=by
 obtain⟨a1,⟨v1,v2,v3,v4,v5⟩,a2,a3,a4⟩:=a;obtain⟨b1,⟨w1,w2,w3,w4,w5⟩,b2,b3,b4⟩:=b;simp only[qn.D,D.agg.injEq,List.cons.injEq,D.int.injEq,D.str.injEq,D.sl.injEq,true_and,and_true]at h;have:=map_inj str_inj h.2.2.2.2.2.2.2.2;simp[h,this]
def yi.inj {a b:yi}(h:yi.D a=yi.D b):a=b:=by
 obtain⟨⟨a1,a2,a3⟩,a4⟩:=a;obtain⟨⟨b1,b2,b3⟩,b4⟩:=b;simp only[yi.D,D.agg.injEq,List.cons.injEq,D.str.injEq,D.sl.injEq,true_and,and_true]at h;have:=map_inj (fun _ _=>qn.inj) h.2.2.2;simp[h,this]
end Go.Abs
end
section
namespace Go.Abs
def allI (p:Nat→Bool):Nat→Nat→Bool
 |_,0=>true
 |i,k+1=>p i&&allI p (i+1) k
def cn (p:Nat→Bool)(i n:Nat):Bool:=allI p i (n-i)
def aM {p:Nat→Bool}{i n:Nat}(h:i<n):cn p i n=(p i&&cn p (i+1) n):=by
 unfold cn;rw[show n-i=(n-(i+1))+1 by omega];rfl
def b7 {p:Nat→Bool}{i n:Nat}(h:n≤i):cn p i n=true:=by
 unfold cn;rw[show n-i=0 by omega];rfl
def yw {p:Nat→Bool}:∀{k i:Nat},allI p i k=true↔∀j,i≤j→j<i+k→p j=true
 |0,i=>by simp[allI];intro j h1 h2;omega
 |k+1,i=>by
  simp only[allI,Bool.and_eq_true,yw (k:=k)];constructor
  ·rintro⟨h1,h2⟩ j hj1 hj2;rcases Nat.eq_or_lt_of_le hj1 with h|h
   ·exact h▸h1
   ·exact h2 j h (by omega)
  ·intro h;exact⟨h i (Nat.le_refl _) (by omega),fun j h1 h2=>h j (by omega) (by omega)⟩
def dh {p:Nat→Bool}{i n:Nat}:cn p i n=true↔∀j,i≤j→j<n→p j=true:=by
 unfold cn;rw[yw];constructor
 ·intro h j h1 h2;exact h j h1 (by omega)
 ·intro h j h1 h2;exact h j h1 (by omega)
end Go.Abs
namespace Go.Abs
def aR {a a' b b':D}(h1:a=a')(h2:b=b'):D.tup [a,b]=D.tup [a',b']:=by rw[h1,h2]
def kp {a a' b b' c c':D}(h1:a=a')(h2:b=b')(h3:c=c'):D.tup [a,b,c]=D.tup [a',b',c']:=by rw[h1,h2,h3]
end Go.Abs
namespace Go.Abs
end Go.Abs
namespace Go.Abs
def pH (s:ah)(pos:Nat)(h:pos<s.length):∃c w,qC s pos=(c,w)∧1≤w∧((w=1∧(c:Int)=at8 s pos∧c<128)∨(128≤c∧128≤at8 s pos)):=by
 refine⟨(qC s pos).1,(qC s pos).2,rfl, ?_⟩;have e:qC s pos=Lib.decodeN (s.length-pos) (s.getD pos 0).toNat (s.getD (pos+1) 0).toNat (s.getD (pos+2) 0).toNat (s.getD (pos+3) 0).toNat:=Lib.decode_N ⟨⟨s⟩⟩ pos;rw[e];unfold at8;generalize (s.getD pos 0).toNat=b0;generalize (s.getD (pos+1) 0).toNat=b1;generalize (s.getD (pos+2) 0).toNat=b2;generalize (s.getD (pos+3) 0).toNat=b3;generalize s.length-pos=n;by_cases hb:b0<128
 ·unfold Lib.decodeN;rw[if_pos hb];exact⟨Nat.le_refl _,.inl ⟨rfl,rfl,hb⟩⟩
 ·unfold Lib.decodeN;rw[if_neg hb];have h2:(128:Int)≤(b0:Int):=by omega
  repeat' split
  all_goals exact⟨by omega,.inr ⟨by simp only;omega,h2⟩⟩
end Go.Abs
namespace Go.Abs
def tj {α:Type}{q:α→D}{xs:List α}{m:List (Nat×aV)}{l:Nat}(hq:∀x,xV m [.a] (q x)=q x)(hl:look m l=some (.buf 1 (xs.map q))):xV m [.sl 1 [.a]] (.own l 1 0 xs.length)=.sl 1 (xs.map q):=by
 show D.sl 1 _=_;simp only[aD,hl,List.drop_zero,aJ,List.map_map];congr 1;apply List.map_congr_left;intro x _;have:=hq x;simp only[Function.comp];generalize q x=d at this;cases d<;>exact this
def qh {α:Type}{q:α→D}{xs:List α}{m:List (Nat×aV)}{l:Nat}(hq:∀x,Hg m [.a] (q x))(hl:look m l=some (.buf 1 (xs.map q))):Hg m [.sl 1 [.a]] (.own l 1 0 xs.length):=by
 simp only[Hg,JN,JM];refine⟨by simp[dE,hl], ?_⟩;simp only[aD,hl,List.drop_zero,aJ];intro e he;obtain⟨x,_,rfl⟩:=List.mem_map.1 he;have:=hq x;generalize q x=d at this;cases d<;>exact this
end Go.Abs
end
namespace Go.Abs
def eM (c:Int):Bool:=decide (97≤c)&&decide (c≤122)
def aG (c:Int):Bool:=decide (48≤c)&&decide (c≤57)
def vD (c:Int):Bool:=eM c ||aG c ||decide (c=95)
def bF (s:ah):Bool:=decide (1≤s.length)&&decide (s.length≤12)&&cn (fun i=>vD (at8 s i)) 0 s.length
def nch (s:ah)(i:Nat):Bool:=(eM (at8 s i) ||aG (at8 s i) ||decide (at8 s i=45))&& !(decide (at8 s i=45)&&decide (at8 s (i-1)=45))
def ed (s:ah):Bool:=decide (1≤s.length)&&decide (s.length≤16)&&eM (at8 s 0)&& !decide (at8 s (s.length-1)=45)&&cn (nch s) 1 s.length
def kE (s:ah)(i:Nat):Bool:=eM (at8 s i) ||(aG (at8 s i)&& !decide (i=0)) ||(decide (at8 s i=45)&& !decide (i=0)&& !decide (i=s.length-1)&& !decide (at8 s (i-1)=45))
def Iq (s:ah)(h1:1≤s.length)(h2:s.length≤16):ed s=cn (kE s) 0 s.length:=by
 rw[Bool.eq_iff_iff];simp only[ed,decide_eq_true h1,decide_eq_true h2,Bool.true_and,Bool.and_eq_true,Bool.not_eq_true',decide_eq_false_iff_not,dh];constructor
 ·rintro⟨⟨h3,h4⟩,h5⟩ j _ hj;rcases Nat.eq_zero_or_pos j with rfl|hp
  ·simp[kE,h3]
  ·have:=h5 j hp hj;simp only[nch,Bool.and_eq_true,Bool.or_eq_true,Bool.not_eq_true',Bool.and_eq_false_iff,decide_eq_true_eq,decide_eq_false_iff_not]at this;simp only[kE,Bool.and_eq_true,Bool.or_eq_true,Bool.not_eq_true',decide_eq_true_eq,decide_eq_false_iff_not];rcases this with⟨(h6|h6)|h6,h7⟩
   ·exact Or.inl (Or.inl h6)
   ·exact Or.inl (Or.inr ⟨h6,by omega⟩)
   ·refine Or.inr ⟨⟨⟨h6,by omega⟩, ?_⟩, ?_⟩
    ·rintro rfl;exact h4 h6
    ·rcases h7 with h7|h7
     ·exact absurd h6 h7
     ·exact h7
 ·intro h;have h0:=h 0 (by omega) (by omega);have hlow:eM (at8 s 0)=true:=by simpa[kE]using h0
  refine⟨⟨hlow, ?_⟩,fun j hj1 hj2=>?_⟩
  ·intro he;have hl:=h (s.length-1) (by omega) (by omega);rcases Nat.eq_or_lt_of_le h1 with e|e
   ·rw[←e]at he;simp only[Nat.sub_self]at he;simp only[eM,Bool.and_eq_true,decide_eq_true_eq]at hlow;omega
   ·simp only[kE,he,eM,aG]at hl;simp at hl
  ·have:=h j (by omega) hj2;simp only[kE,Bool.and_eq_true,Bool.or_eq_true,Bool.not_eq_true',decide_eq_true_eq,decide_eq_false_iff_not]at this;simp only[nch,Bool.and_eq_true,Bool.or_eq_true,Bool.not_eq_true',Bool.and_eq_false_iff,decide_eq_true_eq,decide_eq_false_iff_not];rcases this with(h6|h6)|h6
   ·refine⟨Or.inl (Or.inl h6),Or.inl ?_⟩;simp only[eM,Bool.and_eq_true,decide_eq_true_eq]at h6;omega
   ·refine⟨Or.inl (Or.inr h6.1),Or.inl ?_⟩;have:=h6.1;simp only[aG,Bool.and_eq_true,decide_eq_true_eq]at this;omega
   ·exact⟨Or.inr h6.1.1.1,Or.inr h6.2⟩
def cl (s:ah):Nat:=s.foldl (fun n b=>n*10+(b.toNat-48)) 0
def dN (s:ah):Bool:=decide (1≤s.length)&&decide (s.length≤9)&& !(decide (1<s.length)&&decide (at8 s 0=48))&&cn (fun i=>aG (at8 s i)) 0 s.length&&decide (cl s≤9999)
def cX (s:ah):Int:=if dN s=true then(cl s:Int)else 0
def qe (s:ah)(i:Nat)(h:i<s.length):s.take (i+1)=s.take i++[s.getD i 0]:=by
 rw[List.take_succ];simp[h]
def rU (s:ah)(i:Nat)(h:i<s.length):cl (s.take (i+1))=cl (s.take i)*10+((at8 s i).toNat-48):=by
 rw[qe s i h];simp[cl,List.foldl_append,at8]
def DQ (s:ah):cl s+23≤23*10^s.length:=by
 have:∀(s:ah) (n k:Nat),n+23≤23*10^k→s.foldl (fun n b=>n*10+(b.toNat-48)) n+23≤23*10^(k+s.length):=by
  intro s;induction s with
  |nil=>intro n k h;simpa using h
  |cons b r ih=>
   intro n k h;have hb:=b.toNat_lt;have:=ih (n*10+(b.toNat-48)) (k+1) (by rw[Nat.pow_succ];omega);simp only[List.foldl_cons,List.length_cons];rw[show k+(r.length+1)=k+1+r.length by omega];exact this
 have:=this s 0 0 (by simp);simpa[cl]using this
def p0 (s:ah)(i:Nat)(h:i≤9):cl (s.take i)≤23000000000:=by
 have h1:=DQ (s.take i);have h2:(s.take i).length≤9:=by simp;omega
 have h3:10^(s.take i).length≤10^9:=Nat.pow_le_pow_right (by omega) h2;omega
def zm (s:ah):∀n:Nat,s.foldl (fun n b=>n*10+(b.toNat-48)) n=n*10^s.length+cl s:=by
 unfold cl;induction s with
 |nil=>intro n;simp
 |cons b r ih=>
  intro n;simp only[List.foldl_cons,List.length_cons];rw[ih,ih (0*10+(b.toNat-48)),Nat.pow_succ];simp only[Nat.zero_mul,Nat.zero_add,Nat.add_mul];rw[Nat.mul_assoc n 10,Nat.mul_comm 10];omega
def rT (b:UInt8)(r:ah):cl (b::r)=(b.toNat-48)*10^r.length+cl r:=by
 have:=zm r (0*10+(b.toNat-48));simp only[cl,List.foldl_cons]at this⊢;rw[this];simp
def rI {b:UInt8}{r:ah}(h:cn (fun i=>aG (at8 (b::r) i)) 0 (b::r).length=true):aG b.toNat=true∧cn (fun i=>aG (at8 r i)) 0 r.length=true:=by
 rw[dh]at h;refine⟨by simpa[at8]using h 0 (by omega) (by simp), ?_⟩;rw[dh];intro j _ hj;simpa[at8]using h (j+1) (by omega) (by simp;omega)
def wv:∀(s:ah),cn (fun i=>aG (at8 s i)) 0 s.length=true→cl s<10^s.length
 |[],_=>by simp[cl]
 |b::r,h=>by
  obtain⟨h1,h2⟩:=rI h;have:=wv r h2;rw[rT,List.length_cons,Nat.pow_succ];simp only[aG,Bool.and_eq_true,decide_eq_true_eq]at h1;have h3:b.toNat-48≤9:=by omega
  have:=Nat.mul_le_mul_right (10^r.length) h3;omega
def DP {b:UInt8}{r:ah}(h:49≤b.toNat):10^r.length≤cl (b::r):=by
 rw[rT];have:=Nat.mul_le_mul_right (10^r.length) (show 1≤b.toNat-48 by omega);omega
def xN (s:ah):dN s=(decide (1≤s.length)&&decide (s.length≤4)&& !(decide (1<s.length)&&decide (at8 s 0=48))&&cn (fun i=>aG (at8 s i)) 0 s.length):=by
 unfold dN;cases hd:cn (fun i=>aG (at8 s i)) 0 s.length with
 |false=>simp
 |true=>
  have hlt:=wv s hd;by_cases h4:s.length≤4
  ·have:10^s.length≤10^4:=Nat.pow_le_pow_right (by omega) h4;rw[decide_eq_true h4,decide_eq_true (by omega:s.length≤9),decide_eq_true (by omega:cl s≤9999)];simp
  ·rw[decide_eq_false h4]
   match s,hd,h4 with
   |b::r,hd,h4=>
    by_cases h0:at8 (b::r) 0=48
    ·rw[decide_eq_true h0,decide_eq_true (by omega:1<(b::r).length)];simp
    ·have h1:=(rI hd).1;simp only[aG,Bool.and_eq_true,decide_eq_true_eq]at h1;have h2:49≤b.toNat:=by
      simp[at8]at h0;omega
     have h3:=DP (r:=r) h2;have:10^4≤10^r.length:=Nat.pow_le_pow_right (by omega) (by simp at h4;omega);rw[decide_eq_false (by omega:¬cl (b::r)≤9999)];simp
def dg (n:Nat):UInt8:=UInt8.ofNat (48+n)
def xr:Nat→Nat→ah
 |0,n=>[dg n]
 |f+1,n=>if n<10 then [dg n]else xr f (n/10)++[dg (n%10)]
def bQ (n:Nat):ah:=xr n n
def BO:∀(f g n:Nat),n≤f→n≤g→xr f n=xr g n
 |0,0,n,_,_=>rfl
 |0,g+1,n,h,_=>by
  obtain rfl:n=0:=by omega
  simp[xr]
 |f+1,0,n,_,h=>by
  obtain rfl:n=0:=by omega
  simp[xr]
 |f+1,g+1,n,h1,h2=>by
  simp only[xr];split
  ·rfl
  ·rw[BO f g (n/10) (by omega) (by omega)]
def jz {n:Nat}(h:n<10):bQ n=[dg n]:=by
 unfold bQ;cases n<;>simp[xr,h]
def ke {n:Nat}(h:9<n):bQ n=bQ (n/10)++[dg (n%10)]:=by
 unfold bQ;obtain⟨k,rfl⟩:∃k,n=k+1:=⟨n-1,by omega⟩
 simp only[xr];rw[if_neg (by omega),BO k ((k+1) /10) _ (by omega) (by omega)]
def dF:∀(k n:Nat),n<10^k→0<k→(bQ n).length≤k:=by
 intro k;induction k with
 |zero=>intro n _ h;omega
 |succ k ih=>
  intro n h _;by_cases h10:n<10
  ·rw[jz h10];simp
  ·rw[ke (by omega)];have hk:0<k:=by
    rcases Nat.eq_zero_or_pos k with rfl|h0
    ·simp at h;omega
    ·exact h0
   have:=ih (n/10) (by rw[Nat.pow_succ]at h;omega) hk;simp;omega
def vR {n:Nat}(h:n<10):((dg n).toNat:Int)=48+n:=by
 have:(48+n)%256=48+n:=Nat.mod_eq_of_lt (by omega);simp[dg,this]
def bd (b:Int):ah→ah→List ah
 |[],cur=>[cur]
 |c::r,cur=>if(c.toNat:Int)=b then cur::bd b r []else bd b r (cur++[c])
def ai (s:ah)(b:Int):List ah:=bd b s []
def nI (s:ah)(i:Nat)(h:i<s.length):s.drop i=s.getD i 0::s.drop (i+1):=by
 rw[List.drop_eq_getElem_cons h];simp[h]
def wI {s:ah}{b:Int}{i fr:Nat}(h:i<s.length)(he:at8 s i=b):bd b (s.drop i) ((s.take i).drop fr)=((s.take i).drop fr)::bd b (s.drop (i+1)) ((s.take (i+1)).drop (i+1)):=by
 rw[nI s i h];have h2:(s.take (i+1)).drop (i+1)=[]:=by simp
 rw[h2];simp only[bd];rw[if_pos (by simpa[at8]using he)]
def wJ {s:ah}{b:Int}{i fr:Nat}(h:i<s.length)(hf:fr≤i)(he:¬at8 s i=b):bd b (s.drop i) ((s.take i).drop fr)=bd b (s.drop (i+1)) ((s.take (i+1)).drop fr):=by
 rw[nI s i h,qe s i h,List.drop_append_of_le_length (by simp;omega)];simp only[bd];rw[if_neg (by simpa[at8]using he)]
def uN {s:ah}{b:Int}{i fr:Nat}(h:s.length≤i):bd b (s.drop i) ((s.take i).drop fr)=[s.drop fr]:=by
 rw[List.drop_eq_nil_of_le h,List.take_of_length_le h];rfl
def pc (b:Int):∀(s cur:ah),(bd b s cur).length≤s.length+1
 |[],cur=>by simp[bd]
 |c::r,cur=>by
  simp only[bd];split
  ·have:=pc b r [];simp;omega
  ·have:=pc b r (cur++[c]);simp;omega
def cQ (s:ah)(b:Int):(ai s b).length≤s.length+1:=pc b s []
def eQ (b:Int)(s cur:ah):1≤(bd b s cur).length:=by
 induction s generalizing cur with
 |nil=>simp[bd]
 |cons c r ih=>
  simp only[bd];split
  ·simp
  ·exact ih _
def fI (s:ah)(b:Int)(i:Nat):ah×ah:=match(s.drop i).findIdx? (fun c=>decide ((c.toNat:Int)=b))with
 |some k=>(s.drop (i+k+1),s.take (i+k))
 |none=>([],s)
def cI (s:ah)(b:Int):ah×ah:=fI s b 0
def Aw {s:ah}{b:Int}{i:Nat}(h:i<s.length)(he:at8 s i=b):fI s b i=(s.drop (i+1),s.take i):=by
 unfold fI;rw[nI s i h,List.findIdx?_cons];simp only[at8]at he;rw[if_pos (by simpa using he)];rfl
def Ax {s:ah}{b:Int}{i:Nat}(h:i<s.length)(he:¬at8 s i=b):fI s b i=fI s b (i+1):=by
 unfold fI;rw[nI s i h,List.findIdx?_cons];simp only[at8]at he;simp only[he,decide_false,Bool.false_eq_true,if_false];cases(s.drop (i+1)).findIdx? (fun c=>decide ((c.toNat:Int)=b))with
 |none=>rfl
 |some k=>simp only[Option.map_some];rw[show i+(k+1)=i+1+k by omega]
def yF {s:ah}{b:Int}{i:Nat}(h:s.length≤i):fI s b i=([],s):=by
 unfold fI;rw[List.drop_eq_nil_of_le h];rfl
def jF (c:Int):Bool:=eM c ||aG c ||decide (c=45)
def mr (t:ah):Bool:=decide (1≤t.length)&&decide (t.length≤8)&&cn (fun i=>jF (at8 t i)) 0 t.length
def dp (t:ah):Bool:=cn (fun i=>aG (at8 t i)) 0 t.length&&decide (0<t.length)
def ey (p:Bool)(t:ah):Bool:=mr t&& !(p&&dp t&& !dN t)
def ju (s:ah)(p:Bool):Bool:=decide ((ai s 46).length≤4)&&cn (fun i=>ey p (ai s 46)[i]!) 0 (ai s 46).length
def mb (s:ah)(p:Bool):Bool:=decide (s=[]) ||ju s p
def pN (n:Int):Bool:=decide (0≤n)&&decide (n≤9999)
def en (v:dt):Bool:=pN v.major&&pN v.minor&&pN v.patch&&mb v.pre true&&mb v.build false
def sF (v:dt):ah:=bQ v.major.toNat++[46]++bQ v.minor.toNat++[46]++bQ v.patch.toNat++(if v.pre=[]then []else 45::v.pre)++(if v.build=[]then []else 43::v.build)
def iZ (v:dt):ah:=if en v=true then sF v else []
def dt.sm (v:dt):Prop:=v.pre.length≤1048576∧v.build.length≤1048576
def Env.at (e:Env):Nat→ah
 |0=>e.e0
 |1=>e.e1
 |_=>e.e2
def Env.ld (e:Env){i:Nat}(h:i<3):mi (Env.D e) 3 1 (0+i*1) false=.str (e.at i):=by
 match i,h with
 |0,_=>rfl
 |1,_=>rfl
 |2,_=>rfl
def yi.ld (l:yi){i:Nat}(h:i<3):mi (yi.D l) 4 1 (0+i*1) false=.str (l.env.at i):=by
 match i,h with
 |0,_=>rfl
 |1,_=>rfl
 |2,_=>rfl
def Env.cut (e:Env){i:Nat}(h:i<3):Abs.cut [.str e.e0,.str e.e1,.str e.e2] (i*1) 1 false=.str (e.at i):=by
 match i,h with
 |0,_=>rfl
 |1,_=>rfl
 |2,_=>rfl
def qn.sm (x:qn):Prop:=x.v.sm∧x.name.length≤1048576∧x.shelf.length≤1048576∧x.feats.length≤1048576∧∀t∈x.feats,t.length≤1048576
def yi.sm (l:yi):Prop:=l.lines.length≤1048576∧(∀x∈l.lines,x.sm)∧∀i,(l.env.at i).length≤1048576
def bJ {α:Type} [Inhabited α]{l:List α}{i:Nat}(h:i<l.length):l[i]! ∈l:=by
 simp[h]
structure Kp where
 name:ah
 v:dt
 deriving Inhabited,DecidableEq
def Kp.D (x:Kp):D:=.agg [.str x.name,.int .i64 x.v.major,.int .i64 x.v.minor,.int .i64 x.v.patch,.str x.v.pre,.str x.v.build]
def GO {α:Type} [Inhabited α] [DecidableEq α]{a b:List α}(h:a.length=b.length):decide (a=b)=cn (fun i=>decide (a[i]! =b[i]!)) 0 a.length:=by
 rw[Bool.eq_iff_iff,decide_eq_true_eq,dh];constructor
 ·rintro rfl j _ _;simp
 ·intro hj;apply List.ext_getElem h;intro i h1 h2;have:=hj i (by omega) h1;simpa[h1,h2]using this
def qn.same {a b:qn}(e1:a.name=b.name)(e2:a.v=b.v)(e3:a.shelf=b.shelf)(e4:a.sum=b.sum)(e5:a.feats.length=b.feats.length):decide (a=b)=cn (fun i=>decide (a.feats[i]! =b.feats[i]!)) 0 a.feats.length:=by
 rw[←GO e5];obtain⟨a1,a2,a3,a4,a5⟩:=a;obtain⟨b1,b2,b3,b4,b5⟩:=b;simp only at e1 e2 e3 e4;subst e1;subst e2;subst e3;subst e4;simp
def aF (b:ah):List ah→ah
 |[]=>[]
 |[t]=>t
 |t::u::r=>t++b++aF b (u::r)
def dJ (b t:ah)(r:List ah)(h:r≠[]):aF b (t::r)=t++b++aF b r:=by
 cases r with
 |nil=>exact absurd rfl h
 |cons u r=>rfl
def mP {α:Type}(q:α→ah)(B:Nat):∀l:List α,(∀x∈l,(q x).length≤B)→((l.map q).flatten).length≤l.length*B
 |[],_=>by simp
 |a::r,h=>by
  have h1:=h a (.head _);have h2:=mP q B r fun x hx=>h x (.tail _ hx)
  simp only[List.map_cons,List.flatten_cons,List.length_append,List.length_cons,Nat.succ_mul];omega
def zX (v:dt)(h:v.sm):(iZ v).length≤2097200:=by
 unfold iZ;split
 ·rename_i hv;simp only[en,Bool.and_eq_true]at hv;obtain⟨⟨⟨⟨hv1,hv2⟩,hv3⟩,_⟩,_⟩:=hv;simp only[pN,Bool.and_eq_true,decide_eq_true_eq]at hv1 hv2 hv3;have hl1:=dF 4 v.major.toNat (by omega) (by omega);have hl2:=dF 4 v.minor.toNat (by omega) (by omega);have hl3:=dF 4 v.patch.toNat (by omega) (by omega);obtain⟨h1,h2⟩:=h;unfold sF;split<;>split<;>simp<;>omega
 ·simp
def Env.sm (e:Env):Prop:=∀i,(e.at i).length≤1048576
end Go.Abs
section
namespace Go.Abs
def K9 (v n:Int):Int:=if n<1 then 0 else if v.tmod n<0 then v.tmod n+n else v.tmod n
def Bv (v n:Int)(h:1≤n):-n<v.tmod n∧v.tmod n<n:=⟨Int.lt_tmod_of_pos v (by omega),Int.tmod_lt_of_pos v (by omega)⟩
def atI (l:List Int)(i:Int):Int:=if i<0∨(l.length:Int)≤i then i.tmod 3 else l[i.toNat]!
structure Gs where
 l:List Int
 i:Int
 deriving Inhabited
def Gs.D (g:Gs):D:=.agg [.sl 1 (g.l.map (D.int .i64)),.int .i64 g.i]
def Gs.val (g:Gs)(n:Int):Int:=K9 (atI g.l g.i) n
def Gs.ve (g:Gs):Gs:=⟨g.l,g.i+1⟩
def ea (s:ah)(b:UInt8):ah×ah×Bool:=match s.findIdx? (fun c=>c==b)with
 |some k=>(s.take k,s.drop (k+1),true)
 |none=>(s,[],false)
def cZ (s p:ah):ah×Bool:=if p.isPrefixOf s=true then(s.drop p.length,true)else(s,false)
def EW (s:ah)(b:UInt8):(ea s b).1.length≤s.length∧((ea s b).2.2=true→(ea s b).1.length+1≤s.length):=by
 unfold ea;split
 ·rename_i k h;have:=List.findIdx?_eq_some_iff_findIdx_eq.1 h;simp only[List.length_take];omega
 ·simp
structure Jm where
 s:ah
 at':Nat
 n:Nat
def Jm.D (r:Jm):D:=.agg [.str r.s,.int .i64 (r.at':Nat),.int .i64 (r.n:Nat)]
def Jm.ln (r:Jm):ah×ah×Bool:=ea (r.s.drop r.at') 10
def Jm.ve (r:Jm):Jm:=⟨r.s,if r.ln.2.2=true then r.at'+(r.ln.1.length+1)else r.at',r.n+1⟩
def jo:dt:=⟨0,0,0,[],[]⟩
def kJ (s:ah):Option dt:=
 let a:=cI s 43
 let b:=cI a.2 45
 let l:=ai b.2 46
 if l.length=3∧dN l[0]! =true∧dN l[1]! =true∧dN l[2]! =true then
  let v:dt:=⟨cX l[0]!,cX l[1]!,cX l[2]!,b.1,a.1⟩
  if en v=true∧iZ v=s then some v else none
 else none
def Ip (l:List ah)(i:Nat):D:=.agg [.int .i64 (if 0<i then cX l[0]! else 0),.int .i64 (if 1<i then cX l[1]! else 0),.int .i64 (if 2<i then cX l[2]! else 0)]
def FG (l:List ah)(i:Nat)(h:i<3):uO (Ip l i) 3 1 (0+i*1) (.int .i64 (cX l[i]!))=Ip l (i+1):=by
 match i,h with
 |0,_=>rfl
 |1,_=>rfl
 |2,_=>rfl
def kd (s:ah)(b:Int):(cI s b).1.length≤s.length∧(cI s b).2.length≤s.length:=by
 unfold cI fI;split
 ·simp;omega
 ·simp
def pd (b:Int):∀(s cur:ah),∀t∈bd b s cur,t.length≤cur.length+s.length
 |[],cur,t,h=>by simp only[bd,List.mem_singleton]at h;subst h;simp
 |c::r,cur,t,h=>by
  simp only[bd]at h;split at h
  ·rcases List.mem_cons.1 h with rfl|h
   ·simp
   ·have:=pd b r [] t h;simp at this⊢;omega
  ·have:=pd b r (cur++[c]) t h;simp at this⊢;omega
def dq (s:ah)(b:Int){t:ah}(h:t∈ai s b):t.length≤s.length:=by
 have:=pd b s [] t h;simpa using this
def Bs (s:ah)(b:Int){i:Nat}(h:i<(ai s b).length):((ai s b)[i]!).length≤s.length:=dq s b (bJ h)
end Go.Abs
namespace Go.Abs
def uV (s:ah):Int:=if(kJ s).isSome=true then 0 else 5
end Go.Abs
namespace Go.Abs
end Go.Abs
namespace Go.Abs
def I6 {s:ah}(h:s.length≤1048576):((kJ s).getD jo).sm:=by
 have h0:jo.sm:=⟨by simp[jo],by simp[jo]⟩;cases hq:kJ s with
 |none=>exact h0
 |some v=>
  simp only[Option.getD_some];simp only[kJ]at hq;split at hq
  ·split at hq
   ·obtain rfl:=Option.some.inj hq;have h1:=kd s 43;have h2:=kd (cI s 43).2 45;exact⟨by simp only;omega,by simp only;omega⟩
   ·cases hq
  ·cases hq
end Go.Abs
namespace Go.Abs
def AH (s p:ah):(cZ s p).1.length≤s.length:=by
 unfold cZ;split<;>simp
end Go.Abs
namespace Go.Abs
variable {e:Env} {f:Nat} {r:Jm} {ls:List qn}
end Go.Abs
namespace Go.Abs
end Go.Abs
end
section
namespace Go.Abs
section
variable {Γ:Ctx} {draw:Bool} {r:List GI} {env rs:List aW} {nx:Nat} {m:List (Nat×aV)} {K:List aW→St→Prop} {g:Option (Nat×Bool)} {f:Bool}
def cq {n:Nat}{args:List Src}{VM:List D}{v:D}{nx':Nat}{m':List (Nat×aV)}(h:au Γ draw r env (⟨true,v⟩::rs) nx' m' K)
  (hc:∀K':D→St→Prop,K' v ⟨nx'+rs.length,m'⟩→Γ.tr n VM ⟨nx+rs.length,m⟩ K') (hn:nx≤nx') (ha:fm (bE env rs) args=VM:=by exact rfl)
  (ho:uu (bE env rs) args:=by repeat' first|exact trivial|exact rfl|refine And.intro ?_ ?_):au Γ draw (⟨.callM n args,none⟩::r) env rs nx m K:=by
 unfold au;show True∧(true=true→uu (Src.ev env rs.reverse) args∧Γ.tr n (fm (Src.ev env rs.reverse) args) {nx:=nx+rs.reverse.length,m:=m} _)∧(true=false→_);rw[kf,List.length_reverse,ha];refine⟨trivial,fun _=>⟨ho,hc _ ⟨by show nx+rs.length≤nx'+rs.length;omega, ?_⟩⟩,fun h=>by cases h⟩;unfold au at h;rw[List.reverse_cons]at h;have e:nx'+rs.length-rs.length=nx':=by omega
 simp only[e];exact h
def Lv {l k i0 n:Nat}{x y z:Src}{fx fy fz:Bool}{kh km:IntKind}{h' m':Int}(j:Nat)(h:au Γ draw r env (⟨f,.own l k i0 j⟩::rs) nx m K)(hg:GF rs g f:=by exact bZ)(hx:bE env rs x=⟨fx,.own l k i0 n⟩:=by exact rfl)(hy:bE env rs y=⟨fy,.int kh h'⟩:=by exact rfl)(hz:bE env rs z=⟨fz,.int km m'⟩:=by exact rfl)
  (kx:f=true→fx=true:=by exact bm) (ky:f=true→fy=true:=by exact bm) (kz:f=true→fz=true:=by exact bm)
  (hj:f=true→h'=(j:Int)) (hb:f=true→(j:Int)≤m'∧m'≤(n:Int)):au Γ draw (⟨.slX k x y z,g⟩::r) env rs nx m K:=
 a8 rfl hg _ (fun hf=>by have h1:=hj hf;have h2:=hb hf;simp only[aw.cE,hx,hy,hz];exact⟨kx hf,ky hf,kz hf,by omega,by omega,trivial,h2.2⟩) (fun hf=>by simp only[aw.val,hx,hy];rw[hj hf,Int.toNat_natCast]) (fun _=>h)
def lg {n:Nat}{args:List Src}{VM:List D}{ι:Type}(P:ι→Prop)(V:ι→D)(nx':Nat)(M:ι→List (Nat×aV))(h:∀i,P i→au Γ draw r env (⟨true,V i⟩::rs) nx' (M i) K)
  (hc:∀K':D→St→Prop,(∀i,P i→K' (V i) ⟨nx'+rs.length,M i⟩)→Γ.tr n VM ⟨nx+rs.length,m⟩ K') (hn:nx≤nx') (ha:fm (bE env rs) args=VM:=by exact rfl)
  (ho:uu (bE env rs) args:=by repeat' first|exact trivial|exact rfl|refine And.intro ?_ ?_):au Γ draw (⟨.callM n args,none⟩::r) env rs nx m K:=by
 unfold au;show True∧(true=true→uu (Src.ev env rs.reverse) args∧Γ.tr n (fm (Src.ev env rs.reverse) args) {nx:=nx+rs.reverse.length,m:=m} _)∧(true=false→_);rw[kf,List.length_reverse,ha];refine⟨trivial,fun _=>⟨ho,hc _ fun i hi=>⟨by show nx+rs.length≤nx'+rs.length;omega, ?_⟩⟩,fun h=>by cases h⟩;have h:=h i hi;unfold au at h;rw[List.reverse_cons]at h;have e:nx'+rs.length-rs.length=nx':=by omega
 simp only[e];exact h
def jK {n:Nat}{x:Src}{caps:List D}{args:List Src}{VM:List D}{ι:Type}(P:ι→Prop)(V:ι→D)(nx':Nat)(M:ι→List (Nat×aV))(h:∀i,P i→au Γ draw r env (⟨true,V i⟩::rs) nx' (M i) K)
  (hc:∀K':D→St→Prop,(∀i,P i→K' (V i) ⟨nx'+rs.length,M i⟩)→Γ.tr (xl n) VM ⟨nx+rs.length,m⟩ K') (hn:nx≤nx') (hx:bE env rs x=⟨true,.fn n caps⟩:=by exact rfl) (ha:vj n (fm (bE env rs) args) caps=VM:=by exact rfl)
  (ho:uu (bE env rs) args:=by repeat' first|exact trivial|exact rfl|refine And.intro ?_ ?_):au Γ draw (⟨.callvM x args,none⟩::r) env rs nx m K:=by
 unfold au;show Fg rs.reverse (.callvM x args) none∧(Src.ev env rs.reverse x).ok=true∧uu (Src.ev env rs.reverse) args∧match(Src.ev env rs.reverse x).d with
   | .fn n caps=>Γ.tr (xl n) (vj n (fm (Src.ev env rs.reverse) args) caps) {nx:=nx+rs.reverse.length,m:=m} _
   |_=>False
 rw[kf,List.length_reverse];simp only[hx,ha];refine⟨trivial,trivial,ho,hc _ fun i hi=>⟨by show nx+rs.length≤nx'+rs.length;omega, ?_⟩⟩;have h:=h i hi;unfold au at h;rw[List.reverse_cons]at h;have e:nx'+rs.length-rs.length=nx':=by omega
 simp only[e];exact h
def Gx {x:Src}{fx:Bool}{α:Type} [Inhabited α]{n k i o:Nat}{ag:Bool}{q:α→D}{xs:List α}(v:D)(h:au Γ draw r env (⟨f,v⟩::rs) nx m K)(hg:GF rs g f:=by exact bZ)(hx:bE env rs x=⟨fx,.ref k (xs.map q) i o⟩:=by exact rfl)(kx:f=true→fx=true:=by exact bm)(hi:f=true→i<xs.length:=by exact qi)(hv:f=true→mi (q xs[i]!) k n o ag=v:=by exact fun _=>rfl)(ho:o+n≤k:=by omega):au Γ draw (⟨.ldU n ag x,g⟩::r) env rs nx m K:=
 eO rfl hg _ (fun hf=>by simp only[aw.cE,hx,Al,List.length_map];exact⟨kx hf,hi hf,ho⟩) (fun hf=>by simp only[aw.val,hx,zd];rw[getD_map (hi hf)];exact hv hf) m rfl (fun ha=>h)
def Gw {x:Src}{fx:Bool}{n l k o:Nat}{ag:Bool}{d:D}(v:D)(h:au Γ draw r env (⟨f,v⟩::rs) nx m K)(hg:GF rs g f:=by exact bZ)(hx:bE env rs x=⟨fx,.ptr l k 0 o⟩:=by exact rfl)(kx:f=true→fx=true:=by exact bm)(hl:f=true→look m l=some (.buf k [d]):=by exact fun _=>rfl)(hv:f=true→mi d k n o ag=v:=by exact fun _=>rfl)(ho:o+n≤k:=by omega)(hd:f=true→d.aK=false:=by exact fun _=>rfl):au Γ draw (⟨.ldU n ag x,g⟩::r) env rs nx m K:=
 eO rfl hg _ (fun hf=>by simp only[aw.cE,hx,Al,dE,hl hf];exact⟨kx hf,⟨⟨trivial,by simp⟩,ho⟩,by simp only[aD,hl hf,aH,hd hf];rfl⟩) (fun hf=>by simp only[aw.val,hx,zd,aD,hl hf,List.getD_cons_zero];exact hv hf) m rfl (fun ha=>h)
end
end Go.Abs
end
section
namespace Go.Abs
def KW:List ah→D
 |[]=>.av
 |a::r=>.sl 1 ((a::r).map D.str)
def wu:∀l,(KW l).aK=true
 |[]=>rfl
 |a::r=>rfl
def qn.N (x:qn):Go.Abs.D:=.agg [.str x.name,.int .i64 x.v.major,.int .i64 x.v.minor,.int .i64 x.v.patch,.str x.v.pre,.str x.v.build,.str x.shelf,.int .u64 x.sum,KW x.feats]
def qn.lz (x:qn):x.N.aK=true:=by
 have:=wu x.feats;simp only[qn.N,D.aK,aH,this,Bool.and_true]
end Go.Abs
namespace Go.Abs
def qn.F (name:ah)(v:dt)(shelf:ah)(sum:Int)(fs:Go.Abs.D):Go.Abs.D:=.agg [.str name,.int .i64 v.major,.int .i64 v.minor,.int .i64 v.patch,.str v.pre,.str v.build,.str shelf,.int .u64 sum,fs]
mutual
theorem KF (l k:Nat)(es:List D):∀d:D,d.aK=true→gU l k es d=d
 | .agg a,h=>by simp only[gU,tP l k es a (by simpa[D.aK]using h)]
 | .tup a,h=>by simp only[gU,tP l k es a (by simpa[D.aK]using h)]
 | .fn n a,h=>by simp only[gU,tP l k es a (by simpa[D.aK]using h)]
 | .own ..,h=>by simp[D.aK]at h
 | .ptr ..,h=>by simp[D.aK]at h
 | .it ..,h=>by simp[D.aK]at h
 | .any,_| .bool _,_| .int ..,_| .str _,_| .av,_| .sl ..,_| .ref ..,_| .nilp,_| .nilf,_=>rfl
theorem tP (l k:Nat)(es:List D):∀ds:List D,aH ds=true→kK l k es ds=ds
 |[],_=>rfl
 |d::r,h=>by
  simp only[aH,Bool.and_eq_true]at h;simp only[kK,KF l k es d h.1,tP l k es r h.2]
end
end Go.Abs
namespace Go.Abs
end Go.Abs
namespace Go.Abs
end Go.Abs
namespace Go.Abs
end Go.Abs
namespace Go.Abs
end Go.Abs
namespace Go.Abs
end Go.Abs
end
section
namespace Go.Abs
end Go.Abs
namespace Go.Abs
def Kp.eq (a b:Kp):fE (Kp.D a).cells (Kp.D b).cells=decide (a=b):=by
 obtain⟨n1,⟨a1,a2,a3,a4,a5⟩⟩:=a;obtain⟨n2,⟨b1,b2,b3,b4,b5⟩⟩:=b;simp only[Kp.D,D.cells,fE,pK,sO,Kp.mk.injEq,dt.mk.injEq,Bool.and_true];simp only[Bool.decide_and]
structure qn.ok (n:Nat)(x:qn):Prop where
 pre:x.v.pre.length≤3
 build:x.v.build.length≤2
 name:x.name.length≤16
 shelf:x.shelf.length≤16
 nf:x.feats.length≤n
 ft:∀t∈x.feats,t.length≤16
 sum:0≤x.sum∧x.sum<18446744073709551616
structure yi.ok (n:Nat)(l:yi):Prop where
 len:l.lines.length≤4
 lines:∀x∈l.lines,x.ok n
 env:∀i,(l.env.at i).length≤16
def yi.ok.sm {n:Nat}{l:yi}(h:l.ok n)(hn:n≤1000):l.sm:=by
 refine⟨by have:=h.len;omega,fun x hx=>?_,fun i=>by have:=h.env i;omega⟩;have k:=h.lines x hx;have k1:=k.pre;have k2:=k.build;have k3:=k.name;have k4:=k.shelf;have k5:=k.nf;exact⟨⟨by omega,by omega⟩,by omega,by omega,by omega,fun t ht=>by have:=k.ft t ht;omega⟩
def qn.ok.mono {n m:Nat}{x:qn}(h:x.ok n)(hm:n≤m):x.ok m:=⟨h.pre,h.build,h.name,h.shelf,Nat.le_trans h.nf hm,h.ft,h.sum⟩
end Go.Abs
end
section
namespace Go.Abs
def lk {α:Type}:List (Nat×α)→Nat→α→α
 |[],_,d=>d
 |(a,b)::r,n,d=>bif Nat.beq a n then b else lk r n d
structure Row where
 key:Nat
 pre:List D→Prop
 val:List D→D
structure Nz where
 pre:D→List D→Prop
 val:D→List D→D
 new:D→List D→D
def Row.no:Row:=⟨0,fun _=>False,fun _=>.any⟩
def Nz.no:Nz:=⟨fun _ _=>False,fun _ _=>.any,fun _ _=>.any⟩
section
variable [bU] {P:Program} {ν:List (Nat×Nat)} {bA:List Nat} {Γ:Ctx}
end
end Go.Abs
end
