/- A part of the proofs of the statements: AbsV, LY, AbsW, AbsX, LData, LBase, LSpec1, LSpec2, LSpec3, AbsY, LSpec4, LSpec5, LAsm. -/
import Derived.IntWalk
import Derived.KernelRfl
import Derived.Lib.TrimUEq
import Derived.Test.YtpdlhpamcaocgaaGreatDoorP03
set_option linter.all false
set_option maxRecDepth 4000
section
namespace Go.Abs
variable [cz]
section
variable {P:Program} {ν:List (Nat×Nat)} {b9:List Nat} {Γ:Ctx}
def Ok.at (h:Ok P ν b9 Γ)(n:Nat):Ok P ν b9 (Γ.at n):=⟨h.small,h.bld,h.pure,h.effF,h.b9⟩
def gL {fn:Func}{af:aB}(hc:compile P ν b9 fn=some af):
  ∃body,fn.body=some body∧CC.code {P,ν,b9,slots:=slotsOf fn,ntmps:=fn.ntmps,vm:=FA P fn} body=some af.body∧rD P (slotsOf fn) fn.results.toList=some af.res∧
   fn.params.size+fn.nfree≤fn.ntmps∧af.np=fn.params.size+fn.nfree∧af.ns=(slotsOf fn).length:=by
 unfold compile at hc;split at hc
 ·rename_i body hb;split at hc
  ·rename_i a res h1 h2;split at hc
   ·rename_i h3;simp only[Option.some.injEq]at hc;subst hc;exact⟨body,hb,h1,h2,h3,rfl,rfl⟩
   ·cases hc
  ·cases hc
 ·cases hc
def sL {fn:Func}{af:aB}{x:X}{args:Array Value}{ds:List D}{st:St}(hnp:fn.params.size+fn.nfree≤fn.ntmps)(h1:af.np=fn.params.size+fn.nfree)(h2:af.ns=(slotsOf fn).length)(hl:args.size=ds.length)(hd:ds.length=af.np)
  (hargs:∀i,i<ds.length→RD ν x (args.getD i undef) (ds.getD i .any)) (hs:ey ν x (look st.m)) (hf:er st x):
  Inv {P,ν,b9,slots:=slotsOf fn,ntmps:=fn.ntmps,vm:=FA P fn} {tmps:=args++Array.replicate (fn.ntmps-args.size) undef,defers:=[]} x (ed af ds) st:=by
 obtain⟨s1,s2,s3⟩:=mr fn;refine⟨?_,fun n t hn ho=>?_,by simp;omega,rfl,hs,hf⟩
 ·simp only[ed,List.length_append,List.length_map,List.length_replicate];omega
 ·simp only at hn;simp only[ed]at ho⊢;rw[cl]at ho⊢;simp only[List.length_map]at ho⊢;by_cases h:n<ds.length
  ·rw[if_pos h];have:=s3 n (by omega);rw[this]at hn;obtain rfl:=Option.some.inj hn;have e:(ds.map fun d=>(⟨true,d⟩:bx)).getD n .un=⟨true,ds.getD n .any⟩:=by simp[List.getD,h]
   rw[e];have e2:(args++Array.replicate (fn.ntmps-args.size) undef).getD n undef=args.getD n undef:=by rw[lf,if_pos (by omega)]
   simp only;rw[e2];exact hargs n h
  ·rw[if_neg h];have:(List.replicate (af.ns-af.np) bx.un).getD (n-ds.length) .un=.un:=by
    simp only[List.getD,List.getElem?_replicate];split<;>rfl
   rw[this];exact .any _
def Ex.yZ {e:Ex}(h:e.home):Ex.of e=.normal∨Ex.of e=.ret:=by
 cases e with
 |normal=>exact .inl rfl
 |exit id=>exact h.elim
 |ret=>exact .inr rfl
def Ja {fid:Nat}{fn:Func}{af:aB}{d:D}(hΓ:Ok P ν b9 Γ)(hmix:P.follows .mixedOrders=true)(hf:P.funcs[fid]? =some fn)(hc:compile P ν b9 fn=some af)
  {x:X} {args:Array Value} {ds:List D} (hl:args.size=ds.length) (hargs:∀i,i<ds.length→RD ν x (args.getD i undef) (ds.getD i .any)) (hnl:aT ds=true) (himm:∀b,x.I b→b<x.w.heap.size) (hgd:cz.gd x)
  (hnp:ds.length=af.np) (hw:bz (Γ.at 0) af.body (fun e env st=>e.home∧nX st.m env af.res∧D7 af env st∧JS af env st=d) (ed af ds) ⟨0,[]⟩):
  Calls P fid args x.w fun
   | .returned v,w'=>∃x',x'.w=w'∧lJ x x'∧RD ν x' v d
   |_,_=>False:=by
 obtain⟨body,c1,c2,c3,c4,c5,c6⟩:=gL hc
 let x0:X:=⟨x.w,x.I,fun _=>none⟩
 have hs0:ey ν x0 (look []):=⟨fun l blk b base tot h=>by simp[look]at h,fun l l' b base tot base' tot' h=>by simp[look]at h,himm,fun l b base tot h=>(by cases h),cz.le x _ (fun _ h=>h) (fun _ _=>rfl) hgd⟩;have hf0:er ⟨0,[]⟩ x0:=⟨fun l _=>rfl,fun l h=>by simp[look]at h⟩;have hi:=sL (P:=P) (ν:=ν) (b9:=b9) (x:=x0) (st:=⟨0,[]⟩) c4 c5 c6 hl hnp (fun i hi=>(hargs i hi).a7 (cu hnl i) (fun _ h=>h) (fun _ _=>rfl)) hs0 hf0;have hcs:=qe (C:={P,ν,b9,slots:=slotsOf fn,ntmps:=fn.ntmps,vm:=FA P fn}) (hΓ.at 0) (mr fn).1 hmix x0 (fun _ _=>rfl) body af.body c2 _ _ _ _ x0 hw hi (.refl _);refine calls_of_wp hf c1 (wp_mono hcs fun e a w' hp=>?_);obtain⟨e',x',env',st',he,hxw,hst,hi',hh,hro,hrpo,hrp⟩:=hp;subst hxw;obtain⟨v,r1,r2,r3⟩:=oN hi' c3 hro;have hI:∀b,(x'.lN (look st'.m)).I b→b<x'.w.heap.size:=by
  intro b hb;rcases hb with h|⟨l,⟨b',base,tot⟩,h1,h2,h3⟩
  ·exact hi'.mf.imm b h
  ·subst h2;exact hi'.mf.dE l _ _ _ h1
 have hnew:∀b,(x'.lN (look st'.m)).I b→x.I b∨x.w.heap.size≤b:=by
  intro b hb;rcases hb with h|⟨l,p,h1,h2,h3⟩
  ·rcases hst.newI b h with h|h|⟨l,p,h,_⟩
   ·exact .inl h
   ·exact .inr h
   ·cases h
  ·subst h2;rcases hst.newβ l p h1 with h|h|⟨l',p',h,_⟩
   ·cases h
   ·exact .inr h
   ·cases h
 have hps:lJ x ⟨x'.w,(x'.lN (look st'.m)).I,x.β⟩:=
  ⟨⟨hst.os,hst.tape,hst.output,hst.size,fun b hb=>hst.old b hb fun l p h=>by cases h⟩,fun b hb=>.inl (hst.I b hb),hnew,hI,rfl⟩
 have hrd:RD ν ⟨x'.w,(x'.lN (look st'.m)).I,x.β⟩ v d:=by
  rw[←hrp];have key:∀(v:Value) (d:D),RD ν (x'.lN (look st'.m)) v d→d.a7=true→RD ν ⟨x'.w,(x'.lN (look st'.m)).I,x.β⟩ v d:=fun v d h hn=>h.a7 hn (fun _ h=>h) (fun _ _=>rfl)
  unfold jV at r2;unfold D7 at hrpo;unfold JS;rcases hres:af.res with _|⟨r,_|⟨r2',rs⟩⟩
  ·simp only[hres]at r2 hrpo⊢;generalize hvs:nY st'.m env' []=vs at r2 hrpo⊢;cases r2 with
   |tup cs _ hl' hh'=>
    obtain⟨q1,q2,q3⟩:=iy hi'.mf (fun _ _=>rfl) af.rsh vs (fun j=>cs.getD j undef) hh' hrpo;exact .tup cs _ (by rw[q1,hl']) fun i hi=>key _ _ (q3 i (by omega)) (cu q2 i)
  ·simp only[hres]at r2 hrpo⊢;obtain⟨q1,q2⟩:=qx hi'.mf (fun _ _=>rfl) _ _ _ r2 hrpo;exact key _ _ q1 q2
  ·simp only[hres]at r2 hrpo⊢;generalize hvs:nY st'.m env' (r::r2'::rs)=vs at r2 hrpo⊢;cases r2 with
   |tup cs _ hl' hh'=>
    obtain⟨q1,q2,q3⟩:=iy hi'.mf (fun _ _=>rfl) af.rsh vs (fun j=>cs.getD j undef) hh' hrpo;exact .tup cs _ (by rw[q1,hl']) fun i hi=>key _ _ (q3 i (by omega)) (cu q2 i)
 rcases Ex.yZ hh with h|h<;>rw[h]at he<;>subst he<;>exact⟨hi'.defers,v,r1,⟨x'.w,(x'.lN (look st'.m)).I,x.β⟩,rfl,hps,hrd⟩
def I8 {fid:Nat}{fn:Func}{af:aB}{vd sd:D}(hΓ:Ok P ν b9 Γ)(hmix:P.follows .mixedOrders=true)(hf:P.funcs[fid]? =some fn)(hc:compile P ν b9 fn=some af)
  {x:X} {f:Nat→Option bo} {args:Array Value} {l k:Nat} {d:D} {ds:List D} (hl:args.size=ds.length+1) (h0:RD ν x (args.getD 0 undef) (.ptr l k 0 0)) (hargs:∀i,i<ds.length→RD ν x (args.getD (i+1) undef) (ds.getD i .any))
  (hs:ey ν x f) (hfl:f l=some (.buf k [d])) (hd:d.a7=true) (hnl:aT ds=true) (hnp:ds.length+1=af.np)
  (hw:bz (Γ.at 1) af.body (fun e env st=>e.home∧nX st.m env af.res∧(jV af env st).a7=true∧jV af env st=vd∧look st.m 0=some (.buf k [sd])∧sd.a7=true) (ed af (.ptr 0 k 0 0::ds)) ⟨1,[(0,.buf k [d])]⟩):
  Calls P fid args x.w fun
   | .returned v,w'=>∃x',x'.w=w'∧Step x x'∧RD ν x' v vd∧ey ν x' (fun l'=>if l'=l then some (.buf k [sd])else f l')∧x'.β=x.β
   |_,_=>False:=by
 obtain⟨body,c1,c2,c3,c4,c5,c6⟩:=gL hc;obtain⟨b,base,tot,hβ,ha0⟩:∃b base tot,x.β l=some (b,base,tot)∧args.getD 0 undef=.pointer (some ⟨b,base,none⟩):=by
  generalize args.getD 0 undef=v0 at h0;cases h0 with
  |ptr _ _ _ _ b base tot at_ hβ hat=>exact⟨b,base,tot,hβ,by simp[hat]⟩
 let x1:X:=⟨x.w,x.I,fun l'=>if l'=0 then x.β l else none⟩
 have hx1:∀l' p,x1.β l'=some p→l'=0∧p=(b,base,tot):=by
  intro l' p h;simp only[x1]at h;split at h
  ·rename_i e;rw[hβ]at h;exact⟨e,(Option.some.inj h).symm⟩
  ·cases h
 have hx1':x1.β 0=some (b,base,tot):=by simp[x1,hβ]
 have key1:∀(v:Value) (d:D),RD ν x v d→d.a7=true→RD ν x1 v d:=fun v d h hn=>h.a7 hn (fun _ h=>h) (fun _ _=>rfl)
 have hbR:=hs.own l _ b base tot hfl hβ;have hs1:ey ν x1 (look [(0,.buf k [d])]):=by
  refine⟨fun l' blk b' base' tot' e1 e2=>?_,fun l1 l2 b' base' tot' base'' tot'' e1 e2 e3 e4=>(hx1 _ _ e3).1.trans (hx1 _ _ e4).1.symm,hs.imm,fun l' b' base' tot' e=>?_,cz.le x _ (fun _ h=>h) (fun _ _=>rfl) hs.gd⟩
  ·obtain⟨rfl,e3⟩:=hx1 _ _ e2;simp only[Prod.mk.injEq]at e3;obtain⟨rfl,rfl,rfl⟩:=e3;simp only[look,if_true,Option.some.injEq]at e1;subst e1;refine⟨hbR.1, ?_⟩;obtain⟨p1,p2,c,T,fr,p3,p4,p5,p6⟩:=hbR.2;refine⟨p1,p2,c,T,fr,p3,p4,p5,fun i hi=>⟨(p6 i hi).1,fun j hj=>⟨((p6 i hi).2 j hj).1,key1 _ _ ((p6 i hi).2 j hj).2 ?_⟩⟩⟩;have:i=0:=by simpa using hi
   subst this;exact jO (by simpa using hd) j
  ·obtain⟨_,e3⟩:=hx1 _ _ e;simp only[Prod.mk.injEq]at e3;rw[e3.1];exact hs.dE l b base tot hβ
 have hf1:er ⟨1,[(0,.buf k [d])]⟩ x1:=⟨fun l' hl'=>by
   cases h:x1.β l' with
   |none=>rfl
   |some p=>have:=(hx1 _ _ h).1;simp only at hl';omega,fun l' hl'=>by
   simp only[look]at hl';split at hl'
   ·rename_i e;simp only;omega
   ·exact absurd rfl hl'⟩
 have hi:=sL (P:=P) (ν:=ν) (b9:=b9) (x:=x1) (ds:=.ptr 0 k 0 0::ds) (st:=⟨1,[(0,.buf k [d])]⟩) c4 c5 c6 (args:=args) (by simpa using hl) (by simpa using hnp) (fun i hi=>by
  cases i with
  |zero=>simp only[List.getD_cons_zero];rw[ha0];exact .ptr 0 k 0 0 b base tot base hx1' (by simp)
  |succ i=>simp only[List.getD_cons_succ];exact key1 _ _ (hargs i (by simpa using hi)) (cu hnl i)) hs1 hf1
 have hcs:=qe (C:={P,ν,b9,slots:=slotsOf fn,ntmps:=fn.ntmps,vm:=FA P fn}) (hΓ.at 1) (mr fn).1 hmix x1 (fun l h=>hf1.β l h) body af.body c2 _ _ _ _ x1 hw hi (.refl _);refine calls_of_wp hf c1 (wp_mono hcs fun e a w' hp=>?_);obtain⟨e',x',env',st',he,hxw,hst,hi',hh,hro,hrn,hrv,hlk,hsn⟩:=hp;subst hxw;obtain⟨v,r1,r2,r3⟩:=oN hi' c3 hro
 let x2:X:=⟨x'.w,x'.I,x.β⟩
 have key2:∀(v:Value) (d:D),RD ν x' v d→d.a7=true→RD ν x2 v d:=fun v d h hn=>h.a7 hn (fun _ h=>h) (fun _ _=>rfl)
 have hb':x'.β 0=some (b,base,tot):=hst.β _ _ hx1';have hnewI:∀b',x'.I b'→x.I b'∨x.w.heap.size≤b'∨b'=b:=by
  intro b' h;rcases hst.newI b' h with h|h|⟨l',p,h1,h2⟩
  ·exact .inl h
  ·exact .inr (.inl h)
  ·right;right;rw[←h2,(hx1 _ _ h1).2]
 have hstep:Step x x2:=by
  refine⟨hst.os,hst.tape,hst.output,hst.size,hst.I,hst.ny,fun _ _ h=>h,fun b' hb' hn=>hst.old b' hb' fun l' p h e=>?_,fun b' h=>?_,fun _ _ h=>.inl h⟩
  ·have:=hn l _ hβ;rw[(hx1 _ _ h).2]at e;exact this e
  ·rcases hnewI b' h with h|h|h
   ·exact .inl h
   ·exact .inr (.inl h)
   ·exact .inr (.inr ⟨l,_,hβ,h.symm⟩)
 have hsim:ey ν x2 (fun l'=>if l'=l then some (.buf k [sd])else f l'):=by
  have hbb:=hi'.mf.own 0 _ b base tot hlk hb';refine⟨fun l' blk b' base' tot' e1 e2=>?_,fun l1 l2 b' base' tot' base'' tot'' e1 e2 e3 e4=>?_,hi'.mf.imm,fun l' b' base' tot' e=>Nat.lt_of_lt_of_le (hs.dE l' b' base' tot' e) hst.size,cz.le x' _ (fun _ h=>h) (fun _ _=>rfl) hi'.mf.gd⟩
  ·by_cases hll:l'=l
   ·subst hll;simp only[if_true,Option.some.injEq]at e1;subst e1;have e2':x.β l'=some (b',base',tot'):=e2;rw[hβ]at e2';simp only[Option.some.injEq,Prod.mk.injEq]at e2';obtain⟨rfl,rfl,rfl⟩:=e2';refine⟨hbb.1, ?_⟩;obtain⟨p1,p2,c,T,fr,p3,p4,p5,p6⟩:=hbb.2;refine⟨p1,p2,c,T,fr,p3,p4,p5,fun i hi=>⟨(p6 i hi).1,fun j hj=>⟨((p6 i hi).2 j hj).1,key2 _ _ ((p6 i hi).2 j hj).2 ?_⟩⟩⟩;have:i=0:=by simpa using hi
    subst this;exact jO (by simpa using hsn) j
   ·simp only[if_neg hll]at e1;have e2':x.β l'=some (b',base',tot'):=e2;obtain⟨q1,q2⟩:=hs.own l' blk b' base' tot' e1 e2';have hne:b'≠b:=fun e=>by subst e;exact hll (hs.inj l' l b' base' tot' base tot (by rw[e1];simp) (by rw[hfl];simp) e2' hβ)
    have hlt:=hs.dE l' b' base' tot' e2';refine⟨fun h=>?_,q2.mono hstep.le (hst.old b' hlt fun l'' p h e=>hne (by rw[←e,(hx1 _ _ h).2]))⟩;rcases hnewI b' h with h|h|h
    ·exact q1 h
    ·omega
    ·exact hne h
  ·have hne:∀l',(if l'=l then some (bo.buf k [sd])else f l')≠none→f l'≠none:=fun l' h=>by
    by_cases e:l'=l
    ·rw[e,hfl];simp
    ·rwa [if_neg e]at h
   exact hs.inj l1 l2 b' base' tot' base'' tot'' (hne _ e1) (hne _ e2) e3 e4
 rw[hrv]at r2;rcases Ex.yZ hh with h|h<;>rw[h]at he<;>subst he<;>exact⟨hi'.defers,v,r1,x2,rfl,hstep,key2 _ _ r2 (by rw[←hrv];exact hrn),hsim,rfl⟩
structure LF where
 key:Nat→Nat
 mu:Nat→List D→Nat
 muE:Nat→List D→St→Nat
def Ctx.under (Γ:Ctx)(R:LF)(k u:Nat):Ctx where
 pre n ds:=(R.key n<k∨R.key n=k∧R.mu n ds<u)∧Γ.pre n ds
 val:=Γ.val
 tr n ds st K:=(R.key n<k∨R.key n=k∧R.muE n ds st<u)∧Γ.tr n ds st K
 fp n d ds:=(R.key n<k∨R.key n=k∧R.mu n (d::ds)<u)∧Γ.fp n d ds
 fv:=Γ.fv
 fs:=Γ.fs
 lo:=Γ.lo
def P2 (R:LF)(hsm:∀fid n,dW ν fid=some n→n<1000000)(hB:∀t,b9.contains (1000000000+t)=true→t=cz.tB)
  (hp:∀fid n,dW ν fid=some n→∀ds,Γ.pre n ds→Ok P ν b9 (Γ.under R (R.key n) (R.mu n ds))→∀(x:X) (args:Array Value),args.size=ds.length→(∀i,i<ds.length→RD ν x (args.getD i undef) (ds.getD i .any))→aT ds=true→
    (∀b,x.I b→b<x.w.heap.size)→cz.gd x→iq P x (fun v x'=>lJ x x'∧RD ν x' v (Γ.val n ds)) ((callFunc fid args).run P x.w))
  (hf:∀fid n,dW ν fid=some n→b9.contains (2*n+1)=true→∀(d:D) (ds:List D),Γ.fp n d ds→Ok P ν b9 (Γ.under R (R.key n) (R.mu n (d::ds)))→∀(x:X) (f:Nat→Option bo) (args:Array Value) (l k:Nat),args.size=ds.length+1→
    RD ν x (args.getD 0 undef) (.ptr l k 0 0)→(∀i,i<ds.length→RD ν x (args.getD (i+1) undef) (ds.getD i .any))→ey ν x f→f l=some (.buf k [d])→d.a7=true→aT ds=true→
    iq P x (fun v x'=>Step x x'∧RD ν x' v (Γ.fv n d ds)∧ey ν x' (fun l'=>if l'=l then some (.buf k [Γ.fs n d ds])else f l')∧x'.β=x.β) ((callFunc fid args).run P x.w))
  (he:∀fid n,dW ν fid=some n→∀(ds:List D) (st:St) (K:D→St→Prop),Γ.tr n ds st K→Ok P ν b9 (Γ.under R (R.key n) (R.muE n ds st))→∀(x:X) (args:Array Value),args.size=ds.length→(∀i,i<ds.length→RD ν x (args.getD i undef) (ds.getD i .any))→
    ey ν x (look st.m)→er st x→iq P x (fun v x'=>∃d st',K d st'∧Step x x'∧RD ν x' v d∧ey ν x' (look st'.m)∧er st' x') ((callFunc fid args).run P x.w)):Ok P ν b9 Γ:=by
 have key:∀k u,Ok P ν b9 (Γ.under R k u):=by
  intro k;induction k using Nat.strongRecOn with
  |_ k ihk=>
   intro u;induction u using Nat.strongRecOn with
   |_ u ihu=>
    refine⟨hsm,hB,fun fid n hn x args ds hl hargs hnl himm hgd hpre=>?_,fun fid n hn hef x f args l kk d ds hl h0 hargs hs hfl hd hnl hpre=>?_,fun fid n hn x args ds st K hl hargs hs hf' htr=>?_⟩
    ·obtain⟨hlt,hpre⟩:=hpre;refine hp fid n hn ds hpre ?_ x args hl hargs hnl himm hgd;rcases hlt with h|⟨h1,h2⟩
     ·exact ihk _ h _
     ·rw[h1];exact ihu _ h2
    ·obtain⟨hlt,hpre⟩:=hpre;refine hf fid n hn hef d ds hpre ?_ x f args l kk hl h0 hargs hs hfl hd hnl;rcases hlt with h|⟨h1,h2⟩
     ·exact ihk _ h _
     ·rw[h1];exact ihu _ h2
    ·obtain⟨hlt,htr⟩:=htr;refine he fid n hn ds st K htr ?_ x args hl hargs hs hf';rcases hlt with h|⟨h1,h2⟩
     ·exact ihk _ h _
     ·rw[h1];exact ihu _ h2
 refine⟨hsm,hB,fun fid n hn x args ds hl hargs hnl himm hgd hpre=>?_,fun fid n hn hef x f args l kk d ds hl h0 hargs hs hfl hd hnl hpre=>?_,fun fid n hn x args ds st K hl hargs hs hf' htr=>?_⟩
 ·exact hp fid n hn ds hpre (key _ _) x args hl hargs hnl himm hgd
 ·exact hf fid n hn hef d ds hpre (key _ _) x f args l kk hl h0 hargs hs hfl hd hnl
 ·exact he fid n hn ds st K htr (key _ _) x args hl hargs hs hf'
def fZ {fid:Nat}{fn:Func}(hf:P.funcs[fid]? =some fn)(hn:(fn.name== "runtime.NumGoroutine")=false)(hb:fn.body.isSome=true)(args:Array Value)(w:World):(callFunc fid args).run P w=.ok (.enter fid args) w:=by
 have h1:fn.name≠ "runtime.NumGoroutine" :=by simpa using hn
 have h2:fn.body≠none:=by intro h;rw[h]at hb;cases hb
 simp[callFunc,hf,h1,h2]
end
end Go.Abs
end
namespace Go.Abs
def bU {p:Prop}(h:p:=by first|exact fun _=>rfl|exact fun h=>h|(intro h;simp_all)):p:=h
def cH {p:Prop}(h:p:=by first|exact rfl|exact⟨_,_,rfl,rfl⟩):p:=h
def wA {p:Prop}(h:p:=by first|exact fun _=>rfl|(intro h;omega)|(intro h;simp at h;omega)):p:=h
def w9 {p:Prop}(h:p:=by intro h;repeat' first|exact trivial|exact rfl|exact h|refine And.intro ?_ ?_|decide):p:=h
def tP {p:Prop}(h:p:=by simp only[List.length_cons,List.length_nil,Nat.reduceAdd];exact rfl):p:=h
def tQ {p:Prop}(h:p:=by intro h;first|omega|(simp at h;omega)):p:=h
def Dc {p:Prop}(h:p:=by intro h;first|(constructor<;>omega)|(simp at h;constructor<;>omega)):p:=h
end Go.Abs
section
namespace Go.Abs
section
variable {Γ:Ctx} {Q Q':Ex→List bx→St→Prop} {env:List bx} {st:St}
def Ctx.a8 (Γ:Ctx):Prop:=∀f ds st (K K':D→St→Prop),(∀d st,K d st→K' d st)→Γ.tr f ds st K→Γ.tr f ds st K'
def jU {draw:Bool}{K K':List bx→St→Prop}(h:∀vs st,K vs st→K' vs st)(htr:Γ.a8):∀(l:List GI)(env vs:List bx)(st:St),il Γ draw l env vs st K→il Γ draw l env vs st K'
 |[],env,vs,st,hh=>h _ _ hh
 |⟨i,g⟩::r,env,vs,st,hh=>by
  cases hcm:i.cM with
  |true=>
   cases i<;>simp only[aI.cM]at hcm<;>try(cases hcm;done)
   ·exact⟨hh.1,fun hf=>⟨(hh.2.1 hf).1,htr _ _ _ _ _ (fun d st' ⟨h1,h2⟩=>⟨h1,jU h htr r _ _ _ h2⟩) (hh.2.1 hf).2⟩,fun hf=>jU h htr r _ _ _ (hh.2.2 hf)⟩
   ·rename_i fv args;simp only[il]at hh⊢;refine⟨hh.1,hh.2.1,hh.2.2.1, ?_⟩;have h3:=hh.2.2.2;cases hd:(Src.ev env vs fv).d<;>simp only[hd]at h3⊢;exact htr _ _ _ _ _ (fun d st' ⟨h1,h2⟩=>⟨h1,jU h htr r _ _ _ h2⟩) h3
  |false=>
   cases hf:i.sZ draw g with
   |true=>
    rw[xS hcm hf]at hh⊢;exact⟨hh.1,fun e=>⟨(hh.2.1 e).1,jU h htr r _ _ _ (hh.2.1 e).2⟩,fun e=>jU h htr r _ _ _ (hh.2.2 e)⟩
   |false=>
    rw[lD hcm hf]at hh⊢;exact⟨hh.1,hh.2.1,fun ha=>(hh.2.2 ha).imp fun _ h2=>⟨h2.1,jU h htr r _ _ _ h2.2⟩⟩
def Gh.mono {lo:Nat}{p q:List bx→St→Prop}(h:∀env st,p env st→q env st):Gh lo p env st→Gh lo q env st
 |⟨e,s,h1,h2⟩=>⟨e,s,h1,h _ _ h2⟩
def Gh.intro {lo:Nat}{p:List bx→St→Prop}(h:p env st):Gh lo p env st:=⟨env,st,.refl _ _,h⟩
def fe (htr:Γ.a8):∀(a:AC)(Q Q':Ex→List bx→St→Prop)(env:List bx)(st:St),(∀e env st,Q e env st→Q' e env st)→bz Γ a Q env st→bz Γ a Q' env st
 | .reg draw ins cm,Q,Q',env,st,h,hh=>Gh.mono (fun env st h2=>jU (fun vs st=>h _ _ _) htr _ _ _ _ h2) hh
 | .seq a b,Q,Q',env,st,h,hh=>Gh.mono (fun env st h2=>fe htr a _ _ env st (fun e env st h2=>by
   cases e with
   |normal=>exact fe htr b Q Q' env st h h2
   |exit id=>exact h _ _ _ h2
   |ret=>exact h _ _ _ h2) h2) hh
 | .cond c a b,Q,Q',env,st,h,hh=>Gh.mono (fun env st h2=>by
  refine⟨h2.1, ?_⟩;have:=h2.2;cases hd:(c.ev env []).d<;>simp only[hd]at this⊢;exact⟨fun ht=>fe htr a Q Q' env st h (this.1 ht),fun ht=>fe htr b Q Q' env st h (this.2 ht)⟩) hh
 | .block id a,Q,Q',env,st,h,hh=>Gh.mono (fun env st h2=>fe htr a _ _ env st (fun e env st h2=>by
   cases e with
   |normal=>exact h _ _ _ h2
   |exit j=>simp only at h2⊢;split<;>rename_i hj<;>simp only[hj,if_true,if_false]at h2<;>exact h _ _ _ h2
   |ret=>exact h _ _ _ h2) h2) hh
 | .loop a,Q,Q',env,st,h,hh=>Gh.mono (fun env st h2=>by
  obtain⟨I,μ,h1,h2⟩:=h2;refine⟨I,μ,h1,fun env st hi=>fe htr a _ _ env st (fun e env' st' h3=>?_) (h2 env st hi)⟩;cases e with
  |normal=>exact h3
  |exit id=>exact h _ _ _ h3
  |ret=>exact h _ _ _ h3) hh
 | .exit id,Q,Q',env,st,h,hh=>Gh.mono (fun _ _=>h _ _ _) hh
 | .ret,Q,Q',env,st,h,hh=>Gh.mono (fun _ _=>h _ _ _) hh
 | .skip,Q,Q',env,st,h,hh=>Gh.mono (fun _ _=>h _ _ _) hh
def e8 {a:AC}{env':List bx}{st':St}(g:aX Γ.lo env st env' st')(h:bz Γ a Q env' st'):bz Γ a Q env st:=by
 cases a<;>(obtain⟨e2,s2,g2,h2⟩:=h;exact⟨e2,s2,.trans _ _ _ _ _ _ g g2,h2⟩)
def BQ (Γ:Ctx)(id:Nat)(r:AC)(Q:Ex→List bx→St→Prop):Ex→List bx→St→Prop:=fun e env st=>match e with
 | .normal=>bz Γ r Q env st
 | .exit j=>if j=id then bz Γ r Q env st else Q (.exit j) env st
 | .ret=>Q .ret env st
def LQ (Γ:Ctx)(id:Nat)(r:AC)(next:List bx→St→Prop)(Q:Ex→List bx→St→Prop):Ex→List bx→St→Prop:=fun e env st=>match e with
 | .normal=>next env st
 | .exit j=>if j=id then bz Γ r Q env st else Q (.exit j) env st
 | .ret=>Q .ret env st
def BQ.normal {id:Nat}{r:AC}(h:bz Γ r Q env st):BQ Γ id r Q .normal env st:=h
def BQ.out {id:Nat}{r:AC}(h:bz Γ r Q env st):BQ Γ id r Q (.exit id) env st:=by simp only[BQ,if_true];exact h
def BQ.other {id j:Nat}{r:AC}(hj:(j==id)=false)(h:Q (.exit j) env st):BQ Γ id r Q (.exit j) env st:=by simp only[BQ,if_neg (by simpa using hj)];exact h
def BQ.ret {id:Nat}{r:AC}(h:Q .ret env st):BQ Γ id r Q .ret env st:=h
def LQ.normal {id:Nat}{r:AC}{next:List bx→St→Prop}(h:next env st):LQ Γ id r next Q .normal env st:=h
def LQ.out {id:Nat}{r:AC}{next:List bx→St→Prop}(h:bz Γ r Q env st):LQ Γ id r next Q (.exit id) env st:=by simp only[LQ,if_true];exact h
def LQ.other {id j:Nat}{r:AC}{next:List bx→St→Prop}(hj:(j==id)=false)(h:Q (.exit j) env st):LQ Γ id r next Q (.exit j) env st:=by simp only[LQ,if_neg (by simpa using hj)];exact h
def LQ.ret {id:Nat}{r:AC}{next:List bx→St→Prop}(h:Q .ret env st):LQ Γ id r next Q .ret env st:=h
def Im {a b c:AC}(h:bz Γ (.seq a (.seq b c)) Q env st):bz Γ (.seq (.seq a b) c) Q env st:=by
 obtain⟨e1,s1,g1,h1⟩:=h;refine⟨e1,s1,g1,e1,s1,.refl _ _, ?_⟩;have:∀(Q1 Q2:Ex→List bx→St→Prop),Q1=Q2→bz Γ a Q1 e1 s1→bz Γ a Q2 e1 s1:=fun _ _ e h=>e▸h
 refine this _ _ ?_ h1;funext e env st;cases e with
 |normal=>exact propext ⟨fun⟨e2,s2,g2,h2⟩=>e8 g2 h2,fun h=>⟨_,_,.refl _ _,h⟩⟩
 |exit id=>rfl
 |ret=>rfl
def Db {b:AC}(h:bz Γ b Q env st):bz Γ (.seq .skip b) Q env st:=.intro (.intro h)
def wp_skip (h:Q .normal env st):bz Γ .skip Q env st:=.intro h
def FE {b:AC}(h:Q .ret env st):bz Γ (.seq .ret b) Q env st:=.intro (.intro h)
def wp_ret (h:Q .ret env st):bz Γ .ret Q env st:=.intro h
def Da {id:Nat}{b:AC}(h:Q (.exit id) env st):bz Γ (.seq (.exit id) b) Q env st:=.intro (.intro h)
def wp_exit {id:Nat}(h:Q (.exit id) env st):bz Γ (.exit id) Q env st:=.intro h
def Bw {id:Nat}{a r:AC}(h:bz Γ a (BQ Γ id r Q) env st)(htr:Γ.a8):bz Γ (.seq (.block id a) r) Q env st:=by
 refine .intro (.intro (fe htr a _ _ _ _ (fun e env st h=>?_) h));cases e with
 |normal=>exact h
 |exit j=>simp only[BQ]at h⊢;split<;>rename_i hj<;>simp only[hj,if_true,if_false]at h<;>exact h
 |ret=>exact h
def wp_block {id:Nat}{a:AC}(h:bz Γ a (BQ Γ id .skip Q) env st)(htr:Γ.a8)(hQ:∀e env env' st st',aX Γ.lo env st env' st'→Q e env' st'→Q e env st):bz Γ (.block id a) Q env st:=by
 refine .intro (fe htr a _ _ _ _ (fun e env st h=>?_) h);have hs:∀env st,bz Γ .skip Q env st→Q .normal env st:=fun env st ⟨e2,s2,g2,h2⟩=>hQ _ _ _ _ _ g2 h2
 cases e with
 |normal=>exact hs _ _ h
 |exit j=>simp only[BQ]at h⊢;split<;>rename_i hj<;>simp only[hj,if_true,if_false]at h<;>first|exact hs _ _ h|exact h
 |ret=>exact h
def CQ (next:List bx→St→Prop)(Q:Ex→List bx→St→Prop):Ex→List bx→St→Prop:=fun e env st=>match e with
 | .normal=>next env st
 | .exit j=>Q (.exit j) env st
 | .ret=>Q .ret env st
def CQ.normal {next:List bx→St→Prop}(h:next env st):CQ next Q .normal env st:=h
def CQ.other {next:List bx→St→Prop}{j:Nat}(h:Q (.exit j) env st):CQ next Q (.exit j) env st:=h
def CQ.ret {next:List bx→St→Prop}(h:Q .ret env st):CQ next Q .ret env st:=h
def By (id:Nat)(Q:Ex→List bx→St→Prop):Ex→List bx→St→Prop:=fun e env st=>match e with
 | .normal=>Q .normal env st
 | .exit j=>if j=id then Q .normal env st else Q (.exit j) env st
 | .ret=>Q .ret env st
def By.normal {id:Nat}(h:Q .normal env st):By id Q .normal env st:=h
def By.out {id:Nat}(h:Q .normal env st):By id Q (.exit id) env st:=by simp only[By,if_true];exact h
def By.other {id j:Nat}(hj:(j==id)=false)(h:Q (.exit j) env st):By id Q (.exit j) env st:=by simp only[By,if_neg (by simpa using hj)];exact h
def By.ret {id:Nat}(h:Q .ret env st):By id Q .ret env st:=h
def FD {id:Nat}{a:AC}(h:bz Γ a (By id Q) env st)(htr:Γ.a8):bz Γ (.block id a) Q env st:=by
 refine .intro (fe htr a _ _ _ _ (fun e env st h=>?_) h);cases e with
 |normal=>exact h
 |exit j=>simp only[By]at h⊢;split<;>rename_i hj<;>simp only[hj,if_true,if_false]at h<;>exact h
 |ret=>exact h
def zG (htr:Γ.a8){a b:AC}{ι:Type}(F:ι→List bx)(G:ι→List (Nat×bo))(c:Nat)(P:ι→Prop)
  (h1:bz Γ a (CQ (fun env' st'=>∃j,P j∧aX Γ.lo env' st' (F j) ⟨c,G j⟩) Q) env st)
  (h2:∀i,P i→bz Γ b Q (F i) ⟨c,G i⟩):bz Γ (.seq a b) Q env st:=by
 refine .intro (fe htr a _ _ _ _ (fun e env st h=>?_) h1);cases e with
 |normal=>obtain⟨j,hj,g⟩:=h;exact e8 g (h2 j hj)
 |exit j=>exact h
 |ret=>exact h
def aY (htr:Γ.a8){a r:AC}{id:Nat}{ι:Type}(F:ι→List bx)(G:ι→List (Nat×bo))(c:Nat)(P:ι→Prop)(μ:ι→Nat)(i0:ι)
  (hP:P i0) (h0:aX Γ.lo env st (F i0) ⟨c,G i0⟩)
  (hr:∀i,P i→bz Γ a (LQ Γ id r (fun env' st'=>∃j,P j∧μ j<μ i∧aX Γ.lo env' st' (F j) ⟨c,G j⟩) Q) (F i) ⟨c,G i⟩):bz Γ (.seq (.block id (.loop a)) r) Q env st:=by
 let W:List bx→St→Nat→Prop:=fun env st k=>∃i,env=F i∧st=⟨c,G i⟩∧P i∧μ i=k
 have least:∀env st,(∃k,W env st k)→∃k,W env st k∧∀k',W env st k'→k≤k':=by
  intro env st ⟨k,hk⟩;induction k using Nat.strongRecOn with
  |_ k ih=>
   by_cases h:∃k',k'<k∧W env st k'
   ·obtain⟨k',h1,h2⟩:=h;exact ih k' h1 h2
   ·exact⟨k,hk,fun k' hk'=>by
     rcases Nat.lt_or_ge k' k with h1|h1
     ·exact absurd ⟨k',h1,hk'⟩ h
     ·exact h1⟩
 open Classical in
 refine .intro (.intro ⟨_,_,h0,fun env st=>∃k,W env st k,fun env st=>if h:∃k,W env st k then Classical.choose (least env st h)else 0,⟨_,i0,rfl,rfl,hP,rfl⟩,fun env st hk=>?_⟩);obtain⟨⟨i,e1,e2,e3,e5⟩,hmin⟩:=Classical.choose_spec (least env st hk);have:=hr i e3;rw[←e1,←e2]at this;refine fe htr a _ _ env st ?_ this
 ·intro e env' st' h;cases e with
  |normal=>
   obtain⟨j,b3,b5,g⟩:=h;have hW:W (F j) ⟨c,G j⟩ (μ j):=⟨j,rfl,rfl,b3,rfl⟩;refine⟨F j,⟨c,G j⟩,g,⟨_,hW⟩, ?_⟩;show(if h:∃k,W (F j) ⟨c,G j⟩ k then Classical.choose (least _ _ h)else 0)<(if h:∃k,W env st k then Classical.choose (least env st h)else 0);rw[dif_pos ⟨_,hW⟩,dif_pos hk,←e5];exact Nat.lt_of_le_of_lt ((Classical.choose_spec (least _ _ ⟨_,hW⟩)).2 _ hW) b5
  |exit j=>simp only[LQ]at h⊢;split<;>rename_i hj<;>simp only[hj,if_true,if_false]at h<;>exact h
  |ret=>exact h
def BA (id:Nat)(next:List bx→St→Prop)(Q:Ex→List bx→St→Prop):Ex→List bx→St→Prop:=fun e env st=>match e with
 | .normal=>next env st
 | .exit j=>if j=id then Q .normal env st else Q (.exit j) env st
 | .ret=>Q .ret env st
def BA.normal {id:Nat}{next:List bx→St→Prop}(h:next env st):BA id next Q .normal env st:=h
def BA.out {id:Nat}{next:List bx→St→Prop}(h:Q .normal env st):BA id next Q (.exit id) env st:=by simp only[BA,if_true];exact h
def BA.other {id j:Nat}{next:List bx→St→Prop}(hj:(j==id)=false)(h:Q (.exit j) env st):BA id next Q (.exit j) env st:=by simp only[BA,if_neg (by simpa using hj)];exact h
def BA.ret {id:Nat}{next:List bx→St→Prop}(h:Q .ret env st):BA id next Q .ret env st:=h
def nI (htr:Γ.a8){a:AC}{id:Nat}{ι:Type}(F:ι→List bx)(G:ι→List (Nat×bo))(c:Nat)(P:ι→Prop)(μ:ι→Nat)(i0:ι)
  (hP:P i0) (h0:aX Γ.lo env st (F i0) ⟨c,G i0⟩)
  (hr:∀i,P i→bz Γ a (BA id (fun env' st'=>∃j,P j∧μ j<μ i∧aX Γ.lo env' st' (F j) ⟨c,G j⟩) Q) (F i) ⟨c,G i⟩):bz Γ (.block id (.loop a)) Q env st:=by
 let W:List bx→St→Nat→Prop:=fun env st k=>∃i,env=F i∧st=⟨c,G i⟩∧P i∧μ i=k
 have least:∀env st,(∃k,W env st k)→∃k,W env st k∧∀k',W env st k'→k≤k':=by
  intro env st ⟨k,hk⟩;induction k using Nat.strongRecOn with
  |_ k ih=>
   by_cases h:∃k',k'<k∧W env st k'
   ·obtain⟨k',h1,h2⟩:=h;exact ih k' h1 h2
   ·exact⟨k,hk,fun k' hk'=>by
     rcases Nat.lt_or_ge k' k with h1|h1
     ·exact absurd ⟨k',h1,hk'⟩ h
     ·exact h1⟩
 open Classical in
 refine .intro ⟨_,_,h0,fun env st=>∃k,W env st k,fun env st=>if h:∃k,W env st k then Classical.choose (least env st h)else 0,⟨_,i0,rfl,rfl,hP,rfl⟩,fun env st hk=>?_⟩;obtain⟨⟨i,e1,e2,e3,e5⟩,hmin⟩:=Classical.choose_spec (least env st hk);have:=hr i e3;rw[←e1,←e2]at this;refine fe htr a _ _ env st ?_ this
 ·intro e env' st' h;cases e with
  |normal=>
   obtain⟨j,b3,b5,g⟩:=h;have hW:W (F j) ⟨c,G j⟩ (μ j):=⟨j,rfl,rfl,b3,rfl⟩;refine⟨F j,⟨c,G j⟩,g,⟨_,hW⟩, ?_⟩;show(if h:∃k,W (F j) ⟨c,G j⟩ k then Classical.choose (least _ _ h)else 0)<(if h:∃k,W env st k then Classical.choose (least env st h)else 0);rw[dif_pos ⟨_,hW⟩,dif_pos hk,←e5];exact Nat.lt_of_le_of_lt ((Classical.choose_spec (least _ _ ⟨_,hW⟩)).2 _ hW) b5
  |exit j=>simp only[BA]at h⊢;split<;>rename_i hj<;>simp only[hj,if_true,if_false]at h<;>exact h
  |ret=>exact h
def nth:List bx→Nat→bx
 |[],_=>.un
 |a::_,0=>a
 |_::r,n+1=>nth r n
def vo:∀(l:List bx)(n:Nat),l.getD n .un=nth l n
 |[],n=>by simp[nth]
 |a::_,0=>by simp[nth]
 |_::r,n+1=>by simpa[nth]using vo r n
def cb (env rs:List bx):Src→bx
 | .s n=>nth env n
 | .l p=>bif Nat.blt p rs.length then nth rs (rs.length-1-p)else .un
 | .c d=>⟨true,d⟩
def k8 (env rs:List bx):Src.ev env rs.reverse=cb env rs:=by
 funext s;cases s with
 |s n=>exact vo env n
 |l p=>
  simp only[Src.ev,cb];cases h:Nat.blt p rs.length with
  |true=>
   have:p<rs.length:=by simp[Nat.blt]at h;omega
   rw[cond_true,←vo];simp only[List.getD];rw[List.getElem?_reverse this]
  |false=>
   have:¬p<rs.length:=by intro e;have:Nat.blt p rs.length=true:=by {simp[Nat.blt];omega};rw[this]at h;cases h
   rw[cond_false];simp[List.getD,List.getElem?_eq_none (show rs.reverse.length≤p by simp;omega)]
 |c d=>rfl
def aD (Γ:Ctx)(draw:Bool)(l:List GI)(env rs:List bx)(nx:Nat)(m:List (Nat×bo))(K:List bx→St→Prop):Prop:=il Γ draw l env rs.reverse ⟨nx,m⟩ K
def Gj (env rs:List bx):List (Nat×Nat)→List bx
 |[]=>env
 |(s,p)::r=>Gj (env.set s (cb [] rs (.l p))) rs r
def BU (rs:List bx):∀(cm:List (Nat×Nat))(env:List bx),gh env rs.reverse cm=Gj env rs cm
 |[],env=>rfl
 |(s,p)::r,env=>by
  simp only[gh,Gj];rw[BU rs r,←congrFun (k8 [] rs) (.l p)];rfl
def aj {draw:Bool}{ins:List GI}{cm:List (Nat×Nat)}{b:AC}{nx:Nat}{m:List (Nat×bo)}
  (h:aD Γ draw ins env [] nx m (fun vs st'=>bz Γ b Q (gh env vs cm) st')):bz Γ (.seq (.reg draw ins cm) b) Q env ⟨nx,m⟩:=.intro (.intro h)
def MQ {draw:Bool}{ins:List GI}{cm:List (Nat×Nat)}{nx:Nat}{m:List (Nat×bo)}
  (h:aD Γ draw ins env [] nx m (fun vs st'=>Q .normal (gh env vs cm) st')):bz Γ (.reg draw ins cm) Q env ⟨nx,m⟩:=.intro h
def JO {draw:Bool}{cm:List (Nat×Nat)}{b:AC}{nx nx':Nat}{m:List (Nat×bo)}{rs ed env':List bx}(h:bz Γ b Q env' ⟨nx',m⟩)
  (he:Gj env rs cm=env':=by exact rfl) (hn:nx+rs.length=nx':=by exact tP):aD Γ draw [] ed rs nx m (fun vs st'=>bz Γ b Q (gh env vs cm) st'):=by
 subst he;subst hn;simp only[aD,il,List.length_reverse,BU];exact h
def JP {draw:Bool}{cm:List (Nat×Nat)}{nx nx':Nat}{m:List (Nat×bo)}{rs ed env':List bx}(h:Q .normal env' ⟨nx',m⟩)
  (he:Gj env rs cm=env':=by exact rfl) (hn:nx+rs.length=nx':=by exact tP):aD Γ draw [] ed rs nx m (fun vs st'=>Q .normal (gh env vs cm) st'):=by
 subst he;subst hn;simp only[aD,il,List.length_reverse,BU];exact h
def aq {c:Src}{a b r:AC}{t:Bool}(h1:t=true→bz Γ (.seq a r) Q env st)(h2:t=false→bz Γ (.seq b r) Q env st)(hc:cb env [] c=⟨true,.bool t⟩:=by exact rfl):bz Γ (.seq (.cond c a b) r) Q env st:=by
 have hc':c.ev env []=⟨true,.bool t⟩:=by rw[←hc,←k8];rfl
 refine .intro (.intro ?_);simp only[hc'];refine⟨trivial,fun ht=>?_,fun ht=>?_⟩
 ·obtain⟨e,s,g,h⟩:=h1 ht;exact e8 g h
 ·obtain⟨e,s,g,h⟩:=h2 ht;exact e8 g h
def wp_cond {c:Src}{a b:AC}{t:Bool}(h1:t=true→bz Γ a Q env st)(h2:t=false→bz Γ b Q env st)(hc:cb env [] c=⟨true,.bool t⟩:=by exact rfl):bz Γ (.cond c a b) Q env st:=by
 have hc':c.ev env []=⟨true,.bool t⟩:=by rw[←hc,←k8];rfl
 refine .intro ?_;simp only[hc'];exact⟨trivial,h1,h2⟩
def aX.to {lo c nx nx':Nat}{env env':List bx}{m m':List (Nat×bo)}(σ:List (Nat×Nat))(hc:nx'=c)(h:fG lo c σ=true)(he:de lo σ env env')(hm:aO lo c σ m m'):aX lo env ⟨nx,m⟩ env' ⟨nx',m'⟩:=by
 subst hc;exact .ren σ nx' env env' nx m m' h he hm
def aE {α β:Type}(q:α→β)(xs:List α):(xs.map q).take xs.length=xs.map q:=List.take_of_length_le (by simp)
def bg {α:Type}{q:α→D}(h:∀x,(q x).a7=true):∀xs:List α,aT (xs.map q)=true
 |[]=>rfl
 |a::r=>by simp only[List.map_cons,aT,h a,bg h r,Bool.and_true]
def aX.fz {lo:Nat}{env env' env2:List bx}{nx k:Nat}{m m':List (Nat×bo)}{es:List D}{st2:St}(l:Nat)(hl:look m l=some (.buf k es))(hn:aT es=true)(he:jr l k es env=env')(hm:ke l k es (bS m l)=m')(h:aX lo env' ⟨nx,m'⟩ env2 st2):aX lo env ⟨nx,m⟩ env2 st2:=by
 have:=aX.FI (lo:=lo) l env ⟨nx,m⟩;simp only[Abs.FI,hl,hn,cond_true,he,hm]at this;exact .trans _ _ _ _ _ _ this h
def eu {a:AC}{nx k:Nat}{m m':List (Nat×bo)}{es:List D}{env env':List bx}(l:Nat)(h:bz Γ a Q env' ⟨nx,m'⟩)(hl:look m l=some (.buf k es):=by exact rfl)(hn:aT es=true:=by first|exact rfl|exact bg (fun _=>rfl) _)
  (he:jr l k es env=env':=by simp only[jr,fq,fV,ke,k9,bS,Nat.reduceEqDiff,if_true,if_false,and_self,true_and,and_true,false_and,and_false,Nat.zero_add,List.length_map,Nat.le_refl,List.drop_zero,aE,reduceCtorEq,List.length_cons,List.length_nil,Nat.reduceAdd,Nat.reduceLeDiff];exact rfl)
  (hm:ke l k es (bS m l)=m':=by simp only[jr,fq,fV,ke,k9,bS,Nat.reduceEqDiff,if_true,if_false,and_self,true_and,and_true,false_and,and_false,Nat.zero_add,List.length_map,Nat.le_refl,List.drop_zero,aE,reduceCtorEq,List.length_cons,List.length_nil,Nat.reduceAdd,Nat.reduceLeDiff];exact rfl):bz Γ a Q env ⟨nx,m⟩:=
 e8 (aX.fz l hl hn he hm (.refl _ _)) h
def Km.rf:∀e:List bx,Km e e
 |[]=>trivial
 |_::r=>⟨⟨rfl,.refl _⟩,Km.rf r⟩
def BB.nil:BB [] []:=⟨rfl,fun _=>.refl _⟩
def BB.cons {x y:D}{a b:List D}(h:tR x y)(h2:BB a b):BB (x::a) (y::b):=⟨by simp[h2.1],fun i=>by cases i with
 |zero=>exact h
 |succ i=>simpa using h2.2 i⟩
def BB.rf (a:List D):BB a a:=⟨rfl,fun _=>.refl _⟩
def BB.map {α:Type}{q p:α→D}:∀{xs:List α},(∀x∈xs,tR (q x) (p x))→BB (xs.map q) (xs.map p)
 |[],_=>.nil
 |x::r,h=>.cons (h x (.head _)) (BB.map fun y hy=>h y (.tail _ hy))
def tR.ag {a b:List D}(h:BB a b):tR (.agg a) (.agg b):=.agg _ _ h.1 h.2
def tR.ss {k:Nat}{a b:List D}(h:BB a b):tR (.sl k a) (.sl k b):=.sl _ _ _ h.1 h.2
def El.nil {m:List (Nat×bo)}:El m []:=trivial
def El.id {m r:List (Nat×bo)}{l:Nat}{b:bo}(h:look m l=some b)(h2:El m r):El m ((l,b)::r):=⟨⟨b,h,by cases b<;>first|exact⟨rfl,.rf _⟩|exact rfl⟩,h2⟩
def El.bf {m r:List (Nat×bo)}{l k:Nat}{es es':List D}(h:look m l=some (.buf k es))(hw:BB es es')(h2:El m r):El m ((l,.buf k es')::r):=⟨⟨_,h,rfl,hw⟩,h2⟩
def kY {a:AC}{nx:Nat}{m:List (Nat×bo)}{env:List bx}(m':List (Nat×bo))(hm:El m m')(h:bz Γ a Q env ⟨nx,m'⟩):bz Γ a Q env ⟨nx,m⟩:=e8 (.nz _ _ _ _ _ (Km.rf _) hm) h
def de.nil {lo:Nat}{σ:List (Nat×Nat)}:de lo σ [] []:=trivial
def de.un {lo:Nat}{σ:List (Nat×Nat)}{a:bx}{r s:List bx}(h:de lo σ r s):de lo σ (a::r) (.un::s):=⟨.inr rfl,h⟩
def de.eq {lo:Nat}{σ:List (Nat×Nat)}{ok:Bool}{d d':D}{r s:List bx}(hd:qB lo σ d=some d')(h:de lo σ r s):de lo σ (⟨ok,d⟩::r) (⟨ok,d'⟩::s):=⟨.inl ⟨rfl,.inr (.inl hd)⟩,h⟩
def de.nl {lo:Nat}{σ:List (Nat×Nat)}{ok:Bool}{d d':D}{r s:List bx}(hd:d'=d)(hn:d.a7=true)(h:de lo σ r s):de lo σ (⟨ok,d⟩::r) (⟨ok,d'⟩::s):=⟨.inl ⟨rfl,.inl ⟨hd,hn⟩⟩,h⟩
def de.ni {lo:Nat}{σ:List (Nat×Nat)}{ok:Bool}{d d':D}{r s:List bx}(hd:rL d d')(h:de lo σ r s):de lo σ (⟨ok,d⟩::r) (⟨ok,d'⟩::s):=⟨.inl ⟨rfl,.inr (.inr hd)⟩,h⟩
section
variable {lo c:Nat} {σ:List (Nat×Nat)} {m r:List (Nat×bo)}
def aO.nil:aO lo c σ m []:=trivial
def aO.nl {k l':Nat}{es es':List D}(l:Nat)(hl:kN lo σ l=some l')(hm:look m l=some (.buf k es))(he:es'=es)(hn:aT es=true)(h:aO lo c σ m r):aO lo c σ m ((l',.buf k es')::r):=
 ⟨.inl ⟨l,_,hl,hm,rfl,.inl ⟨he,hn⟩⟩,h⟩
def aO.eq {k l':Nat}{es es':List D}(l:Nat)(hl:kN lo σ l=some l')(hm:look m l=some (.buf k es))(he:nG lo σ es=some es')(h:aO lo c σ m r):aO lo c σ m ((l',.buf k es')::r):=
 ⟨.inl ⟨l,_,hl,hm,rfl,.inr (.inl he)⟩,h⟩
def aO.ni {k l':Nat}{es es':List D}(l:Nat)(hl:kN lo σ l=some l')(hm:look m l=some (.buf k es))(he:yu es es')(h:aO lo c σ m r):aO lo c σ m ((l',.buf k es')::r):=
 ⟨.inl ⟨l,_,hl,hm,rfl,.inr (.inr he)⟩,h⟩
def aO.eS {k l':Nat}{es':List D}(hl:kN lo σ l'=some l')(hm:look m l'=some (.buf k es'))(hn:aT es'=true)(h:aO lo c σ m r):aO lo c σ m ((l',.buf k es')::r):=.nl l' hl hm rfl hn h
def aO.lg {k l':Nat}{es' es:List D}(hl:kN lo σ l'=some l')(hm:look m l'=some (.buf k es))(he:nG lo σ es=some es')(h:aO lo c σ m r):aO lo c σ m ((l',.buf k es')::r):=.eq l' hl hm he h
def aO.mt {k l':Nat}{es':List D}(h1:Nat.ble lo l'=true)(h2:Nat.blt l' c=true)(h3:σ.all (fun p=>!Nat.beq p.2 l')=true)(he:es'=[])(h:aO lo c σ m r):aO lo c σ m ((l',.buf k es')::r):=
 ⟨.inr ⟨h1,h2,h3,k,by rw[he]⟩,h⟩
def aO.it {l' p p':Nat}{s s':List UInt8}(l:Nat)(hl:kN lo σ l=some l')(hm:look m l=some (.iter s p))(hs:s'=s)(hp:p'=p)(h:aO lo c σ m r):aO lo c σ m ((l',.iter s' p')::r):=
 ⟨.inl ⟨l,_,hl,hm,hs,hp⟩,h⟩
def aO.mb {l' p p':Nat}{s s':List UInt8}(hl:kN lo σ l'=some l')(hm:look m l'=some (.iter s p))(hs:s'=s)(hp:p'=p)(h:aO lo c σ m r):aO lo c σ m ((l',.iter s' p')::r):=.it l' hl hm hs hp h
def aO.rw {l':Nat}{s s':List UInt8}(l:Nat)(hl:kN lo σ l=some l')(hm:look m l=some (.row s))(hs:s'=s)(h:aO lo c σ m r):aO lo c σ m ((l',.row s')::r):=
 ⟨.inl ⟨l,_,hl,hm,hs⟩,h⟩
def aO.bl {l' l1 l2 n n':Nat}{u u':Bool}(l:Nat)(hl:kN lo σ l=some l')(hm:look m l=some (.bld (some l1) n u))(h1:kN lo σ l1=some l2)(hn:n'=n)(hu:u'=u)(h:aO lo c σ m r):aO lo c σ m ((l',.bld (some l2) n' u')::r):=
 ⟨.inl ⟨l,_,hl,hm,⟨l2,h1,rfl⟩,hn,hu⟩,h⟩
def aO.b0 {l' n n':Nat}{u u':Bool}(l:Nat)(hl:kN lo σ l=some l')(hm:look m l=some (.bld none n u))(hn:n'=n)(hu:u'=u)(h:aO lo c σ m r):aO lo c σ m ((l',.bld none n' u')::r):=
 ⟨.inl ⟨l,_,hl,hm,rfl,hn,hu⟩,h⟩
end
mutual
def xC (m:List (Nat×bo)):Sh→D→D
 | .a,d=>match d with
  | .az=>.sl 0 []
  |d=>d
 | .sl k cs,d=>match d with
  | .az=>.sl k []
  | .own l k' i c=>.sl k' ((((aS m l).drop i).take c).map fun e=>match e with
   | .agg ds=>.agg (xL m cs ds)
   |e=>xH m cs e)
  |d=>d
 | .pt cs,d=>match d with
  | .ptr l k i o=>.ref k ((aS m l).map fun e=>match e with
   | .agg ds=>.agg (xL m cs ds)
   |e=>xH m cs e) i o
  |d=>d
def xH (m:List (Nat×bo)):List Sh→D→D
 |[],d=>d
 |s::_,d=>xC m s d
def xL (m:List (Nat×bo)):List Sh→List D→List D
 |[],ds=>ds
 |s::r,ds=>match ds with
  |[]=>[]
  |d::ds=>xC m s d::xL m r ds
end
def xV (m:List (Nat×bo))(cs:List Sh):D→D
 | .agg ds=>.agg (xL m cs ds)
 |e=>xH m cs e
mutual
def KE (m:List (Nat×bo)):Sh→D→Prop
 | .a,d=>d.a7=true
 | .sl _ cs,d=>match d with
  | .own l k' i c=>et m l k' (i+c)∧∀e∈((aS m l).drop i).take c,(match e with
   | .agg ds=>It m cs ds
   |e=>KF m cs e)
  |d=>d.a7=true
 | .pt cs,d=>match d with
  | .ptr l k _ _=>et m l k 0∧∀e∈aS m l,(match e with
   | .agg ds=>It m cs ds
   |e=>KF m cs e)
  |d=>d.a7=true
def KF (m:List (Nat×bo)):List Sh→D→Prop
 |[],d=>d.a7=true
 |s::_,d=>KE m s d
def It (m:List (Nat×bo)):List Sh→List D→Prop
 |[],ds=>aT ds=true
 |s::r,ds=>match ds with
  |[]=>True
  |d::ds=>KE m s d∧It m r ds
end
def Iu (m:List (Nat×bo))(cs:List Sh):D→Prop
 | .agg ds=>It m cs ds
 |e=>KF m cs e
mutual
theorem Io (m:List (Nat×bo)):∀(s:Sh)(d:D),mV m s d=xC m s d∧(kn m s d↔KE m s d)
 | .a,d=>by cases d<;>simp only[mV,xC,kn,KE]<;>exact⟨trivial,trivial⟩
 | .sl k cs,d=>by
  cases d<;>simp only[mV,xC,kn,KE]<;>first
   |exact⟨trivial,trivial⟩
   |skip
  rename_i l k' i c;exact⟨congrArg (D.sl k') (List.map_congr_left fun e _=>(Bx m cs e).1),and_congr_right fun _=>forall_congr' fun e=>imp_congr_right fun _=>(Bx m cs e).2⟩
 | .pt cs,d=>by
  cases d<;>simp only[mV,xC,kn,KE]<;>first
   |exact⟨trivial,trivial⟩
   |skip
  rename_i l k' i c;exact⟨congrArg (fun x=>D.ref k' x i c) (List.map_congr_left fun e _=>(Bx m cs e).1),and_congr_right fun _=>forall_congr' fun e=>imp_congr_right fun _=>(Bx m cs e).2⟩
theorem Bx (m:List (Nat×bo)):∀(cs:List Sh)(d:D),iP m cs d=(match d with
   | .agg ds=>.agg (xL m cs ds)
   |e=>xH m cs e)∧(gy m cs d↔(match d with
   | .agg ds=>It m cs ds
   |e=>KF m cs e))
 |[],d=>by cases d<;>simp only[iP,xH,xL,gy,KF,It,D.a7]<;>first|exact⟨trivial,Iff.rfl⟩|exact⟨trivial,trivial⟩
 |s::r,d=>by
  cases d<;>simp only[iP,xH,gy,KF]<;>first
   |exact Io m s _
   |skip
  rename_i ds;exact⟨congrArg D.agg (Ef m (s::r) ds).1,(Ef m (s::r) ds).2⟩
theorem Ef (m:List (Nat×bo)):∀(cs:List Sh)(ds:List D),mW m cs ds=xL m cs ds∧(kT m cs ds↔It m cs ds)
 |[],ds=>by simp only[mW,xL,kT,It];exact⟨trivial,trivial⟩
 |s::r,[]=>by simp only[mW,xL,kT,It];exact⟨trivial,trivial⟩
 |s::r,d::ds=>by
  simp only[mW,xL,kT,It,(Io m s d).1,(Ef m r ds).1];exact⟨trivial,and_congr (Io m s d).2 (Ef m r ds).2⟩
end
def yp (m:List (Nat×bo))(cs:List Sh)(d:D):iP m cs d=xV m cs d∧(gy m cs d↔Iu m cs d):=by
 have:=Bx m cs d;cases d<;>exact this
def mI (m:List (Nat×bo)):List (List Sh)→List D→List D
 |_,[]=>[]
 |[],d::r=>xV m [.a] d::mI m [] r
 |s::ss,d::r=>xV m s d::mI m ss r
def j5 (m:List (Nat×bo)):List (List Sh)→List D→Prop
 |_,[]=>True
 |[],d::r=>Iu m [.a] d∧j5 m [] r
 |s::ss,d::r=>Iu m s d∧j5 m ss r
def dG (m:List (Nat×bo)):∀(ss:List (List Sh))(ds:List D),eR m ss ds=mI m ss ds∧(iK m ss ds↔j5 m ss ds)
 |ss,[]=>by simp[eR,mI,iK,j5]
 |[],d::r=>by
  simp only[eR,mI,iK,j5,(yp m [.a] d).1,(dG m [] r).1];exact⟨trivial,and_congr (yp m _ d).2 (dG m [] r).2⟩
 |s::ss,d::r=>by
  simp only[eR,mI,iK,j5,(yp m s d).1,(dG m ss r).1];exact⟨trivial,and_congr (yp m _ d).2 (dG m ss r).2⟩
def LI (a:aB)(d:D):Ex→List bx→St→Prop:=fun e env st=>e.home∧nX st.m env a.res∧D7 a env st∧JS a env st=d
def FF (a:aB)(env:List bx)(m:List (Nat×bo)):D:=match a.res with
 |[r]=>xV m (a.rsh.getD 0 []) (A8 m env r)
 |rs=>.tup (mI m a.rsh (nY m env rs))
def yq (a:aB)(env:List bx)(m:List (Nat×bo)):Prop:=match a.res with
 |[r]=>Iu m (a.rsh.getD 0 []) (A8 m env r)
 |rs=>j5 m a.rsh (nY m env rs)
def MG {a:aB}{d:D}{e:Ex}{nx:Nat}{m:List (Nat×bo)}(he:e.home)(h1:nX m env a.res)(h2:yq a env m)(h3:FF a env m=d):LI a d e env ⟨nx,m⟩:=by
 refine⟨he,h1, ?_, ?_⟩
 ·unfold D7;unfold yq at h2;split<;>rename_i hr
  ·rw[hr]at h2;exact(yp _ _ _).2.2 h2
  ·split at h2
   ·rename_i hr2;exact absurd hr2 (hr _)
   ·exact(dG _ _ _).2.2 h2
 ·unfold JS;unfold FF at h3;split<;>rename_i hr
  ·rw[hr]at h3;rw[(yp _ _ _).1];exact h3
  ·split at h3
   ·rename_i hr2;exact absurd hr2 (hr _)
   ·rw[(dG _ _ _).1];exact h3
def Ek (a:aB)(k:Nat)(vd sd:D):Ex→List bx→St→Prop:=fun e env st=>e.home∧nX st.m env a.res∧(jV a env st).a7=true∧jV a env st=vd∧look st.m 0=some (.buf k [sd])∧sd.a7=true
def fC {a:aB}{k:Nat}{vd sd:D}{e:Ex}{nx:Nat}{m:List (Nat×bo)}(he:e.home)(h1:nX m env a.res)(h2:jV a env ⟨nx,m⟩=vd)(h3:look m 0=some (.buf k [sd]))(hn:vd.a7=true)(hs:sd.a7=true):Ek a k vd sd e env ⟨nx,m⟩:=⟨he,h1,by rw[h2];exact hn,h2,h3,hs⟩
end
end Go.Abs
end
section
namespace Go.Abs
section
variable {Γ:Ctx} {draw:Bool} {r:List GI} {env rs:List bx} {nx:Nat} {m:List (Nat×bo)} {K:List bx→St→Prop} {g:Option (Nat×Bool)} {f:Bool}
def at8 (s:List UInt8)(i:Nat):Int:=((s.getD i 0).toNat:Int)
def Gc (s:List UInt8)(i:Nat):0≤at8 s i∧at8 s i<256:=by
 have:=(s.getD i 0).toNat_lt;unfold at8;omega
def D.L3:D→Bool
 | .str _=>true
 |_=>false
def wrap_i64 {a:Int}(h1:-9223372036854775808≤a)(h2:a≤9223372036854775807):IntKind.i64.wrap a=a:=IntWalk.i64_in _ (by omega)
def nb (a b:List UInt8):(a==b)=decide (a=b):=by
 by_cases h:a=b
 ·subst h;simp
 ·simp[h]
def getD_map {α:Type} [Inhabited α]{q:α→D}{xs:List α}{i:Nat}(h:i<xs.length):(xs.map q).getD i .any=q xs[i]! :=by
 simp[List.getD,h]
def MN (b:UInt8):(D.int .u8 b.toNat).u8=b:=by simp[D.u8]
def IY (s:List UInt8):D.str ((s.map fun b=>D.int .u8 b.toNat).map D.u8)=.str s:=by
 congr 1;rw[List.map_map]
 conv=>rhs;rw[←List.map_id s]
 apply List.map_congr_left;intro b _;exact MN b
def GF (rs:List bx):Option (Nat×Bool)→Bool→Prop
 |none,f=>f=true
 |some (j,w),f=>∃ok b,cb [] rs (.l j)=⟨ok,.bool b⟩∧(ok&&(b==w))=f
def GF.flag (h:GF rs g f):flag rs.reverse g=f∧wO rs.reverse g:=by
 cases g with
 |none=>exact⟨h.symm,trivial⟩
 |some jw=>
  obtain⟨j,w⟩:=jw;obtain⟨ok,b,h1,h2⟩:=h;have h3:rs.reverse.getD j .un=⟨ok,.bool b⟩:=by rw[←h1,←k8];rfl
  simp only[Abs.flag,wO,h3,h2,D.isBool];exact⟨trivial,fun _=>trivial⟩
def HC {i:aI}(hM:i.cM=false)(hF:i.sZ draw g=false)(hC:g.isSome=true→i.calm=true)(hg:GF rs g f)(d:D)(ho:f=true→i.dr Γ (cb env rs) m)
  (hv:f=true→i.val Γ (cb env rs) m (nx+rs.length)=d) (m':List (Nat×bo)) (hm:i.b9 Γ (cb env rs) m (nx+rs.length)=m')
  (h:(f=true→i.BO draw (cb env rs))→aD Γ draw r env (⟨f,d⟩::rs) nx m' K):aD Γ draw (⟨i,g⟩::r) env rs nx m K:=by
 obtain⟨hf,hb⟩:=hg.flag;unfold aD;rw[lD hM hF,k8,hf];refine⟨?_,ho,fun ha=>⟨d,by simpa using hv, ?_⟩⟩
 ·cases g with
  |none=>trivial
  |some jw=>exact⟨hC rfl,hb⟩
 ·have:=h ha;unfold aD at this;simp only[List.reverse_cons]at this;simpa only[List.length_reverse,hm]using this
def gz {i:aI}(hC:i.calm=true)(hg:GF rs g f)(d:D)(ho:f=true→i.dr Γ (cb env rs) m)
  (hv:f=true→i.val Γ (cb env rs) m (nx+rs.length)=d) (m':List (Nat×bo)) (hm:i.b9 Γ (cb env rs) m (nx+rs.length)=m')
  (h:(f=true→i.BO draw (cb env rs))→aD Γ draw r env (⟨f,d⟩::rs) nx m' K):aD Γ draw (⟨i,g⟩::r) env rs nx m K:=
 HC (by cases i<;>first|rfl|cases hC) (by simp[aI.sZ,hC]) (fun _=>hC) hg d ho hv m' hm h
def bH {i:aI}(hC:i.pure=true)(hg:GF rs g f)(d:D)(ho:f=true→i.dr Γ (cb env rs) m)
  (hv:f=true→i.val Γ (cb env rs) m (nx+rs.length)=d) 
  (h:(f=true→i.BO draw (cb env rs))→aD Γ draw r env (⟨f,d⟩::rs) nx m K):aD Γ draw (⟨i,g⟩::r) env rs nx m K:=
 gz (E7 hC) hg d ho hv m (Hu hC) h
def oJ {i:aI}(hM:i.cM=false)(d:D)(ho:i.dr Γ (cb env rs) m)
  (hv:i.val Γ (cb env rs) m (nx+rs.length)=d) (m':List (Nat×bo)) (hm:i.b9 Γ (cb env rs) m (nx+rs.length)=m')
  (h:i.BO draw (cb env rs)→aD Γ draw r env (⟨true,d⟩::rs) nx m' K):aD Γ draw (⟨i,none⟩::r) env rs nx m K:=
 HC hM (by simp[aI.sZ]) (fun h=>by cases h) rfl d (fun _=>ho) (fun _=>hv) m' hm (fun ha=>h (ha rfl))
def r_mv {x:Src}{fx:Bool}{d:D}(h:aD Γ draw r env (⟨f,d⟩::rs) nx m K)(hg:GF rs g f:=by exact cH)(hx:cb env rs x=⟨fx,d⟩:=by exact rfl)(kx:f=true→fx=true:=by exact bU):aD Γ draw (⟨.mv x,g⟩::r) env rs nx m K:=
 bH rfl hg _ (fun hf=>by simp[aI.dr,hx,kx hf]) (fun hf=>by simp[aI.val,hx]) (fun ha=>h)
def Qc {x:Src}{fx:Bool}{b:Bool}(h:aD Γ draw r env (⟨f,.bool (!b)⟩::rs) nx m K)(hg:GF rs g f:=by exact cH)(hx:cb env rs x=⟨fx,.bool b⟩:=by exact rfl)(kx:f=true→fx=true:=by exact bU):aD Γ draw (⟨.un .not x,g⟩::r) env rs nx m K:=
 bH rfl hg _ (fun hf=>by simp[aI.dr,hx,kx hf]) (fun hf=>by simp[aI.val,hx]) (fun ha=>h)
def Qe {c b:Src}{fc fb t y:Bool}(h:aD Γ draw r env (⟨f,.bool (t ||y)⟩::rs) nx m K)(hg:GF rs g f:=by exact cH)(hc:cb env rs c=⟨fc,.bool t⟩:=by exact rfl)(hb:cb env rs b=⟨fb,.bool y⟩:=by exact rfl)(kc:f=true→fc=true:=by exact bU)(kb:f=true→t=false→fb=true:=by intro h1 h2;first|(rw[h2];exact rfl)|(rw[h2,h1];rfl)|(rw[h1,h2];rfl)|simp_all):aD Γ draw (⟨.pick c (.c (.bool true)) b,g⟩::r) env rs nx m K:=
 bH rfl hg _ (fun hf=>by simp only[aI.dr,hc,hb];exact⟨kc hf,fun _=>rfl,fun e=>kb hf e⟩) (fun hf=>by simp only[aI.val,hc,hb];cases t<;>rfl) (fun _=>h)
def Hz {c a:Src}{fc fa t y:Bool}(h:aD Γ draw r env (⟨f,.bool (t&&y)⟩::rs) nx m K)(hg:GF rs g f:=by exact cH)(hc:cb env rs c=⟨fc,.bool t⟩:=by exact rfl)(ha:cb env rs a=⟨fa,.bool y⟩:=by exact rfl)(kc:f=true→fc=true:=by exact bU)(ka:f=true→t=true→fa=true:=by intro h1 h2;first|(rw[h2];exact rfl)|(rw[h2,h1];rfl)|(rw[h1,h2];rfl)|simp_all):aD Γ draw (⟨.pick c a (.c (.bool false)),g⟩::r) env rs nx m K:=
 bH rfl hg _ (fun hf=>by simp only[aI.dr,hc,ha];exact⟨kc hf,fun e=>ka hf e,fun _=>rfl⟩) (fun hf=>by simp only[aI.val,hc,ha];cases t<;>rfl) (fun _=>h)
def JJ {x y:Src}{fx fy:Bool}{a b:Int}(h:aD Γ draw r env (⟨f,.int .i64 (a+b)⟩::rs) nx m K)(hg:GF rs g f:=by exact cH)(hx:cb env rs x=⟨fx,.int .i64 a⟩:=by exact rfl)(hy:cb env rs y=⟨fy,.int .i64 b⟩:=by exact rfl)(kx:f=true→fx=true:=by exact bU)(ky:f=true→fy=true:=by exact bU)(hb:f=true→-9223372036854775808≤a+b∧a+b≤9223372036854775807:=by exact Dc):aD Γ draw (⟨.bin .add x y,g⟩::r) env rs nx m K:=
 bH rfl hg _ (fun hf=>by simp[aI.dr,hx,hy,kx hf,ky hf,jB]) (fun hf=>by simp only[aI.val,hx,hy,kF];rw[wrap_i64 (hb hf).1 (hb hf).2]) (fun ha=>h)
def Hy {x y:Src}{fx fy:Bool}{k:IntKind}{a b:Int}(v:Int)(h:aD Γ draw r env (⟨f,.int k v⟩::rs) nx m K)(hg:GF rs g f:=by exact cH)(hx:cb env rs x=⟨fx,.int k a⟩:=by exact rfl)(hy:cb env rs y=⟨fy,.int k b⟩:=by exact rfl)(kx:f=true→fx=true:=by exact bU)(ky:f=true→fy=true:=by exact bU)(hb:f=true→k.wrap (a+b)=v):aD Γ draw (⟨.bin .add x y,g⟩::r) env rs nx m K:=
 bH rfl hg _ (fun hf=>by simp[aI.dr,hx,hy,kx hf,ky hf,jB]) (fun hf=>by simp only[aI.val,hx,hy,kF];rw[hb hf]) (fun ha=>h)
def JK {x y:Src}{fx fy:Bool}{a b:Int}(h:aD Γ draw r env (⟨f,.int .i64 (a-b)⟩::rs) nx m K)(hg:GF rs g f:=by exact cH)(hx:cb env rs x=⟨fx,.int .i64 a⟩:=by exact rfl)(hy:cb env rs y=⟨fy,.int .i64 b⟩:=by exact rfl)(kx:f=true→fx=true:=by exact bU)(ky:f=true→fy=true:=by exact bU)(hb:f=true→-9223372036854775808≤a-b∧a-b≤9223372036854775807:=by exact Dc):aD Γ draw (⟨.bin .sub x y,g⟩::r) env rs nx m K:=
 bH rfl hg _ (fun hf=>by simp[aI.dr,hx,hy,kx hf,ky hf,jB]) (fun hf=>by simp only[aI.val,hx,hy,kF];rw[wrap_i64 (hb hf).1 (hb hf).2]) (fun ha=>h)
def HJ {x y:Src}{fx fy:Bool}{k:IntKind}{a b:Int}(v:Int)(h:aD Γ draw r env (⟨f,.int k v⟩::rs) nx m K)(hg:GF rs g f:=by exact cH)(hx:cb env rs x=⟨fx,.int k a⟩:=by exact rfl)(hy:cb env rs y=⟨fy,.int k b⟩:=by exact rfl)(kx:f=true→fx=true:=by exact bU)(ky:f=true→fy=true:=by exact bU)(hb:f=true→k.wrap (a-b)=v):aD Γ draw (⟨.bin .sub x y,g⟩::r) env rs nx m K:=
 bH rfl hg _ (fun hf=>by simp[aI.dr,hx,hy,kx hf,ky hf,jB]) (fun hf=>by simp only[aI.val,hx,hy,kF];rw[hb hf]) (fun ha=>h)
def D2 {x y:Src}{fx fy:Bool}{a b:Int}(h:aD Γ draw r env (⟨f,.int .i64 (a*b)⟩::rs) nx m K)(hg:GF rs g f:=by exact cH)(hx:cb env rs x=⟨fx,.int .i64 a⟩:=by exact rfl)(hy:cb env rs y=⟨fy,.int .i64 b⟩:=by exact rfl)(kx:f=true→fx=true:=by exact bU)(ky:f=true→fy=true:=by exact bU)(hb:f=true→-9223372036854775808≤a*b∧a*b≤9223372036854775807:=by exact Dc):aD Γ draw (⟨.bin .mul x y,g⟩::r) env rs nx m K:=
 bH rfl hg _ (fun hf=>by simp[aI.dr,hx,hy,kx hf,ky hf,jB]) (fun hf=>by simp only[aI.val,hx,hy,kF];rw[wrap_i64 (hb hf).1 (hb hf).2]) (fun ha=>h)
def Qf {x y:Src}{fx fy:Bool}{k:IntKind}{a b:Int}(v:Int)(h:aD Γ draw r env (⟨f,.int k v⟩::rs) nx m K)(hg:GF rs g f:=by exact cH)(hx:cb env rs x=⟨fx,.int k a⟩:=by exact rfl)(hy:cb env rs y=⟨fy,.int k b⟩:=by exact rfl)(kx:f=true→fx=true:=by exact bU)(ky:f=true→fy=true:=by exact bU)(hn:f=true→b≠0)(hb:f=true→k.wrap (a.tdiv b)=v):aD Γ draw (⟨.bin .quo x y,g⟩::r) env rs nx m K:=
 bH rfl hg _ (fun hf=>by simp[aI.dr,hx,hy,kx hf,ky hf,jB,hn hf]) (fun hf=>by simp only[aI.val,hx,hy,kF];rw[hb hf]) (fun ha=>h)
def KB {x y:Src}{fx fy:Bool}{k:IntKind}{a b:Int}(v:Int)(h:aD Γ draw r env (⟨f,.int k v⟩::rs) nx m K)(hg:GF rs g f:=by exact cH)(hx:cb env rs x=⟨fx,.int k a⟩:=by exact rfl)(hy:cb env rs y=⟨fy,.int k b⟩:=by exact rfl)(kx:f=true→fx=true:=by exact bU)(ky:f=true→fy=true:=by exact bU)(hn:f=true→b≠0)(hb:f=true→a.tmod b=v):aD Γ draw (⟨.bin .rem x y,g⟩::r) env rs nx m K:=
 bH rfl hg _ (fun hf=>by simp[aI.dr,hx,hy,kx hf,ky hf,jB,hn hf]) (fun hf=>by simp only[aI.val,hx,hy,kF];rw[hb hf]) (fun ha=>h)
def My {x y:Src}{fx fy:Bool}{k:IntKind}{a b:Int}(h:aD Γ draw r env (⟨f,.bool (decide (a<b))⟩::rs) nx m K)(hg:GF rs g f:=by exact cH)(hx:cb env rs x=⟨fx,.int k a⟩:=by exact rfl)(hy:cb env rs y=⟨fy,.int k b⟩:=by exact rfl)(kx:f=true→fx=true:=by exact bU)(ky:f=true→fy=true:=by exact bU):aD Γ draw (⟨.bin .lss x y,g⟩::r) env rs nx m K:=
 bH rfl hg _ (fun hf=>by simp[aI.dr,hx,hy,kx hf,ky hf,jB]) (fun hf=>by simp only[aI.val,hx,hy,kF]<;>rfl) (fun ha=>h)
def Mw {x y:Src}{fx fy:Bool}{k:IntKind}{a b:Int}(h:aD Γ draw r env (⟨f,.bool (decide (a≤b))⟩::rs) nx m K)(hg:GF rs g f:=by exact cH)(hx:cb env rs x=⟨fx,.int k a⟩:=by exact rfl)(hy:cb env rs y=⟨fy,.int k b⟩:=by exact rfl)(kx:f=true→fx=true:=by exact bU)(ky:f=true→fy=true:=by exact bU):aD Γ draw (⟨.bin .leq x y,g⟩::r) env rs nx m K:=
 bH rfl hg _ (fun hf=>by simp[aI.dr,hx,hy,kx hf,ky hf,jB]) (fun hf=>by simp only[aI.val,hx,hy,kF]<;>rfl) (fun ha=>h)
def Cq {x y:Src}{fx fy:Bool}{k:IntKind}{a b:Int}(h:aD Γ draw r env (⟨f,.bool (decide (b<a))⟩::rs) nx m K)(hg:GF rs g f:=by exact cH)(hx:cb env rs x=⟨fx,.int k a⟩:=by exact rfl)(hy:cb env rs y=⟨fy,.int k b⟩:=by exact rfl)(kx:f=true→fx=true:=by exact bU)(ky:f=true→fy=true:=by exact bU):aD Γ draw (⟨.bin .gtr x y,g⟩::r) env rs nx m K:=
 bH rfl hg _ (fun hf=>by simp[aI.dr,hx,hy,kx hf,ky hf,jB]) (fun hf=>by simp only[aI.val,hx,hy,kF]<;>rfl) (fun ha=>h)
def Mq {x y:Src}{fx fy:Bool}{k:IntKind}{a b:Int}(h:aD Γ draw r env (⟨f,.bool (decide (b≤a))⟩::rs) nx m K)(hg:GF rs g f:=by exact cH)(hx:cb env rs x=⟨fx,.int k a⟩:=by exact rfl)(hy:cb env rs y=⟨fy,.int k b⟩:=by exact rfl)(kx:f=true→fx=true:=by exact bU)(ky:f=true→fy=true:=by exact bU):aD Γ draw (⟨.bin .geq x y,g⟩::r) env rs nx m K:=
 bH rfl hg _ (fun hf=>by simp[aI.dr,hx,hy,kx hf,ky hf,jB]) (fun hf=>by simp only[aI.val,hx,hy,kF]<;>rfl) (fun ha=>h)
def Mo {x y:Src}{fx fy:Bool}{k:IntKind}{a b:Int}(h:aD Γ draw r env (⟨f,.bool (decide (a=b))⟩::rs) nx m K)(hg:GF rs g f:=by exact cH)(hx:cb env rs x=⟨fx,.int k a⟩:=by exact rfl)(hy:cb env rs y=⟨fy,.int k b⟩:=by exact rfl)(kx:f=true→fx=true:=by exact bU)(ky:f=true→fy=true:=by exact bU):aD Γ draw (⟨.bin .eql x y,g⟩::r) env rs nx m K:=
 bH rfl hg _ (fun hf=>by simp[aI.dr,hx,hy,kx hf,ky hf,jB]) (fun hf=>by simp only[aI.val,hx,hy,kF]<;>rfl) (fun ha=>h)
def MA {x y:Src}{fx fy:Bool}{k:IntKind}{a b:Int}(h:aD Γ draw r env (⟨f,.bool (!decide (a=b))⟩::rs) nx m K)(hg:GF rs g f:=by exact cH)(hx:cb env rs x=⟨fx,.int k a⟩:=by exact rfl)(hy:cb env rs y=⟨fy,.int k b⟩:=by exact rfl)(kx:f=true→fx=true:=by exact bU)(ky:f=true→fy=true:=by exact bU):aD Γ draw (⟨.bin .neq x y,g⟩::r) env rs nx m K:=
 bH rfl hg _ (fun hf=>by simp[aI.dr,hx,hy,kx hf,ky hf,jB]) (fun hf=>by simp only[aI.val,hx,hy,kF]<;>rfl) (fun ha=>h)
def Mz {x y:Src}{fx fy:Bool}{a b:List UInt8}(h:aD Γ draw r env (⟨f,.bool (Op.bytesLess a b)⟩::rs) nx m K)(hg:GF rs g f:=by exact cH)(hx:cb env rs x=⟨fx,.str a⟩:=by exact rfl)(hy:cb env rs y=⟨fy,.str b⟩:=by exact rfl)(kx:f=true→fx=true:=by exact bU)(ky:f=true→fy=true:=by exact bU):aD Γ draw (⟨.bin .lss x y,g⟩::r) env rs nx m K:=
 bH rfl hg _ (fun hf=>by simp[aI.dr,hx,hy,kx hf,ky hf,jB]) (fun hf=>by simp only[aI.val,hx,hy,kF,nb]) (fun ha=>h)
def Mx {x y:Src}{fx fy:Bool}{a b:List UInt8}(h:aD Γ draw r env (⟨f,.bool (Op.bytesLess a b ||decide (a=b))⟩::rs) nx m K)(hg:GF rs g f:=by exact cH)(hx:cb env rs x=⟨fx,.str a⟩:=by exact rfl)(hy:cb env rs y=⟨fy,.str b⟩:=by exact rfl)(kx:f=true→fx=true:=by exact bU)(ky:f=true→fy=true:=by exact bU):aD Γ draw (⟨.bin .leq x y,g⟩::r) env rs nx m K:=
 bH rfl hg _ (fun hf=>by simp[aI.dr,hx,hy,kx hf,ky hf,jB]) (fun hf=>by simp only[aI.val,hx,hy,kF,nb]) (fun ha=>h)
def Cr {x y:Src}{fx fy:Bool}{a b:List UInt8}(h:aD Γ draw r env (⟨f,.bool (!(Op.bytesLess a b ||decide (a=b)))⟩::rs) nx m K)(hg:GF rs g f:=by exact cH)(hx:cb env rs x=⟨fx,.str a⟩:=by exact rfl)(hy:cb env rs y=⟨fy,.str b⟩:=by exact rfl)(kx:f=true→fx=true:=by exact bU)(ky:f=true→fy=true:=by exact bU):aD Γ draw (⟨.bin .gtr x y,g⟩::r) env rs nx m K:=
 bH rfl hg _ (fun hf=>by simp[aI.dr,hx,hy,kx hf,ky hf,jB]) (fun hf=>by simp only[aI.val,hx,hy,kF,nb]) (fun ha=>h)
def Mr {x y:Src}{fx fy:Bool}{a b:List UInt8}(h:aD Γ draw r env (⟨f,.bool (!Op.bytesLess a b)⟩::rs) nx m K)(hg:GF rs g f:=by exact cH)(hx:cb env rs x=⟨fx,.str a⟩:=by exact rfl)(hy:cb env rs y=⟨fy,.str b⟩:=by exact rfl)(kx:f=true→fx=true:=by exact bU)(ky:f=true→fy=true:=by exact bU):aD Γ draw (⟨.bin .geq x y,g⟩::r) env rs nx m K:=
 bH rfl hg _ (fun hf=>by simp[aI.dr,hx,hy,kx hf,ky hf,jB]) (fun hf=>by simp only[aI.val,hx,hy,kF,nb]) (fun ha=>h)
def Mp {x y:Src}{fx fy:Bool}{a b:List UInt8}(h:aD Γ draw r env (⟨f,.bool (decide (a=b))⟩::rs) nx m K)(hg:GF rs g f:=by exact cH)(hx:cb env rs x=⟨fx,.str a⟩:=by exact rfl)(hy:cb env rs y=⟨fy,.str b⟩:=by exact rfl)(kx:f=true→fx=true:=by exact bU)(ky:f=true→fy=true:=by exact bU):aD Γ draw (⟨.bin .eql x y,g⟩::r) env rs nx m K:=
 bH rfl hg _ (fun hf=>by simp[aI.dr,hx,hy,kx hf,ky hf,jB]) (fun hf=>by simp only[aI.val,hx,hy,kF,nb]) (fun ha=>h)
def MB {x y:Src}{fx fy:Bool}{a b:List UInt8}(h:aD Γ draw r env (⟨f,.bool (!decide (a=b))⟩::rs) nx m K)(hg:GF rs g f:=by exact cH)(hx:cb env rs x=⟨fx,.str a⟩:=by exact rfl)(hy:cb env rs y=⟨fy,.str b⟩:=by exact rfl)(kx:f=true→fx=true:=by exact bU)(ky:f=true→fy=true:=by exact bU):aD Γ draw (⟨.bin .neq x y,g⟩::r) env rs nx m K:=
 bH rfl hg _ (fun hf=>by simp[aI.dr,hx,hy,kx hf,ky hf,jB]) (fun hf=>by simp only[aI.val,hx,hy,kF,nb]) (fun ha=>h)
def cO {x y:Src}{fx fy:Bool}{a b:List UInt8}(h:aD Γ draw r env (⟨f,.str (a++b)⟩::rs) nx m K)(hg:GF rs g f:=by exact cH)(hx:cb env rs x=⟨fx,.str a⟩:=by exact rfl)(hy:cb env rs y=⟨fy,.str b⟩:=by exact rfl)(kx:f=true→fx=true:=by exact bU)(ky:f=true→fy=true:=by exact bU)(hb:f=true→a.length+b.length≤9223372036854775807):aD Γ draw (⟨.bin .add x y,g⟩::r) env rs nx m K:=
 bH rfl hg _ (fun hf=>by simp[aI.dr,hx,hy,kx hf,ky hf,jB,hb hf]) (fun hf=>by simp only[aI.val,hx,hy,kF]) (fun ha=>h)
def P6 {x y:Src}{fx fy:Bool}{ag:Bool}{ks:List CK}{a b:D}{v:Bool}(h:aD Γ draw r env (⟨f,.bool (v)⟩::rs) nx m K)(hb:gp a.cells b.cells=v)(hg:GF rs g f:=by exact cH)(hx:cb env rs x=⟨fx,a⟩:=by exact rfl)(hy:cb env rs y=⟨fy,b⟩:=by exact rfl)(kx:f=true→fx=true:=by exact bU)(ky:f=true→fy=true:=by exact bU)(h1:f=true→a.isAgg=ag∧b.isAgg=ag∧eG ks a.cells∧eG ks b.cells:=by exact w9):aD Γ draw (⟨.eqA false ag ks x y,g⟩::r) env rs nx m K:=
 bH rfl hg _ (fun hf=>by simp only[aI.dr,hx,hy];exact⟨kx hf,ky hf,h1 hf⟩) (fun hf=>by simp only[aI.val,hx,hy];rw[hb];rfl) (fun ha=>h)
def KA {x y:Src}{fx fy:Bool}{ag:Bool}{ks:List CK}{a b:D}{v:Bool}(h:aD Γ draw r env (⟨f,.bool (!v)⟩::rs) nx m K)(hb:gp a.cells b.cells=v)(hg:GF rs g f:=by exact cH)(hx:cb env rs x=⟨fx,a⟩:=by exact rfl)(hy:cb env rs y=⟨fy,b⟩:=by exact rfl)(kx:f=true→fx=true:=by exact bU)(ky:f=true→fy=true:=by exact bU)(h1:f=true→a.isAgg=ag∧b.isAgg=ag∧eG ks a.cells∧eG ks b.cells:=by exact w9):aD Γ draw (⟨.eqA true ag ks x y,g⟩::r) env rs nx m K:=
 bH rfl hg _ (fun hf=>by simp only[aI.dr,hx,hy];exact⟨kx hf,ky hf,h1 hf⟩) (fun hf=>by simp only[aI.val,hx,hy];rw[hb];rfl) (fun ha=>h)
def AK {x:Src}{fx:Bool}{k k2:IntKind}{a:Int}(v:Int)(h:aD Γ draw r env (⟨f,.int k v⟩::rs) nx m K)(hg:GF rs g f:=by exact cH)(hx:cb env rs x=⟨fx,.int k2 a⟩:=by exact rfl)(kx:f=true→fx=true:=by exact bU)(hb:f=true→k.wrap a=v):aD Γ draw (⟨.cvi k x,g⟩::r) env rs nx m K:=
 bH rfl hg _ (fun hf=>by simp[aI.dr,hx,kx hf]) (fun hf=>by simp only[aI.val,hx];rw[hb hf]) (fun ha=>h)
def HI {x:Src}{fx:Bool}{s:List UInt8}(h:(f=true→draw=false→s.length≤9223372036854775807)→aD Γ draw r env (⟨f,.int .i64 s.length⟩::rs) nx m K)(hg:GF rs g f:=by exact cH)(hx:cb env rs x=⟨fx,.str s⟩:=by exact rfl)(kx:f=true→fx=true:=by exact bU):aD Γ draw (⟨.lenS x,g⟩::r) env rs nx m K:=
 bH rfl hg _ (fun hf=>by simp[aI.dr,hx,kx hf]) (fun hf=>by simp[aI.val,hx]) (fun ha=>h (fun hf hd=>by have:=ha hf;subst hd;simpa[aI.BO,hx,kx hf]using this))
def HG {x:Src}{fx:Bool}{α:Type}{k:Nat}{q:α→D}{xs:List α}(h:(f=true→draw=false→xs.length≤9223372036854775807)→aD Γ draw r env (⟨f,.int .i64 xs.length⟩::rs) nx m K)(hg:GF rs g f:=by exact cH)(hx:cb env rs x=⟨fx,.sl k (xs.map q)⟩:=by exact rfl)(kx:f=true→fx=true:=by exact bU):aD Γ draw (⟨.len x,g⟩::r) env rs nx m K:=
 bH rfl hg _ (fun hf=>by simp[aI.dr,hx,kx hf]) (fun hf=>by simp[aI.val,hx]) (fun ha=>h (fun hf hd=>by have:=ha hf;subst hd;simpa[aI.BO,hx,kx hf]using this))
def HH {x:Src}{fx:Bool}{l k i n:Nat}(h:(f=true→draw=false→n≤9223372036854775807)→aD Γ draw r env (⟨f,.int .i64 n⟩::rs) nx m K)(hg:GF rs g f:=by exact cH)(hx:cb env rs x=⟨fx,.own l k i n⟩:=by exact rfl)(kx:f=true→fx=true:=by exact bU):aD Γ draw (⟨.len x,g⟩::r) env rs nx m K:=
 bH rfl hg _ (fun hf=>by simp[aI.dr,hx,kx hf]) (fun hf=>by simp[aI.val,hx]) (fun ha=>h (fun hf hd=>by have:=ha hf;subst hd;simpa[aI.BO,hx,kx hf]using this))
def Mv {x:Src}{fx:Bool}(h:aD Γ draw r env (⟨f,.int .i64 0⟩::rs) nx m K)(hg:GF rs g f:=by exact cH)(hx:cb env rs x=⟨fx,.az⟩:=by exact rfl)(kx:f=true→fx=true:=by exact bU):aD Γ draw (⟨.len x,g⟩::r) env rs nx m K:=
 bH rfl hg _ (fun hf=>by simp[aI.dr,hx,kx hf]) (fun hf=>by simp[aI.val,hx]) (fun ha=>h)
def MC {x:Src}{fx:Bool}{l k i o:Nat}(h:aD Γ draw r env (⟨f,.ptr l k i o⟩::rs) nx m K)(hg:GF rs g f:=by exact cH)(hx:cb env rs x=⟨fx,.ptr l k i o⟩:=by exact rfl)(kx:f=true→fx=true:=by exact bU):aD Γ draw (⟨.nilck x,g⟩::r) env rs nx m K:=
 bH rfl hg _ (fun hf=>by simp[aI.dr,hx,kx hf]) (fun hf=>by simp[aI.val,hx]) (fun ha=>h)
def MD {x:Src}{fx:Bool}{k i o:Nat}{es:List D}(h:aD Γ draw r env (⟨f,.ref k es i o⟩::rs) nx m K)(hg:GF rs g f:=by exact cH)(hx:cb env rs x=⟨fx,.ref k es i o⟩:=by exact rfl)(kx:f=true→fx=true:=by exact bU):aD Γ draw (⟨.nilck x,g⟩::r) env rs nx m K:=
 bH rfl hg _ (fun hf=>by simp[aI.dr,hx,kx hf]) (fun hf=>by simp[aI.val,hx]) (fun ha=>h)
def P7 {x:Src}{fx:Bool}{off l k i o:Nat}(h:aD Γ draw r env (⟨f,.ptr l k i (o+off)⟩::rs) nx m K)(hg:GF rs g f:=by exact cH)(hx:cb env rs x=⟨fx,.ptr l k i o⟩:=by exact rfl)(kx:f=true→fx=true:=by exact bU):aD Γ draw (⟨.fa off x,g⟩::r) env rs nx m K:=
 bH rfl hg _ (fun hf=>by simp[aI.dr,hx,kx hf]) (fun hf=>by simp[aI.val,hx]) (fun ha=>h)
def P8 {x:Src}{fx:Bool}{off k i o:Nat}{es:List D}(h:aD Γ draw r env (⟨f,.ref k es i (o+off)⟩::rs) nx m K)(hg:GF rs g f:=by exact cH)(hx:cb env rs x=⟨fx,.ref k es i o⟩:=by exact rfl)(kx:f=true→fx=true:=by exact bU):aD Γ draw (⟨.fa off x,g⟩::r) env rs nx m K:=
 bH rfl hg _ (fun hf=>by simp[aI.dr,hx,kx hf]) (fun hf=>by simp[aI.val,hx]) (fun ha=>h)
def bJ {x y:Src}{fx fy:Bool}{α:Type}{k:Nat}{q:α→D}{xs:List α}{i:Int}{kk:IntKind}(j:Nat)(h:aD Γ draw r env (⟨f,.ref k (xs.map q) j 0⟩::rs) nx m K)(hg:GF rs g f:=by exact cH)(hx:cb env rs x=⟨fx,.sl k (xs.map q)⟩:=by exact rfl)(hy:cb env rs y=⟨fy,.int kk i⟩:=by exact rfl)(kx:f=true→fx=true:=by exact bU)(ky:f=true→fy=true:=by exact bU)(hj:f=true→i=(j:Int):=by exact wA)(hb:f=true→j<xs.length:=by exact tQ):aD Γ draw (⟨.ia k x y,g⟩::r) env rs nx m K:=
 bH rfl hg _ (fun hf=>by simp only[aI.dr,hx,hy,List.length_map];exact⟨kx hf,ky hf,trivial,by have:=hj hf;omega,by have:=hj hf;have:=hb hf;omega⟩) (fun hf=>by simp only[aI.val,hx,hy];rw[hj hf];rfl) (fun ha=>h)
def gW {x y:Src}{fx fy:Bool}{l k i0 n:Nat}{i:Int}{kk:IntKind}(j:Nat)(h:aD Γ draw r env (⟨f,.ptr l k (i0+j) 0⟩::rs) nx m K)(hg:GF rs g f:=by exact cH)(hx:cb env rs x=⟨fx,.own l k i0 n⟩:=by exact rfl)(hy:cb env rs y=⟨fy,.int kk i⟩:=by exact rfl)(kx:f=true→fx=true:=by exact bU)(ky:f=true→fy=true:=by exact bU)(hj:f=true→i=(j:Int):=by exact wA)(hb:f=true→j<n:=by exact tQ):aD Γ draw (⟨.ia k x y,g⟩::r) env rs nx m K:=
 bH rfl hg _ (fun hf=>by simp only[aI.dr,hx,hy];exact⟨kx hf,ky hf,trivial,by have:=hj hf;omega,by have:=hj hf;have:=hb hf;omega⟩) (fun hf=>by simp only[aI.val,hx,hy];rw[hj hf];rfl) (fun ha=>h)
def vF {x y:Src}{fx fy:Bool}{l k k2 n i0 o:Nat}{i:Int}{kk:IntKind}(j:Nat)(h:aD Γ draw r env (⟨f,.ptr l k2 i0 (o+j*k)⟩::rs) nx m K)(hg:GF rs g f:=by exact cH)(hx:cb env rs x=⟨fx,.ptr l k2 i0 o⟩:=by exact rfl)(hy:cb env rs y=⟨fy,.int kk i⟩:=by exact rfl)(kx:f=true→fx=true:=by exact bU)(ky:f=true→fy=true:=by exact bU)(hj:f=true→i=(j:Int):=by exact wA)(hb:f=true→j<n:=by exact tQ):aD Γ draw (⟨.iaP n k x y,g⟩::r) env rs nx m K:=
 bH rfl hg _ (fun hf=>by simp only[aI.dr,hx,hy];exact⟨kx hf,ky hf,by have:=hj hf;omega,by have:=hj hf;have:=hb hf;omega⟩) (fun hf=>by simp only[aI.val,hx,hy];rw[hj hf];rfl) (fun ha=>h)
def Cs {x y:Src}{fx fy:Bool}{k k2 n i0 o:Nat}{es:List D}{i:Int}{kk:IntKind}(j:Nat)(h:aD Γ draw r env (⟨f,.ref k2 es i0 (o+j*k)⟩::rs) nx m K)(hg:GF rs g f:=by exact cH)(hx:cb env rs x=⟨fx,.ref k2 es i0 o⟩:=by exact rfl)(hy:cb env rs y=⟨fy,.int kk i⟩:=by exact rfl)(kx:f=true→fx=true:=by exact bU)(ky:f=true→fy=true:=by exact bU)(hj:f=true→i=(j:Int):=by first|exact fun _=>rfl|(intro _;omega))(hb:f=true→j<n:=by intro _;omega):aD Γ draw (⟨.iaP n k x y,g⟩::r) env rs nx m K:=
 bH rfl hg _ (fun hf=>by simp only[aI.dr,hx,hy];exact⟨kx hf,ky hf,by have:=hj hf;omega,by have:=hj hf;have:=hb hf;omega⟩) (fun hf=>by simp only[aI.val,hx,hy];rw[hj hf];rfl) (fun ha=>h)
def mX {x y:Src}{fx fy:Bool}{s:List UInt8}{i:Int}{kk:IntKind}(j:Nat)(h:aD Γ draw r env (⟨f,.int .u8 (at8 s j)⟩::rs) nx m K)(hg:GF rs g f:=by exact cH)(hx:cb env rs x=⟨fx,.str s⟩:=by exact rfl)(hy:cb env rs y=⟨fy,.int kk i⟩:=by exact rfl)(kx:f=true→fx=true:=by exact bU)(ky:f=true→fy=true:=by exact bU)(hj:f=true→i=(j:Int):=by exact wA)(hb:f=true→j<s.length:=by exact tQ):aD Γ draw (⟨.ixS x y,g⟩::r) env rs nx m K:=
 bH rfl hg _ (fun hf=>by simp only[aI.dr,hx,hy];exact⟨kx hf,ky hf,by have:=hj hf;omega,by have:=hj hf;have:=hb hf;omega⟩) (fun hf=>by simp only[aI.val,hx,hy];rw[hj hf];rfl) (fun ha=>h)
def Ms {x y:Src}{fx fy:Bool}{α:Type}{k:Nat}{q:α→D}{xs:List α}{i:Int}{kk:IntKind}(h:aD Γ draw r env (⟨f,.ref k (xs.map q) i.toNat 0⟩::rs) nx m K)(hg:GF rs g f:=by exact cH)(hx:cb env rs x=⟨fx,.sl k (xs.map q)⟩:=by exact rfl)(hy:cb env rs y=⟨fy,.int kk i⟩:=by exact rfl)(kx:f=true→fx=true:=by exact bU)(ky:f=true→fy=true:=by exact bU)(hb:f=true→0≤i∧i<(xs.length:Nat):=by exact Dc):aD Γ draw (⟨.ia k x y,g⟩::r) env rs nx m K:=
 bH rfl hg _ (fun hf=>by simp only[aI.dr,hx,hy,List.length_map];exact⟨kx hf,ky hf,trivial,(hb hf).1,(hb hf).2⟩) (fun hf=>by simp only[aI.val,hx,hy]<;>rfl) (fun ha=>h)
def Mt {x y:Src}{fx fy:Bool}{l k i0 n:Nat}{i:Int}{kk:IntKind}(h:aD Γ draw r env (⟨f,.ptr l k (i0+i.toNat) 0⟩::rs) nx m K)(hg:GF rs g f:=by exact cH)(hx:cb env rs x=⟨fx,.own l k i0 n⟩:=by exact rfl)(hy:cb env rs y=⟨fy,.int kk i⟩:=by exact rfl)(kx:f=true→fx=true:=by exact bU)(ky:f=true→fy=true:=by exact bU)(hb:f=true→0≤i∧i<(n:Nat):=by exact Dc):aD Γ draw (⟨.ia k x y,g⟩::r) env rs nx m K:=
 bH rfl hg _ (fun hf=>by simp only[aI.dr,hx,hy,List.length_map];exact⟨kx hf,ky hf,trivial,(hb hf).1,(hb hf).2⟩) (fun hf=>by simp only[aI.val,hx,hy]<;>rfl) (fun ha=>h)
def Mu {x y:Src}{fx fy:Bool}{s:List UInt8}{i:Int}{kk:IntKind}(h:aD Γ draw r env (⟨f,.int .u8 (at8 s i.toNat)⟩::rs) nx m K)(hg:GF rs g f:=by exact cH)(hx:cb env rs x=⟨fx,.str s⟩:=by exact rfl)(hy:cb env rs y=⟨fy,.int kk i⟩:=by exact rfl)(kx:f=true→fx=true:=by exact bU)(ky:f=true→fy=true:=by exact bU)(hb:f=true→0≤i∧i<(s.length:Nat):=by exact Dc):aD Γ draw (⟨.ixS x y,g⟩::r) env rs nx m K:=
 bH rfl hg _ (fun hf=>by simp only[aI.dr,hx,hy,List.length_map];exact⟨kx hf,ky hf,(hb hf).1,(hb hf).2⟩) (fun hf=>by simp only[aI.val,hx,hy]<;>rfl) (fun ha=>h)
def dV {x y:Src}{fx fy:Bool}{s:List UInt8}{k2:IntKind}{a:Int}(i:Nat)(h:aD Γ draw r env (⟨f,.str (s.drop i)⟩::rs) nx m K)(hg:GF rs g f:=by exact cH)(hx:cb env rs x=⟨fx,.str s⟩:=by exact rfl)(hy:cb env rs y=⟨fy,.int k2 a⟩:=by exact rfl)(kx:f=true→fx=true:=by exact bU)(ky:f=true→fy=true:=by exact bU)(hi:f=true→a=(i:Int):=by exact wA)(hb:f=true→i≤s.length:=by exact tQ):aD Γ draw (⟨.slS x (some y) none,g⟩::r) env rs nx m K:=
 bH rfl hg _ (fun hf=>by simp only[aI.dr,FL,dO,hx,hy];have:=hb hf;have:=hi hf;refine⟨kx hf,ky hf,trivial, ?_⟩;simp only[ng,dE,true_and,and_true,Int.ofNat_eq_natCast];omega) (fun hf=>by simp only[aI.val,dO,dE,hx,hy];rw[hi hf];simp) (fun ha=>h)
def rz {x y:Src}{fx fy:Bool}{α:Type}{k:Nat}{q:α→D}{s:List α}{k2:IntKind}{a:Int}(i:Nat)(h:aD Γ draw r env (⟨f,.sl k ((s.drop i).map q)⟩::rs) nx m K)(hg:GF rs g f:=by exact cH)(hx:cb env rs x=⟨fx,.sl k (s.map q)⟩:=by exact rfl)(hy:cb env rs y=⟨fy,.int k2 a⟩:=by exact rfl)(kx:f=true→fx=true:=by exact bU)(ky:f=true→fy=true:=by exact bU)(hi:f=true→a=(i:Int):=by exact wA)(hb:f=true→i≤s.length:=by exact tQ):aD Γ draw (⟨.slA k x (some y) none,g⟩::r) env rs nx m K:=
 bH rfl hg _ (fun hf=>by simp only[aI.dr,FL,dO,hx,hy,List.length_map];have:=hb hf;have:=hi hf;refine⟨kx hf,ky hf,trivial,trivial, ?_⟩;simp only[ng,dE,true_and,and_true,Int.ofNat_eq_natCast];omega) (fun hf=>by simp only[aI.val,dO,dE,hx,hy];rw[hi hf];first|(simp only[List.take_length,Int.toNat_natCast,List.map_drop];done)|simp[List.map_drop,List.map_take]) (fun ha=>h)
def ko {x z:Src}{fx fz:Bool}{s:List UInt8}{k3:IntKind}{c:Int}(j:Nat)(h:aD Γ draw r env (⟨f,.str (s.take j)⟩::rs) nx m K)(hg:GF rs g f:=by exact cH)(hx:cb env rs x=⟨fx,.str s⟩:=by exact rfl)(hz:cb env rs z=⟨fz,.int k3 c⟩:=by exact rfl)(kx:f=true→fx=true:=by exact bU)(kz:f=true→fz=true:=by exact bU)(hj:f=true→c=(j:Int):=by exact wA)(hb:f=true→j≤s.length:=by exact tQ):aD Γ draw (⟨.slS x none (some z),g⟩::r) env rs nx m K:=
 bH rfl hg _ (fun hf=>by simp only[aI.dr,FL,dO,hx,hz];have:=hb hf;have:=hj hf;refine⟨kx hf,trivial,kz hf, ?_⟩;simp only[ng,dE,true_and,and_true,Int.ofNat_eq_natCast];omega) (fun hf=>by simp only[aI.val,dO,dE,hx,hz];rw[hj hf];simp) (fun ha=>h)
def oK {x z:Src}{fx fz:Bool}{α:Type}{k:Nat}{q:α→D}{s:List α}{k3:IntKind}{c:Int}(j:Nat)(h:aD Γ draw r env (⟨f,.sl k ((s.take j).map q)⟩::rs) nx m K)(hg:GF rs g f:=by exact cH)(hx:cb env rs x=⟨fx,.sl k (s.map q)⟩:=by exact rfl)(hz:cb env rs z=⟨fz,.int k3 c⟩:=by exact rfl)(kx:f=true→fx=true:=by exact bU)(kz:f=true→fz=true:=by exact bU)(hj:f=true→c=(j:Int):=by exact wA)(hb:f=true→j≤s.length:=by exact tQ):aD Γ draw (⟨.slA k x none (some z),g⟩::r) env rs nx m K:=
 bH rfl hg _ (fun hf=>by simp only[aI.dr,FL,dO,hx,hz,List.length_map];have:=hb hf;have:=hj hf;refine⟨kx hf,trivial,kz hf,trivial, ?_⟩;simp only[ng,dE,true_and,and_true,Int.ofNat_eq_natCast];omega) (fun hf=>by simp only[aI.val,dO,dE,hx,hz];rw[hj hf];first|(simp only[List.take_length,Int.toNat_natCast,List.map_drop];done)|simp[List.map_drop,List.map_take]) (fun ha=>h)
def vG {x z:Src}{fx fz:Bool}{l k i0 n:Nat}{k3:IntKind}{c:Int}(j:Nat)(h:aD Γ draw r env (⟨f,.own l k i0 j⟩::rs) nx m K)(hg:GF rs g f:=by exact cH)(hx:cb env rs x=⟨fx,.own l k i0 n⟩:=by exact rfl)(hz:cb env rs z=⟨fz,.int k3 c⟩:=by exact rfl)(kx:f=true→fx=true:=by exact bU)(kz:f=true→fz=true:=by exact bU)(hj:f=true→c=(j:Int):=by exact wA)(hb:f=true→j≤n:=by exact tQ):aD Γ draw (⟨.slA k x none (some z),g⟩::r) env rs nx m K:=
 bH rfl hg _ (fun hf=>by simp only[aI.dr,FL,dO,hx,hz];have:=hb hf;have:=hj hf;refine⟨kx hf,trivial,kz hf,trivial, ?_⟩;simp only[ng,dE,true_and,and_true,Int.ofNat_eq_natCast];omega) (fun hf=>by simp only[aI.val,dO,dE,hx,hz];rw[hj hf];simp) (fun ha=>h)
def vH {x y z:Src}{fx fy fz:Bool}{s:List UInt8}{k2:IntKind}{a:Int}(i:Nat){k3:IntKind}{c:Int}(j:Nat)(h:aD Γ draw r env (⟨f,.str ((s.take j).drop i)⟩::rs) nx m K)(hg:GF rs g f:=by exact cH)(hx:cb env rs x=⟨fx,.str s⟩:=by exact rfl)(hy:cb env rs y=⟨fy,.int k2 a⟩:=by exact rfl)(hz:cb env rs z=⟨fz,.int k3 c⟩:=by exact rfl)(kx:f=true→fx=true:=by exact bU)(ky:f=true→fy=true:=by exact bU)(kz:f=true→fz=true:=by exact bU)(hi:f=true→a=(i:Int):=by exact wA)(hj:f=true→c=(j:Int):=by exact wA)(hb:f=true→i≤j∧j≤s.length:=by exact Dc):aD Γ draw (⟨.slS x (some y) (some z),g⟩::r) env rs nx m K:=
 bH rfl hg _ (fun hf=>by simp only[aI.dr,FL,dO,hx,hy,hz];have:=hb hf;have:=hi hf;have:=hj hf;refine⟨kx hf,ky hf,kz hf, ?_⟩;simp only[ng,dE,true_and,and_true,Int.ofNat_eq_natCast];omega) (fun hf=>by simp only[aI.val,dO,dE,hx,hy,hz];rw[hi hf,hj hf];simp) (fun ha=>h)
def dU {x:Src}{fx:Bool}{i:Nat}{ds:List D}(v:D)(h:aD Γ draw r env (⟨f,v⟩::rs) nx m K)(hg:GF rs g f:=by exact cH)(hx:cb env rs x=⟨fx,.tup ds⟩:=by exact rfl)(kx:f=true→fx=true:=by exact bU)(hv:f=true→ds.getD i .any=v:=by exact fun _=>rfl)(hb:f=true→i<ds.length:=by intro _;simp only[List.length_cons,List.length_nil];omega):aD Γ draw (⟨.ext x i,g⟩::r) env rs nx m K:=
 bH rfl hg _ (fun hf=>by simp only[aI.dr,hx];exact⟨kx hf,hb hf⟩) (fun hf=>by simp only[aI.val,hx];exact hv hf) (fun ha=>h)
def fT {z:List D}{ps:List (Nat×Nat×Src)}(v:List D)(h:aD Γ draw r env (⟨f,.agg v⟩::rs) nx m K)(hg:GF rs g f:=by exact cH)(hv:f=true→uK (cb env rs) z ps=v:=by exact fun _=>rfl)(ho:f=true→xq (cb env rs) z.length ps:=by exact w9):aD Γ draw (⟨.build z ps,g⟩::r) env rs nx m K:=
 bH rfl hg _ (fun hf=>ho hf) (fun hf=>by simp only[aI.val];rw[hv hf]) (fun _=>h)
def aW {z:List D}{ps:List (Nat×Nat×Src)}(d:D)(h:aD Γ draw r env (⟨f,d⟩::rs) nx m K)(hg:GF rs g f:=by exact cH)(hv:f=true→D.agg (uK (cb env rs) z ps)=d:=by exact fun _=>rfl)(ho:f=true→xq (cb env rs) z.length ps:=by exact w9):aD Γ draw (⟨.build z ps,g⟩::r) env rs nx m K:=
 bH rfl hg _ (fun hf=>ho hf) (fun hf=>by simp only[aI.val];exact hv hf) (fun _=>h)
def L7 {e:D}{n o:Nat}{ag:Bool}(h:e.isAgg=ag):nV e n n o ag=e:=by simp[nV,h]
def cG {x:Src}{fx:Bool}{n l:Nat}{ag:Bool}{d:D}(h:aD Γ draw r env (⟨f,d⟩::rs) nx m K)(hg:GF rs g f:=by exact cH)(hx:cb env rs x=⟨fx,.ptr l n 0 0⟩:=by exact rfl)(kx:f=true→fx=true:=by exact bU)(hl:f=true→look m l=some (.buf n [d]):=by exact fun _=>rfl)(ha:f=true→d.isAgg=ag:=by exact fun _=>rfl):aD Γ draw (⟨.ld n ag x,g⟩::r) env rs nx m K:=
 gz rfl hg _ (fun hf=>by simp only[aI.dr,hx,At,et,hl hf];exact⟨kx hf,⟨trivial,by simp⟩,by omega⟩) (fun hf=>by simp only[aI.val,hx,zK,aS,hl hf,List.getD_cons_zero];exact L7 (ha hf)) m rfl (fun ha=>h)
def bc {x:Src}{fx:Bool}{n l k o:Nat}{ag:Bool}{d:D}(v:D)(h:aD Γ draw r env (⟨f,v⟩::rs) nx m K)(hg:GF rs g f:=by exact cH)(hx:cb env rs x=⟨fx,.ptr l k 0 o⟩:=by exact rfl)(kx:f=true→fx=true:=by exact bU)(hl:f=true→look m l=some (.buf k [d]):=by exact fun _=>rfl)(hv:f=true→nV d k n o ag=v:=by exact fun _=>rfl)(ho:o+n≤k:=by omega):aD Γ draw (⟨.ld n ag x,g⟩::r) env rs nx m K:=
 gz rfl hg _ (fun hf=>by simp only[aI.dr,hx,At,et,hl hf];exact⟨kx hf,⟨trivial,by simp⟩,ho⟩) (fun hf=>by simp only[aI.val,hx,zK,aS,hl hf,List.getD_cons_zero];exact hv hf) m rfl (fun ha=>h)
def HD {x:Src}{fx:Bool}{n l k i o:Nat}{ag:Bool}{es:List D}(v:D)(h:aD Γ draw r env (⟨f,v⟩::rs) nx m K)(hg:GF rs g f:=by exact cH)(hx:cb env rs x=⟨fx,.ptr l k i o⟩:=by exact rfl)(kx:f=true→fx=true:=by exact bU)(hl:f=true→look m l=some (.buf k es):=by exact fun _=>rfl)(hi:f=true→i<es.length)(hv:f=true→nV (es.getD i .any) k n o ag=v)(ho:o+n≤k:=by omega):aD Γ draw (⟨.ld n ag x,g⟩::r) env rs nx m K:=
 gz rfl hg _ (fun hf=>by simp only[aI.dr,hx,At,et,hl hf];exact⟨kx hf,⟨trivial,by have:=hi hf;omega⟩,ho⟩) (fun hf=>by simp only[aI.val,hx,zK,aS,hl hf];exact hv hf) m rfl (fun ha=>h)
def oI {x:Src}{fx:Bool}{α:Type} [Inhabited α]{n l k i o:Nat}{ag:Bool}{q:α→D}{xs:List α}(v:D)(h:aD Γ draw r env (⟨f,v⟩::rs) nx m K)(hg:GF rs g f:=by exact cH)(hx:cb env rs x=⟨fx,.ptr l k i o⟩:=by exact rfl)(kx:f=true→fx=true:=by exact bU)(hl:f=true→look m l=some (.buf k (xs.map q)):=by exact fun _=>rfl)(hi:f=true→i<xs.length:=by exact tQ)(hv:f=true→nV (q xs[i]!) k n o ag=v:=by exact fun _=>rfl)(ho:o+n≤k:=by omega):aD Γ draw (⟨.ld n ag x,g⟩::r) env rs nx m K:=
 gz rfl hg _ (fun hf=>by simp only[aI.dr,hx,At,et,hl hf,List.length_map];exact⟨kx hf,⟨trivial,by have:=hi hf;omega⟩,ho⟩) (fun hf=>by simp only[aI.val,hx,zK,aS,hl hf];rw[getD_map (hi hf)];exact hv hf) m rfl (fun ha=>h)
def bD {x:Src}{fx:Bool}{α:Type} [Inhabited α]{n k i o:Nat}{ag:Bool}{q:α→D}{xs:List α}(v:D)(h:aD Γ draw r env (⟨f,v⟩::rs) nx m K)(hg:GF rs g f:=by exact cH)(hx:cb env rs x=⟨fx,.ref k (xs.map q) i o⟩:=by exact rfl)(kx:f=true→fx=true:=by exact bU)(hi:f=true→i<xs.length:=by exact tQ)(hv:f=true→nV (q xs[i]!) k n o ag=v:=by exact fun _=>rfl)(ho:o+n≤k:=by omega):aD Γ draw (⟨.ld n ag x,g⟩::r) env rs nx m K:=
 gz rfl hg _ (fun hf=>by simp only[aI.dr,hx,At,List.length_map];exact⟨kx hf,hi hf,ho⟩) (fun hf=>by simp only[aI.val,hx,zK];rw[getD_map (hi hf)];exact hv hf) m rfl (fun ha=>h)
def dM {x:Src}{fx:Bool}{n k i o:Nat}{ag:Bool}{es:List D}(v:D)(h:aD Γ draw r env (⟨f,v⟩::rs) nx m K)(hg:GF rs g f:=by exact cH)(hx:cb env rs x=⟨fx,.ref k es i o⟩:=by exact rfl)(kx:f=true→fx=true:=by exact bU)(hi:f=true→i<es.length:=by intro _;simp only[List.length_cons,List.length_nil];omega)(hv:f=true→nV (es.getD i .any) k n o ag=v:=by exact fun _=>rfl)(ho:o+n≤k:=by omega):aD Γ draw (⟨.ld n ag x,g⟩::r) env rs nx m K:=
 gz rfl hg _ (fun hf=>by simp only[aI.dr,hx,At];exact⟨kx hf,hi hf,ho⟩) (fun hf=>by simp only[aI.val,hx,zK];exact hv hf) m rfl (fun ha=>h)
def ze {x:Src}{fx:Bool}{n k i o:Nat}{ag:Bool}{es:List D}(v:D)(h:aD Γ draw r env (⟨f,v⟩::rs) nx m K)(hg:GF rs g f:=by exact cH)(hx:cb env rs x=⟨fx,.ref k es i o⟩:=by exact rfl)(kx:f=true→fx=true:=by exact bU)(hi:f=true→i<es.length:=by intro _;simp only[List.length_cons,List.length_nil];omega)(hv:f=true→nV (es.getD i .any) k n o ag=v:=by exact fun _=>rfl)(ho:o+n≤k:=by omega):aD Γ draw (⟨.ldI n ag x,g⟩::r) env rs nx m K:=
 bH rfl hg _ (fun hf=>by simp only[aI.dr,hx,At];exact⟨kx hf,hi hf,ho⟩) (fun hf=>by simp only[aI.val,hx,zK];exact hv hf) (fun ha=>h)
def P5 {x:Src}{fx:Bool}{k:Nat}{d:D}{L:Nat}{m2:List (Nat×bo)}(h:aD Γ draw r env (⟨f,.ptr L k 0 0⟩::rs) nx m2 K)(hg:GF rs g f:=by exact cH)(hx:cb env rs x=⟨fx,d⟩:=by exact rfl)(kx:f=true→fx=true:=by exact bU)(hc:d.cells.length=k:=by exact rfl)(hL:nx+rs.length=L:=by exact tP)(hm:cE m L (.buf k [d])=m2:=by simp only[cE,bS,Nat.reduceEqDiff,if_true,if_false,Nat.reduceAdd,reduceCtorEq];exact rfl):aD Γ draw (⟨.box k x,g⟩::r) env rs nx m K:=
 gz rfl hg _ (fun hf=>by simp only[aI.dr,hx];exact⟨kx hf,hc⟩) (fun hf=>by simp only[aI.val,hx,hL]) _ (by simp only[aI.b9,hx,hL];exact hm) (fun _=>h)
def P9 {L:Nat}{m2:List (Nat×bo)}(h:aD Γ draw r env (⟨f,.ptr L 2 0 0⟩::rs) nx m2 K)(hg:GF rs g f:=by exact cH)(hL:nx+rs.length=L:=by exact tP)(hm:cE m L (.bld none 0 false)=m2:=by simp only[cE,bS,Nat.reduceEqDiff,if_true,if_false,Nat.reduceAdd,reduceCtorEq];exact rfl):aD Γ draw (⟨.mkB,g⟩::r) env rs nx m K:=
 gz rfl hg _ (fun _=>trivial) (fun hf=>by simp only[aI.val,hL]) _ (by simp only[aI.b9,hL];exact hm) (fun _=>h)
def Qh {x:Src}{fx:Bool}{s:List UInt8}{L:Nat}{m2:List (Nat×bo)}(h:aD Γ draw r env (⟨f,.own L 1 0 s.length⟩::rs) nx m2 K)(hg:GF rs g f:=by exact cH)(hx:cb env rs x=⟨fx,.str s⟩:=by exact rfl)(kx:f=true→fx=true:=by exact bU)(hL:nx+rs.length=L:=by exact tP)(hm:cE m L (.buf 1 (s.map fun b=>.int .u8 b.toNat))=m2:=by simp only[cE,bS,Nat.reduceEqDiff,if_true,if_false,Nat.reduceAdd,reduceCtorEq];exact rfl):aD Γ draw (⟨.s2b x,g⟩::r) env rs nx m K:=
 gz rfl hg _ (fun hf=>by simp only[aI.dr,hx];exact⟨kx hf,trivial⟩) (fun hf=>by simp only[aI.val,hx,hL]) _ (by simp only[aI.b9,hx,hL];exact hm) (fun _=>h)
def Qg {x:Src}{fx:Bool}{s:List UInt8}{L:Nat}{m2:List (Nat×bo)}(h:aD Γ draw r env (⟨f,.it L⟩::rs) nx m2 K)(hg:GF rs g f:=by exact cH)(hx:cb env rs x=⟨fx,.str s⟩:=by exact rfl)(kx:f=true→fx=true:=by exact bU)(hL:nx+rs.length=L:=by exact tP)(hm:cE m L (.iter s 0)=m2:=by simp only[cE,bS,Nat.reduceEqDiff,if_true,if_false,Nat.reduceAdd,reduceCtorEq];exact rfl):aD Γ draw (⟨.rng x,g⟩::r) env rs nx m K:=
 gz rfl hg _ (fun hf=>by simp only[aI.dr,hx];exact⟨kx hf,trivial⟩) (fun hf=>by simp only[aI.val,hx,hL]) _ (by simp only[aI.b9,hx,hL];exact hm) (fun _=>h)
def cx {k n:Nat}{z:D}{ps:List (Nat×Src)}{L:Nat}{m2:List (Nat×bo)}(es:List D)(h:aD Γ draw r env (⟨f,.own L k 0 n⟩::rs) nx m2 K)(hg:GF rs g f:=by exact cH)(he:kR (cb env rs) (List.replicate n z) ps=es:=by exact rfl)(ho:f=true→qi (cb env rs) k n ps:=by exact w9)(hz:z.cells.length=k:=by exact rfl)(hL:nx+rs.length=L:=by exact tP)(hm:cE m L (.buf k es)=m2:=by simp only[cE,bS,Nat.reduceEqDiff,if_true,if_false,Nat.reduceAdd,reduceCtorEq];exact rfl):aD Γ draw (⟨.bsl k z n ps,g⟩::r) env rs nx m K:=
 gz rfl hg _ (fun hf=>⟨hz,ho hf⟩) (fun hf=>by simp only[aI.val,hL]) _ (by simp only[aI.b9,he,hL];exact hm) (fun _=>h)
def Qb {k:Nat}{z:D}{x y:Src}{k1 k2:IntKind}{a c:Int}{L:Nat}{m2:List (Nat×bo)}(n:Nat)(h:aD Γ draw r env (⟨true,.own L k 0 n⟩::rs) nx m2 K)(hx:cb env rs x=⟨true,.int k1 a⟩:=by exact rfl)(hy:cb env rs y=⟨true,.int k2 c⟩:=by exact rfl)(hn:a=(n:Int):=by first|exact rfl|omega)(hc:a≤c∧c≤1073741824:=by constructor<;>omega)(hz:z.cells.length=k:=by exact rfl)(hL:nx+rs.length=L:=by exact tP)(hm:cE m L (.buf k (List.replicate n z))=m2:=by simp only[cE,bS,Nat.reduceEqDiff,if_true,if_false,Nat.reduceAdd,reduceCtorEq];exact rfl):aD Γ draw (⟨.mks k z x y,none⟩::r) env rs nx m K:=
 oJ rfl _ (by simp only[aI.dr,hx,hy];exact⟨trivial,trivial,hz,by omega,hc.1,hc.2⟩) (by simp only[aI.val,hx,hL,D.nat,hn];rfl) _ (by simp only[aI.b9,hx,hL,D.nat,hn];exact hm) (fun _=>h)
def aL {n l k o:Nat}{x y:Src}{d v:D}{m2:List (Nat×bo)}(e:D)(h:aD Γ draw r env (⟨true,.any⟩::rs) nx m2 K)(hx:cb env rs x=⟨true,.ptr l k 0 o⟩:=by exact rfl)(hy:cb env rs y=⟨true,v⟩:=by exact rfl)(hl:look m l=some (.buf k [d]):=by exact rfl)(hc:v.cells.length=n:=by exact rfl)(he:tM d k n o v=e:=by exact rfl)(ho:o+n≤k:=by omega)(hm:cE m l (.buf k [e])=m2:=by simp only[cE,bS,Nat.reduceEqDiff,if_true,if_false,Nat.reduceAdd,reduceCtorEq];exact rfl):aD Γ draw (⟨.st n x y,none⟩::r) env rs nx m K:=
 oJ rfl _ (by simp only[aI.dr,hx,hy,et,hl];exact⟨trivial,trivial,hc,⟨trivial,by simp⟩,ho⟩) rfl _ (by simp only[aI.b9,hx,hy,aS,hl,List.getD_cons_zero,List.set_cons_zero,he];exact hm) (fun _=>h)
def rA {n l k i o:Nat}{x y:Src}{v:D}{es:List D}{m2:List (Nat×bo)}(es2:List D)(h:aD Γ draw r env (⟨true,.any⟩::rs) nx m2 K)(hx:cb env rs x=⟨true,.ptr l k i o⟩:=by exact rfl)(hy:cb env rs y=⟨true,v⟩:=by exact rfl)(hl:look m l=some (.buf k es):=by exact rfl)(hi:i<es.length)(hc:v.cells.length=n:=by exact rfl)(he:es.set i (tM (es.getD i .any) k n o v)=es2)(ho:o+n≤k:=by omega)(hm:cE m l (.buf k es2)=m2:=by simp only[cE,bS,Nat.reduceEqDiff,if_true,if_false,Nat.reduceAdd,reduceCtorEq];exact rfl):aD Γ draw (⟨.st n x y,none⟩::r) env rs nx m K:=
 oJ rfl _ (by simp only[aI.dr,hx,hy,et,hl];exact⟨trivial,trivial,hc,⟨trivial,by omega⟩,ho⟩) rfl _ (by simp only[aI.b9,hx,hy,aS,hl,he];exact hm) (fun _=>h)
def rQ (m:List (Nat×bo))(k:Nat)(d:D)(ys:List D):Prop:=yK m k d∧nT m d=ys
def rQ.sl {k:Nat}{es:List D}:rQ m k (.sl k es) es:=⟨rfl,rfl⟩
def rQ.az {k:Nat}:rQ m k .az []:=⟨trivial,rfl⟩
def rQ.own {l k i n:Nat}{es:List D}(hl:look m l=some (.buf k es))(hb:i+n≤es.length):rQ m k (.own l k i n) ((es.drop i).take n):=⟨⟨rfl,by simp only[et,hl];exact⟨trivial,hb⟩⟩,by simp only[nT,aS,hl]⟩
def rQ.all {l k n:Nat}{es:List D}(hl:look m l=some (.buf k es))(hb:n=es.length):rQ m k (.own l k 0 n) es:=by
 have:=rQ.own (i:=0) (n:=n) hl (by omega);simpa[hb]using this
def rQ.str {s:List UInt8}:rQ m 1 (.str s) (s.map fun b=>.int .u8 b.toNat):=⟨rfl,rfl⟩
def Mm {k n:Nat}{x y:Src}{d:D}{ys:List D}{L:Nat}{m2:List (Nat×bo)}(h:aD Γ draw r env (⟨true,.own L k 0 n⟩::rs) nx m2 K)(hx:cb env rs x=⟨true,.az⟩:=by exact rfl)(hy:cb env rs y=⟨true,d⟩:=by exact rfl)(he:rQ m k d ys)(hn:ys.length=n)(hb:n≤1073741824:=by omega)(hL:nx+rs.length=L:=by exact tP)(hm:cE m L (.buf k ys)=m2:=by simp only[cE,bS,Nat.reduceEqDiff,if_true,if_false,Nat.reduceAdd,reduceCtorEq];exact rfl):aD Γ draw (⟨.app k x y,none⟩::r) env rs nx m K:=
 oJ rfl _ (by simp only[aI.dr,hx,hy,he.2,hn];exact⟨trivial,trivial,he.1,hb⟩) (by simp only[aI.val,hx,hy,he.2,hn,hL]) _ (by simp only[aI.b9,hx,hy,he.2,hL];exact hm) (fun _=>h)
def tk {k l i a n:Nat}{x y:Src}{d:D}{xs ys:List D}{L:Nat}{m2:List (Nat×bo)}(zs:List D)(h:aD Γ draw r env (⟨true,.own L k 0 n⟩::rs) nx m2 K)(hx:cb env rs x=⟨true,.own l k i a⟩:=by exact rfl)(hy:cb env rs y=⟨true,d⟩:=by exact rfl)(hl:look m l=some (.buf k xs):=by exact rfl)(ha:i+a≤xs.length)(he:rQ m k d ys)(hz:(xs.drop i).take a++ys=zs)(hn:a+ys.length=n)(hb:n≤1073741824:=by omega)(hL:nx+rs.length=L:=by exact tP)(hm:cE (bS m l) L (.buf k zs)=m2:=by simp only[cE,bS,Nat.reduceEqDiff,if_true,if_false,Nat.reduceAdd,reduceCtorEq];exact rfl):aD Γ draw (⟨.app k x y,none⟩::r) env rs nx m K:=
 oJ rfl _ (by simp only[aI.dr,hx,hy,he.2,et,hl,hn];exact⟨trivial,trivial,he.1,trivial,⟨trivial,ha⟩,hb⟩) (by simp only[aI.val,hx,hy,he.2,hn,hL]) _ (by simp only[aI.b9,hx,hy,he.2,aS,hl,hz,hL];exact hm) (fun _=>h)
def kM {α:Type}{q:α→D}{xs:List α}{e:α}{k l ly:Nat}{x y:Src}{L:Nat}{m2:List (Nat×bo)}(h:aD Γ draw r env (⟨true,.own L k 0 (xs++[e]).length⟩::rs) nx m2 K)(hx:cb env rs x=⟨true,.own l k 0 xs.length⟩:=by exact rfl)(hy:cb env rs y=⟨true,.own ly k 0 1⟩:=by exact rfl)(hl:look m l=some (.buf k (xs.map q)):=by exact rfl)(he:look m ly=some (.buf k [q e]):=by exact rfl)(hb:xs.length+1≤1073741824:=by omega)(hL:nx+rs.length=L:=by exact tP)(hm:cE (bS m l) L (.buf k ((xs++[e]).map q))=m2:=by simp only[cE,bS,Nat.reduceEqDiff,if_true,if_false,Nat.reduceAdd,reduceCtorEq];exact rfl):aD Γ draw (⟨.app k x y,none⟩::r) env rs nx m K:=
 tk (zs:=(xs++[e]).map q) (hx:=hx) (hy:=hy) (hl:=hl) (ha:=by simp) (he:=rQ.all (es:=[q e]) he rfl) (hz:=by rw[List.drop_zero,List.take_of_length_le (by simp)];simp) (hn:=by simp) (hb:=by simp;omega) (hL:=hL) (hm:=hm) (h:=h)
def Mn {α:Type}{q:α→D}{xs ys:List α}{k l:Nat}{x y:Src}{d:D}{L:Nat}{m2:List (Nat×bo)}(h:aD Γ draw r env (⟨true,.own L k 0 (xs++ys).length⟩::rs) nx m2 K)(hx:cb env rs x=⟨true,.own l k 0 xs.length⟩:=by exact rfl)(hy:cb env rs y=⟨true,d⟩:=by exact rfl)(hl:look m l=some (.buf k (xs.map q)):=by exact rfl)(he:rQ m k d (ys.map q))(hb:xs.length+ys.length≤1073741824:=by omega)(hL:nx+rs.length=L:=by exact tP)(hm:cE (bS m l) L (.buf k ((xs++ys).map q))=m2:=by simp only[cE,bS,Nat.reduceEqDiff,if_true,if_false,Nat.reduceAdd,reduceCtorEq];exact rfl):aD Γ draw (⟨.app k x y,none⟩::r) env rs nx m K:=
 tk (zs:=(xs++ys).map q) (hx:=hx) (hy:=hy) (hl:=hl) (ha:=by simp) (he:=he) (hz:=by rw[List.drop_zero,List.take_of_length_le (by simp)];simp) (hn:=by simp) (hb:=by simp;omega) (hL:=hL) (hm:=hm) (h:=h)
def HB {x:Src}{fx:Bool}{d:D}{ys:List D}(s:List UInt8)(h:aD Γ draw r env (⟨f,.str s⟩::rs) nx m K)(hg:GF rs g f:=by exact cH)(hx:cb env rs x=⟨fx,d⟩:=by exact rfl)(kx:f=true→fx=true:=by exact bU)(he:f=true→rQ m 1 d ys)(hs:f=true→ys=s.map fun b=>.int .u8 b.toNat)(hd:d.L3=false:=by exact rfl):aD Γ draw (⟨.b2s x,g⟩::r) env rs nx m K:=
 gz rfl hg _ (fun hf=>by
  simp only[aI.dr,hx,(he hf).2,hs hf];refine⟨kx hf,(by cases d<;>first|trivial|(cases hd)),(he hf).1,fun e hm=>?_⟩;obtain⟨b,_,rfl⟩:=List.mem_map.1 hm;have:=b.toNat_lt;exact⟨rfl,by omega,by omega⟩) (fun hf=>by simp only[aI.val,hx,(he hf).2,hs hf];rw[IY]) m rfl (fun _=>h)
def zg {x:Src}{l pos:Nat}{s:List UInt8}{m2:List (Nat×bo)}(c w:Nat)(h:aD Γ draw r env (⟨true,.tup [.bool true,.int .i64 pos,.int .i32 c]⟩::rs) nx m2 K)(hx:cb env rs x=⟨true,.it l⟩:=by exact rfl)(hl:look m l=some (.iter s pos):=by exact rfl)(hp:pos<s.length)(hc:rY s pos=(c,w))(hm:cE m l (.iter s (pos+w))=m2:=by simp only[cE,bS,Nat.reduceEqDiff,if_true,if_false,Nat.reduceAdd,reduceCtorEq];exact rfl):aD Γ draw (⟨.wF x,none⟩::r) env rs nx m K:=
 oJ rfl _ (by simp only[aI.dr,hx,hl];exact⟨trivial,trivial⟩) (by simp only[aI.val,hx,hl,hc,hp,decide_true,cond_true]) _ (by simp only[aI.b9,hx,hl,hc,hp,decide_true,cond_true];exact hm) (fun _=>h)
def zf {x:Src}{l pos:Nat}{s:List UInt8}(h:aD Γ draw r env (⟨true,.tup [.bool false]⟩::rs) nx m K)(hx:cb env rs x=⟨true,.it l⟩:=by exact rfl)(hl:look m l=some (.iter s pos):=by exact rfl)(hp:¬pos<s.length):aD Γ draw (⟨.wF x,none⟩::r) env rs nx m K:=
 oJ rfl _ (by simp only[aI.dr,hx,hl];exact⟨trivial,trivial⟩) (by simp only[aI.val,hx,hl,hp,decide_false,cond_false]) _ (by simp only[aI.b9,hx,hl,hp,decide_false,cond_false]) (fun _=>h)
def ak {n:Nat}{args:List Src}{sh:List (List Sh)}{aaz:List D}{v:D}(h:aD Γ draw r env (⟨f,v⟩::rs) nx m K)(hg:GF rs g f:=by exact cH)(hc:Γ.pre n aaz∧Γ.val n aaz=v)(ha:f=true→mI m sh (gM (cb env rs) args)=aaz:=by exact fun _=>rfl)(ho:f=true→tI (cb env rs) args:=by exact w9)(hp:f=true→j5 m sh (gM (cb env rs) args):=by exact w9)(hk:f=true→rX (gM (cb env rs) args) v=true:=by exact fun _=>rfl):aD Γ draw (⟨.call n args sh,g⟩::r) env rs nx m K:=
 gz rfl hg _ (fun hf=>by simp only[aI.dr,(dG _ _ _).1,ha hf,hc.2];exact⟨ho hf,(dG _ _ _).2.2 (hp hf),hc.1,hk hf⟩) (fun hf=>by simp only[aI.val,(dG _ _ _).1,ha hf,hc.2]) m rfl (fun _=>h)
def fB {n:Nat}{args:List Src}{sh:List (List Sh)}{aaz:List D}{v:D}(h:aD Γ draw r env (⟨f,v⟩::rs) nx m K)(hg:GF rs g f:=by exact cH)(hc:f=true→Γ.pre n aaz∧Γ.val n aaz=v)(ha:f=true→mI m sh (gM (cb env rs) args)=aaz:=by exact fun _=>rfl)(ho:f=true→tI (cb env rs) args:=by exact w9)(hp:f=true→j5 m sh (gM (cb env rs) args):=by exact w9)(hk:f=true→rX (gM (cb env rs) args) v=true:=by exact fun _=>rfl):aD Γ draw (⟨.call n args sh,g⟩::r) env rs nx m K:=
 gz rfl hg _ (fun hf=>by simp only[aI.dr,(dG _ _ _).1,ha hf,(hc hf).2];exact⟨ho hf,(dG _ _ _).2.2 (hp hf),(hc hf).1,hk hf⟩) (fun hf=>by simp only[aI.val,(dG _ _ _).1,ha hf,(hc hf).2]) m rfl (fun _=>h)
def Qa {n:Nat}{caps:List Src}(cs:List D)(h:aD Γ draw r env (⟨f,.fn n cs⟩::rs) nx m K)(hg:GF rs g f:=by exact cH)(hc:f=true→gM (cb env rs) caps=cs:=by exact fun _=>rfl)(ho:f=true→tI (cb env rs) caps:=by exact w9):aD Γ draw (⟨.mkf n caps,g⟩::r) env rs nx m K:=
 bH rfl hg _ (fun hf=>ho hf) (fun hf=>by simp only[aI.val,hc hf]) (fun _=>h)
def lu {n l k:Nat}{x:Src}{args:List Src}{sh:List (List Sh)}{d v e:D}{aaz:List D}{m2:List (Nat×bo)}(h:aD Γ draw r env (⟨true,v⟩::rs) nx m2 K)(hx:cb env rs x=⟨true,.ptr l k 0 0⟩:=by exact rfl)(hl:look m l=some (.buf k [d]):=by exact rfl)(hd:d.a7=true:=by exact rfl)(hc:Γ.fp n d aaz∧Γ.fv n d aaz=v∧Γ.fs n d aaz=e)(ha:mI [] sh (gM (cb env rs) args)=aaz:=by exact rfl)(ho:tI (cb env rs) args:=by repeat' first|exact trivial|exact rfl|refine And.intro ?_ ?_|decide)(hn:aT (gM (cb env rs) args)=true:=by exact rfl)(hm:cE m l (.buf k [e])=m2:=by simp only[cE,bS,Nat.reduceEqDiff,if_true,if_false,Nat.reduceAdd,reduceCtorEq];exact rfl):aD Γ draw (⟨.callF n x args sh,none⟩::r) env rs nx m K:=
 oJ rfl _ (by simp only[aI.dr,hx,et,aS,hl,List.getD_cons_zero,(dG _ _ _).1,ha];exact⟨trivial,ho,hn,trivial,trivial,⟨trivial,by simp⟩,by simp,hd,hc.1⟩) (by simp only[aI.val,hx,aS,hl,List.getD_cons_zero,(dG _ _ _).1,ha,hc.2.1]) _ (by simp only[aI.b9,hx,aS,hl,List.getD_cons_zero,(dG _ _ _).1,ha,hc.2.2];exact hm) (fun _=>h)
end
end Go.Abs
end
section
namespace Go.Abs
abbrev ai:=List UInt8
structure b7 where
 major:Int
 minor:Int
 patch:Int
 pre:ai
 build:ai
 deriving Inhabited,DecidableEq
def b7.D (v:b7):D:=.agg [.int .i64 v.major,.int .i64 v.minor,.int .i64 v.patch,.str v.pre,.str v.build]
structure rR where
 name:ai
 v:b7
 shelf:ai
 sum:Int
 feats:List ai
 deriving Inhabited,DecidableEq
def rR.D (x:rR):D:=.agg [.str x.name,.int .i64 x.v.major,.int .i64 x.v.minor,.int .i64 x.v.patch,.str x.v.pre,.str x.v.build,.str x.shelf,.int .u64 x.sum,.sl 1 (x.feats.map D.str)]
structure Env where
 e0:ai
 e1:ai
 e2:ai
 deriving Inhabited,DecidableEq
def Env.D (e:Env):D:=.agg [.str e.e0,.str e.e1,.str e.e2]
structure zH where
 env:Env
 lines:List rR
 deriving Inhabited,DecidableEq
def zH.D (l:zH):D:=.agg [.str l.env.e0,.str l.env.e1,.str l.env.e2,.sl 9 (l.lines.map rR.D)]
end Go.Abs
namespace Go.Abs
def qU (a b:List UInt8):LW (.str a) (.str b)=decide (a=b):=nb a b
def tW (k k2:IntKind)(a b:Int):LW (.int k a) (.int k2 b)=decide (a=b):=rfl
def b7.eq (a b:b7):gp (b7.D a).cells (b7.D b).cells=decide (a=b):=by
 obtain⟨a1,a2,a3,a4,a5⟩:=a;obtain⟨b1,b2,b3,b4,b5⟩:=b;simp only[b7.D,D.cells,gp,qU,tW,b7.mk.injEq,Bool.and_true];simp only[Bool.decide_and]
def Env.eq (a b:Env):gp (Env.D a).cells (Env.D b).cells=decide (a=b):=by
 obtain⟨a1,a2,a3⟩:=a;obtain⟨b1,b2,b3⟩:=b;simp only[Env.D,D.cells,gp,qU,tW,Env.mk.injEq,Bool.and_true];simp only[Bool.decide_and]
def b7.inj {a b:b7}(h:b7.D a=b7.D b):a=b:=by
 obtain⟨a1,a2,a3,a4,a5⟩:=a;obtain⟨b1,b2,b3,b4,b5⟩:=b;simp only[b7.D,D.agg.injEq,List.cons.injEq,D.int.injEq,D.str.injEq,true_and,and_true]at h;simp[h]
def Env.inj {a b:Env}(h:Env.D a=Env.D b):a=b:=by
 obtain⟨a1,a2,a3⟩:=a;obtain⟨b1,b2,b3⟩:=b;simp only[Env.D,D.agg.injEq,List.cons.injEq,D.int.injEq,D.str.injEq,true_and,and_true]at h;simp[h]
def map_inj {α:Type}{q:α→D}(hq:∀a b,q a=q b→a=b):∀{xs ys:List α},xs.map q=ys.map q→xs=ys
 |[],[],_=>rfl
 |[],_::_,h=>by simp at h
 |_::_,[],h=>by simp at h
 |a::r,b::s,h=>by
  simp only[List.map_cons,List.cons.injEq]at h;rw[hq a b h.1,map_inj hq h.2]
def str_inj (a b:List UInt8)(h:D.str a=D.str b):a=b:=by simpa using h
def rR.inj {a b:rR}(h:rR.D a=rR.D b):a=b:=by
 obtain⟨a1,⟨v1,v2,v3,v4,v5⟩,a2,a3,a4⟩:=a;obtain⟨b1,⟨w1,w2,w3,w4,w5⟩,b2,b3,b4⟩:=b;simp only[rR.D,D.agg.injEq,List.cons.injEq,D.int.injEq,D.str.injEq,D.sl.injEq,true_and,and_true]at h;have:=map_inj str_inj h.2.2.2.2.2.2.2.2;simp[h,this]
def zH.inj {a b:zH}(h:zH.D a=zH.D b):a=b:=by
 obtain⟨⟨a1,a2,a3⟩,a4⟩:=a;obtain⟨⟨b1,b2,b3⟩,b4⟩:=b;simp only[zH.D,D.agg.injEq,List.cons.injEq,D.str.injEq,D.sl.injEq,true_and,and_true]at h;have:=map_inj (fun _ _=>rR.inj) h.2.2.2;simp[h,this]
end Go.Abs
end
section
namespace Go.Abs
def allI (p:Nat→Bool):Nat→Nat→Bool
 |_,0=>true
 |i,k+1=>p i&&allI p (i+1) k
def b8 (p:Nat→Bool)(i n:Nat):Bool:=allI p i (n-i)
def aH {p:Nat→Bool}{i n:Nat}(h:i<n):b8 p i n=(p i&&b8 p (i+1) n):=by
 unfold b8;rw[show n-i=(n-(i+1))+1 by omega];rfl
def bE {p:Nat→Bool}{i n:Nat}(h:n≤i):b8 p i n=true:=by
 unfold b8;rw[show n-i=0 by omega];rfl
def zV {p:Nat→Bool}:∀{k i:Nat},allI p i k=true↔∀j,i≤j→j<i+k→p j=true
 |0,i=>by simp[allI];intro j h1 h2;omega
 |k+1,i=>by
  simp only[allI,Bool.and_eq_true,zV (k:=k)];constructor
  ·rintro⟨h1,h2⟩ j hj1 hj2;rcases Nat.eq_or_lt_of_le hj1 with h|h
   ·exact h▸h1
   ·exact h2 j h (by omega)
  ·intro h;exact⟨h i (Nat.le_refl _) (by omega),fun j h1 h2=>h j (by omega) (by omega)⟩
def dS {p:Nat→Bool}{i n:Nat}:b8 p i n=true↔∀j,i≤j→j<n→p j=true:=by
 unfold b8;rw[zV];constructor
 ·intro h j h1 h2;exact h j h1 (by omega)
 ·intro h j h1 h2;exact h j h1 (by omega)
end Go.Abs
namespace Go.Abs
def aF {a a' b b':D}(h1:a=a')(h2:b=b'):D.tup [a,b]=D.tup [a',b']:=by rw[h1,h2]
def dK {a a' b b' c c':D}(h1:a=a')(h2:b=b')(h3:c=c'):D.tup [a,b,c]=D.tup [a',b',c']:=by rw[h1,h2,h3]
end Go.Abs
namespace Go.Abs
end Go.Abs
namespace Go.Abs
def qR (s:ai)(pos:Nat)(h:pos<s.length):∃c w,rY s pos=(c,w)∧1≤w∧((w=1∧(c:Int)=at8 s pos∧c<128)∨(128≤c∧128≤at8 s pos)):=by
 refine⟨(rY s pos).1,(rY s pos).2,rfl, ?_⟩;have e:rY s pos=Lib.decodeN (s.length-pos) (s.getD pos 0).toNat (s.getD (pos+1) 0).toNat (s.getD (pos+2) 0).toNat (s.getD (pos+3) 0).toNat:=Lib.decode_N ⟨⟨s⟩⟩ pos;rw[e];unfold at8;generalize (s.getD pos 0).toNat=b0;generalize (s.getD (pos+1) 0).toNat=b1;generalize (s.getD (pos+2) 0).toNat=b2;generalize (s.getD (pos+3) 0).toNat=b3;generalize s.length-pos=n;by_cases hb:b0<128
 ·unfold Lib.decodeN;rw[if_pos hb];exact⟨Nat.le_refl _,.inl ⟨rfl,rfl,hb⟩⟩
 ·unfold Lib.decodeN;rw[if_neg hb];have h2:(128:Int)≤(b0:Int):=by omega
  repeat' split
  all_goals exact⟨by omega,.inr ⟨by simp only;omega,h2⟩⟩
end Go.Abs
namespace Go.Abs
def rK {α:Type}{q:α→D}{xs:List α}{m:List (Nat×bo)}{l:Nat}(hq:∀x,xV m [.a] (q x)=q x)(hl:look m l=some (.buf 1 (xs.map q))):xV m [.sl 1 [.a]] (.own l 1 0 xs.length)=.sl 1 (xs.map q):=by
 show D.sl 1 _=_;simp only[aS,hl,List.drop_zero,aE,List.map_map];congr 1;apply List.map_congr_left;intro x _;have:=hq x;simp only[Function.comp];generalize q x=d at this;cases d<;>exact this
def oY {α:Type}{q:α→D}{xs:List α}{m:List (Nat×bo)}{l:Nat}(hq:∀x,Iu m [.a] (q x))(hl:look m l=some (.buf 1 (xs.map q))):Iu m [.sl 1 [.a]] (.own l 1 0 xs.length):=by
 simp only[Iu,KF,KE];refine⟨by simp[et,hl], ?_⟩;simp only[aS,hl,List.drop_zero,aE];intro e he;obtain⟨x,_,rfl⟩:=List.mem_map.1 he;have:=hq x;generalize q x=d at this;cases d<;>exact this
end Go.Abs
end
namespace Go.Abs
def gu (c:Int):Bool:=decide (97≤c)&&decide (c≤122)
def aZ (c:Int):Bool:=decide (48≤c)&&decide (c≤57)
def wv (c:Int):Bool:=gu c ||aZ c ||decide (c=95)
def bV (s:ai):Bool:=decide (1≤s.length)&&decide (s.length≤12)&&b8 (fun i=>wv (at8 s i)) 0 s.length
def MY (s:ai)(i:Nat):Bool:=(gu (at8 s i) ||aZ (at8 s i) ||decide (at8 s i=45))&& !(decide (at8 s i=45)&&decide (at8 s (i-1)=45))
def eY (s:ai):Bool:=decide (1≤s.length)&&decide (s.length≤16)&&gu (at8 s 0)&& !decide (at8 s (s.length-1)=45)&&b8 (MY s) 1 s.length
def mG (s:ai)(i:Nat):Bool:=gu (at8 s i) ||(aZ (at8 s i)&& !decide (i=0)) ||(decide (at8 s i=45)&& !decide (i=0)&& !decide (i=s.length-1)&& !decide (at8 s (i-1)=45))
def Jw (s:ai)(h1:1≤s.length)(h2:s.length≤16):eY s=b8 (mG s) 0 s.length:=by
 rw[Bool.eq_iff_iff];simp only[eY,decide_eq_true h1,decide_eq_true h2,Bool.true_and,Bool.and_eq_true,Bool.not_eq_true',decide_eq_false_iff_not,dS];constructor
 ·rintro⟨⟨h3,h4⟩,h5⟩ j _ hj;rcases Nat.eq_zero_or_pos j with rfl|hp
  ·simp[mG,h3]
  ·have:=h5 j hp hj;simp only[MY,Bool.and_eq_true,Bool.or_eq_true,Bool.not_eq_true',Bool.and_eq_false_iff,decide_eq_true_eq,decide_eq_false_iff_not]at this;simp only[mG,Bool.and_eq_true,Bool.or_eq_true,Bool.not_eq_true',decide_eq_true_eq,decide_eq_false_iff_not];rcases this with⟨(h6|h6)|h6,h7⟩
   ·exact Or.inl (Or.inl h6)
   ·exact Or.inl (Or.inr ⟨h6,by omega⟩)
   ·refine Or.inr ⟨⟨⟨h6,by omega⟩, ?_⟩, ?_⟩
    ·rintro rfl;exact h4 h6
    ·rcases h7 with h7|h7
     ·exact absurd h6 h7
     ·exact h7
 ·intro h;have h0:=h 0 (by omega) (by omega);have hlow:gu (at8 s 0)=true:=by simpa[mG]using h0
  refine⟨⟨hlow, ?_⟩,fun j hj1 hj2=>?_⟩
  ·intro he;have hl:=h (s.length-1) (by omega) (by omega);rcases Nat.eq_or_lt_of_le h1 with e|e
   ·rw[←e]at he;simp only[Nat.sub_self]at he;simp only[gu,Bool.and_eq_true,decide_eq_true_eq]at hlow;omega
   ·simp only[mG,he,gu,aZ]at hl;simp at hl
  ·have:=h j (by omega) hj2;simp only[mG,Bool.and_eq_true,Bool.or_eq_true,Bool.not_eq_true',decide_eq_true_eq,decide_eq_false_iff_not]at this;simp only[MY,Bool.and_eq_true,Bool.or_eq_true,Bool.not_eq_true',Bool.and_eq_false_iff,decide_eq_true_eq,decide_eq_false_iff_not];rcases this with(h6|h6)|h6
   ·refine⟨Or.inl (Or.inl h6),Or.inl ?_⟩;simp only[gu,Bool.and_eq_true,decide_eq_true_eq]at h6;omega
   ·refine⟨Or.inl (Or.inr h6.1),Or.inl ?_⟩;have:=h6.1;simp only[aZ,Bool.and_eq_true,decide_eq_true_eq]at this;omega
   ·exact⟨Or.inr h6.1.1.1,Or.inr h6.2⟩
def cJ (s:ai):Nat:=s.foldl (fun n b=>n*10+(b.toNat-48)) 0
def dQ (s:ai):Bool:=decide (1≤s.length)&&decide (s.length≤9)&& !(decide (1<s.length)&&decide (at8 s 0=48))&&b8 (fun i=>aZ (at8 s i)) 0 s.length&&decide (cJ s≤9999)
def cT (s:ai):Int:=if dQ s=true then(cJ s:Int)else 0
def rJ (s:ai)(i:Nat)(h:i<s.length):s.take (i+1)=s.take i++[s.getD i 0]:=by
 rw[List.take_succ];simp[h]
def tf (s:ai)(i:Nat)(h:i<s.length):cJ (s.take (i+1))=cJ (s.take i)*10+((at8 s i).toNat-48):=by
 rw[rJ s i h];simp[cJ,List.foldl_append,at8]
def E0 (s:ai):cJ s+23≤23*10^s.length:=by
 have:∀(s:ai) (n k:Nat),n+23≤23*10^k→s.foldl (fun n b=>n*10+(b.toNat-48)) n+23≤23*10^(k+s.length):=by
  intro s;induction s with
  |nil=>intro n k h;simpa using h
  |cons b r ih=>
   intro n k h;have hb:=b.toNat_lt;have:=ih (n*10+(b.toNat-48)) (k+1) (by rw[Nat.pow_succ];omega);simp only[List.foldl_cons,List.length_cons];rw[show k+(r.length+1)=k+1+r.length by omega];exact this
 have:=this s 0 0 (by simp);simpa[cJ]using this
def rq (s:ai)(i:Nat)(h:i≤9):cJ (s.take i)≤23000000000:=by
 have h1:=E0 (s.take i);have h2:(s.take i).length≤9:=by simp;omega
 have h3:10^(s.take i).length≤10^9:=Nat.pow_le_pow_right (by omega) h2;omega
def Az (s:ai):∀n:Nat,s.foldl (fun n b=>n*10+(b.toNat-48)) n=n*10^s.length+cJ s:=by
 unfold cJ;induction s with
 |nil=>intro n;simp
 |cons b r ih=>
  intro n;simp only[List.foldl_cons,List.length_cons];rw[ih,ih (0*10+(b.toNat-48)),Nat.pow_succ];simp only[Nat.zero_mul,Nat.zero_add,Nat.add_mul];rw[Nat.mul_assoc n 10,Nat.mul_comm 10];omega
def te (b:UInt8)(r:ai):cJ (b::r)=(b.toNat-48)*10^r.length+cJ r:=by
 have:=Az r (0*10+(b.toNat-48));simp only[cJ,List.foldl_cons]at this⊢;rw[this];simp
def sV {b:UInt8}{r:ai}(h:b8 (fun i=>aZ (at8 (b::r) i)) 0 (b::r).length=true):aZ b.toNat=true∧b8 (fun i=>aZ (at8 r i)) 0 r.length=true:=by
 rw[dS]at h;refine⟨by simpa[at8]using h 0 (by omega) (by simp), ?_⟩;rw[dS];intro j _ hj;simpa[at8]using h (j+1) (by omega) (by simp;omega)
def xO:∀(s:ai),b8 (fun i=>aZ (at8 s i)) 0 s.length=true→cJ s<10^s.length
 |[],_=>by simp[cJ]
 |b::r,h=>by
  obtain⟨h1,h2⟩:=sV h;have:=xO r h2;rw[te,List.length_cons,Nat.pow_succ];simp only[aZ,Bool.and_eq_true,decide_eq_true_eq]at h1;have h3:b.toNat-48≤9:=by omega
  have:=Nat.mul_le_mul_right (10^r.length) h3;omega
def xN {b:UInt8}{r:ai}(h:49≤b.toNat):10^r.length≤cJ (b::r):=by
 rw[te];have:=Nat.mul_le_mul_right (10^r.length) (show 1≤b.toNat-48 by omega);omega
def Ck (s:ai):dQ s=(decide (1≤s.length)&&decide (s.length≤4)&& !(decide (1<s.length)&&decide (at8 s 0=48))&&b8 (fun i=>aZ (at8 s i)) 0 s.length):=by
 unfold dQ;cases hd:b8 (fun i=>aZ (at8 s i)) 0 s.length with
 |false=>simp
 |true=>
  have hlt:=xO s hd;by_cases h4:s.length≤4
  ·have:10^s.length≤10^4:=Nat.pow_le_pow_right (by omega) h4;rw[decide_eq_true h4,decide_eq_true (by omega:s.length≤9),decide_eq_true (by omega:cJ s≤9999)];simp
  ·rw[decide_eq_false h4]
   match s,hd,h4 with
   |b::r,hd,h4=>
    by_cases h0:at8 (b::r) 0=48
    ·rw[decide_eq_true h0,decide_eq_true (by omega:1<(b::r).length)];simp
    ·have h1:=(sV hd).1;simp only[aZ,Bool.and_eq_true,decide_eq_true_eq]at h1;have h2:49≤b.toNat:=by
      simp[at8]at h0;omega
     have h3:=xN (r:=r) h2;have:10^4≤10^r.length:=Nat.pow_le_pow_right (by omega) (by simp at h4;omega);rw[decide_eq_false (by omega:¬cJ (b::r)≤9999)];simp
def dg (n:Nat):UInt8:=UInt8.ofNat (48+n)
def yI:Nat→Nat→ai
 |0,n=>[dg n]
 |f+1,n=>if n<10 then [dg n]else yI f (n/10)++[dg (n%10)]
def cW (n:Nat):ai:=yI n n
def Dq:∀(f g n:Nat),n≤f→n≤g→yI f n=yI g n
 |0,0,n,_,_=>rfl
 |0,g+1,n,h,_=>by
  obtain rfl:n=0:=by omega
  simp[yI]
 |f+1,0,n,_,h=>by
  obtain rfl:n=0:=by omega
  simp[yI]
 |f+1,g+1,n,h1,h2=>by
  simp only[yI];split
  ·rfl
  ·rw[Dq f g (n/10) (by omega) (by omega)]
def nn {n:Nat}(h:n<10):cW n=[dg n]:=by
 unfold cW;cases n<;>simp[yI,h]
def nk {n:Nat}(h:9<n):cW n=cW (n/10)++[dg (n%10)]:=by
 unfold cW;obtain⟨k,rfl⟩:∃k,n=k+1:=⟨n-1,by omega⟩
 simp only[yI];rw[if_neg (by omega),Dq k ((k+1) /10) _ (by omega) (by omega)]
def dT:∀(k n:Nat),n<10^k→0<k→(cW n).length≤k:=by
 intro k;induction k with
 |zero=>intro n _ h;omega
 |succ k ih=>
  intro n h _;by_cases h10:n<10
  ·rw[nn h10];simp
  ·rw[nk (by omega)];have hk:0<k:=by
    rcases Nat.eq_zero_or_pos k with rfl|h0
    ·simp at h;omega
    ·exact h0
   have:=ih (n/10) (by rw[Nat.pow_succ]at h;omega) hk;simp;omega
def Gr {n:Nat}(h:n<10):((dg n).toNat:Int)=48+n:=by
 have:(48+n)%256=48+n:=Nat.mod_eq_of_lt (by omega);simp[dg,this]
def bK (b:Int):ai→ai→List ai
 |[],cur=>[cur]
 |c::r,cur=>if(c.toNat:Int)=b then cur::bK b r []else bK b r (cur++[c])
def ah (s:ai)(b:Int):List ai:=bK b s []
def jY (s:ai)(i:Nat)(h:i<s.length):s.drop i=s.getD i 0::s.drop (i+1):=by
 rw[List.drop_eq_getElem_cons h];simp[h]
def yd {s:ai}{b:Int}{i fr:Nat}(h:i<s.length)(he:at8 s i=b):bK b (s.drop i) ((s.take i).drop fr)=((s.take i).drop fr)::bK b (s.drop (i+1)) ((s.take (i+1)).drop (i+1)):=by
 rw[jY s i h];have h2:(s.take (i+1)).drop (i+1)=[]:=by simp
 rw[h2];simp only[bK];rw[if_pos (by simpa[at8]using he)]
def ye {s:ai}{b:Int}{i fr:Nat}(h:i<s.length)(hf:fr≤i)(he:¬at8 s i=b):bK b (s.drop i) ((s.take i).drop fr)=bK b (s.drop (i+1)) ((s.take (i+1)).drop fr):=by
 rw[jY s i h,rJ s i h,List.drop_append_of_le_length (by simp;omega)];simp only[bK];rw[if_neg (by simpa[at8]using he)]
def v8 {s:ai}{b:Int}{i fr:Nat}(h:s.length≤i):bK b (s.drop i) ((s.take i).drop fr)=[s.drop fr]:=by
 rw[List.drop_eq_nil_of_le h,List.take_of_length_le h];rfl
def qF (b:Int):∀(s cur:ai),(bK b s cur).length≤s.length+1
 |[],cur=>by simp[bK]
 |c::r,cur=>by
  simp only[bK];split
  ·have:=qF b r [];simp;omega
  ·have:=qF b r (cur++[c]);simp;omega
def cn (s:ai)(b:Int):(ah s b).length≤s.length+1:=qF b s []
def dR (b:Int)(s cur:ai):1≤(bK b s cur).length:=by
 induction s generalizing cur with
 |nil=>simp[bK]
 |cons c r ih=>
  simp only[bK];split
  ·simp
  ·exact ih _
def gK (s:ai)(b:Int)(i:Nat):ai×ai:=match(s.drop i).findIdx? (fun c=>decide ((c.toNat:Int)=b))with
 |some k=>(s.drop (i+k+1),s.take (i+k))
 |none=>([],s)
def aw (s:ai)(b:Int):ai×ai:=gK s b 0
def uy {s:ai}{b:Int}{i:Nat}(h:i<s.length)(he:at8 s i=b):gK s b i=(s.drop (i+1),s.take i):=by
 unfold gK;rw[jY s i h,List.findIdx?_cons];simp only[at8]at he;rw[if_pos (by simpa using he)];rfl
def uz {s:ai}{b:Int}{i:Nat}(h:i<s.length)(he:¬at8 s i=b):gK s b i=gK s b (i+1):=by
 unfold gK;rw[jY s i h,List.findIdx?_cons];simp only[at8]at he;simp only[he,decide_false,Bool.false_eq_true,if_false];cases(s.drop (i+1)).findIdx? (fun c=>decide ((c.toNat:Int)=b))with
 |none=>rfl
 |some k=>simp only[Option.map_some];rw[show i+(k+1)=i+1+k by omega]
def sS {s:ai}{b:Int}{i:Nat}(h:s.length≤i):gK s b i=([],s):=by
 unfold gK;rw[List.drop_eq_nil_of_le h];rfl
def lG (c:Int):Bool:=gu c ||aZ c ||decide (c=45)
def nZ (t:ai):Bool:=decide (1≤t.length)&&decide (t.length≤8)&&b8 (fun i=>lG (at8 t i)) 0 t.length
def eh (t:ai):Bool:=b8 (fun i=>aZ (at8 t i)) 0 t.length&&decide (0<t.length)
def fL (p:Bool)(t:ai):Bool:=nZ t&& !(p&&eh t&& !dQ t)
def kW (s:ai)(p:Bool):Bool:=decide ((ah s 46).length≤4)&&b8 (fun i=>fL p (ah s 46)[i]!) 0 (ah s 46).length
def oT (s:ai)(p:Bool):Bool:=decide (s=[]) ||kW s p
def lM (n:Int):Bool:=decide (0≤n)&&decide (n≤9999)
def iF (v:b7):Bool:=lM v.major&&lM v.minor&&lM v.patch&&oT v.pre true&&oT v.build false
def wo (v:b7):ai:=cW v.major.toNat++[46]++cW v.minor.toNat++[46]++cW v.patch.toNat++(if v.pre=[]then []else 45::v.pre)++(if v.build=[]then []else 43::v.build)
def lv (v:b7):ai:=if iF v=true then wo v else []
def b7.sm (v:b7):Prop:=v.pre.length≤1048576∧v.build.length≤1048576
def Env.at (e:Env):Nat→ai
 |0=>e.e0
 |1=>e.e1
 |_=>e.e2
def Env.ld (e:Env){i:Nat}(h:i<3):nV (Env.D e) 3 1 (0+i*1) false=.str (e.at i):=by
 match i,h with
 |0,_=>rfl
 |1,_=>rfl
 |2,_=>rfl
def zH.ld (l:zH){i:Nat}(h:i<3):nV (zH.D l) 4 1 (0+i*1) false=.str (l.env.at i):=by
 match i,h with
 |0,_=>rfl
 |1,_=>rfl
 |2,_=>rfl
def Env.cut (e:Env){i:Nat}(h:i<3):Abs.cut [.str e.e0,.str e.e1,.str e.e2] (i*1) 1 false=.str (e.at i):=by
 match i,h with
 |0,_=>rfl
 |1,_=>rfl
 |2,_=>rfl
def rR.sm (x:rR):Prop:=x.v.sm∧x.name.length≤1048576∧x.shelf.length≤1048576∧x.feats.length≤1048576∧∀t∈x.feats,t.length≤1048576
def zH.sm (l:zH):Prop:=l.lines.length≤1048576∧(∀x∈l.lines,x.sm)∧∀i,(l.env.at i).length≤1048576
def bA {α:Type} [Inhabited α]{l:List α}{i:Nat}(h:i<l.length):l[i]! ∈l:=by
 simp[h]
structure Kp where
 name:ai
 v:b7
 deriving Inhabited,DecidableEq
def Kp.D (x:Kp):D:=.agg [.str x.name,.int .i64 x.v.major,.int .i64 x.v.minor,.int .i64 x.v.patch,.str x.v.pre,.str x.v.build]
def m3 {α:Type} [Inhabited α] [DecidableEq α]{a b:List α}(h:a.length=b.length):decide (a=b)=b8 (fun i=>decide (a[i]! =b[i]!)) 0 a.length:=by
 rw[Bool.eq_iff_iff,decide_eq_true_eq,dS];constructor
 ·rintro rfl j _ _;simp
 ·intro hj;apply List.ext_getElem h;intro i h1 h2;have:=hj i (by omega) h1;simpa[h1,h2]using this
def rR.same {a b:rR}(e1:a.name=b.name)(e2:a.v=b.v)(e3:a.shelf=b.shelf)(e4:a.sum=b.sum)(e5:a.feats.length=b.feats.length):decide (a=b)=b8 (fun i=>decide (a.feats[i]! =b.feats[i]!)) 0 a.feats.length:=by
 rw[←m3 e5];obtain⟨a1,a2,a3,a4,a5⟩:=a;obtain⟨b1,b2,b3,b4,b5⟩:=b;simp only at e1 e2 e3 e4;subst e1;subst e2;subst e3;subst e4;simp
def aM (b:ai):List ai→ai
 |[]=>[]
 |[t]=>t
 |t::u::r=>t++b++aM b (u::r)
def fu (b t:ai)(r:List ai)(h:r≠[]):aM b (t::r)=t++b++aM b r:=by
 cases r with
 |nil=>exact absurd rfl h
 |cons u r=>rfl
def ow {α:Type}(q:α→ai)(B:Nat):∀l:List α,(∀x∈l,(q x).length≤B)→((l.map q).flatten).length≤l.length*B
 |[],_=>by simp
 |a::r,h=>by
  have h1:=h a (.head _);have h2:=ow q B r fun x hx=>h x (.tail _ hx)
  simp only[List.map_cons,List.flatten_cons,List.length_append,List.length_cons,Nat.succ_mul];omega
def wm (v:b7)(h:v.sm):(lv v).length≤2097200:=by
 unfold lv;split
 ·rename_i hv;simp only[iF,Bool.and_eq_true]at hv;obtain⟨⟨⟨⟨hv1,hv2⟩,hv3⟩,_⟩,_⟩:=hv;simp only[lM,Bool.and_eq_true,decide_eq_true_eq]at hv1 hv2 hv3;have hl1:=dT 4 v.major.toNat (by omega) (by omega);have hl2:=dT 4 v.minor.toNat (by omega) (by omega);have hl3:=dT 4 v.patch.toNat (by omega) (by omega);obtain⟨h1,h2⟩:=h;unfold wo;split<;>split<;>simp<;>omega
 ·simp
def Env.sm (e:Env):Prop:=∀i,(e.at i).length≤1048576
end Go.Abs
section
namespace Go.Abs
def Ml (v n:Int):Int:=if n<1 then 0 else if v.tmod n<0 then v.tmod n+n else v.tmod n
def atI (l:List Int)(i:Int):Int:=if i<0∨(l.length:Int)≤i then i.tmod 3 else l[i.toNat]!
structure Gs where
 l:List Int
 i:Int
 deriving Inhabited
def Gs.D (g:Gs):D:=.agg [.sl 1 (g.l.map (D.int .i64)),.int .i64 g.i]
def Gs.val (g:Gs)(n:Int):Int:=Ml (atI g.l g.i) n
def Gs.wF (g:Gs):Gs:=⟨g.l,g.i+1⟩
def fg (s:ai)(b:UInt8):ai×ai×Bool:=match s.findIdx? (fun c=>c==b)with
 |some k=>(s.take k,s.drop (k+1),true)
 |none=>(s,[],false)
def dN (s p:ai):ai×Bool:=if p.isPrefixOf s=true then(s.drop p.length,true)else(s,false)
def Gn (s:ai)(b:UInt8):(fg s b).1.length≤s.length∧((fg s b).2.2=true→(fg s b).1.length+1≤s.length):=by
 unfold fg;split
 ·rename_i k h;have:=List.findIdx?_eq_some_iff_findIdx_eq.1 h;simp only[List.length_take];omega
 ·simp
structure Kk where
 s:ai
 at':Nat
 n:Nat
def Kk.D (r:Kk):D:=.agg [.str r.s,.int .i64 (r.at':Nat),.int .i64 (r.n:Nat)]
def Kk.ln (r:Kk):ai×ai×Bool:=fg (r.s.drop r.at') 10
def Kk.wF (r:Kk):Kk:=⟨r.s,if r.ln.2.2=true then r.at'+(r.ln.1.length+1)else r.at',r.n+1⟩
def dY:b7:=⟨0,0,0,[],[]⟩
def ee (s:ai):Option b7:=
 let a:=aw s 43
 let b:=aw a.2 45
 let l:=ah b.2 46
 if l.length=3∧dQ l[0]! =true∧dQ l[1]! =true∧dQ l[2]! =true then
  let v:b7:=⟨cT l[0]!,cT l[1]!,cT l[2]!,b.1,a.1⟩
  if iF v=true∧lv v=s then some v else none
 else none
def EY (l:List ai)(i:Nat):D:=.agg [.int .i64 (if 0<i then cT l[0]! else 0),.int .i64 (if 1<i then cT l[1]! else 0),.int .i64 (if 2<i then cT l[2]! else 0)]
def Ax (l:List ai)(i:Nat)(h:i<3):tM (EY l i) 3 1 (0+i*1) (.int .i64 (cT l[i]!))=EY l (i+1):=by
 match i,h with
 |0,_=>rfl
 |1,_=>rfl
 |2,_=>rfl
def iH (s:ai)(b:Int):(aw s b).1.length≤s.length∧(aw s b).2.length≤s.length:=by
 unfold aw gK;split
 ·simp;omega
 ·simp
def qG (b:Int):∀(s cur:ai),∀t∈bK b s cur,t.length≤cur.length+s.length
 |[],cur,t,h=>by simp only[bK,List.mem_singleton]at h;subst h;simp
 |c::r,cur,t,h=>by
  simp only[bK]at h;split at h
  ·rcases List.mem_cons.1 h with rfl|h
   ·simp
   ·have:=qG b r [] t h;simp at this⊢;omega
  ·have:=qG b r (cur++[c]) t h;simp at this⊢;omega
def dj (s:ai)(b:Int){t:ai}(h:t∈ah s b):t.length≤s.length:=by
 have:=qG b s [] t h;simpa using this
def vZ (s:ai)(b:Int){i:Nat}(h:i<(ah s b).length):((ah s b)[i]!).length≤s.length:=dj s b (bA h)
end Go.Abs
namespace Go.Abs
def kO (s:ai):Int:=if(ee s).isSome=true then 0 else 5
end Go.Abs
namespace Go.Abs
end Go.Abs
namespace Go.Abs
def J0 {s:ai}(h:s.length≤1048576):((ee s).getD dY).sm:=by
 have h0:dY.sm:=⟨by simp[dY],by simp[dY]⟩;cases hq:ee s with
 |none=>exact h0
 |some v=>
  simp only[Option.getD_some];simp only[ee]at hq;split at hq
  ·split at hq
   ·obtain rfl:=Option.some.inj hq;have h1:=iH s 43;have h2:=iH (aw s 43).2 45;exact⟨by simp only;omega,by simp only;omega⟩
   ·cases hq
  ·cases hq
def Ih (s:ai):decide (kO s=0)=(ee s).isSome:=by
 unfold kO;cases(ee s)<;>simp
end Go.Abs
namespace Go.Abs
def BX (s p:ai):(dN s p).1.length≤s.length:=by
 unfold dN;split<;>simp
end Go.Abs
namespace Go.Abs
variable {e:Env} {f:Nat} {r:Kk} {ls:List rR}
end Go.Abs
namespace Go.Abs
end Go.Abs
end
section
namespace Go.Abs
section
variable {Γ:Ctx} {draw:Bool} {r:List GI} {env rs:List bx} {nx:Nat} {m:List (Nat×bo)} {K:List bx→St→Prop} {g:Option (Nat×Bool)} {f:Bool}
def Qd {i:aI}{j:Nat}{w:Bool}(d:D)(h:aD Γ draw r env (⟨false,d⟩::rs) nx m K)(hC:i.pure=true:=by exact rfl)(hg:GF rs (some (j,w)) false:=by exact⟨_,_,rfl,rfl⟩):aD Γ draw (⟨i,some (j,w)⟩::r) env rs nx m K:=
 bH hC hg d (fun h=>by cases h) (fun h=>by cases h) (fun _=>h)
def bW {n:Nat}{args:List Src}{aaz:List D}{v:D}{nx':Nat}{m':List (Nat×bo)}(h:aD Γ draw r env (⟨true,v⟩::rs) nx' m' K)
  (hc:∀K':D→St→Prop,K' v ⟨nx'+rs.length,m'⟩→Γ.tr n aaz ⟨nx+rs.length,m⟩ K') (hn:nx≤nx') (ha:gM (cb env rs) args=aaz:=by exact rfl)
  (ho:tI (cb env rs) args:=by repeat' first|exact trivial|exact rfl|refine And.intro ?_ ?_):aD Γ draw (⟨.callM n args,none⟩::r) env rs nx m K:=by
 unfold aD;show True∧(true=true→tI (Src.ev env rs.reverse) args∧Γ.tr n (gM (Src.ev env rs.reverse) args) {nx:=nx+rs.reverse.length,m:=m} _)∧(true=false→_);rw[k8,List.length_reverse,ha];refine⟨trivial,fun _=>⟨ho,hc _ ⟨by show nx+rs.length≤nx'+rs.length;omega, ?_⟩⟩,fun h=>by cases h⟩;unfold aD at h;rw[List.reverse_cons]at h;have e:nx'+rs.length-rs.length=nx':=by omega
 simp only[e];exact h
def ME {l k i0 n:Nat}{x y z:Src}{fx fy fz:Bool}{kh km:IntKind}{h' m':Int}(j:Nat)(h:aD Γ draw r env (⟨f,.own l k i0 j⟩::rs) nx m K)(hg:GF rs g f:=by exact cH)(hx:cb env rs x=⟨fx,.own l k i0 n⟩:=by exact rfl)(hy:cb env rs y=⟨fy,.int kh h'⟩:=by exact rfl)(hz:cb env rs z=⟨fz,.int km m'⟩:=by exact rfl)
  (kx:f=true→fx=true:=by exact bU) (ky:f=true→fy=true:=by exact bU) (kz:f=true→fz=true:=by exact bU)
  (hj:f=true→h'=(j:Int)) (hb:f=true→(j:Int)≤m'∧m'≤(n:Int)):aD Γ draw (⟨.slX k x y z,g⟩::r) env rs nx m K:=
 bH rfl hg _ (fun hf=>by have h1:=hj hf;have h2:=hb hf;simp only[aI.dr,hx,hy,hz];exact⟨kx hf,ky hf,kz hf,by omega,by omega,trivial,h2.2⟩) (fun hf=>by simp only[aI.val,hx,hy];rw[hj hf,Int.toNat_natCast]) (fun _=>h)
def eJ {n:Nat}{args:List Src}{aaz:List D}{ι:Type}(P:ι→Prop)(V:ι→D)(nx':Nat)(M:ι→List (Nat×bo))(h:∀i,P i→aD Γ draw r env (⟨true,V i⟩::rs) nx' (M i) K)
  (hc:∀K':D→St→Prop,(∀i,P i→K' (V i) ⟨nx'+rs.length,M i⟩)→Γ.tr n aaz ⟨nx+rs.length,m⟩ K') (hn:nx≤nx') (ha:gM (cb env rs) args=aaz:=by exact rfl)
  (ho:tI (cb env rs) args:=by repeat' first|exact trivial|exact rfl|refine And.intro ?_ ?_):aD Γ draw (⟨.callM n args,none⟩::r) env rs nx m K:=by
 unfold aD;show True∧(true=true→tI (Src.ev env rs.reverse) args∧Γ.tr n (gM (Src.ev env rs.reverse) args) {nx:=nx+rs.reverse.length,m:=m} _)∧(true=false→_);rw[k8,List.length_reverse,ha];refine⟨trivial,fun _=>⟨ho,hc _ fun i hi=>⟨by show nx+rs.length≤nx'+rs.length;omega, ?_⟩⟩,fun h=>by cases h⟩;have h:=h i hi;unfold aD at h;rw[List.reverse_cons]at h;have e:nx'+rs.length-rs.length=nx':=by omega
 simp only[e];exact h
def sC {n j:Nat}{w:Bool}{args:List Src}{aaz:List D}{ι:Type}(P:ι→Prop)(V:ι→D)(nx':Nat)(M:ι→List (Nat×bo))(h:∀i,P i→aD Γ draw r env (⟨true,V i⟩::rs) nx' (M i) K)(hg:GF rs (some (j,w)) true:=by exact⟨_,_,rfl,rfl⟩)
  (hc:∀K':D→St→Prop,(∀i,P i→K' (V i) ⟨nx'+rs.length,M i⟩)→Γ.tr n aaz ⟨nx+rs.length,m⟩ K') (hn:nx≤nx') (ha:gM (cb env rs) args=aaz:=by exact rfl)
  (ho:tI (cb env rs) args:=by repeat' first|exact trivial|exact rfl|refine And.intro ?_ ?_):aD Γ draw (⟨.callM n args,some (j,w)⟩::r) env rs nx m K:=by
 unfold aD;show wO rs.reverse (some (j,w))∧(flag rs.reverse (some (j,w))=true→tI (Src.ev env rs.reverse) args∧Γ.tr n (gM (Src.ev env rs.reverse) args) {nx:=nx+rs.reverse.length,m:=m} _)∧(flag rs.reverse (some (j,w))=false→_);obtain⟨hg1,hg2⟩:=hg.flag;rw[hg1,k8,List.length_reverse,ha];refine⟨hg2,fun _=>⟨ho,hc _ fun i hi=>⟨by show nx+rs.length≤nx'+rs.length;omega, ?_⟩⟩,fun h=>by cases h⟩;have h:=h i hi;unfold aD at h;rw[List.reverse_cons]at h;have e:nx'+rs.length-rs.length=nx':=by omega
 simp only[e];exact h
def zd {n j:Nat}{w:Bool}{args:List Src}(h:aD Γ draw r env (⟨false,.any⟩::rs) nx m K)(hg:GF rs (some (j,w)) false:=by exact⟨_,_,rfl,rfl⟩):aD Γ draw (⟨.callM n args,some (j,w)⟩::r) env rs nx m K:=by
 unfold aD;show wO rs.reverse (some (j,w))∧(flag rs.reverse (some (j,w))=true→_)∧(flag rs.reverse (some (j,w))=false→_);obtain⟨hg1,hg2⟩:=hg.flag;rw[hg1];refine⟨hg2,fun h=>(by cases h),fun _=>?_⟩;unfold aD at h;rw[List.reverse_cons]at h;exact h
def HA {c a:Src}{fc t:Bool}(h:aD Γ draw r env (⟨f,.bool false⟩::rs) nx m K)(hg:GF rs g f:=by exact cH)(hc:cb env rs c=⟨fc,.bool t⟩:=by exact rfl)(kc:f=true→fc=true:=by exact fun _=>rfl)(ht:t=false:=by exact rfl):aD Γ draw (⟨.pick c a (.c (.bool false)),g⟩::r) env rs nx m K:=by
 subst ht;refine bH rfl hg _ (fun hf=>?_) (fun hf=>?_) (fun _=>h)
 ·simp only[aI.dr,hc];exact⟨kc hf,⟨fun h=>absurd h (by simp),fun _=>rfl⟩⟩
 ·simp only[aI.val,hc];have:cb env rs (.c (.bool false))=⟨true,.bool false⟩:=rfl;rw[this];cases(cb env rs a).d<;>rfl
def lC {n:Nat}{x:Src}{caps:List D}{args:List Src}{aaz:List D}{ι:Type}(P:ι→Prop)(V:ι→D)(nx':Nat)(M:ι→List (Nat×bo))(h:∀i,P i→aD Γ draw r env (⟨true,V i⟩::rs) nx' (M i) K)
  (hc:∀K':D→St→Prop,(∀i,P i→K' (V i) ⟨nx'+rs.length,M i⟩)→Γ.tr (yD n) aaz ⟨nx+rs.length,m⟩ K') (hn:nx≤nx') (hx:cb env rs x=⟨true,.fn n caps⟩:=by exact rfl) (ha:wK n (gM (cb env rs) args) caps=aaz:=by exact rfl)
  (ho:tI (cb env rs) args:=by repeat' first|exact trivial|exact rfl|refine And.intro ?_ ?_):aD Γ draw (⟨.callvM x args,none⟩::r) env rs nx m K:=by
 unfold aD;show GB rs.reverse (.callvM x args) none∧(Src.ev env rs.reverse x).ok=true∧tI (Src.ev env rs.reverse) args∧match(Src.ev env rs.reverse x).d with
   | .fn n caps=>Γ.tr (yD n) (wK n (gM (Src.ev env rs.reverse) args) caps) {nx:=nx+rs.reverse.length,m:=m} _
   |_=>False
 rw[k8,List.length_reverse];simp only[hx,ha];refine⟨trivial,trivial,ho,hc _ fun i hi=>⟨by show nx+rs.length≤nx'+rs.length;omega, ?_⟩⟩;have h:=h i hi;unfold aD at h;rw[List.reverse_cons]at h;have e:nx'+rs.length-rs.length=nx':=by omega
 simp only[e];exact h
def HF {x:Src}{fx:Bool}{α:Type} [Inhabited α]{n k i o:Nat}{ag:Bool}{q:α→D}{xs:List α}(v:D)(h:aD Γ draw r env (⟨f,v⟩::rs) nx m K)(hg:GF rs g f:=by exact cH)(hx:cb env rs x=⟨fx,.ref k (xs.map q) i o⟩:=by exact rfl)(kx:f=true→fx=true:=by exact bU)(hi:f=true→i<xs.length:=by exact tQ)(hv:f=true→nV (q xs[i]!) k n o ag=v:=by exact fun _=>rfl)(ho:o+n≤k:=by omega):aD Γ draw (⟨.ldU n ag x,g⟩::r) env rs nx m K:=
 gz rfl hg _ (fun hf=>by simp only[aI.dr,hx,At,List.length_map];exact⟨kx hf,hi hf,ho⟩) (fun hf=>by simp only[aI.val,hx,zK];rw[getD_map (hi hf)];exact hv hf) m rfl (fun ha=>h)
def HE {x:Src}{fx:Bool}{n l k o:Nat}{ag:Bool}{d:D}(v:D)(h:aD Γ draw r env (⟨f,v⟩::rs) nx m K)(hg:GF rs g f:=by exact cH)(hx:cb env rs x=⟨fx,.ptr l k 0 o⟩:=by exact rfl)(kx:f=true→fx=true:=by exact bU)(hl:f=true→look m l=some (.buf k [d]):=by exact fun _=>rfl)(hv:f=true→nV d k n o ag=v:=by exact fun _=>rfl)(ho:o+n≤k:=by omega)(hd:f=true→d.a7=false:=by exact fun _=>rfl):aD Γ draw (⟨.ldU n ag x,g⟩::r) env rs nx m K:=
 gz rfl hg _ (fun hf=>by simp only[aI.dr,hx,At,et,hl hf];exact⟨kx hf,⟨⟨trivial,by simp⟩,ho⟩,by simp only[aS,hl hf,aT,hd hf];rfl⟩) (fun hf=>by simp only[aI.val,hx,zK,aS,hl hf,List.getD_cons_zero];exact hv hf) m rfl (fun ha=>h)
end
end Go.Abs
end
section
namespace Go.Abs
def JA:List ai→D
 |[]=>.az
 |a::r=>.sl 1 ((a::r).map D.str)
def xM:∀l,(JA l).a7=true
 |[]=>rfl
 |a::r=>rfl
def rR.N (x:rR):Go.Abs.D:=.agg [.str x.name,.int .i64 x.v.major,.int .i64 x.v.minor,.int .i64 x.v.patch,.str x.v.pre,.str x.v.build,.str x.shelf,.int .u64 x.sum,JA x.feats]
def rR.mg (x:rR):x.N.a7=true:=by
 have:=xM x.feats;simp only[rR.N,D.a7,aT,this,Bool.and_true]
end Go.Abs
namespace Go.Abs
def rR.F (name:ai)(v:b7)(shelf:ai)(sum:Int)(fs:Go.Abs.D):Go.Abs.D:=.agg [.str name,.int .i64 v.major,.int .i64 v.minor,.int .i64 v.patch,.str v.pre,.str v.build,.str shelf,.int .u64 sum,fs]
mutual
theorem LY (l k:Nat)(es:List D):∀d:D,d.a7=true→fq l k es d=d
 | .agg a,h=>by simp only[fq,nu l k es a (by simpa[D.a7]using h)]
 | .tup a,h=>by simp only[fq,nu l k es a (by simpa[D.a7]using h)]
 | .fn n a,h=>by simp only[fq,nu l k es a (by simpa[D.a7]using h)]
 | .own ..,h=>by simp[D.a7]at h
 | .ptr ..,h=>by simp[D.a7]at h
 | .it ..,h=>by simp[D.a7]at h
 | .any,_| .bool _,_| .int ..,_| .str _,_| .az,_| .sl ..,_| .ref ..,_| .nilp,_| .nilf,_=>rfl
theorem nu (l k:Nat)(es:List D):∀ds:List D,aT ds=true→fV l k es ds=ds
 |[],_=>rfl
 |d::r,h=>by
  simp only[aT,Bool.and_eq_true]at h;simp only[fV,LY l k es d h.1,nu l k es r h.2]
end
end Go.Abs
namespace Go.Abs
end Go.Abs
namespace Go.Abs
end Go.Abs
namespace Go.Abs
end Go.Abs
namespace Go.Abs
end Go.Abs
namespace Go.Abs
end Go.Abs
end
section
namespace Go.Abs
end Go.Abs
namespace Go.Abs
def Kp.eq (a b:Kp):gp (Kp.D a).cells (Kp.D b).cells=decide (a=b):=by
 obtain⟨n1,⟨a1,a2,a3,a4,a5⟩⟩:=a;obtain⟨n2,⟨b1,b2,b3,b4,b5⟩⟩:=b;simp only[Kp.D,D.cells,gp,qU,tW,Kp.mk.injEq,b7.mk.injEq,Bool.and_true];simp only[Bool.decide_and]
structure rR.ok (n:Nat)(x:rR):Prop where
 pre:x.v.pre.length≤3
 build:x.v.build.length≤2
 name:x.name.length≤16
 shelf:x.shelf.length≤16
 nf:x.feats.length≤n
 ft:∀t∈x.feats,t.length≤16
 sum:0≤x.sum∧x.sum<18446744073709551616
structure zH.ok (n:Nat)(l:zH):Prop where
 len:l.lines.length≤4
 lines:∀x∈l.lines,x.ok n
 env:∀i,(l.env.at i).length≤16
def zH.ok.sm {n:Nat}{l:zH}(h:l.ok n)(hn:n≤1000):l.sm:=by
 refine⟨by have:=h.len;omega,fun x hx=>?_,fun i=>by have:=h.env i;omega⟩;have k:=h.lines x hx;have k1:=k.pre;have k2:=k.build;have k3:=k.name;have k4:=k.shelf;have k5:=k.nf;exact⟨⟨by omega,by omega⟩,by omega,by omega,by omega,fun t ht=>by have:=k.ft t ht;omega⟩
def rR.ok.mono {n m:Nat}{x:rR}(h:x.ok n)(hm:n≤m):x.ok m:=⟨h.pre,h.build,h.name,h.shelf,Nat.le_trans h.nf hm,h.ft,h.sum⟩
end Go.Abs
end
section
namespace Go.Abs
def lk {α:Type}:List (Nat×α)→Nat→α→α
 |[],_,d=>d
 |(a,b)::r,n,d=>bif Nat.beq a n then b else lk r n d
structure Row where
 key:Nat
 pre:List D→Prop
 val:List D→D
structure PL where
 pre:D→List D→Prop
 val:D→List D→D
 new:D→List D→D
def Row.no:Row:=⟨0,fun _=>False,fun _=>.any⟩
def PL.no:PL:=⟨fun _ _=>False,fun _ _=>.any,fun _ _=>.any⟩
section
variable [cz] {P:Program} {ν:List (Nat×Nat)} {b9:List Nat} {Γ:Ctx}
end
end Go.Abs
end
