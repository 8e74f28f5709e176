/- A part of the proofs. -/
import Derived.Test.YtgnjlompgjhaaaaGreatDoorP04
set_option linter.all false
set_option maxRecDepth 4000
namespace Go.Abs
section
abbrev RT:=List D->D->Prop
abbrev FT:=D->List D->D->D->Prop
abbrev TT:=List D->St->(D->St->Prop)->Prop
def EB (T:TT):Prop:=∀ds st K K',(∀d st',K d st'->K' d st')->T ds st K->T ds st K'
def DB (A:RT->Prop):RT:=fun ds d=>∀T,A T->T ds d
def oP (A:FT->Prop):FT:=fun d ds v s=>∀T,A T->T d ds v s
def RE (T:TT):Ctx:=⟨fun _ _=>False,fun _ _=>.any,fun _=>T,fun _ _ _=>False,fun _ _ _=>.any,fun _ _ _=>.any,0⟩
def H3 (C:Ctx->Prop):TT:=fun ds st K=>∀T,EB T->C (RE T)->T ds st K
def wW (C:Ctx->Prop):EB (H3 C):=fun _ _ _ _ h h1 T hT hC=>hT _ _ _ _ h (h1 T hT hC)
def noR:RT:=fun _ _=>False
def noF:FT:=fun _ _ _ _=>False
def noT:TT:=fun _ _ _=>False
def zW:EB noT:=fun _ _ _ _ _ h=>h.elim
structure qw where
 key:Nat
 rel:RT
 mu:List D->Nat
 relF:FT
 tr:TT
 muE:List D->St->Nat
 mono:EB tr
def mu0:List D->Nat:=fun _=>0
def Qa:List D->St->Nat:=fun _ _=>0
def m9:qw:=⟨0,noR,mu0,noF,noT,Qa,zW⟩
def rP (k:Nat)(A:RT->Prop)(mu:List D->Nat:=mu0):qw:=⟨k,DB A,mu,noF,noT,Qa,zW⟩
def rF (k:Nat)(A:FT->Prop):qw:=⟨k,noR,mu0,oP A,noT,Qa,zW⟩
def rG (k:Nat)(C:Ctx->Prop)(mu:List D->St->Nat:=Qa):qw:=⟨k,noR,mu0,noF,H3 C,mu,wW C⟩
def rFG (k:Nat)(A:FT->Prop)(C:Ctx->Prop):qw:=⟨k,noR,mu0,oP A,H3 C,Qa,wW C⟩
noncomputable def pick (r:D->Prop):D:=Classical.epsilon r
def lO {r:D->Prop}(h:∃d,r d):r (pick r):=Classical.epsilon_spec h
def Zf (R:RT):Prop:=∀ds d d',R ds d->R ds d'->d=d'
def y5 (R:FT):Prop:=∀d ds v s v' s',R d ds v s->R d ds v' s'->v=v'/\s=s'
def Wa {A:RT->Prop}(h:A fun ds d=>A fun ds' d'=>ds'=ds->d=d'):Zf (DB A):=fun ds d d' h1 h2=>h2 _ (h1 _ h) rfl
def SF {A:FT->Prop}(h:A fun d ds v s=>A fun d' ds' v' s'=>d'=d->ds'=ds->v=v'/\s=s'):y5 (oP A):=fun d ds v s v' s' h1 h2=>h2 _ (h1 _ h) rfl rfl
noncomputable def Ba (t:List (Nat×qw)):Ctx where
 pre n ds:=∃d,(lk t n m9).rel ds d
 val n ds:=pick ((lk t n m9).rel ds)
 tr n:=(lk t n m9).tr
 fp n d ds:=∃v s,(lk t n m9).relF d ds v s
 fv n d ds:=pick fun v=>∃s,(lk t n m9).relF d ds v s
 fs n d ds:=pick fun s=>∃v,(lk t n m9).relF d ds v s
 lo:=0
def Ra (t:List (Nat×qw)):VV:=⟨fun n=>(lk t n m9).key,fun n=>(lk t n m9).mu,fun n=>(lk t n m9).muE⟩
noncomputable abbrev under (t:List (Nat×qw))(k u:Nat):Ctx:=(Ba t).under (Ra t) k u
def AO (t:List (Nat×qw))(k u n:Nat):(((Ba t).under (Ra t) k u).at n).bd:=
 fun f ds st K K' h hh=>⟨hh.1,(lk t f m9).mono ds st K K' h hh.2⟩
section
variable {t:List (Nat×qw)} {n k u:Nat} {ds:List D} {d v s:D} {st:St} {K:D->St->Prop}
def Xv (hD:Zf (lk t n m9).rel)(hk:(lk t n m9).key<k\/(lk t n m9).key=k/\(lk t n m9).mu ds<u)(h:(lk t n m9).rel ds d):(under t k u).pre n ds/\(under t k u).val n ds=d:=
 ⟨⟨hk,d,h⟩,hD _ _ _ (lO ⟨d,h⟩) h⟩
def okf (hD:y5 (lk t n m9).relF)(hk:(lk t n m9).key<k)(h:(lk t n m9).relF d ds v s):(under t k u).fp n d ds/\(under t k u).fv n d ds=v/\(under t k u).fs n d ds=s:=by
 refine⟨⟨.inl hk,v,s,h⟩, ?_, ?_⟩
 ·obtain⟨s',h'⟩:=lO (r:=fun v=>∃s,(lk t n m9).relF d ds v s) ⟨v,s,h⟩;exact(hD _ _ _ _ _ _ h' h).1
 ·obtain⟨v',h'⟩:=lO (r:=fun s=>∃v,(lk t n m9).relF d ds v s) ⟨s,v,h⟩;exact(hD _ _ _ _ _ _ h' h).2
def yh (hk:(lk t n m9).key<k\/(lk t n m9).key=k/\(lk t n m9).muE ds st<u)(h:(lk t n m9).tr ds st K):(under t k u).tr n ds st K:=⟨hk,h⟩
end
section
variable [dz] {P:Program} {ν:List (Nat×Nat)} {cP:List Nat} {Y:Ctx} {t:List (Nat×qw)} {fid n key:Nat}
def Jd (P:Program)(ν:List (Nat×Nat))(cP:List Nat)(Y:Ctx)(fid:Nat)(ds:List D)(d:D):Prop:=Ok P ν cP Y->∀(x:X) (args:Array Value),args.size=ds.length->(∀i,i<ds.length->RD ν x (args.getD i undef) (ds.getD i .any))->bB ds=true->
  (∀b,x.I b->b<x.w.heap.size)->dz.gd x->jO P x (fun v x'=>nM x x'/\RD ν x' v d) ((callFunc fid args).run P x.w)
def Bv (P:Program)(ν:List (Nat×Nat))(cP:List Nat)(Y:Ctx)(fid:Nat)(d:D)(ds:List D)(vd new:D):Prop:=Ok P ν cP Y->∀(x:X) (f:Nat->Option bO) (args:Array Value) (l k:Nat),args.size=ds.length+1->
   RD ν x (args.getD 0 undef) (.ptr l k 0 0)->(∀i,i<ds.length->RD ν x (args.getD (i+1) undef) (ds.getD i .any))->fW ν x f->f l=some (.buf k [d])->d.bC=true->bB ds=true->
   jO P x (fun v x'=>Step x x'/\RD ν x' v vd/\fW ν x' (fun l'=>if l'=l then some (.buf k [new])else f l')/\x'.β=x.β) ((callFunc fid args).run P x.w)
def qm (P:Program)(ν:List (Nat×Nat))(cP:List Nat)(Y:Ctx)(fid:Nat)(ds:List D)(st:St)(K:D->St->Prop):Prop:=Ok P ν cP Y->∀(x:X) (args:Array Value),args.size=ds.length->(∀i,i<ds.length->RD ν x (args.getD i undef) (ds.getD i .any))->fW ν x (look st.m)->fU st x->
  jO P x (fun v x'=>∃d st',K d st'/\Step x x'/\RD ν x' v d/\fW ν x' (look st'.m)/\fU st' x') ((callFunc fid args).run P x.w)
structure Xo (P:Program)(ν:List (Nat×Nat))(cP:List Nat)(t:List (Nat×qw))(fid n:Nat):Prop where
 p:∀ds d,(lk t n m9).rel ds d->Jd P ν cP (under t (lk t n m9).key ((lk t n m9).mu ds)) fid ds d
 f:y5 (lk t n m9).relF/\∀d ds v s,(lk t n m9).relF d ds v s->Bv P ν cP (under t (lk t n m9).key ((lk t n m9).mu (d::ds))) fid d ds v s
 g:∀ds st K,(lk t n m9).tr ds st K->qm P ν cP (under t (lk t n m9).key ((lk t n m9).muE ds st)) fid ds st K
def okA (hsm:∀fid n,fu ν fid=some n->n<1000000)(hB:∀t,cP.contains (1000000000+t)=true->t=dz.tB)(h:∀fid n,fu ν fid=some n->Xo P ν cP t fid n):Ok P ν cP (Ba t):=by
 refine ok_of (Ra t) hsm hB (fun fid n hn ds hp hok=>(h fid n hn).p ds _ (lO hp) hok) (fun fid n hn _ d ds hp hok=>?_) (fun fid n hn ds st K htr hok=>(h fid n hn).g ds st K htr hok);obtain⟨v,s,hr⟩:=hp;obtain⟨hD,hf⟩:=(h fid n hn).f;have h2:(Ba t).fv n d ds=v/\(Ba t).fs n d ds=s:=by
  constructor
  ·obtain⟨s',h'⟩:=lO (r:=fun v=>∃s,(lk t n m9).relF d ds v s) ⟨v,s,hr⟩;exact(hD _ _ _ _ _ _ h' hr).1
  ·obtain⟨v',h'⟩:=lO (r:=fun s=>∃v,(lk t n m9).relF d ds v s) ⟨s,v,hr⟩;exact(hD _ _ _ _ _ _ h' hr).2
 rw[h2.1,h2.2];exact hf d ds v s hr hok
def JU {Y:D->List D->Ctx}:y5 noF/\∀d ds v s,noF d ds v s->Bv P ν cP (Y d ds) fid d ds v s:=⟨fun _ _ _ _ _ _ h=>h.elim,fun _ _ _ _ h=>h.elim⟩
def br {A:RT->Prop}{mu:List D->Nat}(hr:lk t n m9=rP key A mu)(h:A fun ds d=>Jd P ν cP (under t key (mu ds)) fid ds d):Xo P ν cP t fid n:=by
 refine⟨?_, ?_, ?_⟩<;>rw[hr]
 ·exact fun ds d hd=>hd (fun ds d=>Jd P ν cP (under t key (mu ds)) fid ds d) h
 ·exact JU
 ·exact fun _ _ _ h=>h.elim
def WN {A:FT->Prop}(hr:lk t n m9=rF key A)(hD:y5 (oP A))(h:A fun d ds v s=>Bv P ν cP (under t key 0) fid d ds v s):Xo P ν cP t fid n:=by
 refine⟨?_, ?_, ?_⟩<;>rw[hr]
 ·exact fun _ _ h=>h.elim
 ·exact⟨hD,fun d ds v s hd=>hd _ h⟩
 ·exact fun _ _ _ h=>h.elim
def B0 {Y:List D->St->Ctx}:EB fun ds st K=>qm P ν cP (Y ds st) fid ds st K:=fun ds st K K' h hg hok x args hl ha hs hf=>(hg hok x args hl ha hs hf).mono fun v x' ⟨d,st',h1,h2⟩=>⟨d,st',h _ _ h1,h2⟩
def py {C:Ctx->Prop}{mu:List D->St->Nat}(hr:lk t n m9=rG key C mu)(h:C (RE fun ds st K=>qm P ν cP (under t key (mu ds st)) fid ds st K)):Xo P ν cP t fid n:=by
 refine⟨?_, ?_, ?_⟩<;>rw[hr]
 ·exact fun _ _ h=>h.elim
 ·exact JU
 ·exact fun ds st K hd=>hd (fun ds st K=>qm P ν cP (under t key (mu ds st)) fid ds st K) B0 h
def oweFG {A:FT->Prop}{C:Ctx->Prop}(hr:lk t n m9=rFG key A C)(hD:y5 (oP A))(h:A fun d ds v s=>Bv P ν cP (under t key 0) fid d ds v s)(h2:C (RE fun ds st K=>qm P ν cP (under t key 0) fid ds st K)):Xo P ν cP t fid n:=by
 refine⟨?_, ?_, ?_⟩<;>rw[hr]
 ·exact fun _ _ h=>h.elim
 ·exact⟨hD,fun d ds v s hd=>hd _ h⟩
 ·exact fun ds st K hd=>hd _ B0 h2
def Oo (P:Program)(ν:List (Nat×Nat))(cP:List Nat)(fid:Nat)(af:aF):Prop:=(P.funcs[fid]?).map (fun f=>(compile P ν cP f,f.name== "runtime.NumGoroutine"))=some (some af,false)
def Oo.split {af:aF}(h:Oo P ν cP fid af):∃fn,P.funcs[fid]? =some fn/\compile P ν cP fn=some af/\(fn.name== "runtime.NumGoroutine")=false:=by
 grind [Oo]
def aR {af:aF}{ds:List D}{d:D}(hmix:P.follows .mixedOrders=true)(hC:Oo P ν cP fid af)(h1:ds.length=af.np)(h2:bH (Y.at 0) af.body (VW af d) (gw af ds) ⟨0,[]⟩):Jd P ν cP Y fid ds d:=by
 intro hok x args hl hargs hnl himm hgd;obtain⟨fn,hf,hc,hn⟩:=hC.split;obtain⟨body,c1,_⟩:=jj hc;exact .inr ⟨fid,args,iW hf hn (by rw[c1];rfl) args x.w,SP hok hmix hf hc hl hargs hnl himm hgd h1 h2⟩
def Ff {af:aF}{d:D}{ds:List D}{vd new:D}(k0:Nat)(hmix:P.follows .mixedOrders=true)(hC:Oo P ν cP fid af)(h1:ds.length+1=af.np)(hk:d.cells.length=k0)
  (h2:bH (Y.at 1) af.body (L8 af k0 vd new) (gw af (.ptr 0 k0 0 0::ds)) ⟨1,[(0,.buf k0 [d])]⟩):Bv P ν cP Y fid d ds vd new:=by
 intro hok x f args l k hl h0 hargs hs hfl hd hnl;obtain⟨fn,hf,hc,hn⟩:=hC.split;obtain⟨body,c1,_⟩:=jj hc;have hkk:k=k0:=by
  generalize args.getD 0 undef=v0 at h0;cases h0 with
  |ptr _ _ _ _ b base tot at_ hβ hat=>
   obtain⟨p1,p2,c,T,fr,p3,p4,p5,p6⟩:=(hs.own l _ b base tot hfl hβ).2;have:=(p6 0 aT).1
   grind
 subst hkk;exact .inr ⟨fid,args,iW hf hn (by rw[c1];rfl) args x.w,SN hok hmix hf hc hl h0 hargs hs hfl hd hnl h1 h2⟩
def S0 {k l:Nat}{d:D}{ds:List D}{vd new:D}{st:St}{K:D->St->Prop}(h:Bv P ν cP Y fid d ds vd new)(hl:look st.m l=some (.buf k [d]))(hd:d.bC=true)(hnl:bB ds=true)(hK:K vd ⟨st.nx,du st.m l (.buf k [new])⟩):
  qm P ν cP Y fid (.ptr l k 0 0::ds) st K:=by
 intro hok x args hl2 hargs hs hf;refine(h hok x (look st.m) args l k (by simpa using hl2) (hargs 0 aT) (fun i hi=>hargs (i+1) (by simpa using hi)) hs hl hd hnl).mono ?_;rintro v x' ⟨h1,h2,h3,h4⟩;have e:(fun l'=>if l'=l then some (.buf k [new])else look st.m l')=look (du st.m l (.buf k [new])):=by
  funext l';rw[cA]
 refine⟨vd,_,hK,h1,h2,e▸h3,fun l' hl'=>by rw[h4];exact hf.β l' hl',fun l' hl'=>?_⟩;rw[cA]at hl';split at hl'
 ·rename_i e;subst e;exact hf.m _ (by rw[hl];simp)
 ·exact hf.m _ hl'
def BY {af:aF}{ds:List D}{st:St}{K:D->St->Prop}{σi:List (Nat×Nat)}{q:Nat}{m0:List (Nat×bO)}{cs:List D}{Q:D->List (Nat×bO)->Prop}(hmono:∀q,(Y.at q).bd)(hmix:P.follows .mixedOrders=true)(hC:Oo P ν cP fid af)
  (h1:cs.length=ds.length) (h2:∀i,i<ds.length->R3 0 σi (ds.getD i .any) (cs.getD i .any)) (h3:cs.length=af.np)
  (h4:iU 0 q σi=true) (h5:∀l i,(l,i)∈σi->look st.m l≠none) (h6:∀i b,look m0 i=some b->∃l b',(l,i)∈σi/\look st.m l=some b'/\sR 0 σi b' b)
  (h7:bH (Y.at q) af.body (nb af Q) (gw af cs) ⟨q,m0⟩) (h8:∀d m1,Q d m1->∃(σo:List (Nat×Nat)) (q1:Nat) (st':St) (vd':D),Fr σi σo q q1 m0 m1 st st'/\R3 0 σo d vd'/\K vd' st'):qm P ν cP Y fid ds st K:=by
 intro hok x args hl hargs hs hfr;obtain⟨fn,hf,hc,hn⟩:=hC.split;obtain⟨body,c1,_⟩:=jj hc;refine .inr ⟨fid,args,iW hf hn (by rw[c1];rfl) args x.w, ?_⟩;refine Calls.mono (SO (K:=K) hok hmix hf hc hl hargs hs hfr h1 h2 h3 h4 h5 h6 (gR (hmono q) _ _ _ _ _ (fun e env st1 h=>?_) h7)) fun e w' he=>?_
 ·obtain⟨g1,g2,m1,g3,g4⟩:=h
  grind
 grind
end
end
end Go.Abs
section
namespace Go.Abs
structure cq where
 name:au
 range:au
 feats:List au
 bare:Bool
 deriving Inhabited,DecidableEq
def cq.D (x:cq):D:=.agg [.str x.name,.str x.range,.sl 1 (x.feats.map D.str),.bool x.bare]
structure cb where
 any:List cq
 when':au
 option:au
 deriving Inhabited,DecidableEq
def cb.D (x:cb):D:=.agg [.sl 4 (x.any.map cq.D),.str x.when',.str x.option]
structure jL where
 name:au
 range:au
 when':au
 deriving Inhabited,DecidableEq
def jL.D (x:jL):D:=.agg [.str x.name,.str x.range,.str x.when']
structure cu where
 name:au
 of:List au
 deriving Inhabited,DecidableEq
def cu.D (x:cu):D:=.agg [.str x.name,.sl 1 (x.of.map D.str)]
structure Rec where
 name:au
 v:cY
 needs:List cb
 bars:List jL
 feats:List cu
 deriving Inhabited,DecidableEq
def Rec.D (x:Rec):D:=.agg [.str x.name,.int .i64 x.v.major,.int .i64 x.v.minor,.int .i64 x.v.patch,.str x.v.pre,.str x.v.build,.sl 3 (x.needs.map cb.D),.sl 3 (x.bars.map jL.D),.sl 2 (x.feats.map cu.D)]
structure dp where
 op:Int
 parts:Int
 v:cY
 deriving Inhabited,DecidableEq
def dp.D (x:dp):D:=.agg [.int .i64 x.op,.int .i64 x.parts,.int .i64 x.v.major,.int .i64 x.v.minor,.int .i64 x.v.patch,.str x.v.pre,.str x.v.build]
structure Nd where
 op:Int
 a:Int
 b:Int
 key:Int
 text:au
 deriving Inhabited,DecidableEq
def Nd.D (x:Nd):D:=.agg [.int .i64 x.op,.int .i64 x.a,.int .i64 x.b,.int .i64 x.key,.str x.text]
def jL.eq (a b:jL):iZ (jL.D a).cells (jL.D b).cells=decide (a=b):=by
 obtain⟨a1,a2,a3⟩:=a;obtain⟨b1,b2,b3⟩:=b
 grind [jL.D,D.cells,iZ,uC]
def cq.same {a b:cq}(e1:a.name=b.name)(e2:a.range=b.range)(e3:a.bare=b.bare):decide (a=b)=decide (a.feats=b.feats):=by
 obtain⟨a1,a2,a3,a4⟩:=a;obtain⟨b1,b2,b3,b4⟩:=b
 grind
def rising (l:List au):Bool:=cV (fun i=>Op.bytesLess l[i-1]! l[i]!) 1 l.length
def dq (s:au):Int×au×au:=
 if cG s=true then(1,s,[])
 else if s.length>0/\at8 s 0=63/\cG (s.drop 1)=true then(2,s.drop 1,[])
 else if(ak s 47).length=2/\dJ (ak s 47)[0]! =true/\cG (ak s 47)[1]! =true then(3,(ak s 47)[0]!,(ak s 47)[1]!)
 else(0,[],[])
def findF (l:List cu)(nm:au)(i:Nat):Int:=match(l.drop i).findIdx? (fun x=>decide (x.name=nm))with
 |some k=>((i+k:Nat):Int)
 |none=>-1
def E3 {l:List cu}{nm:au}{i:Nat}(h:i<l.length)(he:l[i]!.name=nm):findF l nm i=(i:Nat):=by
 unfold findF;rw[jD h,List.findIdx?_cons]
 grind
def E4 {l:List cu}{nm:au}{i:Nat}(h:i<l.length)(he:¬l[i]!.name=nm):findF l nm i=findF l nm (i+1):=by
 unfold findF;have:¬l[i].name=nm:=by simpa[h]using he
 rw[jD h,List.findIdx?_cons]
 grind
def BT {l:List cu}{nm:au}{i:Nat}(h:l.length<=i):findF l nm i=-1:=by
 unfold findF;rw[k8 h];rfl
def Ut:au:=[100,101,102,97,117,108,116]
def Xt (l:List cu)(nm:au):Bool:=decide (nm=Ut) ||decide (0<=findF l nm 0)
def iH (l:List cu)(s:au):Bool:=!(decide ((dq s).1=0) ||(decide ((dq s).1=1)&& !Xt l (dq s).2.1))
def lH (l:List cu)(of:List au):Bool:=decide (of.length<=6)&&rising of&&cV (fun i=>iH l of[i]!) 0 of.length
def jz (l:List cu)(i:Nat):Bool:=cG l[i]!.name&& !(decide (0<i)&& !Op.bytesLess l[i-1]!.name l[i]!.name)&&lH l l[i]!.of
def ie (l:List cu):Bool:=decide (l.length<=8)&&cV (jz l) 0 l.length
def cu.sm (x:cu):Prop:=x.name.length<=1048576/\x.of.length<=1048576/\∀t∈x.of,t.length<=1048576
def x5 (l:List cu):Prop:=∀x∈l,x.sm
def si (b:au):∀(l:List au) (i:Nat),(aP b (l.take i)).length<=(aP b l).length
 |[],i=>aT
 |[t],0=>by simp[aP]
 |[t],i+1=>aT
 |t::u::r,0=>by simp[aP]
 |t::u::r,1=>by simp[aP]
 |t::u::r,i+2=>by
  have:=si b (u::r) (i+1)
  grind [aP]
theorem tD (b t:au):∀(l:List au),l≠[]->aP b (l++[t])=aP b l++b++t
 |[],h=>absurd rfl h
 |[u],_=>by simp[aP]
 |u::v::r,_=>by
  have:=tD b t (v::r) aT
  grind [aP]
def p7 (b:au)(l:List au)(i:Nat)(h:i<l.length):aP b (l.take (i+1))=(if 0<i then aP b (l.take i)++b else [])++l[i]! :=by
 have e:l.take (i+1)=l.take i++[l[i]!]:=by
  rw[List.take_add_one,List.getElem?_eq_getElem h];simp[h]
 rw[e];by_cases h0:0<i
 ·rw[ax h0,tD _ _ _ (by intro hn;have:=ar List.length hn;simp only[fj,aB]at this;omega)]
 grind [aP]
end Go.Abs
namespace Go.Abs
def Jz {s:au}(h0:cG s=true):dq s=(1,s,[]):=by simp only[dq,ax h0]
def JA {s:au}(h0:cG s=false)(h:(0<(s.length:Int)/\at8 s 0=63)/\cG (s.drop 1)=true):dq s=(2,s.drop 1,[]):=by
 grind [dq]
theorem Fv {s:au}(h:(¬0<(s.length:Int)\/¬at8 s 0=63)\/cG (s.drop 1)=false):¬(s.length>0/\at8 s 0=63/\cG (s.drop 1)=true):=by
 grind
def JB {s:au}(h0:cG s=false)(h:(¬0<(s.length:Int)\/¬at8 s 0=63)\/cG (s.drop 1)=false)(h2:(((ak s 47).length:Int)=2/\dJ (ak s 47)[0]! =true)/\cG (ak s 47)[1]! =true):dq s=((3:Int),(ak s 47)[0]!,(ak s 47)[1]!):=by
 grind [dq,Fv]
def Jy {s:au}(h0:cG s=false)(h:(¬0<(s.length:Int)\/¬at8 s 0=63)\/cG (s.drop 1)=false)(h2:(¬((ak s 47).length:Int)=2\/dJ (ak s 47)[0]! =false)\/cG (ak s 47)[1]! =false):dq s=(0,[],[]):=by
 grind [dq,Fv]
end Go.Abs
end
namespace Go.Abs
theorem uo (s:au)(i:Nat)(h:i<s.length):at8 s i=((s[i]'h).toNat:Int):=by simp[at8,h]
def um (p:Int->Bool)(s:au):cV (fun i=>p (at8 s i)) 0 s.length=true↔∀c∈s,p c.toNat=true:=by
 rw[eD];constructor
 ·intro h c hc;obtain⟨i,hi,rfl⟩:=List.getElem_of_mem hc
  grind [uo]
 grind [uo]
theorem rR {b:Int}:∀{s cur:au},(∀c∈s,(c.toNat:Int)≠b)->cj b s cur=[cur++s]
 |[],cur,_=>by simp[cj]
 |c::r,cur,h=>by
  simp only[cj];rw[aj (h c (.head _)),rR (fun d hd=>h d (.tail _ hd))];simp
theorem tX {b:Int}{x:UInt8}(hx:(x.toNat:Int)=b)(r:au):∀{w cur:au},(∀c∈w,(c.toNat:Int)≠b)->cj b (w++x::r) cur=(cur++w)::cj b r []
 |[],cur,_=>by simp[cj,hx]
 |c::w,cur,h=>by
  simp only[fm,cj];rw[aj (h c (.head _)),tX hx r (fun d hd=>h d (.tail _ hd))];simp
def j9 {b:Int}{x:UInt8}(hx:(x.toNat:Int)=b):∀{ws:List au},ws≠[]->(∀w∈ws,∀c∈w,(c.toNat:Int)≠b)->ak (aP [x] ws) b=ws
 |[],h,_=>absurd rfl h
 |[w],_,h=>by
  show cj b w []=[w];rw[rR (h w (.head _))];rfl
 |w::u::r,_,h=>by
  have ih:=j9 (ws:=u::r) hx aT (fun v hv=>h v (.tail _ hv));show cj b (w++[x]++aP [x] (u::r)) []=_;rw[dS,List.singleton_append,tX hx _ (h w (.head _))];rw[show cj b (aP [x] (u::r)) []=u::r from ih];rfl
def rj {b:Int}{x:UInt8}(hx:(x.toNat:Int)=b):∀(s cur:au),aP [x] (cj b s cur)=cur++s
 |[],cur=>by simp[cj,aP]
 |c::r,cur=>by
  simp only[cj];split
  ·rename_i h;rw[gD _ _ _ (by intro h;have:=eR b r [];rw[h]at this;simp at this),rj hx r []];have:c=x:=iL.1 ae;simp[this]
  ·rw[rj hx r];simp
theorem mw {b:Int}{x:UInt8}(hx:(x.toNat:Int)=b)(s:au):aP [x] (ak s b)=s:=by
 unfold ak;rw[rj hx];rfl
def E5 {p:UInt8->Bool}{w:au}{x:UInt8}{r:au}(h:∀c∈w,p c=false)(hx:p x=true):(w++x::r).findIdx? p=some w.length:=by
 grind
def zh {b:Int}{w:au}(h:∀c∈w,(c.toNat:Int)≠b):e7 w b=([],w):=by
 unfold e7 jM
 grind
def wK {b:Int}{w r:au}{x:UInt8}(h:∀c∈w,(c.toNat:Int)≠b)(hx:(x.toNat:Int)=b):e7 (w++x::r) b=(r,w):=by
 unfold e7 jM;rw[cn,E5 (fun c hc=>by simpa using h c hc) (by simpa using hx)];simp
theorem EV {n:Nat}(h:n<10):bm (dg n).toNat=true:=by
 grind [BL,bm]
def uy {Q:Nat->Prop}(h1:∀n,n<10->Q n)(h2:∀n,9<n->Q (n/10)->Q n)(n:Nat):Q n:=by
 induction n using Nat.strongRecOn with
 |ind n ih=>
  grind
theorem gX (n:Nat):∀c∈dC n,bm c.toNat=true:=by
 refine uy (Q:=fun n=>∀c∈dC n,bm c.toNat=true) (fun n h c hc=>?_) (fun n h ih c hc=>?_) n
 ·grind [nk,EV]
 grind [ov,EV]
theorem Ih (s:au)(c:UInt8):ee (s++[c])=ee s*10+(c.toNat-48):=by
 simp[ee,List.foldl_append]
def FJ (n:Nat):ee (dC n)=n:=by
 refine uy (Q:=fun n=>ee (dC n)=n) (fun n h=>?_) (fun n h ih=>?_) n
 ·grind [nk,BL,ee]
 grind [ov,Ih,BL]
theorem xW (n:Nat):dC n≠[]:=by
 refine uy (Q:=fun n=>dC n≠[]) (fun n h=>?_) (fun n h ih=>?_) n
 ·rw[nk h];simp
 ·rw[ov h];simp
theorem Mq (n:Nat)(h:0<n):at8 (dC n) 0≠48:=by
 refine uy (Q:=fun n=>0<n->at8 (dC n) 0≠48) (fun n h h0=>?_) (fun n h ih h0=>?_) n h
 ·grind [nk,BL,at8]
 grind [ov,xW,at8,dC]
def su {n:Nat}(h:n<=9999):gW (dC n)=true:=by
 rw[DG];have h1:=List.length_pos_iff.2 (xW n);have h2:=eo 4 n ae ae;have h3:cV (fun i=>bm (at8 (dC n) i)) 0 (dC n).length=true:=(um bm _).2 (gX n)
 grind [dC,nk,Mq]
def vY {n:Nat}(h:n<=9999):eV (dC n)=(n:Int):=by
 rw[eV,ax (su h),FJ]
theorem nE (x:UInt8):∀(ws:List au) (c:UInt8),c∈aP [x] ws->c=x\/∃w∈ws,c∈w
 |[],c,h=>by simp[aP]at h
 |[w],c,h=>.inr ⟨w,.head _,h⟩
 |w::u::r,c,h=>by
  rw[gD _ _ _ aT]at h;simp only[List.mem_append,cN]at h;rcases h with(h|h)|h
  ·exact .inr ⟨w,.head _,h⟩
  ·exact .inl h
  ·rcases nE x (u::r) c h with h|⟨v,hv,hc⟩
   ·exact .inl h
   ·exact .inr ⟨v,.tail _ hv,hc⟩
def GD {s:au}{p:Bool}(h:rT s p=true){c:UInt8}(hc:c∈s):nw c.toNat=true\/c=46:=by
 simp only[rT,dh,aW,oF,bw,eD]at h;rcases h with rfl|⟨_,h⟩
 ·cases hc
 ·rw[<-mw (b:=46) (x:=46) rfl s]at hc;rcases nE 46 _ c hc with rfl|⟨w,hw,hcw⟩
  ·exact .inr rfl
  ·left;obtain⟨i,hi,rfl⟩:=List.getElem_of_mem hw;have:=h i ae hi;rw[show(ak s 46)[i]! =(ak s 46)[i]by simp[hi]]at this;simp only[iz,rS,bw]at this;exact(um nw _).1 this.1.2 c hcw
def Ed {s:au}{p:Bool}(h:rT s p=true){c:UInt8}(hc:c∈s):c.toNat≠43/\c.toNat≠32/\c.toNat≠10:=by
 rcases GD h hc with h|rfl
 ·grind [nw,ij,bm]
 ·decide
def qR {c:UInt8}(h:bm c.toNat=true):c.toNat≠46/\c.toNat≠45/\c.toNat≠43/\c.toNat≠32/\c.toNat≠10:=by
 grind [bm]
def coreS (v:cY):au:=dC v.major.toNat++[46]++dC v.minor.toNat++[46]++dC v.patch.toNat
def Da (v:cY){c:UInt8}(h:c∈coreS v):c.toNat≠45/\c.toNat≠43/\c.toNat≠32/\c.toNat≠10:=by
 simp only[coreS,List.mem_append,cN]at h;rcases h with(((h|rfl)|h)|rfl)|h
 ·exact(qR (gX _ c h)).2
 ·decide
 ·exact(qR (gX _ c h)).2
 ·decide
 ·exact(qR (gX _ c h)).2
theorem wC (v:cY):sO v=coreS v++(if v.pre=[]then []else 45::v.pre)++(if v.build=[]then []else 43::v.build):=rfl
def TV {v:cY}(h:eY v=true){c:UInt8}(hc:c∈sO v):c.toNat≠32/\c.toNat≠10:=by
 simp only[eY,bw]at h;rw[wC]at hc;simp only[List.mem_append]at hc;rcases hc with(hc|hc)|hc
 ·exact(Da v hc).2.2
 ·split at hc
  ·cases hc
  ·rcases bV.1 hc with rfl|hc
   ·decide
   ·exact(Ed h.1.2 hc).2
 ·split at hc
  ·cases hc
  ·rcases bV.1 hc with rfl|hc
   ·decide
   ·exact(Ed h.2 hc).2
def Xj {v:cY}(h:eY v=true):pJ (j3 v)=some v:=by
 have h0:=h;simp only[eY,pW,bw,aW]at h;obtain⟨⟨⟨⟨h1,h2⟩,h3⟩,h4⟩,h5⟩:=h;have e0:j3 v=sO v:=by rw[j3,ax h0]

 have hcp:∀c∈coreS v++(if v.pre=[]then []else 45::v.pre),(c.toNat:Int)≠43:=fun c hc=>by
  rcases List.mem_append.1 hc with hc|hc
  ·have:=(Da v hc).2.1;omega
  ·split at hc
   ·cases hc
   ·rcases bV.1 hc with rfl|hc
    ·decide
    ·have:=(Ed h4 hc).1;omega
 have e1:e7 (sO v) 43=(v.build,coreS v++(if v.pre=[]then []else 45::v.pre)):=by
  rw[wC];generalize coreS v++(if v.pre=[]then []else 45::v.pre)=q at hcp⊢;split
  ·rename_i hb;rw[gh,zh hcp,hb]
  ·exact wK hcp aG
 have hc45:∀c∈coreS v,(c.toNat:Int)≠45:=fun c hc=>by have:=(Da v hc).1;omega
 have e2:e7 (coreS v++(if v.pre=[]then []else 45::v.pre)) 45=(v.pre,coreS v):=by
  split
  ·rename_i hb;rw[gh,zh hc45,hb]
  ·exact wK hc45 aG
 have e3:ak (coreS v) 46=[dC v.major.toNat,dC v.minor.toNat,dC v.patch.toNat]:=by
  have:=j9 (b:=46) (x:=46) rfl (ws:=[dC v.major.toNat,dC v.minor.toNat,dC v.patch.toNat]) aT (fun w hw c hc=>by
   have hd:bm c.toNat=true:=by
    simp only[bV,er,or_false]at hw;rcases hw with rfl|rfl|rfl<;>exact gX _ c hc
   have:=(qR hd).1;omega)
  rw[<-this];simp[aP,coreS]
 have n1:=su (n:=v.major.toNat) ae;have n2:=su (n:=v.minor.toNat) ae;have n3:=su (n:=v.patch.toNat) ae;have o1:=vY (n:=v.major.toNat) ae;have o2:=vY (n:=v.minor.toNat) ae;have o3:=vY (n:=v.patch.toNat) ae;have ev:(⟨((v.major.toNat:Nat):Int),((v.minor.toNat:Nat):Int),((v.patch.toNat:Nat):Int),v.pre,v.build⟩:cY)=v:=by
  obtain⟨a,b,c,d,e⟩:=v;simp only[cY.mk.injEq,dH,cL];simp only at h1 h2 h3;omega
 rw[e0];simp only[pJ,e1,e2,e3];rw[ax ⟨rfl,n1,n2,n3⟩];simp only[List.getElem!_cons_zero,List.getElem!_cons_succ,o1,o2,o3,ev];rw[ax ⟨h0,e0⟩]
def AG {Q:au->Prop}(h0:Q [])(h1:∀s c,Q s->Q (s++[c]))(s:au):Q s:=by
 have:∀r:au,Q r.reverse:=by
  intro r;induction r with
  |nil=>exact h0
  |cons c r ih=>rw[List.reverse_cons];exact h1 _ _ ih
 simpa using this s.reverse
def JT (N i:Nat)(h:N<2^64):JS (N:Int) i=N/16^i%16:=by
 unfold JS sY;have e1:(N:Int).fdiv (2^(4*i))=((N/2^(4*i):Nat):Int):=by
  grind
 rw[e1,BitVec.ofInt_natCast,BitVec.toNat_and,BitVec.toNat_ofNat];have h2:N/2^(4*i)<2^64:=Nat.lt_of_le_of_lt (Nat.div_le_self _ _) h;rw[Nat.mod_eq_of_lt h2];have e2:(15#64).toNat=2^4-1:=rfl;rw[e2,Nat.and_two_pow_sub_one_eq_mod,show(16:Nat)^i=2^(4*i)by rw[Nat.pow_mul]]
def hv (c:UInt8):Nat:=if bm c.toNat=true then c.toNat-48 else c.toNat-87
def Dr {c:UInt8}(h:nU c.toNat=true):HP c.toNat=(hv c:Int)/\hv c<16:=by
 simp only[nU,bm,dh,bw,aW]at h;unfold HP hv
 grind [bm]
theorem Tx {N h:Nat}(hN:N<2^60)(hh:h<16):Tw (uY (N:Int) 4) (h:Int)=((N*16+h:Nat):Int):=by
 have e1:uY (N:Int) 4=((N*16:Nat):Int):=by
  unfold uY;rw[IntKind.wrap_u64];omega
 rw[e1];unfold Tw;rw[BitVec.ofInt_natCast,BitVec.ofInt_natCast,BitVec.toNat_or,BitVec.toNat_ofNat,BitVec.toNat_ofNat,Nat.mod_eq_of_lt (show N*16<2^64 by omega),Nat.mod_eq_of_lt (show h<2^64 by omega)];have e2:N*16 |||h=N*16+h:=by
  have:=Nat.shiftLeft_add_eq_or_of_lt (show h<2^4 by omega) N;rw[Nat.shiftLeft_eq]at this;exact this.symm
 rw[e2,IntKind.wrap_u64];omega
def iP (s:au):Nat:=s.foldl (fun n c=>n*16+hv c) 0
theorem nC (s:au)(c:UInt8):iP (s++[c])=iP s*16+hv c:=by simp[iP,List.foldl_append]
theorem x8:∀(s:au),(∀c∈s,nU c.toNat=true)->iP s<16^s.length:=by
 intro s;refine AG (Q:=fun s=>(∀c∈s,nU c.toNat=true)->iP s<16^s.length) (fun _=>by simp[iP]) (fun s c ih h=>?_) s
 ·have h1:=ih fun d hd=>h d (by simp[hd])
  have h2:=(Dr (h c aT)).2
  grind [nC]
def PS (a b:au):iP (a++b)=iP a*16^b.length+iP b:=by
 refine AG (Q:=fun b=>iP (a++b)=iP a*16^b.length+iP b) (by simp[iP]) (fun b c ih=>?_) b
 ·rw[<-dS,nC,ih,nC,bG,List.length_singleton,Nat.pow_succ];rw[Nat.add_mul,<-Nat.mul_assoc];omega
theorem wi:∀(s:au),s.length<=16->(∀c∈s,nU c.toNat=true)->qu s=(iP s:Int):=by
 intro s;refine AG (Q:=fun s=>s.length<=16->(∀c∈s,nU c.toNat=true)->qu s=(iP s:Int)) (fun _ _=>rfl) (fun s c ih hl h=>?_) s
 ·rw[bG,List.length_singleton]at hl;have hs:=fun d (hd:d∈s)=>h d (by simp[hd])
  have h1:=ih ae hs;have h2:=Dr (h c aT);have h3:=x8 s hs;have h4:16^s.length<=16^15:=Nat.pow_le_pow_right ae ae
  grind [qu,rI,nC,Tx]
theorem sx (s:au):kN s=true↔s.length=16/\∀c∈s,nU c.toNat=true:=by
 unfold kN;rw[bw,aW,um nU]
theorem Fi {k:Nat}(h:k<16):nU (iG k).toNat=true/\hv (iG k)=k:=by
 have:∀k:Fin 16,nU (iG k.1).toNat=true/\hv (iG k.1)=k.1:=aG
 exact this ⟨k,h⟩
def S7 {c:UInt8}(h:nU c.toNat=true):iG (hv c)=c:=by
 have key:∀k:Fin 256,nU k.1=true->iG (if bm k.1=true then k.1-48 else k.1-87)=UInt8.ofNat k.1:=by decide+kernel
 have:=key ⟨c.toNat,c.toNat_lt⟩ h;rw[UInt8.ofNat_toNat]at this;exact this
def wz (n:Int):∀c∈ei n,nU c.toNat=true:=by grind [ei,Fi,zV]
theorem As (n:Int):kN (ei n)=true:=(sx _).2 ⟨gu n,wz n⟩
def B2 (N:Nat)(h:N<2^64):∀k,k<=16->iP ((ei N).take k)=N/16^(16-k)
 |0,_=>by
  rw[List.take_zero];rw[Nat.div_eq_of_lt (show N<16^(16-0)by omega)];rfl
 |k+1,hk=>by
  have ih:=B2 N h k ae;have e:(ei (N:Int)).take (k+1)=(ei (N:Int)).take k++[iG (JS N (15-k))]:=I3 _ k ae;rw[e,nC,ih,(Fi (zV _ _)).2,JT N _ h];have e2:16^(16-k)=16^(15-k)*16:=by rw[<-Nat.pow_succ];congr 1;omega
  rw[e2,<-Nat.div_div_eq_div_mul,show 16-(k+1)=15-k by omega];omega
theorem Iq {n:Int}(h0:0<=n)(h1:n<18446744073709551616):n6 (ei n)=n:=by
 obtain⟨N,rfl⟩:∃N:Nat,n=N:=⟨n.toNat,ae⟩
 rw[n6,ax (As _),wi _ (by rw[gu];omega) (wz _)];have:=B2 N ae 16 ae
 grind [gu]
def FX {s:au}(h:kN s=true):0<=n6 s/\n6 s<18446744073709551616:=by
 grind [sx,n6,wi,x8]
def I5 {s:au}(h:kN s=true):ei (n6 s)=s:=by
 obtain⟨h1,h2⟩:=(sx s).1 h;rw[n6,ax h,wi s ae h2];have hlt:=x8 s h2;rw[h1]at hlt;apply List.ext_getElem (by rw[gu,h1]);intro j hj1 hj2;have e1:(ei (iP s:Int))[j]=iG (JS (iP s:Int) (15-j)):=by simp[ei]
 rw[e1,JT _ _ ae];have e2:iP s=iP (s.take (j+1))*16^(s.drop (j+1)).length+iP (s.drop (j+1)):=by
  rw[<-PS,List.take_append_drop]
 have hd:(s.drop (j+1)).length=15-j:=by rw[mV];omega
 have hlt2:=x8 (s.drop (j+1)) fun c hc=>h2 c (List.mem_of_mem_drop hc)
 rw[hd]at e2 hlt2;have e3:iP s/16^(15-j)=iP (s.take (j+1)):=by
  rw[e2,Nat.mul_comm,Nat.mul_add_div (Nat.pow_pos ae),Nat.div_eq_of_lt hlt2,Nat.add_zero]
 rw[e3,List.take_succ_eq_append_getElem hj2,nC];have h3:=(Dr (h2 _ (List.getElem_mem hj2))).2;rw[show(iP (s.take j)*16+hv s[j])%16=hv s[j]by omega];exact S7 (h2 _ (List.getElem_mem hj2))
def GZ (a b:Int):0<=AX a b/\AX a b<18446744073709551616:=by
 unfold AX;rw[IntKind.wrap_u64];omega
def I2 (s:au):0<=GA s/\GA s<18446744073709551616:=GZ _ _
theorem Ky {s:au}(h:cG s=true){c:UInt8}(hc:c∈s):yo c.toNat=true:=by
 simp only[cG,bw]at h;exact(um yo s).1 h.2 c hc
def Kz {s:au}(h:cG s=true){c:UInt8}(hc:c∈s):c.toNat≠32/\c.toNat≠10/\c.toNat≠45:=by
 grind [Ky,yo,ij,bm]
def TZ {s:au}(h:cG s=true):s≠[]:=by
 rintro rfl;simp[cG]at h
def yd {s:au}(h:dJ s=true):s≠[]/\ij (at8 s 0)=true/\∀c∈s,c.toNat≠32/\c.toNat≠10:=by
 simp only[dJ,bw,aW,eD]at h;obtain⟨⟨⟨⟨h1,h2⟩,h3⟩,h4⟩,h5⟩:=h;refine⟨by rintro rfl;simp at h1,h3,fun c hc=>?_⟩;obtain⟨i,hi,rfl⟩:=List.getElem_of_mem hc;rcases Nat.eq_zero_or_pos i with rfl|hp
 ·grind [uo,ij]
 grind [Wx,uo,ij,bm]
def vl.wf (x:vl):Prop:=0<=x.sum/\x.sum<18446744073709551616
def Et.wf (l:Et):Prop:=∀x∈l.lines,x.wf
end Go.Abs
section
namespace Go.Abs
theorem xi {b:Int}{x:UInt8}(hx:(x.toNat:Int)=b):∀(s cur:au),cj b s cur=match s.findIdx? (fun c=>c==x)with
  |some k=>(cur++s.take k)::cj b (s.drop (k+1)) []
  |none=>[cur++s]
 |[],cur=>by simp[cj]
 |c::r,cur=>by
  simp only[cj,List.findIdx?_cons];by_cases h:c=x
  ·subst h;rw[ax hx];simp
  ·have h1:¬(c.toNat:Int)=b:=fun e=>h (iL.1 ae)
   have h2:(c==x)=false:=by simpa using h
   rw[aj h1,h2,xi hx r (cur++[c])]
   grind
def CD (s:au)(x:UInt8):ak s x.toNat=if(ic s x).2.2=true then(ic s x).1::ak (ic s x).2.1 x.toNat else [s]:=by
 grind [ak,ic,xi]
def Cv {s:au}:(((ic s 47).2.2=true/\dJ (ic s 47).1=true)/\cG (ic s 47).2.1=true)↔(((ak s 47).length:Int)=2/\dJ (ak s 47)[0]! =true)/\cG (ak s 47)[1]! =true:=by
 have h:=CD s 47;rw[show(((47:UInt8).toNat:Nat):Int)=47 from rfl]at h;by_cases hc:(ic s 47).2.2=true
 ·rw[ax hc]at h;rw[h];have hj:=mw (b:=47) (x:=47) rfl (ic s 47).2.1;constructor
  ·grind [ak,ic,cj,rR,Ky,yo,ij,bm]
  ·rintro⟨⟨h1,h2⟩,h3⟩;refine⟨⟨hc,h2⟩, ?_⟩;generalize ak (ic s 47).2.1 47=q at hj h1 h3
   match q,h1 with
   |[y],_=>
    have:y=(ic s 47).2.1:=hj;rw[<-this];exact h3
   |[],h1=>simp at h1
   |_::_::_,h1=>simp at h1;omega
 ·rw[aj hc]at h;rw[h];constructor
  ·rintro⟨⟨h1,_⟩,_⟩;exact absurd h1 hc
  ·rintro⟨⟨h1,_⟩,_⟩;simp at h1
def FE {s:au}:(cE s [63]).2=true↔0<(s.length:Int)/\at8 s 0=63:=by
 match s with
 |[]=>simp[cE,List.isPrefixOf]
 |c::r=>
  have e:((c.toNat:Int)=63)↔c=63:=⟨fun h=>iL.1 (by have:(63:UInt8).toNat=63:=rfl;omega),fun h=>by subst h;rfl⟩
  grind [cE,at8]
theorem Ca {s:au}(h:(cE s [63]).2=true):(cE s [63]).1=s.drop 1:=by
 grind [cE]
def Tg {s:au}(h0:cG s=false)(h:(cE s [63]).2=true/\cG (cE s [63]).1=true):dq s=(2,(cE s [63]).1,[]):=by
 rw[Ca h.1]at h⊢;exact JA h0 ⟨FE.1 h.1,h.2⟩
def JC {s:au}(h:(cE s [63]).2=false\/cG (cE s [63]).1=false):(¬0<(s.length:Int)\/¬at8 s 0=63)\/cG (s.drop 1)=false:=by
 by_cases hp:(cE s [63]).2=true
 ·grind [Ca]
 ·have:=fun h2=>hp (FE.2 h2)
  grind
def Th {s:au}(h0:cG s=false)(h:(cE s [63]).2=false\/cG (cE s [63]).1=false)(h2:((ic s 47).2.2=true/\dJ (ic s 47).1=true)/\cG (ic s 47).2.1=true):dq s=((3:Int),(ic s 47).1,(ic s 47).2.1):=by
 have h3:=Cv.1 h2;rw[JB h0 (JC h) h3];have hs:=CD s 47;rw[show(((47:UInt8).toNat:Nat):Int)=47 from rfl,ax h2.1.1]at hs;have hj:=mw (b:=47) (x:=47) rfl (ic s 47).2.1;have hl:=h3.1.1;rw[hs]at hl⊢;generalize ak (ic s 47).2.1 47=q at hj hl
 match q,hl with
 |[y],_=>
  have:y=(ic s 47).2.1:=hj;rw[<-this];rfl
 |[],h1=>simp at h1
 |_::_::_,h1=>simp at h1;omega
def Tf {s:au}(h0:cG s=false)(h:(cE s [63]).2=false\/cG (cE s [63]).1=false)(h2:((ic s 47).2.2=false\/dJ (ic s 47).1=false)\/cG (ic s 47).2.1=false):dq s=(0,[],[]):=by
 refine Jy h0 (JC h) ?_;have hn:¬((((ak s 47).length:Int)=2/\dJ (ak s 47)[0]! =true)/\cG (ak s 47)[1]! =true):=fun h3=>by
  obtain⟨⟨g1,g2⟩,g3⟩:=Cv.2 h3
  grind
 grind
end Go.Abs
namespace Go.Abs
def Mv {l:List cu}{i:Nat}(h:(!cG l[i]!.name ||(decide ((0:Int)<(i:Int))&& !Op.bytesLess l[i-1]!.name l[i]!.name) ||decide ((6:Int)<(l[i]!.of.length:Int)) ||!rising l[i]!.of)=false):
  jz l i=cV (fun j=>iH l l[i]!.of[j]!) 0 l[i]!.of.length:=by
 grind [jz,lH]
def Mu {l:List cu}{i:Nat}(h:(!cG l[i]!.name ||(decide ((0:Int)<(i:Int))&& !Op.bytesLess l[i-1]!.name l[i]!.name) ||decide ((6:Int)<(l[i]!.of.length:Int)) ||!rising l[i]!.of)=true):
  jz l i=false:=by
 grind [jz,lH,cG,rising]
end Go.Abs
end
section
namespace Go.Abs
def dx (op:Int):au:=if op=1 then [61]else if op=2 then [33,61]else if op=3 then [60]else if op=4 then [60,61]else if op=5 then [62]else if op=6 then [62,61]else if op=7 then [94]else if op=8 then [126]else []
def wq (op:Int):(dx op).length<=2:=by
 grind [dx]
def te (s w:au):Bool:=decide (w.length<=s.length)&&decide (s.take w.length=w)
def qy (c:dp):Bool:=(decide (0<c.parts) ||decide (c.v.major=0))&&(decide (1<c.parts) ||decide (c.v.minor=0))&&(decide (2<c.parts) ||decide (c.v.patch=0))
def ng (c:dp):Bool:=decide (1<=c.op)&&decide (c.op<=9)&&eY c.v&&decide (c.v.build=[])&&decide ((if c.op=9 then 0 else 1)<=c.parts)&&decide (c.parts<=if c.op=9 then 2 else 3)&&(decide (3<=c.parts) ||decide (c.v.pre=[]))&&qy c
def dp.sm (c:dp):Prop:=c.v.sm
def ES {c:dp}(h:(decide (c.op<1) ||decide (9<c.op) ||!eY c.v ||!decide (c.v.build=[]))=true):ng c=false:=by
 unfold ng
 grind
def BJ {c:dp}(h:(decide (c.op<1) ||decide (9<c.op) ||!eY c.v ||!decide (c.v.build=[]))=false):1<=c.op/\c.op<=9/\eY c.v=true/\c.v.build=[]:=by
 grind
end Go.Abs
namespace Go.Abs
def r8 {c:dp}(hy:1<=c.op/\c.op<=9/\eY c.v=true/\c.v.build=[]){lo hi:Int}(hlo:(if c.op=9 then 0 else 1)=lo)(hhi:(if c.op=9 then 2 else 3)=hi):
  ng c=(!(decide (c.parts<lo) ||decide (hi<c.parts) ||(decide (c.parts<3)&& !decide (c.v.pre=[])))&&qy c):=by
 grind [ng]
end Go.Abs
namespace Go.Abs
def dp.mS (c:dp):List Int:=[c.v.major,c.v.minor,c.v.patch]
def gz (c:dp):Nat->au
 |0=>[]
 |i+1=>gz c i++(if 0<i then [46]else [])++dC (c.mS[i]!).toNat
def lx (c:dp):au:=if c.op=9 then(if 0<c.parts then [46]else [])++[42]else if c.v.pre=[]then []else 45::c.v.pre
def mg (c:dp):au:=dx c.op++gz c c.parts.toNat++lx c
def dV (c:dp):au:=if ng c=true then mg c else []
def rr {c:dp}(h:eY c.v=true)(i:Nat):0<=c.mS[i]! /\c.mS[i]! <=9999:=by
 simp only[eY,pW,bw,aW]at h
 match i with
 |0=>exact h.1.1.1.1
 |1=>exact h.1.1.1.2
 |2=>exact h.1.1.2
 |k+3=>exact(by simp[dp.mS]:0<=c.mS[k+3]! /\c.mS[k+3]! <=9999)
def sv {c:dp}(h:eY c.v=true):∀i,(gz c i).length<=5*i
 |0=>by simp[gz]
 |i+1=>by
  have:=sv h i;have hn:=rr h i;have:=eo 4 (c.mS[i]!).toNat ae ae
  grind [gz]
def oY {c:dp}(h:ng c=true):eY c.v=true/\0<=c.parts/\c.parts<=3/\1<=c.op/\c.op<=9:=by
 grind [ng]
end Go.Abs
namespace Go.Abs
def mD (c:dp):List au:=(c.mS.map fun n=>dC n.toNat).take c.parts.toNat
def Ci (c:dp):∀i,i<=3->aP [46] ((c.mS.map fun n=>dC n.toNat).take i)=gz c i
 |0,_=>by simp[aP,gz]
 |i+1,h=>by
  have hl:i<(c.mS.map fun n=>dC n.toNat).length:=by simp[dp.mS];omega
  have hl2:i<c.mS.length:=by show i<3;omega
  rw[p7 _ _ _ hl,Ci c i ae];simp only[gz];have e:(c.mS.map fun n=>dC n.toNat)[i]! =dC (c.mS[i]!).toNat:=by simp[hl2]
  rw[e];split
  ·simp
  grind [gz]
theorem GJ {c:dp}(h:c.parts<=3):(mD c).length=c.parts.toNat:=by
 simp[mD,dp.mS];omega
theorem CM {c:dp}(h:c.parts<=3):aP [46] (mD c)=gz c c.parts.toNat:=Ci c _ ae
def wA {c:dp}(h0:0<=c.parts)(h:c.parts<=3):aP [46] (mD c++[[42]])=gz c c.parts.toNat++((if 0<c.parts then [46]else [])++[42]):=by
 by_cases hp:0<c.parts
 ·grind [tD,GJ,CM]
 ·have:c.parts.toNat=0:=ae;rw[aj hp,this];have e:mD c=[]:=by simp[mD,this]
  rw[e];rfl
end Go.Abs
namespace Go.Abs
def opsL:List Int:=[2,4,6,1,3,5,7,8]
def qd (s:au)(i:Nat):Option Int:=(opsL.drop i).find? fun o=>te s (dx o)
def gO (s:au):Int×au:=match qd s 0 with
 |some o=>(o,s.drop (dx o).length)
 |none=>if 0<s.length/\at8 s (s.length-1)=42 then(9,s)else(7,s)
def JW {s:au}{i:Nat}(h:i<8)(hb:te s (dx opsL[i]!)=true):qd s i=some opsL[i]! :=by
 have hl:i<opsL.length:=h;unfold qd;rw[jD hl,List.find?_cons]
 grind
def JX {s:au}{i:Nat}(h:i<8)(hb:te s (dx opsL[i]!)=false):qd s i=qd s (i+1):=by
 have hl:i<opsL.length:=h;unfold qd;rw[jD hl,List.find?_cons]
 grind
def z7 {s:au}{i:Nat}(h:8<=i):qd s i=none:=by
 unfold qd;rw[k8 h];rfl
def iv (s:au)(i:Nat):au×au:=match(s.drop i).findIdx? (fun c=>c==45)with
 |some k=>(s.take (i+k),s.drop (i+k+1))
 |none=>(s,[])
def J1 {s:au}{i:Nat}(h:i<s.length)(he:at8 s i=45):iv s i=(s.take i,s.drop (i+1)):=by
 unfold iv;rw[ma s i h,List.findIdx?_cons];have:s.getD i 0=45:=iL.1 (by simp only[at8]at he;show(s.getD i 0).toNat=45;omega);rw[this];rfl
def J2 {s:au}{i:Nat}(h:i<s.length)(he:¬at8 s i=45):iv s i=iv s (i+1):=by
 unfold iv;rw[ma s i h,List.findIdx?_cons];have:(s.getD i 0==45)=false:=by
  rw[beq_eq_false_iff_ne];intro e;exact he (by simp only[at8,e];rfl)
 grind
def FV {s:au}{i:Nat}(h:s.length<=i):iv s i=(s,[]):=by
 unfold iv;rw[k8 h];rfl
end Go.Abs
namespace Go.Abs
def fh (l:List au):Bool:=decide (l.length<=3)&&cV (fun i=>gW l[i]!) 0 l.length
def Qk (l:List au):cY:=⟨if 0<l.length then eV l[0]! else 0,if 1<l.length then eV l[1]! else 0,if 2<l.length then eV l[2]! else 0,[],[]⟩
def zY (l:List au):cY:=if fh l=true then Qk l else lj
end Go.Abs
namespace Go.Abs
def ey:dp:=⟨0,0,lj⟩
def Ct (op:Int)(l:List au):List au:=if op=9 then l.take (l.length-1)else l
def gv (op:Int)(l:List au)(pre:au):dp:=⟨op,(l.length:Nat),{Qk l with pre:=pre}⟩
def xa (s:au)(op:Int)(l:List au)(pre:au):Bool:=fh l&& !(decide (dV (gv op l pre)=[]) ||(!decide (dV (gv op l pre)=s)&& !decide (dV (gv op l pre)=94::s)))
def ew (s:au):Option dp:=
 let o:=gO s
 let p:=iv o.2 0
 let l:=Ct o.1 (ak p.1 46)
 if xa s o.1 l p.2=true then some (gv o.1 l p.2)else none
def AH (s:au):(gO s).2.length<=s.length:=by
 grind [gO]
def Ah (s:au):(iv s 0).1.length<=s.length/\(iv s 0).2.length<=s.length:=by
 unfold iv;split<;>simp<;>omega
end Go.Abs
namespace Go.Abs
def dK (s:au):Int×au:=match qd s 0 with
 |some o=>(o,s.drop (dx o).length)
 |none=>(9,s)
def eU (s:au):au×au:=iv (dK s).2 0
def eA (s:au):List au:=Ct (dK s).1 (ak (eU s).1 46)
def oc (s:au):Prop:=(dK s).1=9->(ak (eU s).1 46)[(ak (eU s).1 46).length-1]! =[42]
instance (s:au):Decidable (oc s):=by unfold oc;exact inferInstance
def eN (s:au):dp:=gv (dK s).1 (eA s) (eU s).2
def gZ (s:au):Option dp:=if oc s/\fh (eA s)=true/\ng (eN s)=true/\dV (eN s)=s then some (eN s)else none
def JV (l:List au)(i:Nat):cY:=⟨if 0<i then eV l[0]! else 0,if 1<i then eV l[1]! else 0,if 2<i then eV l[2]! else 0,[],[]⟩
def Nv (s:au):(dK s).2.length<=s.length:=by
 unfold dK;split<;>simp
def kO {s:au}(h:¬(oc s/\fh (eA s)=true/\ng (eN s)=true/\dV (eN s)=s)):gZ s=none:=by
 unfold gZ;rw[aj h]
end Go.Abs
namespace Go.Abs
def mZ (s:au):Option dp:=if(gZ s).isSome=true then gZ s else gZ (94::s)
def GH (c:dp):bO:=.buf 1 [.str (dC c.v.major.toNat),.str (dC c.v.minor.toNat),.str (dC c.v.patch.toNat)]
def AL (c:dp):[D.str (dC c.v.major.toNat),D.str (dC c.v.minor.toNat),D.str (dC c.v.patch.toNat)].take c.parts.toNat=(mD c).map D.str:=by
 unfold mD dp.mS;rw[List.map_take];rfl
def TS {c:dp}{m:List (Nat×bO)}{l:Nat}(hl:look m l=some (GH c)):xV m [.sl 1 [.a]] (.own l 1 0 c.parts.toNat)=.sl 1 ((mD c).map D.str):=by
 show D.sl 1 _=_;simp only[bp,hl,GH,cn,AL,List.map_map];congr 1
def RC {c:dp}{m:List (Nat×bO)}{l:Nat}(h:c.parts<=3)(hl:look m l=some (GH c)):RU m [.sl 1 [.a]] (.own l 1 0 c.parts.toNat):=by
 simp only[RU,US,UR];refine⟨by simp[fJ,hl,GH];omega, ?_⟩;simp only[bp,hl,GH,cn,AL];intro e he;obtain⟨x,_,rfl⟩:=dX.1 he;trivial
end Go.Abs
end
namespace Go.Abs
def r9 {c:dp}(h:dV c≠[]):ng c=true/\dV c=mg c:=by
 grind [dV]
def DJ {s:au}{op:Int}{l:List au}{pre:au}:xa s op l pre=true↔fh l=true/\dV (gv op l pre)≠[]/\(dV (gv op l pre)=s\/dV (gv op l pre)=94::s):=by
 grind [xa]
def Ae (c:UInt8):Prop:=c≠33/\c≠60/\c≠61/\c≠62/\c≠94/\c≠126
theorem qS {c:UInt8}(h:bm c.toNat=true):Ae c/\c≠42:=by
 simp only[bm,bw,aW]at h;refine⟨⟨?_, ?_, ?_, ?_, ?_, ?_⟩, ?_⟩<;>rintro rfl<;>revert h<;>decide
def FL {k:dp}:∀(i:Nat) (c:UInt8),c∈gz k i->bm c.toNat=true\/c=46
 |0,c,h=>by simp[gz]at h
 |i+1,c,h=>by
  simp only[gz,List.mem_append]at h;rcases h with(h|h)|h
  ·exact FL i c h
  ·grind
  ·exact .inl (gX _ c h)
def zZ (k:dp):∀i,0<i->∃c r,gz k i=c::r/\bm c.toNat=true
 |0,h=>ae
 |1,_=>by
  have hd:=gX (k.mS[0]!).toNat;have hn:=xW (k.mS[0]!).toNat;simp only[gz,Nat.lt_irrefl,bc,fC];generalize dC (k.mS[0]!).toNat=w at hd hn
  match w,hn with
  |c::r,_=>exact⟨c,r,rfl,hd c (.head _)⟩
 |i+2,_=>by
  obtain⟨c,r,h1,h2⟩:=zZ k (i+1) ae
  grind [dC,gz]
def Mk {c:dp}(h:ng c=true)(h9:c.op≠9):0<c.parts.toNat:=by
 grind [ng]
def Nl {s:au}{o:Int}(h:qd s 0=some o):1<=o/\o<=8/\∃x t,s=x::t/\¬Ae x/\(x=94->o=7):=by
 have hm:=List.mem_of_find?_eq_some h;have hb:=List.find?_some h;simp only[te,bw,aW]at hb;obtain⟨h1,h2⟩:=hb;have hne:s≠[]\/dx o=[]:=by
  grind
 simp only[opsL,cn,bV,er,or_false]at hm;have key:∀w:au,w≠[]->s.take w.length=w->∃x t t',s=x::t/\w=x::t':=by
  intro w hw hs
  match w,hw with
  |x::t',_=>
   match s with
   |[]=>simp at hs
   |y::t=>
    grind
 rcases hm with rfl|rfl|rfl|rfl|rfl|rfl|rfl|rfl
 all_goals
  refine⟨ae,ae, ?_⟩;obtain⟨x,t,t',e1,e2⟩:=key _ aG h2;have hxx:=ar (fun w:au=>w.headD 0) e2;simp only[List.headD_cons]at hxx;refine⟨x,t,e1, ?_, ?_⟩
  ·rw[<-hxx];unfold Ae;decide
  ·rw[<-hxx];decide
theorem z6 (t:au):qd (94::t) 0=some 7:=by
 unfold qd opsL;have hn:∀w:au,w≠[]->w.headD 0≠94->te (94::t) w=false:=by
  intro w hw hx
  match w,hw with
  |x::r,_=>
   grind [te]
 have hy:te (94::t) (dx 7)=true:=by
  grind [te,dx]
 simp only[cn,List.find?_cons,hn _ (show dx 2≠[]by decide) aG,hn _ (show dx 4≠[]by decide) aG,hn _ (show dx 6≠[]by decide) aG,hn _ (show dx 1≠[]by decide) aG,
  hn _ (show dx 3≠[]by decide) aG,hn _ (show dx 5≠[]by decide) aG,hy]
def FY (t:au):dK (94::t)=(7,t):=by
 grind [dK,z6,dx]
def AI (b:Int):∀(s cur:au),∃r l,cj b s cur=(cur++r)::l
 |[],cur=>⟨[],[],by simp[cj]⟩
 |c::s,cur=>by
  simp only[cj];split
  ·exact⟨[],_,by rw[gh]⟩
  ·obtain⟨r,l,h⟩:=AI b s (cur++[c]);exact⟨c::r,l,by rw[h];simp⟩
def N2 {x:UInt8}{t:au}(h:¬Ae x):fh (ak (iv (x::t) 0).1 46)=false:=by
 have hx:x≠45/\x≠46/\bm x.toNat=false:=by
  grind [Ae,bm,qS]
 have hp:∃r,(iv (x::t) 0).1=x::r:=by
  unfold iv;rw[cn,List.findIdx?_cons];rw[aj (by simpa using hx.1)];cases t.findIdx? (fun c=>c==45)with
  |none=>exact⟨t,rfl⟩
  |some k=>exact⟨t.take k,aT⟩
 obtain⟨r,hr⟩:=hp;rw[hr];have h46:¬((x.toNat:Int)=46):=fun e=>hx.2.1 (iL.1 (by show x.toNat=46;omega))
 obtain⟨q,l,hs⟩:=AI 46 r [x]
 grind [ak,cj,fh,aV,gW,DG,bm,at8]
def UK {s:au}(h:gO s=dK s):ew s=if xa s (dK s).1 (eA s) (eU s).2=true then some (eN s)else none:=by
 unfold ew;simp only[h];rfl
def At {s:au}:gZ s=if oc s/\fh (eA s)=true/\ng (eN s)=true/\dV (eN s)=s then some (eN s)else none:=rfl
def Nt {s:au}(h:∀c∈s,c≠45):iv s 0=(s,[]):=by
 grind [iv]
def CG {k:dp}(hb:ng k=true)(h9:k.op=9):mg k=aP [46] (mD k++[[42]]):=by
 obtain⟨_,h0,h3,_,_⟩:=oY hb;rw[wA h0 h3];unfold mg lx;rw[ax h9,h9];rfl
theorem rV {k:dp}{w:au}(h:w∈mD k++[[42]]){c:UInt8}(hc:c∈w):bm c.toNat=true\/c=42:=by
 rcases List.mem_append.1 h with h|h
 ·have:=lY h
  grind [gX]
 grind
def CF {k:dp}{s:au}(hb:ng k=true)(h9:k.op=9)(hs:mg k=s):(0<s.length/\at8 s (s.length-1)=42)/\iv s 0=(s,[])/\ak s 46=mD k++[[42]]:=by
 have ht:=CG hb h9;obtain⟨_,h0,h3,_,_⟩:=oY hb;rw[hs]at ht;have hch:∀c∈s,bm c.toNat=true\/c=42\/c=46:=by
  grind [nE,rV]
 refine⟨?_,Nt (fun c hc=>?_), ?_⟩
 ·have he:∃q,s=q++[42]:=by
   rw[ht,wA h0 h3];exact⟨gz k k.parts.toNat++(if 0<k.parts then [46]else []),by rw[dS]⟩
  obtain⟨q,rfl⟩:=he;simp[at8]
 ·rintro rfl;rcases hch 45 hc with h|h|h
  ·revert h;decide
  ·revert h;decide
  ·revert h;decide
 ·rw[ht];refine j9 (b:=46) (x:=46) rfl aT fun w hw c hc=>?_
  rcases rV hw hc with h|h
  ·have:=(qR h).1;omega
  ·rw[h];decide
def zl {k:dp}{s:au}(hb:ng k=true)(h7:k.op=7)(hs:mg k=94::s):(∀c∈s,c≠42)/\∃c r,s=c::r/\bm c.toNat=true:=by
 have hp:=Mk hb ae;have e:s=gz k k.parts.toNat++lx k:=by
  unfold mg at hs;rw[h7,show dx 7=[94]by decide]at hs;simpa using hs.symm
 obtain⟨c,r,h1,h2⟩:=zZ k _ hp;refine⟨fun c hc=>?_,c,r++lx k,by rw[e,h1];rfl,h2⟩;rw[e]at hc;rcases List.mem_append.1 hc with hc|hc
 ·rcases FL _ c hc with h|h
  ·exact(qS h).2
  ·rw[h];decide
 ·unfold lx at hc;rw[aj ae]at hc;split at hc
  ·cases hc
  ·rcases bV.1 hc with rfl|hc
   ·decide
   ·have hv:=(oY hb).1;simp only[eY,bw]at hv;rcases GD hv.1.2 hc with h|h
    ·rintro rfl;revert h;decide
    ·rw[h];decide
def yg {s:au}:xa s (dK s).1 (eA s) (eU s).2=true↔fh (eA s)=true/\dV (eN s)≠[]/\(dV (eN s)=s\/dV (eN s)=94::s):=DJ
def Pg (s:au):mZ s=ew s:=by
 have hcar:dK (94::s)=(7,s):=FY s;have hL7:eA (94::s)=ak (iv s 0).1 46:=by
  unfold eA eU;rw[hcar];rfl
 have hK7:eN (94::s)=gv 7 (ak (iv s 0).1 46) (iv s 0).2:=by
  unfold eN;rw[hL7];unfold eU;rw[hcar]
 cases ho:qd s 0 with
 |some o=>
  obtain⟨o1,o8,x,t,hs,hx,hx94⟩:=Nl ho;have hrw:dK s=(o,s.drop (dx o).length):=by simp only[dK,ho]
  have hsp:gO s=dK s:=by rw[hrw];simp only[gO,ho]
  have hstar:oc s:=by
   intro h;rw[hrw]at h;simp only at h;omega
  have hcn:gZ (94::s)=none:=kO fun h=>by
   have:=h.2.1;rw[hL7,hs,N2 hx]at this;cases this
  have hop:(eN s).op=o:=by show(dK s).1=o;rw[hrw]
  rw[UK hsp];by_cases hk:fh (eA s)=true/\dV (eN s)=s
  ·have hne:dV (eN s)≠[]:=by rw[hk.2,hs];simp
   have hb:=(r9 hne).1;have hr:gZ s=some (eN s):=by rw[At,ax ⟨hstar,hk.1,hb,hk.2⟩]
   have hok:xa s (dK s).1 (eA s) (eU s).2=true:=yg.2 ⟨hk.1,hne,.inl hk.2⟩;rw[ax hok];unfold mZ;rw[hr];rfl
  ·have hr:gZ s=none:=kO fun h=>hk ⟨h.2.1,h.2.2.2⟩
   have hok:¬xa s (dK s).1 (eA s) (eU s).2=true:=fun h=>by
    obtain⟨h1,h2,h3⟩:=yg.1 h;rcases h3 with h3|h3
    ·exact hk ⟨h1,h3⟩
    ·obtain⟨hb,he⟩:=r9 h2;have h3':mg (eN s)=94::s:=by rw[<-he];exact h3
     have h7:o=7:=by
      have hh:∃y w,dx o=y::w/\(y=94->o=7):=by
       have:o=1\/o=2\/o=3\/o=4\/o=5\/o=6\/o=7\/o=8:=ae;rcases this with rfl|rfl|rfl|rfl|rfl|rfl|rfl|rfl
       ·exact⟨61,[],aG,aG⟩
       ·exact⟨33,[61],aG,aG⟩
       ·exact⟨60,[],aG,aG⟩
       ·exact⟨60,[61],aG,aG⟩
       ·exact⟨62,[],aG,aG⟩
       ·exact⟨62,[61],aG,aG⟩
       ·exact⟨94,[],aG,aG⟩
       ·exact⟨126,[],aG,aG⟩
      obtain⟨y,w,e1,e2⟩:=hh;unfold mg at h3';rw[hop,e1]at h3';simp only[fm,uf]at h3';exact e2 h3'.1
     obtain⟨_,c,r,e1,e2⟩:=zl hb (by rw[hop];exact h7) h3';rw[hs]at e1;simp only[uf]at e1;rw[<-e1.1]at e2;exact hx (qS e2).1
   rw[aj hok];unfold mZ;rw[hr,aj aT,hcn]
 |none=>
  have hrw:dK s=(9,s):=by simp only[dK,ho]
  have h94:∀t,s≠94::t:=by
   rintro t rfl;rw[z6]at ho;cases ho
  have hop:(eN s).op=9:=by show(dK s).1=9;rw[hrw]
  have hst7:oc (94::s):=by
   intro h;rw[hcar]at h;simp only at h;omega
  by_cases hl:0<s.length/\at8 s (s.length-1)=42
  ·have hsp:gO s=dK s:=by rw[hrw];simp only[gO,ho,ax hl]
   have hcn:gZ (94::s)=none:=kO fun h=>by
    obtain⟨_,h2,h3,h4⟩:=h;have he:=(r9 (c:=eN (94::s)) (by rw[h4];simp)).2;rw[h4]at he;have hno:=(zl h3 (by rw[hK7];rfl) he.symm).1;have hmem:s[s.length-1]'(ae)∈s:=List.getElem_mem _;refine hno _ hmem (iL.1 ?_);have:=hl.2;rw[uo s _ ae]at this;show _=42;omega
   rw[UK hsp];by_cases hk:fh (eA s)=true/\dV (eN s)=s
   ·have hne:dV (eN s)≠[]:=by
     rw[hk.2];intro h;rw[h]at hl;simp at hl
    obtain⟨hb,he⟩:=r9 hne;obtain⟨_,g2,g3⟩:=CF (s:=s) hb hop (he.symm.trans hk.2);have hstar:oc s:=by
     intro _;have hP:eU s=(s,[]):=by unfold eU;rw[hrw];exact g2
     rw[hP];simp only;rw[g3];simp
    have hr:gZ s=some (eN s):=by rw[At,ax ⟨hstar,hk.1,hb,hk.2⟩]
    have hok:xa s (dK s).1 (eA s) (eU s).2=true:=yg.2 ⟨hk.1,hne,.inl hk.2⟩;rw[ax hok];unfold mZ;rw[hr];rfl
   ·have hr:gZ s=none:=kO fun h=>hk ⟨h.2.1,h.2.2.2⟩
    have hok:¬xa s (dK s).1 (eA s) (eU s).2=true:=fun h=>by
     obtain⟨h1,h2,h3⟩:=yg.1 h;rcases h3 with h3|h3
     ·exact hk ⟨h1,h3⟩
     ·obtain⟨hb,he⟩:=r9 h2;have h3':mg (eN s)=94::s:=by rw[<-he];exact h3
      have ht:=CG hb hop;rw[h3']at ht;have hm:(94:UInt8)∈aP [46] (mD (eN s)++[[42]]):=by rw[<-ht];simp
      rcases nE 46 _ _ hm with h|⟨w,hw,hcw⟩
      ·revert h;decide
      ·rcases rV hw hcw with h|h
       ·revert h;decide
       ·revert h;decide
    rw[aj hok];unfold mZ;rw[hr,aj aT,hcn]
  ·have hsp:gO s=(7,s):=by simp only[gO,ho,aj hl]
   have hr:gZ s=none:=kO fun h=>by
    obtain⟨h1,h2,h3,h4⟩:=h;have he:mg (eN s)=s:=(ax h3:dV (eN s)=mg (eN s)).symm.trans h4;exact hl (CF h3 hop he).1
   have h6:ew s=if xa s 7 (ak (iv s 0).1 46) (iv s 0).2=true then some (eN (94::s))else none:=by
    unfold ew;simp only[hsp];rw[hK7];rfl
   have hRC:mZ s=gZ (94::s):=by
    unfold mZ;rw[hr];rfl
   rw[hRC,h6,At];by_cases hok:xa s 7 (ak (iv s 0).1 46) (iv s 0).2=true
   ·rw[ax hok];obtain⟨h1,h2,h3⟩:=DJ.1 hok;obtain⟨hb,he⟩:=r9 h2;rcases h3 with h3|h3
    ·exfalso;rw[he]at h3;have hh:∃w,mg (gv 7 (ak (iv s 0).1 46) (iv s 0).2)=94::w:=by
      unfold mg;exact⟨_,rfl⟩
     obtain⟨w,hw⟩:=hh;exact h94 w (by rw[<-h3,hw])
    ·rw[ax ⟨hst7,by rw[hL7];exact h1,by rw[hK7];exact hb,by rw[hK7];exact h3⟩]
   ·rw[aj hok,aj];rintro⟨_,g2,g3,g4⟩;rw[hK7]at g3 g4;rw[hL7]at g2;exact hok (DJ.2 ⟨g2,by rw[g4];simp,.inr g4⟩)
abbrev Alt:=List dp
abbrev y7:=List Alt
def qI (a:Alt):D:=.sl 7 (a.map dp.D)
def Hq (a:Alt):(qI a).bC=true:=rfl
def ow (l k:Nat)(es:List D)(r:List Alt):m5 l k es (r.map qI)=r.map qI:=zz l k es _ (cg Hq _)
def im (r:y7):D:=.agg [.sl 1 (r.map qI)]
def kr (a:Alt):Bool:=decide (1<=a.length)&&decide (a.length<=6)&&cV (fun k=>ng a[k]!) 0 a.length
def ki (r:y7):Bool:=decide (1<=r.length)&&decide (r.length<=6)&&cV (fun i=>kr r[i]!) 0 r.length
def jv (a:Alt):au:=aP [44,32] (a.map dV)
def D7 (r:y7):au:=aP [32,124,124,32] (r.map jv)
def dp.lo (c:dp):Prop:=c.v.pre.length<=1000/\c.v.build.length<=1000
def dp.lo.sm {c:dp}(h:c.lo):c.v.sm:=⟨c9 h.1 aG,c9 h.2 aG⟩
def n8 (r:y7):Prop:=∀a∈r,∀c∈a,c.lo
def sI (b:au)(l:List au)(i:Nat):au:=if 0<i then aP b (l.take i)++b else []
def vP (b:au)(l:List au)(i:Nat)(h:i<l.length):aP b (l.take (i+1))=sI b l i++l[i]! :=p7 b l i h
def QI (b:au)(l:List au){i:Nat}(h:¬0<i):aP b (l.take i)=sI b l i:=by
 grind [sI,aP]
def zm {c:dp}(h:c.lo):(dV c).length<=1100:=by
 unfold dV;split
 ·rename_i hb;obtain⟨hv,h0,h3,_⟩:=oY hb;have h1:=wq c.op;have h2:=sv hv c.parts.toNat;have ht:(lx c).length<=1001:=by
   unfold lx;have:=h.1
   grind
  simp only[mg,bG];omega
 ·simp
def rh (b:au)(M:Nat):∀(l:List au),(∀t∈l,t.length<=M)->(aP b l).length<=l.length*(M+b.length)
 |[],_=>by simp[aP]
 |[t],h=>by
  grind [aP]
 |t::u::r,h=>by
  have h1:=h t (.head _);have h2:=rh b M (u::r) fun x hx=>h x (.tail _ hx)
  simp only[aP,bG];simp only[ay,Nat.add_mul,Nat.one_mul]at h2⊢;omega
def DC {α β:Type} [Inhabited α] [Inhabited β](f:α->β)(l:List α){i:Nat}(h:i<l.length):(l.map f)[i]! =f l[i]! :=by
 simp[h]
def y8 {a:Alt}(h:∀c∈a,c.lo)(hl:a.length<=6):(jv a).length<=6612:=by
 have:=rh [44,32] 1100 (a.map dV) (fun t ht=>by
  obtain⟨c,hc,rfl⟩:=dX.1 ht;exact zm (h c hc))
 grind [jv]
def zt {r:y7}(h:ki r=true){i:Nat}(hi:i<r.length):kr r[i]! =true:=by
 simp only[ki,bw,aW]at h;exact eD.1 h.2 i ae hi
def vr {a:Alt}(h:kr a=true):1<=a.length/\a.length<=6:=by
 grind [kr]
def Rs {r:y7}(h:ki r=true)(hs:n8 r):(D7 r).length<=40000:=by
 have h6:r.length<=6:=by simp only[ki,bw,aW]at h;exact h.1.2
 have:=rh [32,124,124,32] 6612 (r.map jv) (fun t ht=>by
  obtain⟨a,ha,rfl⟩:=dX.1 ht;obtain⟨i,hi,rfl⟩:=List.mem_iff_getElem.1 ha;have h1:=zt h hi;rw[show r[i]! =r[i]by simp[hi]]at h1;exact y8 (hs _ ha) (vr h1).2)
 grind [D7]
def iB {α β:Type} [Inhabited α](f:α->β)(l:List α){i:Nat}(h:i<l.length):(l.map f).take (i+1)=(l.map f).take i++[f l[i]!]:=by
 rw[List.take_add_one];simp[h]
def tH (r:y7):Bool:=ki r&&decide ((D7 r).length<=96)
def xf (r:y7):au:=if tH r=true then D7 r else []
def aK:au->au->List au
 |[],cur=>[cur]
 |[c],cur=>[cur++[c]]
 |c::d::r,cur=>if c=124/\d=124 then cur::aK r []else aK (d::r) (cur++[c])
def kv:au->au
 |[]=>[]
 |c::r=>if c=32 then kv r else c::r
def eu (s:au):au:=(kv (kv s).reverse).reverse
theorem rZ:∀s,(kv s).length<=s.length
 |[]=>aQ _
 |c::r=>by
  unfold kv;split
  ·have:=rZ r;simp only[ay];omega
  ·exact aQ _
theorem vv (s:au):(eu s).length<=s.length:=by
 grind [rZ,kv,eu]
def n9:∀(s cur:au),(aK s cur).length<=s.length+1/\(∀t∈aK s cur,t.length<=cur.length+s.length)
 |[],cur=>by simp[aK]
 |[c],cur=>by simp[aK]
 |c::d::r,cur=>by
  unfold aK;split
  ·have:=n9 r []
   grind
  ·have:=n9 (d::r) (cur++[c])
   grind
def wOK (t:au):Bool:=cV (fun k=>(ew (eu (ak t 44)[k]!)).isSome) 0 (ak t 44).length
def Az (s:au):Bool:=cV (fun i=>wOK (aK s [])[i]!) 0 (aK s []).length
def mJ (t:au):Alt:=(ak t 44).map fun x=>(ew (eu x)).getD ey
def iy (s:au):y7:=(aK s []).map mJ
def ix (s:au):y7×Int:=
 if 96<s.length then([],3)else if Az s=false then([],6)else if ki (iy s)=false then([],6)else if 96<(D7 (iy s)).length then([],3)else(iy s,0)
def sw (s:au):Bool:=decide ((ix s).2=0)&&decide (xf (ix s).1=s)
theorem Pe {s:au}(h:s.length<=1000):((ew s).getD ey).lo:=by
 unfold ew;simp only;split
 ·have h1:=AH s;have h2:=Ah (gO s).2;exact⟨by show(iv (gO s).2 0).2.length<=1000;omega,by show([]:au).length<=1000;decide⟩
 ·exact⟨by show([]:au).length<=1000;decide,by show([]:au).length<=1000;decide⟩
theorem D8 {s:au}(h:s.length<=1000):n8 (iy s):=by
 intro a ha c hc;obtain⟨t,ht,rfl⟩:=dX.1 ha;obtain⟨x,hx,rfl⟩:=dX.1 hc;have h1:=(n9 s []).2 t ht;have h2:=eH t 44 hx
 grind [vv,Pe]
def Kh {s:au}:n8 (ix s).1/\((ix s).2=0->ki (ix s).1=true):=by
 unfold ix;split
 ·exact⟨(fun a ha=>by cases ha),fun h=>by cases h⟩
 ·split
  ·exact⟨(fun a ha=>by cases ha),fun h=>by cases h⟩
  ·split
   ·exact⟨(fun a ha=>by cases ha),fun h=>by cases h⟩
   ·rename_i hf;split
    ·exact⟨(fun a ha=>by cases ha),fun h=>by cases h⟩
    grind [D8]
theorem IY {s:au}{i:Nat}(cur:au)(h:i+1<s.length)(h1:at8 s i=124)(h2:at8 s (i+1)=124):aK (s.drop i) cur=cur::aK (s.drop (i+2)) []:=by
 rw[ma s i ae,ma s (i+1) h];have e1:s.getD i 0=124:=iL.1 (by simp only[at8]at h1;show(s.getD i 0).toNat=124;omega);have e2:s.getD (i+1) 0=124:=iL.1 (by simp only[at8]at h2;show(s.getD (i+1) 0).toNat=124;omega)
 grind [aK]
def Gx {s:au}{i:Nat}(cur:au)(h:i+1<s.length)(hn:¬(at8 s i=124/\at8 s (i+1)=124)):aK (s.drop i) cur=aK (s.drop (i+1)) (cur++[s.getD i 0]):=by
 rw[ma s i ae,ma s (i+1) h];simp only[aK];rw[aj];rintro⟨e1,e2⟩;exact hn ⟨by simp only[at8,e1];rfl,by simp only[at8,e2];rfl⟩
def IX {s:au}{i:Nat}(cur:au)(h:s.length<=i+1):aK (s.drop i) cur=[cur++s.drop i]:=by
 have hl:(s.drop i).length<=1:=by rw[mV];omega
 match s.drop i,hl with
 |[],_=>simp[aK]
 |[c],_=>simp[aK]
def Pk {s:au}{i fr:Nat}(h:i<s.length)(hf:fr<=i):(s.take i).drop fr++[s.getD i 0]=(s.take (i+1)).drop fr:=by
 rw[List.take_add_one,List.drop_append_of_le_length (by rw[fj];omega)];simp[h]
def sS (s:au)(i fr:Nat)(acc:List au):Prop:=aK s []=acc++aK (s.drop (max i fr)) ((s.take (max i fr)).drop fr)
def Mc {s:au}{i fr:Nat}{acc:List au}(hI:sS s i fr acc)(h:i+1<s.length)(hc:(at8 s i=124/\at8 s (i+1)=124)/\(fr:Int)<=i):sS s (i+1) (i+2) (acc++[(s.take i).drop fr]):=by
 grind [sS,IY]
def OY {s:au}{i fr:Nat}{acc:List au}(hI:sS s i fr acc)(h:i+1<s.length)(hf:fr<=i+1)(hc:(¬at8 s i=124\/¬at8 s (i+1)=124)\/¬(fr:Int)<=i):sS s (i+1) fr acc:=by
 unfold sS at hI⊢;by_cases hl:fr<=i
 ·rw[hI,Nat.max_eq_left hl,Gx _ h (by rcases hc with(hc|hc)|hc;exact fun h=>hc h.1;exact fun h=>hc h.2;omega),Nat.max_eq_left ae,Pk ae hl]
 grind
def Mb {s:au}{i fr:Nat}{acc:List au}(hI:sS s i fr acc)(h:s.length<=i+1)(hl:fr<=s.length):aK s []=acc++[s.drop fr]:=by
 unfold sS at hI;rw[hI,IX _ (by have:=Nat.le_max_left i fr;omega)];congr 2
 conv=>rhs;rw[<-List.take_append_drop (max i fr) s]
 grind
def BB {t:au}(h:0<t.length)(h0:at8 t 0=32):kv t=kv (t.drop 1):=by
 match t,h with
 |c::r,_=>
  have:c=32:=iL.1 (by have h0:((c.toNat:Nat):Int)=32:=h0;show c.toNat=32;omega);subst this;simp[kv]
theorem zd {t:au}(h:¬(0:Int)<(t.length:Nat)\/¬at8 t 0=32):kv t=t:=by
 match t with
 |[]=>rfl
 |c::r=>
  rcases h with h|h
  ·simp only[ay]at h;omega
  ·simp only[kv];rw[aj];rintro rfl;exact h rfl
def ze (u:au):au:=(kv u.reverse).reverse
theorem Jh {u:au}(h:0<u.length):at8 u.reverse 0=at8 u (u.length-1):=by
 grind [at8]
def Mf {u:au}(h:0<u.length)(h0:at8 u (u.length-1)=32):ze u=ze (u.take (u.length-1)):=by
 unfold ze;rw[BB (by simpa using h) (by rw[Jh h];exact h0)];congr 2;rw[List.drop_reverse]
def Ht {u:au}(h:¬(0:Int)<(u.length:Nat)\/¬at8 u (u.length-1)=32):ze u=u:=by
 grind [ze,zd,Jh]
def Nd.eq (a b:Nd):iZ (Nd.D a).cells (Nd.D b).cells=decide (a=b):=by
 obtain⟨a1,a2,a3,a4,a5⟩:=a;obtain⟨b1,b2,b3,b4,b5⟩:=b
 grind [Nd.D,D.cells,iZ,uC,xY]
def kA (n:Nd):Bool:=decide (n.key=0)&&decide (n.text=[])
def ox (n:Nd):Bool:=decide (n.op=1)&&decide (0<=n.key)&&decide (n.key<3)&&cG n.text&&decide (n.a=0)&&decide (n.b=0)
def jg (n:Nd)(i:Nat)(o:List Int):Option (List Int):=
 if ox n=true then some (o++[(i:Int)])
 else if(((n.op=2/\kA n=true)/\0<o.length)/\n.a=o[o.length-1]!)/\n.b=0 then some (o.take (o.length-1)++[(i:Int)])
 else if((((n.op=3\/n.op=4)/\kA n=true)/\1<o.length)/\n.a=o[o.length-2]!)/\n.b=o[o.length-1]! then some (o.take (o.length-2)++[(i:Int)])
 else none
def m6:List Nd->Nat->List Int->Option (List Int)
 |[],_,o=>some o
 |n::r,i,o=>match jg n i o with
  |some o'=>m6 r (i+1) o'
  |none=>none
def oG (l:List Nd):Bool:=match m6 l 0 []with
 |some o=>decide (l.length=0) ||decide (o.length=1)
 |none=>false
def BM {α:Type} [Inhabited α](l:List α){i:Nat}(h:i<l.length):l.drop i=l[i]! ::l.drop (i+1):=by
 rw[jD h];simp[h]
def jb {l:List Nd}{i:Nat}{o o':List Int}(h:i<l.length)(hs:jg l[i]! i o=some o'):m6 (l.drop i) i o=m6 (l.drop (i+1)) (i+1) o':=by
 rw[BM l h];simp only[m6,hs]
def gE {l:List Nd}{i:Nat}{o:List Int}(h:i<l.length)(hs:jg l[i]! i o=none):m6 (l.drop i) i o=none:=by
 rw[BM l h];simp only[m6,hs]
def Cj {l:List Nd}{i:Nat}{o:List Int}(h:l.length<=i):m6 (l.drop i) i o=some o:=by
 rw[k8 h];rfl
def GK {l:List Nd}(h:m6 l 0 []=none):oG l=false:=by simp only[oG,h]
def ke {l:List Nd}(h:m6 l 0 []=none):(true&&oG l)=false:=by rw[GK h];rfl
def Ev (S:List Int):Int->List Int->Prop
 |e,[]=>e=0
 |e,t::r=>t=e-1/\0<=t/\0<=S[t.toNat]! /\S[t.toNat]! <=t/\Ev S S[t.toNat]! r
def C8 {S:List Int}{i:Nat}{v:Int}:∀{r:List Int}{e:Int},e<=i->Ev S e r->Ev (S.set i v) e r
 |[],e,_,h=>h
 |t::r,e,he,⟨h1,h2,h3,h4,h5⟩=>by
  have hg:(S.set i v)[t.toNat]! =S[t.toNat]! :=by
   grind
  exact⟨h1,h2,by rw[hg];exact h3,by rw[hg];exact h4,by rw[hg];exact C8 ae h5⟩
def TP {S:List Int}{i:Nat}{v:Int}(h:i<S.length):(S.set i v)[i]! =v:=by
 simp[h]
def uv {S:List Int}{i:Nat}{v:Int}{r:List Int}(h:i<S.length)(h0:0<=v)(h1:v<=i)(hc:Ev S v r):Ev (S.set i v) ((i+1:Nat):Int) ((i:Int)::r):=by
 have hg:(S.set i v)[((i:Nat):Int).toNat]! =v:=by rw[Int.toNat_natCast];exact TP h
 exact⟨ae,ae,by rw[hg];exact h0,by rw[hg];exact h1,by rw[hg];exact C8 ae hc⟩
def uw {S:List Int}{i:Nat}{o:List Int}(h:Ev S (i:Nat) o.reverse):(0<o.length↔1<=i)/\(1<=i->o[o.length-1]! =(i:Int) -1/\0<=S[i-1]! /\S[i-1]! <=(i:Int) -1/\Ev S S[i-1]! (o.take (o.length-1)).reverse):=by
 rcases List.eq_nil_or_concat o with rfl|⟨p,t,rfl⟩
 ·have h:((i:Nat):Int)=0:=h
  grind
 ·rw[List.concat_eq_append,List.reverse_append,List.reverse_singleton,List.singleton_append]at h;obtain⟨h1,h2,h3,h4,h5⟩:=h
  grind
def C9 {S:List Int}{i:Nat}{o:List Int}(h:Ev S (i:Nat) o.reverse):(1<o.length↔1<=i/\1<=S[i-1]!)/\(1<o.length->o[o.length-2]! =S[i-1]! -1/\0<=S[(S[i-1]! -1).toNat]! /\S[(S[i-1]! -1).toNat]! <=S[i-1]! -1/\Ev S S[(S[i-1]! -1).toNat]! (o.take (o.length-2)).reverse):=by
 obtain⟨h1,h2⟩:=uw h;by_cases hi:1<=i
 ·obtain⟨g1,g2,g3,g4⟩:=h2 hi;have hl:=h1.2 hi;rcases List.eq_nil_or_concat o with rfl|⟨p,t,rfl⟩
  ·simp at hl
  ·rw[List.concat_eq_append]at g4⊢;rw[List.take_append_of_le_length aT,ek aT]at g4;rcases List.eq_nil_or_concat p with rfl|⟨q,u,rfl⟩
   ·have g4:S[i-1]! =0:=g4;exact⟨⟨fun h=>absurd h aT,fun h=>ae⟩,fun h=>absurd h aT⟩
   ·rw[List.concat_eq_append]at g4⊢;rw[List.reverse_append,List.reverse_singleton,List.singleton_append]at g4;obtain⟨k1,k2,k3,k4,k5⟩:=g4;subst k1;refine⟨⟨fun _=>⟨hi,ae⟩,fun _=>aT⟩,fun _=>⟨aT,k3,k4, ?_⟩⟩;rw[dS,List.take_append_of_le_length aT,ek aT];exact k5
 ·have:¬0<o.length:=fun h=>hi (h1.1 h)
  exact⟨⟨fun h=>ae,fun h=>absurd h.1 hi⟩,fun h=>ae⟩
def RF {S:List Int}{n:Nat}{o:List Int}(t1:0<o.length↔1<=n)(t2:1<=n->o[o.length-1]! =(n:Int) -1/\0<=S[n-1]! /\S[n-1]! <=(n:Int) -1/\Ev S S[n-1]! (o.take (o.length-1)).reverse)(u1:1<o.length↔1<=n/\1<=S[n-1]!):
  (decide (n=0) ||decide (o.length=1))=(decide ((n:Nat)=(0:Int)) ||decide (S[n-1]! =0)):=by
 grind
theorem zL {n:Nd}(h:ox n=true):n.op=1:=by grind [ox]
def I1 {n:Nd}{i:Nat}{o:List Int}(h:ox n=true):jg n i o=some (o++[(i:Int)]):=ax h
def Ec {n:Nd}{i:Nat}{o:List Int}(h1:n.op=1)(h:ox n=false):jg n i o=none:=by
 grind [jg]
def Gz {n:Nd}{i:Nat}{o:List Int}(h1:n.op≠1)(h2:n.op≠2)(h3:n.op≠3)(h4:n.op≠4):jg n i o=none:=by
 grind [jg,zL]
def wx {S:List Int}{n:Nd}{i:Nat}{o:List Int}(hc:Ev S (i:Nat) o.reverse)(h2:n.op=2):jg n i o=if(1<=i/\n.a=(i:Int) -1/\n.b=0)/\kA n=true then some (o.take (o.length-1)++[(i:Int)])else none:=by
 obtain⟨t1,t2⟩:=uw hc
 grind [jg,zL,kA]
def nJ {S:List Int}{n:Nd}{i:Nat}{o:List Int}(hc:Ev S (i:Nat) o.reverse)(h2:n.op=3\/n.op=4):jg n i o=if(2<=i/\n.b=(i:Int) -1/\1<=S[i-1]! /\n.a=S[i-1]! -1)/\kA n=true then some (o.take (o.length-2)++[(i:Int)])else none:=by
 obtain⟨t1,t2⟩:=uw hc;obtain⟨u1,u2⟩:=C9 hc;unfold jg;rw[aj (fun h=>by have:=zL h;omega),aj (by rintro⟨⟨⟨⟨h,_⟩,_⟩,_⟩,_⟩;omega)];by_cases hk:(2<=i/\n.b=(i:Int) -1/\1<=S[i-1]! /\n.a=S[i-1]! -1)/\kA n=true
 ·grind
 ·rw[aj hk,aj]
  grind
def jB (l:List Nd):Prop:=∀j,j<l.length->(l[j]!.op=1->0<=l[j]!.key/\l[j]!.key<3/\l[j]!.text.length<=12)/\(l[j]!.op≠1->0<=l[j]!.a/\l[j]!.a<j)/\(l[j]!.op≠1->l[j]!.op≠2->0<=l[j]!.b/\l[j]!.b<j)
def Ij {l:List Nd}:∀(k i:Nat) (o o':List Int),i+k=l.length->(∀x∈o,0<=x/\x<(i:Int))->m6 (l.drop i) i o=some o'->
  ∀j,i<=j->j<l.length->(l[j]!.op=1->0<=l[j]!.key/\l[j]!.key<3/\l[j]!.text.length<=12)/\(l[j]!.op≠1->0<=l[j]!.a/\l[j]!.a<j)/\(l[j]!.op≠1->l[j]!.op≠2->0<=l[j]!.b/\l[j]!.b<j):=by
 intro k;induction k with
 |zero=>intro i o o' h1 h2 h3 j h4 h5;omega
 |succ k ih=>
  intro i o o' h1 h2 h3 j h4 h5;have hi:i<l.length:=ae;cases hs:jg l[i]! i o with
  |none=>rw[gE hi hs]at h3;cases h3
  |some o2=>
   rw[jb hi hs]at h3;have hm:∀m,0<m->m<=o.length->0<=o[o.length-m]! /\o[o.length-m]! <(i:Int):=fun m hm1 hm2=>h2 _ (bA ae)
   have hsub:∀m,∀x∈o.take m++[(i:Int)],0<=x/\x<((i+1:Nat):Int):=fun m x hx=>by
    rcases List.mem_append.1 hx with hx|hx
    ·have:=h2 x (lY hx);omega
    ·simp only[cN]at hx;omega
   unfold jg at hs;split at hs
   ·rename_i hl;cases hs;rcases gU i j with hj|hj
    ·exact ih (i+1) _ o' ae (by have:=hsub o.length;rwa [ek (aQ _)]at this) h3 j hj h5
    ·obtain rfl:i=j:=ae;simp only[ox,bw,aW]at hl;have hw:=hl.1.1.2;simp only[cG,bw,aW]at hw;exact⟨fun _=>⟨hl.1.1.1.1.2,hl.1.1.1.2,hw.1.2⟩,fun h=>absurd hl.1.1.1.1.1 h,fun h=>absurd hl.1.1.1.1.1 h⟩
   ·split at hs
    ·rename_i hl;cases hs;rcases gU i j with hj|hj
     ·exact ih (i+1) _ o' ae (hsub _) h3 j hj h5
     ·obtain rfl:i=j:=ae;obtain⟨⟨⟨⟨g1,g2⟩,g3⟩,g4⟩,g5⟩:=hl;have:=hm 1 ae ae;exact⟨fun h=>ae,fun _=>by rw[g4];exact this,fun _ h=>absurd g1 h⟩
    ·split at hs
     ·rename_i hl;cases hs;rcases gU i j with hj|hj
      ·exact ih (i+1) _ o' ae (hsub _) h3 j hj h5
      ·obtain rfl:i=j:=ae;obtain⟨⟨⟨⟨g1,g2⟩,g3⟩,g4⟩,g5⟩:=hl;have q1:=hm 1 ae ae;have q2:=hm 2 ae ae;exact⟨fun h=>ae,fun _=>by rw[g4];exact q2,fun _ _=>by rw[g5];exact q1⟩
     ·cases hs
def qh {l:List Nd}(h:oG l=true):jB l:=by
 unfold oG at h;cases ho:m6 l 0 []with
 |none=>rw[ho]at h;cases h
 |some o=>exact fun j hj=>Ij l.length 0 [] o ae aT ho j (Nat.zero_le _) hj
def Pa (n:Nd)(o:List Int):Bool:=(((decide (n.op=2)&&(decide (n.key=0)&&decide (n.text=[])))&&decide ((0:Int)<(o.length:Nat)))&&decide (n.a=o[o.length-1]!))&&decide (n.b=0)
def Pb (n:Nd)(o:List Int):Bool:=((((decide (n.op=3) ||decide (n.op=4))&&(decide (n.key=0)&&decide (n.text=[])))&&decide ((1:Int)<(o.length:Nat)))&&decide (n.a=o[o.length-2]!))&&decide (n.b=o[o.length-1]!)
def yl (n:Nd)(i:Nat)(o:List Int):jg n i o=if ox n=true then some (o++[(i:Int)])else if Pa n o=true then some (o.take (o.length-1)++[(i:Int)])else if Pb n o=true then some (o.take (o.length-2)++[(i:Int)])else none:=by
 grind [Pa,kA,Pb,jg]
def JH {n:Nd}(h:n.op=1):ox n=!((((decide (n.key<0) ||decide (3<=n.key)) ||!cG n.text) ||!decide (n.a=0)) ||!decide (n.b=0)):=by
 grind [ox,cG]
def yk {S:List Int}{i:Nat}(h:i<S.length)(v:Int):(S.map (D.int .i64)).set (0+i) (tZ ((S.map (D.int .i64)).getD (0+i) .any) 1 1 0 (.int .i64 v))=(S.set i v).map (D.int .i64):=by
 rw[bU,getD_map (q:=D.int .i64) h,List.map_set];rfl
abbrev Un:=List Nd
def lh (m:Un):D:=.agg [.sl 5 (m.map Nd.D)]
def rk:List au:=[[111,115],[97,114,99,104],[97,98,105]]
def tE (k:Int):au:=if k=0 then [111,115]else if k=1 then [97,114,99,104]else [97,98,105]
def kZ (s:au)(b:Bool):au:=if b=true then [40,32]++s++[32,41]else s
def uc (l:List Nd):Nat->Int->au
 |0,_=>[]
 |f+1,i=>
  if l[i.toNat]!.op=1 then tE l[i.toNat]!.key++[32,61,32]++l[i.toNat]!.text
  else if l[i.toNat]!.op=2 then
   if l[l[i.toNat]!.a.toNat]!.op=1 then tE l[l[i.toNat]!.a.toNat]!.key++[32,33,61,32]++l[l[i.toNat]!.a.toNat]!.text
   else [110,111,116,32]++kZ (uc l f l[i.toNat]!.a) (!decide (l[l[i.toNat]!.a.toNat]!.op=2))
  else if l[i.toNat]!.op=3 then kZ (uc l f l[i.toNat]!.a) (decide (l[l[i.toNat]!.a.toNat]!.op=4))++[32,97,110,100,32]++kZ (uc l f l[i.toNat]!.b) (decide (l[l[i.toNat]!.b.toNat]!.op=4) ||decide (l[l[i.toNat]!.b.toNat]!.op=3))
  else uc l f l[i.toNat]!.a++[32,111,114,32]++kZ (uc l f l[i.toNat]!.b) (decide (l[l[i.toNat]!.b.toNat]!.op=4))
def mF (l:List Nd)(i:Int):au:=uc l (i.toNat+1) i
theorem Ej {l:List Nd}(hk:jB l):∀(f g:Nat) (i:Int),0<=i->i<l.length->i<f->i<g->uc l f i=uc l g i
 |0,_,_,_,_,h,_=>ae
 |_,0,_,_,_,_,h=>ae
 |f+1,g+1,i,h0,h1,h2,h3=>by
  obtain⟨k1,k2,k3⟩:=hk i.toNat ae;simp only[uc];by_cases e1:l[i.toNat]!.op=1
  ·rw[ax e1,ax e1]
  ·rw[aj e1,aj e1];have ka:=k2 e1;rw[Ej hk f g l[i.toNat]!.a ae ae ae ae];by_cases e2:l[i.toNat]!.op=2
   ·rw[ax e2,ax e2]
   ·have kb:=k3 e1 e2;rw[Ej hk f g l[i.toNat]!.b ae ae ae ae]
def Kv {l:List Nd}(hk:jB l){i:Int}(h0:0<=i)(h1:i<l.length):mF l i=
  if l[i.toNat]!.op=1 then tE l[i.toNat]!.key++[32,61,32]++l[i.toNat]!.text
  else if l[i.toNat]!.op=2 then
   if l[l[i.toNat]!.a.toNat]!.op=1 then tE l[l[i.toNat]!.a.toNat]!.key++[32,33,61,32]++l[l[i.toNat]!.a.toNat]!.text
   else [110,111,116,32]++kZ (mF l l[i.toNat]!.a) (!decide (l[l[i.toNat]!.a.toNat]!.op=2))
  else if l[i.toNat]!.op=3 then kZ (mF l l[i.toNat]!.a) (decide (l[l[i.toNat]!.a.toNat]!.op=4))++[32,97,110,100,32]++kZ (mF l l[i.toNat]!.b) (decide (l[l[i.toNat]!.b.toNat]!.op=4) ||decide (l[l[i.toNat]!.b.toNat]!.op=3))
  else mF l l[i.toNat]!.a++[32,111,114,32]++kZ (mF l l[i.toNat]!.b) (decide (l[l[i.toNat]!.b.toNat]!.op=4)):=by
 obtain⟨k1,k2,k3⟩:=hk i.toNat ae
 grind [mF,uc,Ej]
def nL (s:au)(b:Bool):(kZ s b).length<=s.length+4:=by
 unfold kZ;split<;>simp
def sj {k:Int}(h0:0<=k)(h3:k<3):rk[k.toNat]! =tE k:=by
 obtain rfl|rfl|rfl:k=0\/k=1\/k=2:=ae
 ·rfl
 ·rfl
 ·rfl
def P1 {k:Int}(h0:0<=k)(h3:k<3):oo (([.str [111,115],.str [97,114,99,104],.str [97,98,105]]:List D).getD (0+k.toNat) .any) 1 1 0 false=.str (tE k):=by
 obtain rfl|rfl|rfl:k=0\/k=1\/k=2:=ae
 ·rfl
 ·rfl
 ·rfl
def pk (k:Int):(tE k).length<=4:=by
 grind [tE]
def AN {l:List Nd}(hk:jB l):∀(f:Nat) (i:Int),0<=i->i<l.length->(uc l f i).length+20<=20*2^(f+1)
 |0,i,_,_=>by simp[uc]
 |f+1,i,h0,h1=>by
  obtain⟨k1,k2,k3⟩:=hk i.toNat ae;have hp:20*2^(f+1+1)=20*2^(f+1)+20*2^(f+1):=by rw[Nat.pow_succ 2 (f+1)];omega
  have h1p:1<=2^(f+1):=Nat.one_le_two_pow;simp only[uc];by_cases e1:l[i.toNat]!.op=1
  ·rw[ax e1];have:=pk l[i.toNat]!.key;have:=k1 e1;simp only[bG,ay,aB];omega
  ·rw[aj e1];have ka:=k2 e1;have la:=AN hk f l[i.toNat]!.a ae ae;have wa:=fun b=>nL (uc l f l[i.toNat]!.a) b
   by_cases e2:l[i.toNat]!.op=2
   ·rw[ax e2];split
    ·rename_i e3;have:=pk l[l[i.toNat]!.a.toNat]!.key;have:=((hk l[i.toNat]!.a.toNat ae).1 e3).2.2;simp only[bG,ay,aB];omega
    ·have:=wa (!decide (l[l[i.toNat]!.a.toNat]!.op=2));simp only[bG,ay,aB];omega
   ·rw[aj e2];have kb:=k3 e1 e2;have lb:=AN hk f l[i.toNat]!.b ae ae;have wb:=fun b=>nL (uc l f l[i.toNat]!.b) b
    split
    ·have:=wa (decide (l[l[i.toNat]!.a.toNat]!.op=4));have:=wb (decide (l[l[i.toNat]!.b.toNat]!.op=4) ||decide (l[l[i.toNat]!.b.toNat]!.op=3));simp only[bG,ay,aB];omega
    ·have:=wb (decide (l[l[i.toNat]!.b.toNat]!.op=4));simp only[bG,ay,aB];omega
def rW {l:List Nd}(hk:jB l)(hl:l.length<=15){i:Int}(h0:0<=i)(h1:i<l.length):(mF l i).length<=1310720:=by
 have h:=AN hk (i.toNat+1) i h0 h1;have:2^(i.toNat+1+1)<=2^16:=Nat.pow_le_pow_right ae ae;unfold mF;omega
def qi (l:List Nd):au:=if l.length=0 then []else mF l ((l.length:Int) -1)
def zS (l:List Nd):Bool:=(decide (l.length<=15)&&oG l)&&decide ((qi l).length<=96)
def UJ (l:List Nd):au:=if zS l=true then qi l else []
abbrev PR:=Option (Int×List au×List Nd)
def iQ (k:au):Int:=if k=[111,115]then 0 else if k=[97,114,99,104]then 1 else if k=[97,98,105]then 2 else-1
def mK (k s v:au):Bool:=(decide (0<=iQ k)&&cG v)&&(decide (s=[61]) ||decide (s=[33,61]))
def wJ (k s v:au)(r:List au)(nd:List Nd):Int×List au×List Nd:=
 if s=[33,61]then(((nd++[(⟨1,0,0,iQ k,v⟩:Nd)]).length:Nat),r,(nd++[⟨1,0,0,iQ k,v⟩])++[⟨2,(nd.length:Nat),0,0,[]⟩])
 else((nd.length:Nat),r,nd++[⟨1,0,0,iQ k,v⟩])
def qJ (k:au)(w:List au)(nd:List Nd):PR:=match w with
 |s::v::r=>if mK k s v=true then some (wJ k s v r nd)else none
 |_=>none
def lu (part:List au->List Nd->PR)(wd:au)(op:Int):Nat->Int->List au->List Nd->PR
 |0,a,w,nd=>some (a,w,nd)
 |f+1,a,w,nd=>match w with
  |[]=>some (a,w,nd)
  |x::r=>if x=wd then(match part r nd with
    |none=>none
    |some (b,w',nd')=>lu part wd op f (nd'.length:Nat) w' (nd'++[⟨op,a,b,0,[]⟩]))
   else some (a,w,nd)
def iD (part:List au->List Nd->PR)(wd:au)(op:Int)(w:List au)(nd:List Nd):PR:=match part w nd with
 |none=>none
 |some (a,w',nd')=>lu part wd op w'.length a w' nd'
def qv:au:=[110,111,116]
def gQ:au:=[40]
def kX:au:=[41]
def lz:au:=[97,110,100]
def qF:au:=[111,114]
def oL (r:PR):PR:=match r with
 |some (a,x::w',nd')=>if x=kX then some (a,w',nd')else none
 |_=>none
def WE (r:PR):PR:=match r with
 |some (a,w',nd')=>some ((nd'.length:Nat),w',nd'++[⟨2,a,0,0,[]⟩])
 |none=>none
def sH:Nat->List au->List Nd->PR
 |0,_,_=>none
 |f+1,w,nd=>match w with
  |[]=>none
  |k::r=>if k=qv then WE (sH f r nd)
   else if k=gQ then oL (iD (iD (sH f) lz 3) qF 4 r nd)
   else qJ k r nd
def PB (w:List au)(nd:List Nd)(w':List au)(nd':List Nd):Prop:=w'.length<=w.length/\nd'.length+2*w'.length<=nd.length+2*w.length/\w'<:+w
def uj (part:List au->List Nd->PR):Prop:=∀w nd a w' nd',part w nd=some (a,w',nd')->PB w nd w' nd'/\w'.length<w.length
def PB.refl (w:List au)(nd:List Nd):PB w nd w nd:=⟨aQ _,aQ _,lX _⟩
def PB.trans {w nd w' nd' w2 nd2}(h:PB w nd w' nd')(h2:PB w' nd' w2 nd2):PB w nd w2 nd2:=⟨c9 h2.1 h.1,c9 h2.2.1 h.2.1,h2.2.2.trans h.2.2⟩
def PB.tail {x:au}{w:List au}{nd:List Nd}{w':List au}{nd':List Nd}(h:PB w nd w' nd')(n:Nd):PB (x::w) nd w' (nd'++[n]):=by
 obtain⟨h1,h2,h3⟩:=h;refine⟨by simp only[ay];omega,by simp only[bG,ay,aB];omega,h3.trans (List.suffix_cons x w)⟩
def PB.uZ {x:au}{w:List au}{nd:List Nd}{w':List au}{nd':List Nd}(h:PB w nd w' nd'):PB (x::w) nd w' nd':=by
 obtain⟨h1,h2,h3⟩:=h;exact⟨by simp only[ay];omega,by simp only[ay];omega,h3.trans (List.suffix_cons x w)⟩
def zM {part:List au->List Nd->PR}(hp:uj part)(wd:au)(op:Int):∀(f:Nat) (a:Int) (w:List au) (nd:List Nd) (a':Int) (w':List au) (nd':List Nd),lu part wd op f a w nd=some (a',w',nd')->PB w nd w' nd'
 |0,a,w,nd,a',w',nd',h=>by simp only[lu,a8,ep]at h;obtain⟨rfl,rfl,rfl⟩:=h;exact .refl _ _
 |f+1,a,[],nd,a',w',nd',h=>by simp only[lu,a8,ep]at h;obtain⟨rfl,rfl,rfl⟩:=h;exact .refl _ _
 |f+1,a,x::r,nd,a',w',nd',h=>by
  simp only[lu]at h;by_cases hx:x=wd
  ·rw[ax hx]at h;cases hq:part r nd with
   |none=>rw[hq]at h;cases h
   |some t=>
    obtain⟨b,w2,nd2⟩:=t;rw[hq]at h;exact((hp _ _ _ _ _ hq).1.tail _).trans (zM hp wd op f _ _ _ _ _ _ h)
  ·rw[aj hx]at h;simp only[a8,ep]at h;obtain⟨rfl,rfl,rfl⟩:=h;exact .refl _ _
def mf {part:List au->List Nd->PR}(hp:uj part)(wd:au)(op:Int):uj (iD part wd op):=by
 intro w nd a w' nd' h;unfold iD at h;cases hq:part w nd with
 |none=>rw[hq]at h;cases h
 |some t=>
  obtain⟨b,w2,nd2⟩:=t;rw[hq]at h;obtain⟨h1,h2⟩:=hp _ _ _ _ _ hq;have:=zM hp wd op _ _ _ _ _ _ _ h;exact⟨h1.trans this,Nat.lt_of_le_of_lt this.1 h2⟩
theorem pP {k:au}{w:List au}{nd:List Nd}{a:Int}{w':List au}{nd':List Nd}(h:qJ k w nd=some (a,w',nd')):PB w nd w' nd':=by
 match w,h with
 |s::v::r,h=>
  simp only[qJ]at h;split at h
  ·simp only[a8]at h;unfold wJ at h;have hs:r<:+s::v::r:=(List.suffix_cons v r).trans (List.suffix_cons s _);split at h<;>(simp only[ep]at h;obtain⟨rfl,rfl,rfl⟩:=h;exact⟨by simp only[ay];omega,by simp only[bG,ay,aB];omega,hs⟩)
  ·cases h
 |[_],h=>cases h
 |[],h=>cases h
def lB:∀f,uj (sH f)
 |0=>fun w nd a w' nd' h=>by cases h
 |f+1=>by
  intro w nd a w' nd' h
  match w,h with
  |[],h=>cases h
  |k::r,h=>
   simp only[sH]at h;split at h
   ·cases hq:sH f r nd with
    |none=>rw[hq]at h;cases h
    |some t=>
     obtain⟨b,w2,nd2⟩:=t;rw[hq]at h;simp only[WE,a8,ep]at h;obtain⟨rfl,rfl,rfl⟩:=h;obtain⟨h1,h2⟩:=lB f _ _ _ _ _ hq;exact⟨h1.tail _,by simp only[ay];omega⟩
   ·split at h
    ·cases hq:iD (iD (sH f) lz 3) qF 4 r nd with
     |none=>rw[hq]at h;cases h
     |some t=>
      obtain⟨b,w2,nd2⟩:=t;rw[hq]at h;obtain⟨h1,h2⟩:=mf (mf (lB f) _ _) _ _ _ _ _ _ _ hq
      match w2,h,h1,h2 with
      |[],h,_,_=>cases h
      |x::w3,h,h1,h2=>
       simp only[oL]at h;split at h
       ·simp only[a8,ep]at h;obtain⟨rfl,rfl,rfl⟩:=h;exact⟨(h1.trans (PB.refl _ _).uZ).uZ,by simp only[ay]at h2⊢;omega⟩
       ·cases h
    ·exact⟨(pP h).uZ,by have:=(pP h).1;simp only[ay];omega⟩
def FD {p p':List au->List Nd->PR}(hp:uj p)(wd:au)(op:Int){u:Nat}(h:∀w nd,w.length<u->p w nd=p' w nd):∀(f:Nat) (a:Int) (w:List au) (nd:List Nd),w.length<=u->lu p wd op f a w nd=lu p' wd op f a w nd
 |0,a,w,nd,hu=>rfl
 |f+1,a,[],nd,hu=>rfl
 |f+1,a,x::r,nd,hu=>by
  simp only[ay]at hu;simp only[lu];split
  ·rw[<-h r nd ae];cases hq:p r nd with
   |none=>rfl
   |some t=>
    obtain⟨b,w2,nd2⟩:=t;have:=hp _ _ _ _ _ hq;exact FD hp wd op h f _ _ _ ae
  ·rfl
def r5 {p p':List au->List Nd->PR}(hp:uj p)(wd:au)(op:Int){u:Nat}(h:∀w nd,w.length<u->p w nd=p' w nd):∀w nd,w.length<u->iD p wd op w nd=iD p' wd op w nd:=by
 intro w nd hu;unfold iD;rw[<-h w nd hu];cases hq:p w nd with
 |none=>rfl
 |some t=>
  obtain⟨b,w2,nd2⟩:=t;have:=hp _ _ _ _ _ hq;exact FD hp wd op h _ _ _ _ ae
def Jq:∀(u f g:Nat) (w:List au) (nd:List Nd),w.length<u->w.length<=f->w.length<=g->sH f w nd=sH g w nd
 |0,_,_,_,_,h,_,_=>absurd h (Nat.not_lt_zero _)
 |u+1,f,g,[],nd,hu,hf,hg=>by cases f<;>cases g<;>rfl
 |u+1,0,_,_::_,_,_,h,_=>by simp at h
 |u+1,_,0,_::_,_,_,_,h=>by simp at h
 |u+1,f+1,g+1,k::r,nd,hu,hf,hg=>by
  simp only[ay]at hu hf hg;have ih:∀w nd,w.length<r.length+1->sH f w nd=sH g w nd:=fun w nd h=>Jq u f g w nd ae ae ae
  simp only[sH];rw[ih r nd ae,r5 (mf (lB f) _ _) qF 4 (r5 (lB f) lz 3 ih) r nd ae]
def jR (w:List au)(nd:List Nd):PR:=sH w.length w nd
def kC:List au->List Nd->PR:=iD jR lz 3
def iM:List au->List Nd->PR:=iD kC qF 4
def vF:uj jR:=fun w nd a w' nd' h=>lB _ w nd a w' nd' h
def zi:uj kC:=mf vF _ _
def xZ (k:au)(r:List au)(nd:List Nd):jR (k::r) nd=if k=qv then WE (jR r nd)else if k=gQ then oL (iM r nd)else qJ k r nd:=by
 show sH (r.length+1) (k::r) nd=_;simp only[sH];have ih:∀w nd,w.length<r.length+1->sH r.length w nd=jR w nd:=fun w nd h=>Jq (r.length+1) _ _ w nd h ae (aQ _)
 rw[show sH r.length r nd=jR r nd from rfl,r5 (mf (lB _) _ _) qF 4 (r5 (lB _) lz 3 ih) r nd ae];rfl
def B9 {part:List au->List Nd->PR}{wd:au}{op:Int}{f:Nat}{a:Int}{nd:List Nd}:lu part wd op f a [] nd=some (a,[],nd):=by cases f<;>rfl
theorem P7 {part:List au->List Nd->PR}{wd:au}{op:Int}{f:Nat}{a:Int}{w:List au}{nd:List Nd}(h:w.head? ≠some wd):lu part wd op f a w nd=some (a,w,nd):=by
 cases f with
 |zero=>rfl
 |succ f=>match w,h with
  |[],_=>rfl
  |x::r,h=>simp only[lu];rw[aj (by rintro rfl;exact h rfl)]
def zN {part:List au->List Nd->PR}(hp:uj part){wd:au}{op:Int}:∀(f g:Nat) (a:Int) (w:List au) (nd:List Nd),w.length<=f->w.length<=g->lu part wd op f a w nd=lu part wd op g a w nd
 |_,_,a,[],nd,_,_=>by rw[B9,B9]
 |0,_,_,_::_,_,h,_=>by simp at h
 |_,0,_,_::_,_,_,h=>by simp at h
 |f+1,g+1,a,x::r,nd,hf,hg=>by
  simp only[ay]at hf hg;simp only[lu];split
  ·cases hq:part r nd with
   |none=>rfl
   |some t=>
    obtain⟨b,w2,nd2⟩:=t;have:=hp _ _ _ _ _ hq;exact zN hp f g _ _ _ ae ae
  ·rfl
def JI (part:List au->List Nd->PR)(wd:au)(op:Int)(a:Int)(w:List au)(nd:List Nd):PR:=lu part wd op w.length a w nd
def M3 {part:List au->List Nd->PR}(hp:uj part){wd:au}{op:Int}{a:Int}{r:List au}{nd:List Nd}:JI part wd op a (wd::r) nd=match part r nd with
  |none=>none
  |some (b,w',nd')=>JI part wd op (nd'.length:Nat) w' (nd'++[⟨op,a,b,0,[]⟩]):=by
 show lu part wd op (r.length+1) a (wd::r) nd=_;simp only[lu,ba];cases hq:part r nd with
 |none=>rfl
 |some t=>
  obtain⟨b,w2,nd2⟩:=t;have:=hp _ _ _ _ _ hq;exact zN hp _ _ _ _ _ ae (aQ _)
structure PO where
 a:Int
 w:List au
 nd:List Nd
 bad:Bool
def ec (R:PR)(w:List au)(nd:List Nd)(o:PO):Prop:=(R=some (o.a,o.w,o.nd)/\o.bad=false\/R=none/\o.bad=true)/\PB w nd o.w o.nd
def Ia (s:au):Option (List Nd):=match iM (ak s 32) []with
 |some (_,[],nd)=>if zS nd=true then some nd else none
 |_=>none
def mz (s:au):List Nd×Int:=if 96<s.length then([],3)else if s=[]then([],0)else match Ia s with
 |some nd=>(nd,0)
 |none=>([],7)
def qa (s:au):Bool:=decide ((mz s).2=0)&&decide (UJ (mz s).1=s)
abbrev ED:=List au->D->Bool->D
def iA:ED:=fun w X b=>.agg [.sl 1 (w.map D.str),X,.bool b]
def iS (W:List au):ED:=fun w X b=>.agg [.sl 1 (W.map D.str),.int .i64 ((W.length-w.length:Nat):Int),X,.bool b]
def oK (Y:Ctx)(k:Nat)(ob:ED)(n:Nat)(ak4:List D)(w:List au)(nd:List Nd)(b:Bool)(P:PO->Prop)(V:PO->D):Prop:=
 ∀(nx lp ln:Nat) (m:List (Nat×bO)) (K:D->St->Prop),look m lp=some (.buf k [ob w (.own ln 5 0 nd.length) b])->look m ln=some (.buf 5 (nd.map Nd.D))->lp<nx->ln<nx->
  (∀o,P o->K (V o) ⟨nx+1,(nx,.buf 5 (o.nd.map Nd.D))::du (cX m ln) lp (.buf k [ob o.w (.own nx 5 0 o.nd.length) o.bad])⟩)->Y.tr n (.ptr lp k 0 0::ak4) ⟨nx,m⟩ K
def Sr (Y:Ctx)(k:Nat)(ob:ED)(n:Nat)(ak4:List D)(w:List au)(nd:List Nd)(b:Bool)(P:PO->Prop)(V:PO->D):Prop:=
 ∀(nx lp ln:Nat) (m:List (Nat×bO)) (K:D->St->Prop),look m lp=some (.buf k [ob w (.own ln 5 0 nd.length) b])->look m ln=some (.buf 5 (nd.map Nd.D))->lp<nx->ln<nx->
  (∀o,P o->K (V o) ⟨nx,du m lp (.buf k [ob o.w (.own ln 5 0 nd.length) o.bad])⟩)->Y.tr n (.ptr lp k 0 0::ak4) ⟨nx,m⟩ K
def xo (k:Nat)(ob:ED)(P:PO->Prop)(V:PO->D):D->List (Nat×bO)->Prop:=fun d m=>∃(o:PO) (j:Nat),2<=j/\P o/\d=V o/\look m 0=some (.buf k [ob o.w (.own j 5 0 o.nd.length) o.bad])/\look m j=some (.buf 5 (o.nd.map Nd.D))
def Je (k:Nat)(ob:ED)(nd:List Nd)(P:PO->Prop)(V:PO->D):D->List (Nat×bO)->Prop:=fun d m=>∃(o:PO),P o/\d=V o/\look m 0=some (.buf k [ob o.w (.own 1 5 0 nd.length) o.bad])/\look m 1=some (.buf 5 (nd.map Nd.D))
def Va:PO->D:=fun o=>.int .i64 o.a
def Wy {m:List (Nat×bO)}(x:Nd):RU m [.a,.a,.a,.a,.a] (Nd.D x):=⟨rfl,rfl,rfl,rfl,rfl,rfl⟩
def Qj {m:List (Nat×bO)}{lp ln:Nat}{w:List au}{nd:List Nd}{b:Bool}(h1:look m lp=some (.buf 3 [iA w (.own ln 5 0 nd.length) b]))(h2:look m ln=some (.buf 5 (nd.map Nd.D))):
  kM m [[.pt [.sl 1 [.a],.sl 5 [.a,.a,.a,.a,.a],.a]]] [.ptr lp 3 0 0]:=by
 refine⟨⟨by simp[fJ,h1], ?_⟩,trivial⟩;intro e he;simp only[bp,h1,cN]at he;subst he;refine⟨rfl,⟨by simp[fJ,h2], ?_⟩,rfl,rfl⟩;simp only[bp,h2,cn,a7];intro e he;obtain⟨x,_,rfl⟩:=dX.1 he;exact Wy x
def bg (w:List au):au:=w.headD []
def bJ (w:List au):List au:=if bg w=[]then w else w.drop 1
def dy (w:List au)(b:Bool):Bool:=if bg w=[]then true else b
def sA {w:List au}{x:au}(hx:x≠[])(h:bg w=x):∃r,w=x::r:=by
 match w,h with
 |[],h=>exact absurd h.symm hx
 |y::r,h=>exact⟨r,by rw[show y=x from h]⟩
def RA {w:List au}(h:¬bg w=[]):1<=w.length:=by
 match w,h with
 |[],h=>exact absurd rfl h
 |_::_,_=>simp
def j2 {x:au}{r:List au}(hx:x≠[]):bJ (x::r)=r:=aj hx
def j1 {x:au}{r:List au}{b:Bool}(hx:x≠[]):dy (x::r) b=b:=aj hx
def N9 (w:List au):bJ w<:+w:=by
 unfold bJ;split
 ·exact lX _
 ·exact List.drop_suffix 1 w
def pI (w:List au)(nd:List Nd):PB w nd (bJ w) nd:=by
 have h:=N9 w;have:=h.length_le;exact⟨this,ae,h⟩
theorem Rz {w:List au}{b:Bool}(h:dy w b=false):b=false/\bg w≠[]/\w=bg w::bJ w:=by
 unfold dy at h;split at h
 ·cases h
 ·rename_i hs;refine⟨h,hs, ?_⟩
  match w,hs with
  |x::r,hs=>rw[j2 (x:=x) (r:=r) hs];rfl
def nN (b:Bool)(k:au)(w:List au)(nd:List Nd):PR:=if b=true then none else qJ k w nd
theorem Fx {j:Nat}{k:au}(hj:j<3)(h:rk[j]! =k):iQ k=(j:Nat):=by
 obtain rfl|rfl|rfl:j=0\/j=1\/j=2:=ae
 all_goals (subst h;rfl)
def B6 {k:au}(h:0<=iQ k):∃j,j<3/\rk[j]! =k/\iQ k=(j:Nat):=by
 unfold iQ at h⊢;by_cases h1:k=[111,115]
 ·exact⟨0,ae,h1.symm,by rw[ax h1];rfl⟩
 ·by_cases h2:k=[97,114,99,104]
  ·exact⟨1,ae,h2.symm,by rw[aj h1,ax h2];rfl⟩
  ·by_cases h3:k=[97,98,105]
   ·exact⟨2,ae,h3.symm,by rw[aj h1,aj h2,ax h3];rfl⟩
   grind
def HQ (j:Nat)(k s v:au)(bad:Bool):Bool:=!(((!decide (rk[j]! =k) ||bad) ||(!decide (s=[61])&& !decide (s=[33,61]))) ||!cG v)
def PQ {j:Nat}{k:au}{w:List au}{nd:List Nd}{b:Bool}(hj:j<3)(h:HQ j k (bg w) (bg (bJ w)) (dy (bJ w) (dy w b))=true):
  nN b k w nd=some (wJ k (bg w) (bg (bJ w)) (bJ (bJ w)) nd)/\iQ k=(j:Nat)/\dy (bJ w) (dy w b)=false:=by
 grind [HQ,Fx,Rz,nN,qJ,mK]
def Ta {k:au}{w:List au}{nd:List Nd}{b:Bool}(h:∀j,j<3->HQ j k (bg w) (bg (bJ w)) (dy (bJ w) (dy w b))=false):nN b k w nd=none:=by
 unfold nN;split
 ·rfl
 ·rename_i hb
  match w with
  |[]=>rfl
  |[_]=>rfl
  |s::v::r=>
   simp only[qJ];rw[aj];intro ha;simp only[mK,bw,dh,aW]at ha;obtain⟨⟨h1,h2⟩,h3⟩:=ha;obtain⟨j,hj,hj2,_⟩:=B6 h1;have hs:s≠[]:=by rintro rfl;rcases h3 with h|h<;>cases h
   have hv:v≠[]:=by rintro rfl;cases h2
   have:=h j hj;rw[j2 hs,j1 hs,j1 hv]at this;simp only[Bool.not_eq_true]at hb;subst hb;revert this;simp only[HQ,bg,List.headD_cons,hj2,h2,decide_true];rcases h3 with rfl|rfl<;>simp
def Ji (w:List au)(nd:List Nd):PB w nd (bJ (bJ w)) nd:=(pI w nd).trans (pI _ nd)
def za {b:Bool}{k:au}{w:List au}{nd:List Nd}{a:Int}{w':List au}{nd':List Nd}(h:nN b k w nd=some (a,w',nd')):PB w nd w' nd':=by
 grind [nN,pP]
def Pt {w:List au}{nd:List Nd}(h1:bg w≠qv)(h2:bg w≠gQ):jR w nd=nN (dy w false) (bg w) (bJ w) nd:=by
 match w with
 |[]=>rfl
 |k::r=>
  have h1:k≠qv:=h1;have h2:k≠gQ:=h2;rw[xZ,aj h1,aj h2];by_cases hk:k=[]
  ·subst hk;show qJ [] r nd=none
   match r with
   |[]=>rfl
   |[_]=>rfl
   |s::v::r=>rfl
  ·rw[j2 hk,j1 hk];rfl
def Pc {R:PR}{o:PO}{w:List au}{nd:List Nd}(h:ec R w nd o)(hs:bg o.w≠kX):oL R=none:=by
 rcases h.1 with⟨h1,_⟩|⟨h1,_⟩
 ·rw[h1]
  match ho:o.w,hs with
  |[],_=>rfl
  |x::r,hs=>simp only[oL];exact aj hs
 ·rw[h1];rfl
def ec.pb {R:PR}{o:PO}{w:List au}{nd:List Nd}(h:ec R w nd o):PB w nd o.w o.nd:=h.2
def JY {r:List au}{nd:List Nd}{o:PO}(h:ec (jR r nd) r nd o):ec (jR (qv::r) nd) (qv::r) nd ⟨(o.nd.length:Nat),o.w,o.nd++[⟨2,o.a,0,0,[]⟩],o.bad⟩:=by
 refine⟨?_,h.2.tail _⟩;rw[xZ,ax rfl];rcases h.1 with⟨h1,h2⟩|⟨h1,h2⟩
 ·left;rw[h1];exact⟨rfl,h2⟩
 ·right;rw[h1];exact⟨rfl,h2⟩
def uF (r:List au)(nd:List Nd):jR (gQ::r) nd=oL (iM r nd):=by rw[xZ,aj aG,ax rfl]
def FP {r:List au}{nd:List Nd}{o:PO}(h:ec (iM r nd) r nd o)(hs:¬bg o.w=kX):ec (jR (gQ::r) nd) (gQ::r) nd ⟨o.a,bJ o.w,o.nd,true⟩:=
 ⟨.inr ⟨by rw[uF,Pc h hs],rfl⟩,h.2.uZ.trans (pI _ _)⟩
def QC {r:List au}{nd:List Nd}{o:PO}(h:ec (iM r nd) r nd o)(hs:bg o.w=kX):ec (jR (gQ::r) nd) (gQ::r) nd ⟨o.a,bJ o.w,o.nd,dy o.w o.bad⟩:=by
 refine⟨?_,h.2.uZ.trans (pI _ _)⟩;obtain⟨q,hq⟩:=sA aG hs;rw[uF,hq,j2 aG,j1 aG];rcases h.1 with⟨h1,h2⟩|⟨h1,h2⟩
 ·grind [oL]
 ·right;rw[h1];exact⟨rfl,h2⟩
def QB {w:List au}{nd:List Nd}{o:PO}(hf:jR w nd=nN (dy w false) (bg w) (bJ w) nd)(h:ec (nN (dy w false) (bg w) (bJ w) nd) (bJ w) nd o):ec (jR w nd) w nd o:=
 ⟨by rw[hf];exact h.1,(pI w nd).trans h.2⟩
def P9 {s:au}{o:PO}(h:ec (iM (ak s 32) []) (ak s 32) [] o)(hc:((o.bad ||decide ((0:Int)<(o.w.length:Nat))) ||!zS o.nd)=true):Ia s=none:=by
 unfold Ia;rcases h.1 with⟨h1,h2⟩|⟨h1,h2⟩
 ·grind
 ·rw[h1]
def JM {s:au}{o:PO}(h:ec (iM (ak s 32) []) (ak s 32) [] o)(hc:((o.bad ||decide ((0:Int)<(o.w.length:Nat))) ||!zS o.nd)=false):Ia s=some o.nd:=by
 simp only[dW,bD,b6]at hc;unfold Ia;rcases h.1 with⟨h1,h2⟩|⟨h1,h2⟩
 ·rw[h1]
  match hw:o.w with
  |[]=>simp only[hc.2,ba]
  |x::r=>exact absurd hc.1.2 (by rw[hw];simp)
 grind
def JL {s:au}{nd:List Nd}(h1:¬96<s.length)(h2:¬s=[])(h:Ia s=some nd):mz s=(nd,0):=by simp only[mz,h,aj h1,aj h2]
def JK {s:au}(h1:¬96<s.length)(h2:¬s=[])(h:Ia s=none):mz s=([],7):=by simp only[mz,h,aj h1,aj h2]
def Hc (part:List au->List Nd->PR)(wd:au)(op:Int)(R:PR)(w:List au)(nd:List Nd)(o:PO):Prop:=(o.bad=false/\R=JI part wd op o.a o.w o.nd\/o.bad=true/\R=none)/\PB w nd o.w o.nd
def Hc.first {part:List au->List Nd->PR}{wd:au}{op:Int}{w:List au}{nd:List Nd}{o:PO}(h:ec (part w nd) w nd o):Hc part wd op (iD part wd op w nd) w nd o:=by
 refine⟨?_,h.2⟩;rcases h.1 with⟨h1,h2⟩|⟨h1,h2⟩
 ·left;refine⟨h2, ?_⟩;unfold iD;rw[h1];rfl
 grind [iD]
def Hc.next {part:List au->List Nd->PR}(hp:uj part){wd:au}{op:Int}{R:PR}{w:List au}{nd:List Nd}{a:Int}{r:List au}{nd1:List Nd}{o:PO}(h:Hc part wd op R w nd ⟨a,wd::r,nd1,false⟩)(h2:ec (part r nd1) r nd1 o):
  Hc part wd op R w nd ⟨(o.nd.length:Nat),o.w,o.nd++[⟨op,a,o.a,0,[]⟩],o.bad⟩:=by
 refine⟨?_,h.2.trans (h2.2.tail _)⟩;rcases h.1 with⟨_,h1⟩|⟨h1,_⟩
 ·rw[M3 hp]at h1;rcases h2.1 with⟨g1,g2⟩|⟨g1,g2⟩
  ·left;exact⟨g2,by rw[h1,g1]⟩
  ·right;exact⟨g2,by rw[h1,g1]⟩
 ·cases h1
def Hc.last {part:List au->List Nd->PR}{wd:au}{op:Int}{R:PR}{w:List au}{nd:List Nd}{o:PO}(h:Hc part wd op R w nd o)(hx:o.bad=true\/o.w.head? ≠some wd):ec R w nd o:=by
 refine⟨?_,h.2⟩;rcases h.1 with⟨h1,h2⟩|⟨h1,h2⟩
 ·grind [JI,P7]
 ·right;exact⟨h2,h1⟩
def gF (w:List au)(s:au):Bool:=match w with
 |x::_=>decide (x=s)
 |[]=>false
def oy (w:List au)(s:au):List au:=if gF w s=true then w.drop 1 else w
def rB (w:List au)(b:Bool):Bool:=if w=[]then true else b
def nG {w:List au}{s:au}(h:gF w s=true):∃r,w=s::r:=by
 match w,h with
 |x::r,h=>exact⟨r,by rw[show x=s by simpa[gF]using h]⟩
theorem tJ (s:au)(r:List au):gF (s::r) s=true:=by simp[gF]
def lM (s:au)(r:List au):oy (s::r) s=r:=by grind [oy,tJ]
def pw {w:List au}{s:au}(h:gF w s=false):oy w s=w:=by grind [oy]
def zU {w:List au}{s:au}(h:gF w s=false):w.head? ≠some s:=by
 match w,h with
 |[],_=>simp
 |x::r,h=>intro e;have e:x=s:=(by simpa using e);subst e;rw[tJ]at h;cases h
def Kn {W w:List au}(h:w<:+W)(hw:1<=w.length):W.length-w.length<W.length/\W[W.length-w.length]! =w[0]! :=by
 have hl:=h.length_le;have he:=List.suffix_iff_eq_drop.1 h
 grind
def JR {W w:List au}(h:w<:+W)(s:au):(decide (((W.length-w.length:Nat):Int)<(W.length:Nat))&&decide (W[W.length-w.length]! =s))=gF w s:=by
 have hl:=h.length_le
 match w with
 |[]=>
  have:decide (((W.length-([]:List au).length:Nat):Int)<(W.length:Nat))=false:=dk aT;rw[this];rfl
 |x::r=>
  obtain⟨h1,h2⟩:=Kn h aT;rw[h2,cz ae,gp];rfl
def Ka {W:List au}{x:au}{r:List au}{X:D}{b:Bool}(h:(x::r).length<=W.length):tZ (iS W (x::r) X b) 4 1 1 (.int .i64 (((W.length-(x::r).length:Nat):Int)+1))=iS W r X b:=by
 have:((W.length-(x::r).length:Nat):Int)+1=((W.length-r.length:Nat):Int):=by simp only[ay]at h⊢;omega
 rw[this];rfl
def zq (w:List au)(nd:List Nd):PR:=match w with
 |k::r=>qJ k r nd
 |[]=>none
def JD (k:au)(i:Nat):Int:=if iQ k<i then iQ k else-1
theorem JE (k:au):-1<=iQ k:=by
 grind [iQ]
theorem Tk (k:au):iQ k<3:=by
 grind [iQ]
def Tj {k:au}{i:Nat}(hi:i<3)(h:tE (i:Int)=k):JD k (i+1)=(i:Int):=by
 have:iQ k=(i:Nat):=Fx hi (by rw[<-h];exact sj (k:=(i:Int)) ae ae);unfold JD;rw[this,ax ae]
def Wr {k:au}{i:Nat}(hi:i<3)(h:¬tE (i:Int)=k):JD k (i+1)=JD k i:=by
 have h1:iQ k≠(i:Nat):=by
  intro e;obtain⟨j,hj,hj2,hj3⟩:=B6 (k:=k) ae;have:j=i:=ae;subst this;exact h (by rw[<-hj2];exact(sj (k:=(j:Int)) ae ae).symm)
 grind [JE,JD,iQ]
def kAt_0 (k:au):JD k 0=-1:=by
 have:=JE k;unfold JD;split
 ·omega
 ·rfl
def kAt_3 (k:au):JD k 3=iQ k:=by
 grind [Tk,JD]
def Bz (k s v:au):(((decide (iQ k<0) ||!cG v)) ||(!decide (s=[61])&& !decide (s=[33,61])))=!mK k s v:=by
 unfold mK
 grind
def Md {w:List au}{nd:List Nd}(h:mK (bg w) (bg (w.drop 1)) (bg ((w.drop 1).drop 1))=true):∃r,w=bg w::bg (w.drop 1)::bg ((w.drop 1).drop 1)::r/\zq w nd=some (wJ (bg w) (bg (w.drop 1)) (bg ((w.drop 1).drop 1)) r nd):=by
 match w,h with
 |[],h=>cases h
 |[_],h=>simp[mK,bg,cG]at h
 |[_,_],h=>simp[mK,bg,cG]at h
 |k::s::v::r,h=>exact⟨r,rfl,by simp only[zq,qJ];exact ax h⟩
def O2 {w:List au}{nd:List Nd}(h:mK (bg w) (bg (w.drop 1)) (bg ((w.drop 1).drop 1))=false):zq w nd=none:=by
 match w,h with
 |[],h=>rfl
 |[_],h=>rfl
 |[_,_],h=>rfl
 |k::s::v::r,h=>simp only[zq,qJ];exact aj (by rw[show mK k s v=false from h];simp)
def Dd (w:List au)(nd:List Nd):PB w nd (w.drop 1) nd:=by
 have h:w.drop 1<:+w:=List.drop_suffix 1 w;have:=h.length_le;exact⟨this,ae,h⟩
def BO {w:List au}{nd:List Nd}{a:Int}{w':List au}{nd':List Nd}(h:zq w nd=some (a,w',nd')):PB w nd w' nd':=by
 match w,h with
 |k::r,h=>exact(pP h).uZ
def We {w:List au}{nd:List Nd}(h1:gF w qv=false)(h2:gF w gQ=false):jR w nd=zq w nd:=by
 match w,h1,h2 with
 |[],_,_=>rfl
 |k::r,h1,h2=>
  have h1:¬k=qv:=by simpa[gF]using h1
  have h2:¬k=gQ:=by simpa[gF]using h2
  rw[xZ,aj h1,aj h2];rfl
def Mh {R:PR}{o:PO}{w:List au}{nd:List Nd}(h:ec R w nd o)(hs:gF o.w kX=false):oL R=none:=by
 rcases h.1 with⟨h1,_⟩|⟨h1,_⟩
 ·rw[h1]
  match ho:o.w,hs with
  |[],_=>rfl
  |x::r,hs=>simp only[oL];exact aj (by simpa[gF]using hs)
 ·rw[h1];rfl
def DO {r:List au}{nd:List Nd}{o:PO}(h:ec (iM r nd) r nd o)(hs:gF o.w kX=false):ec (jR (gQ::r) nd) (gQ::r) nd ⟨o.a,o.w,o.nd,true⟩:=
 ⟨.inr ⟨by rw[uF,Mh h hs],rfl⟩,h.2.uZ⟩
def Nq {r:List au}{nd:List Nd}{o:PO}{q:List au}(h:ec (iM r nd) r nd o)(hs:o.w=kX::q):ec (jR (gQ::r) nd) (gQ::r) nd ⟨o.a,q,o.nd,o.bad⟩:=by
 refine⟨?_,(h.2.uZ (x:=gQ)).trans (by rw[hs];exact(PB.refl _ _).uZ)⟩;rw[uF];rcases h.1 with⟨h1,h2⟩|⟨h1,h2⟩
 ·grind [oL]
 ·right;rw[h1];exact⟨rfl,h2⟩
def PB.vi {w w':List au}{nd nd':List Nd}{W:List au}(h:PB w nd w' nd')(hW:w<:+W):w'<:+W:=h.2.2.trans hW
def tu (f:Nat->Int):Nat->Nat->Int
 |_,0=>0
 |i,k+1=>if f i=0 then tu f (i+1) k else f i
def fg (f:Nat->Int)(i n:Nat):Int:=tu f i (n-i)
def nA {f:Nat->Int}{i n:Nat}(h:i<n)(hf:f i=0):fg f i n=fg f (i+1) n:=by
 unfold fg;obtain⟨k,hk⟩:∃k,n-i=k+1:=⟨n-i-1,ae⟩
 grind [tu]
def lE {f:Nat->Int}{i n:Nat}(h:i<n)(hf:f i≠0):fg f i n=f i:=by
 unfold fg;obtain⟨k,hk⟩:∃k,n-i=k+1:=⟨n-i-1,ae⟩
 rw[hk];simp only[tu,hf,bc]
def ny {f:Nat->Int}{i n:Nat}(h:n<=i):fg f i n=0:=by
 unfold fg;rw[show n-i=0 by omega];rfl
def pV (f:Nat->Int):Nat->Nat->Int×Int
 |_,0=>(0,0)
 |i,k+1=>if f i=0 then pV f (i+1) k else(f i,((i:Nat):Int))
def ig (f:Nat->Int)(i n:Nat):Int×Int:=pV f i (n-i)
def lD {f:Nat->Int}{i n:Nat}(h:i<n)(hf:f i=0):ig f i n=ig f (i+1) n:=by
 unfold ig;obtain⟨k,hk⟩:∃k,n-i=k+1:=⟨n-i-1,ae⟩
 grind [pV]
def jS {f:Nat->Int}{i n:Nat}(h:i<n)(hf:f i≠0):ig f i n=(f i,((i:Nat):Int)):=by
 unfold ig;obtain⟨k,hk⟩:∃k,n-i=k+1:=⟨n-i-1,ae⟩
 rw[hk];simp only[pV,hf,bc]
def lC {f:Nat->Int}{i n:Nat}(h:n<=i):ig f i n=(0,0):=by
 unfold ig;rw[show n-i=0 by omega];rfl
def fG (r:Rec)(name ui:au):Int:=if dJ name=false then 4 else if name=r.name then 8 else if sw ui=false then 6 else 0
def UQ (l:List au)(i:Nat):Bool:=cG l[i]! && !(decide (0<i)&& !Op.bytesLess l[i-1]! l[i]!)
def jq (l:List au)(alone:Bool):Bool:=(decide (l.length<=6)&&(alone ||decide (l.length=0)))&&cV (UQ l) 0 l.length
def jt (r:Rec)(w:cq)(alone:Bool):Int:=if fG r w.name w.range≠0 then fG r w.name w.range else if jq w.feats alone=false then 11 else 0
def me (r:Rec)(l:List cq):Int:=fg (fun i=>jt r l[i]! (decide ((l.length:Int)=1))) 0 l.length
def iN (r:Rec)(n:cb):Int:=if n.any.length=0 then 9 else if 3<n.any.length then 3 else if me r n.any≠0 then me r n.any else
 if qa n.when'=false then 7 else if n.option≠[]/\cG n.option=false then 14 else 0
def oT (r:Rec)(b:jL):Int:=if fG r b.name b.range≠0 then fG r b.name b.range else if qa b.when'=false then 7 else 0
def FO (l:List cb)(x:au):Bool:=l.any fun n=>decide (n.option=x)
def xd (l:List cb)(x:au):Bool:=l.any fun n=>decide (n.any.length=1)&&decide (n.any[0]!.name=x)
def jH (r:Rec)(s:au):Int:=if(dq s).1=2/\FO r.needs (dq s).2.1=false then 14 else if(dq s).1=3/\xd r.needs (dq s).2.1=false then 16 else 0
def kJ (r:Rec)(of:List au):Int:=fg (fun i=>jH r of[i]!) 0 of.length
def lK (r:Rec):Int×Int:=ig (fun i=>iN r r.needs[i]!) 0 r.needs.length
def sU (r:Rec):Int×Int:=ig (fun i=>oT r r.bars[i]!) 0 r.bars.length
def tq (r:Rec):Int×Int:=ig (fun i=>kJ r r.feats[i]!.of) 0 r.feats.length
def eF (r:Rec):Int×Int:=if(lK r).1≠0 then lK r else if(sU r).1≠0 then sU r else if ie r.feats=false then(11,0)else tq r
def RM (n:Nat)(al:Bool):(decide ((6:Int)<(n:Nat)) ||(decide ((0:Int)<(n:Nat))&& !al))=!(decide (n<=6)&&(al ||decide (n=0))):=by
 grind
def wf_c (l:List au)(i:Nat):(!cG l[i]! ||(decide ((0:Int)<(i:Nat))&& !Op.bytesLess l[i-1]! l[i]!))=!UQ l i:=by
 unfold UQ
 grind
def wf_2 (l:List au)(al:Bool):(cV (fun i=>cG l[i]!) 0 l.length&&((decide (l.length<=6)&&rising l)&&(al ||decide (l.length=0))))=jq l al:=by
 grind [cV,UQ,cG,rising,eD,jq]
def itC (k:Int)(x:au)(n:cb):Bool:=(decide (k=2)&&decide (n.option=x)) ||((decide (k=3)&&decide ((n.any.length:Int)=1))&&decide (n.any[0]!.name=x))
def Wq (k:Int):Int:=if k=2 then 14 else if k=3 then 16 else 0
def PZ (r:Rec)(s:au):jH r s=if r.needs.any (itC (dq s).1 (dq s).2.1)=true then 0 else Wq (dq s).1:=by
 grind [jH,Wq,FO,xd,dq,itC]
def xT {α:Type} [Inhabited α]{c:α->Bool}{l:List α}{i:Nat}(h:i<l.length)(hc:c l[i]! =true):(l.drop i).any c=true:=by
 rw[jD h,List.any_cons]
 grind
def C2 {α:Type} [Inhabited α]{c:α->Bool}{l:List α}{i:Nat}(h:i<l.length)(hc:c l[i]! =false):(l.drop i).any c=(l.drop (i+1)).any c:=by
 rw[jD h,List.any_cons]
 grind
def xS {α:Type}{c:α->Bool}{l:List α}{i:Nat}(h:l.length<=i):(l.drop i).any c=false:=by
 rw[k8 h];rfl
def hE:au:=[110,101,101,100]
def jK:au:=[97,110,121]
def gP:au:=[119,104,101,110]
def eh:au:=[111,112,116,105,111,110]
def iK:au:=[98,97,114]
def cF:au:=[102,101,97,116,117,114,101]
def eO:au:=[112,97,99,107,97,103,101]
def js:au:=[102,117,108,108]
def gC:au:=[98,97,114,101]
def bZ (l:List au):au:=aP [32] l++[10]
def iO (w:cq):List au:=[jK,w.name,if w.feats.length=0 then [45]else aP [44] w.feats,if w.bare=true then gC else js,w.range]
def hH (s:au):au:=if s=[]then []else bZ [gP,s]
def qC (s:au):au:=if s=[]then []else bZ [eh,s]
def po (n:cb):au:=bZ [hE]++(n.any.map fun w=>bZ (iO w)).flatten++hH n.when'++qC n.option
def uq (b:jL):au:=bZ [iK,b.name,b.range]++hH b.when'
def qp (f:cu):au:=bZ ([cF,f.name]++f.of)
def qq (r:Rec):au:=bZ [eO,r.name,j3 r.v]
def fP (r:Rec):au:=qq r++(r.needs.map po).flatten++(r.bars.map uq).flatten++(r.feats.map qp).flatten
def cK (r:Rec):Int×Int:=if dJ r.name=false then(4,0)else if eY r.v=false then(5,0)else if 8<r.needs.length\/8<r.bars.length then(3,0)else
 if(eF r).1≠0 then eF r else if 4096<(fP r).length then(3,0)else(0,0)
def c7 (r:Rec):au×Int:=if(cK r).1≠0 then([],(cK r).1)else(fP r,0)
def cq.sm (w:cq):Prop:=(w.name.length<=1048576/\w.range.length<=1048576)/\∀t∈w.feats,t.length<=1048576
def cb.sm (n:cb):Prop:=(∀w∈n.any,w.sm)/\n.when'.length<=1048576/\n.option.length<=1048576
def jL.sm (b:jL):Prop:=b.name.length<=1048576/\b.range.length<=1048576/\b.when'.length<=1048576
def fo (r:Rec):Prop:=(r.name.length<=1048576/\r.v.sm)/\(∀n∈r.needs,n.sm)/\(∀b∈r.bars,b.sm)/\x5 r.feats
def FQ {r:Rec}{e:Int×Int}(h:lK r=e)(hn:e.1≠0):eF r=e:=by grind [eF]
def Ac {r:Rec}{e:Int×Int}(h0:lK r=(0,0))(h:sU r=e)(hn:e.1≠0):eF r=e:=by grind [eF]
def FR {r:Rec}(h0:lK r=(0,0))(h1:sU r=(0,0))(h:ie r.feats=false):eF r=(11,0):=by grind [eF]
def ru {r:Rec}{e:Int×Int}(h0:lK r=(0,0))(h1:sU r=(0,0))(h:ie r.feats=true)(h2:tq r=e):eF r=e:=by grind [eF]
def E6 (f:Nat->Int):∀(k i:Nat),(pV f i k).1=0->pV f i k=(0,0)
 |0,_,_=>rfl
 |k+1,i,h=>by
  simp only[pV]at h⊢;by_cases hf:f i=0
  ·rw[ax hf]at h⊢;exact E6 f k (i+1) h
  ·rw[aj hf]at h;exact absurd h hf
def FU {r:Rec}(h:(eF r).1=0):eF r=(0,0):=by
 unfold eF at h⊢;split
 ·rename_i h1;rw[ax h1]at h;exact absurd h h1
 ·rename_i h1;rw[aj h1]at h;split
  ·rename_i h2;rw[ax h2]at h;exact absurd h h2
  ·rename_i h2;rw[aj h2]at h;split
   ·rename_i h3;rw[ax h3]at h;cases h
   ·rename_i h3;rw[aj h3]at h;exact E6 _ _ _ h
def oX {r:Rec}{e:Int×Int}(h0:dJ r.name=true)(h1:eY r.v=true)(h2:¬8<r.needs.length)(h3:¬8<r.bars.length)(hp:eF r=e)(hn:e.1≠0):cK r=e:=by
 grind [cK]
def qO {r:Rec}(h0:dJ r.name=true)(h1:eY r.v=true)(h2:¬8<r.needs.length)(h3:¬8<r.bars.length)(hp:eF r=(0,0)):cK r=if 4096<(fP r).length then(3,0)else(0,0):=by
 grind [cK]
def wU (r:Rec):Prop:=(dJ r.name=true/\eY r.v=true)/\(r.needs.length<=8/\r.bars.length<=8)/\eF r=(0,0)
def qP (n:Nat)(l:List au):List au:=if l.length<=n then l else l.take (n-1)++[aP [32] (l.drop (n-1))]
def ef (n:Nat)(op:Bool)(t:au):List au:=if op=true then qP n (ak t 32)else ak t 32
def jr (w:au)(n:Nat)(op:Bool)(t:au):Option (List au):=
 if(ef n op t)[0]! =w/\(n=0\/(ef n op t).length=n)/\[]∉ef n op t then some (ef n op t)else none
def cl (w:au)(n:Nat)(op:Bool):List au->Option (List au×List au)
 |[]=>none
 |t::r=>match jr w n op t with
  |some l=>some (l,r)
  |none=>none
def cx (ls:List au):au×List au:=match cl gP 2 true ls with
 |some (l,r)=>(l[1]!,r)
 |none=>([],ls)
def uM (l:List au):Bool:=decide (l[3]! =gC) ||decide (l[3]! =js)
def ji (l:List au):cq:=⟨l[1]!,l[4]!,if l[2]! =[45]then []else ak l[2]! 44,decide (l[3]! =gC)⟩
def dn:List au->List cq×List au
 |[]=>([],[])
 |t::r=>match jr jK 5 true t with
  |some l=>if uM l=true then(ji l::(dn r).1,(dn r).2)else([],t::r)
  |none=>([],t::r)
def tL (ls:List au):au×List au:=match cl eh 2 false ls with
 |some (l,r)=>(l[1]!,r)
 |none=>([],ls)
def e8 (ls:List au):cb×List au:=(⟨(dn ls).1,(cx (dn ls).2).1,(tL (cx (dn ls).2).2).1⟩,(tL (cx (dn ls).2).2).2)
def mR:Nat->List au->List cb×List au
 |0,ls=>([],ls)
 |f+1,ls=>match cl hE 1 false ls with
  |some (_,r)=>((e8 r).1::(mR f (e8 r).2).1,(mR f (e8 r).2).2)
  |none=>([],ls)
def qn:Nat->List au->List jL×List au
 |0,ls=>([],ls)
 |f+1,ls=>match cl iK 3 true ls with
  |some (l,r)=>(⟨l[1]!,l[2]!,(cx r).1⟩::(qn f (cx r).2).1,(qn f (cx r).2).2)
  |none=>([],ls)
def fL:List au->List cu×List au
 |[]=>([],[])
 |t::r=>match jr cF 0 false t with
  |some l=>if 2<=l.length then(⟨l[1]!,l.drop 2⟩::(fL r).1,(fL r).2)else([],t::r)
  |none=>([],t::r)
def sK:Rec:=⟨[],lj,[],[],[]⟩
def iI (ls:List au):List cb×List au:=mR ls.length ls
def nP (ls:List au):List jL×List au:=qn ls.length ls
def sV (nm:au)(v:cY)(r:List au):Rec×List au:=(⟨nm,v,(iI r).1,(nP (iI r).2).1,(fL (nP (iI r).2).2).1⟩,(fL (nP (iI r).2).2).2)
def tS (ls:List au):Option (Rec×List au):=match cl eO 3 false ls with
 |some (l,r)=>match pJ l[2]! with
  |some v=>some (sV l[1]! v r)
  |none=>none
 |none=>none
theorem lL {w:au}{n:Nat}{op:Bool}{ls l r:List au}(h:cl w n op ls=some (l,r)):r.length+1=ls.length:=by
 match ls,h with
 |t::q,h=>
  grind [cl]
 |[],h=>cases h
theorem wE (ls:List au):(cx ls).2.length<=ls.length:=by
 grind [cx,lL]
def Qu (ls:List au):(tL ls).2.length<=ls.length:=by
 grind [tL,lL]
def xk:∀ls:List au,(dn ls).2.length<=ls.length
 |[]=>aQ _
 |t::r=>by
  have:=xk r
  grind [dn]
theorem Cc (ls:List au):(e8 ls).2.length<=ls.length:=by
 have h1:=xk ls;have h2:=wE (dn ls).2;have h3:=Qu (cx (dn ls).2).2;show(tL (cx (dn ls).2).2).2.length<=_;omega
theorem Cd:∀(f g:Nat) (ls:List au),ls.length<=f->ls.length<=g->mR f ls=mR g ls
 |0,0,_,_,_=>rfl
 |0,g+1,ls,h,_=>by
  have:ls=[]:=ug.1 ae;subst this;rfl
 |f+1,0,ls,_,h=>by
  have:ls=[]:=ug.1 ae;subst this;rfl
 |f+1,g+1,ls,hf,hg=>by
  simp only[mR];cases h:cl hE 1 false ls with
  |none=>rfl
  |some p=>
   obtain⟨l,r⟩:=p;have h1:=lL h;have h2:=Cc r;simp only;rw[Cd f g _ ae ae]
theorem EO:∀(f g:Nat) (ls:List au),ls.length<=f->ls.length<=g->qn f ls=qn g ls
 |0,0,_,_,_=>rfl
 |0,g+1,ls,h,_=>by
  have:ls=[]:=ug.1 ae;subst this;rfl
 |f+1,0,ls,_,h=>by
  have:ls=[]:=ug.1 ae;subst this;rfl
 |f+1,g+1,ls,hf,hg=>by
  simp only[qn];cases h:cl iK 3 true ls with
  |none=>rfl
  |some p=>
   obtain⟨l,r⟩:=p;have h1:=lL h;have h2:=wE r;simp only;rw[EO f g _ ae ae]
def wY {ls l r:List au}(h:cl hE 1 false ls=some (l,r)):iI ls=((e8 r).1::(iI (e8 r).2).1,(iI (e8 r).2).2):=by
 grind [lL,Cc,iI,mR,Cd,e8]
def wX {ls:List au}(h:cl hE 1 false ls=none):iI ls=([],ls):=by
 unfold iI
 match ls,h with
 |[],_=>rfl
 |t::r,h=>simp only[ay,mR,h]
def zg {ls l r:List au}(h:cl iK 3 true ls=some (l,r)):nP ls=(⟨l[1]!,l[2]!,(cx r).1⟩::(nP (cx r).2).1,(nP (cx r).2).2):=by
 grind [lL,wE,nP,qn,EO,cx]
def zf {ls:List au}(h:cl iK 3 true ls=none):nP ls=([],ls):=by
 unfold nP
 match ls,h with
 |[],_=>rfl
 |t::r,h=>simp only[ay,qn,h]
structure RdS where
 r:Rec
 st:Nat
 deriving Inhabited
def eqBb (a b:Bool):iZ (D.bool a).cells (D.bool b).cells=decide (a=b):=by cases a<;>cases b<;>rfl
def zw {f:Nat->Int}:∀{k i:Nat},tu f i k=0->∀j,i<=j->j<i+k->f j=0
 |0,i,_,j,h1,h2=>absurd h2 ae
 |k+1,i,h,j,h1,h2=>by
  simp only[tu]at h;by_cases hf:f i=0
  ·rw[ax hf]at h;by_cases hj:j=i
   ·rw[hj];exact hf
   ·exact zw h j ae ae
  ·rw[aj hf]at h;exact absurd h hf
def HK {f:Nat->Int}{n:Nat}(h:fg f 0 n=0)(j:Nat)(hj:j<n):f j=0:=zw h j ae ae
def zx {f:Nat->Int}:∀{k i:Nat},(pV f i k).1=0->∀j,i<=j->j<i+k->f j=0
 |0,i,_,j,h1,h2=>absurd h2 ae
 |k+1,i,h,j,h1,h2=>by
  simp only[pV]at h;by_cases hf:f i=0
  ·rw[ax hf]at h;by_cases hj:j=i
   ·rw[hj];exact hf
   ·exact zx h j ae ae
  ·rw[aj hf]at h;exact absurd h hf
def HJ {f:Nat->Int}{n:Nat}(h:(ig f 0 n).1=0)(j:Nat)(hj:j<n):f j=0:=zx h j ae ae
def cq.fit (w:cq):Prop:=w.sm/\(w.feats.length<=6/\∀t∈w.feats,t.length<=12)
def cb.fit (n:cb):Prop:=(n.any.length<=3/\∀w∈n.any,w.fit)/\n.when'.length<=1048576/\n.option.length<=1048576
def cu.fit (x:cu):Prop:=x.sm/\x.of.length<=6
structure Rec.fit (r:Rec):Prop where
 nm:r.name.length<=1048576
 v:r.v.sm
 ns:r.needs.length<=8
 n:∀x∈r.needs,x.fit
 bs:r.bars.length<=8
 b:∀x∈r.bars,x.sm
 fs:r.feats.length<=8
 f:∀x∈r.feats,x.fit
theorem yc {α:Type} [Inhabited α]{l:List α}{x:α}(h:x∈l):∃i,i<l.length/\l[i]! =x:=by
 obtain⟨i,hi,e⟩:=List.mem_iff_getElem.1 h;exact⟨i,hi,by rw[<-e];simp[hi]⟩
def RO {r:Rec}{w:cq}{al:Bool}(h:jt r w al=0)(hs:w.sm):w.fit:=by
 refine⟨hs, ?_⟩
 grind [jt,jq,eD,yc,UQ,cG]
def Qd {r:Rec}{n:cb}(h:iN r n=0)(hs:n.sm):n.fit:=by
 unfold iN at h;split at h
 ·cases h
 split at h
 ·cases h
 rename_i h1 h2;split at h
 ·rename_i h3;exact absurd h h3
 rename_i h3;refine⟨⟨ae,fun w hw=>?_⟩,hs.2⟩;obtain⟨i,hi,rfl⟩:=yc hw;exact RO (HK (Classical.not_not.1 h3) i hi) (hs.1 _ hw)
def BZ {r:Rec}(h:wU r/\fo r):r.fit:=by
 obtain⟨⟨_,⟨h1,h2⟩,hp⟩,⟨s1,s2⟩,s3,s4,s5⟩:=h;have h0:(lK r).1=0/\ie r.feats=true:=by
  grind [eF]
 obtain⟨h3,h4⟩:=h0;simp only[ie,bw,aW,eD]at h4;refine⟨s1,s2,h1,fun x hx=>?_,h2,s4,h4.1,fun x hx=>⟨s5 x hx, ?_⟩⟩
 ·obtain⟨i,hi,rfl⟩:=yc hx;exact Qd (HJ h3 i hi) (s3 _ hx)
 grind [yc,jz,lH]
def nD (x:UInt8)(B:Nat):∀l:List au,(∀t∈l,t.length<=B)->(aP [x] l).length<=l.length*(B+1)
 |[],_=>by simp[aP]
 |[t],h=>by have:=h t (.head _);simp only[aP,ay,aB];omega
 |t::u::r,h=>by
  have h1:=h t (.head _);have h2:=nD x B (u::r) fun y hy=>h y (.tail _ hy)
  simp only[aP,bG,ay,aB,Nat.succ_mul]at h2⊢;omega
def AS {w:cq}(h:w.fit):(aP [44] w.feats).length<=6291462:=by
 have h1:=nD 44 1048576 w.feats h.1.2;have h2:=fk (1048576+1) h.2.1;omega
def En {w:cq}(h:w.fit):(aP [44] w.feats).length<=78:=by
 have h1:=nD 44 12 w.feats h.2.2;have h2:=fk (12+1) h.2.1;omega
def ju (w:cq):au:=bZ (iO w)
def wG {w:cq}(h:w.fit):(ju w).length<=8400000:=by
 have h1:=AS h;have h2:=h.1.1;simp only[ju,bZ,iO,aP,bG,ay,aB]
 grind [jK,gC,js]
def nK {s:au}(h:s.length<=1048576):(hH s).length<=1048590:=by
 unfold hH;split
 ·simp
 ·simp only[bZ,aP,gP,bG,ay,aB];omega
def Qx {s:au}(h:s.length<=1048576):(qC s).length<=1048590:=by
 unfold qC;split
 ·simp
 ·simp only[bZ,aP,eh,bG,ay,aB];omega
def uI {α:Type}(q:α->au)(B:Nat){l:List α}(h:∀x∈l,(q x).length<=B)(i:Nat):(((l.take i).map q).flatten).length<=i*B:=by
 have h1:=qX q B (l.take i) fun x hx=>h x (lY hx)
 have h2:=fk B (List.length_take_le i l);omega
theorem se {α:Type} [Inhabited α](q:α->au){l:List α}{i:Nat}(h:i<l.length):((l.take (i+1)).map q).flatten=((l.take i).map q).flatten++q l[i]! :=by
 rw[List.take_add_one,List.getElem?_eq_getElem h,List.map_append,List.flatten_append];simp[h]
def Nc {n:cb}(h:n.fit):(po n).length<=27400000:=by
 have h1:=qX ju 8400000 n.any fun w hw=>wG (h.1.2 w hw)
 have h2:=fk 8400000 h.1.1;have h3:=nK h.2.1;have h4:=Qx h.2.2;have h5:(bZ [hE]).length=5:=rfl;unfold ju at h1
 grind [po]
def O7 {b:jL}(h:b.sm):(uq b).length<=3145800:=by
 have h1:=nK h.2.2;have h2:=h.1;have h3:=h.2.1;simp only[uq,bZ,aP,iK,bG,ay,aB];omega
def BP {x:cu}(h:x.fit):(qp x).length<=8400000:=by
 have h1:=nD 32 1048576 ([cF,x.name]++x.of) (by
  intro t ht;simp only[fm,fC,bV]at ht;rcases ht with rfl|rfl|ht
  ·simp[cF]
  ·exact h.1.1
  ·exact h.1.2.2 _ ht)
 have h2:=h.2
 grind [cF,qp,bZ]
def MO {r:Rec}(h1:r.name.length<=1048576)(h2:r.v.sm):(qq r).length<=3145800:=by
 have h3:=AQ r.v h2;simp only[qq,bZ,aP,eO,bG,ay,aB];omega
def dU (n:cb)(j:Nat):au:=bZ [hE]++((n.any.take j).map ju).flatten
def Tp (n:cb):dU n 0=[110,101,101,100,10]:=rfl
def nY {n:cb}{j:Nat}(h:j<n.any.length):dU n (j+1)=dU n j++ju n.any[j]! :=by grind [dU,se,ju]
def vU {n:cb}{j:Nat}(h:n.any.length<=j):po n=dU n j++hH n.when'++qC n.option:=by
 rw[dU,ek h];rfl
def Cb {n:cb}(h:n.fit)(j:Nat)(hj:j<=3):(dU n j).length<=25200005:=by
 have h1:=uI ju 8400000 (fun w hw=>wG (h.1.2 w hw)) j;have h2:=fk 8400000 hj;have h5:(bZ [hE]).length=5:=rfl
 grind [dU]
def kq (r:Rec)(i:Nat):au:=qq r++((r.needs.take i).map po).flatten
def AM (r:Rec)(i:Nat):au:=kq r r.needs.length++((r.bars.take i).map uq).flatten
def CN (r:Rec)(i:Nat):au:=AM r r.bars.length++((r.feats.take i).map qp).flatten
def RH (r:Rec):kq r 0=qq r:=by simp[kq]
def RI (r:Rec):AM r 0=kq r r.needs.length:=by simp[AM]
def RJ (r:Rec):CN r 0=AM r r.bars.length:=by simp[CN]
def Ei (r:Rec):CN r r.feats.length=fP r:=by grind [CN,AM,kq,fP]
def mE {r:Rec}{i:Nat}(h:i<r.needs.length):kq r (i+1)=kq r i++po r.needs[i]! :=by grind [kq,se,po]
def GL {r:Rec}{i:Nat}(h:i<r.bars.length):AM r (i+1)=AM r i++uq r.bars[i]! :=by grind [AM,se,uq]
def GN {r:Rec}{i:Nat}(h:i<r.feats.length):CN r (i+1)=CN r i++qp r.feats[i]! :=by grind [CN,se,qp]
def Ef {r:Rec}(h:r.fit)(i:Nat)(hi:i<=r.needs.length):(kq r i).length<=222400000:=by
 have a0:=MO h.nm h.v;have a1:=uI po 27400000 (fun x hx=>Nc (h.n x hx)) i;have b1:=fk 27400000 (c9 hi h.ns);simp only[kq,bG];omega
def Eg {r:Rec}(h:r.fit)(i:Nat)(hi:i<=r.bars.length):(AM r i).length<=247600000:=by
 have a0:=Ef h r.needs.length (aQ _);have a1:=uI uq 3145800 (fun x hx=>O7 (h.b x hx)) i;have b1:=fk 3145800 (c9 hi h.bs);simp only[AM,bG];omega
def Ku {r:Rec}(h:r.fit)(i:Nat)(hi:i<=r.feats.length):(CN r i).length<=314800000:=by
 have a0:=Eg h r.bars.length (aQ _);have a1:=uI qp 8400000 (fun x hx=>BP (h.f x hx)) i;have b1:=fk 8400000 (c9 hi h.fs);simp only[CN,bG];omega
theorem qN {r:Rec}(h:(cK r).1=0):wU r:=by
 unfold cK at h;split at h
 ·cases h
 split at h
 ·cases h
 split at h
 ·cases h
 rename_i a b c;split at h
 ·rename_i d;exact absurd h d
 rename_i d;exact⟨⟨by simpa using a,by simpa using b⟩,⟨ae,ae⟩,FU (Classical.not_not.1 d)⟩
def lV (r:Rec):Int:=if(c7 r).2≠0 then 0 else GA (c7 r).1
def vM (l:List au)(x:au)(i:Nat):Int:=match(l.drop i).findIdx? (fun t=>decide (x=t))with
 |some k=>((i+k:Nat):Int)
 |none=>-1
def Tc {l:List au}{x:au}{i:Nat}(h:i<l.length)(he:x=l[i]!):vM l x i=(i:Nat):=by
 unfold vM;rw[jD h,List.findIdx?_cons]
 grind
def Td {l:List au}{x:au}{i:Nat}(h:i<l.length)(he:¬x=l[i]!):vM l x i=vM l x (i+1):=by
 unfold vM;have:¬x=l[i]:=by simpa[h]using he
 rw[jD h,List.findIdx?_cons]
 grind
def PV {l:List au}{x:au}{i:Nat}(h:l.length<=i):vM l x i=-1:=by
 unfold vM;rw[k8 h];rfl
def PW (l:List au)(x:au):decide (0<=vM l x 0)=decide (x∈l):=by
 grind [vM]
structure Ld where
 ls:List au
 at':Nat
 deriving Inhabited,DecidableEq
def Ld.D (r:Ld):D:=.agg [.sl 1 (r.ls.map D.str),.int .i64 (r.at':Nat)]
def Ld.rest (r:Ld):List au:=r.ls.drop r.at'
def Ld.sm (r:Ld):Prop:=(r.at'<=r.ls.length/\r.ls.length<=1048577)/\∀t∈r.ls,t.length<=1048576
def Ld.to (r:Ld)(q:List au):Ld:=⟨r.ls,r.ls.length-q.length⟩
def lW (n:Int)(t:au):List au:=if n<0 then ak t 32 else qP n.toNat (ak t 32)
def CU (n:Nat)(op:Bool)(t:au):lW (if op=true then(n:Int)else-1) t=ef n op t:=by
 grind [lW,ef]
def Bj:Option (List au×List au)->D
 |none=>.aC
 |some (l,_)=>.sl 1 (l.map D.str)
def Ld.after (r:Ld)(o:Option (List au×List au)):Ld:=match o with
 |none=>r
 |some _=>⟨r.ls,r.at'+1⟩
def Ld.Rr {r:Ld}(h:r.ls.length<=r.at'):r.rest=[]:=k8 h
def Ld.sz {r:Ld}(h:r.at'<r.ls.length):r.rest=r.ls[r.at']! ::r.ls.drop (r.at'+1):=by
 unfold Ld.rest;rw[jD h];simp[h]
def Oh (n:Nat)(op:Bool)(t:au)(h:op=true->1<=n):1<=(ef n op t).length:=by
 grind [ak,eR,ef,qP]
def FH {w:au}{n:Nat}{op:Bool}{t:au}(h:((¬(ef n op t)[0]! =w\/((ef n op t).length:Int)<1)\/((0:Int)<n/\¬((ef n op t).length:Int)=n))\/[]∈ef n op t)(h1:1<=(ef n op t).length):jr w n op t=none:=by
 grind [jr]
def Cf {w:au}{n:Nat}{op:Bool}{t:au}(h:(((ef n op t)[0]! =w/\¬((ef n op t).length:Int)<1)/\(¬(0:Int)<n\/((ef n op t).length:Int)=n))/\¬[]∈ef n op t):jr w n op t=some (ef n op t):=by
 grind [jr]
def drop_one {α:Type} [Inhabited α]{l:List α}{n:Nat}(h:l.length=n+1):l.drop n=[l[n]!]/\l=l.take n++[l[n]!]:=by
 have h1:l.drop n=[l[n]!]:=by
  rw[jD ae,k8 ae];simp[show n<l.length by omega]
 exact⟨h1,by rw[<-h1,List.take_append_drop]⟩
def anyL (t:au):Option (List au):=match jr jK 5 true t with
 |some l=>if uM l=true then some l else none
 |none=>none
def No (p:au->Option (List au))(ls:List au):Prop:=∀t r,ls=t::r->p t=none
theorem fO {w:au}{n:Nat}{op:Bool}{ls l r:List au}(h:cl w n op ls=some (l,r)):∃t,ls=t::r/\jr w n op t=some l:=by
 match ls,h with
 |[],h=>cases h
 |t::q,h=>
  grind [cl]
def Stop (s:Nat)(ls:List au):Prop:=(s=2->No anyL ls/\No (jr gP 2 true) ls)/\(s=2\/s=3->No (jr eh 2 false) ls)/\(s=5->No (jr gP 2 true) ls)
def sP (m:List (Nat×bO))(l:Nat)(t:List UInt8):Prop:=(∃u,look m l=some (.bld none 0 u)/\t=[])\/(∃l2 u,look m l=some (.bld (some l2) t.length u)/\look m l2=some (.row t))
@[go_sem] def fZ (m:List (Nat×bO))(l:Nat):List (Nat×bO):=match look m l with
 |some (.bld (some l2) _ _)=>cX m l2
 |_=>m
@[go_sem] def qL (m:List (Nat×bO))(l L:Nat)(t:List UInt8):List (Nat×bO):=(L,.row t)::du (fZ m l) l (.bld (some L) t.length true)
def TrW (ak4:D)(s:List UInt8)(ds:List D)(st:St)(K:D->St->Prop):Prop:=∃l t,ds=[.ptr l 2 0 0,ak4]/\sP st.m l t/\l<st.nx/\s≠[]/\t.length+s.length<=1099511627776/\K .any ⟨st.nx+1,qL st.m l st.nx (t++s)⟩
def trWS (ds:List D)(st:St)(K:D->St->Prop):Prop:=∃s,TrW (.str s) s ds st K
def trWB (ds:List D)(st:St)(K:D->St->Prop):Prop:=∃c,TrW (.int .u8 c.toNat) [c] ds st K
def trBS (ds:List D)(st:St)(K:D->St->Prop):Prop:=∃l t,ds=[.ptr l 2 0 0]/\sP st.m l t/\t≠[]/\K (.str t) ⟨st.nx,cX (fZ st.m l) l⟩
def Sg (Y:Ctx):Prop:=∀(ds:List D) (st:St) (K:D->St->Prop),trWS ds st K->Y.tr 489 ds st K
def Vp (Y:Ctx):Prop:=∀(ds:List D) (st:St) (K:D->St->Prop),trWB ds st K->Y.tr 664 ds st K
def Sa (Y:Ctx):Prop:=∀(ds:List D) (st:St) (K:D->St->Prop),trBS ds st K->Y.tr 452 ds st K
def MR (b a:au)(l:List au)(h:a≠[]):aP b (a::l)≠[]:=by
 match l with
 |[]=>exact h
 |c::r=>
  rw[gD b a (c::r) aT];intro e;have:=List.append_eq_nil_iff.1 e;exact h (List.append_eq_nil_iff.1 this.1).1
def C1 (ws:List au)(t:au):Prop:=(aP [32] ws≠[]/\ws.length<=1048600)/\(∀w∈ws,w.length<=2097200)/\t.length+(aP [32] ws).length+1<=1099511627776
def C1.mk {a:au}{l:List au}{t:au}(h1:a≠[])(h2:l.length<=99)(h3:∀w∈a::l,w.length<=2097200)(h4:t.length<=1000000000):C1 (a::l) t:=by
 have h5:=nD 32 2097200 (a::l) h3;have h6:(a::l).length<=100:=by simp only[ay];omega
 have h7:=fk (2097200+1) h6;exact⟨⟨MR _ _ _ h1,ae⟩,h3,ae⟩
def Vb (Y:Ctx):Prop:=∀(ws:List au) (t:au) (l lw nx:Nat) (m:List (Nat×bO)) (K:D->St->Prop),sP m l t->look m lw=some (.buf 1 (ws.map D.str))->l<nx->lw<nx->C1 ws t->
 K (.tup []) ⟨nx+1,qL (cX m lw) l nx (t++bZ ws)⟩->Y.tr 450 [.ptr l 2 0 0,.own lw 1 0 ws.length] ⟨nx,m⟩ K
def vS {m:List (Nat×bO)}{l L:Nat}{t:List UInt8}(h:l≠L):look (qL m l L t) l=some (.bld (some L) t.length true)/\look (qL m l L t) L=some (.row t):=by
 constructor
 ·simp only[qL,look,aj (fun e=>h (Eq.symm e))]
  haveI:dz:={gd:=fun _=>True,le:=fun _ _ _ _ _=>trivial}
  rw[cA,ax rfl]
 ·simp only[qL,look,ax]
def Sx {m:List (Nat×bO)}{l L:Nat}{t:List UInt8}(h:l≠L):sP (qL m l L t) l t:=.inr ⟨L,true,vS h⟩
end Go.Abs
