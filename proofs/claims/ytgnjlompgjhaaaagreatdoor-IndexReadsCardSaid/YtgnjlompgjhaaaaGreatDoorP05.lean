/- A part of the proofs. -/
import Derived.Test.YtgnjlompgjhaaaaGreatDoorP04
set_option linter.all false
set_option maxRecDepth 4000
namespace Go.Abs
section
abbrev RT:=List D->D->Prop
abbrev FT:=D->List D->D->D->Prop
abbrev TT:=List D->St->(D->St->Prop)->Prop
def D9 (T:TT):Prop:=∀ds st K K',(∀d st',K d st'->K' d st')->T ds st K->T ds st K'
def C8 (A:RT->Prop):RT:=fun ds d=>∀T,A T->T ds d
def oR (A:FT->Prop):FT:=fun d ds v s=>∀T,A T->T d ds v s
def Qg (T:TT):Ctx:=⟨fun _ _=>False,fun _ _=>.any,fun _=>T,fun _ _ _=>False,fun _ _ _=>.any,fun _ _ _=>.any,0⟩
def Hq (C:Ctx->Prop):TT:=fun ds st K=>∀T,D9 T->C (Qg T)->T ds st K
def wD (C:Ctx->Prop):D9 (Hq C):=fun _ _ _ _ h h1 T hT hC=>hT _ _ _ _ h (h1 T hT hC)
def noR:RT:=fun _ _=>False
def ZA:FT:=fun _ _ _ _=>False
def noT:TT:=fun _ _ _=>False
def zB:D9 noT:=fun _ _ _ _ _ h=>h.elim
structure qq where
 key:Nat
 rel:RT
 mu:List D->Nat
 relF:FT
 tr:TT
 muE:List D->St->Nat
 mono:D9 tr
def Zz:List D->Nat:=fun _=>0
def OM:List D->St->Nat:=fun _ _=>0
def ng:qq:=⟨0,noR,Zz,ZA,noT,OM,zB⟩
def rP (k:Nat)(A:RT->Prop)(mu:List D->Nat:=Zz):qq:=⟨k,C8 A,mu,ZA,noT,OM,zB⟩
def rF (k:Nat)(A:FT->Prop):qq:=⟨k,noR,Zz,oR A,noT,OM,zB⟩
def rG (k:Nat)(C:Ctx->Prop)(mu:List D->St->Nat:=OM):qq:=⟨k,noR,Zz,ZA,Hq C,mu,wD C⟩
def rFG (k:Nat)(A:FT->Prop)(C:Ctx->Prop):qq:=⟨k,noR,Zz,oR A,Hq C,OM,wD C⟩
noncomputable def pick (r:D->Prop):D:=Classical.epsilon r
def lO {r:D->Prop}(h:∃d,r d):r (pick r):=Classical.epsilon_spec h
def XU (R:RT):Prop:=∀ds d d',R ds d->R ds d'->d=d'
def yE (R:FT):Prop:=∀d ds v s v' s',R d ds v s->R d ds v' s'->v=v'/\s=s'
def UJ {A:RT->Prop}(h:A fun ds d=>A fun ds' d'=>ds'=ds->d=d'):XU (C8 A):=fun ds d d' h1 h2=>h2 _ (h1 _ h) rfl
def Rh {A:FT->Prop}(h:A fun d ds v s=>A fun d' ds' v' s'=>d'=d->ds'=ds->v=v'/\s=s'):yE (oR A):=fun d ds v s v' s' h1 h2=>h2 _ (h1 _ h) rfl rfl
noncomputable def AX (t:List (Nat×qq)):Ctx where
 pre n ds:=∃d,(lk t n ng).rel ds d
 val n ds:=pick ((lk t n ng).rel ds)
 tr n:=(lk t n ng).tr
 fp n d ds:=∃v s,(lk t n ng).relF d ds v s
 fv n d ds:=pick fun v=>∃s,(lk t n ng).relF d ds v s
 fs n d ds:=pick fun s=>∃v,(lk t n ng).relF d ds v s
 lo:=0
def PH (t:List (Nat×qq)):Ur:=⟨fun n=>(lk t n ng).key,fun n=>(lk t n ng).mu,fun n=>(lk t n ng).muE⟩
noncomputable abbrev under (t:List (Nat×qq))(k u:Nat):Ctx:=(AX t).under (PH t) k u
def wR (t:List (Nat×qq))(k u n:Nat):(((AX t).under (PH t) k u).at n).cj:=
 fun f ds st K K' h hh=>⟨hh.1,(lk t f ng).mono ds st K K' h hh.2⟩
section
variable {t:List (Nat×qq)} {n k u:Nat} {ds:List D} {d v s:D} {st:St} {K:D->St->Prop}
def V0 (hD:XU (lk t n ng).rel)(hk:(lk t n ng).key<k\/(lk t n ng).key=k/\(lk t n ng).mu ds<u)(h:(lk t n ng).rel ds d):(under t k u).pre n ds/\(under t k u).val n ds=d:=
 ⟨⟨hk,d,h⟩,hD _ _ _ (lO ⟨d,h⟩) h⟩
def okf (hD:yE (lk t n ng).relF)(hk:(lk t n ng).key<k)(h:(lk t n ng).relF d ds v s):(under t k u).fp n d ds/\(under t k u).fv n d ds=v/\(under t k u).fs n d ds=s:=by
 refine⟨⟨.inl hk,v,s,h⟩, ?_, ?_⟩
 .obtain⟨s',h'⟩:=lO (r:=fun v=>∃s,(lk t n ng).relF d ds v s) ⟨v,s,h⟩;exact(hD _ _ _ _ _ _ h' h).1
 .obtain⟨v',h'⟩:=lO (r:=fun s=>∃v,(lk t n ng).relF d ds v s) ⟨s,v,h⟩;exact(hD _ _ _ _ _ _ h' h).2
def uu (hk:(lk t n ng).key<k\/(lk t n ng).key=k/\(lk t n ng).muE ds st<u)(h:(lk t n ng).tr ds st K):(under t k u).tr n ds st K:=⟨hk,h⟩
end
section
variable [dI] {P:Program} {ν:List (Nat×Nat)} {cU:List Nat} {Y:Ctx} {t:List (Nat×qq)} {fid n key:Nat}
def IB (P:Program)(ν:List (Nat×Nat))(cU:List Nat)(Y:Ctx)(fid:Nat)(ds:List D)(d:D):Prop:=Ok P ν cU Y->∀(x:X) (args:Array Value),args.size=ds.length->(∀i,i<ds.length->RD ν x (args.getD i undef) (ds.getD i .any))->bE ds=true->
  (∀b,x.I b->b<x.w.heap.size)->dI.gd x->jV P x (fun v x'=>nO x x'/\RD ν x' v d) ((callFunc fid args).run P x.w)
def Bk (P:Program)(ν:List (Nat×Nat))(cU:List Nat)(Y:Ctx)(fid:Nat)(d:D)(ds:List D)(vd new:D):Prop:=Ok P ν cU Y->∀(x:X) (f:Nat->Option b7) (args:Array Value) (l k:Nat),args.size=ds.length+1->
   RD ν x (args.getD 0 undef) (.ptr l k 0 0)->(∀i,i<ds.length->RD ν x (args.getD (i+1) undef) (ds.getD i .any))->gw ν x f->f l=some (.buf k [d])->d.bK=true->bE ds=true->
   jV P x (fun v x'=>Step x x'/\RD ν x' v vd/\gw ν x' (fun l'=>if l'=l then some (.buf k [new])else f l')/\x'.β=x.β) ((callFunc fid args).run P x.w)
def oV (P:Program)(ν:List (Nat×Nat))(cU:List Nat)(Y:Ctx)(fid:Nat)(ds:List D)(st:St)(K:D->St->Prop):Prop:=Ok P ν cU Y->∀(x:X) (args:Array Value),args.size=ds.length->(∀i,i<ds.length->RD ν x (args.getD i undef) (ds.getD i .any))->gw ν x (look st.m)->gu st x->
  jV P x (fun v x'=>∃d st',K d st'/\Step x x'/\RD ν x' v d/\gw ν x' (look st'.m)/\gu st' x') ((callFunc fid args).run P x.w)
structure VT (P:Program)(ν:List (Nat×Nat))(cU:List Nat)(t:List (Nat×qq))(fid n:Nat):Prop where
 p:∀ds d,(lk t n ng).rel ds d->IB P ν cU (under t (lk t n ng).key ((lk t n ng).mu ds)) fid ds d
 f:yE (lk t n ng).relF/\∀d ds v s,(lk t n ng).relF d ds v s->Bk P ν cU (under t (lk t n ng).key ((lk t n ng).mu (d::ds))) fid d ds v s
 g:∀ds st K,(lk t n ng).tr ds st K->oV P ν cU (under t (lk t n ng).key ((lk t n ng).muE ds st)) fid ds st K
def okA (hsm:∀fid n,fJ ν fid=some n->n<1000000)(hB:∀t,cU.contains (1000000000+t)=true->t=dI.tB)(h:∀fid n,fJ ν fid=some n->VT P ν cU t fid n):Ok P ν cU (AX t):=by
 refine ZB (PH t) hsm hB (fun fid n hn ds hp hok=>(h fid n hn).p ds _ (lO hp) hok) (fun fid n hn _ d ds hp hok=>?_) (fun fid n hn ds st K htr hok=>(h fid n hn).g ds st K htr hok);obtain⟨v,s,hr⟩:=hp;obtain⟨hD,hf⟩:=(h fid n hn).f;have h2:(AX t).fv n d ds=v/\(AX t).fs n d ds=s:=by
  constructor
  .obtain⟨s',h'⟩:=lO (r:=fun v=>∃s,(lk t n ng).relF d ds v s) ⟨v,s,hr⟩;exact(hD _ _ _ _ _ _ h' hr).1
  .obtain⟨v',h'⟩:=lO (r:=fun s=>∃v,(lk t n ng).relF d ds v s) ⟨s,v,hr⟩;exact(hD _ _ _ _ _ _ h' hr).2
 rw[h2.1,h2.2];exact hf d ds v s hr hok
def Jp {Y:D->List D->Ctx}:yE ZA/\∀d ds v s,ZA d ds v s->Bk P ν cU (Y d ds) fid d ds v s:=⟨fun _ _ _ _ _ _ h=>h.elim,fun _ _ _ _ h=>h.elim⟩
def bC {A:RT->Prop}{mu:List D->Nat}(hr:lk t n ng=rP key A mu)(h:A fun ds d=>IB P ν cU (under t key (mu ds)) fid ds d):VT P ν cU t fid n:=by
 refine⟨?_, ?_, ?_⟩<;>rw[hr]
 .exact fun ds d hd=>hd (fun ds d=>IB P ν cU (under t key (mu ds)) fid ds d) h
 .exact Jp
 .exact fun _ _ _ h=>h.elim
def Vh {A:FT->Prop}(hr:lk t n ng=rF key A)(hD:yE (oR A))(h:A fun d ds v s=>Bk P ν cU (under t key 0) fid d ds v s):VT P ν cU t fid n:=by
 refine⟨?_, ?_, ?_⟩<;>rw[hr]
 .exact fun _ _ h=>h.elim
 .exact⟨hD,fun d ds v s hd=>hd _ h⟩
 .exact fun _ _ _ h=>h.elim
def BG {Y:List D->St->Ctx}:D9 fun ds st K=>oV P ν cU (Y ds st) fid ds st K:=fun ds st K K' h hg hok x args hl ha hs hf=>(hg hok x args hl ha hs hf).mono fun v x' ⟨d,st',h1,h2⟩=>⟨d,st',h _ _ h1,h2⟩
def mW {C:Ctx->Prop}{mu:List D->St->Nat}(hr:lk t n ng=rG key C mu)(h:C (Qg fun ds st K=>oV P ν cU (under t key (mu ds st)) fid ds st K)):VT P ν cU t fid n:=by
 refine⟨?_, ?_, ?_⟩<;>rw[hr]
 .exact fun _ _ h=>h.elim
 .exact Jp
 .exact fun ds st K hd=>hd (fun ds st K=>oV P ν cU (under t key (mu ds st)) fid ds st K) BG h
def ZD {A:FT->Prop}{C:Ctx->Prop}(hr:lk t n ng=rFG key A C)(hD:yE (oR A))(h:A fun d ds v s=>Bk P ν cU (under t key 0) fid d ds v s)(h2:C (Qg fun ds st K=>oV P ν cU (under t key 0) fid ds st K)):VT P ν cU t fid n:=by
 refine⟨?_, ?_, ?_⟩<;>rw[hr]
 .exact fun _ _ h=>h.elim
 .exact⟨hD,fun d ds v s hd=>hd _ h⟩
 .exact fun ds st K hd=>hd _ BG h2
def Li (P:Program)(ν:List (Nat×Nat))(cU:List Nat)(fid:Nat)(af:aE):Prop:=(P.funcs[fid]?).map (fun f=>(compile P ν cU f,f.name== "runtime.NumGoroutine"))=some (some af,false)
def Li.split {af:aE}(h:Li P ν cU fid af):∃fn,P.funcs[fid]? =some fn/\compile P ν cU fn=some af/\(fn.name== "runtime.NumGoroutine")=false:=by
 grind [Li]
def aW {af:aE}{ds:List D}{d:D}(hmix:P.follows .mixedOrders=true)(hC:Li P ν cU fid af)(h1:ds.length=af.np)(h2:bP (Y.at 0) af.body (Uu af d) (fH af ds) ⟨0,[]⟩):IB P ν cU Y fid ds d:=by
 intro hok x args hl hargs hnl himm hgd;obtain⟨fn,hf,hc,hn⟩:=hC.split;obtain⟨body,c1,_⟩:=jv hc;exact .inr ⟨fid,args,je hf hn (by rw[c1];rfl) args x.w,Ro hok hmix hf hc hl hargs hnl himm hgd h1 h2⟩
def EK {af:aE}{d:D}{ds:List D}{vd new:D}(k0:Nat)(hmix:P.follows .mixedOrders=true)(hC:Li P ν cU fid af)(h1:ds.length+1=af.np)(hk:d.cells.length=k0)
  (h2:bP (Y.at 1) af.body (Lo af k0 vd new) (fH af (.ptr 0 k0 0 0::ds)) ⟨1,[(0,.buf k0 [d])]⟩):Bk P ν cU Y fid d ds vd new:=by
 intro hok x f args l k hl h0 hargs hs hfl hd hnl;obtain⟨fn,hf,hc,hn⟩:=hC.split;obtain⟨body,c1,_⟩:=jv hc;have hkk:k=k0:=by
  generalize args.getD 0 undef=v0 at h0;cases h0 with
  |ptr _ _ _ _ b base tot at_ hβ hat=>
   obtain⟨p1,p2,c,T,fr,p3,p4,p5,p6⟩:=(hs.own l _ b base tot hfl hβ).2;have:=(p6 0 aR).1
   grind
 subst hkk;exact .inr ⟨fid,args,je hf hn (by rw[c1];rfl) args x.w,Rm hok hmix hf hc hl h0 hargs hs hfl hd hnl h1 h2⟩
def Rs {k l:Nat}{d:D}{ds:List D}{vd new:D}{st:St}{K:D->St->Prop}(h:Bk P ν cU Y fid d ds vd new)(hl:look st.m l=some (.buf k [d]))(hd:d.bK=true)(hnl:bE ds=true)(hK:K vd ⟨st.nx,dE st.m l (.buf k [new])⟩):
  oV P ν cU Y fid (.ptr l k 0 0::ds) st K:=by
 intro hok x args hl2 hargs hs hf;refine(h hok x (look st.m) args l k (by simpa using hl2) (hargs 0 aR) (fun i hi=>hargs (i+1) (by simpa using hi)) hs hl hd hnl).mono ?_;rintro v x' ⟨h1,h2,h3,h4⟩;have e:(fun l'=>if l'=l then some (.buf k [new])else look st.m l')=look (dE st.m l (.buf k [new])):=by
  funext l';rw[cH]
 refine⟨vd,_,hK,h1,h2,e▸h3,fun l' hl'=>by rw[h4];exact hf.β l' hl',fun l' hl'=>?_⟩;rw[cH]at hl';split at hl'
 .rename_i e;subst e;exact hf.m _ (by rw[hl];simp)
 .exact hf.m _ hl'
def zh {af:aE}{ds:List D}{st:St}{K:D->St->Prop}{σi:List (Nat×Nat)}{q:Nat}{m0:List (Nat×b7)}{cs:List D}{Q:D->List (Nat×b7)->Prop}(hmono:∀q,(Y.at q).cj)(hmix:P.follows .mixedOrders=true)(hC:Li P ν cU fid af)
  (h1:cs.length=ds.length) (h2:∀i,i<ds.length->QE 0 σi (ds.getD i .any) (cs.getD i .any)) (h3:cs.length=af.np)
  (h4:gS 0 q σi=true) (h5:∀l i,(l,i)∈σi->look st.m l≠none) (h6:∀i b,look m0 i=some b->∃l b',(l,i)∈σi/\look st.m l=some b'/\rH 0 σi b' b)
  (h7:bP (Y.at q) af.body (kv af Q) (fH af cs) ⟨q,m0⟩) (h8:∀d m1,Q d m1->∃(σo:List (Nat×Nat)) (q1:Nat) (st':St) (vd':D),Fr σi σo q q1 m0 m1 st st'/\QE 0 σo d vd'/\K vd' st'):oV P ν cU Y fid ds st K:=by
 intro hok x args hl hargs hs hfr;obtain⟨fn,hf,hc,hn⟩:=hC.split;obtain⟨body,c1,_⟩:=jv hc;refine .inr ⟨fid,args,je hf hn (by rw[c1];rfl) args x.w, ?_⟩;refine Calls.mono (Rn (K:=K) hok hmix hf hc hl hargs hs hfr h1 h2 h3 h4 h5 h6 (hH (hmono q) _ _ _ _ _ (fun e env st1 h=>?_) h7)) fun e w' he=>?_
 .obtain⟨g1,g2,m1,g3,g4⟩:=h
  grind
 grind
end
end
end Go.Abs
section
namespace Go.Abs
structure ch where
 name:au
 range:au
 feats:List au
 bare:Bool
 deriving Inhabited,DecidableEq
def ch.D (x:ch):D:=.agg [.str x.name,.str x.range,.sl 1 (x.feats.map D.str),.bool x.bare]
structure bw where
 any:List ch
 when':au
 option:au
 deriving Inhabited,DecidableEq
def bw.D (x:bw):D:=.agg [.sl 4 (x.any.map ch.D),.str x.when',.str x.option]
structure fM where
 name:au
 range:au
 when':au
 deriving Inhabited,DecidableEq
def fM.D (x:fM):D:=.agg [.str x.name,.str x.range,.str x.when']
structure cv where
 name:au
 of:List au
 deriving Inhabited,DecidableEq
def cv.D (x:cv):D:=.agg [.str x.name,.sl 1 (x.of.map D.str)]
structure Rec where
 name:au
 v:cy
 needs:List bw
 bars:List fM
 feats:List cv
 deriving Inhabited,DecidableEq
def Rec.D (x:Rec):D:=.agg [.str x.name,.int .i64 x.v.major,.int .i64 x.v.minor,.int .i64 x.v.patch,.str x.v.pre,.str x.v.build,.sl 3 (x.needs.map bw.D),.sl 3 (x.bars.map fM.D),.sl 2 (x.feats.map cv.D)]
structure dF where
 op:Int
 parts:Int
 v:cy
 deriving Inhabited,DecidableEq
def dF.D (x:dF):D:=.agg [.int .i64 x.op,.int .i64 x.parts,.int .i64 x.v.major,.int .i64 x.v.minor,.int .i64 x.v.patch,.str x.v.pre,.str x.v.build]
structure Nd where
 op:Int
 a:Int
 b:Int
 key:Int
 text:au
 deriving Inhabited,DecidableEq
def Nd.D (x:Nd):D:=.agg [.int .i64 x.op,.int .i64 x.a,.int .i64 x.b,.int .i64 x.key,.str x.text]
def fM.eq (a b:fM):jg (fM.D a).cells (fM.D b).cells=decide (a=b):=by
 obtain⟨a1,a2,a3⟩:=a;obtain⟨b1,b2,b3⟩:=b
 grind [fM.D,D.cells,jg,tZ]
def ch.same {a b:ch}(e1:a.name=b.name)(e2:a.range=b.range)(e3:a.bare=b.bare):decide (a=b)=decide (a.feats=b.feats):=by
 obtain⟨a1,a2,a3,a4⟩:=a;obtain⟨b1,b2,b3,b4⟩:=b
 grind
def rising (l:List au):Bool:=cQ (fun i=>Op.bytesLess l[i-1]! l[i]!) 1 l.length
def dU (s:au):Int×au×au:=
 if c9 s=true then(1,s,[])
 else if s.length>0/\at8 s 0=63/\c9 (s.drop 1)=true then(2,s.drop 1,[])
 else if(ai s 47).length=2/\fm (ai s 47)[0]! =true/\c9 (ai s 47)[1]! =true then(3,(ai s 47)[0]!,(ai s 47)[1]!)
 else(0,[],[])
def findF (l:List cv)(nm:au)(i:Nat):Int:=match(l.drop i).findIdx? (fun x=>decide (x.name=nm))with
 |some k=>((i+k:Nat):Int)
 |none=>-1
def ED {l:List cv}{nm:au}{i:Nat}(h:i<l.length)(he:l[i]!.name=nm):findF l nm i=(i:Nat):=by
 unfold findF;rw[iT h,List.findIdx?_cons]
 grind
def EE {l:List cv}{nm:au}{i:Nat}(h:i<l.length)(he:¬l[i]!.name=nm):findF l nm i=findF l nm (i+1):=by
 unfold findF;have:¬l[i].name=nm:=by simpa[h]using he
 rw[iT h,List.findIdx?_cons]
 grind
def BA {l:List cv}{nm:au}{i:Nat}(h:l.length<=i):findF l nm i=-1:=by
 unfold findF;rw[k9 h];rfl
def Zj:au:=[100,101,102,97,117,108,116]
def isF (l:List cv)(nm:au):Bool:=decide (nm=Zj) ||decide (0<=findF l nm 0)
def lG (l:List cv)(s:au):Bool:=!(decide ((dU s).1=0) ||(decide ((dU s).1=1)&& !isF l (dU s).2.1))
def mP (l:List cv)(of:List au):Bool:=decide (of.length<=6)&&rising of&&cQ (fun i=>lG l of[i]!) 0 of.length
def jZ (l:List cv)(i:Nat):Bool:=c9 l[i]!.name&& !(decide (0<i)&& !Op.bytesLess l[i-1]!.name l[i]!.name)&&mP l l[i]!.of
def jh (l:List cv):Bool:=decide (l.length<=8)&&cQ (jZ l) 0 l.length
def cv.sm (x:cv):Prop:=x.name.length<=1048576/\x.of.length<=1048576/\∀t∈x.of,t.length<=1048576
def xx (l:List cv):Prop:=∀x∈l,x.sm
def rS (b:au):∀(l:List au) (i:Nat),(aV b (l.take i)).length<=(aV b l).length
 |[],i=>aR
 |[t],0=>by simp[aV]
 |[t],i+1=>aR
 |t::u::r,0=>by simp[aV]
 |t::u::r,1=>by simp[aV]
 |t::u::r,i+2=>by
  have:=rS b (u::r) (i+1)
  grind [aV]
theorem ta (b t:au):∀(l:List au),l≠[]->aV b (l++[t])=aV b l++b++t
 |[],h=>absurd rfl h
 |[u],_=>by simp[aV]
 |u::v::r,_=>by
  have:=ta b t (v::r) aR
  grind [aV]
def pW (b:au)(l:List au)(i:Nat)(h:i<l.length):aV b (l.take (i+1))=(if 0<i then aV b (l.take i)++b else [])++l[i]! :=by
 have e:l.take (i+1)=l.take i++[l[i]!]:=by
  rw[List.take_add_one,List.getElem?_eq_getElem h];simp[h]
 rw[e];by_cases h0:0<i
 .rw[aw h0,ta _ _ _ (by intro hn;have:=aj List.length hn;simp only[fX,aB]at this;omega)]
 grind [aV]
end Go.Abs
namespace Go.Abs
def I3 {s:au}(h0:c9 s=true):dU s=(1,s,[]):=by simp only[dU,aw h0]
def I4 {s:au}(h0:c9 s=false)(h:(0<(s.length:Int)/\at8 s 0=63)/\c9 (s.drop 1)=true):dU s=(2,s.drop 1,[]):=by
 grind [dU]
theorem EX {s:au}(h:(¬0<(s.length:Int)\/¬at8 s 0=63)\/c9 (s.drop 1)=false):¬(s.length>0/\at8 s 0=63/\c9 (s.drop 1)=true):=by
 grind
def I5 {s:au}(h0:c9 s=false)(h:(¬0<(s.length:Int)\/¬at8 s 0=63)\/c9 (s.drop 1)=false)(h2:(((ai s 47).length:Int)=2/\fm (ai s 47)[0]! =true)/\c9 (ai s 47)[1]! =true):dU s=((3:Int),(ai s 47)[0]!,(ai s 47)[1]!):=by
 grind [dU,EX]
def I2 {s:au}(h0:c9 s=false)(h:(¬0<(s.length:Int)\/¬at8 s 0=63)\/c9 (s.drop 1)=false)(h2:(¬((ai s 47).length:Int)=2\/fm (ai s 47)[0]! =false)\/c9 (ai s 47)[1]! =false):dU s=(0,[],[]):=by
 grind [dU,EX]
end Go.Abs
end
namespace Go.Abs
theorem tM (s:au)(i:Nat)(h:i<s.length):at8 s i=((s[i]'h).toNat:Int):=by simp[at8,h]
def Ej (p:Int->Bool)(s:au):cQ (fun i=>p (at8 s i)) 0 s.length=true↔∀c∈s,p c.toNat=true:=by
 rw[fG];constructor
 .intro h c hc;obtain⟨i,hi,rfl⟩:=List.getElem_of_mem hc
  grind [tM]
 grind [tM]
theorem rz {b:Int}:∀{s cur:au},(∀c∈s,(c.toNat:Int)≠b)->cC b s cur=[cur++s]
 |[],cur,_=>by simp[cC]
 |c::r,cur,h=>by
  simp only[cC];rw[ak (h c (.head _)),rz (fun d hd=>h d (.tail _ hd))];simp
def As {b:Int}{x:UInt8}(hx:(x.toNat:Int)=b)(r:au):∀{w cur:au},(∀c∈w,(c.toNat:Int)≠b)->cC b (w++x::r) cur=(cur++w)::cC b r []
 |[],cur,_=>by simp[cC,hx]
 |c::w,cur,h=>by
  simp only[fY,cC];rw[ak (h c (.head _)),As hx r (fun d hd=>h d (.tail _ hd))];simp
def rv {b:Int}{x:UInt8}(hx:(x.toNat:Int)=b):∀{ws:List au},ws≠[]->(∀w∈ws,∀c∈w,(c.toNat:Int)≠b)->ai (aV [x] ws) b=ws
 |[],h,_=>absurd rfl h
 |[w],_,h=>by
  show cC b w []=[w];rw[rz (h w (.head _))];rfl
 |w::u::r,_,h=>by
  have ih:=rv (ws:=u::r) hx aR (fun v hv=>h v (.tail _ hv));show cC b (w++[x]++aV [x] (u::r)) []=_;rw[eU,List.singleton_append,As hx _ (h w (.head _))];rw[show cC b (aV [x] (u::r)) []=u::r from ih];rfl
def qV {b:Int}{x:UInt8}(hx:(x.toNat:Int)=b):∀(s cur:au),aV [x] (cC b s cur)=cur++s
 |[],cur=>by simp[cC,aV]
 |c::r,cur=>by
  simp only[cC];split
  .rename_i h;rw[gM _ _ _ (by intro h;have:=eE b r [];rw[h]at this;simp at this),qV hx r []];have:c=x:=jq.1 ae;simp[this]
  .rw[qV hx r];simp
theorem ko {b:Int}{x:UInt8}(hx:(x.toNat:Int)=b)(s:au):aV [x] (ai s b)=s:=by
 unfold ai;rw[qV hx];rfl
theorem Eu {n:Nat}(h:n<10):bp (dg n).toNat=true:=by
 grind [N2,bp]
def Et {Q:Nat->Prop}(h1:∀n,n<10->Q n)(h2:∀n,9<n->Q (n/10)->Q n)(n:Nat):Q n:=by
 induction n using Nat.strongRecOn with
 |ind n ih=>
  grind
theorem qI (n:Nat):∀c∈eM n,bp c.toNat=true:=by
 refine Et (Q:=fun n=>∀c∈eM n,bp c.toNat=true) (fun n h c hc=>?_) (fun n h ih c hc=>?_) n
 .grind [pR,Eu]
 grind [pQ,Eu]
def Hz (s:au)(c:UInt8):dX (s++[c])=dX s*10+(c.toNat-48):=by
 simp[dX,List.foldl_append]
def Rf (n:Nat):eM n≠[]:=by
 refine Et (Q:=fun n=>eM n≠[]) (fun n h=>?_) (fun n h ih=>?_) n
 .rw[pR h];simp
 .rw[pQ h];simp
theorem rT (x:UInt8):∀(ws:List au) (c:UInt8),c∈aV [x] ws->c=x\/∃w∈ws,c∈w
 |[],c,h=>by simp[aV]at h
 |[w],c,h=>.inr ⟨w,.head _,h⟩
 |w::u::r,c,h=>by
  rw[gM _ _ _ aR]at h;simp only[List.mem_append,dw]at h;rcases h with(h|h)|h
  .exact .inr ⟨w,.head _,h⟩
  .exact .inl h
  .rcases rT x (u::r) c h with h|⟨v,hv,hc⟩
   .exact .inl h
   .exact .inr ⟨v,.tail _ hv,hc⟩
def Qa {s:au}{p:Bool}(h:sE s p=true){c:UInt8}(hc:c∈s):nL c.toNat=true\/c=46:=by
 simp only[sE,cS,aT,oG,bG,fG]at h;rcases h with rfl|⟨_,h⟩
 .cases hc
 .rw[<-ko (b:=46) (x:=46) rfl s]at hc;rcases rT 46 _ c hc with rfl|⟨w,hw,hcw⟩
  .exact .inr rfl
  .left;obtain⟨i,hi,rfl⟩:=List.getElem_of_mem hw;have:=h i ae hi;rw[show(ai s 46)[i]! =(ai s 46)[i]by simp[hi]]at this;simp only[iI,rA,bG]at this;exact(Ej nL _).1 this.1.2 c hcw
def N4 {c:UInt8}(h:bp c.toNat=true):c.toNat≠46/\c.toNat≠45/\c.toNat≠43/\c.toNat≠32/\c.toNat≠10:=by
 grind [bp]
def coreS (v:cy):au:=eM v.major.toNat++[46]++eM v.minor.toNat++[46]++eM v.patch.toNat
theorem M1 (v:cy):xj v=coreS v++(if v.pre=[]then []else 45::v.pre)++(if v.build=[]then []else 43::v.build):=rfl
def hv (c:UInt8):Nat:=if bp c.toNat=true then c.toNat-48 else c.toNat-87
def wZ (s:au):Nat:=s.foldl (fun n c=>n*16+hv c) 0
def Gt (a b:Int):0<=AI a b/\AI a b<18446744073709551616:=by
 unfold AI;rw[IntKind.wrap_u64];omega
def Ir (s:au):0<=F7 s/\F7 s<18446744073709551616:=Gt _ _
theorem Su {s:au}(h:c9 s=true){c:UInt8}(hc:c∈s):AE c.toNat=true:=by
 simp only[c9,bG]at h;exact(Ej AE s).1 h.2 c hc
def Jl {s:au}(h:fm s=true):s≠[]/\iR (at8 s 0)=true/\∀c∈s,c.toNat≠32/\c.toNat≠10:=by
 simp only[fm,bG,aT,fG]at h;obtain⟨⟨⟨⟨h1,h2⟩,h3⟩,h4⟩,h5⟩:=h;refine⟨by rintro rfl;simp at h1,h3,fun c hc=>?_⟩;obtain⟨i,hi,rfl⟩:=List.getElem_of_mem hc;rcases Nat.eq_zero_or_pos i with rfl|hp
 .grind [tM,iR]
 grind [U3,tM,iR,bp]
def uR.wf (x:uR):Prop:=0<=x.sum/\x.sum<18446744073709551616
def D2.wf (l:D2):Prop:=∀x∈l.lines,x.wf
end Go.Abs
section
namespace Go.Abs
theorem wQ {b:Int}{x:UInt8}(hx:(x.toNat:Int)=b):∀(s cur:au),cC b s cur=match s.findIdx? (fun c=>c==x)with
  |some k=>(cur++s.take k)::cC b (s.drop (k+1)) []
  |none=>[cur++s]
 |[],cur=>by simp[cC]
 |c::r,cur=>by
  simp only[cC,List.findIdx?_cons];by_cases h:c=x
  .subst h;rw[aw hx];simp
  .have h1:¬(c.toNat:Int)=b:=fun e=>h (jq.1 ae)
   have h2:(c==x)=false:=by simpa using h
   rw[ak h1,h2,wQ hx r (cur++[c])]
   grind
def Cn (s:au)(x:UInt8):ai s x.toNat=if(ir s x).2.2=true then(ir s x).1::ai (ir s x).2.1 x.toNat else [s]:=by
 grind [ai,ir,wQ]
def Cf {s:au}:(((ir s 47).2.2=true/\fm (ir s 47).1=true)/\c9 (ir s 47).2.1=true)↔(((ai s 47).length:Int)=2/\fm (ai s 47)[0]! =true)/\c9 (ai s 47)[1]! =true:=by
 have h:=Cn s 47;rw[show(((47:UInt8).toNat:Nat):Int)=47 from rfl]at h;by_cases hc:(ir s 47).2.2=true
 .rw[aw hc]at h;rw[h];have hj:=ko (b:=47) (x:=47) rfl (ir s 47).2.1;constructor
  .grind [ai,ir,cC,rz,Su,AE,iR,bp]
  .rintro⟨⟨h1,h2⟩,h3⟩;refine⟨⟨hc,h2⟩, ?_⟩;generalize ai (ir s 47).2.1 47=q at hj h1 h3
   match q,h1 with
   |[y],_=>
    have:y=(ir s 47).2.1:=hj;rw[<-this];exact h3
   |[],h1=>simp at h1
   |_::_::_,h1=>simp at h1;omega
 .rw[ak hc]at h;rw[h];constructor
  .rintro⟨⟨h1,_⟩,_⟩;exact absurd h1 hc
  .rintro⟨⟨h1,_⟩,_⟩;simp at h1
def E5 {s:au}:(cO s [63]).2=true↔0<(s.length:Int)/\at8 s 0=63:=by
 match s with
 |[]=>simp[cO,List.isPrefixOf]
 |c::r=>
  have e:((c.toNat:Int)=63)↔c=63:=⟨fun h=>jq.1 (by have:(63:UInt8).toNat=63:=rfl;omega),fun h=>by subst h;rfl⟩
  grind [cO,at8]
theorem BN {s:au}(h:(cO s [63]).2=true):(cO s [63]).1=s.drop 1:=by
 grind [cO]
def RH {s:au}(h0:c9 s=false)(h:(cO s [63]).2=true/\c9 (cO s [63]).1=true):dU s=(2,(cO s [63]).1,[]):=by
 rw[BN h.1]at h⊢;exact I4 h0 ⟨E5.1 h.1,h.2⟩
def I6 {s:au}(h:(cO s [63]).2=false\/c9 (cO s [63]).1=false):(¬0<(s.length:Int)\/¬at8 s 0=63)\/c9 (s.drop 1)=false:=by
 by_cases hp:(cO s [63]).2=true
 .grind [BN]
 .have:=fun h2=>hp (E5.2 h2)
  grind
def RI {s:au}(h0:c9 s=false)(h:(cO s [63]).2=false\/c9 (cO s [63]).1=false)(h2:((ir s 47).2.2=true/\fm (ir s 47).1=true)/\c9 (ir s 47).2.1=true):dU s=((3:Int),(ir s 47).1,(ir s 47).2.1):=by
 have h3:=Cf.1 h2;rw[I5 h0 (I6 h) h3];have hs:=Cn s 47;rw[show(((47:UInt8).toNat:Nat):Int)=47 from rfl,aw h2.1.1]at hs;have hj:=ko (b:=47) (x:=47) rfl (ir s 47).2.1;have hl:=h3.1.1;rw[hs]at hl⊢;generalize ai (ir s 47).2.1 47=q at hj hl
 match q,hl with
 |[y],_=>
  have:y=(ir s 47).2.1:=hj;rw[<-this];rfl
 |[],h1=>simp at h1
 |_::_::_,h1=>simp at h1;omega
def RG {s:au}(h0:c9 s=false)(h:(cO s [63]).2=false\/c9 (cO s [63]).1=false)(h2:((ir s 47).2.2=false\/fm (ir s 47).1=false)\/c9 (ir s 47).2.1=false):dU s=(0,[],[]):=by
 refine I2 h0 (I6 h) ?_;have hn:¬((((ai s 47).length:Int)=2/\fm (ai s 47)[0]! =true)/\c9 (ai s 47)[1]! =true):=fun h3=>by
  obtain⟨⟨g1,g2⟩,g3⟩:=Cf.2 h3
  grind
 grind
end Go.Abs
namespace Go.Abs
def LK {l:List cv}{i:Nat}(h:(!c9 l[i]!.name ||(decide ((0:Int)<(i:Int))&& !Op.bytesLess l[i-1]!.name l[i]!.name) ||decide ((6:Int)<(l[i]!.of.length:Int)) ||!rising l[i]!.of)=false):
  jZ l i=cQ (fun j=>lG l l[i]!.of[j]!) 0 l[i]!.of.length:=by
 grind [jZ,mP]
def LJ {l:List cv}{i:Nat}(h:(!c9 l[i]!.name ||(decide ((0:Int)<(i:Int))&& !Op.bytesLess l[i-1]!.name l[i]!.name) ||decide ((6:Int)<(l[i]!.of.length:Int)) ||!rising l[i]!.of)=true):
  jZ l i=false:=by
 grind [jZ,mP,c9,rising]
end Go.Abs
end
section
namespace Go.Abs
def dG (op:Int):au:=if op=1 then [61]else if op=2 then [33,61]else if op=3 then [60]else if op=4 then [60,61]else if op=5 then [62]else if op=6 then [62,61]else if op=7 then [94]else if op=8 then [126]else []
def vV (op:Int):(dG op).length<=2:=by
 grind [dG]
def sL (s w:au):Bool:=decide (w.length<=s.length)&&decide (s.take w.length=w)
def qu (c:dF):Bool:=(decide (0<c.parts) ||decide (c.v.major=0))&&(decide (1<c.parts) ||decide (c.v.minor=0))&&(decide (2<c.parts) ||decide (c.v.patch=0))
def nn (c:dF):Bool:=decide (1<=c.op)&&decide (c.op<=9)&&fT c.v&&decide (c.v.build=[])&&decide ((if c.op=9 then 0 else 1)<=c.parts)&&decide (c.parts<=if c.op=9 then 2 else 3)&&(decide (3<=c.parts) ||decide (c.v.pre=[]))&&qu c
def dF.sm (c:dF):Prop:=c.v.sm
def Eo {c:dF}(h:(decide (c.op<1) ||decide (9<c.op) ||!fT c.v ||!decide (c.v.build=[]))=true):nn c=false:=by
 unfold nn
 grind
def Bu {c:dF}(h:(decide (c.op<1) ||decide (9<c.op) ||!fT c.v ||!decide (c.v.build=[]))=false):1<=c.op/\c.op<=9/\fT c.v=true/\c.v.build=[]:=by
 grind
end Go.Abs
namespace Go.Abs
def rL {c:dF}(hy:1<=c.op/\c.op<=9/\fT c.v=true/\c.v.build=[]){lo hi:Int}(hlo:(if c.op=9 then 0 else 1)=lo)(hhi:(if c.op=9 then 2 else 3)=hi):
  nn c=(!(decide (c.parts<lo) ||decide (hi<c.parts) ||(decide (c.parts<3)&& !decide (c.v.pre=[])))&&qu c):=by
 grind [nn]
end Go.Abs
namespace Go.Abs
def dF.mV (c:dF):List Int:=[c.v.major,c.v.minor,c.v.patch]
def gI (c:dF):Nat->au
 |0=>[]
 |i+1=>gI c i++(if 0<i then [46]else [])++eM (c.mV[i]!).toNat
def lx (c:dF):au:=if c.op=9 then(if 0<c.parts then [46]else [])++[42]else if c.v.pre=[]then []else 45::c.v.pre
def mj (c:dF):au:=dG c.op++gI c c.parts.toNat++lx c
def eg (c:dF):au:=if nn c=true then mj c else []
def q9 {c:dF}(h:fT c.v=true)(i:Nat):0<=c.mV[i]! /\c.mV[i]! <=9999:=by
 simp only[fT,qw,bG,aT]at h
 match i with
 |0=>exact h.1.1.1.1
 |1=>exact h.1.1.1.2
 |2=>exact h.1.1.2
 |k+3=>exact(by simp[dF.mV]:0<=c.mV[k+3]! /\c.mV[k+3]! <=9999)
def rZ {c:dF}(h:fT c.v=true):∀i,(gI c i).length<=5*i
 |0=>by simp[gI]
 |i+1=>by
  have:=rZ h i;have hn:=q9 h i;have:=eP 4 (c.mV[i]!).toNat ae ae
  grind [gI]
def pc {c:dF}(h:nn c=true):fT c.v=true/\0<=c.parts/\c.parts<=3/\1<=c.op/\c.op<=9:=by
 grind [nn]
end Go.Abs
namespace Go.Abs
def mE (c:dF):List au:=(c.mV.map fun n=>eM n.toNat).take c.parts.toNat
def BY (c:dF):∀i,i<=3->aV [46] ((c.mV.map fun n=>eM n.toNat).take i)=gI c i
 |0,_=>by simp[aV,gI]
 |i+1,h=>by
  have hl:i<(c.mV.map fun n=>eM n.toNat).length:=by simp[dF.mV];omega
  have hl2:i<c.mV.length:=by show i<3;omega
  rw[pW _ _ _ hl,BY c i ae];simp only[gI];have e:(c.mV.map fun n=>eM n.toNat)[i]! =eM (c.mV[i]!).toNat:=by simp[hl2]
  rw[e];split
  .simp
  grind [gI]
theorem Gb {c:dF}(h:c.parts<=3):(mE c).length=c.parts.toNat:=by
 simp[mE,dF.mV];omega
theorem Cv {c:dF}(h:c.parts<=3):aV [46] (mE c)=gI c c.parts.toNat:=BY c _ ae
def wc {c:dF}(h0:0<=c.parts)(h:c.parts<=3):aV [46] (mE c++[[42]])=gI c c.parts.toNat++((if 0<c.parts then [46]else [])++[42]):=by
 by_cases hp:0<c.parts
 .grind [ta,Gb,Cv]
 .have:c.parts.toNat=0:=ae;rw[ak hp,this];have e:mE c=[]:=by simp[mE,this]
  rw[e];rfl
end Go.Abs
namespace Go.Abs
def opsL:List Int:=[2,4,6,1,3,5,7,8]
def p7 (s:au)(i:Nat):Option Int:=(opsL.drop i).find? fun o=>sL s (dG o)
def gX (s:au):Int×au:=match p7 s 0 with
 |some o=>(o,s.drop (dG o).length)
 |none=>if 0<s.length/\at8 s (s.length-1)=42 then(9,s)else(7,s)
def Jr {s:au}{i:Nat}(h:i<8)(hb:sL s (dG opsL[i]!)=true):p7 s i=some opsL[i]! :=by
 have hl:i<opsL.length:=h;unfold p7;rw[iT hl,List.find?_cons]
 grind
def Js {s:au}{i:Nat}(h:i<8)(hb:sL s (dG opsL[i]!)=false):p7 s i=p7 s (i+1):=by
 have hl:i<opsL.length:=h;unfold p7;rw[iT hl,List.find?_cons]
 grind
def zG {s:au}{i:Nat}(h:8<=i):p7 s i=none:=by
 unfold p7;rw[k9 h];rfl
def iC (s:au)(i:Nat):au×au:=match(s.drop i).findIdx? (fun c=>c==45)with
 |some k=>(s.take (i+k),s.drop (i+k+1))
 |none=>(s,[])
def Jw {s:au}{i:Nat}(h:i<s.length)(he:at8 s i=45):iC s i=(s.take i,s.drop (i+1)):=by
 unfold iC;rw[mb s i h,List.findIdx?_cons];have:s.getD i 0=45:=jq.1 (by simp only[at8]at he;show(s.getD i 0).toNat=45;omega);rw[this];rfl
def Jx {s:au}{i:Nat}(h:i<s.length)(he:¬at8 s i=45):iC s i=iC s (i+1):=by
 unfold iC;rw[mb s i h,List.findIdx?_cons];have:(s.getD i 0==45)=false:=by
  rw[beq_eq_false_iff_ne];intro e;exact he (by simp only[at8,e];rfl)
 grind
def Fk {s:au}{i:Nat}(h:s.length<=i):iC s i=(s,[]):=by
 unfold iC;rw[k9 h];rfl
end Go.Abs
namespace Go.Abs
def fF (l:List au):Bool:=decide (l.length<=3)&&cQ (fun i=>fS l[i]!) 0 l.length
def OV (l:List au):cy:=⟨if 0<l.length then ei l[0]! else 0,if 1<l.length then ei l[1]! else 0,if 2<l.length then ei l[2]! else 0,[],[]⟩
def zD (l:List au):cy:=if fF l=true then OV l else gr
end Go.Abs
namespace Go.Abs
def eJ:dF:=⟨0,0,gr⟩
def B5 (op:Int)(l:List au):List au:=if op=9 then l.take (l.length-1)else l
def gF (op:Int)(l:List au)(pre:au):dF:=⟨op,(l.length:Nat),{OV l with pre:=pre}⟩
def wH (s:au)(op:Int)(l:List au)(pre:au):Bool:=fF l&& !(decide (eg (gF op l pre)=[]) ||(!decide (eg (gF op l pre)=s)&& !decide (eg (gF op l pre)=94::s)))
def eI (s:au):Option dF:=
 let o:=gX s
 let p:=iC o.2 0
 let l:=B5 o.1 (ai p.1 46)
 if wH s o.1 l p.2=true then some (gF o.1 l p.2)else none
def Ap (s:au):(gX s).2.length<=s.length:=by
 grind [gX]
def zP (s:au):(iC s 0).1.length<=s.length/\(iC s 0).2.length<=s.length:=by
 unfold iC;split<;>simp<;>omega
end Go.Abs
namespace Go.Abs
def dN (s:au):Int×au:=match p7 s 0 with
 |some o=>(o,s.drop (dG o).length)
 |none=>(9,s)
def fo (s:au):au×au:=iC (dN s).2 0
def eL (s:au):List au:=B5 (dN s).1 (ai (fo s).1 46)
def oo (s:au):Prop:=(dN s).1=9->(ai (fo s).1 46)[(ai (fo s).1 46).length-1]! =[42]
instance (s:au):Decidable (oo s):=by unfold oo;exact inferInstance
def fe (s:au):dF:=gF (dN s).1 (eL s) (fo s).2
def ij (s:au):Option dF:=if oo s/\fF (eL s)=true/\nn (fe s)=true/\eg (fe s)=s then some (fe s)else none
def Jq (l:List au)(i:Nat):cy:=⟨if 0<i then ei l[0]! else 0,if 1<i then ei l[1]! else 0,if 2<i then ei l[2]! else 0,[],[]⟩
def Mo (s:au):(dN s).2.length<=s.length:=by
 unfold dN;split<;>simp
def kO {s:au}(h:¬(oo s/\fF (eL s)=true/\nn (fe s)=true/\eg (fe s)=s)):ij s=none:=by
 unfold ij;rw[ak h]
end Go.Abs
namespace Go.Abs
def m6 (s:au):Option dF:=if(ij s).isSome=true then ij s else ij (94::s)
def Ga (c:dF):b7:=.buf 1 [.str (eM c.v.major.toNat),.str (eM c.v.minor.toNat),.str (eM c.v.patch.toNat)]
def Av (c:dF):[D.str (eM c.v.major.toNat),D.str (eM c.v.minor.toNat),D.str (eM c.v.patch.toNat)].take c.parts.toNat=(mE c).map D.str:=by
 unfold mE dF.mV;rw[List.map_take];rfl
def Sq {c:dF}{m:List (Nat×b7)}{l:Nat}(hl:look m l=some (Ga c)):xV m [.sl 1 [.a]] (.own l 1 0 c.parts.toNat)=.sl 1 ((mE c).map D.str):=by
 show D.sl 1 _=_;simp only[bz,hl,Ga,cg,Av,List.map_map];congr 1
def Qf {c:dF}{m:List (Nat×b7)}{l:Nat}(h:c.parts<=3)(hl:look m l=some (Ga c)):Qw m [.sl 1 [.a]] (.own l 1 0 c.parts.toNat):=by
 simp only[Qw,Tp,To];refine⟨by simp[fN,hl,Ga];omega, ?_⟩;simp only[bz,hl,Ga,cg,Av];intro e he;obtain⟨x,_,rfl⟩:=gD.1 he;trivial
end Go.Abs
end
namespace Go.Abs
def rM {c:dF}(h:eg c≠[]):nn c=true/\eg c=mj c:=by
 grind [eg]
def De {s:au}{op:Int}{l:List au}{pre:au}:wH s op l pre=true↔fF l=true/\eg (gF op l pre)≠[]/\(eg (gF op l pre)=s\/eg (gF op l pre)=94::s):=by
 grind [wH]
def zM (c:UInt8):Prop:=c≠33/\c≠60/\c≠61/\c≠62/\c≠94/\c≠126
theorem qK {c:UInt8}(h:bp c.toNat=true):zM c/\c≠42:=by
 simp only[bp,bG,aT]at h;refine⟨⟨?_, ?_, ?_, ?_, ?_, ?_⟩, ?_⟩<;>rintro rfl<;>revert h<;>decide
def Fb {k:dF}:∀(i:Nat) (c:UInt8),c∈gI k i->bp c.toNat=true\/c=46
 |0,c,h=>by simp[gI]at h
 |i+1,c,h=>by
  simp only[gI,List.mem_append]at h;rcases h with(h|h)|h
  .exact Fb i c h
  .grind
  .exact .inl (qI _ c h)
def zE (k:dF):∀i,0<i->∃c r,gI k i=c::r/\bp c.toNat=true
 |0,h=>ae
 |1,_=>by
  have hd:=qI (k.mV[0]!).toNat;have hn:=Rf (k.mV[0]!).toNat;simp only[gI,Nat.lt_irrefl,a8,fk];generalize eM (k.mV[0]!).toNat=w at hd hn
  match w,hn with
  |c::r,_=>exact⟨c,r,rfl,hd c (.head _)⟩
 |i+2,_=>by
  obtain⟨c,r,h1,h2⟩:=zE k (i+1) ae
  grind [eM,gI]
def LA {c:dF}(h:nn c=true)(h9:c.op≠9):0<c.parts.toNat:=by
 grind [nn]
def Mf {s:au}{o:Int}(h:p7 s 0=some o):1<=o/\o<=8/\∃x t,s=x::t/\¬zM x/\(x=94->o=7):=by
 have hm:=List.mem_of_find?_eq_some h;have hb:=List.find?_some h;simp only[sL,bG,aT]at hb;obtain⟨h1,h2⟩:=hb;have hne:s≠[]\/dG o=[]:=by
  grind
 simp only[opsL,cg,dp,gO,or_false]at hm;have key:∀w:au,w≠[]->s.take w.length=w->∃x t t',s=x::t/\w=x::t':=by
  intro w hw hs
  match w,hw with
  |x::t',_=>
   match s with
   |[]=>simp at hs
   |y::t=>
    grind
 rcases hm with rfl|rfl|rfl|rfl|rfl|rfl|rfl|rfl
 all_goals
  refine⟨ae,ae, ?_⟩;obtain⟨x,t,t',e1,e2⟩:=key _ aM h2;have hxx:=aj (fun w:au=>w.headD 0) e2;simp only[List.headD_cons]at hxx;refine⟨x,t,e1, ?_, ?_⟩
  .rw[<-hxx];unfold zM;decide
  .rw[<-hxx];decide
theorem zF (t:au):p7 (94::t) 0=some 7:=by
 unfold p7 opsL;have hn:∀w:au,w≠[]->w.headD 0≠94->sL (94::t) w=false:=by
  intro w hw hx
  match w,hw with
  |x::r,_=>
   grind [sL]
 have hy:sL (94::t) (dG 7)=true:=by
  grind [sL,dG]
 simp only[cg,List.find?_cons,hn _ (show dG 2≠[]by decide) aM,hn _ (show dG 4≠[]by decide) aM,hn _ (show dG 6≠[]by decide) aM,hn _ (show dG 1≠[]by decide) aM,
  hn _ (show dG 3≠[]by decide) aM,hn _ (show dG 5≠[]by decide) aM,hy]
def Fp (t:au):dN (94::t)=(7,t):=by
 grind [dN,zF,dG]
def Aq (b:Int):∀(s cur:au),∃r l,cC b s cur=(cur++r)::l
 |[],cur=>⟨[],[],by simp[cC]⟩
 |c::s,cur=>by
  simp only[cC];split
  .exact⟨[],_,by rw[iz]⟩
  .obtain⟨r,l,h⟩:=Aq b s (cur++[c]);exact⟨c::r,l,by rw[h];simp⟩
def MQ {x:UInt8}{t:au}(h:¬zM x):fF (ai (iC (x::t) 0).1 46)=false:=by
 have hx:x≠45/\x≠46/\bp x.toNat=false:=by
  grind [zM,bp,qK]
 have hp:∃r,(iC (x::t) 0).1=x::r:=by
  unfold iC;rw[cg,List.findIdx?_cons];rw[ak (by simpa using hx.1)];cases t.findIdx? (fun c=>c==45)with
  |none=>exact⟨t,rfl⟩
  |some k=>exact⟨t.take k,aR⟩
 obtain⟨r,hr⟩:=hp;rw[hr];have h46:¬((x.toNat:Int)=46):=fun e=>hx.2.1 (jq.1 (by show x.toNat=46;omega))
 obtain⟨q,l,hs⟩:=Aq 46 r [x]
 grind [ai,cC,fF,aS,fS,Hy,bp,at8]
def Te {s:au}(h:gX s=dN s):eI s=if wH s (dN s).1 (eL s) (fo s).2=true then some (fe s)else none:=by
 unfold eI;simp only[h];rfl
def zZ {s:au}:ij s=if oo s/\fF (eL s)=true/\nn (fe s)=true/\eg (fe s)=s then some (fe s)else none:=rfl
def Mm {s:au}(h:∀c∈s,c≠45):iC s 0=(s,[]):=by
 grind [iC]
def Cq {k:dF}(hb:nn k=true)(h9:k.op=9):mj k=aV [46] (mE k++[[42]]):=by
 obtain⟨_,h0,h3,_,_⟩:=pc hb;rw[wc h0 h3];unfold mj lx;rw[aw h9,h9];rfl
theorem rC {k:dF}{w:au}(h:w∈mE k++[[42]]){c:UInt8}(hc:c∈w):bp c.toNat=true\/c=42:=by
 rcases List.mem_append.1 h with h|h
 .have:=lf h
  grind [qI]
 grind
def Co {k:dF}{s:au}(hb:nn k=true)(h9:k.op=9)(hs:mj k=s):(0<s.length/\at8 s (s.length-1)=42)/\iC s 0=(s,[])/\ai s 46=mE k++[[42]]:=by
 have ht:=Cq hb h9;obtain⟨_,h0,h3,_,_⟩:=pc hb;rw[hs]at ht;have hch:∀c∈s,bp c.toNat=true\/c=42\/c=46:=by
  grind [rT,rC]
 refine⟨?_,Mm (fun c hc=>?_), ?_⟩
 .have he:∃q,s=q++[42]:=by
   rw[ht,wc h0 h3];exact⟨gI k k.parts.toNat++(if 0<k.parts then [46]else []),by rw[eU]⟩
  obtain⟨q,rfl⟩:=he;simp[at8]
 .rintro rfl;rcases hch 45 hc with h|h|h
  .revert h;decide
  .revert h;decide
  .revert h;decide
 .rw[ht];refine rv (b:=46) (x:=46) rfl aR fun w hw c hc=>?_
  rcases rC hw hc with h|h
  .have:=(N4 h).1;omega
  .rw[h];decide
def yT {k:dF}{s:au}(hb:nn k=true)(h7:k.op=7)(hs:mj k=94::s):(∀c∈s,c≠42)/\∃c r,s=c::r/\bp c.toNat=true:=by
 have hp:=LA hb ae;have e:s=gI k k.parts.toNat++lx k:=by
  unfold mj at hs;rw[h7,show dG 7=[94]by decide]at hs;simpa using hs.symm
 obtain⟨c,r,h1,h2⟩:=zE k _ hp;refine⟨fun c hc=>?_,c,r++lx k,by rw[e,h1];rfl,h2⟩;rw[e]at hc;rcases List.mem_append.1 hc with hc|hc
 .rcases Fb _ c hc with h|h
  .exact(qK h).2
  .rw[h];decide
 .unfold lx at hc;rw[ak ae]at hc;split at hc
  .cases hc
  .rcases dp.1 hc with rfl|hc
   .decide
   .have hv:=(pc hb).1;simp only[fT,bG]at hv;rcases Qa hv.1.2 hc with h|h
    .rintro rfl;revert h;decide
    .rw[h];decide
def xJ {s:au}:wH s (dN s).1 (eL s) (fo s).2=true↔fF (eL s)=true/\eg (fe s)≠[]/\(eg (fe s)=s\/eg (fe s)=94::s):=De
def NX (s:au):m6 s=eI s:=by
 have hcar:dN (94::s)=(7,s):=Fp s;have hL7:eL (94::s)=ai (iC s 0).1 46:=by
  unfold eL fo;rw[hcar];rfl
 have hK7:fe (94::s)=gF 7 (ai (iC s 0).1 46) (iC s 0).2:=by
  unfold fe;rw[hL7];unfold fo;rw[hcar]
 cases ho:p7 s 0 with
 |some o=>
  obtain⟨o1,o8,x,t,hs,hx,hx94⟩:=Mf ho;have hrw:dN s=(o,s.drop (dG o).length):=by simp only[dN,ho]
  have hsp:gX s=dN s:=by rw[hrw];simp only[gX,ho]
  have hstar:oo s:=by
   intro h;rw[hrw]at h;simp only at h;omega
  have hcn:ij (94::s)=none:=kO fun h=>by
   have:=h.2.1;rw[hL7,hs,MQ hx]at this;cases this
  have hop:(fe s).op=o:=by show(dN s).1=o;rw[hrw]
  rw[Te hsp];by_cases hk:fF (eL s)=true/\eg (fe s)=s
  .have hne:eg (fe s)≠[]:=by rw[hk.2,hs];simp
   have hb:=(rM hne).1;have hr:ij s=some (fe s):=by rw[zZ,aw ⟨hstar,hk.1,hb,hk.2⟩]
   have hok:wH s (dN s).1 (eL s) (fo s).2=true:=xJ.2 ⟨hk.1,hne,.inl hk.2⟩;rw[aw hok];unfold m6;rw[hr];rfl
  .have hr:ij s=none:=kO fun h=>hk ⟨h.2.1,h.2.2.2⟩
   have hok:¬wH s (dN s).1 (eL s) (fo s).2=true:=fun h=>by
    obtain⟨h1,h2,h3⟩:=xJ.1 h;rcases h3 with h3|h3
    .exact hk ⟨h1,h3⟩
    .obtain⟨hb,he⟩:=rM h2;have h3':mj (fe s)=94::s:=by rw[<-he];exact h3
     have h7:o=7:=by
      have hh:∃y w,dG o=y::w/\(y=94->o=7):=by
       have:o=1\/o=2\/o=3\/o=4\/o=5\/o=6\/o=7\/o=8:=ae;rcases this with rfl|rfl|rfl|rfl|rfl|rfl|rfl|rfl
       .exact⟨61,[],aM,aM⟩
       .exact⟨33,[61],aM,aM⟩
       .exact⟨60,[],aM,aM⟩
       .exact⟨60,[61],aM,aM⟩
       .exact⟨62,[],aM,aM⟩
       .exact⟨62,[61],aM,aM⟩
       .exact⟨94,[],aM,aM⟩
       .exact⟨126,[],aM,aM⟩
      obtain⟨y,w,e1,e2⟩:=hh;unfold mj at h3';rw[hop,e1]at h3';simp only[fY,ot]at h3';exact e2 h3'.1
     obtain⟨_,c,r,e1,e2⟩:=yT hb (by rw[hop];exact h7) h3';rw[hs]at e1;simp only[ot]at e1;rw[<-e1.1]at e2;exact hx (qK e2).1
   rw[ak hok];unfold m6;rw[hr,ak aR,hcn]
 |none=>
  have hrw:dN s=(9,s):=by simp only[dN,ho]
  have h94:∀t,s≠94::t:=by
   rintro t rfl;rw[zF]at ho;cases ho
  have hop:(fe s).op=9:=by show(dN s).1=9;rw[hrw]
  have hst7:oo (94::s):=by
   intro h;rw[hcar]at h;simp only at h;omega
  by_cases hl:0<s.length/\at8 s (s.length-1)=42
  .have hsp:gX s=dN s:=by rw[hrw];simp only[gX,ho,aw hl]
   have hcn:ij (94::s)=none:=kO fun h=>by
    obtain⟨_,h2,h3,h4⟩:=h;have he:=(rM (c:=fe (94::s)) (by rw[h4];simp)).2;rw[h4]at he;have hno:=(yT h3 (by rw[hK7];rfl) he.symm).1;have hmem:s[s.length-1]'(ae)∈s:=List.getElem_mem _;refine hno _ hmem (jq.1 ?_);have:=hl.2;rw[tM s _ ae]at this;show _=42;omega
   rw[Te hsp];by_cases hk:fF (eL s)=true/\eg (fe s)=s
   .have hne:eg (fe s)≠[]:=by
     rw[hk.2];intro h;rw[h]at hl;simp at hl
    obtain⟨hb,he⟩:=rM hne;obtain⟨_,g2,g3⟩:=Co (s:=s) hb hop (he.symm.trans hk.2);have hstar:oo s:=by
     intro _;have hP:fo s=(s,[]):=by unfold fo;rw[hrw];exact g2
     rw[hP];simp only;rw[g3];simp
    have hr:ij s=some (fe s):=by rw[zZ,aw ⟨hstar,hk.1,hb,hk.2⟩]
    have hok:wH s (dN s).1 (eL s) (fo s).2=true:=xJ.2 ⟨hk.1,hne,.inl hk.2⟩;rw[aw hok];unfold m6;rw[hr];rfl
   .have hr:ij s=none:=kO fun h=>hk ⟨h.2.1,h.2.2.2⟩
    have hok:¬wH s (dN s).1 (eL s) (fo s).2=true:=fun h=>by
     obtain⟨h1,h2,h3⟩:=xJ.1 h;rcases h3 with h3|h3
     .exact hk ⟨h1,h3⟩
     .obtain⟨hb,he⟩:=rM h2;have h3':mj (fe s)=94::s:=by rw[<-he];exact h3
      have ht:=Cq hb hop;rw[h3']at ht;have hm:(94:UInt8)∈aV [46] (mE (fe s)++[[42]]):=by rw[<-ht];simp
      rcases rT 46 _ _ hm with h|⟨w,hw,hcw⟩
      .revert h;decide
      .rcases rC hw hcw with h|h
       .revert h;decide
       .revert h;decide
    rw[ak hok];unfold m6;rw[hr,ak aR,hcn]
  .have hsp:gX s=(7,s):=by simp only[gX,ho,ak hl]
   have hr:ij s=none:=kO fun h=>by
    obtain⟨h1,h2,h3,h4⟩:=h;have he:mj (fe s)=s:=(aw h3:eg (fe s)=mj (fe s)).symm.trans h4;exact hl (Co h3 hop he).1
   have h6:eI s=if wH s 7 (ai (iC s 0).1 46) (iC s 0).2=true then some (fe (94::s))else none:=by
    unfold eI;simp only[hsp];rw[hK7];rfl
   have hRC:m6 s=ij (94::s):=by
    unfold m6;rw[hr];rfl
   rw[hRC,h6,zZ];by_cases hok:wH s 7 (ai (iC s 0).1 46) (iC s 0).2=true
   .rw[aw hok];obtain⟨h1,h2,h3⟩:=De.1 hok;obtain⟨hb,he⟩:=rM h2;rcases h3 with h3|h3
    .exfalso;rw[he]at h3;have hh:∃w,mj (gF 7 (ai (iC s 0).1 46) (iC s 0).2)=94::w:=by
      unfold mj;exact⟨_,rfl⟩
     obtain⟨w,hw⟩:=hh;exact h94 w (by rw[<-h3,hw])
    .rw[aw ⟨hst7,by rw[hL7];exact h1,by rw[hK7];exact hb,by rw[hK7];exact h3⟩]
   .rw[ak hok,ak];rintro⟨_,g2,g3,g4⟩;rw[hK7]at g3 g4;rw[hL7]at g2;exact hok (De.2 ⟨g2,by rw[g4];simp,.inr g4⟩)
abbrev Alt:=List dF
abbrev yF:=List Alt
def qC (a:Alt):D:=.sl 7 (a.map dF.D)
def GV (a:Alt):(qC a).bK=true:=rfl
def oA (l k:Nat)(es:List D)(r:List Alt):iX l k es (r.map qC)=r.map qC:=pU l k es _ (bB GV _)
def ix (r:yF):D:=.agg [.sl 1 (r.map qC)]
def kD (a:Alt):Bool:=decide (1<=a.length)&&decide (a.length<=6)&&cQ (fun k=>nn a[k]!) 0 a.length
def kA (r:yF):Bool:=decide (1<=r.length)&&decide (r.length<=6)&&cQ (fun i=>kD r[i]!) 0 r.length
def jF (a:Alt):au:=aV [44,32] (a.map eg)
def DC (r:yF):au:=aV [32,124,124,32] (r.map jF)
def dF.lo (c:dF):Prop:=c.v.pre.length<=1000/\c.v.build.length<=1000
def dF.lo.sm {c:dF}(h:c.lo):c.v.sm:=⟨dD h.1 aM,dD h.2 aM⟩
def oe (r:yF):Prop:=∀a∈r,∀c∈a,c.lo
def su (b:au)(l:List au)(i:Nat):au:=if 0<i then aV b (l.take i)++b else []
def vv (b:au)(l:List au)(i:Nat)(h:i<l.length):aV b (l.take (i+1))=su b l i++l[i]! :=pW b l i h
def Pj (b:au)(l:List au){i:Nat}(h:¬0<i):aV b (l.take i)=su b l i:=by
 grind [su,aV]
def yU {c:dF}(h:c.lo):(eg c).length<=1100:=by
 unfold eg;split
 .rename_i hb;obtain⟨hv,h0,h3,_⟩:=pc hb;have h1:=vV c.op;have h2:=rZ hv c.parts.toNat;have ht:(lx c).length<=1001:=by
   unfold lx;have:=h.1
   grind
  simp only[mj,cb];omega
 .simp
def qU (b:au)(M:Nat):∀(l:List au),(∀t∈l,t.length<=M)->(aV b l).length<=l.length*(M+b.length)
 |[],_=>by simp[aV]
 |[t],h=>by
  grind [aV]
 |t::u::r,h=>by
  have h1:=h t (.head _);have h2:=qU b M (u::r) fun x hx=>h x (.tail _ hx)
  simp only[aV,cb];simp only[ax,Nat.add_mul,Nat.one_mul]at h2⊢;omega
def C9 {α β:Type} [Inhabited α] [Inhabited β](f:α->β)(l:List α){i:Nat}(h:i<l.length):(l.map f)[i]! =f l[i]! :=by
 simp[h]
def yG {a:Alt}(h:∀c∈a,c.lo)(hl:a.length<=6):(jF a).length<=6612:=by
 have:=qU [44,32] 1100 (a.map eg) (fun t ht=>by
  obtain⟨c,hc,rfl⟩:=gD.1 ht;exact yU (h c hc))
 grind [jF]
def yZ {r:yF}(h:kA r=true){i:Nat}(hi:i<r.length):kD r[i]! =true:=by
 simp only[kA,bG,aT]at h;exact fG.1 h.2 i ae hi
def uT {a:Alt}(h:kD a=true):1<=a.length/\a.length<=6:=by
 grind [kD]
def P1 {r:yF}(h:kA r=true)(hs:oe r):(DC r).length<=40000:=by
 have h6:r.length<=6:=by simp only[kA,bG,aT]at h;exact h.1.2
 have:=qU [32,124,124,32] 6612 (r.map jF) (fun t ht=>by
  obtain⟨a,ha,rfl⟩:=gD.1 ht;obtain⟨i,hi,rfl⟩:=List.mem_iff_getElem.1 ha;have h1:=yZ h hi;rw[show r[i]! =r[i]by simp[hi]]at h1;exact yG (hs _ ha) (uT h1).2)
 grind [DC]
def iM {α β:Type} [Inhabited α](f:α->β)(l:List α){i:Nat}(h:i<l.length):(l.map f).take (i+1)=(l.map f).take i++[f l[i]!]:=by
 rw[List.take_add_one];simp[h]
def tf (r:yF):Bool:=kA r&&decide ((DC r).length<=96)
def wM (r:yF):au:=if tf r=true then DC r else []
def aO:au->au->List au
 |[],cur=>[cur]
 |[c],cur=>[cur++[c]]
 |c::d::r,cur=>if c=124/\d=124 then cur::aO r []else aO (d::r) (cur++[c])
def kE:au->au
 |[]=>[]
 |c::r=>if c=32 then kE r else c::r
def eH (s:au):au:=(kE (kE s).reverse).reverse
theorem rJ:∀s,(kE s).length<=s.length
 |[]=>aQ _
 |c::r=>by
  unfold kE;split
  .have:=rJ r;simp only[ax];omega
  .exact aQ _
theorem uX (s:au):(eH s).length<=s.length:=by
 grind [rJ,kE,eH]
def og:∀(s cur:au),(aO s cur).length<=s.length+1/\(∀t∈aO s cur,t.length<=cur.length+s.length)
 |[],cur=>by simp[aO]
 |[c],cur=>by simp[aO]
 |c::d::r,cur=>by
  unfold aO;split
  .have:=og r []
   grind
  .have:=og (d::r) (cur++[c])
   grind
def wOK (t:au):Bool:=cQ (fun k=>(eI (eH (ai t 44)[k]!)).isSome) 0 (ai t 44).length
def Ai (s:au):Bool:=cQ (fun i=>wOK (aO s [])[i]!) 0 (aO s []).length
def mK (t:au):Alt:=(ai t 44).map fun x=>(eI (eH x)).getD eJ
def iG (s:au):yF:=(aO s []).map mK
def iF (s:au):yF×Int:=
 if 96<s.length then([],3)else if Ai s=false then([],6)else if kA (iG s)=false then([],6)else if 96<(DC (iG s)).length then([],3)else(iG s,0)
def ux (s:au):Bool:=decide ((iF s).2=0)&&decide (wM (iF s).1=s)
theorem NV {s:au}(h:s.length<=1000):((eI s).getD eJ).lo:=by
 unfold eI;simp only;split
 .have h1:=Ap s;have h2:=zP (gX s).2;exact⟨by show(iC (gX s).2 0).2.length<=1000;omega,by show([]:au).length<=1000;decide⟩
 .exact⟨by show([]:au).length<=1000;decide,by show([]:au).length<=1000;decide⟩
theorem DE {s:au}(h:s.length<=1000):oe (iG s):=by
 intro a ha c hc;obtain⟨t,ht,rfl⟩:=gD.1 ha;obtain⟨x,hx,rfl⟩:=gD.1 hc;have h1:=(og s []).2 t ht;have h2:=dK t 44 hx
 grind [uX,NV]
def JF {s:au}:oe (iF s).1/\((iF s).2=0->kA (iF s).1=true):=by
 unfold iF;split
 .exact⟨(fun a ha=>by cases ha),fun h=>by cases h⟩
 .split
  .exact⟨(fun a ha=>by cases ha),fun h=>by cases h⟩
  .split
   .exact⟨(fun a ha=>by cases ha),fun h=>by cases h⟩
   .rename_i hf;split
    .exact⟨(fun a ha=>by cases ha),fun h=>by cases h⟩
    grind [DE]
theorem Ik {s:au}{i:Nat}(cur:au)(h:i+1<s.length)(h1:at8 s i=124)(h2:at8 s (i+1)=124):aO (s.drop i) cur=cur::aO (s.drop (i+2)) []:=by
 rw[mb s i ae,mb s (i+1) h];have e1:s.getD i 0=124:=jq.1 (by simp only[at8]at h1;show(s.getD i 0).toNat=124;omega);have e2:s.getD (i+1) 0=124:=jq.1 (by simp only[at8]at h2;show(s.getD (i+1) 0).toNat=124;omega)
 grind [aO]
def F2 {s:au}{i:Nat}(cur:au)(h:i+1<s.length)(hn:¬(at8 s i=124/\at8 s (i+1)=124)):aO (s.drop i) cur=aO (s.drop (i+1)) (cur++[s.getD i 0]):=by
 rw[mb s i ae,mb s (i+1) h];simp only[aO];rw[ak];rintro⟨e1,e2⟩;exact hn ⟨by simp only[at8,e1];rfl,by simp only[at8,e2];rfl⟩
def Ij {s:au}{i:Nat}(cur:au)(h:s.length<=i+1):aO (s.drop i) cur=[cur++s.drop i]:=by
 have hl:(s.drop i).length<=1:=by rw[mZ];omega
 match s.drop i,hl with
 |[],_=>simp[aO]
 |[c],_=>simp[aO]
def N0 {s:au}{i fr:Nat}(h:i<s.length)(hf:fr<=i):(s.take i).drop fr++[s.getD i 0]=(s.take (i+1)).drop fr:=by
 rw[List.take_add_one,List.drop_append_of_le_length (by rw[fX];omega)];simp[h]
def sy (s:au)(i fr:Nat)(acc:List au):Prop:=aO s []=acc++aO (s.drop (max i fr)) ((s.take (max i fr)).drop fr)
def Ls {s:au}{i fr:Nat}{acc:List au}(hI:sy s i fr acc)(h:i+1<s.length)(hc:(at8 s i=124/\at8 s (i+1)=124)/\(fr:Int)<=i):sy s (i+1) (i+2) (acc++[(s.take i).drop fr]):=by
 grind [sy,Ik]
def NI {s:au}{i fr:Nat}{acc:List au}(hI:sy s i fr acc)(h:i+1<s.length)(hf:fr<=i+1)(hc:(¬at8 s i=124\/¬at8 s (i+1)=124)\/¬(fr:Int)<=i):sy s (i+1) fr acc:=by
 unfold sy at hI⊢;by_cases hl:fr<=i
 .rw[hI,Nat.max_eq_left hl,F2 _ h (by rcases hc with(hc|hc)|hc;exact fun h=>hc h.1;exact fun h=>hc h.2;omega),Nat.max_eq_left ae,N0 ae hl]
 grind
def Lr {s:au}{i fr:Nat}{acc:List au}(hI:sy s i fr acc)(h:s.length<=i+1)(hl:fr<=s.length):aO s []=acc++[s.drop fr]:=by
 unfold sy at hI;rw[hI,Ij _ (by have:=Nat.le_max_left i fr;omega)];congr 2
 conv=>rhs;rw[<-List.take_append_drop (max i fr) s]
 grind
def Bp {t:au}(h:0<t.length)(h0:at8 t 0=32):kE t=kE (t.drop 1):=by
 match t,h with
 |c::r,_=>
  have:c=32:=jq.1 (by have h0:((c.toNat:Nat):Int)=32:=h0;show c.toNat=32;omega);subst this;simp[kE]
theorem yL {t:au}(h:¬(0:Int)<(t.length:Nat)\/¬at8 t 0=32):kE t=t:=by
 match t with
 |[]=>rfl
 |c::r=>
  rcases h with h|h
  .simp only[ax]at h;omega
  .simp only[kE];rw[ak];rintro rfl;exact h rfl
def yM (u:au):au:=(kE u.reverse).reverse
theorem IF {u:au}(h:0<u.length):at8 u.reverse 0=at8 u (u.length-1):=by
 grind [at8]
def Lv {u:au}(h:0<u.length)(h0:at8 u (u.length-1)=32):yM u=yM (u.take (u.length-1)):=by
 unfold yM;rw[Bp (by simpa using h) (by rw[IF h];exact h0)];congr 2;rw[List.drop_reverse]
def GY {u:au}(h:¬(0:Int)<(u.length:Nat)\/¬at8 u (u.length-1)=32):yM u=u:=by
 grind [yM,yL,IF]
def Nd.eq (a b:Nd):jg (Nd.D a).cells (Nd.D b).cells=decide (a=b):=by
 obtain⟨a1,a2,a3,a4,a5⟩:=a;obtain⟨b1,b2,b3,b4,b5⟩:=b
 grind [Nd.D,D.cells,jg,tZ,xu]
def kF (n:Nd):Bool:=decide (n.key=0)&&decide (n.text=[])
def oB (n:Nd):Bool:=decide (n.op=1)&&decide (0<=n.key)&&decide (n.key<3)&&c9 n.text&&decide (n.a=0)&&decide (n.b=0)
def jo (n:Nd)(i:Nat)(o:List Int):Option (List Int):=
 if oB n=true then some (o++[(i:Int)])
 else if(((n.op=2/\kF n=true)/\0<o.length)/\n.a=o[o.length-1]!)/\n.b=0 then some (o.take (o.length-1)++[(i:Int)])
 else if((((n.op=3\/n.op=4)/\kF n=true)/\1<o.length)/\n.a=o[o.length-2]!)/\n.b=o[o.length-1]! then some (o.take (o.length-2)++[(i:Int)])
 else none
def na:List Nd->Nat->List Int->Option (List Int)
 |[],_,o=>some o
 |n::r,i,o=>match jo n i o with
  |some o'=>na r (i+1) o'
  |none=>none
def oI (l:List Nd):Bool:=match na l 0 []with
 |some o=>decide (l.length=0) ||decide (o.length=1)
 |none=>false
def Bv {α:Type} [Inhabited α](l:List α){i:Nat}(h:i<l.length):l.drop i=l[i]! ::l.drop (i+1):=by
 rw[iT h];simp[h]
def jk {l:List Nd}{i:Nat}{o o':List Int}(h:i<l.length)(hs:jo l[i]! i o=some o'):na (l.drop i) i o=na (l.drop (i+1)) (i+1) o':=by
 rw[Bv l h];simp only[na,hs]
def gN {l:List Nd}{i:Nat}{o:List Int}(h:i<l.length)(hs:jo l[i]! i o=none):na (l.drop i) i o=none:=by
 rw[Bv l h];simp only[na,hs]
def BZ {l:List Nd}{i:Nat}{o:List Int}(h:l.length<=i):na (l.drop i) i o=some o:=by
 rw[k9 h];rfl
def Gc {l:List Nd}(h:na l 0 []=none):oI l=false:=by simp only[oI,h]
def kt {l:List Nd}(h:na l 0 []=none):(true&&oI l)=false:=by rw[Gc h];rfl
def D4 (S:List Int):Int->List Int->Prop
 |e,[]=>e=0
 |e,t::r=>t=e-1/\0<=t/\0<=S[t.toNat]! /\S[t.toNat]! <=t/\D4 S S[t.toNat]! r
def CS {S:List Int}{i:Nat}{v:Int}:∀{r:List Int}{e:Int},e<=i->D4 S e r->D4 (S.set i v) e r
 |[],e,_,h=>h
 |t::r,e,he,⟨h1,h2,h3,h4,h5⟩=>by
  have hg:(S.set i v)[t.toNat]! =S[t.toNat]! :=by
   grind
  exact⟨h1,h2,by rw[hg];exact h3,by rw[hg];exact h4,by rw[hg];exact CS ae h5⟩
def Sk {S:List Int}{i:Nat}{v:Int}(h:i<S.length):(S.set i v)[i]! =v:=by
 simp[h]
def tR {S:List Int}{i:Nat}{v:Int}{r:List Int}(h:i<S.length)(h0:0<=v)(h1:v<=i)(hc:D4 S v r):D4 (S.set i v) ((i+1:Nat):Int) ((i:Int)::r):=by
 have hg:(S.set i v)[((i:Nat):Int).toNat]! =v:=by rw[Int.toNat_natCast];exact Sk h
 exact⟨ae,ae,by rw[hg];exact h0,by rw[hg];exact h1,by rw[hg];exact CS ae hc⟩
def tS {S:List Int}{i:Nat}{o:List Int}(h:D4 S (i:Nat) o.reverse):(0<o.length↔1<=i)/\(1<=i->o[o.length-1]! =(i:Int) -1/\0<=S[i-1]! /\S[i-1]! <=(i:Int) -1/\D4 S S[i-1]! (o.take (o.length-1)).reverse):=by
 rcases List.eq_nil_or_concat o with rfl|⟨p,t,rfl⟩
 .have h:((i:Nat):Int)=0:=h
  grind
 .rw[List.concat_eq_append,List.reverse_append,List.reverse_singleton,List.singleton_append]at h;obtain⟨h1,h2,h3,h4,h5⟩:=h
  grind
def CT {S:List Int}{i:Nat}{o:List Int}(h:D4 S (i:Nat) o.reverse):(1<o.length↔1<=i/\1<=S[i-1]!)/\(1<o.length->o[o.length-2]! =S[i-1]! -1/\0<=S[(S[i-1]! -1).toNat]! /\S[(S[i-1]! -1).toNat]! <=S[i-1]! -1/\D4 S S[(S[i-1]! -1).toNat]! (o.take (o.length-2)).reverse):=by
 obtain⟨h1,h2⟩:=tS h;by_cases hi:1<=i
 .obtain⟨g1,g2,g3,g4⟩:=h2 hi;have hl:=h1.2 hi;rcases List.eq_nil_or_concat o with rfl|⟨p,t,rfl⟩
  .simp at hl
  .rw[List.concat_eq_append]at g4⊢;rw[List.take_append_of_le_length aR,ey aR]at g4;rcases List.eq_nil_or_concat p with rfl|⟨q,u,rfl⟩
   .have g4:S[i-1]! =0:=g4;exact⟨⟨fun h=>absurd h aR,fun h=>ae⟩,fun h=>absurd h aR⟩
   .rw[List.concat_eq_append]at g4⊢;rw[List.reverse_append,List.reverse_singleton,List.singleton_append]at g4;obtain⟨k1,k2,k3,k4,k5⟩:=g4;subst k1;refine⟨⟨fun _=>⟨hi,ae⟩,fun _=>aR⟩,fun _=>⟨aR,k3,k4, ?_⟩⟩;rw[eU,List.take_append_of_le_length aR,ey aR];exact k5
 .have:¬0<o.length:=fun h=>hi (h1.1 h)
  exact⟨⟨fun h=>ae,fun h=>absurd h.1 hi⟩,fun h=>ae⟩
def Qh {S:List Int}{n:Nat}{o:List Int}(t1:0<o.length↔1<=n)(t2:1<=n->o[o.length-1]! =(n:Int) -1/\0<=S[n-1]! /\S[n-1]! <=(n:Int) -1/\D4 S S[n-1]! (o.take (o.length-1)).reverse)(u1:1<o.length↔1<=n/\1<=S[n-1]!):
  (decide (n=0) ||decide (o.length=1))=(decide ((n:Nat)=(0:Int)) ||decide (S[n-1]! =0)):=by
 grind
theorem zo {n:Nd}(h:oB n=true):n.op=1:=by grind [oB]
def Io {n:Nd}{i:Nat}{o:List Int}(h:oB n=true):jo n i o=some (o++[(i:Int)]):=aw h
def DJ {n:Nd}{i:Nat}{o:List Int}(h1:n.op=1)(h:oB n=false):jo n i o=none:=by
 grind [jo]
def F5 {n:Nd}{i:Nat}{o:List Int}(h1:n.op≠1)(h2:n.op≠2)(h3:n.op≠3)(h4:n.op≠4):jo n i o=none:=by
 grind [jo,zo]
def vZ {S:List Int}{n:Nd}{i:Nat}{o:List Int}(hc:D4 S (i:Nat) o.reverse)(h2:n.op=2):jo n i o=if(1<=i/\n.a=(i:Int) -1/\n.b=0)/\kF n=true then some (o.take (o.length-1)++[(i:Int)])else none:=by
 obtain⟨t1,t2⟩:=tS hc
 grind [jo,zo,kF]
def nK {S:List Int}{n:Nd}{i:Nat}{o:List Int}(hc:D4 S (i:Nat) o.reverse)(h2:n.op=3\/n.op=4):jo n i o=if(2<=i/\n.b=(i:Int) -1/\1<=S[i-1]! /\n.a=S[i-1]! -1)/\kF n=true then some (o.take (o.length-2)++[(i:Int)])else none:=by
 obtain⟨t1,t2⟩:=tS hc;obtain⟨u1,u2⟩:=CT hc;unfold jo;rw[ak (fun h=>by have:=zo h;omega),ak (by rintro⟨⟨⟨⟨h,_⟩,_⟩,_⟩,_⟩;omega)];by_cases hk:(2<=i/\n.b=(i:Int) -1/\1<=S[i-1]! /\n.a=S[i-1]! -1)/\kF n=true
 .grind
 .rw[ak hk,ak]
  grind
def jI (l:List Nd):Prop:=∀j,j<l.length->(l[j]!.op=1->0<=l[j]!.key/\l[j]!.key<3/\l[j]!.text.length<=12)/\(l[j]!.op≠1->0<=l[j]!.a/\l[j]!.a<j)/\(l[j]!.op≠1->l[j]!.op≠2->0<=l[j]!.b/\l[j]!.b<j)
def HC {l:List Nd}:∀(k i:Nat) (o o':List Int),i+k=l.length->(∀x∈o,0<=x/\x<(i:Int))->na (l.drop i) i o=some o'->
  ∀j,i<=j->j<l.length->(l[j]!.op=1->0<=l[j]!.key/\l[j]!.key<3/\l[j]!.text.length<=12)/\(l[j]!.op≠1->0<=l[j]!.a/\l[j]!.a<j)/\(l[j]!.op≠1->l[j]!.op≠2->0<=l[j]!.b/\l[j]!.b<j):=by
 intro k;induction k with
 |zero=>intro i o o' h1 h2 h3 j h4 h5;omega
 |succ k ih=>
  intro i o o' h1 h2 h3 j h4 h5;have hi:i<l.length:=ae;cases hs:jo l[i]! i o with
  |none=>rw[gN hi hs]at h3;cases h3
  |some o2=>
   rw[jk hi hs]at h3;have hm:∀m,0<m->m<=o.length->0<=o[o.length-m]! /\o[o.length-m]! <(i:Int):=fun m hm1 hm2=>h2 _ (bR ae)
   have hsub:∀m,∀x∈o.take m++[(i:Int)],0<=x/\x<((i+1:Nat):Int):=fun m x hx=>by
    rcases List.mem_append.1 hx with hx|hx
    .have:=h2 x (lf hx);omega
    .simp only[dw]at hx;omega
   unfold jo at hs;split at hs
   .rename_i hl;cases hs;rcases hX i j with hj|hj
    .exact ih (i+1) _ o' ae (by have:=hsub o.length;rwa [ey (aQ _)]at this) h3 j hj h5
    .obtain rfl:i=j:=ae;simp only[oB,bG,aT]at hl;have hw:=hl.1.1.2;simp only[c9,bG,aT]at hw;exact⟨fun _=>⟨hl.1.1.1.1.2,hl.1.1.1.2,hw.1.2⟩,fun h=>absurd hl.1.1.1.1.1 h,fun h=>absurd hl.1.1.1.1.1 h⟩
   .split at hs
    .rename_i hl;cases hs;rcases hX i j with hj|hj
     .exact ih (i+1) _ o' ae (hsub _) h3 j hj h5
     .obtain rfl:i=j:=ae;obtain⟨⟨⟨⟨g1,g2⟩,g3⟩,g4⟩,g5⟩:=hl;have:=hm 1 ae ae;exact⟨fun h=>ae,fun _=>by rw[g4];exact this,fun _ h=>absurd g1 h⟩
    .split at hs
     .rename_i hl;cases hs;rcases hX i j with hj|hj
      .exact ih (i+1) _ o' ae (hsub _) h3 j hj h5
      .obtain rfl:i=j:=ae;obtain⟨⟨⟨⟨g1,g2⟩,g3⟩,g4⟩,g5⟩:=hl;have q1:=hm 1 ae ae;have q2:=hm 2 ae ae;exact⟨fun h=>ae,fun _=>by rw[g4];exact q2,fun _ _=>by rw[g5];exact q1⟩
     .cases hs
def qf {l:List Nd}(h:oI l=true):jI l:=by
 unfold oI at h;cases ho:na l 0 []with
 |none=>rw[ho]at h;cases h
 |some o=>exact fun j hj=>HC l.length 0 [] o ae aR ho j (Nat.zero_le _) hj
def NR (n:Nd)(o:List Int):Bool:=(((decide (n.op=2)&&(decide (n.key=0)&&decide (n.text=[])))&&decide ((0:Int)<(o.length:Nat)))&&decide (n.a=o[o.length-1]!))&&decide (n.b=0)
def NS (n:Nd)(o:List Int):Bool:=((((decide (n.op=3) ||decide (n.op=4))&&(decide (n.key=0)&&decide (n.text=[])))&&decide ((1:Int)<(o.length:Nat)))&&decide (n.a=o[o.length-2]!))&&decide (n.b=o[o.length-1]!)
def xO (n:Nd)(i:Nat)(o:List Int):jo n i o=if oB n=true then some (o++[(i:Int)])else if NR n o=true then some (o.take (o.length-1)++[(i:Int)])else if NS n o=true then some (o.take (o.length-2)++[(i:Int)])else none:=by
 grind [NR,kF,NS,jo]
def Ja {n:Nd}(h:n.op=1):oB n=!((((decide (n.key<0) ||decide (3<=n.key)) ||!c9 n.text) ||!decide (n.a=0)) ||!decide (n.b=0)):=by
 grind [oB,c9]
def xN {S:List Int}{i:Nat}(h:i<S.length)(v:Int):(S.map (D.int .i64)).set (0+i) (vX ((S.map (D.int .i64)).getD (0+i) .any) 1 1 0 (.int .i64 v))=(S.set i v).map (D.int .i64):=by
 rw[bT,getD_map (q:=D.int .i64) h,List.map_set];rfl
abbrev SQ:=List Nd
def lh (m:SQ):D:=.agg [.sl 5 (m.map Nd.D)]
def qW:List au:=[[111,115],[97,114,99,104],[97,98,105]]
def tc (k:Int):au:=if k=0 then [111,115]else if k=1 then [97,114,99,104]else [97,98,105]
def k8 (s:au)(b:Bool):au:=if b=true then [40,32]++s++[32,41]else s
def tG (l:List Nd):Nat->Int->au
 |0,_=>[]
 |f+1,i=>
  if l[i.toNat]!.op=1 then tc l[i.toNat]!.key++[32,61,32]++l[i.toNat]!.text
  else if l[i.toNat]!.op=2 then
   if l[l[i.toNat]!.a.toNat]!.op=1 then tc l[l[i.toNat]!.a.toNat]!.key++[32,33,61,32]++l[l[i.toNat]!.a.toNat]!.text
   else [110,111,116,32]++k8 (tG l f l[i.toNat]!.a) (!decide (l[l[i.toNat]!.a.toNat]!.op=2))
  else if l[i.toNat]!.op=3 then k8 (tG l f l[i.toNat]!.a) (decide (l[l[i.toNat]!.a.toNat]!.op=4))++[32,97,110,100,32]++k8 (tG l f l[i.toNat]!.b) (decide (l[l[i.toNat]!.b.toNat]!.op=4) ||decide (l[l[i.toNat]!.b.toNat]!.op=3))
  else tG l f l[i.toNat]!.a++[32,111,114,32]++k8 (tG l f l[i.toNat]!.b) (decide (l[l[i.toNat]!.b.toNat]!.op=4))
def mG (l:List Nd)(i:Int):au:=tG l (i.toNat+1) i
theorem DP {l:List Nd}(hk:jI l):∀(f g:Nat) (i:Int),0<=i->i<l.length->i<f->i<g->tG l f i=tG l g i
 |0,_,_,_,_,h,_=>ae
 |_,0,_,_,_,_,h=>ae
 |f+1,g+1,i,h0,h1,h2,h3=>by
  obtain⟨k1,k2,k3⟩:=hk i.toNat ae;simp only[tG];by_cases e1:l[i.toNat]!.op=1
  .rw[aw e1,aw e1]
  .rw[ak e1,ak e1];have ka:=k2 e1;rw[DP hk f g l[i.toNat]!.a ae ae ae ae];by_cases e2:l[i.toNat]!.op=2
   .rw[aw e2,aw e2]
   .have kb:=k3 e1 e2;rw[DP hk f g l[i.toNat]!.b ae ae ae ae]
def JP {l:List Nd}(hk:jI l){i:Int}(h0:0<=i)(h1:i<l.length):mG l i=
  if l[i.toNat]!.op=1 then tc l[i.toNat]!.key++[32,61,32]++l[i.toNat]!.text
  else if l[i.toNat]!.op=2 then
   if l[l[i.toNat]!.a.toNat]!.op=1 then tc l[l[i.toNat]!.a.toNat]!.key++[32,33,61,32]++l[l[i.toNat]!.a.toNat]!.text
   else [110,111,116,32]++k8 (mG l l[i.toNat]!.a) (!decide (l[l[i.toNat]!.a.toNat]!.op=2))
  else if l[i.toNat]!.op=3 then k8 (mG l l[i.toNat]!.a) (decide (l[l[i.toNat]!.a.toNat]!.op=4))++[32,97,110,100,32]++k8 (mG l l[i.toNat]!.b) (decide (l[l[i.toNat]!.b.toNat]!.op=4) ||decide (l[l[i.toNat]!.b.toNat]!.op=3))
  else mG l l[i.toNat]!.a++[32,111,114,32]++k8 (mG l l[i.toNat]!.b) (decide (l[l[i.toNat]!.b.toNat]!.op=4)):=by
 obtain⟨k1,k2,k3⟩:=hk i.toNat ae
 grind [mG,tG,DP]
def nN (s:au)(b:Bool):(k8 s b).length<=s.length+4:=by
 unfold k8;split<;>simp
def rU {k:Int}(h0:0<=k)(h3:k<3):qW[k.toNat]! =tc k:=by
 obtain rfl|rfl|rfl:k=0\/k=1\/k=2:=ae
 .rfl
 .rfl
 .rfl
def OB {k:Int}(h0:0<=k)(h3:k<3):po (([.str [111,115],.str [97,114,99,104],.str [97,98,105]]:List D).getD (0+k.toNat) .any) 1 1 0 false=.str (tc k):=by
 obtain rfl|rfl|rfl:k=0\/k=1\/k=2:=ae
 .rfl
 .rfl
 .rfl
def pk (k:Int):(tc k).length<=4:=by
 grind [tc]
def Ax {l:List Nd}(hk:jI l):∀(f:Nat) (i:Int),0<=i->i<l.length->(tG l f i).length+20<=20*2^(f+1)
 |0,i,_,_=>by simp[tG]
 |f+1,i,h0,h1=>by
  obtain⟨k1,k2,k3⟩:=hk i.toNat ae;have hp:20*2^(f+1+1)=20*2^(f+1)+20*2^(f+1):=by rw[Nat.pow_succ 2 (f+1)];omega
  have h1p:1<=2^(f+1):=Nat.one_le_two_pow;simp only[tG];by_cases e1:l[i.toNat]!.op=1
  .rw[aw e1];have:=pk l[i.toNat]!.key;have:=k1 e1;simp only[cb,ax,aB];omega
  .rw[ak e1];have ka:=k2 e1;have la:=Ax hk f l[i.toNat]!.a ae ae;have wa:=fun b=>nN (tG l f l[i.toNat]!.a) b
   by_cases e2:l[i.toNat]!.op=2
   .rw[aw e2];split
    .rename_i e3;have:=pk l[l[i.toNat]!.a.toNat]!.key;have:=((hk l[i.toNat]!.a.toNat ae).1 e3).2.2;simp only[cb,ax,aB];omega
    .have:=wa (!decide (l[l[i.toNat]!.a.toNat]!.op=2));simp only[cb,ax,aB];omega
   .rw[ak e2];have kb:=k3 e1 e2;have lb:=Ax hk f l[i.toNat]!.b ae ae;have wb:=fun b=>nN (tG l f l[i.toNat]!.b) b
    split
    .have:=wa (decide (l[l[i.toNat]!.a.toNat]!.op=4));have:=wb (decide (l[l[i.toNat]!.b.toNat]!.op=4) ||decide (l[l[i.toNat]!.b.toNat]!.op=3));simp only[cb,ax,aB];omega
    .have:=wb (decide (l[l[i.toNat]!.b.toNat]!.op=4));simp only[cb,ax,aB];omega
def rD {l:List Nd}(hk:jI l)(hl:l.length<=15){i:Int}(h0:0<=i)(h1:i<l.length):(mG l i).length<=1310720:=by
 have h:=Ax hk (i.toNat+1) i h0 h1;have:2^(i.toNat+1+1)<=2^16:=Nat.pow_le_pow_right ae ae;unfold mG;omega
def qg (l:List Nd):au:=if l.length=0 then []else mG l ((l.length:Int) -1)
def zw (l:List Nd):Bool:=(decide (l.length<=15)&&oI l)&&decide ((qg l).length<=96)
def Td (l:List Nd):au:=if zw l=true then qg l else []
abbrev PR:=Option (Int×List au×List Nd)
def iZ (k:au):Int:=if k=[111,115]then 0 else if k=[97,114,99,104]then 1 else if k=[97,98,105]then 2 else-1
def mM (k s v:au):Bool:=(decide (0<=iZ k)&&c9 v)&&(decide (s=[61]) ||decide (s=[33,61]))
def wj (k s v:au)(r:List au)(nd:List Nd):Int×List au×List Nd:=
 if s=[33,61]then(((nd++[(⟨1,0,0,iZ k,v⟩:Nd)]).length:Nat),r,(nd++[⟨1,0,0,iZ k,v⟩])++[⟨2,(nd.length:Nat),0,0,[]⟩])
 else((nd.length:Nat),r,nd++[⟨1,0,0,iZ k,v⟩])
def qD (k:au)(w:List au)(nd:List Nd):PR:=match w with
 |s::v::r=>if mM k s v=true then some (wj k s v r nd)else none
 |_=>none
def lv (part:List au->List Nd->PR)(wd:au)(op:Int):Nat->Int->List au->List Nd->PR
 |0,a,w,nd=>some (a,w,nd)
 |f+1,a,w,nd=>match w with
  |[]=>some (a,w,nd)
  |x::r=>if x=wd then(match part r nd with
    |none=>none
    |some (b,w',nd')=>lv part wd op f (nd'.length:Nat) w' (nd'++[⟨op,a,b,0,[]⟩]))
   else some (a,w,nd)
def iO (part:List au->List Nd->PR)(wd:au)(op:Int)(w:List au)(nd:List Nd):PR:=match part w nd with
 |none=>none
 |some (a,w',nd')=>lv part wd op w'.length a w' nd'
def qp:au:=[110,111,116]
def gY:au:=[40]
def kY:au:=[41]
def lz:au:=[97,110,100]
def qA:au:=[111,114]
def oP (r:PR):PR:=match r with
 |some (a,x::w',nd')=>if x=kY then some (a,w',nd')else none
 |_=>none
def U7 (r:PR):PR:=match r with
 |some (a,w',nd')=>some ((nd'.length:Nat),w',nd'++[⟨2,a,0,0,[]⟩])
 |none=>none
def sj:Nat->List au->List Nd->PR
 |0,_,_=>none
 |f+1,w,nd=>match w with
  |[]=>none
  |k::r=>if k=qp then U7 (sj f r nd)
   else if k=gY then oP (iO (iO (sj f) lz 3) qA 4 r nd)
   else qD k r nd
def PB (w:List au)(nd:List Nd)(w':List au)(nd':List Nd):Prop:=w'.length<=w.length/\nd'.length+2*w'.length<=nd.length+2*w.length/\w'<:+w
def tI (part:List au->List Nd->PR):Prop:=∀w nd a w' nd',part w nd=some (a,w',nd')->PB w nd w' nd'/\w'.length<w.length
def PB.refl (w:List au)(nd:List Nd):PB w nd w nd:=⟨aQ _,aQ _,lZ _⟩
def PB.trans {w nd w' nd' w2 nd2}(h:PB w nd w' nd')(h2:PB w' nd' w2 nd2):PB w nd w2 nd2:=⟨dD h2.1 h.1,dD h2.2.1 h.2.1,h2.2.2.trans h.2.2⟩
def PB.tail {x:au}{w:List au}{nd:List Nd}{w':List au}{nd':List Nd}(h:PB w nd w' nd')(n:Nd):PB (x::w) nd w' (nd'++[n]):=by
 obtain⟨h1,h2,h3⟩:=h;refine⟨by simp only[ax];omega,by simp only[cb,ax,aB];omega,h3.trans (List.suffix_cons x w)⟩
def PB.uG {x:au}{w:List au}{nd:List Nd}{w':List au}{nd':List Nd}(h:PB w nd w' nd'):PB (x::w) nd w' nd':=by
 obtain⟨h1,h2,h3⟩:=h;exact⟨by simp only[ax];omega,by simp only[ax];omega,h3.trans (List.suffix_cons x w)⟩
def zq {part:List au->List Nd->PR}(hp:tI part)(wd:au)(op:Int):∀(f:Nat) (a:Int) (w:List au) (nd:List Nd) (a':Int) (w':List au) (nd':List Nd),lv part wd op f a w nd=some (a',w',nd')->PB w nd w' nd'
 |0,a,w,nd,a',w',nd',h=>by simp only[lv,bj,ez]at h;obtain⟨rfl,rfl,rfl⟩:=h;exact .refl _ _
 |f+1,a,[],nd,a',w',nd',h=>by simp only[lv,bj,ez]at h;obtain⟨rfl,rfl,rfl⟩:=h;exact .refl _ _
 |f+1,a,x::r,nd,a',w',nd',h=>by
  simp only[lv]at h;by_cases hx:x=wd
  .rw[aw hx]at h;cases hq:part r nd with
   |none=>rw[hq]at h;cases h
   |some t=>
    obtain⟨b,w2,nd2⟩:=t;rw[hq]at h;exact((hp _ _ _ _ _ hq).1.tail _).trans (zq hp wd op f _ _ _ _ _ _ h)
  .rw[ak hx]at h;simp only[bj,ez]at h;obtain⟨rfl,rfl,rfl⟩:=h;exact .refl _ _
def mi {part:List au->List Nd->PR}(hp:tI part)(wd:au)(op:Int):tI (iO part wd op):=by
 intro w nd a w' nd' h;unfold iO at h;cases hq:part w nd with
 |none=>rw[hq]at h;cases h
 |some t=>
  obtain⟨b,w2,nd2⟩:=t;rw[hq]at h;obtain⟨h1,h2⟩:=hp _ _ _ _ _ hq;have:=zq hp wd op _ _ _ _ _ _ _ h;exact⟨h1.trans this,Nat.lt_of_le_of_lt this.1 h2⟩
theorem pM {k:au}{w:List au}{nd:List Nd}{a:Int}{w':List au}{nd':List Nd}(h:qD k w nd=some (a,w',nd')):PB w nd w' nd':=by
 match w,h with
 |s::v::r,h=>
  simp only[qD]at h;split at h
  .simp only[bj]at h;unfold wj at h;have hs:r<:+s::v::r:=(List.suffix_cons v r).trans (List.suffix_cons s _);split at h<;>(simp only[ez]at h;obtain⟨rfl,rfl,rfl⟩:=h;exact⟨by simp only[ax];omega,by simp only[cb,ax,aB];omega,hs⟩)
  .cases h
 |[_],h=>cases h
 |[],h=>cases h
def lC:∀f,tI (sj f)
 |0=>fun w nd a w' nd' h=>by cases h
 |f+1=>by
  intro w nd a w' nd' h
  match w,h with
  |[],h=>cases h
  |k::r,h=>
   simp only[sj]at h;split at h
   .cases hq:sj f r nd with
    |none=>rw[hq]at h;cases h
    |some t=>
     obtain⟨b,w2,nd2⟩:=t;rw[hq]at h;simp only[U7,bj,ez]at h;obtain⟨rfl,rfl,rfl⟩:=h;obtain⟨h1,h2⟩:=lC f _ _ _ _ _ hq;exact⟨h1.tail _,by simp only[ax];omega⟩
   .split at h
    .cases hq:iO (iO (sj f) lz 3) qA 4 r nd with
     |none=>rw[hq]at h;cases h
     |some t=>
      obtain⟨b,w2,nd2⟩:=t;rw[hq]at h;obtain⟨h1,h2⟩:=mi (mi (lC f) _ _) _ _ _ _ _ _ _ hq
      match w2,h,h1,h2 with
      |[],h,_,_=>cases h
      |x::w3,h,h1,h2=>
       simp only[oP]at h;split at h
       .simp only[bj,ez]at h;obtain⟨rfl,rfl,rfl⟩:=h;exact⟨(h1.trans (PB.refl _ _).uG).uG,by simp only[ax]at h2⊢;omega⟩
       .cases h
    .exact⟨(pM h).uG,by have:=(pM h).1;simp only[ax];omega⟩
def E4 {p p':List au->List Nd->PR}(hp:tI p)(wd:au)(op:Int){u:Nat}(h:∀w nd,w.length<u->p w nd=p' w nd):∀(f:Nat) (a:Int) (w:List au) (nd:List Nd),w.length<=u->lv p wd op f a w nd=lv p' wd op f a w nd
 |0,a,w,nd,hu=>rfl
 |f+1,a,[],nd,hu=>rfl
 |f+1,a,x::r,nd,hu=>by
  simp only[ax]at hu;simp only[lv];split
  .rw[<-h r nd ae];cases hq:p r nd with
   |none=>rfl
   |some t=>
    obtain⟨b,w2,nd2⟩:=t;have:=hp _ _ _ _ _ hq;exact E4 hp wd op h f _ _ _ ae
  .rfl
def rK {p p':List au->List Nd->PR}(hp:tI p)(wd:au)(op:Int){u:Nat}(h:∀w nd,w.length<u->p w nd=p' w nd):∀w nd,w.length<u->iO p wd op w nd=iO p' wd op w nd:=by
 intro w nd hu;unfold iO;rw[<-h w nd hu];cases hq:p w nd with
 |none=>rfl
 |some t=>
  obtain⟨b,w2,nd2⟩:=t;have:=hp _ _ _ _ _ hq;exact E4 hp wd op h _ _ _ _ ae
def IU:∀(u f g:Nat) (w:List au) (nd:List Nd),w.length<u->w.length<=f->w.length<=g->sj f w nd=sj g w nd
 |0,_,_,_,_,h,_,_=>absurd h (Nat.not_lt_zero _)
 |u+1,f,g,[],nd,hu,hf,hg=>by cases f<;>cases g<;>rfl
 |u+1,0,_,_::_,_,_,h,_=>by simp at h
 |u+1,_,0,_::_,_,_,_,h=>by simp at h
 |u+1,f+1,g+1,k::r,nd,hu,hf,hg=>by
  simp only[ax]at hu hf hg;have ih:∀w nd,w.length<r.length+1->sj f w nd=sj g w nd:=fun w nd h=>IU u f g w nd ae ae ae
  simp only[sj];rw[ih r nd ae,rK (mi (lC f) _ _) qA 4 (rK (lC f) lz 3 ih) r nd ae]
def jY (w:List au)(nd:List Nd):PR:=sj w.length w nd
def kH:List au->List Nd->PR:=iO jY lz 3
def iV:List au->List Nd->PR:=iO kH qA 4
def vj:tI jY:=fun w nd a w' nd' h=>lC _ w nd a w' nd' h
def yQ:tI kH:=mi vj _ _
def xw (k:au)(r:List au)(nd:List Nd):jY (k::r) nd=if k=qp then U7 (jY r nd)else if k=gY then oP (iV r nd)else qD k r nd:=by
 show sj (r.length+1) (k::r) nd=_;simp only[sj];have ih:∀w nd,w.length<r.length+1->sj r.length w nd=jY w nd:=fun w nd h=>IU (r.length+1) _ _ w nd h ae (aQ _)
 rw[show sj r.length r nd=jY r nd from rfl,rK (mi (lC _) _ _) qA 4 (rK (lC _) lz 3 ih) r nd ae];rfl
def BM {part:List au->List Nd->PR}{wd:au}{op:Int}{f:Nat}{a:Int}{nd:List Nd}:lv part wd op f a [] nd=some (a,[],nd):=by cases f<;>rfl
theorem OJ {part:List au->List Nd->PR}{wd:au}{op:Int}{f:Nat}{a:Int}{w:List au}{nd:List Nd}(h:w.head? ≠some wd):lv part wd op f a w nd=some (a,w,nd):=by
 cases f with
 |zero=>rfl
 |succ f=>match w,h with
  |[],_=>rfl
  |x::r,h=>simp only[lv];rw[ak (by rintro rfl;exact h rfl)]
def zr {part:List au->List Nd->PR}(hp:tI part){wd:au}{op:Int}:∀(f g:Nat) (a:Int) (w:List au) (nd:List Nd),w.length<=f->w.length<=g->lv part wd op f a w nd=lv part wd op g a w nd
 |_,_,a,[],nd,_,_=>by rw[BM,BM]
 |0,_,_,_::_,_,h,_=>by simp at h
 |_,0,_,_::_,_,_,h=>by simp at h
 |f+1,g+1,a,x::r,nd,hf,hg=>by
  simp only[ax]at hf hg;simp only[lv];split
  .cases hq:part r nd with
   |none=>rfl
   |some t=>
    obtain⟨b,w2,nd2⟩:=t;have:=hp _ _ _ _ _ hq;exact zr hp f g _ _ _ ae ae
  .rfl
def Jg (part:List au->List Nd->PR)(wd:au)(op:Int)(a:Int)(w:List au)(nd:List Nd):PR:=lv part wd op w.length a w nd
def L3 {part:List au->List Nd->PR}(hp:tI part){wd:au}{op:Int}{a:Int}{r:List au}{nd:List Nd}:Jg part wd op a (wd::r) nd=match part r nd with
  |none=>none
  |some (b,w',nd')=>Jg part wd op (nd'.length:Nat) w' (nd'++[⟨op,a,b,0,[]⟩]):=by
 show lv part wd op (r.length+1) a (wd::r) nd=_;simp only[lv,a7];cases hq:part r nd with
 |none=>rfl
 |some t=>
  obtain⟨b,w2,nd2⟩:=t;have:=hp _ _ _ _ _ hq;exact zr hp _ _ _ _ _ ae (aQ _)
structure PO where
 a:Int
 w:List au
 nd:List Nd
 bad:Bool
def er (R:PR)(w:List au)(nd:List Nd)(o:PO):Prop:=(R=some (o.a,o.w,o.nd)/\o.bad=false\/R=none/\o.bad=true)/\PB w nd o.w o.nd
def Hw (s:au):Option (List Nd):=match iV (ai s 32) []with
 |some (_,[],nd)=>if zw nd=true then some nd else none
 |_=>none
def mz (s:au):List Nd×Int:=if 96<s.length then([],3)else if s=[]then([],0)else match Hw s with
 |some nd=>(nd,0)
 |none=>([],7)
def rV (s:au):Bool:=decide ((mz s).2=0)&&decide (Td (mz s).1=s)
abbrev Ea:=List au->D->Bool->D
def iK:Ea:=fun w X b=>.agg [.sl 1 (w.map D.str),X,.bool b]
def jb (W:List au):Ea:=fun w X b=>.agg [.sl 1 (W.map D.str),.int .i64 ((W.length-w.length:Nat):Int),X,.bool b]
def oO (Y:Ctx)(k:Nat)(ob:Ea)(n:Nat)(akq:List D)(w:List au)(nd:List Nd)(b:Bool)(P:PO->Prop)(V:PO->D):Prop:=
 ∀(nx lp ln:Nat) (m:List (Nat×b7)) (K:D->St->Prop),look m lp=some (.buf k [ob w (.own ln 5 0 nd.length) b])->look m ln=some (.buf 5 (nd.map Nd.D))->lp<nx->ln<nx->
  (∀o,P o->K (V o) ⟨nx+1,(nx,.buf 5 (o.nd.map Nd.D))::dE (cL m ln) lp (.buf k [ob o.w (.own nx 5 0 o.nd.length) o.bad])⟩)->Y.tr n (.ptr lp k 0 0::akq) ⟨nx,m⟩ K
def Q3 (Y:Ctx)(k:Nat)(ob:Ea)(n:Nat)(akq:List D)(w:List au)(nd:List Nd)(b:Bool)(P:PO->Prop)(V:PO->D):Prop:=
 ∀(nx lp ln:Nat) (m:List (Nat×b7)) (K:D->St->Prop),look m lp=some (.buf k [ob w (.own ln 5 0 nd.length) b])->look m ln=some (.buf 5 (nd.map Nd.D))->lp<nx->ln<nx->
  (∀o,P o->K (V o) ⟨nx,dE m lp (.buf k [ob o.w (.own ln 5 0 nd.length) o.bad])⟩)->Y.tr n (.ptr lp k 0 0::akq) ⟨nx,m⟩ K
def wT (k:Nat)(ob:Ea)(P:PO->Prop)(V:PO->D):D->List (Nat×b7)->Prop:=fun d m=>∃(o:PO) (j:Nat),2<=j/\P o/\d=V o/\look m 0=some (.buf k [ob o.w (.own j 5 0 o.nd.length) o.bad])/\look m j=some (.buf 5 (o.nd.map Nd.D))
def IC (k:Nat)(ob:Ea)(nd:List Nd)(P:PO->Prop)(V:PO->D):D->List (Nat×b7)->Prop:=fun d m=>∃(o:PO),P o/\d=V o/\look m 0=some (.buf k [ob o.w (.own 1 5 0 nd.length) o.bad])/\look m 1=some (.buf 5 (nd.map Nd.D))
def Va:PO->D:=fun o=>.int .i64 o.a
def U4 {m:List (Nat×b7)}(x:Nd):Qw m [.a,.a,.a,.a,.a] (Nd.D x):=⟨rfl,rfl,rfl,rfl,rfl,rfl⟩
def OU {m:List (Nat×b7)}{lp ln:Nat}{w:List au}{nd:List Nd}{b:Bool}(h1:look m lp=some (.buf 3 [iK w (.own ln 5 0 nd.length) b]))(h2:look m ln=some (.buf 5 (nd.map Nd.D))):
  kN m [[.pt [.sl 1 [.a],.sl 5 [.a,.a,.a,.a,.a],.a]]] [.ptr lp 3 0 0]:=by
 refine⟨⟨by simp[fN,h1], ?_⟩,trivial⟩;intro e he;simp only[bz,h1,dw]at he;subst he;refine⟨rfl,⟨by simp[fN,h2], ?_⟩,rfl,rfl⟩;simp only[bz,h2,cg,aP];intro e he;obtain⟨x,_,rfl⟩:=gD.1 he;exact U4 x
def bq (w:List au):au:=w.headD []
def bY (w:List au):List au:=if bq w=[]then w else w.drop 1
def dH (w:List au)(b:Bool):Bool:=if bq w=[]then true else b
def r9 {w:List au}{x:au}(hx:x≠[])(h:bq w=x):∃r,w=x::r:=by
 match w,h with
 |[],h=>exact absurd h.symm hx
 |y::r,h=>exact⟨r,by rw[show y=x from h]⟩
def Qc {w:List au}(h:¬bq w=[]):1<=w.length:=by
 match w,h with
 |[],h=>exact absurd rfl h
 |_::_,_=>simp
def ke {x:au}{r:List au}(hx:x≠[]):bY (x::r)=r:=ak hx
def kd {x:au}{r:List au}{b:Bool}(hx:x≠[]):dH (x::r) b=b:=ak hx
def MX (w:List au):bY w<:+w:=by
 unfold bY;split
 .exact lZ _
 .exact List.drop_suffix 1 w
def pI (w:List au)(nd:List Nd):PB w nd (bY w) nd:=by
 have h:=MX w;have:=h.length_le;exact⟨this,ae,h⟩
theorem Qb {w:List au}{b:Bool}(h:dH w b=false):b=false/\bq w≠[]/\w=bq w::bY w:=by
 unfold dH at h;split at h
 .cases h
 .rename_i hs;refine⟨h,hs, ?_⟩
  match w,hs with
  |x::r,hs=>rw[ke (x:=x) (r:=r) hs];rfl
def nQ (b:Bool)(k:au)(w:List au)(nd:List Nd):PR:=if b=true then none else qD k w nd
theorem E0 {j:Nat}{k:au}(hj:j<3)(h:qW[j]! =k):iZ k=(j:Nat):=by
 obtain rfl|rfl|rfl:j=0\/j=1\/j=2:=ae
 all_goals (subst h;rfl)
def BK {k:au}(h:0<=iZ k):∃j,j<3/\qW[j]! =k/\iZ k=(j:Nat):=by
 unfold iZ at h⊢;by_cases h1:k=[111,115]
 .exact⟨0,ae,h1.symm,by rw[aw h1];rfl⟩
 .by_cases h2:k=[97,114,99,104]
  .exact⟨1,ae,h2.symm,by rw[ak h1,aw h2];rfl⟩
  .by_cases h3:k=[97,98,105]
   .exact⟨2,ae,h3.symm,by rw[ak h1,ak h2,aw h3];rfl⟩
   grind
def Hg (j:Nat)(k s v:au)(bad:Bool):Bool:=!(((!decide (qW[j]! =k) ||bad) ||(!decide (s=[61])&& !decide (s=[33,61]))) ||!c9 v)
def Oo {j:Nat}{k:au}{w:List au}{nd:List Nd}{b:Bool}(hj:j<3)(h:Hg j k (bq w) (bq (bY w)) (dH (bY w) (dH w b))=true):
  nQ b k w nd=some (wj k (bq w) (bq (bY w)) (bY (bY w)) nd)/\iZ k=(j:Nat)/\dH (bY w) (dH w b)=false:=by
 grind [Hg,E0,Qb,nQ,qD,mM]
def RA {k:au}{w:List au}{nd:List Nd}{b:Bool}(h:∀j,j<3->Hg j k (bq w) (bq (bY w)) (dH (bY w) (dH w b))=false):nQ b k w nd=none:=by
 unfold nQ;split
 .rfl
 .rename_i hb
  match w with
  |[]=>rfl
  |[_]=>rfl
  |s::v::r=>
   simp only[qD];rw[ak];intro ha;simp only[mM,bG,cS,aT]at ha;obtain⟨⟨h1,h2⟩,h3⟩:=ha;obtain⟨j,hj,hj2,_⟩:=BK h1;have hs:s≠[]:=by rintro rfl;rcases h3 with h|h<;>cases h
   have hv:v≠[]:=by rintro rfl;cases h2
   have:=h j hj;rw[ke hs,kd hs,kd hv]at this;simp only[Bool.not_eq_true]at hb;subst hb;revert this;simp only[Hg,bq,List.headD_cons,hj2,h2,decide_true];rcases h3 with rfl|rfl<;>simp
def IG (w:List au)(nd:List Nd):PB w nd (bY (bY w)) nd:=(pI w nd).trans (pI _ nd)
def yJ {b:Bool}{k:au}{w:List au}{nd:List Nd}{a:Int}{w':List au}{nd':List Nd}(h:nQ b k w nd=some (a,w',nd')):PB w nd w' nd':=by
 grind [nQ,pM]
def N9 {w:List au}{nd:List Nd}(h1:bq w≠qp)(h2:bq w≠gY):jY w nd=nQ (dH w false) (bq w) (bY w) nd:=by
 match w with
 |[]=>rfl
 |k::r=>
  have h1:k≠qp:=h1;have h2:k≠gY:=h2;rw[xw,ak h1,ak h2];by_cases hk:k=[]
  .subst hk;show qD [] r nd=none
   match r with
   |[]=>rfl
   |[_]=>rfl
   |s::v::r=>rfl
  .rw[ke hk,kd hk];rfl
def NT {R:PR}{o:PO}{w:List au}{nd:List Nd}(h:er R w nd o)(hs:bq o.w≠kY):oP R=none:=by
 rcases h.1 with⟨h1,_⟩|⟨h1,_⟩
 .rw[h1]
  match ho:o.w,hs with
  |[],_=>rfl
  |x::r,hs=>simp only[oP];exact ak hs
 .rw[h1];rfl
def er.pb {R:PR}{o:PO}{w:List au}{nd:List Nd}(h:er R w nd o):PB w nd o.w o.nd:=h.2
def Jt {r:List au}{nd:List Nd}{o:PO}(h:er (jY r nd) r nd o):er (jY (qp::r) nd) (qp::r) nd ⟨(o.nd.length:Nat),o.w,o.nd++[⟨2,o.a,0,0,[]⟩],o.bad⟩:=by
 refine⟨?_,h.2.tail _⟩;rw[xw,aw rfl];rcases h.1 with⟨h1,h2⟩|⟨h1,h2⟩
 .left;rw[h1];exact⟨rfl,h2⟩
 .right;rw[h1];exact⟨rfl,h2⟩
def uc (r:List au)(nd:List Nd):jY (gY::r) nd=oP (iV r nd):=by rw[xw,ak aM,aw rfl]
def Ff {r:List au}{nd:List Nd}{o:PO}(h:er (iV r nd) r nd o)(hs:¬bq o.w=kY):er (jY (gY::r) nd) (gY::r) nd ⟨o.a,bY o.w,o.nd,true⟩:=
 ⟨.inr ⟨by rw[uc,NT h hs],rfl⟩,h.2.uG.trans (pI _ _)⟩
def Pb {r:List au}{nd:List Nd}{o:PO}(h:er (iV r nd) r nd o)(hs:bq o.w=kY):er (jY (gY::r) nd) (gY::r) nd ⟨o.a,bY o.w,o.nd,dH o.w o.bad⟩:=by
 refine⟨?_,h.2.uG.trans (pI _ _)⟩;obtain⟨q,hq⟩:=r9 aM hs;rw[uc,hq,ke aM,kd aM];rcases h.1 with⟨h1,h2⟩|⟨h1,h2⟩
 .grind [oP]
 .right;rw[h1];exact⟨rfl,h2⟩
def Pa {w:List au}{nd:List Nd}{o:PO}(hf:jY w nd=nQ (dH w false) (bq w) (bY w) nd)(h:er (nQ (dH w false) (bq w) (bY w) nd) (bY w) nd o):er (jY w nd) w nd o:=
 ⟨by rw[hf];exact h.1,(pI w nd).trans h.2⟩
def OL {s:au}{o:PO}(h:er (iV (ai s 32) []) (ai s 32) [] o)(hc:((o.bad ||decide ((0:Int)<(o.w.length:Nat))) ||!zw o.nd)=true):Hw s=none:=by
 unfold Hw;rcases h.1 with⟨h1,h2⟩|⟨h1,h2⟩
 .grind
 .rw[h1]
def Jk {s:au}{o:PO}(h:er (iV (ai s 32) []) (ai s 32) [] o)(hc:((o.bad ||decide ((0:Int)<(o.w.length:Nat))) ||!zw o.nd)=false):Hw s=some o.nd:=by
 simp only[dh,bm,bN]at hc;unfold Hw;rcases h.1 with⟨h1,h2⟩|⟨h1,h2⟩
 .rw[h1]
  match hw:o.w with
  |[]=>simp only[hc.2,a7]
  |x::r=>exact absurd hc.1.2 (by rw[hw];simp)
 grind
def Jj {s:au}{nd:List Nd}(h1:¬96<s.length)(h2:¬s=[])(h:Hw s=some nd):mz s=(nd,0):=by simp only[mz,h,ak h1,ak h2]
def Ji {s:au}(h1:¬96<s.length)(h2:¬s=[])(h:Hw s=none):mz s=([],7):=by simp only[mz,h,ak h1,ak h2]
def GG (part:List au->List Nd->PR)(wd:au)(op:Int)(R:PR)(w:List au)(nd:List Nd)(o:PO):Prop:=(o.bad=false/\R=Jg part wd op o.a o.w o.nd\/o.bad=true/\R=none)/\PB w nd o.w o.nd
def GG.first {part:List au->List Nd->PR}{wd:au}{op:Int}{w:List au}{nd:List Nd}{o:PO}(h:er (part w nd) w nd o):GG part wd op (iO part wd op w nd) w nd o:=by
 refine⟨?_,h.2⟩;rcases h.1 with⟨h1,h2⟩|⟨h1,h2⟩
 .left;refine⟨h2, ?_⟩;unfold iO;rw[h1];rfl
 grind [iO]
def GG.next {part:List au->List Nd->PR}(hp:tI part){wd:au}{op:Int}{R:PR}{w:List au}{nd:List Nd}{a:Int}{r:List au}{nd1:List Nd}{o:PO}(h:GG part wd op R w nd ⟨a,wd::r,nd1,false⟩)(h2:er (part r nd1) r nd1 o):
  GG part wd op R w nd ⟨(o.nd.length:Nat),o.w,o.nd++[⟨op,a,o.a,0,[]⟩],o.bad⟩:=by
 refine⟨?_,h.2.trans (h2.2.tail _)⟩;rcases h.1 with⟨_,h1⟩|⟨h1,_⟩
 .rw[L3 hp]at h1;rcases h2.1 with⟨g1,g2⟩|⟨g1,g2⟩
  .left;exact⟨g2,by rw[h1,g1]⟩
  .right;exact⟨g2,by rw[h1,g1]⟩
 .cases h1
def GG.last {part:List au->List Nd->PR}{wd:au}{op:Int}{R:PR}{w:List au}{nd:List Nd}{o:PO}(h:GG part wd op R w nd o)(hx:o.bad=true\/o.w.head? ≠some wd):er R w nd o:=by
 refine⟨?_,h.2⟩;rcases h.1 with⟨h1,h2⟩|⟨h1,h2⟩
 .grind [Jg,OJ]
 .right;exact⟨h2,h1⟩
def gP (w:List au)(s:au):Bool:=match w with
 |x::_=>decide (x=s)
 |[]=>false
def oC (w:List au)(s:au):List au:=if gP w s=true then w.drop 1 else w
def rB (w:List au)(b:Bool):Bool:=if w=[]then true else b
def nF {w:List au}{s:au}(h:gP w s=true):∃r,w=s::r:=by
 match w,h with
 |x::r,h=>exact⟨r,by rw[show x=s by simpa[gP]using h]⟩
theorem tj (s:au)(r:List au):gP (s::r) s=true:=by simp[gP]
def lM (s:au)(r:List au):oC (s::r) s=r:=by grind [oC,tj]
def pw {w:List au}{s:au}(h:gP w s=false):oC w s=w:=by grind [oC]
def zA {w:List au}{s:au}(h:gP w s=false):w.head? ≠some s:=by
 match w,h with
 |[],_=>simp
 |x::r,h=>intro e;have e:x=s:=(by simpa using e);subst e;rw[tj]at h;cases h
def JJ {W w:List au}(h:w<:+W)(hw:1<=w.length):W.length-w.length<W.length/\W[W.length-w.length]! =w[0]! :=by
 have hl:=h.length_le;have he:=List.suffix_iff_eq_drop.1 h
 grind
def Jo {W w:List au}(h:w<:+W)(s:au):(decide (((W.length-w.length:Nat):Int)<(W.length:Nat))&&decide (W[W.length-w.length]! =s))=gP w s:=by
 have hl:=h.length_le
 match w with
 |[]=>
  have:decide (((W.length-([]:List au).length:Nat):Int)<(W.length:Nat))=false:=cJ aR;rw[this];rfl
 |x::r=>
  obtain⟨h1,h2⟩:=JJ h aR;rw[h2,b9 ae,gC];rfl
def JA {W:List au}{x:au}{r:List au}{X:D}{b:Bool}(h:(x::r).length<=W.length):vX (jb W (x::r) X b) 4 1 1 (.int .i64 (((W.length-(x::r).length:Nat):Int)+1))=jb W r X b:=by
 have:((W.length-(x::r).length:Nat):Int)+1=((W.length-r.length:Nat):Int):=by simp only[ax]at h⊢;omega
 rw[this];rfl
def yX (w:List au)(nd:List Nd):PR:=match w with
 |k::r=>qD k r nd
 |[]=>none
def I7 (k:au)(i:Nat):Int:=if iZ k<i then iZ k else-1
theorem I8 (k:au):-1<=iZ k:=by
 grind [iZ]
theorem RM (k:au):iZ k<3:=by
 grind [iZ]
def RL {k:au}{i:Nat}(hi:i<3)(h:tc (i:Int)=k):I7 k (i+1)=(i:Int):=by
 have:iZ k=(i:Nat):=E0 hi (by rw[<-h];exact rU (k:=(i:Int)) ae ae);unfold I7;rw[this,aw ae]
def UY {k:au}{i:Nat}(hi:i<3)(h:¬tc (i:Int)=k):I7 k (i+1)=I7 k i:=by
 have h1:iZ k≠(i:Nat):=by
  intro e;obtain⟨j,hj,hj2,hj3⟩:=BK (k:=k) ae;have:j=i:=ae;subst this;exact h (by rw[<-hj2];exact(rU (k:=(j:Int)) ae ae).symm)
 grind [I8,I7,iZ]
def Zv (k:au):I7 k 0=-1:=by
 have:=I8 k;unfold I7;split
 .omega
 .rfl
def Zw (k:au):I7 k 3=iZ k:=by
 grind [RM,I7]
def Bo (k s v:au):(((decide (iZ k<0) ||!c9 v)) ||(!decide (s=[61])&& !decide (s=[33,61])))=!mM k s v:=by
 unfold mM
 grind
def Lt {w:List au}{nd:List Nd}(h:mM (bq w) (bq (w.drop 1)) (bq ((w.drop 1).drop 1))=true):∃r,w=bq w::bq (w.drop 1)::bq ((w.drop 1).drop 1)::r/\yX w nd=some (wj (bq w) (bq (w.drop 1)) (bq ((w.drop 1).drop 1)) r nd):=by
 match w,h with
 |[],h=>cases h
 |[_],h=>simp[mM,bq,c9]at h
 |[_,_],h=>simp[mM,bq,c9]at h
 |k::s::v::r,h=>exact⟨r,rfl,by simp only[yX,qD];exact aw h⟩
def NM {w:List au}{nd:List Nd}(h:mM (bq w) (bq (w.drop 1)) (bq ((w.drop 1).drop 1))=false):yX w nd=none:=by
 match w,h with
 |[],h=>rfl
 |[_],h=>rfl
 |[_,_],h=>rfl
 |k::s::v::r,h=>simp only[yX,qD];exact ak (by rw[show mM k s v=false from h];simp)
def CX (w:List au)(nd:List Nd):PB w nd (w.drop 1) nd:=by
 have h:w.drop 1<:+w:=List.drop_suffix 1 w;have:=h.length_le;exact⟨this,ae,h⟩
def Bw {w:List au}{nd:List Nd}{a:Int}{w':List au}{nd':List Nd}(h:yX w nd=some (a,w',nd')):PB w nd w' nd':=by
 match w,h with
 |k::r,h=>exact(pM h).uG
def UO {w:List au}{nd:List Nd}(h1:gP w qp=false)(h2:gP w gY=false):jY w nd=yX w nd:=by
 match w,h1,h2 with
 |[],_,_=>rfl
 |k::r,h1,h2=>
  have h1:¬k=qp:=by simpa[gP]using h1
  have h2:¬k=gY:=by simpa[gP]using h2
  rw[xw,ak h1,ak h2];rfl
def Lx {R:PR}{o:PO}{w:List au}{nd:List Nd}(h:er R w nd o)(hs:gP o.w kY=false):oP R=none:=by
 rcases h.1 with⟨h1,_⟩|⟨h1,_⟩
 .rw[h1]
  match ho:o.w,hs with
  |[],_=>rfl
  |x::r,hs=>simp only[oP];exact ak (by simpa[gP]using hs)
 .rw[h1];rfl
def Dh {r:List au}{nd:List Nd}{o:PO}(h:er (iV r nd) r nd o)(hs:gP o.w kY=false):er (jY (gY::r) nd) (gY::r) nd ⟨o.a,o.w,o.nd,true⟩:=
 ⟨.inr ⟨by rw[uc,Lx h hs],rfl⟩,h.2.uG⟩
def Mj {r:List au}{nd:List Nd}{o:PO}{q:List au}(h:er (iV r nd) r nd o)(hs:o.w=kY::q):er (jY (gY::r) nd) (gY::r) nd ⟨o.a,q,o.nd,o.bad⟩:=by
 refine⟨?_,(h.2.uG (x:=gY)).trans (by rw[hs];exact(PB.refl _ _).uG)⟩;rw[uc];rcases h.1 with⟨h1,h2⟩|⟨h1,h2⟩
 .grind [oP]
 .right;rw[h1];exact⟨rfl,h2⟩
def PB.uO {w w':List au}{nd nd':List Nd}{W:List au}(h:PB w nd w' nd')(hW:w<:+W):w'<:+W:=h.2.2.trans hW
def sU (f:Nat->Int):Nat->Nat->Int
 |_,0=>0
 |i,k+1=>if f i=0 then sU f (i+1) k else f i
def fQ (f:Nat->Int)(i n:Nat):Int:=sU f i (n-i)
def pe {f:Nat->Int}{i n:Nat}(h:i<n)(hf:f i=0):fQ f i n=fQ f (i+1) n:=by
 unfold fQ;obtain⟨k,hk⟩:∃k,n-i=k+1:=⟨n-i-1,ae⟩
 grind [sU]
def lD {f:Nat->Int}{i n:Nat}(h:i<n)(hf:f i≠0):fQ f i n=f i:=by
 unfold fQ;obtain⟨k,hk⟩:∃k,n-i=k+1:=⟨n-i-1,ae⟩
 rw[hk];simp only[sU,hf,a8]
def pd {f:Nat->Int}{i n:Nat}(h:n<=i):fQ f i n=0:=by
 unfold fQ;rw[show n-i=0 by omega];rfl
def pT (f:Nat->Int):Nat->Nat->Int×Int
 |_,0=>(0,0)
 |i,k+1=>if f i=0 then pT f (i+1) k else(f i,((i:Nat):Int))
def ji (f:Nat->Int)(i n:Nat):Int×Int:=pT f i (n-i)
def nD {f:Nat->Int}{i n:Nat}(h:i<n)(hf:f i=0):ji f i n=ji f (i+1) n:=by
 unfold ji;obtain⟨k,hk⟩:∃k,n-i=k+1:=⟨n-i-1,ae⟩
 grind [pT]
def j5 {f:Nat->Int}{i n:Nat}(h:i<n)(hf:f i≠0):ji f i n=(f i,((i:Nat):Int)):=by
 unfold ji;obtain⟨k,hk⟩:∃k,n-i=k+1:=⟨n-i-1,ae⟩
 rw[hk];simp only[pT,hf,a8]
def nC {f:Nat->Int}{i n:Nat}(h:n<=i):ji f i n=(0,0):=by
 unfold ji;rw[show n-i=0 by omega];rfl
def gR (r:Rec)(name uB:au):Int:=if fm name=false then 4 else if name=r.name then 8 else if ux uB=false then 6 else 0
def Tn (l:List au)(i:Nat):Bool:=c9 l[i]! && !(decide (0<i)&& !Op.bytesLess l[i-1]! l[i]!)
def mh (l:List au)(alone:Bool):Bool:=(decide (l.length<=6)&&(alone ||decide (l.length=0)))&&cQ (Tn l) 0 l.length
def kZ (r:Rec)(w:ch)(alone:Bool):Int:=if gR r w.name w.range≠0 then gR r w.name w.range else if mh w.feats alone=false then 11 else 0
def oK (r:Rec)(l:List ch):Int:=fQ (fun i=>kZ r l[i]! (decide ((l.length:Int)=1))) 0 l.length
def jD (r:Rec)(n:bw):Int:=if n.any.length=0 then 9 else if 3<n.any.length then 3 else if oK r n.any≠0 then oK r n.any else
 if rV n.when'=false then 7 else if n.option≠[]/\c9 n.option=false then 14 else 0
def qt (r:Rec)(b:fM):Int:=if gR r b.name b.range≠0 then gR r b.name b.range else if rV b.when'=false then 7 else 0
def Mi (l:List bw)(x:au):Bool:=l.any fun n=>decide (n.option=x)
def B0 (l:List bw)(x:au):Bool:=l.any fun n=>decide (n.any.length=1)&&decide (n.any[0]!.name=x)
def m9 (r:Rec)(s:au):Int:=if(dU s).1=2/\Mi r.needs (dU s).2.1=false then 14 else if(dU s).1=3/\B0 r.needs (dU s).2.1=false then 16 else 0
def lH (r:Rec)(of:List au):Int:=fQ (fun i=>m9 r of[i]!) 0 of.length
def n7 (r:Rec):Int×Int:=ji (fun i=>jD r r.needs[i]!) 0 r.needs.length
def tO (r:Rec):Int×Int:=ji (fun i=>qt r r.bars[i]!) 0 r.bars.length
def yY (r:Rec):Int×Int:=ji (fun i=>lH r r.feats[i]!.of) 0 r.feats.length
def eQ (r:Rec):Int×Int:=if(n7 r).1≠0 then n7 r else if(tO r).1≠0 then tO r else if jh r.feats=false then(11,0)else yY r
def Qp (n:Nat)(al:Bool):(decide ((6:Int)<(n:Nat)) ||(decide ((0:Int)<(n:Nat))&& !al))=!(decide (n<=6)&&(al ||decide (n=0))):=by
 grind
def wf_c (l:List au)(i:Nat):(!c9 l[i]! ||(decide ((0:Int)<(i:Nat))&& !Op.bytesLess l[i-1]! l[i]!))=!Tn l i:=by
 unfold Tn
 grind
def wf_2 (l:List au)(al:Bool):(cQ (fun i=>c9 l[i]!) 0 l.length&&((decide (l.length<=6)&&rising l)&&(al ||decide (l.length=0))))=mh l al:=by
 grind [cQ,Tn,c9,rising,fG,mh]
def Zu (k:Int)(x:au)(n:bw):Bool:=(decide (k=2)&&decide (n.option=x)) ||((decide (k=3)&&decide ((n.any.length:Int)=1))&&decide (n.any[0]!.name=x))
def UX (k:Int):Int:=if k=2 then 14 else if k=3 then 16 else 0
def Oz (r:Rec)(s:au):m9 r s=if r.needs.any (Zu (dU s).1 (dU s).2.1)=true then 0 else UX (dU s).1:=by
 grind [m9,UX,Mi,B0,dU,Zu]
def tL {α:Type} [Inhabited α]{c:α->Bool}{l:List α}{i:Nat}(h:i<l.length)(hc:c l[i]! =true):(l.drop i).any c=true:=by
 rw[iT h,List.any_cons]
 grind
def yH {α:Type} [Inhabited α]{c:α->Bool}{l:List α}{i:Nat}(h:i<l.length)(hc:c l[i]! =false):(l.drop i).any c=(l.drop (i+1)).any c:=by
 rw[iT h,List.any_cons]
 grind
def tK {α:Type}{c:α->Bool}{l:List α}{i:Nat}(h:l.length<=i):(l.drop i).any c=false:=by
 rw[k9 h];rfl
def ff:au:=[110,101,101,100]
def ic:au:=[97,110,121]
def fV:au:=[119,104,101,110]
def dt:au:=[111,112,116,105,111,110]
def ie:au:=[98,97,114]
def cN:au:=[102,101,97,116,117,114,101]
def ef:au:=[112,97,99,107,97,103,101]
def mH:au:=[102,117,108,108]
def eh:au:=[98,97,114,101]
def cw (l:List au):au:=aV [32] l++[10]
def nj (w:ch):List au:=[ic,w.name,if w.feats.length=0 then [45]else aV [44] w.feats,if w.bare=true then eh else mH,w.range]
def iW (s:au):au:=if s=[]then []else cw [fV,s]
def sr (s:au):au:=if s=[]then []else cw [dt,s]
def qX (n:bw):au:=cw [ff]++(n.any.map fun w=>cw (nj w)).flatten++iW n.when'++sr n.option
def wW (b:fM):au:=cw [ie,b.name,b.range]++iW b.when'
def qO (f:cv):au:=cw ([cN,f.name]++f.of)
def qS (r:Rec):au:=cw [ef,r.name,oq r.v]
def pJ (r:Rec):au:=qS r++(r.needs.map qX).flatten++(r.bars.map wW).flatten++(r.feats.map qO).flatten
def c7 (r:Rec):Int×Int:=if fm r.name=false then(4,0)else if fT r.v=false then(5,0)else if 8<r.needs.length\/8<r.bars.length then(3,0)else
 if(eQ r).1≠0 then eQ r else if 4096<(pJ r).length then(3,0)else(0,0)
def fu (r:Rec):au×Int:=if(c7 r).1≠0 then([],(c7 r).1)else(pJ r,0)
def ch.sm (w:ch):Prop:=(w.name.length<=1048576/\w.range.length<=1048576)/\∀t∈w.feats,t.length<=1048576
def bw.sm (n:bw):Prop:=(∀w∈n.any,w.sm)/\n.when'.length<=1048576/\n.option.length<=1048576
def fM.sm (b:fM):Prop:=b.name.length<=1048576/\b.range.length<=1048576/\b.when'.length<=1048576
def gW (r:Rec):Prop:=(r.name.length<=1048576/\r.v.sm)/\(∀n∈r.needs,n.sm)/\(∀b∈r.bars,b.sm)/\xx r.feats
def Fg {r:Rec}{e:Int×Int}(h:n7 r=e)(hn:e.1≠0):eQ r=e:=by grind [eQ]
def zK {r:Rec}{e:Int×Int}(h0:n7 r=(0,0))(h:tO r=e)(hn:e.1≠0):eQ r=e:=by grind [eQ]
def Fh {r:Rec}(h0:n7 r=(0,0))(h1:tO r=(0,0))(h:jh r.feats=false):eQ r=(11,0):=by grind [eQ]
def uv {r:Rec}{e:Int×Int}(h0:n7 r=(0,0))(h1:tO r=(0,0))(h:jh r.feats=true)(h2:yY r=e):eQ r=e:=by grind [eQ]
def EF (f:Nat->Int):∀(k i:Nat),(pT f i k).1=0->pT f i k=(0,0)
 |0,_,_=>rfl
 |k+1,i,h=>by
  simp only[pT]at h⊢;by_cases hf:f i=0
  .rw[aw hf]at h⊢;exact EF f k (i+1) h
  .rw[ak hf]at h;exact absurd h hf
def Fi {r:Rec}(h:(eQ r).1=0):eQ r=(0,0):=by
 unfold eQ at h⊢;split
 .rename_i h1;rw[aw h1]at h;exact absurd h h1
 .rename_i h1;rw[ak h1]at h;split
  .rename_i h2;rw[aw h2]at h;exact absurd h h2
  .rename_i h2;rw[ak h2]at h;split
   .rename_i h3;rw[aw h3]at h;cases h
   .rename_i h3;rw[ak h3]at h;exact EF _ _ _ h
def o9 {r:Rec}{e:Int×Int}(h0:fm r.name=true)(h1:fT r.v=true)(h2:¬8<r.needs.length)(h3:¬8<r.bars.length)(hp:eQ r=e)(hn:e.1≠0):c7 r=e:=by
 grind [c7]
def tT {r:Rec}(h0:fm r.name=true)(h1:fT r.v=true)(h2:¬8<r.needs.length)(h3:¬8<r.bars.length)(hp:eQ r=(0,0)):c7 r=if 4096<(pJ r).length then(3,0)else(0,0):=by
 grind [c7]
def zi (r:Rec):Prop:=(fm r.name=true/\fT r.v=true)/\(r.needs.length<=8/\r.bars.length<=8)/\eQ r=(0,0)
def si (n:Nat)(l:List au):List au:=if l.length<=n then l else l.take (n-1)++[aV [32] (l.drop (n-1))]
def eS (n:Nat)(op:Bool)(t:au):List au:=if op=true then si n (ai t 32)else ai t 32
def eB (w:au)(n:Nat)(op:Bool)(t:au):Option (List au):=
 if(eS n op t)[0]! =w/\(n=0\/(eS n op t).length=n)/\[]∉eS n op t then some (eS n op t)else none
def cD (w:au)(n:Nat)(op:Bool):List au->Option (List au×List au)
 |[]=>none
 |t::r=>match eB w n op t with
  |some l=>some (l,r)
  |none=>none
def cB (ls:List au):au×List au:=match cD fV 2 true ls with
 |some (l,r)=>(l[1]!,r)
 |none=>([],ls)
def lr (l:List au):Bool:=decide (l[3]! =eh) ||decide (l[3]! =mH)
def gZ (l:List au):ch:=⟨l[1]!,l[4]!,if l[2]! =[45]then []else ai l[2]! 44,decide (l[3]! =eh)⟩
def cG:List au->List ch×List au
 |[]=>([],[])
 |t::r=>match eB ic 5 true t with
  |some l=>if lr l=true then(gZ l::(cG r).1,(cG r).2)else([],t::r)
  |none=>([],t::r)
def oT (ls:List au):au×List au:=match cD dt 2 false ls with
 |some (l,r)=>(l[1]!,r)
 |none=>([],ls)
def eY (ls:List au):bw×List au:=(⟨(cG ls).1,(cB (cG ls).2).1,(oT (cB (cG ls).2).2).1⟩,(oT (cB (cG ls).2).2).2)
def mU:Nat->List au->List bw×List au
 |0,ls=>([],ls)
 |f+1,ls=>match cD ff 1 false ls with
  |some (_,r)=>((eY r).1::(mU f (eY r).2).1,(mU f (eY r).2).2)
  |none=>([],ls)
def qk:Nat->List au->List fM×List au
 |0,ls=>([],ls)
 |f+1,ls=>match cD ie 3 true ls with
  |some (l,r)=>(⟨l[1]!,l[2]!,(cB r).1⟩::(qk f (cB r).2).1,(qk f (cB r).2).2)
  |none=>([],ls)
def dJ:List au->List cv×List au
 |[]=>([],[])
 |t::r=>match eB cN 0 false t with
  |some l=>if 2<=l.length then(⟨l[1]!,l.drop 2⟩::(dJ r).1,(dJ r).2)else([],t::r)
  |none=>([],t::r)
def gT:Rec:=⟨[],gr,[],[],[]⟩
def eD (ls:List au):List bw×List au:=mU ls.length ls
def iU (ls:List au):List fM×List au:=qk ls.length ls
def sA (nm:au)(v:cy)(r:List au):Rec×List au:=(⟨nm,v,(eD r).1,(iU (eD r).2).1,(dJ (iU (eD r).2).2).1⟩,(dJ (iU (eD r).2).2).2)
def pD (ls:List au):Option (Rec×List au):=match cD ef 3 false ls with
 |some (l,r)=>match gL l[2]! with
  |some v=>some (sA l[1]! v r)
  |none=>none
 |none=>none
theorem jA {w:au}{n:Nat}{op:Bool}{ls l r:List au}(h:cD w n op ls=some (l,r)):r.length+1=ls.length:=by
 match ls,h with
 |t::q,h=>
  grind [cD]
 |[],h=>cases h
theorem sc (ls:List au):(cB ls).2.length<=ls.length:=by
 grind [cB,jA]
def O5 (ls:List au):(oT ls).2.length<=ls.length:=by
 grind [oT,jA]
def wS:∀ls:List au,(cG ls).2.length<=ls.length
 |[]=>aQ _
 |t::r=>by
  have:=wS r
  grind [cG]
theorem vC (ls:List au):(eY ls).2.length<=ls.length:=by
 have h1:=wS ls;have h2:=sc (cG ls).2;have h3:=O5 (cB (cG ls).2).2;show(oT (cB (cG ls).2).2).2.length<=_;omega
theorem BR:∀(f g:Nat) (ls:List au),ls.length<=f->ls.length<=g->mU f ls=mU g ls
 |0,0,_,_,_=>rfl
 |0,g+1,ls,h,_=>by
  have:ls=[]:=qj.1 ae;subst this;rfl
 |f+1,0,ls,_,h=>by
  have:ls=[]:=qj.1 ae;subst this;rfl
 |f+1,g+1,ls,hf,hg=>by
  simp only[mU];cases h:cD ff 1 false ls with
  |none=>rfl
  |some p=>
   obtain⟨l,r⟩:=p;have h1:=jA h;have h2:=vC r;simp only;rw[BR f g _ ae ae]
theorem Em:∀(f g:Nat) (ls:List au),ls.length<=f->ls.length<=g->qk f ls=qk g ls
 |0,0,_,_,_=>rfl
 |0,g+1,ls,h,_=>by
  have:ls=[]:=qj.1 ae;subst this;rfl
 |f+1,0,ls,_,h=>by
  have:ls=[]:=qj.1 ae;subst this;rfl
 |f+1,g+1,ls,hf,hg=>by
  simp only[qk];cases h:cD ie 3 true ls with
  |none=>rfl
  |some p=>
   obtain⟨l,r⟩:=p;have h1:=jA h;have h2:=sc r;simp only;rw[Em f g _ ae ae]
def wE {ls l r:List au}(h:cD ff 1 false ls=some (l,r)):eD ls=((eY r).1::(eD (eY r).2).1,(eD (eY r).2).2):=by
 grind [jA,vC,eD,mU,BR,eY]
def qY {ls:List au}(h:cD ff 1 false ls=none):eD ls=([],ls):=by
 unfold eD
 match ls,h with
 |[],_=>rfl
 |t::r,h=>simp only[ax,mU,h]
def yN {ls l r:List au}(h:cD ie 3 true ls=some (l,r)):iU ls=(⟨l[1]!,l[2]!,(cB r).1⟩::(iU (cB r).2).1,(iU (cB r).2).2):=by
 grind [jA,sc,iU,qk,Em,cB]
def sJ {ls:List au}(h:cD ie 3 true ls=none):iU ls=([],ls):=by
 unfold iU
 match ls,h with
 |[],_=>rfl
 |t::r,h=>simp only[ax,qk,h]
structure jc where
 r:Rec
 st:Nat
 deriving Inhabited
def oa (t:au)(n:Nat):Option (List au×au):=
 if n<(ai t 32).length/\[]∉(ai t 32).take n/\aV [32] ((ai t 32).drop n)≠[]then some ((ai t 32).take n,aV [32] ((ai t 32).drop n))else none
def vI (l:List au)(n:Nat):Bool:=decide (l.length=n)&& !l.contains []
def gp {α:Type}(l:List α)(f:α->α):List α:=match l.getLast? with
 |some x=>l.dropLast++[f x]
 |none=>[]
def zj (l:List au):Option jc:=if(l.length=3/\l[0]! =ef)/\l[1]! ≠[]then(match gL l[2]! with
 |some v=>some ⟨⟨l[1]!,v,[],[],[]⟩,1⟩
 |none=>none)else none
def uU (x:jc)(t:au):Option jc:=match oa t 4 with
 |some (l,u)=>if x.st=2/\lr l=true then some ⟨{x.r with needs:=gp x.r.needs fun n=>{n with any:=n.any++[⟨l[1]!,u,if l[2]! =[45]then []else ai l[2]! 44,decide (l[3]! =eh)⟩]}},2⟩else none
 |none=>none
def oJ (x:jc)(t:au):Option jc:=match oa t 1 with
 |some (_,u)=>if x.st=2 then some ⟨{x.r with needs:=gp x.r.needs fun n=>{n with when':=u}},3⟩else if x.st=5 then some ⟨{x.r with bars:=gp x.r.bars fun b=>{b with when':=u}},6⟩else none
 |none=>none
def eu (x:jc)(t:au):Option jc:=
 let l:=ai t 32
 if x.st=0 then zj l
 else if l[0]! =ff then(if l.length=1/\x.st<5 then some ⟨{x.r with needs:=x.r.needs++[⟨[],[],[]⟩]},2⟩else none)
 else if l[0]! =ic then uU x t
 else if l[0]! =fV then oJ x t
 else if l[0]! =dt then(if vI l 2=true/\(x.st=2\/x.st=3)then some ⟨{x.r with needs:=gp x.r.needs fun n=>{n with option:=l[1]!}},4⟩else none)
 else if l[0]! =ie then(match oa t 2 with
  |some (w,u)=>if x.st<=6 then some ⟨{x.r with bars:=x.r.bars++[⟨w[1]!,u,[]⟩]},5⟩else none
  |none=>none)
 else if l[0]! =cN then(if 2<=l.length/\vI l l.length=true then some ⟨{x.r with feats:=x.r.feats++[⟨l[1]!,l.drop 2⟩]},7⟩else none)
 else none
def UL (a b:Bool):jg (D.bool a).cells (D.bool b).cells=decide (a=b):=by cases a<;>cases b<;>rfl
theorem ch.wO (a b:ch):decide (a=b)=(((decide (a.name=b.name)&&decide (a.range=b.range))&&decide (a.bare=b.bare))&&decide (a.feats=b.feats)):=by
 obtain⟨a1,a2,a3,a4⟩:=a;obtain⟨b1,b2,b3,b4⟩:=b
 grind
theorem bw.wO (a b:bw):decide (a=b)=((decide (a.when'=b.when')&&decide (a.option=b.option))&&decide (a.any=b.any)):=by
 obtain⟨a1,a2,a3⟩:=a;obtain⟨b1,b2,b3⟩:=b
 grind
def bw.ZS {a b:bw}(e1:a.when'=b.when')(e2:a.option=b.option)(e3:a.any.length=b.any.length):decide (a=b)=cQ (fun i=>decide (a.any[i]! =b.any[i]!)) 0 a.any.length:=by
 grind [bw.wO,pF]
theorem Rec.wO (a b:Rec):decide (a=b)=((((decide (a.name=b.name)&&decide (a.v=b.v))&&decide (a.needs=b.needs))&&decide (a.bars=b.bars))&&decide (a.feats=b.feats)):=by
 obtain⟨a1,a2,a3,a4,a5⟩:=a;obtain⟨b1,b2,b3,b4,b5⟩:=b
 grind
def cv.eq2 {a b:cv}(h1:a.name=b.name)(h2:a.of=b.of):a=b:=by
 obtain⟨a1,a2⟩:=a;obtain⟨b1,b2⟩:=b
 grind
def zb {f:Nat->Int}:∀{k i:Nat},sU f i k=0->∀j,i<=j->j<i+k->f j=0
 |0,i,_,j,h1,h2=>absurd h2 ae
 |k+1,i,h,j,h1,h2=>by
  simp only[sU]at h;by_cases hf:f i=0
  .rw[aw hf]at h;by_cases hj:j=i
   .rw[hj];exact hf
   .exact zb h j ae ae
  .rw[ak hf]at h;exact absurd h hf
def Hb {f:Nat->Int}{n:Nat}(h:fQ f 0 n=0)(j:Nat)(hj:j<n):f j=0:=zb h j ae ae
def zc {f:Nat->Int}:∀{k i:Nat},(pT f i k).1=0->∀j,i<=j->j<i+k->f j=0
 |0,i,_,j,h1,h2=>absurd h2 ae
 |k+1,i,h,j,h1,h2=>by
  simp only[pT]at h;by_cases hf:f i=0
  .rw[aw hf]at h;by_cases hj:j=i
   .rw[hj];exact hf
   .exact zc h j ae ae
  .rw[ak hf]at h;exact absurd h hf
def Ha {f:Nat->Int}{n:Nat}(h:(ji f 0 n).1=0)(j:Nat)(hj:j<n):f j=0:=zc h j ae ae
def ch.fit (w:ch):Prop:=w.sm/\(w.feats.length<=6/\∀t∈w.feats,t.length<=12)
def bw.fit (n:bw):Prop:=(n.any.length<=3/\∀w∈n.any,w.fit)/\n.when'.length<=1048576/\n.option.length<=1048576
def cv.fit (x:cv):Prop:=x.sm/\x.of.length<=6
structure Rec.fit (r:Rec):Prop where
 nm:r.name.length<=1048576
 v:r.v.sm
 ns:r.needs.length<=8
 n:∀x∈r.needs,x.fit
 bs:r.bars.length<=8
 b:∀x∈r.bars,x.sm
 fs:r.feats.length<=8
 f:∀x∈r.feats,x.fit
theorem uo {α:Type} [Inhabited α]{l:List α}{x:α}(h:x∈l):∃i,i<l.length/\l[i]! =x:=by
 obtain⟨i,hi,e⟩:=List.mem_iff_getElem.1 h;exact⟨i,hi,by rw[<-e];simp[hi]⟩
def Qr {r:Rec}{w:ch}{al:Bool}(h:kZ r w al=0)(hs:w.sm):w.fit:=by
 refine⟨hs, ?_⟩
 grind [kZ,mh,fG,uo,Tn,c9]
def OP {r:Rec}{n:bw}(h:jD r n=0)(hs:n.sm):n.fit:=by
 unfold jD at h;split at h
 .cases h
 split at h
 .cases h
 rename_i h1 h2;split at h
 .rename_i h3;exact absurd h h3
 rename_i h3;refine⟨⟨ae,fun w hw=>?_⟩,hs.2⟩;obtain⟨i,hi,rfl⟩:=uo hw;exact Qr (Hb (Classical.not_not.1 h3) i hi) (hs.1 _ hw)
def BF {r:Rec}(h:zi r/\gW r):r.fit:=by
 obtain⟨⟨_,⟨h1,h2⟩,hp⟩,⟨s1,s2⟩,s3,s4,s5⟩:=h;have h0:(n7 r).1=0/\jh r.feats=true:=by
  grind [eQ]
 obtain⟨h3,h4⟩:=h0;simp only[jh,bG,aT,fG]at h4;refine⟨s1,s2,h1,fun x hx=>?_,h2,s4,h4.1,fun x hx=>⟨s5 x hx, ?_⟩⟩
 .obtain⟨i,hi,rfl⟩:=uo hx;exact OP (Ha h3 i hi) (s3 _ hx)
 grind [uo,jZ,mP]
def lI (x:UInt8)(B:Nat):∀l:List au,(∀t∈l,t.length<=B)->(aV [x] l).length<=l.length*(B+1)
 |[],_=>by simp[aV]
 |[t],h=>by have:=h t (.head _);simp only[aV,ax,aB];omega
 |t::u::r,h=>by
  have h1:=h t (.head _);have h2:=lI x B (u::r) fun y hy=>h y (.tail _ hy)
  simp only[aV,cb,ax,aB,Nat.succ_mul]at h2⊢;omega
def AF {w:ch}(h:w.fit):(aV [44] w.feats).length<=6291462:=by
 have h1:=lI 44 1048576 w.feats h.1.2;have h2:=fh (1048576+1) h.2.1;omega
def DT {w:ch}(h:w.fit):(aV [44] w.feats).length<=78:=by
 have h1:=lI 44 12 w.feats h.2.2;have h2:=fh (12+1) h.2.1;omega
def jE (w:ch):au:=cw (nj w)
def wg {w:ch}(h:w.fit):(jE w).length<=8400000:=by
 have h1:=AF h;have h2:=h.1.1;simp only[jE,cw,nj,aV,cb,ax,aB]
 grind [ic,eh,mH]
def nM {s:au}(h:s.length<=1048576):(iW s).length<=1048590:=by
 unfold iW;split
 .simp
 .simp only[cw,aV,fV,cb,ax,aB];omega
def O8 {s:au}(h:s.length<=1048576):(sr s).length<=1048590:=by
 unfold sr;split
 .simp
 .simp only[cw,aV,dt,cb,ax,aB];omega
def uf {α:Type}(q:α->au)(B:Nat){l:List α}(h:∀x∈l,(q x).length<=B)(i:Nat):(((l.take i).map q).flatten).length<=i*B:=by
 have h1:=qQ q B (l.take i) fun x hx=>h x (lf hx)
 have h2:=fh B (List.length_take_le i l);omega
theorem rR {α:Type} [Inhabited α](q:α->au){l:List α}{i:Nat}(h:i<l.length):((l.take (i+1)).map q).flatten=((l.take i).map q).flatten++q l[i]! :=by
 rw[List.take_add_one,List.getElem?_eq_getElem h,List.map_append,List.flatten_append];simp[h]
def Mb {n:bw}(h:n.fit):(qX n).length<=27400000:=by
 have h1:=qQ jE 8400000 n.any fun w hw=>wg (h.1.2 w hw)
 have h2:=fh 8400000 h.1.1;have h3:=nM h.2.1;have h4:=O8 h.2.2;have h5:(cw [ff]).length=5:=rfl;unfold jE at h1
 grind [qX]
def NP {b:fM}(h:b.sm):(wW b).length<=3145800:=by
 have h1:=nM h.2.2;have h2:=h.1;have h3:=h.2.1;simp only[wW,cw,aV,ie,cb,ax,aB];omega
def Bx {x:cv}(h:x.fit):(qO x).length<=8400000:=by
 have h1:=lI 32 1048576 ([cN,x.name]++x.of) (by
  intro t ht;simp only[fY,fk,dp]at ht;rcases ht with rfl|rfl|ht
  .simp[cN]
  .exact h.1.1
  .exact h.1.2.2 _ ht)
 have h2:=h.2
 grind [cN,qO,cw]
def LW {r:Rec}(h1:r.name.length<=1048576)(h2:r.v.sm):(qS r).length<=3145800:=by
 have h3:=Az r.v h2;simp only[qS,cw,aV,ef,cb,ax,aB];omega
def ed (n:bw)(j:Nat):au:=cw [ff]++((n.any.take j).map jE).flatten
def RQ (n:bw):ed n 0=[110,101,101,100,10]:=rfl
def n5 {n:bw}{j:Nat}(h:j<n.any.length):ed n (j+1)=ed n j++jE n.any[j]! :=by grind [ed,rR,jE]
def vB {n:bw}{j:Nat}(h:n.any.length<=j):qX n=ed n j++iW n.when'++sr n.option:=by
 rw[ed,ey h];rfl
def BO {n:bw}(h:n.fit)(j:Nat)(hj:j<=3):(ed n j).length<=25200005:=by
 have h1:=uf jE 8400000 (fun w hw=>wg (h.1.2 w hw)) j;have h2:=fh 8400000 hj;have h5:(cw [ff]).length=5:=rfl
 grind [ed]
def kC (r:Rec)(i:Nat):au:=qS r++((r.needs.take i).map qX).flatten
def Aw (r:Rec)(i:Nat):au:=kC r r.needs.length++((r.bars.take i).map wW).flatten
def Cw (r:Rec)(i:Nat):au:=Aw r r.bars.length++((r.feats.take i).map qO).flatten
def Qi (r:Rec):kC r 0=qS r:=by simp[kC]
def Qj (r:Rec):Aw r 0=kC r r.needs.length:=by simp[Aw]
def Qk (r:Rec):Cw r 0=Aw r r.bars.length:=by simp[Cw]
def DO (r:Rec):Cw r r.feats.length=pJ r:=by grind [Cw,Aw,kC,pJ]
def mF {r:Rec}{i:Nat}(h:i<r.needs.length):kC r (i+1)=kC r i++qX r.needs[i]! :=by grind [kC,rR,qX]
def Gd {r:Rec}{i:Nat}(h:i<r.bars.length):Aw r (i+1)=Aw r i++wW r.bars[i]! :=by grind [Aw,rR,wW]
def Gf {r:Rec}{i:Nat}(h:i<r.feats.length):Cw r (i+1)=Cw r i++qO r.feats[i]! :=by grind [Cw,rR,qO]
def DM {r:Rec}(h:r.fit)(i:Nat)(hi:i<=r.needs.length):(kC r i).length<=222400000:=by
 have a0:=LW h.nm h.v;have a1:=uf qX 27400000 (fun x hx=>Mb (h.n x hx)) i;have b1:=fh 27400000 (dD hi h.ns);simp only[kC,cb];omega
def DN {r:Rec}(h:r.fit)(i:Nat)(hi:i<=r.bars.length):(Aw r i).length<=247600000:=by
 have a0:=DM h r.needs.length (aQ _);have a1:=uf wW 3145800 (fun x hx=>NP (h.b x hx)) i;have b1:=fh 3145800 (dD hi h.bs);simp only[Aw,cb];omega
def JO {r:Rec}(h:r.fit)(i:Nat)(hi:i<=r.feats.length):(Cw r i).length<=314800000:=by
 have a0:=DN h r.bars.length (aQ _);have a1:=uf qO 8400000 (fun x hx=>Bx (h.f x hx)) i;have b1:=fh 8400000 (dD hi h.fs);simp only[Cw,cb];omega
def qH {r:Rec}(h:(c7 r).1=0):zi r:=by
 unfold c7 at h;split at h
 .cases h
 split at h
 .cases h
 split at h
 .cases h
 rename_i a b c;split at h
 .rename_i d;exact absurd h d
 rename_i d;exact⟨⟨by simpa using a,by simpa using b⟩,⟨ae,ae⟩,Fi (Classical.not_not.1 d)⟩
def Au (r:Rec):Int:=if(fu r).2≠0 then 0 else F7 (fu r).1
def ec (l:List au):cy×Bool:=if l.length=3 then(⟨ei l[0]!,ei l[1]!,ei l[2]!,[],[]⟩,(fS l[0]! &&fS l[1]!)&&fS l[2]!)else(gr,false)
def N3 {c:UInt8}(h:bp c.toNat=true):dg (c.toNat-48)=c:=by
 simp only[bp,bG,aT]at h;have h1:48<=c.toNat:=ae;have h2:c.toNat<=57:=ae;apply jq.1;simp only[dg];simp;omega
def wq (s:au)(h0:s≠[])(hd:∀c∈s,bp c.toNat=true)(hz:1<s.length->at8 s 0≠48):eM (dX s)=s:=by
 obtain⟨r,c,rfl⟩:∃r c,s=r++[c]:=⟨s.dropLast,s.getLast h0,(List.dropLast_concat_getLast h0).symm⟩
 have hc:=hd c aR;have hc2:=hc;simp only[bp,bG,aT]at hc2;rw[Hz];by_cases hr:r=[]
 .subst hr;have:dX ([]:au)=0:=rfl;rw[this,pR ae];simp[N3 hc]
 .have hz0:at8 (r++[c]) 0≠48:=hz (by have:=List.length_pos_iff.2 hr;simp only[cb,List.length_singleton];omega);have e0:at8 (r++[c]) 0=at8 r 0:=by
   cases r with
   |nil=>exact absurd rfl hr
   |cons b q=>rfl
  have ih:=wq r hr (fun x hx=>hd x (by simp[hx])) (fun _=>by rw[<-e0];exact hz0);have hn:1<=dX r:=by
   cases r with
   |nil=>exact absurd rfl hr
   |cons b q=>
    grind [bp,at8,BW]
  rw[pQ ae,show(dX r*10+(c.toNat-48)) /10=dX r by omega,show(dX r*10+(c.toNat-48))%10=c.toNat-48 by omega,ih,N3 hc]
termination_by s.length
decreasing_by all_goals simp_all
def vb {t:au}(h:fS t=true):eM (ei t).toNat=t:=by
 have h2:=h;simp only[fS,bG,aT,fG,bg,dR,bm]at h2;obtain⟨⟨⟨⟨h3,_⟩,h4⟩,h5⟩,_⟩:=h2;rw[ei,aw h,Int.toNat_natCast];refine wq t (by rintro rfl;simp at h3) (fun c hc=>?_) (fun h=>?_)
 .obtain⟨i,hi,rfl⟩:=List.mem_iff_getElem.1 hc
  grind [at8]
 grind
def p8 (s:au)(b:Int):s.take (aJ s b).2.length=(aJ s b).2:=by
 grind [aJ,ju]
theorem lP (s:au)(b:Int):(s.drop (aJ s b).2.length=[]/\(aJ s b).1=[])\/∃x:UInt8,(x.toNat:Int)=b/\s.drop (aJ s b).2.length=x::(aJ s b).1:=by
 unfold aJ ju;split
 .rename_i k h;right;obtain⟨hk,hx,_⟩:=List.findIdx?_eq_some_iff_getElem.1 h;simp only[cg]at hk hx;refine⟨s[k],by simpa using hx, ?_⟩;simp only[fX,bT];rw[show min k s.length=k by omega,iT hk]
 .left;simp
def dC (s:au):cy:=⟨(ec (ai (aJ (aJ s 43).2 45).2 46)).1.major,(ec (ai (aJ (aJ s 43).2 45).2 46)).1.minor,(ec (ai (aJ (aJ s 43).2 45).2 46)).1.patch,(aJ (aJ s 43).2 45).1,(aJ s 43).1⟩
def Er {s:au}{b:Int}{a r:au}(h:(s.drop (aJ s b).2.length=[]/\(aJ s b).1=[])\/∃x:UInt8,(x.toNat:Int)=b/\s.drop (aJ s b).2.length=x::(aJ s b).1)(x:UInt8)(hx:(x.toNat:Int)=b):((s.drop (aJ s b).2.length).length≠1->s.drop (aJ s b).2.length=if(aJ s b).1=[]then []else x::(aJ s b).1)/\((s.drop (aJ s b).2.length).length=1->(aJ s b).1=[]):=by
 rcases h with⟨h1,h2⟩|⟨y,hy,h1⟩
 .rw[h1,h2];simp
 .have:y=x:=jq.1 ae
  grind
def Qn (s:au):gL s=if(((ec (ai (aJ (aJ s 43).2 45).2 46)).2=true/\((aJ s 43).2.drop (aJ (aJ s 43).2 45).2.length).length≠1)/\(s.drop (aJ s 43).2.length).length≠1)/\fT (dC s)=true then some (dC s)else none:=by
 have t1:=p8 s 43;have d1:=Er (a:=[]) (r:=[]) (lP s 43) 43 rfl;have t2:=p8 (aJ s 43).2 45;have d2:=Er (a:=[]) (r:=[]) (lP (aJ s 43).2 45) 45 rfl;have e1:=List.take_append_drop (aJ s 43).2.length s;have e2:=List.take_append_drop (aJ (aJ s 43).2 45).2.length (aJ s 43).2;rw[t1]at e1;rw[t2]at e2;unfold gL dC;dsimp only;generalize aJ s 43=A at*
 generalize aJ A.2 45=B at*
 have hj:=ko (b:=46) (x:=46) rfl B.2;generalize ai B.2 46=L at*
 unfold ec;by_cases hT:L.length=3/\fS L[0]! =true/\fS L[1]! =true/\fS L[2]! =true
 .rw[aw hT];obtain⟨h3,n0,n1,n2⟩:=hT;rw[aw h3];simp only[n0,n1,n2,Bool.and_self,cu];by_cases hv:fT ⟨ei L[0]!,ei L[1]!,ei L[2]!,B.1,A.1⟩=true
  .simp only[hv,cu,cx,oq,a7,xj,vb n0,vb n1,vb n2];have hB:L[0]! ++([46]:au)++L[1]! ++([46]:au)++L[2]! =B.2:=by
    rw[<-hj]
    match L,h3 with
    |[a,b,c],_=>simp[aV]
   rw[hB];by_cases c1:(s.drop A.2.length).length=1
   .have h1:=d1.2 c1;rw[ak,ak (fun h=>h.2 c1)];intro h;have h':=aj List.length h;have h2:=aj List.length e1;have h4:=aj List.length e2;simp only[h1,a7,cb,aB]at h' h2 h4;by_cases c2:(A.2.drop B.2.length).length=1
    .rw[aw (d2.2 c2)]at h';simp only[aB]at h';omega
    .rw[<-d2.1 c2]at h';omega
   .by_cases c2:(A.2.drop B.2.length).length=1
    .have h1:=d2.2 c2;rw[ak,ak (fun h=>h.1 c2)];intro h;have h':=aj List.length h;have h2:=aj List.length e1;have h4:=aj List.length e2;rw[<-d1.1 c1]at h';simp only[h1,a7,cb,aB]at h' h2 h4;omega
    .rw[<-d1.1 c1,<-d2.1 c2,e2,e1,aw rfl,aw ⟨c2,c1⟩]
  .rw[ak (fun h=>hv h.1),ak (fun h=>hv h.2)]
 .rw[ak hT,ak];rintro⟨⟨⟨h,_⟩,_⟩,_⟩;split at h
  .rename_i h3;simp only[bG]at h;exact hT ⟨h3,h.1.1,h.1.2,h.2⟩
  .cases h
def It {s:au}{b:Int}(h:s.drop (aJ s b).2.length≠[]):1<=(s.drop (aJ s b).2.length).length/\(s.drop (aJ s b).2.length).drop 1=(aJ s b).1:=by
 grind [lP]
def Is {s:au}{b:Int}(h:s.drop (aJ s b).2.length=[]):(aJ s b).1=[]:=by
 grind [lP]
def Iu (l:List au):(ec l).1=⟨(ec l).1.major,(ec l).1.minor,(ec l).1.patch,[],[]⟩:=by
 unfold ec;split<;>rfl
def vr (l:List au)(x:au)(i:Nat):Int:=match(l.drop i).findIdx? (fun t=>decide (x=t))with
 |some k=>((i+k:Nat):Int)
 |none=>-1
def RC {l:List au}{x:au}{i:Nat}(h:i<l.length)(he:x=l[i]!):vr l x i=(i:Nat):=by
 unfold vr;rw[iT h,List.findIdx?_cons]
 grind
def RE {l:List au}{x:au}{i:Nat}(h:i<l.length)(he:¬x=l[i]!):vr l x i=vr l x (i+1):=by
 unfold vr;have:¬x=l[i]:=by simpa[h]using he
 rw[iT h,List.findIdx?_cons]
 grind
def Ov {l:List au}{x:au}{i:Nat}(h:l.length<=i):vr l x i=-1:=by
 unfold vr;rw[k9 h];rfl
def Ox (l:List au)(x:au):decide (0<=vr l x 0)=decide (x∈l):=by
 grind [vr]
structure Ld where
 ls:List au
 at':Nat
 deriving Inhabited,DecidableEq
def Ld.D (r:Ld):D:=.agg [.sl 1 (r.ls.map D.str),.int .i64 (r.at':Nat)]
def Ld.rest (r:Ld):List au:=r.ls.drop r.at'
def Ld.sm (r:Ld):Prop:=(r.at'<=r.ls.length/\r.ls.length<=1048577)/\∀t∈r.ls,t.length<=1048576
def Ld.to (r:Ld)(q:List au):Ld:=⟨r.ls,r.ls.length-q.length⟩
def lX (n:Int)(t:au):List au:=if n<0 then ai t 32 else si n.toNat (ai t 32)
def Cz (n:Nat)(op:Bool)(t:au):lX (if op=true then(n:Int)else-1) t=eS n op t:=by
 grind [lX,eS]
def Ba:Option (List au×List au)->D
 |none=>.aF
 |some (l,_)=>.sl 1 (l.map D.str)
def Ld.after (r:Ld)(o:Option (List au×List au)):Ld:=match o with
 |none=>r
 |some _=>⟨r.ls,r.at'+1⟩
def Ld.P0 {r:Ld}(h:r.ls.length<=r.at'):r.rest=[]:=k9 h
def Ld.r6 {r:Ld}(h:r.at'<r.ls.length):r.rest=r.ls[r.at']! ::r.ls.drop (r.at'+1):=by
 unfold Ld.rest;rw[iT h];simp[h]
def M6 (n:Nat)(op:Bool)(t:au)(h:op=true->1<=n):1<=(eS n op t).length:=by
 grind [ai,eE,eS,si]
def E9 {w:au}{n:Nat}{op:Bool}{t:au}(h:((¬(eS n op t)[0]! =w\/((eS n op t).length:Int)<1)\/((0:Int)<n/\¬((eS n op t).length:Int)=n))\/[]∈eS n op t)(h1:1<=(eS n op t).length):eB w n op t=none:=by
 grind [eB]
def BU {w:au}{n:Nat}{op:Bool}{t:au}(h:(((eS n op t)[0]! =w/\¬((eS n op t).length:Int)<1)/\(¬(0:Int)<n\/((eS n op t).length:Int)=n))/\¬[]∈eS n op t):eB w n op t=some (eS n op t):=by
 grind [eB]
def lW (x:jc):List au->jc×List au
 |[]=>(x,[])
 |t::r=>match eu x t with
  |some y=>lW y r
  |none=>(x,t::r)
theorem iL {x y:jc}{t:au}{r:List au}(h:eu x t=some y):lW x (t::r)=lW y r:=by simp only[lW,h]
theorem r7 {x:jc}{t:au}{r:List au}(h:eu x t=none):lW x (t::r)=(x,t::r):=by simp only[lW,h]
def tz (t:au)(b:Int):1<=(ai t b).length:=eE b t []
theorem sa {α:Type} [Inhabited α]{l:List α}{n:Nat}(h:1<=n):(l.take n)[0]! =l[0]! :=by
 grind
theorem OA (b:au)(hb:b≠[]):∀l:List au,2<=l.length->aV b l≠[]
 |[],h=>by simp at h
 |[a],h=>by simp at h
 |a::c::r,_=>by
  rw[gM b a (c::r) aR];intro h;have:=List.append_eq_nil_iff.1 h;have:=List.append_eq_nil_iff.1 this.1;exact hb this.2
theorem drop_one {α:Type} [Inhabited α]{l:List α}{n:Nat}(h:l.length=n+1):l.drop n=[l[n]!]/\l=l.take n++[l[n]!]:=by
 have h1:l.drop n=[l[n]!]:=by
  rw[iT ae,k9 ae];simp[show n<l.length by omega]
 exact⟨h1,by rw[<-h1,List.take_append_drop]⟩
theorem vG {w:au}{n:Nat}(h1:1<=n)(t:au):
  eB w (n+1) true t=(match oa t n with
   |some (l,u)=>if l[0]! =w then some (l++[u])else none
   |none=>none):=by
 unfold eB oa eS
 grind [ai,si,drop_one,aV,sa,OA]
theorem vU {t:au}{n:Nat}{l:List au}{u:au}(h:oa t n=some (l,u)):l=(ai t 32).take n/\u=aV [32] ((ai t 32).drop n)/\n<(ai t 32).length/\[]∉l/\u≠[]:=by
 grind [oa]
def rX {w:au}{n:Nat}{t:au}{q:List au}(h1:1<=n)(h:eB w (n+1) true t=some q):∃l u,oa t n=some (l,u)/\(ai t 32)[0]! =w/\q=l++[u]/\l.length=n:=by
 grind [vG,oa,vU,sa]
theorem RU {w:au}{n:Nat}{t:au}(h1:1<=n)(h:eB w (n+1) true t=none)(hw:(ai t 32)[0]! =w):oa t n=none:=by
 grind [vG,oa,vU,sa]
theorem xy {α:Type} [Inhabited α]{l r:List α}{i:Nat}(h:i<l.length):(l++r)[i]! =l[i]! :=by
 grind
theorem zg {α:Type} [Inhabited α]{l:List α}{u:α}{i:Nat}(h:l.length=i):(l++[u])[i]! =u:=by
 subst h;simp
theorem BT {w:au}{n:Nat}{t:au}:eB w n false t=if(ai t 32)[0]! =w/\(n=0\/(ai t 32).length=n)/\[]∉ai t 32 then some (ai t 32)else none:=by
 grind [eB,eS]
theorem ra {l:List au}{n:Nat}:vI l n=true↔l.length=n/\[]∉l:=by
 unfold vI;simp
def AR (t:au):Option (List au):=match eB ic 5 true t with
 |some l=>if lr l=true then some l else none
 |none=>none
def ud (t:au):Option (List au):=match eB cN 0 false t with
 |some l=>if 2<=l.length then some l else none
 |none=>none
def No (p:au->Option (List au))(ls:List au):Prop:=∀t r,ls=t::r->p t=none
theorem eR {α:Type}(l:List α)(a:α)(f:α->α):gp (l++[a]) f=l++[f a]:=by
 unfold gp;simp
def AD:ff≠ic/\ff≠fV/\ff≠dt/\ff≠ie/\ff≠cN/\ic≠fV/\ic≠dt/\ic≠ie/\ic≠cN/\fV≠dt/\fV≠ie/\fV≠cN/\dt≠ie/\dt≠cN/\ie≠cN:=aM
def MV {x:jc}{t:au}{q:List au}(h0:x.st≠0)(h5:x.st<5)(h:eB ff 1 false t=some q):eu x t=some ⟨{x.r with needs:=x.r.needs++[⟨[],[],[]⟩]},2⟩:=by
 grind [BT,ai,eu]
theorem P7 {x:jc}{t:au}{q:List au}(h2:x.st=2)(h:AR t=some q):eu x t=some ⟨{x.r with needs:=gp x.r.needs fun n=>{n with any:=n.any++[gZ q]}},2⟩:=by
 unfold AR at h;cases hn:eB ic 5 true t with
 |none=>rw[hn]at h;cases h
 |some l=>
  rw[hn]at h;simp only at h;split at h
  .rename_i ho;obtain rfl:=bM h;obtain⟨l0,u,e1,e2,rfl,e4⟩:=rX ae hn;have ho':lr l0=true:=by
    unfold lr at ho⊢;rw[xy ae]at ho;exact ho
   have hw:=AD
   grind [eu,uU,gZ,xy,zg]
  .cases h
def Ip {x:jc}{t:au}{q:List au}(h2:x.st=2)(h:eB fV 2 true t=some q):eu x t=some ⟨{x.r with needs:=gp x.r.needs fun n=>{n with when':=q[1]!}},3⟩:=by
 obtain⟨l0,u,e1,e2,rfl,e4⟩:=rX (n:=1) ae h;have hw:=AD
 grind [eu,oJ,zg]
def Iq {x:jc}{t:au}{q:List au}(h2:x.st=5)(h:eB fV 2 true t=some q):eu x t=some ⟨{x.r with bars:=gp x.r.bars fun n=>{n with when':=q[1]!}},6⟩:=by
 obtain⟨l0,u,e1,e2,rfl,e4⟩:=rX (n:=1) ae h;have hw:=AD
 grind [eu,oJ,zg]
def F6 {x:jc}{t:au}{q:List au}(h2:x.st=2\/x.st=3)(h:eB dt 2 false t=some q):eu x t=some ⟨{x.r with needs:=gp x.r.needs fun n=>{n with option:=q[1]!}},4⟩:=by
 rw[BT]at h;split at h
 .rename_i hc;obtain⟨e1,e2,e3⟩:=hc;obtain rfl:=bM h;have e2:(ai t 32).length=2:=by rcases e2 with h|h<;>omega
  have hw:=AD;have h0:¬x.st=0:=ae;unfold eu;simp only[h0,e1,Ne.symm hw.2.2.1,Ne.symm hw.2.2.2.2.2.2.1,Ne.symm hw.2.2.2.2.2.2.2.2.2.1,a8,a7,ra.2 ⟨e2,e3⟩,h2,cR]
 .cases h
def P8 {x:jc}{t:au}{q:List au}(h0:x.st≠0)(h6:x.st<=6)(h:eB ie 3 true t=some q):eu x t=some ⟨{x.r with bars:=x.r.bars++[⟨q[1]!,q[2]!,[]⟩]},5⟩:=by
 obtain⟨l0,u,e1,e2,rfl,e4⟩:=rX (n:=2) ae h;have hw:=AD;unfold eu
 grind
def MU {x:jc}{t:au}{q:List au}(h0:x.st≠0)(h:ud t=some q):eu x t=some ⟨{x.r with feats:=x.r.feats++[⟨q[1]!,q.drop 2⟩]},7⟩:=by
 unfold ud at h;rw[BT]at h;split at h
 .rename_i l hl;split at hl
  .rename_i hc;obtain rfl:=bM hl;split at h
   .rename_i h2;obtain rfl:=bM h;obtain⟨e1,_,e3⟩:=hc;have hw:=AD;unfold eu;simp only[h0,e1,Ne.symm hw.2.2.2.2.1,Ne.symm hw.2.2.2.2.2.2.2.2.1,Ne.symm hw.2.2.2.2.2.2.2.2.2.2.2.1,Ne.symm hw.2.2.2.2.2.2.2.2.2.2.2.2.2.1,Ne.symm hw.2.2.2.2.2.2.2.2.2.2.2.2.2.2,a8,a7,h2,ra.2 ⟨rfl,e3⟩,cR]
   .cases h
  .cases hl
 .cases h
def Sn {x:jc}{t:au}(h0:x.st≠0)(h1:x.st<5->eB ff 1 false t=none)(h2:x.st=2->AR t=none)(h3:x.st=2\/x.st=5->eB fV 2 true t=none)
  (h4:x.st=2\/x.st=3->eB dt 2 false t=none) (h5:x.st<=6->eB ie 3 true t=none) (h6:ud t=none) (hne:(ai t 32).length=1->(ai t 32)[0]! =ff->[]∉ai t 32):eu x t=none:=by
 unfold eu;simp only[h0,a8];split
 .rename_i e1;rw[ak];rintro⟨e2,e3⟩;have:=h1 e3;rw[BT,aw ⟨e1,.inr e2,hne e2 e1⟩]at this;cases this
 .split
  .rename_i e1;unfold uU;cases hr:oa t 4 with
   |none=>rfl
   |some p=>
    obtain⟨l,u⟩:=p;simp only;rw[ak];rintro⟨e2,e3⟩;have:=h2 e2;unfold AR at this;rw[vG (n:=4) ae,hr]at this;obtain⟨q1,_,q3,_⟩:=vU hr;have hl4:l.length=4:=by rw[q1,fX];omega
    simp only at this;rw[aw (by rw[q1,sa ae];exact e1)]at this;simp only at this;have hh:lr (l++[u])=true:=by unfold lr at e3⊢;rw[xy ae];exact e3
    rw[aw hh]at this;cases this
  grind [oJ,oa,RU,ra,BT,ud]
def lL {w:au}{n:Nat}{op:Bool}{ls:List au}(h:cD w n op ls=none):No (eB w n op) ls:=by
 rintro t r rfl
 grind [cD]
theorem dW {w:au}{n:Nat}{op:Bool}{ls l r:List au}(h:cD w n op ls=some (l,r)):∃t,ls=t::r/\eB w n op t=some l:=by
 match ls,h with
 |[],h=>cases h
 |t::q,h=>
  grind [cD]
def Ak (R:Rec)(N:List bw):∀(ls:List au) (A:List ch),lW ⟨{R with needs:=N++[⟨A,[],[]⟩]},2⟩ ls=lW ⟨{R with needs:=N++[⟨A++(cG ls).1,[],[]⟩]},2⟩ (cG ls).2/\No AR (cG ls).2
 |[],A=>⟨by simp[cG],fun t r h=>by simp[cG]at h⟩
 |t::r,A=>by
  have key:∀{l},eB ic 5 true t=some l->lr l=true->AR t=some l:=fun h1 h2=>by simp only[AR,h1,h2,a7]
  cases hn:eB ic 5 true t with
  |none=>
   have e:cG (t::r)=([],t::r):=by simp only[cG,hn]
   rw[e];refine⟨aR,fun t' r' h=>?_⟩;simp only[ot]at h;rw[<-h.1];simp only[AR,hn]
  |some l=>
   by_cases ho:lr l=true
   .have e:cG (t::r)=(gZ l::(cG r).1,(cG r).2):=by simp only[cG,hn,ho,a7]
    rw[e];obtain⟨i1,i2⟩:=Ak R N r (A++[gZ l])
    grind [iL,P7,eR]
   .have e:cG (t::r)=([],t::r):=by simp only[cG,hn,ho,gB,a8]
    rw[e];refine⟨aR,fun t' r' h=>?_⟩;simp only[ot]at h;rw[<-h.1];simp only[AR,hn,ho,gB,a8]
def Stop (s:Nat)(ls:List au):Prop:=(s=2->No AR ls/\No (eB fV 2 true) ls)/\(s=2\/s=3->No (eB dt 2 false) ls)/\(s=5->No (eB fV 2 true) ls)
def P4 (R:Rec)(N:List bw)(ls:List au):∃s,(s=2\/s=3\/s=4)/\lW ⟨{R with needs:=N++[⟨[],[],[]⟩]},2⟩ ls=lW ⟨{R with needs:=N++[(eY ls).1]},s⟩ (eY ls).2/\Stop s (eY ls).2:=by
 obtain⟨a1,a2⟩:=Ak R N ls [];rw[a1];unfold eY;generalize cG ls=p at a2⊢;obtain⟨W,l1⟩:=p;simp only[fk]at a2⊢;cases hw:cD fV 2 true l1 with
 |none=>
  have ew:cB l1=([],l1):=by simp only[cB,hw]
  rw[ew];simp only;cases ho:cD dt 2 false l1 with
  |none=>
   have eo:oT l1=([],l1):=by simp only[oT,ho]
   rw[eo];exact⟨2,.inl rfl,rfl,fun _=>⟨a2,lL hw⟩,fun _=>lL ho,fun h=>ae⟩
  |some q=>
   obtain⟨l,r⟩:=q;have eo:oT l1=(l[1]!,r):=by simp only[oT,ho]
   rw[eo];obtain⟨t,rfl,ht⟩:=dW ho;refine⟨4,.inr (.inr rfl), ?_,fun h=>ae,fun h=>ae,fun h=>ae⟩;rw[iL (F6 (.inl rfl) ht),eR]
 |some q=>
  obtain⟨l,r⟩:=q;have ew:cB l1=(l[1]!,r):=by simp only[cB,hw]
  rw[ew];simp only;obtain⟨t,rfl,ht⟩:=dW hw;rw[iL (Ip rfl ht),eR];simp only;cases ho:cD dt 2 false r with
  |none=>
   have eo:oT r=([],r):=by simp only[oT,ho]
   rw[eo];exact⟨3,.inr (.inl rfl),rfl,fun h=>ae,fun _=>lL ho,fun h=>ae⟩
  |some q=>
   obtain⟨l',r'⟩:=q;have eo:oT r=(l'[1]!,r'):=by simp only[oT,ho]
   rw[eo];obtain⟨t',rfl,ht'⟩:=dW ho;refine⟨4,.inr (.inr rfl), ?_,fun h=>ae,fun h=>ae,fun h=>ae⟩;rw[iL (F6 (.inr rfl) ht'),eR]
def MK (R:Rec):∀(f:Nat) (ls:List au) (N:List bw) (s:Nat),ls.length<=f->1<=s->s<5->Stop s ls->
  ∃s',1<=s'/\s'<5/\lW ⟨{R with needs:=N},s⟩ ls=lW ⟨{R with needs:=N++(eD ls).1},s'⟩ (eD ls).2/\Stop s' (eD ls).2/\No (eB ff 1 false) (eD ls).2:=by
 intro f;induction f with
 |zero=>
  intro ls N s hl h1 h5 hs;have:ls=[]:=qj.1 ae;subst this;rw[qY (by rfl)];exact⟨s,h1,h5,aR,hs,fun t r h=>by cases h⟩
 |succ f ih=>
  intro ls N s hl h1 h5 hs;cases hn:cD ff 1 false ls with
  |none=>
   rw[qY hn];exact⟨s,h1,h5,aR,hs,lL hn⟩
  |some q=>
   obtain⟨l,r⟩:=q;rw[wE hn];have hlen:=jA hn;obtain⟨t,rfl,ht⟩:=dW hn;rw[iL (MV (by simp only;omega) (by simpa using h5) ht)];obtain⟨s1,b1,b2,b3⟩:=P4 R N r;simp only;rw[b2];have:=vC r;obtain⟨s2,c1,c2,c3,c4,c5⟩:=ih (eY r).2 (N++[(eY r).1]) s1 (by simp only[ax]at hl;omega) ae ae b3;exact⟨s2,c1,c2,by rw[c3];simp,c4,c5⟩
def P2 (R:Rec):∀(f:Nat) (ls:List au) (B:List fM) (s:Nat),ls.length<=f->1<=s->s<=6->Stop s ls->(s<5->No (eB ff 1 false) ls)->
  ∃s',1<=s'/\s'<=6/\lW ⟨{R with bars:=B},s⟩ ls=lW ⟨{R with bars:=B++(iU ls).1},s'⟩ (iU ls).2/\Stop s' (iU ls).2/\(s'<5->No (eB ff 1 false) (iU ls).2)/\No (eB ie 3 true) (iU ls).2:=by
 intro f;induction f with
 |zero=>
  intro ls B s hl h1 h5 hs hnd;have:ls=[]:=qj.1 ae;subst this;rw[sJ (by rfl)];exact⟨s,h1,h5,aR,hs,fun _ t r h=>by(cases h),fun t r h=>by cases h⟩
 |succ f ih=>
  intro ls B s hl h1 h5 hs hnd;cases hn:cD ie 3 true ls with
  |none=>
   rw[sJ hn];exact⟨s,h1,h5,aR,hs,hnd,lL hn⟩
  |some q=>
   obtain⟨l,r⟩:=q;rw[yN hn];have hlen:=jA hn;obtain⟨t,rfl,ht⟩:=dW hn;rw[iL (P8 (by simp only;omega) (by simpa using h5) ht)];have hwl:=sc r;simp only[ax]at hl;cases hw:cD fV 2 true r with
   |none=>
    have ew:cB r=([],r):=by simp only[cB,hw]
    rw[ew]at hwl⊢;simp only;obtain⟨s2,c1,c2,c3,c4,c5,c6⟩:=ih r (B++[⟨l[1]!,l[2]!,[]⟩]) 5 ae ae ae ⟨fun h=>ae,fun h=>ae,fun _=>lL hw⟩ (fun h=>ae);exact⟨s2,c1,c2,by rw[c3];simp,c4,c5,c6⟩
   |some q=>
    obtain⟨l',r'⟩:=q;have ew:cB r=(l'[1]!,r'):=by simp only[cB,hw]
    rw[ew]at hwl⊢;obtain⟨t',rfl,ht'⟩:=dW hw;rw[iL (Iq rfl ht'),eR];simp only at hwl⊢;obtain⟨s2,c1,c2,c3,c4,c5,c6⟩:=ih r' (B++[⟨l[1]!,l[2]!,l'[1]!⟩]) 6 (by simp only[ax]at hl;omega) ae ae ⟨fun h=>ae,fun h=>ae,fun h=>ae⟩ (fun h=>ae);exact⟨s2,c1,c2,by rw[c3];simp,c4,c5,c6⟩
def Cc (R:Rec):∀(ls:List au) (F:List cv) (s:Nat),1<=s->
  ∃s',(s'=7\/(s'=s/\(dJ ls).2=ls))/\lW ⟨{R with feats:=F},s⟩ ls=lW ⟨{R with feats:=F++(dJ ls).1},s'⟩ (dJ ls).2/\No ud (dJ ls).2
 |[],F,s,h=>⟨s,.inr ⟨rfl,rfl⟩,by simp[dJ],fun t r h=>by simp[dJ]at h⟩
 |t::r,F,s,h=>by
  cases hn:eB cN 0 false t with
  |none=>
   have e:dJ (t::r)=([],t::r):=by simp only[dJ,hn]
   rw[e];refine⟨s,.inr ⟨rfl,rfl⟩,aR,fun t' r' h=>?_⟩;simp only[ot]at h;rw[<-h.1];simp only[ud,hn]
  |some l=>
   by_cases ho:2<=l.length
   .have e:dJ (t::r)=(⟨l[1]!,l.drop 2⟩::(dJ r).1,(dJ r).2):=by simp only[dJ,hn,ho,a7]
    rw[e];have hf:ud t=some l:=by simp only[ud,hn,ho,a7]
    rw[iL (MU (by simp only;omega) hf)];obtain⟨s',i1,i2,i3⟩:=Cc R r (F++[⟨l[1]!,l.drop 2⟩]) 7 ae
    grind
   .have e:dJ (t::r)=([],t::r):=by simp only[dJ,hn,ho,a8]
    rw[e];refine⟨s,.inr ⟨rfl,rfl⟩,aR,fun t' r' h=>?_⟩;simp only[ot]at h;rw[<-h.1];simp only[ud,hn,ho,a8]
def RS {t:au}(h1:(ai t 32).length=1)(h2:(ai t 32)[0]! =ff):[]∉ai t 32:=by
 obtain⟨a,ha⟩:=List.length_eq_one_iff.1 h1;rw[ha]at h2⊢;simp only[List.getElem!_cons_zero]at h2;subst h2;decide
def P3 (nm:au)(v:cy)(ls:List au):∃s,1<=s/\lW ⟨⟨nm,v,[],[],[]⟩,1⟩ ls=(⟨(sA nm v ls).1,s⟩,(sA nm v ls).2):=by
 obtain⟨s1,a1,a2,a3,a4,a5⟩:=MK ⟨nm,v,[],[],[]⟩ ls.length ls [] 1 (aQ _) ae ae ⟨fun h=>ae,fun h=>ae,fun h=>ae⟩;obtain⟨s2,b1,b2,b3,b4,b5,b6⟩:=P2 ⟨nm,v,(eD ls).1,[],[]⟩ (eD ls).2.length (eD ls).2 [] s1 (aQ _) a1 ae a4 (fun _=>a5);obtain⟨s3,c1,c2,c3⟩:=Cc ⟨nm,v,(eD ls).1,(iU (eD ls).2).1,[]⟩ (iU (eD ls).2).2 [] s2 b1;simp only[fk]at a3 b3 c2;have hs3:1<=s3:=by rcases c1 with h|h<;>omega
 refine⟨s3,hs3, ?_⟩;rw[a3,b3,c2];unfold sA;generalize hR:(⟨nm,v,(eD ls).1,(iU (eD ls).2).1,(dJ (iU (eD ls).2).2).1⟩:Rec)=R
 match hq:(dJ (iU (eD ls).2).2).2 with
 |[]=>rfl
 |t::r=>
  refine r7 (Sn (by simp only;omega) ?_ ?_ ?_ ?_ ?_ (c3 t r hq) RS);all_goals
   intro h;simp only at h;rcases c1 with h7|⟨rfl,e⟩
   .omega
   rw[e]at hq
  .exact b5 h t r hq
  .exact(b4.1 h).1 t r hq
  .rcases h with h|h
   .exact(b4.1 h).2 t r hq
   .exact b4.2.2 h t r hq
  .exact b4.2.1 h t r hq
  .exact b6 t r hq
def head_eq {t:au}:zj (ai t 32)=(match eB ef 3 false t with
  |some l=>(match gL l[2]! with
   |some v=>some ⟨⟨l[1]!,v,[],[],[]⟩,1⟩
   |none=>none)
  |none=>none):=by
 rw[BT];unfold zj;generalize ai t 32=l;by_cases h1:l.length=3/\l[0]! =ef
 .obtain⟨a,b,c,rfl⟩:∃a b c,l=[a,b,c]:=by
   match l,h1.1 with
   |[a,b,c],_=>exact⟨a,b,c,rfl⟩
  have h2:=h1.2;simp only[List.getElem!_cons_zero]at h2;subst h2;by_cases hb:b=[]
  .subst hb;rw[ak aR,ak aR]
  .rw[aw ⟨h1,by simpa using hb⟩];by_cases hc:c=[]
   .subst hc;rw[ak aR];rfl
   .have hm:[]∉[ef,b,c]:=by
     simp only[dp,gO,or_false,not_or];exact⟨aM,fun h=>hb h.symm,fun h=>hc h.symm⟩
    rw[aw ⟨h1.2,.inr rfl,hm⟩];all_goals(cases hq:gL [ef,b,c][2]! <;>simp only[hq])
 .rw[ak (fun h=>h1 h.1),ak];rintro⟨a,b,_⟩;exact h1 ⟨by rcases b with b|b<;>omega,a⟩
def uF:jc:=⟨gT,0⟩
def VL (t:au):eu uF t=zj (ai t 32):=by unfold eu uF;simp
theorem DF (ls:List au):match pD ls with
  |some (r,rest)=>∃s,1<=s/\lW uF ls=(⟨r,s⟩,rest)
  |none=>lW uF ls=(uF,ls):=by
 match ls with
 |[]=>rfl
 |t::q=>
  have hs:=VL t;rw[head_eq]at hs;cases hn:eB ef 3 false t with
  |none=>
   grind [pD,cD,r7]
  |some l=>
   rw[hn]at hs;simp only[pD,cD,hn];cases hv:gL l[2]! with
   |none=>
    grind [r7]
   |some v=>
    simp only[hv]at hs;obtain⟨s,h1,h2⟩:=P3 l[1]! v q
    grind [iL]
def sx (m:List (Nat×b7))(l:Nat)(t:List UInt8):Prop:=(∃u,look m l=some (.bld none 0 u)/\t=[])\/(∃l2 u,look m l=some (.bld (some l2) t.length u)/\look m l2=some (.row t))
@[go_sem] def gA (m:List (Nat×b7))(l:Nat):List (Nat×b7):=match look m l with
 |some (.bld (some l2) _ _)=>cL m l2
 |_=>m
@[go_sem] def qF (m:List (Nat×b7))(l L:Nat)(t:List UInt8):List (Nat×b7):=(L,.row t)::dE (gA m l) l (.bld (some L) t.length true)
def TrW (akq:D)(s:List UInt8)(ds:List D)(st:St)(K:D->St->Prop):Prop:=∃l t,ds=[.ptr l 2 0 0,akq]/\sx st.m l t/\l<st.nx/\s≠[]/\t.length+s.length<=1099511627776/\K .any ⟨st.nx+1,qF st.m l st.nx (t++s)⟩
def ZW (ds:List D)(st:St)(K:D->St->Prop):Prop:=∃s,TrW (.str s) s ds st K
def ZV (ds:List D)(st:St)(K:D->St->Prop):Prop:=∃c,TrW (.int .u8 c.toNat) [c] ds st K
def ZU (ds:List D)(st:St)(K:D->St->Prop):Prop:=∃l t,ds=[.ptr l 2 0 0]/\sx st.m l t/\t≠[]/\K (.str t) ⟨st.nx,cL (gA st.m l) l⟩
def QQ (Y:Ctx):Prop:=∀(ds:List D) (st:St) (K:D->St->Prop),ZW ds st K->Y.tr 489 ds st K
def TY (Y:Ctx):Prop:=∀(ds:List D) (st:St) (K:D->St->Prop),ZV ds st K->Y.tr 664 ds st K
def QL (Y:Ctx):Prop:=∀(ds:List D) (st:St) (K:D->St->Prop),ZU ds st K->Y.tr 452 ds st K
def L0 (b a:au)(l:List au)(h:a≠[]):aV b (a::l)≠[]:=by
 match l with
 |[]=>exact h
 |c::r=>
  rw[gM b a (c::r) aR];intro e;have:=List.append_eq_nil_iff.1 e;exact h (List.append_eq_nil_iff.1 this.1).1
def CH (ws:List au)(t:au):Prop:=(aV [32] ws≠[]/\ws.length<=1048600)/\(∀w∈ws,w.length<=2097200)/\t.length+(aV [32] ws).length+1<=1099511627776
def CH.mk {a:au}{l:List au}{t:au}(h1:a≠[])(h2:l.length<=99)(h3:∀w∈a::l,w.length<=2097200)(h4:t.length<=1000000000):CH (a::l) t:=by
 have h5:=lI 32 2097200 (a::l) h3;have h6:(a::l).length<=100:=by simp only[ax];omega
 have h7:=fh (2097200+1) h6;exact⟨⟨L0 _ _ _ h1,ae⟩,h3,ae⟩
def TG (Y:Ctx):Prop:=∀(ws:List au) (t:au) (l lw nx:Nat) (m:List (Nat×b7)) (K:D->St->Prop),sx m l t->look m lw=some (.buf 1 (ws.map D.str))->l<nx->lw<nx->CH ws t->
 K (.tup []) ⟨nx+1,qF (cL m lw) l nx (t++cw ws)⟩->Y.tr 450 [.ptr l 2 0 0,.own lw 1 0 ws.length] ⟨nx,m⟩ K
def vy {m:List (Nat×b7)}{l L:Nat}{t:List UInt8}(h:l≠L):look (qF m l L t) l=some (.bld (some L) t.length true)/\look (qF m l L t) L=some (.row t):=by
 constructor
 .simp only[qF,look,ak (fun e=>h (Eq.symm e))]
  haveI:dI:={gd:=fun _=>True,le:=fun _ _ _ _ _=>trivial}
  rw[cH,aw rfl]
 .simp only[qF,look,aw]
def Q8 {m:List (Nat×b7)}{l L:Nat}{t:List UInt8}(h:l≠L):sx (qF m l L t) l t:=.inr ⟨L,true,vy h⟩
end Go.Abs
