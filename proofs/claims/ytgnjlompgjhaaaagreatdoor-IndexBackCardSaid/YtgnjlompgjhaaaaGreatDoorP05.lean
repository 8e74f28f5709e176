/- A part of the proofs. -/
import Derived.Test.YtgnjlompgjhaaaaGreatDoorP04
set_option linter.all false
set_option maxRecDepth 4000
namespace Go.Abs
section
abbrev RT:=List D->D->Prop
abbrev FT:=D->List D->D->D->Prop
abbrev TT:=List D->St->(D->St->Prop)->Prop
def EA (T:TT):Prop:=∀ds st K K',(∀d st',K d st'->K' d st')->T ds st K->T ds st K'
def DA (A:RT->Prop):RT:=fun ds d=>∀T,A T->T ds d
def oL (A:FT->Prop):FT:=fun d ds v s=>∀T,A T->T d ds v s
def RM (T:TT):Ctx:=⟨fun _ _=>False,fun _ _=>.any,fun _=>T,fun _ _ _=>False,fun _ _ _=>.any,fun _ _ _=>.any,0⟩
def H6 (C:Ctx->Prop):TT:=fun ds st K=>∀T,EA T->C (RM T)->T ds st K
def wQ (C:Ctx->Prop):EA (H6 C):=fun _ _ _ _ h h1 T hT hC=>hT _ _ _ _ h (h1 T hT hC)
def noR:RT:=fun _ _=>False
def noF:FT:=fun _ _ _ _=>False
def noT:TT:=fun _ _ _=>False
def zX:EA noT:=fun _ _ _ _ _ h=>h.elim
structure qx where
 key:Nat
 rel:RT
 mu:List D->Nat
 relF:FT
 tr:TT
 muE:List D->St->Nat
 mono:EA tr
def mu0:List D->Nat:=fun _=>0
def Qi:List D->St->Nat:=fun _ _=>0
def m6:qx:=⟨0,noR,mu0,noF,noT,Qi,zX⟩
def rP (k:Nat)(A:RT->Prop)(mu:List D->Nat:=mu0):qx:=⟨k,DA A,mu,noF,noT,Qi,zX⟩
def rF (k:Nat)(A:FT->Prop):qx:=⟨k,noR,mu0,oL A,noT,Qi,zX⟩
def rG (k:Nat)(C:Ctx->Prop)(mu:List D->St->Nat:=Qi):qx:=⟨k,noR,mu0,noF,H6 C,mu,wQ C⟩
def rFG (k:Nat)(A:FT->Prop)(C:Ctx->Prop):qx:=⟨k,noR,mu0,oL A,H6 C,Qi,wQ C⟩
noncomputable def pick (r:D->Prop):D:=Classical.epsilon r
def lM {r:D->Prop}(h:∃d,r d):r (pick r):=Classical.epsilon_spec h
def Zw (R:RT):Prop:=∀ds d d',R ds d->R ds d'->d=d'
def y5 (R:FT):Prop:=∀d ds v s v' s',R d ds v s->R d ds v' s'->v=v'/\s=s'
def Wl {A:RT->Prop}(h:A fun ds d=>A fun ds' d'=>ds'=ds->d=d'):Zw (DA A):=fun ds d d' h1 h2=>h2 _ (h1 _ h) rfl
def SP {A:FT->Prop}(h:A fun d ds v s=>A fun d' ds' v' s'=>d'=d->ds'=ds->v=v'/\s=s'):y5 (oL A):=fun d ds v s v' s' h1 h2=>h2 _ (h1 _ h) rfl rfl
noncomputable def Bc (t:List (Nat×qx)):Ctx where
 pre n ds:=∃d,(lk t n m6).rel ds d
 val n ds:=pick ((lk t n m6).rel ds)
 tr n:=(lk t n m6).tr
 fp n d ds:=∃v s,(lk t n m6).relF d ds v s
 fv n d ds:=pick fun v=>∃s,(lk t n m6).relF d ds v s
 fs n d ds:=pick fun s=>∃v,(lk t n m6).relF d ds v s
 lo:=0
def Ri (t:List (Nat×qx)):V6:=⟨fun n=>(lk t n m6).key,fun n=>(lk t n m6).mu,fun n=>(lk t n m6).muE⟩
noncomputable abbrev under (t:List (Nat×qx))(k u:Nat):Ctx:=(Bc t).under (Ri t) k u
def AP (t:List (Nat×qx))(k u n:Nat):(((Bc t).under (Ri t) k u).at n).cd:=
 fun f ds st K K' h hh=>⟨hh.1,(lk t f m6).mono ds st K K' h hh.2⟩
section
variable {t:List (Nat×qx)} {n k u:Nat} {ds:List D} {d v s:D} {st:St} {K:D->St->Prop}
def XJ (hD:Zw (lk t n m6).rel)(hk:(lk t n m6).key<k\/(lk t n m6).key=k/\(lk t n m6).mu ds<u)(h:(lk t n m6).rel ds d):(under t k u).pre n ds/\(under t k u).val n ds=d:=
 ⟨⟨hk,d,h⟩,hD _ _ _ (lM ⟨d,h⟩) h⟩
def okf (hD:y5 (lk t n m6).relF)(hk:(lk t n m6).key<k)(h:(lk t n m6).relF d ds v s):(under t k u).fp n d ds/\(under t k u).fv n d ds=v/\(under t k u).fs n d ds=s:=by
 refine⟨⟨.inl hk,v,s,h⟩, ?_, ?_⟩
 .obtain⟨s',h'⟩:=lM (r:=fun v=>∃s,(lk t n m6).relF d ds v s) ⟨v,s,h⟩;exact(hD _ _ _ _ _ _ h' h).1
 .obtain⟨v',h'⟩:=lM (r:=fun s=>∃v,(lk t n m6).relF d ds v s) ⟨s,v,h⟩;exact(hD _ _ _ _ _ _ h' h).2
def yg (hk:(lk t n m6).key<k\/(lk t n m6).key=k/\(lk t n m6).muE ds st<u)(h:(lk t n m6).tr ds st K):(under t k u).tr n ds st K:=⟨hk,h⟩
end
section
variable [dD] {P:Program} {ν:List (Nat×Nat)} {cQ:List Nat} {Y:Ctx} {t:List (Nat×qx)} {fid n key:Nat}
def Ji (P:Program)(ν:List (Nat×Nat))(cQ:List Nat)(Y:Ctx)(fid:Nat)(ds:List D)(d:D):Prop:=Ok P ν cQ Y->∀(x:X) (args:Array Value),args.size=ds.length->(∀i,i<ds.length->RD ν x (args.getD i undef) (ds.getD i .any))->bC ds=true->
  (∀b,x.I b->b<x.w.heap.size)->dD.gd x->jQ P x (fun v x'=>nJ x x'/\RD ν x' v d) ((callFunc fid args).run P x.w)
def Bv (P:Program)(ν:List (Nat×Nat))(cQ:List Nat)(Y:Ctx)(fid:Nat)(d:D)(ds:List D)(vd new:D):Prop:=Ok P ν cQ Y->∀(x:X) (f:Nat->Option bR) (args:Array Value) (l k:Nat),args.size=ds.length+1->
   RD ν x (args.getD 0 undef) (.ptr l k 0 0)->(∀i,i<ds.length->RD ν x (args.getD (i+1) undef) (ds.getD i .any))->fZ ν x f->f l=some (.buf k [d])->d.bE=true->bC ds=true->
   jQ P x (fun v x'=>Step x x'/\RD ν x' v vd/\fZ ν x' (fun l'=>if l'=l then some (.buf k [new])else f l')/\x'.β=x.β) ((callFunc fid args).run P x.w)
def qn (P:Program)(ν:List (Nat×Nat))(cQ:List Nat)(Y:Ctx)(fid:Nat)(ds:List D)(st:St)(K:D->St->Prop):Prop:=Ok P ν cQ Y->∀(x:X) (args:Array Value),args.size=ds.length->(∀i,i<ds.length->RD ν x (args.getD i undef) (ds.getD i .any))->fZ ν x (look st.m)->fW st x->
  jQ P x (fun v x'=>∃d st',K d st'/\Step x x'/\RD ν x' v d/\fZ ν x' (look st'.m)/\fW st' x') ((callFunc fid args).run P x.w)
structure XB (P:Program)(ν:List (Nat×Nat))(cQ:List Nat)(t:List (Nat×qx))(fid n:Nat):Prop where
 p:∀ds d,(lk t n m6).rel ds d->Ji P ν cQ (under t (lk t n m6).key ((lk t n m6).mu ds)) fid ds d
 f:y5 (lk t n m6).relF/\∀d ds v s,(lk t n m6).relF d ds v s->Bv P ν cQ (under t (lk t n m6).key ((lk t n m6).mu (d::ds))) fid d ds v s
 g:∀ds st K,(lk t n m6).tr ds st K->qn P ν cQ (under t (lk t n m6).key ((lk t n m6).muE ds st)) fid ds st K
def okA (hsm:∀fid n,fI ν fid=some n->n<1000000)(hB:∀t,cQ.contains (1000000000+t)=true->t=dD.tB)(h:∀fid n,fI ν fid=some n->XB P ν cQ t fid n):Ok P ν cQ (Bc t):=by
 refine ok_of (Ri t) hsm hB (fun fid n hn ds hp hok=>(h fid n hn).p ds _ (lM hp) hok) (fun fid n hn _ d ds hp hok=>?_) (fun fid n hn ds st K htr hok=>(h fid n hn).g ds st K htr hok);obtain⟨v,s,hr⟩:=hp;obtain⟨hD,hf⟩:=(h fid n hn).f;have h2:(Bc t).fv n d ds=v/\(Bc t).fs n d ds=s:=by
  constructor
  .obtain⟨s',h'⟩:=lM (r:=fun v=>∃s,(lk t n m6).relF d ds v s) ⟨v,s,hr⟩;exact(hD _ _ _ _ _ _ h' hr).1
  .obtain⟨v',h'⟩:=lM (r:=fun s=>∃v,(lk t n m6).relF d ds v s) ⟨s,v,hr⟩;exact(hD _ _ _ _ _ _ h' hr).2
 rw[h2.1,h2.2];exact hf d ds v s hr hok
def JY {Y:D->List D->Ctx}:y5 noF/\∀d ds v s,noF d ds v s->Bv P ν cQ (Y d ds) fid d ds v s:=⟨fun _ _ _ _ _ _ h=>h.elim,fun _ _ _ _ h=>h.elim⟩
def bq {A:RT->Prop}{mu:List D->Nat}(hr:lk t n m6=rP key A mu)(h:A fun ds d=>Ji P ν cQ (under t key (mu ds)) fid ds d):XB P ν cQ t fid n:=by
 refine⟨?_, ?_, ?_⟩<;>rw[hr]
 .exact fun ds d hd=>hd (fun ds d=>Ji P ν cQ (under t key (mu ds)) fid ds d) h
 .exact JY
 .exact fun _ _ _ h=>h.elim
def W0 {A:FT->Prop}(hr:lk t n m6=rF key A)(hD:y5 (oL A))(h:A fun d ds v s=>Bv P ν cQ (under t key 0) fid d ds v s):XB P ν cQ t fid n:=by
 refine⟨?_, ?_, ?_⟩<;>rw[hr]
 .exact fun _ _ h=>h.elim
 .exact⟨hD,fun d ds v s hd=>hd _ h⟩
 .exact fun _ _ _ h=>h.elim
def B1 {Y:List D->St->Ctx}:EA fun ds st K=>qn P ν cQ (Y ds st) fid ds st K:=fun ds st K K' h hg hok x args hl ha hs hf=>(hg hok x args hl ha hs hf).mono fun v x' ⟨d,st',h1,h2⟩=>⟨d,st',h _ _ h1,h2⟩
def py {C:Ctx->Prop}{mu:List D->St->Nat}(hr:lk t n m6=rG key C mu)(h:C (RM fun ds st K=>qn P ν cQ (under t key (mu ds st)) fid ds st K)):XB P ν cQ t fid n:=by
 refine⟨?_, ?_, ?_⟩<;>rw[hr]
 .exact fun _ _ h=>h.elim
 .exact JY
 .exact fun ds st K hd=>hd (fun ds st K=>qn P ν cQ (under t key (mu ds st)) fid ds st K) B1 h
def oweFG {A:FT->Prop}{C:Ctx->Prop}(hr:lk t n m6=rFG key A C)(hD:y5 (oL A))(h:A fun d ds v s=>Bv P ν cQ (under t key 0) fid d ds v s)(h2:C (RM fun ds st K=>qn P ν cQ (under t key 0) fid ds st K)):XB P ν cQ t fid n:=by
 refine⟨?_, ?_, ?_⟩<;>rw[hr]
 .exact fun _ _ h=>h.elim
 .exact⟨hD,fun d ds v s hd=>hd _ h⟩
 .exact fun ds st K hd=>hd _ B1 h2
def OD (P:Program)(ν:List (Nat×Nat))(cQ:List Nat)(fid:Nat)(af:aF):Prop:=(P.funcs[fid]?).map (fun f=>(compile P ν cQ f,f.name== "runtime.NumGoroutine"))=some (some af,false)
def OD.split {af:aF}(h:OD P ν cQ fid af):∃fn,P.funcs[fid]? =some fn/\compile P ν cQ fn=some af/\(fn.name== "runtime.NumGoroutine")=false:=by
 grind [OD]
def aQ {af:aF}{ds:List D}{d:D}(hmix:P.follows .mixedOrders=true)(hC:OD P ν cQ fid af)(h1:ds.length=af.np)(h2:bG (Y.at 0) af.body (V7 af d) (gy af ds) ⟨0,[]⟩):Ji P ν cQ Y fid ds d:=by
 intro hok x args hl hargs hnl himm hgd;obtain⟨fn,hf,hc,hn⟩:=hC.split;obtain⟨body,c1,_⟩:=jn hc;exact .inr ⟨fid,args,ja hf hn (by rw[c1];rfl) args x.w,S0 hok hmix hf hc hl hargs hnl himm hgd h1 h2⟩
def Fh {af:aF}{d:D}{ds:List D}{vd new:D}(k0:Nat)(hmix:P.follows .mixedOrders=true)(hC:OD P ν cQ fid af)(h1:ds.length+1=af.np)(hk:d.cells.length=k0)
  (h2:bG (Y.at 1) af.body (Mh af k0 vd new) (gy af (.ptr 0 k0 0 0::ds)) ⟨1,[(0,.buf k0 [d])]⟩):Bv P ν cQ Y fid d ds vd new:=by
 intro hok x f args l k hl h0 hargs hs hfl hd hnl;obtain⟨fn,hf,hc,hn⟩:=hC.split;obtain⟨body,c1,_⟩:=jn hc;have hkk:k=k0:=by
  generalize args.getD 0 undef=v0 at h0;cases h0 with
  |ptr _ _ _ _ b base tot at_ hβ hat=>
   obtain⟨p1,p2,c,T,fr,p3,p4,p5,p6⟩:=(hs.own l _ b base tot hfl hβ).2;have:=(p6 0 aT).1
   grind
 subst hkk;exact .inr ⟨fid,args,ja hf hn (by rw[c1];rfl) args x.w,SY hok hmix hf hc hl h0 hargs hs hfl hd hnl h1 h2⟩
def S9 {k l:Nat}{d:D}{ds:List D}{vd new:D}{st:St}{K:D->St->Prop}(h:Bv P ν cQ Y fid d ds vd new)(hl:look st.m l=some (.buf k [d]))(hd:d.bE=true)(hnl:bC ds=true)(hK:K vd ⟨st.nx,dx st.m l (.buf k [new])⟩):
  qn P ν cQ Y fid (.ptr l k 0 0::ds) st K:=by
 intro hok x args hl2 hargs hs hf;refine(h hok x (look st.m) args l k (by simpa using hl2) (hargs 0 aT) (fun i hi=>hargs (i+1) (by simpa using hi)) hs hl hd hnl).mono ?_;rintro v x' ⟨h1,h2,h3,h4⟩;have e:(fun l'=>if l'=l then some (.buf k [new])else look st.m l')=look (dx st.m l (.buf k [new])):=by
  funext l';rw[cD]
 refine⟨vd,_,hK,h1,h2,e▸h3,fun l' hl'=>by rw[h4];exact hf.β l' hl',fun l' hl'=>?_⟩;rw[cD]at hl';split at hl'
 .rename_i e;subst e;exact hf.m _ (by rw[hl];simp)
 .exact hf.m _ hl'
def BZ {af:aF}{ds:List D}{st:St}{K:D->St->Prop}{σi:List (Nat×Nat)}{q:Nat}{m0:List (Nat×bR)}{cs:List D}{Q:D->List (Nat×bR)->Prop}(hmono:∀q,(Y.at q).cd)(hmix:P.follows .mixedOrders=true)(hC:OD P ν cQ fid af)
  (h1:cs.length=ds.length) (h2:∀i,i<ds.length->Sc 0 σi (ds.getD i .any) (cs.getD i .any)) (h3:cs.length=af.np)
  (h4:iY 0 q σi=true) (h5:∀l i,(l,i)∈σi->look st.m l≠none) (h6:∀i b,look m0 i=some b->∃l b',(l,i)∈σi/\look st.m l=some b'/\sN 0 σi b' b)
  (h7:bG (Y.at q) af.body (m8 af Q) (gy af cs) ⟨q,m0⟩) (h8:∀d m1,Q d m1->∃(σo:List (Nat×Nat)) (q1:Nat) (st':St) (vd':D),Fr σi σo q q1 m0 m1 st st'/\Sc 0 σo d vd'/\K vd' st'):qn P ν cQ Y fid ds st K:=by
 intro hok x args hl hargs hs hfr;obtain⟨fn,hf,hc,hn⟩:=hC.split;obtain⟨body,c1,_⟩:=jn hc;refine .inr ⟨fid,args,ja hf hn (by rw[c1];rfl) args x.w, ?_⟩;refine Calls.mono (SZ (K:=K) hok hmix hf hc hl hargs hs hfr h1 h2 h3 h4 h5 h6 (gU (hmono q) _ _ _ _ _ (fun e env st1 h=>?_) h7)) fun e w' he=>?_
 .obtain⟨g1,g2,m1,g3,g4⟩:=h
  grind
 grind
end
end
end Go.Abs
section
namespace Go.Abs
structure b6 where
 name:au
 range:au
 feats:List au
 bare:Bool
 deriving Inhabited,DecidableEq
def b6.D (x:b6):D:=.agg [.str x.name,.str x.range,.sl 1 (x.feats.map D.str),.bool x.bare]
structure bN where
 any:List b6
 when':au
 option:au
 deriving Inhabited,DecidableEq
def bN.D (x:bN):D:=.agg [.sl 4 (x.any.map b6.D),.str x.when',.str x.option]
structure jm where
 name:au
 range:au
 when':au
 deriving Inhabited,DecidableEq
def jm.D (x:jm):D:=.agg [.str x.name,.str x.range,.str x.when']
structure cu where
 name:au
 of:List au
 deriving Inhabited,DecidableEq
def cu.D (x:cu):D:=.agg [.str x.name,.sl 1 (x.of.map D.str)]
structure Rec where
 name:au
 v:cZ
 needs:List bN
 bars:List jm
 feats:List cu
 deriving Inhabited,DecidableEq
def Rec.D (x:Rec):D:=.agg [.str x.name,.int .i64 x.v.major,.int .i64 x.v.minor,.int .i64 x.v.patch,.str x.v.pre,.str x.v.build,.sl 3 (x.needs.map bN.D),.sl 3 (x.bars.map jm.D),.sl 2 (x.feats.map cu.D)]
structure dr where
 op:Int
 parts:Int
 v:cZ
 deriving Inhabited,DecidableEq
def dr.D (x:dr):D:=.agg [.int .i64 x.op,.int .i64 x.parts,.int .i64 x.v.major,.int .i64 x.v.minor,.int .i64 x.v.patch,.str x.v.pre,.str x.v.build]
structure Nd where
 op:Int
 a:Int
 b:Int
 key:Int
 text:au
 deriving Inhabited,DecidableEq
def Nd.D (x:Nd):D:=.agg [.int .i64 x.op,.int .i64 x.a,.int .i64 x.b,.int .i64 x.key,.str x.text]
def jm.eq (a b:jm):jd (jm.D a).cells (jm.D b).cells=decide (a=b):=by
 obtain⟨a1,a2,a3⟩:=a;obtain⟨b1,b2,b3⟩:=b
 grind [jm.D,D.cells,jd,uv]
def b6.same {a b:b6}(e1:a.name=b.name)(e2:a.range=b.range)(e3:a.bare=b.bare):decide (a=b)=decide (a.feats=b.feats):=by
 obtain⟨a1,a2,a3,a4⟩:=a;obtain⟨b1,b2,b3,b4⟩:=b
 grind
def rising (l:List au):Bool:=cP (fun i=>Op.bytesLess l[i-1]! l[i]!) 1 l.length
def dt (s:au):Int×au×au:=
 if cI s=true then(1,s,[])
 else if s.length>0/\at8 s 0=63/\cI (s.drop 1)=true then(2,s.drop 1,[])
 else if(ak s 47).length=2/\dN (ak s 47)[0]! =true/\cI (ak s 47)[1]! =true then(3,(ak s 47)[0]!,(ak s 47)[1]!)
 else(0,[],[])
def findF (l:List cu)(nm:au)(i:Nat):Int:=match(l.drop i).findIdx? (fun x=>decide (x.name=nm))with
 |some k=>((i+k:Nat):Int)
 |none=>-1
def E5 {l:List cu}{nm:au}{i:Nat}(h:i<l.length)(he:l[i]!.name=nm):findF l nm i=(i:Nat):=by
 unfold findF;rw[jG h,List.findIdx?_cons]
 grind
def E6 {l:List cu}{nm:au}{i:Nat}(h:i<l.length)(he:¬l[i]!.name=nm):findF l nm i=findF l nm (i+1):=by
 unfold findF;have:¬l[i].name=nm:=by simpa[h]using he
 rw[jG h,List.findIdx?_cons]
 grind
def BV {l:List cu}{nm:au}{i:Nat}(h:l.length<=i):findF l nm i=-1:=by
 unfold findF;rw[k8 h];rfl
def UB:au:=[100,101,102,97,117,108,116]
def XG (l:List cu)(nm:au):Bool:=decide (nm=UB) ||decide (0<=findF l nm 0)
def iM (l:List cu)(s:au):Bool:=!(decide ((dt s).1=0) ||(decide ((dt s).1=1)&& !XG l (dt s).2.1))
def lF (l:List cu)(of:List au):Bool:=decide (of.length<=6)&&rising of&&cP (fun i=>iM l of[i]!) 0 of.length
def jC (l:List cu)(i:Nat):Bool:=cI l[i]!.name&& !(decide (0<i)&& !Op.bytesLess l[i-1]!.name l[i]!.name)&&lF l l[i]!.of
def ig (l:List cu):Bool:=decide (l.length<=8)&&cP (jC l) 0 l.length
def cu.sm (x:cu):Prop:=x.name.length<=1048576/\x.of.length<=1048576/\∀t∈x.of,t.length<=1048576
def x5 (l:List cu):Prop:=∀x∈l,x.sm
def se (b:au):∀(l:List au) (i:Nat),(aS b (l.take i)).length<=(aS b l).length
 |[],i=>aT
 |[t],0=>by simp[aS]
 |[t],i+1=>aT
 |t::u::r,0=>by simp[aS]
 |t::u::r,1=>by simp[aS]
 |t::u::r,i+2=>by
  have:=se b (u::r) (i+1)
  grind [aS]
theorem tx (b t:au):∀(l:List au),l≠[]->aS b (l++[t])=aS b l++b++t
 |[],h=>absurd rfl h
 |[u],_=>by simp[aS]
 |u::v::r,_=>by
  have:=tx b t (v::r) aT
  grind [aS]
def p7 (b:au)(l:List au)(i:Nat)(h:i<l.length):aS b (l.take (i+1))=(if 0<i then aS b (l.take i)++b else [])++l[i]! :=by
 have e:l.take (i+1)=l.take i++[l[i]!]:=by
  rw[List.take_add_one,List.getElem?_eq_getElem h];simp[h]
 rw[e];by_cases h0:0<i
 .rw[ax h0,tx _ _ _ (by intro hn;have:=ar List.length hn;simp only[ff,aB]at this;omega)]
 grind [aS]
end Go.Abs
namespace Go.Abs
def JG {s:au}(h0:cI s=true):dt s=(1,s,[]):=by simp only[dt,ax h0]
def JH {s:au}(h0:cI s=false)(h:(0<(s.length:Int)/\at8 s 0=63)/\cI (s.drop 1)=true):dt s=(2,s.drop 1,[]):=by
 grind [dt]
theorem Fw {s:au}(h:(¬0<(s.length:Int)\/¬at8 s 0=63)\/cI (s.drop 1)=false):¬(s.length>0/\at8 s 0=63/\cI (s.drop 1)=true):=by
 grind
def JI {s:au}(h0:cI s=false)(h:(¬0<(s.length:Int)\/¬at8 s 0=63)\/cI (s.drop 1)=false)(h2:(((ak s 47).length:Int)=2/\dN (ak s 47)[0]! =true)/\cI (ak s 47)[1]! =true):dt s=((3:Int),(ak s 47)[0]!,(ak s 47)[1]!):=by
 grind [dt,Fw]
def JF {s:au}(h0:cI s=false)(h:(¬0<(s.length:Int)\/¬at8 s 0=63)\/cI (s.drop 1)=false)(h2:(¬((ak s 47).length:Int)=2\/dN (ak s 47)[0]! =false)\/cI (ak s 47)[1]! =false):dt s=(0,[],[]):=by
 grind [dt,Fw]
end Go.Abs
end
namespace Go.Abs
theorem rY (s:au)(i:Nat)(h:i<s.length):at8 s i=((s[i]'h).toNat:Int):=by simp[at8,h]
def uf (p:Int->Bool)(s:au):cP (fun i=>p (at8 s i)) 0 s.length=true↔∀c∈s,p c.toNat=true:=by
 rw[eF];constructor
 .intro h c hc;obtain⟨i,hi,rfl⟩:=List.getElem_of_mem hc
  grind [rY]
 grind [rY]
theorem rR {b:Int}:∀{s cur:au},(∀c∈s,(c.toNat:Int)≠b)->cq b s cur=[cur++s]
 |[],cur,_=>by simp[cq]
 |c::r,cur,h=>by
  simp only[cq];rw[aj (h c (.head _)),rR (fun d hd=>h d (.tail _ hd))];simp
theorem tS {b:Int}{x:UInt8}(hx:(x.toNat:Int)=b)(r:au):∀{w cur:au},(∀c∈w,(c.toNat:Int)≠b)->cq b (w++x::r) cur=(cur++w)::cq b r []
 |[],cur,_=>by simp[cq,hx]
 |c::w,cur,h=>by
  simp only[fg,cq];rw[aj (h c (.head _)),tS hx r (fun d hd=>h d (.tail _ hd))];simp
def j9 {b:Int}{x:UInt8}(hx:(x.toNat:Int)=b):∀{ws:List au},ws≠[]->(∀w∈ws,∀c∈w,(c.toNat:Int)≠b)->ak (aS [x] ws) b=ws
 |[],h,_=>absurd rfl h
 |[w],_,h=>by
  show cq b w []=[w];rw[rR (h w (.head _))];rfl
 |w::u::r,_,h=>by
  have ih:=j9 (ws:=u::r) hx aT (fun v hv=>h v (.tail _ hv));show cq b (w++[x]++aS [x] (u::r)) []=_;rw[dY,List.singleton_append,tS hx _ (h w (.head _))];rw[show cq b (aS [x] (u::r)) []=u::r from ih];rfl
def rk {b:Int}{x:UInt8}(hx:(x.toNat:Int)=b):∀(s cur:au),aS [x] (cq b s cur)=cur++s
 |[],cur=>by simp[cq,aS]
 |c::r,cur=>by
  simp only[cq];split
  .rename_i h;rw[gE _ _ _ (by intro h;have:=eU b r [];rw[h]at this;simp at this),rk hx r []];have:c=x:=iR.1 ae;simp[this]
  .rw[rk hx r];simp
theorem mr {b:Int}{x:UInt8}(hx:(x.toNat:Int)=b)(s:au):aS [x] (ak s b)=s:=by
 unfold ak;rw[rk hx];rfl
def E7 {p:UInt8->Bool}{w:au}{x:UInt8}{r:au}(h:∀c∈w,p c=false)(hx:p x=true):(w++x::r).findIdx? p=some w.length:=by
 grind
def zh {b:Int}{w:au}(h:∀c∈w,(c.toNat:Int)≠b):fm w b=([],w):=by
 unfold fm jO
 grind
def wG {b:Int}{w r:au}{x:UInt8}(h:∀c∈w,(c.toNat:Int)≠b)(hx:(x.toNat:Int)=b):fm (w++x::r) b=(r,w):=by
 unfold fm jO;rw[ct,E7 (fun c hc=>by simpa using h c hc) (by simpa using hx)];simp
theorem EW {n:Nat}(h:n<10):bo (dg n).toNat=true:=by
 grind [BN,bo]
def uo {Q:Nat->Prop}(h1:∀n,n<10->Q n)(h2:∀n,9<n->Q (n/10)->Q n)(n:Nat):Q n:=by
 induction n using Nat.strongRecOn with
 |ind n ih=>
  grind
theorem gY (n:Nat):∀c∈dF n,bo c.toNat=true:=by
 refine uo (Q:=fun n=>∀c∈dF n,bo c.toNat=true) (fun n h c hc=>?_) (fun n h ih c hc=>?_) n
 .grind [nb,EW]
 grind [om,EW]
theorem Ik (s:au)(c:UInt8):ef (s++[c])=ef s*10+(c.toNat-48):=by
 simp[ef,List.foldl_append]
def FL (n:Nat):ef (dF n)=n:=by
 refine uo (Q:=fun n=>ef (dF n)=n) (fun n h=>?_) (fun n h ih=>?_) n
 .grind [nb,BN,ef]
 grind [om,Ik,BN]
theorem xW (n:Nat):dF n≠[]:=by
 refine uo (Q:=fun n=>dF n≠[]) (fun n h=>?_) (fun n h ih=>?_) n
 .rw[nb h];simp
 .rw[om h];simp
theorem My (n:Nat)(h:0<n):at8 (dF n) 0≠48:=by
 refine uo (Q:=fun n=>0<n->at8 (dF n) 0≠48) (fun n h h0=>?_) (fun n h ih h0=>?_) n h
 .grind [nb,BN,at8]
 grind [om,xW,at8,dF]
def sk {n:Nat}(h:n<=9999):gX (dF n)=true:=by
 rw[DG];have h1:=List.length_pos_iff.2 (xW n);have h2:=ep 4 n ae ae;have h3:cP (fun i=>bo (at8 (dF n) i)) 0 (dF n).length=true:=(uf bo _).2 (gY n)
 grind [dF,nb,My]
def vW {n:Nat}(h:n<=9999):eY (dF n)=(n:Int):=by
 rw[eY,ax (sk h),FL]
theorem nA (x:UInt8):∀(ws:List au) (c:UInt8),c∈aS [x] ws->c=x\/∃w∈ws,c∈w
 |[],c,h=>by simp[aS]at h
 |[w],c,h=>.inr ⟨w,.head _,h⟩
 |w::u::r,c,h=>by
  rw[gE _ _ _ aT]at h;simp only[List.mem_append,cN]at h;rcases h with(h|h)|h
  .exact .inr ⟨w,.head _,h⟩
  .exact .inl h
  .rcases nA x (u::r) c h with h|⟨v,hv,hc⟩
   .exact .inl h
   .exact .inr ⟨v,.tail _ hv,hc⟩
def GG {s:au}{p:Bool}(h:rT s p=true){c:UInt8}(hc:c∈s):nt c.toNat=true\/c=46:=by
 simp only[rT,cX,aV,oA,bx,eF]at h;rcases h with rfl|⟨_,h⟩
 .cases hc
 .rw[<-mr (b:=46) (x:=46) rfl s]at hc;rcases nA 46 _ c hc with rfl|⟨w,hw,hcw⟩
  .exact .inr rfl
  .left;obtain⟨i,hi,rfl⟩:=List.getElem_of_mem hw;have:=h i ae hi;rw[show(ak s 46)[i]! =(ak s 46)[i]by simp[hi]]at this;simp only[iC,rS,bx]at this;exact(uf nt _).1 this.1.2 c hcw
def Ea {s:au}{p:Bool}(h:rT s p=true){c:UInt8}(hc:c∈s):c.toNat≠43/\c.toNat≠32/\c.toNat≠10:=by
 rcases GG h hc with h|rfl
 .grind [nt,ik,bo]
 .decide
def qT {c:UInt8}(h:bo c.toNat=true):c.toNat≠46/\c.toNat≠45/\c.toNat≠43/\c.toNat≠32/\c.toNat≠10:=by
 grind [bo]
def coreS (v:cZ):au:=dF v.major.toNat++[46]++dF v.minor.toNat++[46]++dF v.patch.toNat
def Dd (v:cZ){c:UInt8}(h:c∈coreS v):c.toNat≠45/\c.toNat≠43/\c.toNat≠32/\c.toNat≠10:=by
 simp only[coreS,List.mem_append,cN]at h;rcases h with(((h|rfl)|h)|rfl)|h
 .exact(qT (gY _ c h)).2
 .decide
 .exact(qT (gY _ c h)).2
 .decide
 .exact(qT (gY _ c h)).2
theorem wy (v:cZ):sL v=coreS v++(if v.pre=[]then []else 45::v.pre)++(if v.build=[]then []else 43::v.build):=rfl
def T4 {v:cZ}(h:fe v=true){c:UInt8}(hc:c∈sL v):c.toNat≠32/\c.toNat≠10:=by
 simp only[fe,bx]at h;rw[wy]at hc;simp only[List.mem_append]at hc;rcases hc with(hc|hc)|hc
 .exact(Dd v hc).2.2
 .split at hc
  .cases hc
  .rcases bY.1 hc with rfl|hc
   .decide
   .exact(Ea h.1.2 hc).2
 .split at hc
  .cases hc
  .rcases bY.1 hc with rfl|hc
   .decide
   .exact(Ea h.2 hc).2
def Xw {v:cZ}(h:fe v=true):pJ (j3 v)=some v:=by
 have h0:=h;simp only[fe,pV,bx,aV]at h;obtain⟨⟨⟨⟨h1,h2⟩,h3⟩,h4⟩,h5⟩:=h;have e0:j3 v=sL v:=by rw[j3,ax h0]

 have hcp:∀c∈coreS v++(if v.pre=[]then []else 45::v.pre),(c.toNat:Int)≠43:=fun c hc=>by
  rcases List.mem_append.1 hc with hc|hc
  .have:=(Dd v hc).2.1;omega
  .split at hc
   .cases hc
   .rcases bY.1 hc with rfl|hc
    .decide
    .have:=(Ea h4 hc).1;omega
 have e1:fm (sL v) 43=(v.build,coreS v++(if v.pre=[]then []else 45::v.pre)):=by
  rw[wy];generalize coreS v++(if v.pre=[]then []else 45::v.pre)=q at hcp⊢;split
  .rename_i hb;rw[gG,zh hcp,hb]
  .exact wG hcp aH
 have hc45:∀c∈coreS v,(c.toNat:Int)≠45:=fun c hc=>by have:=(Dd v hc).1;omega
 have e2:fm (coreS v++(if v.pre=[]then []else 45::v.pre)) 45=(v.pre,coreS v):=by
  split
  .rename_i hb;rw[gG,zh hc45,hb]
  .exact wG hc45 aH
 have e3:ak (coreS v) 46=[dF v.major.toNat,dF v.minor.toNat,dF v.patch.toNat]:=by
  have:=j9 (b:=46) (x:=46) rfl (ws:=[dF v.major.toNat,dF v.minor.toNat,dF v.patch.toNat]) aT (fun w hw c hc=>by
   have hd:bo c.toNat=true:=by
    simp only[bY,eu,or_false]at hw;rcases hw with rfl|rfl|rfl<;>exact gY _ c hc
   have:=(qT hd).1;omega)
  rw[<-this];simp[aS,coreS]
 have n1:=sk (n:=v.major.toNat) ae;have n2:=sk (n:=v.minor.toNat) ae;have n3:=sk (n:=v.patch.toNat) ae;have o1:=vW (n:=v.major.toNat) ae;have o2:=vW (n:=v.minor.toNat) ae;have o3:=vW (n:=v.patch.toNat) ae;have ev:(⟨((v.major.toNat:Nat):Int),((v.minor.toNat:Nat):Int),((v.patch.toNat:Nat):Int),v.pre,v.build⟩:cZ)=v:=by
  obtain⟨a,b,c,d,e⟩:=v;simp only[cZ.mk.injEq,dL,cL];simp only at h1 h2 h3;omega
 rw[e0];simp only[pJ,e1,e2,e3];rw[ax ⟨rfl,n1,n2,n3⟩];simp only[List.getElem!_cons_zero,List.getElem!_cons_succ,o1,o2,o3,ev];rw[ax ⟨h0,e0⟩]
def Gx {Q:au->Prop}(h0:Q [])(h1:∀s c,Q s->Q (s++[c]))(s:au):Q s:=by
 have:∀r:au,Q r.reverse:=by
  intro r;induction r with
  |nil=>exact h0
  |cons c r ih=>rw[List.reverse_cons];exact h1 _ _ ih
 simpa using this s.reverse
def Ty (N i:Nat)(h:N<2^64):Np (N:Int) i=N/16^i%16:=by
 unfold Np sT;have e1:(N:Int).fdiv (2^(4*i))=((N/2^(4*i):Nat):Int):=by
  grind
 rw[e1,BitVec.ofInt_natCast,BitVec.toNat_and,BitVec.toNat_ofNat];have h2:N/2^(4*i)<2^64:=Nat.lt_of_le_of_lt (Nat.div_le_self _ _) h;rw[Nat.mod_eq_of_lt h2];have e2:(15#64).toNat=2^4-1:=rfl;rw[e2,Nat.and_two_pow_sub_one_eq_mod,show(16:Nat)^i=2^(4*i)by rw[Nat.pow_mul]]
def hv (c:UInt8):Nat:=if bo c.toNat=true then c.toNat-48 else c.toNat-87
def JE {c:UInt8}(h:ph c.toNat=true):HS c.toNat=(hv c:Int)/\hv c<16:=by
 simp only[ph,bo,cX,bx,aV]at h;unfold HS hv
 grind [bo]
theorem TG {N h:Nat}(hN:N<2^60)(hh:h<16):TF (uS (N:Int) 4) (h:Int)=((N*16+h:Nat):Int):=by
 have e1:uS (N:Int) 4=((N*16:Nat):Int):=by
  unfold uS;rw[IntKind.wrap_u64];omega
 rw[e1];unfold TF;rw[BitVec.ofInt_natCast,BitVec.ofInt_natCast,BitVec.toNat_or,BitVec.toNat_ofNat,BitVec.toNat_ofNat,Nat.mod_eq_of_lt (show N*16<2^64 by omega),Nat.mod_eq_of_lt (show h<2^64 by omega)];have e2:N*16 |||h=N*16+h:=by
  have:=Nat.shiftLeft_add_eq_or_of_lt (show h<2^4 by omega) N;rw[Nat.shiftLeft_eq]at this;exact this.symm
 rw[e2,IntKind.wrap_u64];omega
def oJ (s:au):Nat:=s.foldl (fun n c=>n*16+hv c) 0
theorem vH (s:au)(c:UInt8):oJ (s++[c])=oJ s*16+hv c:=by simp[oJ,List.foldl_append]
def Ti:∀(s:au),(∀c∈s,ph c.toNat=true)->oJ s<16^s.length:=by
 intro s;refine Gx (Q:=fun s=>(∀c∈s,ph c.toNat=true)->oJ s<16^s.length) (fun _=>by simp[oJ]) (fun s c ih h=>?_) s
 .have h1:=ih fun d hd=>h d (by simp[hd])
  have h2:=(JE (h c aT)).2
  grind [vH]
def ND:∀(s:au),s.length<=16->(∀c∈s,ph c.toNat=true)->qu s=(oJ s:Int):=by
 intro s;refine Gx (Q:=fun s=>s.length<=16->(∀c∈s,ph c.toNat=true)->qu s=(oJ s:Int)) (fun _ _=>rfl) (fun s c ih hl h=>?_) s
 .rw[bF,List.length_singleton]at hl;have hs:=fun d (hd:d∈s)=>h d (by simp[hd])
  have h1:=ih ae hs;have h2:=JE (h c aT);have h3:=Ti s hs;have h4:16^s.length<=16^15:=Nat.pow_le_pow_right ae ae
  grind [qu,rJ,vH,TG]
def NC (s:au):m7 s=true↔s.length=16/\∀c∈s,ph c.toNat=true:=by
 unfold m7;rw[bx,aV,uf ph]
theorem Fk {k:Nat}(h:k<16):ph (sD k).toNat=true/\hv (sD k)=k:=by
 have:∀k:Fin 16,ph (sD k.1).toNat=true/\hv (sD k.1)=k.1:=aH
 exact this ⟨k,h⟩
def CO (n:Int):∀c∈gI n,ph c.toNat=true:=by grind [gI,Fk,zW]
theorem As (n:Int):m7 (gI n)=true:=(NC _).2 ⟨ke n,CO n⟩
def B3 (N:Nat)(h:N<2^64):∀k,k<=16->oJ ((gI N).take k)=N/16^(16-k)
 |0,_=>by
  rw[List.take_zero];rw[Nat.div_eq_of_lt (show N<16^(16-0)by omega)];rfl
 |k+1,hk=>by
  have ih:=B3 N h k ae;have e:(gI (N:Int)).take (k+1)=(gI (N:Int)).take k++[sD (Np N (15-k))]:=I9 _ k ae;rw[e,vH,ih,(Fk (zW _ _)).2,Ty N _ h];have e2:16^(16-k)=16^(15-k)*16:=by rw[<-Nat.pow_succ];congr 1;omega
  rw[e2,<-Nat.div_div_eq_div_mul,show 16-(k+1)=15-k by omega];omega
theorem It {n:Int}(h0:0<=n)(h1:n<18446744073709551616):uN (gI n)=n:=by
 obtain⟨N,rfl⟩:∃N:Nat,n=N:=⟨n.toNat,ae⟩
 rw[uN,ax (As _),ND _ (by rw[ke];omega) (CO _)];have:=B3 N ae 16 ae
 grind [ke]
def GZ (a b:Int):0<=AZ a b/\AZ a b<18446744073709551616:=by
 unfold AZ;rw[IntKind.wrap_u64];omega
def I8 (s:au):0<=GB s/\GB s<18446744073709551616:=GZ _ _
theorem KE {s:au}(h:cI s=true){c:UInt8}(hc:c∈s):yo c.toNat=true:=by
 simp only[cI,bx]at h;exact(uf yo s).1 h.2 c hc
def KF {s:au}(h:cI s=true){c:UInt8}(hc:c∈s):c.toNat≠32/\c.toNat≠10/\c.toNat≠45:=by
 grind [KE,yo,ik,bo]
def T7 {s:au}(h:cI s=true):s≠[]:=by
 rintro rfl;simp[cI]at h
def yc {s:au}(h:dN s=true):s≠[]/\ik (at8 s 0)=true/\∀c∈s,c.toNat≠32/\c.toNat≠10:=by
 simp only[dN,bx,aV,eF]at h;obtain⟨⟨⟨⟨h1,h2⟩,h3⟩,h4⟩,h5⟩:=h;refine⟨by rintro rfl;simp at h1,h3,fun c hc=>?_⟩;obtain⟨i,hi,rfl⟩:=List.getElem_of_mem hc;rcases Nat.eq_zero_or_pos i with rfl|hp
 .grind [rY,ik]
 grind [WK,rY,ik,bo]
def vi.wf (x:vi):Prop:=0<=x.sum/\x.sum<18446744073709551616
def Ep.wf (l:Ep):Prop:=∀x∈l.lines,x.wf
end Go.Abs
section
namespace Go.Abs
theorem xf {b:Int}{x:UInt8}(hx:(x.toNat:Int)=b):∀(s cur:au),cq b s cur=match s.findIdx? (fun c=>c==x)with
  |some k=>(cur++s.take k)::cq b (s.drop (k+1)) []
  |none=>[cur++s]
 |[],cur=>by simp[cq]
 |c::r,cur=>by
  simp only[cq,List.findIdx?_cons];by_cases h:c=x
  .subst h;rw[ax hx];simp
  .have h1:¬(c.toNat:Int)=b:=fun e=>h (iR.1 ae)
   have h2:(c==x)=false:=by simpa using h
   rw[aj h1,h2,xf hx r (cur++[c])]
   grind
def CF (s:au)(x:UInt8):ak s x.toNat=if(ie s x).2.2=true then(ie s x).1::ak (ie s x).2.1 x.toNat else [s]:=by
 grind [ak,ie,xf]
def Cx {s:au}:(((ie s 47).2.2=true/\dN (ie s 47).1=true)/\cI (ie s 47).2.1=true)↔(((ak s 47).length:Int)=2/\dN (ak s 47)[0]! =true)/\cI (ak s 47)[1]! =true:=by
 have h:=CF s 47;rw[show(((47:UInt8).toNat:Nat):Int)=47 from rfl]at h;by_cases hc:(ie s 47).2.2=true
 .rw[ax hc]at h;rw[h];have hj:=mr (b:=47) (x:=47) rfl (ie s 47).2.1;constructor
  .grind [ak,ie,cq,rR,KE,yo,ik,bo]
  .rintro⟨⟨h1,h2⟩,h3⟩;refine⟨⟨hc,h2⟩, ?_⟩;generalize ak (ie s 47).2.1 47=q at hj h1 h3
   match q,h1 with
   |[y],_=>
    have:y=(ie s 47).2.1:=hj;rw[<-this];exact h3
   |[],h1=>simp at h1
   |_::_::_,h1=>simp at h1;omega
 .rw[aj hc]at h;rw[h];constructor
  .rintro⟨⟨h1,_⟩,_⟩;exact absurd h1 hc
  .rintro⟨⟨h1,_⟩,_⟩;simp at h1
def FG {s:au}:(cG s [63]).2=true↔0<(s.length:Int)/\at8 s 0=63:=by
 match s with
 |[]=>simp[cG,List.isPrefixOf]
 |c::r=>
  have e:((c.toNat:Int)=63)↔c=63:=⟨fun h=>iR.1 (by have:(63:UInt8).toNat=63:=rfl;omega),fun h=>by subst h;rfl⟩
  grind [cG,at8]
theorem Cb {s:au}(h:(cG s [63]).2=true):(cG s [63]).1=s.drop 1:=by
 grind [cG]
def To {s:au}(h0:cI s=false)(h:(cG s [63]).2=true/\cI (cG s [63]).1=true):dt s=(2,(cG s [63]).1,[]):=by
 rw[Cb h.1]at h⊢;exact JH h0 ⟨FG.1 h.1,h.2⟩
def JJ {s:au}(h:(cG s [63]).2=false\/cI (cG s [63]).1=false):(¬0<(s.length:Int)\/¬at8 s 0=63)\/cI (s.drop 1)=false:=by
 by_cases hp:(cG s [63]).2=true
 .grind [Cb]
 .have:=fun h2=>hp (FG.2 h2)
  grind
def Tp {s:au}(h0:cI s=false)(h:(cG s [63]).2=false\/cI (cG s [63]).1=false)(h2:((ie s 47).2.2=true/\dN (ie s 47).1=true)/\cI (ie s 47).2.1=true):dt s=((3:Int),(ie s 47).1,(ie s 47).2.1):=by
 have h3:=Cx.1 h2;rw[JI h0 (JJ h) h3];have hs:=CF s 47;rw[show(((47:UInt8).toNat:Nat):Int)=47 from rfl,ax h2.1.1]at hs;have hj:=mr (b:=47) (x:=47) rfl (ie s 47).2.1;have hl:=h3.1.1;rw[hs]at hl⊢;generalize ak (ie s 47).2.1 47=q at hj hl
 match q,hl with
 |[y],_=>
  have:y=(ie s 47).2.1:=hj;rw[<-this];rfl
 |[],h1=>simp at h1
 |_::_::_,h1=>simp at h1;omega
def Tn {s:au}(h0:cI s=false)(h:(cG s [63]).2=false\/cI (cG s [63]).1=false)(h2:((ie s 47).2.2=false\/dN (ie s 47).1=false)\/cI (ie s 47).2.1=false):dt s=(0,[],[]):=by
 refine JF h0 (JJ h) ?_;have hn:¬((((ak s 47).length:Int)=2/\dN (ak s 47)[0]! =true)/\cI (ak s 47)[1]! =true):=fun h3=>by
  obtain⟨⟨g1,g2⟩,g3⟩:=Cx.2 h3
  grind
 grind
end Go.Abs
namespace Go.Abs
def MD {l:List cu}{i:Nat}(h:(!cI l[i]!.name ||(decide ((0:Int)<(i:Int))&& !Op.bytesLess l[i-1]!.name l[i]!.name) ||decide ((6:Int)<(l[i]!.of.length:Int)) ||!rising l[i]!.of)=false):
  jC l i=cP (fun j=>iM l l[i]!.of[j]!) 0 l[i]!.of.length:=by
 grind [jC,lF]
def MC {l:List cu}{i:Nat}(h:(!cI l[i]!.name ||(decide ((0:Int)<(i:Int))&& !Op.bytesLess l[i-1]!.name l[i]!.name) ||decide ((6:Int)<(l[i]!.of.length:Int)) ||!rising l[i]!.of)=true):
  jC l i=false:=by
 grind [jC,lF,cI,rising]
end Go.Abs
end
section
namespace Go.Abs
def dA (op:Int):au:=if op=1 then [61]else if op=2 then [33,61]else if op=3 then [60]else if op=4 then [60,61]else if op=5 then [62]else if op=6 then [62,61]else if op=7 then [94]else if op=8 then [126]else []
def wj (op:Int):(dA op).length<=2:=by
 grind [dA]
def sZ (s w:au):Bool:=decide (w.length<=s.length)&&decide (s.take w.length=w)
def qy (c:dr):Bool:=(decide (0<c.parts) ||decide (c.v.major=0))&&(decide (1<c.parts) ||decide (c.v.minor=0))&&(decide (2<c.parts) ||decide (c.v.patch=0))
def m9 (c:dr):Bool:=decide (1<=c.op)&&decide (c.op<=9)&&fe c.v&&decide (c.v.build=[])&&decide ((if c.op=9 then 0 else 1)<=c.parts)&&decide (c.parts<=if c.op=9 then 2 else 3)&&(decide (3<=c.parts) ||decide (c.v.pre=[]))&&qy c
def dr.sm (c:dr):Prop:=c.v.sm
def ES {c:dr}(h:(decide (c.op<1) ||decide (9<c.op) ||!fe c.v ||!decide (c.v.build=[]))=true):m9 c=false:=by
 unfold m9
 grind
def BJ {c:dr}(h:(decide (c.op<1) ||decide (9<c.op) ||!fe c.v ||!decide (c.v.build=[]))=false):1<=c.op/\c.op<=9/\fe c.v=true/\c.v.build=[]:=by
 grind
end Go.Abs
namespace Go.Abs
def r7 {c:dr}(hy:1<=c.op/\c.op<=9/\fe c.v=true/\c.v.build=[]){lo hi:Int}(hlo:(if c.op=9 then 0 else 1)=lo)(hhi:(if c.op=9 then 2 else 3)=hi):
  m9 c=(!(decide (c.parts<lo) ||decide (hi<c.parts) ||(decide (c.parts<3)&& !decide (c.v.pre=[])))&&qy c):=by
 grind [m9]
end Go.Abs
namespace Go.Abs
def dr.mQ (c:dr):List Int:=[c.v.major,c.v.minor,c.v.patch]
def gA (c:dr):Nat->au
 |0=>[]
 |i+1=>gA c i++(if 0<i then [46]else [])++dF (c.mQ[i]!).toNat
def lv (c:dr):au:=if c.op=9 then(if 0<c.parts then [46]else [])++[42]else if c.v.pre=[]then []else 45::c.v.pre
def me (c:dr):au:=dA c.op++gA c c.parts.toNat++lv c
def dV (c:dr):au:=if m9 c=true then me c else []
def rr {c:dr}(h:fe c.v=true)(i:Nat):0<=c.mQ[i]! /\c.mQ[i]! <=9999:=by
 simp only[fe,pV,bx,aV]at h
 match i with
 |0=>exact h.1.1.1.1
 |1=>exact h.1.1.1.2
 |2=>exact h.1.1.2
 |k+3=>exact(by simp[dr.mQ]:0<=c.mQ[k+3]! /\c.mQ[k+3]! <=9999)
def sn {c:dr}(h:fe c.v=true):∀i,(gA c i).length<=5*i
 |0=>by simp[gA]
 |i+1=>by
  have:=sn h i;have hn:=rr h i;have:=ep 4 (c.mQ[i]!).toNat ae ae
  grind [gA]
def oV {c:dr}(h:m9 c=true):fe c.v=true/\0<=c.parts/\c.parts<=3/\1<=c.op/\c.op<=9:=by
 grind [m9]
end Go.Abs
namespace Go.Abs
def mD (c:dr):List au:=(c.mQ.map fun n=>dF n.toNat).take c.parts.toNat
def Cj (c:dr):∀i,i<=3->aS [46] ((c.mQ.map fun n=>dF n.toNat).take i)=gA c i
 |0,_=>by simp[aS,gA]
 |i+1,h=>by
  have hl:i<(c.mQ.map fun n=>dF n.toNat).length:=by simp[dr.mQ];omega
  have hl2:i<c.mQ.length:=by show i<3;omega
  rw[p7 _ _ _ hl,Cj c i ae];simp only[gA];have e:(c.mQ.map fun n=>dF n.toNat)[i]! =dF (c.mQ[i]!).toNat:=by simp[hl2]
  rw[e];split
  .simp
  grind [gA]
theorem GJ {c:dr}(h:c.parts<=3):(mD c).length=c.parts.toNat:=by
 simp[mD,dr.mQ];omega
theorem CP {c:dr}(h:c.parts<=3):aS [46] (mD c)=gA c c.parts.toNat:=Cj c _ ae
def wx {c:dr}(h0:0<=c.parts)(h:c.parts<=3):aS [46] (mD c++[[42]])=gA c c.parts.toNat++((if 0<c.parts then [46]else [])++[42]):=by
 by_cases hp:0<c.parts
 .grind [tx,GJ,CP]
 .have:c.parts.toNat=0:=ae;rw[aj hp,this];have e:mD c=[]:=by simp[mD,this]
  rw[e];rfl
end Go.Abs
namespace Go.Abs
def opsL:List Int:=[2,4,6,1,3,5,7,8]
def qe (s:au)(i:Nat):Option Int:=(opsL.drop i).find? fun o=>sZ s (dA o)
def gR (s:au):Int×au:=match qe s 0 with
 |some o=>(o,s.drop (dA o).length)
 |none=>if 0<s.length/\at8 s (s.length-1)=42 then(9,s)else(7,s)
def J0 {s:au}{i:Nat}(h:i<8)(hb:sZ s (dA opsL[i]!)=true):qe s i=some opsL[i]! :=by
 have hl:i<opsL.length:=h;unfold qe;rw[jG hl,List.find?_cons]
 grind
def J1 {s:au}{i:Nat}(h:i<8)(hb:sZ s (dA opsL[i]!)=false):qe s i=qe s (i+1):=by
 have hl:i<opsL.length:=h;unfold qe;rw[jG hl,List.find?_cons]
 grind
def z8 {s:au}{i:Nat}(h:8<=i):qe s i=none:=by
 unfold qe;rw[k8 h];rfl
def ix (s:au)(i:Nat):au×au:=match(s.drop i).findIdx? (fun c=>c==45)with
 |some k=>(s.take (i+k),s.drop (i+k+1))
 |none=>(s,[])
def J5 {s:au}{i:Nat}(h:i<s.length)(he:at8 s i=45):ix s i=(s.take i,s.drop (i+1)):=by
 unfold ix;rw[lY s i h,List.findIdx?_cons];have:s.getD i 0=45:=iR.1 (by simp only[at8]at he;show(s.getD i 0).toNat=45;omega);rw[this];rfl
def J6 {s:au}{i:Nat}(h:i<s.length)(he:¬at8 s i=45):ix s i=ix s (i+1):=by
 unfold ix;rw[lY s i h,List.findIdx?_cons];have:(s.getD i 0==45)=false:=by
  rw[beq_eq_false_iff_ne];intro e;exact he (by simp only[at8,e];rfl)
 grind
def FX {s:au}{i:Nat}(h:s.length<=i):ix s i=(s,[]):=by
 unfold ix;rw[k8 h];rfl
end Go.Abs
namespace Go.Abs
def fB (l:List au):Bool:=decide (l.length<=3)&&cP (fun i=>gX l[i]!) 0 l.length
def Qs (l:List au):cZ:=⟨if 0<l.length then eY l[0]! else 0,if 1<l.length then eY l[1]! else 0,if 2<l.length then eY l[2]! else 0,[],[]⟩
def zZ (l:List au):cZ:=if fB l=true then Qs l else ll
end Go.Abs
namespace Go.Abs
def eA:dr:=⟨0,0,ll⟩
def Cu (op:Int)(l:List au):List au:=if op=9 then l.take (l.length-1)else l
def gw (op:Int)(l:List au)(pre:au):dr:=⟨op,(l.length:Nat),{Qs l with pre:=pre}⟩
def wW (s:au)(op:Int)(l:List au)(pre:au):Bool:=fB l&& !(decide (dV (gw op l pre)=[]) ||(!decide (dV (gw op l pre)=s)&& !decide (dV (gw op l pre)=94::s)))
def ez (s:au):Option dr:=
 let o:=gR s
 let p:=ix o.2 0
 let l:=Cu o.1 (ak p.1 46)
 if wW s o.1 l p.2=true then some (gw o.1 l p.2)else none
def AI (s:au):(gR s).2.length<=s.length:=by
 grind [gR]
def Ai (s:au):(ix s 0).1.length<=s.length/\(ix s 0).2.length<=s.length:=by
 unfold ix;split<;>simp<;>omega
end Go.Abs
namespace Go.Abs
def dP (s:au):Int×au:=match qe s 0 with
 |some o=>(o,s.drop (dA o).length)
 |none=>(9,s)
def eX (s:au):au×au:=ix (dP s).2 0
def eC (s:au):List au:=Cu (dP s).1 (ak (eX s).1 46)
def n7 (s:au):Prop:=(dP s).1=9->(ak (eX s).1 46)[(ak (eX s).1 46).length-1]! =[42]
instance (s:au):Decidable (n7 s):=by unfold n7;exact inferInstance
def eQ (s:au):dr:=gw (dP s).1 (eC s) (eX s).2
def hE (s:au):Option dr:=if n7 s/\fB (eC s)=true/\m9 (eQ s)=true/\dV (eQ s)=s then some (eQ s)else none
def JZ (l:List au)(i:Nat):cZ:=⟨if 0<i then eY l[0]! else 0,if 1<i then eY l[1]! else 0,if 2<i then eY l[2]! else 0,[],[]⟩
def NF (s:au):(dP s).2.length<=s.length:=by
 unfold dP;split<;>simp
def kP {s:au}(h:¬(n7 s/\fB (eC s)=true/\m9 (eQ s)=true/\dV (eQ s)=s)):hE s=none:=by
 unfold hE;rw[aj h]
end Go.Abs
namespace Go.Abs
def mW (s:au):Option dr:=if(hE s).isSome=true then hE s else hE (94::s)
def GH (c:dr):bR:=.buf 1 [.str (dF c.v.major.toNat),.str (dF c.v.minor.toNat),.str (dF c.v.patch.toNat)]
def AM (c:dr):[D.str (dF c.v.major.toNat),D.str (dF c.v.minor.toNat),D.str (dF c.v.patch.toNat)].take c.parts.toNat=(mD c).map D.str:=by
 unfold mD dr.mQ;rw[List.map_take];rfl
def T2 {c:dr}{m:List (Nat×bR)}{l:Nat}(hl:look m l=some (GH c)):xV m [.sl 1 [.a]] (.own l 1 0 c.parts.toNat)=.sl 1 ((mD c).map D.str):=by
 show D.sl 1 _=_;simp only[bn,hl,GH,ct,AM,List.map_map];congr 1
def RL {c:dr}{m:List (Nat×bR)}{l:Nat}(h:c.parts<=3)(hl:look m l=some (GH c)):R1 m [.sl 1 [.a]] (.own l 1 0 c.parts.toNat):=by
 simp only[R1,U3,U2];refine⟨by simp[fM,hl,GH];omega, ?_⟩;simp only[bn,hl,GH,ct,AM];intro e he;obtain⟨x,_,rfl⟩:=dZ.1 he;trivial
end Go.Abs
end
namespace Go.Abs
def r8 {c:dr}(h:dV c≠[]):m9 c=true/\dV c=me c:=by
 grind [dV]
def DJ {s:au}{op:Int}{l:List au}{pre:au}:wW s op l pre=true↔fB l=true/\dV (gw op l pre)≠[]/\(dV (gw op l pre)=s\/dV (gw op l pre)=94::s):=by
 grind [wW]
def Af (c:UInt8):Prop:=c≠33/\c≠60/\c≠61/\c≠62/\c≠94/\c≠126
theorem qU {c:UInt8}(h:bo c.toNat=true):Af c/\c≠42:=by
 simp only[bo,bx,aV]at h;refine⟨⟨?_, ?_, ?_, ?_, ?_, ?_⟩, ?_⟩<;>rintro rfl<;>revert h<;>decide
def FN {k:dr}:∀(i:Nat) (c:UInt8),c∈gA k i->bo c.toNat=true\/c=46
 |0,c,h=>by simp[gA]at h
 |i+1,c,h=>by
  simp only[gA,List.mem_append]at h;rcases h with(h|h)|h
  .exact FN i c h
  .grind
  .exact .inl (gY _ c h)
def z6 (k:dr):∀i,0<i->∃c r,gA k i=c::r/\bo c.toNat=true
 |0,h=>ae
 |1,_=>by
  have hd:=gY (k.mQ[0]!).toNat;have hn:=xW (k.mQ[0]!).toNat;simp only[gA,Nat.lt_irrefl,bc,fE];generalize dF (k.mQ[0]!).toNat=w at hd hn
  match w,hn with
  |c::r,_=>exact⟨c,r,rfl,hd c (.head _)⟩
 |i+2,_=>by
  obtain⟨c,r,h1,h2⟩:=z6 k (i+1) ae
  grind [dF,gA]
def Ms {c:dr}(h:m9 c=true)(h9:c.op≠9):0<c.parts.toNat:=by
 grind [m9]
def Nu {s:au}{o:Int}(h:qe s 0=some o):1<=o/\o<=8/\∃x t,s=x::t/\¬Af x/\(x=94->o=7):=by
 have hm:=List.mem_of_find?_eq_some h;have hb:=List.find?_some h;simp only[sZ,bx,aV]at hb;obtain⟨h1,h2⟩:=hb;have hne:s≠[]\/dA o=[]:=by
  grind
 simp only[opsL,ct,bY,eu,or_false]at hm;have key:∀w:au,w≠[]->s.take w.length=w->∃x t t',s=x::t/\w=x::t':=by
  intro w hw hs
  match w,hw with
  |x::t',_=>
   match s with
   |[]=>simp at hs
   |y::t=>
    grind
 rcases hm with rfl|rfl|rfl|rfl|rfl|rfl|rfl|rfl
 all_goals
  refine⟨ae,ae, ?_⟩;obtain⟨x,t,t',e1,e2⟩:=key _ aH h2;have hxx:=ar (fun w:au=>w.headD 0) e2;simp only[List.headD_cons]at hxx;refine⟨x,t,e1, ?_, ?_⟩
  .rw[<-hxx];unfold Af;decide
  .rw[<-hxx];decide
theorem z7 (t:au):qe (94::t) 0=some 7:=by
 unfold qe opsL;have hn:∀w:au,w≠[]->w.headD 0≠94->sZ (94::t) w=false:=by
  intro w hw hx
  match w,hw with
  |x::r,_=>
   grind [sZ]
 have hy:sZ (94::t) (dA 7)=true:=by
  grind [sZ,dA]
 simp only[ct,List.find?_cons,hn _ (show dA 2≠[]by decide) aH,hn _ (show dA 4≠[]by decide) aH,hn _ (show dA 6≠[]by decide) aH,hn _ (show dA 1≠[]by decide) aH,
  hn _ (show dA 3≠[]by decide) aH,hn _ (show dA 5≠[]by decide) aH,hy]
def FY (t:au):dP (94::t)=(7,t):=by
 grind [dP,z7,dA]
def AJ (b:Int):∀(s cur:au),∃r l,cq b s cur=(cur++r)::l
 |[],cur=>⟨[],[],by simp[cq]⟩
 |c::s,cur=>by
  simp only[cq];split
  .exact⟨[],_,by rw[gG]⟩
  .obtain⟨r,l,h⟩:=AJ b s (cur++[c]);exact⟨c::r,l,by rw[h];simp⟩
def Oc {x:UInt8}{t:au}(h:¬Af x):fB (ak (ix (x::t) 0).1 46)=false:=by
 have hx:x≠45/\x≠46/\bo x.toNat=false:=by
  grind [Af,bo,qU]
 have hp:∃r,(ix (x::t) 0).1=x::r:=by
  unfold ix;rw[ct,List.findIdx?_cons];rw[aj (by simpa using hx.1)];cases t.findIdx? (fun c=>c==45)with
  |none=>exact⟨t,rfl⟩
  |some k=>exact⟨t.take k,aT⟩
 obtain⟨r,hr⟩:=hp;rw[hr];have h46:¬((x.toNat:Int)=46):=fun e=>hx.2.1 (iR.1 (by show x.toNat=46;omega))
 obtain⟨q,l,hs⟩:=AJ 46 r [x]
 grind [ak,cq,fB,aR,gX,DG,bo,at8]
def US {s:au}(h:gR s=dP s):ez s=if wW s (dP s).1 (eC s) (eX s).2=true then some (eQ s)else none:=by
 unfold ez;simp only[h];rfl
def At {s:au}:hE s=if n7 s/\fB (eC s)=true/\m9 (eQ s)=true/\dV (eQ s)=s then some (eQ s)else none:=rfl
def NA {s:au}(h:∀c∈s,c≠45):ix s 0=(s,[]):=by
 grind [ix]
def CI {k:dr}(hb:m9 k=true)(h9:k.op=9):me k=aS [46] (mD k++[[42]]):=by
 obtain⟨_,h0,h3,_,_⟩:=oV hb;rw[wx h0 h3];unfold me lv;rw[ax h9,h9];rfl
theorem rU {k:dr}{w:au}(h:w∈mD k++[[42]]){c:UInt8}(hc:c∈w):bo c.toNat=true\/c=42:=by
 rcases List.mem_append.1 h with h|h
 .have:=lW h
  grind [gY]
 grind
def CH {k:dr}{s:au}(hb:m9 k=true)(h9:k.op=9)(hs:me k=s):(0<s.length/\at8 s (s.length-1)=42)/\ix s 0=(s,[])/\ak s 46=mD k++[[42]]:=by
 have ht:=CI hb h9;obtain⟨_,h0,h3,_,_⟩:=oV hb;rw[hs]at ht;have hch:∀c∈s,bo c.toNat=true\/c=42\/c=46:=by
  grind [nA,rU]
 refine⟨?_,NA (fun c hc=>?_), ?_⟩
 .have he:∃q,s=q++[42]:=by
   rw[ht,wx h0 h3];exact⟨gA k k.parts.toNat++(if 0<k.parts then [46]else []),by rw[dY]⟩
  obtain⟨q,rfl⟩:=he;simp[at8]
 .rintro rfl;rcases hch 45 hc with h|h|h
  .revert h;decide
  .revert h;decide
  .revert h;decide
 .rw[ht];refine j9 (b:=46) (x:=46) rfl aT fun w hw c hc=>?_
  rcases rU hw hc with h|h
  .have:=(qT h).1;omega
  .rw[h];decide
def zl {k:dr}{s:au}(hb:m9 k=true)(h7:k.op=7)(hs:me k=94::s):(∀c∈s,c≠42)/\∃c r,s=c::r/\bo c.toNat=true:=by
 have hp:=Ms hb ae;have e:s=gA k k.parts.toNat++lv k:=by
  unfold me at hs;rw[h7,show dA 7=[94]by decide]at hs;simpa using hs.symm
 obtain⟨c,r,h1,h2⟩:=z6 k _ hp;refine⟨fun c hc=>?_,c,r++lv k,by rw[e,h1];rfl,h2⟩;rw[e]at hc;rcases List.mem_append.1 hc with hc|hc
 .rcases FN _ c hc with h|h
  .exact(qU h).2
  .rw[h];decide
 .unfold lv at hc;rw[aj ae]at hc;split at hc
  .cases hc
  .rcases bY.1 hc with rfl|hc
   .decide
   .have hv:=(oV hb).1;simp only[fe,bx]at hv;rcases GG hv.1.2 hc with h|h
    .rintro rfl;revert h;decide
    .rw[h];decide
def yf {s:au}:wW s (dP s).1 (eC s) (eX s).2=true↔fB (eC s)=true/\dV (eQ s)≠[]/\(dV (eQ s)=s\/dV (eQ s)=94::s):=DJ
def Pt (s:au):mW s=ez s:=by
 have hcar:dP (94::s)=(7,s):=FY s;have hL7:eC (94::s)=ak (ix s 0).1 46:=by
  unfold eC eX;rw[hcar];rfl
 have hK7:eQ (94::s)=gw 7 (ak (ix s 0).1 46) (ix s 0).2:=by
  unfold eQ;rw[hL7];unfold eX;rw[hcar]
 cases ho:qe s 0 with
 |some o=>
  obtain⟨o1,o8,x,t,hs,hx,hx94⟩:=Nu ho;have hrw:dP s=(o,s.drop (dA o).length):=by simp only[dP,ho]
  have hsp:gR s=dP s:=by rw[hrw];simp only[gR,ho]
  have hstar:n7 s:=by
   intro h;rw[hrw]at h;simp only at h;omega
  have hcn:hE (94::s)=none:=kP fun h=>by
   have:=h.2.1;rw[hL7,hs,Oc hx]at this;cases this
  have hop:(eQ s).op=o:=by show(dP s).1=o;rw[hrw]
  rw[US hsp];by_cases hk:fB (eC s)=true/\dV (eQ s)=s
  .have hne:dV (eQ s)≠[]:=by rw[hk.2,hs];simp
   have hb:=(r8 hne).1;have hr:hE s=some (eQ s):=by rw[At,ax ⟨hstar,hk.1,hb,hk.2⟩]
   have hok:wW s (dP s).1 (eC s) (eX s).2=true:=yf.2 ⟨hk.1,hne,.inl hk.2⟩;rw[ax hok];unfold mW;rw[hr];rfl
  .have hr:hE s=none:=kP fun h=>hk ⟨h.2.1,h.2.2.2⟩
   have hok:¬wW s (dP s).1 (eC s) (eX s).2=true:=fun h=>by
    obtain⟨h1,h2,h3⟩:=yf.1 h;rcases h3 with h3|h3
    .exact hk ⟨h1,h3⟩
    .obtain⟨hb,he⟩:=r8 h2;have h3':me (eQ s)=94::s:=by rw[<-he];exact h3
     have h7:o=7:=by
      have hh:∃y w,dA o=y::w/\(y=94->o=7):=by
       have:o=1\/o=2\/o=3\/o=4\/o=5\/o=6\/o=7\/o=8:=ae;rcases this with rfl|rfl|rfl|rfl|rfl|rfl|rfl|rfl
       .exact⟨61,[],aH,aH⟩
       .exact⟨33,[61],aH,aH⟩
       .exact⟨60,[],aH,aH⟩
       .exact⟨60,[61],aH,aH⟩
       .exact⟨62,[],aH,aH⟩
       .exact⟨62,[61],aH,aH⟩
       .exact⟨94,[],aH,aH⟩
       .exact⟨126,[],aH,aH⟩
      obtain⟨y,w,e1,e2⟩:=hh;unfold me at h3';rw[hop,e1]at h3';simp only[fg,ub]at h3';exact e2 h3'.1
     obtain⟨_,c,r,e1,e2⟩:=zl hb (by rw[hop];exact h7) h3';rw[hs]at e1;simp only[ub]at e1;rw[<-e1.1]at e2;exact hx (qU e2).1
   rw[aj hok];unfold mW;rw[hr,aj aT,hcn]
 |none=>
  have hrw:dP s=(9,s):=by simp only[dP,ho]
  have h94:∀t,s≠94::t:=by
   rintro t rfl;rw[z7]at ho;cases ho
  have hop:(eQ s).op=9:=by show(dP s).1=9;rw[hrw]
  have hst7:n7 (94::s):=by
   intro h;rw[hcar]at h;simp only at h;omega
  by_cases hl:0<s.length/\at8 s (s.length-1)=42
  .have hsp:gR s=dP s:=by rw[hrw];simp only[gR,ho,ax hl]
   have hcn:hE (94::s)=none:=kP fun h=>by
    obtain⟨_,h2,h3,h4⟩:=h;have he:=(r8 (c:=eQ (94::s)) (by rw[h4];simp)).2;rw[h4]at he;have hno:=(zl h3 (by rw[hK7];rfl) he.symm).1;have hmem:s[s.length-1]'(ae)∈s:=List.getElem_mem _;refine hno _ hmem (iR.1 ?_);have:=hl.2;rw[rY s _ ae]at this;show _=42;omega
   rw[US hsp];by_cases hk:fB (eC s)=true/\dV (eQ s)=s
   .have hne:dV (eQ s)≠[]:=by
     rw[hk.2];intro h;rw[h]at hl;simp at hl
    obtain⟨hb,he⟩:=r8 hne;obtain⟨_,g2,g3⟩:=CH (s:=s) hb hop (he.symm.trans hk.2);have hstar:n7 s:=by
     intro _;have hP:eX s=(s,[]):=by unfold eX;rw[hrw];exact g2
     rw[hP];simp only;rw[g3];simp
    have hr:hE s=some (eQ s):=by rw[At,ax ⟨hstar,hk.1,hb,hk.2⟩]
    have hok:wW s (dP s).1 (eC s) (eX s).2=true:=yf.2 ⟨hk.1,hne,.inl hk.2⟩;rw[ax hok];unfold mW;rw[hr];rfl
   .have hr:hE s=none:=kP fun h=>hk ⟨h.2.1,h.2.2.2⟩
    have hok:¬wW s (dP s).1 (eC s) (eX s).2=true:=fun h=>by
     obtain⟨h1,h2,h3⟩:=yf.1 h;rcases h3 with h3|h3
     .exact hk ⟨h1,h3⟩
     .obtain⟨hb,he⟩:=r8 h2;have h3':me (eQ s)=94::s:=by rw[<-he];exact h3
      have ht:=CI hb hop;rw[h3']at ht;have hm:(94:UInt8)∈aS [46] (mD (eQ s)++[[42]]):=by rw[<-ht];simp
      rcases nA 46 _ _ hm with h|⟨w,hw,hcw⟩
      .revert h;decide
      .rcases rU hw hcw with h|h
       .revert h;decide
       .revert h;decide
    rw[aj hok];unfold mW;rw[hr,aj aT,hcn]
  .have hsp:gR s=(7,s):=by simp only[gR,ho,aj hl]
   have hr:hE s=none:=kP fun h=>by
    obtain⟨h1,h2,h3,h4⟩:=h;have he:me (eQ s)=s:=(ax h3:dV (eQ s)=me (eQ s)).symm.trans h4;exact hl (CH h3 hop he).1
   have h6:ez s=if wW s 7 (ak (ix s 0).1 46) (ix s 0).2=true then some (eQ (94::s))else none:=by
    unfold ez;simp only[hsp];rw[hK7];rfl
   have hRC:mW s=hE (94::s):=by
    unfold mW;rw[hr];rfl
   rw[hRC,h6,At];by_cases hok:wW s 7 (ak (ix s 0).1 46) (ix s 0).2=true
   .rw[ax hok];obtain⟨h1,h2,h3⟩:=DJ.1 hok;obtain⟨hb,he⟩:=r8 h2;rcases h3 with h3|h3
    .exfalso;rw[he]at h3;have hh:∃w,me (gw 7 (ak (ix s 0).1 46) (ix s 0).2)=94::w:=by
      unfold me;exact⟨_,rfl⟩
     obtain⟨w,hw⟩:=hh;exact h94 w (by rw[<-h3,hw])
    .rw[ax ⟨hst7,by rw[hL7];exact h1,by rw[hK7];exact hb,by rw[hK7];exact h3⟩]
   .rw[aj hok,aj];rintro⟨_,g2,g3,g4⟩;rw[hK7]at g3 g4;rw[hL7]at g2;exact hok (DJ.2 ⟨g2,by rw[g4];simp,.inr g4⟩)
abbrev Alt:=List dr
abbrev y7:=List Alt
def qK (a:Alt):D:=.sl 7 (a.map dr.D)
def Hr (a:Alt):(qK a).bE=true:=rfl
def oo (l k:Nat)(es:List D)(r:List Alt):mY l k es (r.map qK)=r.map qK:=zB l k es _ (cg Hr _)
def iq (r:y7):D:=.agg [.sl 1 (r.map qK)]
def ku (a:Alt):Bool:=decide (1<=a.length)&&decide (a.length<=6)&&cP (fun k=>m9 a[k]!) 0 a.length
def kj (r:y7):Bool:=decide (1<=r.length)&&decide (r.length<=6)&&cP (fun i=>ku r[i]!) 0 r.length
def jA (a:Alt):au:=aS [44,32] (a.map dV)
def D5 (r:y7):au:=aS [32,124,124,32] (r.map jA)
def dr.lo (c:dr):Prop:=c.v.pre.length<=1000/\c.v.build.length<=1000
def dr.lo.sm {c:dr}(h:c.lo):c.v.sm:=⟨dc h.1 aH,dc h.2 aH⟩
def nZ (r:y7):Prop:=∀a∈r,∀c∈a,c.lo
def sF (b:au)(l:List au)(i:Nat):au:=if 0<i then aS b (l.take i)++b else []
def vN (b:au)(l:List au)(i:Nat)(h:i<l.length):aS b (l.take (i+1))=sF b l i++l[i]! :=p7 b l i h
def QQ (b:au)(l:List au){i:Nat}(h:¬0<i):aS b (l.take i)=sF b l i:=by
 grind [sF,aS]
def zm {c:dr}(h:c.lo):(dV c).length<=1100:=by
 unfold dV;split
 .rename_i hb;obtain⟨hv,h0,h3,_⟩:=oV hb;have h1:=wj c.op;have h2:=sn hv c.parts.toNat;have ht:(lv c).length<=1001:=by
   unfold lv;have:=h.1
   grind
  simp only[me,bF];omega
 .simp
def ri (b:au)(M:Nat):∀(l:List au),(∀t∈l,t.length<=M)->(aS b l).length<=l.length*(M+b.length)
 |[],_=>by simp[aS]
 |[t],h=>by
  grind [aS]
 |t::u::r,h=>by
  have h1:=h t (.head _);have h2:=ri b M (u::r) fun x hx=>h x (.tail _ hx)
  simp only[aS,bF];simp only[az,Nat.add_mul,Nat.one_mul]at h2⊢;omega
def DC {α β:Type} [Inhabited α] [Inhabited β](f:α->β)(l:List α){i:Nat}(h:i<l.length):(l.map f)[i]! =f l[i]! :=by
 simp[h]
def y8 {a:Alt}(h:∀c∈a,c.lo)(hl:a.length<=6):(jA a).length<=6612:=by
 have:=ri [44,32] 1100 (a.map dV) (fun t ht=>by
  obtain⟨c,hc,rfl⟩:=dZ.1 ht;exact zm (h c hc))
 grind [jA]
def zv {r:y7}(h:kj r=true){i:Nat}(hi:i<r.length):ku r[i]! =true:=by
 simp only[kj,bx,aV]at h;exact eF.1 h.2 i ae hi
def vk {a:Alt}(h:ku a=true):1<=a.length/\a.length<=6:=by
 grind [ku]
def RA {r:y7}(h:kj r=true)(hs:nZ r):(D5 r).length<=40000:=by
 have h6:r.length<=6:=by simp only[kj,bx,aV]at h;exact h.1.2
 have:=ri [32,124,124,32] 6612 (r.map jA) (fun t ht=>by
  obtain⟨a,ha,rfl⟩:=dZ.1 ht;obtain⟨i,hi,rfl⟩:=List.mem_iff_getElem.1 ha;have h1:=zv h hi;rw[show r[i]! =r[i]by simp[hi]]at h1;exact y8 (hs _ ha) (vk h1).2)
 grind [D5]
def iG {α β:Type} [Inhabited α](f:α->β)(l:List α){i:Nat}(h:i<l.length):(l.map f).take (i+1)=(l.map f).take i++[f l[i]!]:=by
 rw[List.take_add_one];simp[h]
def tD (r:y7):Bool:=kj r&&decide ((D5 r).length<=96)
def xa (r:y7):au:=if tD r=true then D5 r else []
def aK:au->au->List au
 |[],cur=>[cur]
 |[c],cur=>[cur++[c]]
 |c::d::r,cur=>if c=124/\d=124 then cur::aK r []else aK (d::r) (cur++[c])
def kB:au->au
 |[]=>[]
 |c::r=>if c=32 then kB r else c::r
def ey (s:au):au:=(kB (kB s).reverse).reverse
theorem rZ:∀s,(kB s).length<=s.length
 |[]=>aP _
 |c::r=>by
  unfold kB;split
  .have:=rZ r;simp only[az];omega
  .exact aP _
theorem vo (s:au):(ey s).length<=s.length:=by
 grind [rZ,kB,ey]
def n5:∀(s cur:au),(aK s cur).length<=s.length+1/\(∀t∈aK s cur,t.length<=cur.length+s.length)
 |[],cur=>by simp[aK]
 |[c],cur=>by simp[aK]
 |c::d::r,cur=>by
  unfold aK;split
  .have:=n5 r []
   grind
  .have:=n5 (d::r) (cur++[c])
   grind
def wOK (t:au):Bool:=cP (fun k=>(ez (ey (ak t 44)[k]!)).isSome) 0 (ak t 44).length
def AD (s:au):Bool:=cP (fun i=>wOK (aK s [])[i]!) 0 (aK s []).length
def mI (t:au):Alt:=(ak t 44).map fun x=>(ez (ey x)).getD eA
def iB (s:au):y7:=(aK s []).map mI
def iA (s:au):y7×Int:=
 if 96<s.length then([],3)else if AD s=false then([],6)else if kj (iB s)=false then([],6)else if 96<(D5 (iB s)).length then([],3)else(iB s,0)
def sr (s:au):Bool:=decide ((iA s).2=0)&&decide (xa (iA s).1=s)
theorem Pr {s:au}(h:s.length<=1000):((ez s).getD eA).lo:=by
 unfold ez;simp only;split
 .have h1:=AI s;have h2:=Ai (gR s).2;exact⟨by show(ix (gR s).2 0).2.length<=1000;omega,by show([]:au).length<=1000;decide⟩
 .exact⟨by show([]:au).length<=1000;decide,by show([]:au).length<=1000;decide⟩
theorem D6 {s:au}(h:s.length<=1000):nZ (iB s):=by
 intro a ha c hc;obtain⟨t,ht,rfl⟩:=dZ.1 ha;obtain⟨x,hx,rfl⟩:=dZ.1 hc;have h1:=(n5 s []).2 t ht;have h2:=eJ t 44 hx
 grind [vo,Pr]
def Ko {s:au}:nZ (iA s).1/\((iA s).2=0->kj (iA s).1=true):=by
 unfold iA;split
 .exact⟨(fun a ha=>by cases ha),fun h=>by cases h⟩
 .split
  .exact⟨(fun a ha=>by cases ha),fun h=>by cases h⟩
  .split
   .exact⟨(fun a ha=>by cases ha),fun h=>by cases h⟩
   .rename_i hf;split
    .exact⟨(fun a ha=>by cases ha),fun h=>by cases h⟩
    grind [D6]
theorem I4 {s:au}{i:Nat}(cur:au)(h:i+1<s.length)(h1:at8 s i=124)(h2:at8 s (i+1)=124):aK (s.drop i) cur=cur::aK (s.drop (i+2)) []:=by
 rw[lY s i ae,lY s (i+1) h];have e1:s.getD i 0=124:=iR.1 (by simp only[at8]at h1;show(s.getD i 0).toNat=124;omega);have e2:s.getD (i+1) 0=124:=iR.1 (by simp only[at8]at h2;show(s.getD (i+1) 0).toNat=124;omega)
 grind [aK]
def Gy {s:au}{i:Nat}(cur:au)(h:i+1<s.length)(hn:¬(at8 s i=124/\at8 s (i+1)=124)):aK (s.drop i) cur=aK (s.drop (i+1)) (cur++[s.getD i 0]):=by
 rw[lY s i ae,lY s (i+1) h];simp only[aK];rw[aj];rintro⟨e1,e2⟩;exact hn ⟨by simp only[at8,e1];rfl,by simp only[at8,e2];rfl⟩
def I3 {s:au}{i:Nat}(cur:au)(h:s.length<=i+1):aK (s.drop i) cur=[cur++s.drop i]:=by
 have hl:(s.drop i).length<=1:=by rw[lV];omega
 match s.drop i,hl with
 |[],_=>simp[aK]
 |[c],_=>simp[aK]
def Pw {s:au}{i fr:Nat}(h:i<s.length)(hf:fr<=i):(s.take i).drop fr++[s.getD i 0]=(s.take (i+1)).drop fr:=by
 rw[List.take_add_one,List.drop_append_of_le_length (by rw[ff];omega)];simp[h]
def sO (s:au)(i fr:Nat)(acc:List au):Prop:=aK s []=acc++aK (s.drop (max i fr)) ((s.take (max i fr)).drop fr)
def Ml {s:au}{i fr:Nat}{acc:List au}(hI:sO s i fr acc)(h:i+1<s.length)(hc:(at8 s i=124/\at8 s (i+1)=124)/\(fr:Int)<=i):sO s (i+1) (i+2) (acc++[(s.take i).drop fr]):=by
 grind [sO,I4]
def O9 {s:au}{i fr:Nat}{acc:List au}(hI:sO s i fr acc)(h:i+1<s.length)(hf:fr<=i+1)(hc:(¬at8 s i=124\/¬at8 s (i+1)=124)\/¬(fr:Int)<=i):sO s (i+1) fr acc:=by
 unfold sO at hI⊢;by_cases hl:fr<=i
 .rw[hI,Nat.max_eq_left hl,Gy _ h (by rcases hc with(hc|hc)|hc;exact fun h=>hc h.1;exact fun h=>hc h.2;omega),Nat.max_eq_left ae,Pw ae hl]
 grind
def Mk {s:au}{i fr:Nat}{acc:List au}(hI:sO s i fr acc)(h:s.length<=i+1)(hl:fr<=s.length):aK s []=acc++[s.drop fr]:=by
 unfold sO at hI;rw[hI,I3 _ (by have:=Nat.le_max_left i fr;omega)];congr 2
 conv=>rhs;rw[<-List.take_append_drop (max i fr) s]
 grind
def BB {t:au}(h:0<t.length)(h0:at8 t 0=32):kB t=kB (t.drop 1):=by
 match t,h with
 |c::r,_=>
  have:c=32:=iR.1 (by have h0:((c.toNat:Nat):Int)=32:=h0;show c.toNat=32;omega);subst this;simp[kB]
theorem zd {t:au}(h:¬(0:Int)<(t.length:Nat)\/¬at8 t 0=32):kB t=t:=by
 match t with
 |[]=>rfl
 |c::r=>
  rcases h with h|h
  .simp only[az]at h;omega
  .simp only[kB];rw[aj];rintro rfl;exact h rfl
def ze (u:au):au:=(kB u.reverse).reverse
theorem Jm {u:au}(h:0<u.length):at8 u.reverse 0=at8 u (u.length-1):=by
 grind [at8]
def Mo {u:au}(h:0<u.length)(h0:at8 u (u.length-1)=32):ze u=ze (u.take (u.length-1)):=by
 unfold ze;rw[BB (by simpa using h) (by rw[Jm h];exact h0)];congr 2;rw[List.drop_reverse]
def Hu {u:au}(h:¬(0:Int)<(u.length:Nat)\/¬at8 u (u.length-1)=32):ze u=u:=by
 grind [ze,zd,Jm]
def Nd.eq (a b:Nd):jd (Nd.D a).cells (Nd.D b).cells=decide (a=b):=by
 obtain⟨a1,a2,a3,a4,a5⟩:=a;obtain⟨b1,b2,b3,b4,b5⟩:=b
 grind [Nd.D,D.cells,jd,uv,xY]
def kC (n:Nd):Bool:=decide (n.key=0)&&decide (n.text=[])
def oq (n:Nd):Bool:=decide (n.op=1)&&decide (0<=n.key)&&decide (n.key<3)&&cI n.text&&decide (n.a=0)&&decide (n.b=0)
def jj (n:Nd)(i:Nat)(o:List Int):Option (List Int):=
 if oq n=true then some (o++[(i:Int)])
 else if(((n.op=2/\kC n=true)/\0<o.length)/\n.a=o[o.length-1]!)/\n.b=0 then some (o.take (o.length-1)++[(i:Int)])
 else if((((n.op=3\/n.op=4)/\kC n=true)/\1<o.length)/\n.a=o[o.length-2]!)/\n.b=o[o.length-1]! then some (o.take (o.length-2)++[(i:Int)])
 else none
def m3:List Nd->Nat->List Int->Option (List Int)
 |[],_,o=>some o
 |n::r,i,o=>match jj n i o with
  |some o'=>m3 r (i+1) o'
  |none=>none
def oB (l:List Nd):Bool:=match m3 l 0 []with
 |some o=>decide (l.length=0) ||decide (o.length=1)
 |none=>false
def BO {α:Type} [Inhabited α](l:List α){i:Nat}(h:i<l.length):l.drop i=l[i]! ::l.drop (i+1):=by
 rw[jG h];simp[h]
def je {l:List Nd}{i:Nat}{o o':List Int}(h:i<l.length)(hs:jj l[i]! i o=some o'):m3 (l.drop i) i o=m3 (l.drop (i+1)) (i+1) o':=by
 rw[BO l h];simp only[m3,hs]
def gF {l:List Nd}{i:Nat}{o:List Int}(h:i<l.length)(hs:jj l[i]! i o=none):m3 (l.drop i) i o=none:=by
 rw[BO l h];simp only[m3,hs]
def Ck {l:List Nd}{i:Nat}{o:List Int}(h:l.length<=i):m3 (l.drop i) i o=some o:=by
 rw[k8 h];rfl
def GK {l:List Nd}(h:m3 l 0 []=none):oB l=false:=by simp only[oB,h]
def kf {l:List Nd}(h:m3 l 0 []=none):(true&&oB l)=false:=by rw[GK h];rfl
def Es (S:List Int):Int->List Int->Prop
 |e,[]=>e=0
 |e,t::r=>t=e-1/\0<=t/\0<=S[t.toNat]! /\S[t.toNat]! <=t/\Es S S[t.toNat]! r
def Db {S:List Int}{i:Nat}{v:Int}:∀{r:List Int}{e:Int},e<=i->Es S e r->Es (S.set i v) e r
 |[],e,_,h=>h
 |t::r,e,he,⟨h1,h2,h3,h4,h5⟩=>by
  have hg:(S.set i v)[t.toNat]! =S[t.toNat]! :=by
   grind
  exact⟨h1,h2,by rw[hg];exact h3,by rw[hg];exact h4,by rw[hg];exact Db ae h5⟩
def TZ {S:List Int}{i:Nat}{v:Int}(h:i<S.length):(S.set i v)[i]! =v:=by
 simp[h]
def uj {S:List Int}{i:Nat}{v:Int}{r:List Int}(h:i<S.length)(h0:0<=v)(h1:v<=i)(hc:Es S v r):Es (S.set i v) ((i+1:Nat):Int) ((i:Int)::r):=by
 have hg:(S.set i v)[((i:Nat):Int).toNat]! =v:=by rw[Int.toNat_natCast];exact TZ h
 exact⟨ae,ae,by rw[hg];exact h0,by rw[hg];exact h1,by rw[hg];exact Db ae hc⟩
def uk {S:List Int}{i:Nat}{o:List Int}(h:Es S (i:Nat) o.reverse):(0<o.length↔1<=i)/\(1<=i->o[o.length-1]! =(i:Int) -1/\0<=S[i-1]! /\S[i-1]! <=(i:Int) -1/\Es S S[i-1]! (o.take (o.length-1)).reverse):=by
 rcases List.eq_nil_or_concat o with rfl|⟨p,t,rfl⟩
 .have h:((i:Nat):Int)=0:=h
  grind
 .rw[List.concat_eq_append,List.reverse_append,List.reverse_singleton,List.singleton_append]at h;obtain⟨h1,h2,h3,h4,h5⟩:=h
  grind
def Dc {S:List Int}{i:Nat}{o:List Int}(h:Es S (i:Nat) o.reverse):(1<o.length↔1<=i/\1<=S[i-1]!)/\(1<o.length->o[o.length-2]! =S[i-1]! -1/\0<=S[(S[i-1]! -1).toNat]! /\S[(S[i-1]! -1).toNat]! <=S[i-1]! -1/\Es S S[(S[i-1]! -1).toNat]! (o.take (o.length-2)).reverse):=by
 obtain⟨h1,h2⟩:=uk h;by_cases hi:1<=i
 .obtain⟨g1,g2,g3,g4⟩:=h2 hi;have hl:=h1.2 hi;rcases List.eq_nil_or_concat o with rfl|⟨p,t,rfl⟩
  .simp at hl
  .rw[List.concat_eq_append]at g4⊢;rw[List.take_append_of_le_length aT,ek aT]at g4;rcases List.eq_nil_or_concat p with rfl|⟨q,u,rfl⟩
   .have g4:S[i-1]! =0:=g4;exact⟨⟨fun h=>absurd h aT,fun h=>ae⟩,fun h=>absurd h aT⟩
   .rw[List.concat_eq_append]at g4⊢;rw[List.reverse_append,List.reverse_singleton,List.singleton_append]at g4;obtain⟨k1,k2,k3,k4,k5⟩:=g4;subst k1;refine⟨⟨fun _=>⟨hi,ae⟩,fun _=>aT⟩,fun _=>⟨aT,k3,k4, ?_⟩⟩;rw[dY,List.take_append_of_le_length aT,ek aT];exact k5
 .have:¬0<o.length:=fun h=>hi (h1.1 h)
  exact⟨⟨fun h=>ae,fun h=>absurd h.1 hi⟩,fun h=>ae⟩
def RN {S:List Int}{n:Nat}{o:List Int}(t1:0<o.length↔1<=n)(t2:1<=n->o[o.length-1]! =(n:Int) -1/\0<=S[n-1]! /\S[n-1]! <=(n:Int) -1/\Es S S[n-1]! (o.take (o.length-1)).reverse)(u1:1<o.length↔1<=n/\1<=S[n-1]!):
  (decide (n=0) ||decide (o.length=1))=(decide ((n:Nat)=(0:Int)) ||decide (S[n-1]! =0)):=by
 grind
theorem zM {n:Nd}(h:oq n=true):n.op=1:=by grind [oq]
def I7 {n:Nd}{i:Nat}{o:List Int}(h:oq n=true):jj n i o=some (o++[(i:Int)]):=ax h
def D9 {n:Nd}{i:Nat}{o:List Int}(h1:n.op=1)(h:oq n=false):jj n i o=none:=by
 grind [jj]
def GA {n:Nd}{i:Nat}{o:List Int}(h1:n.op≠1)(h2:n.op≠2)(h3:n.op≠3)(h4:n.op≠4):jj n i o=none:=by
 grind [jj,zM]
def wq {S:List Int}{n:Nd}{i:Nat}{o:List Int}(hc:Es S (i:Nat) o.reverse)(h2:n.op=2):jj n i o=if(1<=i/\n.a=(i:Int) -1/\n.b=0)/\kC n=true then some (o.take (o.length-1)++[(i:Int)])else none:=by
 obtain⟨t1,t2⟩:=uk hc
 grind [jj,zM,kC]
def nG {S:List Int}{n:Nd}{i:Nat}{o:List Int}(hc:Es S (i:Nat) o.reverse)(h2:n.op=3\/n.op=4):jj n i o=if(2<=i/\n.b=(i:Int) -1/\1<=S[i-1]! /\n.a=S[i-1]! -1)/\kC n=true then some (o.take (o.length-2)++[(i:Int)])else none:=by
 obtain⟨t1,t2⟩:=uk hc;obtain⟨u1,u2⟩:=Dc hc;unfold jj;rw[aj (fun h=>by have:=zM h;omega),aj (by rintro⟨⟨⟨⟨h,_⟩,_⟩,_⟩,_⟩;omega)];by_cases hk:(2<=i/\n.b=(i:Int) -1/\1<=S[i-1]! /\n.a=S[i-1]! -1)/\kC n=true
 .grind
 .rw[aj hk,aj]
  grind
def jE (l:List Nd):Prop:=∀j,j<l.length->(l[j]!.op=1->0<=l[j]!.key/\l[j]!.key<3/\l[j]!.text.length<=12)/\(l[j]!.op≠1->0<=l[j]!.a/\l[j]!.a<j)/\(l[j]!.op≠1->l[j]!.op≠2->0<=l[j]!.b/\l[j]!.b<j)
def Im {l:List Nd}:∀(k i:Nat) (o o':List Int),i+k=l.length->(∀x∈o,0<=x/\x<(i:Int))->m3 (l.drop i) i o=some o'->
  ∀j,i<=j->j<l.length->(l[j]!.op=1->0<=l[j]!.key/\l[j]!.key<3/\l[j]!.text.length<=12)/\(l[j]!.op≠1->0<=l[j]!.a/\l[j]!.a<j)/\(l[j]!.op≠1->l[j]!.op≠2->0<=l[j]!.b/\l[j]!.b<j):=by
 intro k;induction k with
 |zero=>intro i o o' h1 h2 h3 j h4 h5;omega
 |succ k ih=>
  intro i o o' h1 h2 h3 j h4 h5;have hi:i<l.length:=ae;cases hs:jj l[i]! i o with
  |none=>rw[gF hi hs]at h3;cases h3
  |some o2=>
   rw[je hi hs]at h3;have hm:∀m,0<m->m<=o.length->0<=o[o.length-m]! /\o[o.length-m]! <(i:Int):=fun m hm1 hm2=>h2 _ (bB ae)
   have hsub:∀m,∀x∈o.take m++[(i:Int)],0<=x/\x<((i+1:Nat):Int):=fun m x hx=>by
    rcases List.mem_append.1 hx with hx|hx
    .have:=h2 x (lW hx);omega
    .simp only[cN]at hx;omega
   unfold jj at hs;split at hs
   .rename_i hl;cases hs;rcases gW i j with hj|hj
    .exact ih (i+1) _ o' ae (by have:=hsub o.length;rwa [ek (aP _)]at this) h3 j hj h5
    .obtain rfl:i=j:=ae;simp only[oq,bx,aV]at hl;have hw:=hl.1.1.2;simp only[cI,bx,aV]at hw;exact⟨fun _=>⟨hl.1.1.1.1.2,hl.1.1.1.2,hw.1.2⟩,fun h=>absurd hl.1.1.1.1.1 h,fun h=>absurd hl.1.1.1.1.1 h⟩
   .split at hs
    .rename_i hl;cases hs;rcases gW i j with hj|hj
     .exact ih (i+1) _ o' ae (hsub _) h3 j hj h5
     .obtain rfl:i=j:=ae;obtain⟨⟨⟨⟨g1,g2⟩,g3⟩,g4⟩,g5⟩:=hl;have:=hm 1 ae ae;exact⟨fun h=>ae,fun _=>by rw[g4];exact this,fun _ h=>absurd g1 h⟩
    .split at hs
     .rename_i hl;cases hs;rcases gW i j with hj|hj
      .exact ih (i+1) _ o' ae (hsub _) h3 j hj h5
      .obtain rfl:i=j:=ae;obtain⟨⟨⟨⟨g1,g2⟩,g3⟩,g4⟩,g5⟩:=hl;have q1:=hm 1 ae ae;have q2:=hm 2 ae ae;exact⟨fun h=>ae,fun _=>by rw[g4];exact q2,fun _ _=>by rw[g5];exact q1⟩
     .cases hs
def qi {l:List Nd}(h:oB l=true):jE l:=by
 unfold oB at h;cases ho:m3 l 0 []with
 |none=>rw[ho]at h;cases h
 |some o=>exact fun j hj=>Im l.length 0 [] o ae aT ho j (Nat.zero_le _) hj
def Pm (n:Nd)(o:List Int):Bool:=(((decide (n.op=2)&&(decide (n.key=0)&&decide (n.text=[])))&&decide ((0:Int)<(o.length:Nat)))&&decide (n.a=o[o.length-1]!))&&decide (n.b=0)
def Pn (n:Nd)(o:List Int):Bool:=((((decide (n.op=3) ||decide (n.op=4))&&(decide (n.key=0)&&decide (n.text=[])))&&decide ((1:Int)<(o.length:Nat)))&&decide (n.a=o[o.length-2]!))&&decide (n.b=o[o.length-1]!)
def yk (n:Nd)(i:Nat)(o:List Int):jj n i o=if oq n=true then some (o++[(i:Int)])else if Pm n o=true then some (o.take (o.length-1)++[(i:Int)])else if Pn n o=true then some (o.take (o.length-2)++[(i:Int)])else none:=by
 grind [Pm,kC,Pn,jj]
def JN {n:Nd}(h:n.op=1):oq n=!((((decide (n.key<0) ||decide (3<=n.key)) ||!cI n.text) ||!decide (n.a=0)) ||!decide (n.b=0)):=by
 grind [oq,cI]
def yj {S:List Int}{i:Nat}(h:i<S.length)(v:Int):(S.map (D.int .i64)).set (0+i) (uT ((S.map (D.int .i64)).getD (0+i) .any) 1 1 0 (.int .i64 v))=(S.set i v).map (D.int .i64):=by
 rw[b9,getD_map (q:=D.int .i64) h,List.map_set];rfl
abbrev Uv:=List Nd
def lh (m:Uv):D:=.agg [.sl 5 (m.map Nd.D)]
def rl:List au:=[[111,115],[97,114,99,104],[97,98,105]]
def tz (k:Int):au:=if k=0 then [111,115]else if k=1 then [97,114,99,104]else [97,98,105]
def kZ (s:au)(b:Bool):au:=if b=true then [40,32]++s++[32,41]else s
def tY (l:List Nd):Nat->Int->au
 |0,_=>[]
 |f+1,i=>
  if l[i.toNat]!.op=1 then tz l[i.toNat]!.key++[32,61,32]++l[i.toNat]!.text
  else if l[i.toNat]!.op=2 then
   if l[l[i.toNat]!.a.toNat]!.op=1 then tz l[l[i.toNat]!.a.toNat]!.key++[32,33,61,32]++l[l[i.toNat]!.a.toNat]!.text
   else [110,111,116,32]++kZ (tY l f l[i.toNat]!.a) (!decide (l[l[i.toNat]!.a.toNat]!.op=2))
  else if l[i.toNat]!.op=3 then kZ (tY l f l[i.toNat]!.a) (decide (l[l[i.toNat]!.a.toNat]!.op=4))++[32,97,110,100,32]++kZ (tY l f l[i.toNat]!.b) (decide (l[l[i.toNat]!.b.toNat]!.op=4) ||decide (l[l[i.toNat]!.b.toNat]!.op=3))
  else tY l f l[i.toNat]!.a++[32,111,114,32]++kZ (tY l f l[i.toNat]!.b) (decide (l[l[i.toNat]!.b.toNat]!.op=4))
def mF (l:List Nd)(i:Int):au:=tY l (i.toNat+1) i
theorem Eg {l:List Nd}(hk:jE l):∀(f g:Nat) (i:Int),0<=i->i<l.length->i<f->i<g->tY l f i=tY l g i
 |0,_,_,_,_,h,_=>ae
 |_,0,_,_,_,_,h=>ae
 |f+1,g+1,i,h0,h1,h2,h3=>by
  obtain⟨k1,k2,k3⟩:=hk i.toNat ae;simp only[tY];by_cases e1:l[i.toNat]!.op=1
  .rw[ax e1,ax e1]
  .rw[aj e1,aj e1];have ka:=k2 e1;rw[Eg hk f g l[i.toNat]!.a ae ae ae ae];by_cases e2:l[i.toNat]!.op=2
   .rw[ax e2,ax e2]
   .have kb:=k3 e1 e2;rw[Eg hk f g l[i.toNat]!.b ae ae ae ae]
def KB {l:List Nd}(hk:jE l){i:Int}(h0:0<=i)(h1:i<l.length):mF l i=
  if l[i.toNat]!.op=1 then tz l[i.toNat]!.key++[32,61,32]++l[i.toNat]!.text
  else if l[i.toNat]!.op=2 then
   if l[l[i.toNat]!.a.toNat]!.op=1 then tz l[l[i.toNat]!.a.toNat]!.key++[32,33,61,32]++l[l[i.toNat]!.a.toNat]!.text
   else [110,111,116,32]++kZ (mF l l[i.toNat]!.a) (!decide (l[l[i.toNat]!.a.toNat]!.op=2))
  else if l[i.toNat]!.op=3 then kZ (mF l l[i.toNat]!.a) (decide (l[l[i.toNat]!.a.toNat]!.op=4))++[32,97,110,100,32]++kZ (mF l l[i.toNat]!.b) (decide (l[l[i.toNat]!.b.toNat]!.op=4) ||decide (l[l[i.toNat]!.b.toNat]!.op=3))
  else mF l l[i.toNat]!.a++[32,111,114,32]++kZ (mF l l[i.toNat]!.b) (decide (l[l[i.toNat]!.b.toNat]!.op=4)):=by
 obtain⟨k1,k2,k3⟩:=hk i.toNat ae
 grind [mF,tY,Eg]
def nI (s:au)(b:Bool):(kZ s b).length<=s.length+4:=by
 unfold kZ;split<;>simp
def sf {k:Int}(h0:0<=k)(h3:k<3):rl[k.toNat]! =tz k:=by
 obtain rfl|rfl|rfl:k=0\/k=1\/k=2:=ae
 .rfl
 .rfl
 .rfl
def P9 {k:Int}(h0:0<=k)(h3:k<3):oc (([.str [111,115],.str [97,114,99,104],.str [97,98,105]]:List D).getD (0+k.toNat) .any) 1 1 0 false=.str (tz k):=by
 obtain rfl|rfl|rfl:k=0\/k=1\/k=2:=ae
 .rfl
 .rfl
 .rfl
def pk (k:Int):(tz k).length<=4:=by
 grind [tz]
def AO {l:List Nd}(hk:jE l):∀(f:Nat) (i:Int),0<=i->i<l.length->(tY l f i).length+20<=20*2^(f+1)
 |0,i,_,_=>by simp[tY]
 |f+1,i,h0,h1=>by
  obtain⟨k1,k2,k3⟩:=hk i.toNat ae;have hp:20*2^(f+1+1)=20*2^(f+1)+20*2^(f+1):=by rw[Nat.pow_succ 2 (f+1)];omega
  have h1p:1<=2^(f+1):=Nat.one_le_two_pow;simp only[tY];by_cases e1:l[i.toNat]!.op=1
  .rw[ax e1];have:=pk l[i.toNat]!.key;have:=k1 e1;simp only[bF,az,aB];omega
  .rw[aj e1];have ka:=k2 e1;have la:=AO hk f l[i.toNat]!.a ae ae;have wa:=fun b=>nI (tY l f l[i.toNat]!.a) b
   by_cases e2:l[i.toNat]!.op=2
   .rw[ax e2];split
    .rename_i e3;have:=pk l[l[i.toNat]!.a.toNat]!.key;have:=((hk l[i.toNat]!.a.toNat ae).1 e3).2.2;simp only[bF,az,aB];omega
    .have:=wa (!decide (l[l[i.toNat]!.a.toNat]!.op=2));simp only[bF,az,aB];omega
   .rw[aj e2];have kb:=k3 e1 e2;have lb:=AO hk f l[i.toNat]!.b ae ae;have wb:=fun b=>nI (tY l f l[i.toNat]!.b) b
    split
    .have:=wa (decide (l[l[i.toNat]!.a.toNat]!.op=4));have:=wb (decide (l[l[i.toNat]!.b.toNat]!.op=4) ||decide (l[l[i.toNat]!.b.toNat]!.op=3));simp only[bF,az,aB];omega
    .have:=wb (decide (l[l[i.toNat]!.b.toNat]!.op=4));simp only[bF,az,aB];omega
def rV {l:List Nd}(hk:jE l)(hl:l.length<=15){i:Int}(h0:0<=i)(h1:i<l.length):(mF l i).length<=1310720:=by
 have h:=AO hk (i.toNat+1) i h0 h1;have:2^(i.toNat+1+1)<=2^16:=Nat.pow_le_pow_right ae ae;unfold mF;omega
def qj (l:List Nd):au:=if l.length=0 then []else mF l ((l.length:Int) -1)
def zT (l:List Nd):Bool:=(decide (l.length<=15)&&oB l)&&decide ((qj l).length<=96)
def UR (l:List Nd):au:=if zT l=true then qj l else []
abbrev PR:=Option (Int×List au×List Nd)
def iV (k:au):Int:=if k=[111,115]then 0 else if k=[97,114,99,104]then 1 else if k=[97,98,105]then 2 else-1
def mJ (k s v:au):Bool:=(decide (0<=iV k)&&cI v)&&(decide (s=[61]) ||decide (s=[33,61]))
def wF (k s v:au)(r:List au)(nd:List Nd):Int×List au×List Nd:=
 if s=[33,61]then(((nd++[(⟨1,0,0,iV k,v⟩:Nd)]).length:Nat),r,(nd++[⟨1,0,0,iV k,v⟩])++[⟨2,(nd.length:Nat),0,0,[]⟩])
 else((nd.length:Nat),r,nd++[⟨1,0,0,iV k,v⟩])
def qL (k:au)(w:List au)(nd:List Nd):PR:=match w with
 |s::v::r=>if mJ k s v=true then some (wF k s v r nd)else none
 |_=>none
def lu (part:List au->List Nd->PR)(wd:au)(op:Int):Nat->Int->List au->List Nd->PR
 |0,a,w,nd=>some (a,w,nd)
 |f+1,a,w,nd=>match w with
  |[]=>some (a,w,nd)
  |x::r=>if x=wd then(match part r nd with
    |none=>none
    |some (b,w',nd')=>lu part wd op f (nd'.length:Nat) w' (nd'++[⟨op,a,b,0,[]⟩]))
   else some (a,w,nd)
def iI (part:List au->List Nd->PR)(wd:au)(op:Int)(w:List au)(nd:List Nd):PR:=match part w nd with
 |none=>none
 |some (a,w',nd')=>lu part wd op w'.length a w' nd'
def qw:au:=[110,111,116]
def gT:au:=[40]
def kX:au:=[41]
def lx:au:=[97,110,100]
def qH:au:=[111,114]
def oG (r:PR):PR:=match r with
 |some (a,x::w',nd')=>if x=kX then some (a,w',nd')else none
 |_=>none
def WS (r:PR):PR:=match r with
 |some (a,w',nd')=>some ((nd'.length:Nat),w',nd'++[⟨2,a,0,0,[]⟩])
 |none=>none
def sC:Nat->List au->List Nd->PR
 |0,_,_=>none
 |f+1,w,nd=>match w with
  |[]=>none
  |k::r=>if k=qw then WS (sC f r nd)
   else if k=gT then oG (iI (iI (sC f) lx 3) qH 4 r nd)
   else qL k r nd
def PB (w:List au)(nd:List Nd)(w':List au)(nd':List Nd):Prop:=w'.length<=w.length/\nd'.length+2*w'.length<=nd.length+2*w.length/\w'<:+w
def ud (part:List au->List Nd->PR):Prop:=∀w nd a w' nd',part w nd=some (a,w',nd')->PB w nd w' nd'/\w'.length<w.length
def PB.refl (w:List au)(nd:List Nd):PB w nd w nd:=⟨aP _,aP _,lU _⟩
def PB.trans {w nd w' nd' w2 nd2}(h:PB w nd w' nd')(h2:PB w' nd' w2 nd2):PB w nd w2 nd2:=⟨dc h2.1 h.1,dc h2.2.1 h.2.1,h2.2.2.trans h.2.2⟩
def PB.tail {x:au}{w:List au}{nd:List Nd}{w':List au}{nd':List Nd}(h:PB w nd w' nd')(n:Nd):PB (x::w) nd w' (nd'++[n]):=by
 obtain⟨h1,h2,h3⟩:=h;refine⟨by simp only[az];omega,by simp only[bF,az,aB];omega,h3.trans (List.suffix_cons x w)⟩
def PB.uU {x:au}{w:List au}{nd:List Nd}{w':List au}{nd':List Nd}(h:PB w nd w' nd'):PB (x::w) nd w' nd':=by
 obtain⟨h1,h2,h3⟩:=h;exact⟨by simp only[az];omega,by simp only[az];omega,h3.trans (List.suffix_cons x w)⟩
def zN {part:List au->List Nd->PR}(hp:ud part)(wd:au)(op:Int):∀(f:Nat) (a:Int) (w:List au) (nd:List Nd) (a':Int) (w':List au) (nd':List Nd),lu part wd op f a w nd=some (a',w',nd')->PB w nd w' nd'
 |0,a,w,nd,a',w',nd',h=>by simp only[lu,a8,eo]at h;obtain⟨rfl,rfl,rfl⟩:=h;exact .refl _ _
 |f+1,a,[],nd,a',w',nd',h=>by simp only[lu,a8,eo]at h;obtain⟨rfl,rfl,rfl⟩:=h;exact .refl _ _
 |f+1,a,x::r,nd,a',w',nd',h=>by
  simp only[lu]at h;by_cases hx:x=wd
  .rw[ax hx]at h;cases hq:part r nd with
   |none=>rw[hq]at h;cases h
   |some t=>
    obtain⟨b,w2,nd2⟩:=t;rw[hq]at h;exact((hp _ _ _ _ _ hq).1.tail _).trans (zN hp wd op f _ _ _ _ _ _ h)
  .rw[aj hx]at h;simp only[a8,eo]at h;obtain⟨rfl,rfl,rfl⟩:=h;exact .refl _ _
def mc {part:List au->List Nd->PR}(hp:ud part)(wd:au)(op:Int):ud (iI part wd op):=by
 intro w nd a w' nd' h;unfold iI at h;cases hq:part w nd with
 |none=>rw[hq]at h;cases h
 |some t=>
  obtain⟨b,w2,nd2⟩:=t;rw[hq]at h;obtain⟨h1,h2⟩:=hp _ _ _ _ _ hq;have:=zN hp wd op _ _ _ _ _ _ _ h;exact⟨h1.trans this,Nat.lt_of_le_of_lt this.1 h2⟩
theorem pO {k:au}{w:List au}{nd:List Nd}{a:Int}{w':List au}{nd':List Nd}(h:qL k w nd=some (a,w',nd')):PB w nd w' nd':=by
 match w,h with
 |s::v::r,h=>
  simp only[qL]at h;split at h
  .simp only[a8]at h;unfold wF at h;have hs:r<:+s::v::r:=(List.suffix_cons v r).trans (List.suffix_cons s _);split at h<;>(simp only[eo]at h;obtain⟨rfl,rfl,rfl⟩:=h;exact⟨by simp only[az];omega,by simp only[bF,az,aB];omega,hs⟩)
  .cases h
 |[_],h=>cases h
 |[],h=>cases h
def lB:∀f,ud (sC f)
 |0=>fun w nd a w' nd' h=>by cases h
 |f+1=>by
  intro w nd a w' nd' h
  match w,h with
  |[],h=>cases h
  |k::r,h=>
   simp only[sC]at h;split at h
   .cases hq:sC f r nd with
    |none=>rw[hq]at h;cases h
    |some t=>
     obtain⟨b,w2,nd2⟩:=t;rw[hq]at h;simp only[WS,a8,eo]at h;obtain⟨rfl,rfl,rfl⟩:=h;obtain⟨h1,h2⟩:=lB f _ _ _ _ _ hq;exact⟨h1.tail _,by simp only[az];omega⟩
   .split at h
    .cases hq:iI (iI (sC f) lx 3) qH 4 r nd with
     |none=>rw[hq]at h;cases h
     |some t=>
      obtain⟨b,w2,nd2⟩:=t;rw[hq]at h;obtain⟨h1,h2⟩:=mc (mc (lB f) _ _) _ _ _ _ _ _ _ hq
      match w2,h,h1,h2 with
      |[],h,_,_=>cases h
      |x::w3,h,h1,h2=>
       simp only[oG]at h;split at h
       .simp only[a8,eo]at h;obtain⟨rfl,rfl,rfl⟩:=h;exact⟨(h1.trans (PB.refl _ _).uU).uU,by simp only[az]at h2⊢;omega⟩
       .cases h
    .exact⟨(pO h).uU,by have:=(pO h).1;simp only[az];omega⟩
def FF {p p':List au->List Nd->PR}(hp:ud p)(wd:au)(op:Int){u:Nat}(h:∀w nd,w.length<u->p w nd=p' w nd):∀(f:Nat) (a:Int) (w:List au) (nd:List Nd),w.length<=u->lu p wd op f a w nd=lu p' wd op f a w nd
 |0,a,w,nd,hu=>rfl
 |f+1,a,[],nd,hu=>rfl
 |f+1,a,x::r,nd,hu=>by
  simp only[az]at hu;simp only[lu];split
  .rw[<-h r nd ae];cases hq:p r nd with
   |none=>rfl
   |some t=>
    obtain⟨b,w2,nd2⟩:=t;have:=hp _ _ _ _ _ hq;exact FF hp wd op h f _ _ _ ae
  .rfl
def r0 {p p':List au->List Nd->PR}(hp:ud p)(wd:au)(op:Int){u:Nat}(h:∀w nd,w.length<u->p w nd=p' w nd):∀w nd,w.length<u->iI p wd op w nd=iI p' wd op w nd:=by
 intro w nd hu;unfold iI;rw[<-h w nd hu];cases hq:p w nd with
 |none=>rfl
 |some t=>
  obtain⟨b,w2,nd2⟩:=t;have:=hp _ _ _ _ _ hq;exact FF hp wd op h _ _ _ _ ae
def Jw:∀(u f g:Nat) (w:List au) (nd:List Nd),w.length<u->w.length<=f->w.length<=g->sC f w nd=sC g w nd
 |0,_,_,_,_,h,_,_=>absurd h (Nat.not_lt_zero _)
 |u+1,f,g,[],nd,hu,hf,hg=>by cases f<;>cases g<;>rfl
 |u+1,0,_,_::_,_,_,h,_=>by simp at h
 |u+1,_,0,_::_,_,_,_,h=>by simp at h
 |u+1,f+1,g+1,k::r,nd,hu,hf,hg=>by
  simp only[az]at hu hf hg;have ih:∀w nd,w.length<r.length+1->sC f w nd=sC g w nd:=fun w nd h=>Jw u f g w nd ae ae ae
  simp only[sC];rw[ih r nd ae,r0 (mc (lB f) _ _) qH 4 (r0 (lB f) lx 3 ih) r nd ae]
def jT (w:List au)(nd:List Nd):PR:=sC w.length w nd
def kE:List au->List Nd->PR:=iI jT lx 3
def iS:List au->List Nd->PR:=iI kE qH 4
def vB:ud jT:=fun w nd a w' nd' h=>lB _ w nd a w' nd' h
def zi:ud kE:=mc vB _ _
def xZ (k:au)(r:List au)(nd:List Nd):jT (k::r) nd=if k=qw then WS (jT r nd)else if k=gT then oG (iS r nd)else qL k r nd:=by
 show sC (r.length+1) (k::r) nd=_;simp only[sC];have ih:∀w nd,w.length<r.length+1->sC r.length w nd=jT w nd:=fun w nd h=>Jw (r.length+1) _ _ w nd h ae (aP _)
 rw[show sC r.length r nd=jT r nd from rfl,r0 (mc (lB _) _ _) qH 4 (r0 (lB _) lx 3 ih) r nd ae];rfl
def Ca {part:List au->List Nd->PR}{wd:au}{op:Int}{f:Nat}{a:Int}{nd:List Nd}:lu part wd op f a [] nd=some (a,[],nd):=by cases f<;>rfl
theorem Qf {part:List au->List Nd->PR}{wd:au}{op:Int}{f:Nat}{a:Int}{w:List au}{nd:List Nd}(h:w.head? ≠some wd):lu part wd op f a w nd=some (a,w,nd):=by
 cases f with
 |zero=>rfl
 |succ f=>match w,h with
  |[],_=>rfl
  |x::r,h=>simp only[lu];rw[aj (by rintro rfl;exact h rfl)]
def zO {part:List au->List Nd->PR}(hp:ud part){wd:au}{op:Int}:∀(f g:Nat) (a:Int) (w:List au) (nd:List Nd),w.length<=f->w.length<=g->lu part wd op f a w nd=lu part wd op g a w nd
 |_,_,a,[],nd,_,_=>by rw[Ca,Ca]
 |0,_,_,_::_,_,h,_=>by simp at h
 |_,0,_,_::_,_,_,h=>by simp at h
 |f+1,g+1,a,x::r,nd,hf,hg=>by
  simp only[az]at hf hg;simp only[lu];split
  .cases hq:part r nd with
   |none=>rfl
   |some t=>
    obtain⟨b,w2,nd2⟩:=t;have:=hp _ _ _ _ _ hq;exact zO hp f g _ _ _ ae ae
  .rfl
def JO (part:List au->List Nd->PR)(wd:au)(op:Int)(a:Int)(w:List au)(nd:List Nd):PR:=lu part wd op w.length a w nd
def M9 {part:List au->List Nd->PR}(hp:ud part){wd:au}{op:Int}{a:Int}{r:List au}{nd:List Nd}:JO part wd op a (wd::r) nd=match part r nd with
  |none=>none
  |some (b,w',nd')=>JO part wd op (nd'.length:Nat) w' (nd'++[⟨op,a,b,0,[]⟩]):=by
 show lu part wd op (r.length+1) a (wd::r) nd=_;simp only[lu,ba];cases hq:part r nd with
 |none=>rfl
 |some t=>
  obtain⟨b,w2,nd2⟩:=t;have:=hp _ _ _ _ _ hq;exact zO hp _ _ _ _ _ ae (aP _)
structure PO where
 a:Int
 w:List au
 nd:List Nd
 bad:Bool
def ed (R:PR)(w:List au)(nd:List Nd)(o:PO):Prop:=(R=some (o.a,o.w,o.nd)/\o.bad=false\/R=none/\o.bad=true)/\PB w nd o.w o.nd
def Ie (s:au):Option (List Nd):=match iS (ak s 32) []with
 |some (_,[],nd)=>if zT nd=true then some nd else none
 |_=>none
def my (s:au):List Nd×Int:=if 96<s.length then([],3)else if s=[]then([],0)else match Ie s with
 |some nd=>(nd,0)
 |none=>([],7)
def qa (s:au):Bool:=decide ((my s).2=0)&&decide (UR (my s).1=s)
abbrev EC:=List au->D->Bool->D
def iF:EC:=fun w X b=>.agg [.sl 1 (w.map D.str),X,.bool b]
def iX (W:List au):EC:=fun w X b=>.agg [.sl 1 (W.map D.str),.int .i64 ((W.length-w.length:Nat):Int),X,.bool b]
def oF (Y:Ctx)(k:Nat)(ob:EC)(n:Nat)(alI:List D)(w:List au)(nd:List Nd)(b:Bool)(P:PO->Prop)(V:PO->D):Prop:=
 ∀(nx lp ln:Nat) (m:List (Nat×bR)) (K:D->St->Prop),look m lp=some (.buf k [ob w (.own ln 5 0 nd.length) b])->look m ln=some (.buf 5 (nd.map Nd.D))->lp<nx->ln<nx->
  (∀o,P o->K (V o) ⟨nx+1,(nx,.buf 5 (o.nd.map Nd.D))::dx (c8 m ln) lp (.buf k [ob o.w (.own nx 5 0 o.nd.length) o.bad])⟩)->Y.tr n (.ptr lp k 0 0::alI) ⟨nx,m⟩ K
def SC (Y:Ctx)(k:Nat)(ob:EC)(n:Nat)(alI:List D)(w:List au)(nd:List Nd)(b:Bool)(P:PO->Prop)(V:PO->D):Prop:=
 ∀(nx lp ln:Nat) (m:List (Nat×bR)) (K:D->St->Prop),look m lp=some (.buf k [ob w (.own ln 5 0 nd.length) b])->look m ln=some (.buf 5 (nd.map Nd.D))->lp<nx->ln<nx->
  (∀o,P o->K (V o) ⟨nx,dx m lp (.buf k [ob o.w (.own ln 5 0 nd.length) o.bad])⟩)->Y.tr n (.ptr lp k 0 0::alI) ⟨nx,m⟩ K
def xo (k:Nat)(ob:EC)(P:PO->Prop)(V:PO->D):D->List (Nat×bR)->Prop:=fun d m=>∃(o:PO) (j:Nat),2<=j/\P o/\d=V o/\look m 0=some (.buf k [ob o.w (.own j 5 0 o.nd.length) o.bad])/\look m j=some (.buf 5 (o.nd.map Nd.D))
def Jj (k:Nat)(ob:EC)(nd:List Nd)(P:PO->Prop)(V:PO->D):D->List (Nat×bR)->Prop:=fun d m=>∃(o:PO),P o/\d=V o/\look m 0=some (.buf k [ob o.w (.own 1 5 0 nd.length) o.bad])/\look m 1=some (.buf 5 (nd.map Nd.D))
def Va:PO->D:=fun o=>.int .i64 o.a
def WL {m:List (Nat×bR)}(x:Nd):R1 m [.a,.a,.a,.a,.a] (Nd.D x):=⟨rfl,rfl,rfl,rfl,rfl,rfl⟩
def Qr {m:List (Nat×bR)}{lp ln:Nat}{w:List au}{nd:List Nd}{b:Bool}(h1:look m lp=some (.buf 3 [iF w (.own ln 5 0 nd.length) b]))(h2:look m ln=some (.buf 5 (nd.map Nd.D))):
  kO m [[.pt [.sl 1 [.a],.sl 5 [.a,.a,.a,.a,.a],.a]]] [.ptr lp 3 0 0]:=by
 refine⟨⟨by simp[fM,h1], ?_⟩,trivial⟩;intro e he;simp only[bn,h1,cN]at he;subst he;refine⟨rfl,⟨by simp[fM,h2], ?_⟩,rfl,rfl⟩;simp only[bn,h2,ct,aZ];intro e he;obtain⟨x,_,rfl⟩:=dZ.1 he;exact WL x
def bg (w:List au):au:=w.headD []
def bK (w:List au):List au:=if bg w=[]then w else w.drop 1
def dC (w:List au)(b:Bool):Bool:=if bg w=[]then true else b
def sw {w:List au}{x:au}(hx:x≠[])(h:bg w=x):∃r,w=x::r:=by
 match w,h with
 |[],h=>exact absurd h.symm hx
 |y::r,h=>exact⟨r,by rw[show y=x from h]⟩
def RH {w:List au}(h:¬bg w=[]):1<=w.length:=by
 match w,h with
 |[],h=>exact absurd rfl h
 |_::_,_=>simp
def j2 {x:au}{r:List au}(hx:x≠[]):bK (x::r)=r:=aj hx
def j1 {x:au}{r:List au}{b:Bool}(hx:x≠[]):dC (x::r) b=b:=aj hx
def Oj (w:List au):bK w<:+w:=by
 unfold bK;split
 .exact lU _
 .exact List.drop_suffix 1 w
def pI (w:List au)(nd:List Nd):PB w nd (bK w) nd:=by
 have h:=Oj w;have:=h.length_le;exact⟨this,ae,h⟩
theorem RG {w:List au}{b:Bool}(h:dC w b=false):b=false/\bg w≠[]/\w=bg w::bK w:=by
 unfold dC at h;split at h
 .cases h
 .rename_i hs;refine⟨h,hs, ?_⟩
  match w,hs with
  |x::r,hs=>rw[j2 (x:=x) (r:=r) hs];rfl
def nK (b:Bool)(k:au)(w:List au)(nd:List Nd):PR:=if b=true then none else qL k w nd
theorem Fy {j:Nat}{k:au}(hj:j<3)(h:rl[j]! =k):iV k=(j:Nat):=by
 obtain rfl|rfl|rfl:j=0\/j=1\/j=2:=ae
 all_goals (subst h;rfl)
def B7 {k:au}(h:0<=iV k):∃j,j<3/\rl[j]! =k/\iV k=(j:Nat):=by
 unfold iV at h⊢;by_cases h1:k=[111,115]
 .exact⟨0,ae,h1.symm,by rw[ax h1];rfl⟩
 .by_cases h2:k=[97,114,99,104]
  .exact⟨1,ae,h2.symm,by rw[aj h1,ax h2];rfl⟩
  .by_cases h3:k=[97,98,105]
   .exact⟨2,ae,h3.symm,by rw[aj h1,aj h2,ax h3];rfl⟩
   grind
def HT (j:Nat)(k s v:au)(bad:Bool):Bool:=!(((!decide (rl[j]! =k) ||bad) ||(!decide (s=[61])&& !decide (s=[33,61]))) ||!cI v)
def P0 {j:Nat}{k:au}{w:List au}{nd:List Nd}{b:Bool}(hj:j<3)(h:HT j k (bg w) (bg (bK w)) (dC (bK w) (dC w b))=true):
  nK b k w nd=some (wF k (bg w) (bg (bK w)) (bK (bK w)) nd)/\iV k=(j:Nat)/\dC (bK w) (dC w b)=false:=by
 grind [HT,Fy,RG,nK,qL,mJ]
def Th {k:au}{w:List au}{nd:List Nd}{b:Bool}(h:∀j,j<3->HT j k (bg w) (bg (bK w)) (dC (bK w) (dC w b))=false):nK b k w nd=none:=by
 unfold nK;split
 .rfl
 .rename_i hb
  match w with
  |[]=>rfl
  |[_]=>rfl
  |s::v::r=>
   simp only[qL];rw[aj];intro ha;simp only[mJ,bx,cX,aV]at ha;obtain⟨⟨h1,h2⟩,h3⟩:=ha;obtain⟨j,hj,hj2,_⟩:=B7 h1;have hs:s≠[]:=by rintro rfl;rcases h3 with h|h<;>cases h
   have hv:v≠[]:=by rintro rfl;cases h2
   have:=h j hj;rw[j2 hs,j1 hs,j1 hv]at this;simp only[Bool.not_eq_true]at hb;subst hb;revert this;simp only[HT,bg,List.headD_cons,hj2,h2,decide_true];rcases h3 with rfl|rfl<;>simp
def Jn (w:List au)(nd:List Nd):PB w nd (bK (bK w)) nd:=(pI w nd).trans (pI _ nd)
def za {b:Bool}{k:au}{w:List au}{nd:List Nd}{a:Int}{w':List au}{nd':List Nd}(h:nK b k w nd=some (a,w',nd')):PB w nd w' nd':=by
 grind [nK,pO]
def PE {w:List au}{nd:List Nd}(h1:bg w≠qw)(h2:bg w≠gT):jT w nd=nK (dC w false) (bg w) (bK w) nd:=by
 match w with
 |[]=>rfl
 |k::r=>
  have h1:k≠qw:=h1;have h2:k≠gT:=h2;rw[xZ,aj h1,aj h2];by_cases hk:k=[]
  .subst hk;show qL [] r nd=none
   match r with
   |[]=>rfl
   |[_]=>rfl
   |s::v::r=>rfl
  .rw[j2 hk,j1 hk];rfl
def Po {R:PR}{o:PO}{w:List au}{nd:List Nd}(h:ed R w nd o)(hs:bg o.w≠kX):oG R=none:=by
 rcases h.1 with⟨h1,_⟩|⟨h1,_⟩
 .rw[h1]
  match ho:o.w,hs with
  |[],_=>rfl
  |x::r,hs=>simp only[oG];exact aj hs
 .rw[h1];rfl
def ed.pb {R:PR}{o:PO}{w:List au}{nd:List Nd}(h:ed R w nd o):PB w nd o.w o.nd:=h.2
def J2 {r:List au}{nd:List Nd}{o:PO}(h:ed (jT r nd) r nd o):ed (jT (qw::r) nd) (qw::r) nd ⟨(o.nd.length:Nat),o.w,o.nd++[⟨2,o.a,0,0,[]⟩],o.bad⟩:=by
 refine⟨?_,h.2.tail _⟩;rw[xZ,ax rfl];rcases h.1 with⟨h1,h2⟩|⟨h1,h2⟩
 .left;rw[h1];exact⟨rfl,h2⟩
 .right;rw[h1];exact⟨rfl,h2⟩
def uy (r:List au)(nd:List Nd):jT (gT::r) nd=oG (iS r nd):=by rw[xZ,aj aH,ax rfl]
def FR {r:List au}{nd:List Nd}{o:PO}(h:ed (iS r nd) r nd o)(hs:¬bg o.w=kX):ed (jT (gT::r) nd) (gT::r) nd ⟨o.a,bK o.w,o.nd,true⟩:=
 ⟨.inr ⟨by rw[uy,Po h hs],rfl⟩,h.2.uU.trans (pI _ _)⟩
def QK {r:List au}{nd:List Nd}{o:PO}(h:ed (iS r nd) r nd o)(hs:bg o.w=kX):ed (jT (gT::r) nd) (gT::r) nd ⟨o.a,bK o.w,o.nd,dC o.w o.bad⟩:=by
 refine⟨?_,h.2.uU.trans (pI _ _)⟩;obtain⟨q,hq⟩:=sw aH hs;rw[uy,hq,j2 aH,j1 aH];rcases h.1 with⟨h1,h2⟩|⟨h1,h2⟩
 .grind [oG]
 .right;rw[h1];exact⟨rfl,h2⟩
def QJ {w:List au}{nd:List Nd}{o:PO}(hf:jT w nd=nK (dC w false) (bg w) (bK w) nd)(h:ed (nK (dC w false) (bg w) (bK w) nd) (bK w) nd o):ed (jT w nd) w nd o:=
 ⟨by rw[hf];exact h.1,(pI w nd).trans h.2⟩
def Qh {s:au}{o:PO}(h:ed (iS (ak s 32) []) (ak s 32) [] o)(hc:((o.bad ||decide ((0:Int)<(o.w.length:Nat))) ||!zT o.nd)=true):Ie s=none:=by
 unfold Ie;rcases h.1 with⟨h1,h2⟩|⟨h1,h2⟩
 .grind
 .rw[h1]
def JS {s:au}{o:PO}(h:ed (iS (ak s 32) []) (ak s 32) [] o)(hc:((o.bad ||decide ((0:Int)<(o.w.length:Nat))) ||!zT o.nd)=false):Ie s=some o.nd:=by
 simp only[dH,bt,bP]at hc;unfold Ie;rcases h.1 with⟨h1,h2⟩|⟨h1,h2⟩
 .rw[h1]
  match hw:o.w with
  |[]=>simp only[hc.2,ba]
  |x::r=>exact absurd hc.1.2 (by rw[hw];simp)
 grind
def JR {s:au}{nd:List Nd}(h1:¬96<s.length)(h2:¬s=[])(h:Ie s=some nd):my s=(nd,0):=by simp only[my,h,aj h1,aj h2]
def JQ {s:au}(h1:¬96<s.length)(h2:¬s=[])(h:Ie s=none):my s=([],7):=by simp only[my,h,aj h1,aj h2]
def Hc (part:List au->List Nd->PR)(wd:au)(op:Int)(R:PR)(w:List au)(nd:List Nd)(o:PO):Prop:=(o.bad=false/\R=JO part wd op o.a o.w o.nd\/o.bad=true/\R=none)/\PB w nd o.w o.nd
def Hc.first {part:List au->List Nd->PR}{wd:au}{op:Int}{w:List au}{nd:List Nd}{o:PO}(h:ed (part w nd) w nd o):Hc part wd op (iI part wd op w nd) w nd o:=by
 refine⟨?_,h.2⟩;rcases h.1 with⟨h1,h2⟩|⟨h1,h2⟩
 .left;refine⟨h2, ?_⟩;unfold iI;rw[h1];rfl
 grind [iI]
def Hc.next {part:List au->List Nd->PR}(hp:ud part){wd:au}{op:Int}{R:PR}{w:List au}{nd:List Nd}{a:Int}{r:List au}{nd1:List Nd}{o:PO}(h:Hc part wd op R w nd ⟨a,wd::r,nd1,false⟩)(h2:ed (part r nd1) r nd1 o):
  Hc part wd op R w nd ⟨(o.nd.length:Nat),o.w,o.nd++[⟨op,a,o.a,0,[]⟩],o.bad⟩:=by
 refine⟨?_,h.2.trans (h2.2.tail _)⟩;rcases h.1 with⟨_,h1⟩|⟨h1,_⟩
 .rw[M9 hp]at h1;rcases h2.1 with⟨g1,g2⟩|⟨g1,g2⟩
  .left;exact⟨g2,by rw[h1,g1]⟩
  .right;exact⟨g2,by rw[h1,g1]⟩
 .cases h1
def Hc.last {part:List au->List Nd->PR}{wd:au}{op:Int}{R:PR}{w:List au}{nd:List Nd}{o:PO}(h:Hc part wd op R w nd o)(hx:o.bad=true\/o.w.head? ≠some wd):ed R w nd o:=by
 refine⟨?_,h.2⟩;rcases h.1 with⟨h1,h2⟩|⟨h1,h2⟩
 .grind [JO,Qf]
 .right;exact⟨h2,h1⟩
def gH (w:List au)(s:au):Bool:=match w with
 |x::_=>decide (x=s)
 |[]=>false
def ot (w:List au)(s:au):List au:=if gH w s=true then w.drop 1 else w
def rB (w:List au)(b:Bool):Bool:=if w=[]then true else b
def nD {w:List au}{s:au}(h:gH w s=true):∃r,w=s::r:=by
 match w,h with
 |x::r,h=>exact⟨r,by rw[show x=s by simpa[gH]using h]⟩
theorem tF (s:au)(r:List au):gH (s::r) s=true:=by simp[gH]
def lK (s:au)(r:List au):ot (s::r) s=r:=by grind [ot,tF]
def pw {w:List au}{s:au}(h:gH w s=false):ot w s=w:=by grind [ot]
def zV {w:List au}{s:au}(h:gH w s=false):w.head? ≠some s:=by
 match w,h with
 |[],_=>simp
 |x::r,h=>intro e;have e:x=s:=(by simpa using e);subst e;rw[tF]at h;cases h
def Kv {W w:List au}(h:w<:+W)(hw:1<=w.length):W.length-w.length<W.length/\W[W.length-w.length]! =w[0]! :=by
 have hl:=h.length_le;have he:=List.suffix_iff_eq_drop.1 h
 grind
def JX {W w:List au}(h:w<:+W)(s:au):(decide (((W.length-w.length:Nat):Int)<(W.length:Nat))&&decide (W[W.length-w.length]! =s))=gH w s:=by
 have hl:=h.length_le
 match w with
 |[]=>
  have:decide (((W.length-([]:List au).length:Nat):Int)<(W.length:Nat))=false:=cT aT;rw[this];rfl
 |x::r=>
  obtain⟨h1,h2⟩:=Kv h aT;rw[h2,cj ae,gu];rfl
def Kg {W:List au}{x:au}{r:List au}{X:D}{b:Bool}(h:(x::r).length<=W.length):uT (iX W (x::r) X b) 4 1 1 (.int .i64 (((W.length-(x::r).length:Nat):Int)+1))=iX W r X b:=by
 have:((W.length-(x::r).length:Nat):Int)+1=((W.length-r.length:Nat):Int):=by simp only[az]at h⊢;omega
 rw[this];rfl
def zt (w:List au)(nd:List Nd):PR:=match w with
 |k::r=>qL k r nd
 |[]=>none
def JK (k:au)(i:Nat):Int:=if iV k<i then iV k else-1
theorem JL (k:au):-1<=iV k:=by
 grind [iV]
theorem Ts (k:au):iV k<3:=by
 grind [iV]
def Tr {k:au}{i:Nat}(hi:i<3)(h:tz (i:Int)=k):JK k (i+1)=(i:Int):=by
 have:iV k=(i:Nat):=Fy hi (by rw[<-h];exact sf (k:=(i:Int)) ae ae);unfold JK;rw[this,ax ae]
def WG {k:au}{i:Nat}(hi:i<3)(h:¬tz (i:Int)=k):JK k (i+1)=JK k i:=by
 have h1:iV k≠(i:Nat):=by
  intro e;obtain⟨j,hj,hj2,hj3⟩:=B7 (k:=k) ae;have:j=i:=ae;subst this;exact h (by rw[<-hj2];exact(sf (k:=(j:Int)) ae ae).symm)
 grind [JL,JK,iV]
def kAt_0 (k:au):JK k 0=-1:=by
 have:=JL k;unfold JK;split
 .omega
 .rfl
def kAt_3 (k:au):JK k 3=iV k:=by
 grind [Ts,JK]
def Bz (k s v:au):(((decide (iV k<0) ||!cI v)) ||(!decide (s=[61])&& !decide (s=[33,61])))=!mJ k s v:=by
 unfold mJ
 grind
def Mm {w:List au}{nd:List Nd}(h:mJ (bg w) (bg (w.drop 1)) (bg ((w.drop 1).drop 1))=true):∃r,w=bg w::bg (w.drop 1)::bg ((w.drop 1).drop 1)::r/\zt w nd=some (wF (bg w) (bg (w.drop 1)) (bg ((w.drop 1).drop 1)) r nd):=by
 match w,h with
 |[],h=>cases h
 |[_],h=>simp[mJ,bg,cI]at h
 |[_,_],h=>simp[mJ,bg,cI]at h
 |k::s::v::r,h=>exact⟨r,rfl,by simp only[zt,qL];exact ax h⟩
def Pd {w:List au}{nd:List Nd}(h:mJ (bg w) (bg (w.drop 1)) (bg ((w.drop 1).drop 1))=false):zt w nd=none:=by
 match w,h with
 |[],h=>rfl
 |[_],h=>rfl
 |[_,_],h=>rfl
 |k::s::v::r,h=>simp only[zt,qL];exact aj (by rw[show mJ k s v=false from h];simp)
def Dg (w:List au)(nd:List Nd):PB w nd (w.drop 1) nd:=by
 have h:w.drop 1<:+w:=List.drop_suffix 1 w;have:=h.length_le;exact⟨this,ae,h⟩
def BR {w:List au}{nd:List Nd}{a:Int}{w':List au}{nd':List Nd}(h:zt w nd=some (a,w',nd')):PB w nd w' nd':=by
 match w,h with
 |k::r,h=>exact(pO h).uU
def Wr {w:List au}{nd:List Nd}(h1:gH w qw=false)(h2:gH w gT=false):jT w nd=zt w nd:=by
 match w,h1,h2 with
 |[],_,_=>rfl
 |k::r,h1,h2=>
  have h1:¬k=qw:=by simpa[gH]using h1
  have h2:¬k=gT:=by simpa[gH]using h2
  rw[xZ,aj h1,aj h2];rfl
def Mq {R:PR}{o:PO}{w:List au}{nd:List Nd}(h:ed R w nd o)(hs:gH o.w kX=false):oG R=none:=by
 rcases h.1 with⟨h1,_⟩|⟨h1,_⟩
 .rw[h1]
  match ho:o.w,hs with
  |[],_=>rfl
  |x::r,hs=>simp only[oG];exact aj (by simpa[gH]using hs)
 .rw[h1];rfl
def DN {r:List au}{nd:List Nd}{o:PO}(h:ed (iS r nd) r nd o)(hs:gH o.w kX=false):ed (jT (gT::r) nd) (gT::r) nd ⟨o.a,o.w,o.nd,true⟩:=
 ⟨.inr ⟨by rw[uy,Mq h hs],rfl⟩,h.2.uU⟩
def Nx {r:List au}{nd:List Nd}{o:PO}{q:List au}(h:ed (iS r nd) r nd o)(hs:o.w=kX::q):ed (jT (gT::r) nd) (gT::r) nd ⟨o.a,q,o.nd,o.bad⟩:=by
 refine⟨?_,(h.2.uU (x:=gT)).trans (by rw[hs];exact(PB.refl _ _).uU)⟩;rw[uy];rcases h.1 with⟨h1,h2⟩|⟨h1,h2⟩
 .grind [oG]
 .right;rw[h1];exact⟨rfl,h2⟩
def PB.vc {w w':List au}{nd nd':List Nd}{W:List au}(h:PB w nd w' nd')(hW:w<:+W):w'<:+W:=h.2.2.trans hW
def tn (f:Nat->Int):Nat->Nat->Int
 |_,0=>0
 |i,k+1=>if f i=0 then tn f (i+1) k else f i
def fA (f:Nat->Int)(i n:Nat):Int:=tn f i (n-i)
def nv {f:Nat->Int}{i n:Nat}(h:i<n)(hf:f i=0):fA f i n=fA f (i+1) n:=by
 unfold fA;obtain⟨k,hk⟩:∃k,n-i=k+1:=⟨n-i-1,ae⟩
 grind [tn]
def lE {f:Nat->Int}{i n:Nat}(h:i<n)(hf:f i≠0):fA f i n=f i:=by
 unfold fA;obtain⟨k,hk⟩:∃k,n-i=k+1:=⟨n-i-1,ae⟩
 rw[hk];simp only[tn,hf,bc]
def nu {f:Nat->Int}{i n:Nat}(h:n<=i):fA f i n=0:=by
 unfold fA;rw[show n-i=0 by omega];rfl
def pU (f:Nat->Int):Nat->Nat->Int×Int
 |_,0=>(0,0)
 |i,k+1=>if f i=0 then pU f (i+1) k else(f i,((i:Nat):Int))
def ij (f:Nat->Int)(i n:Nat):Int×Int:=pU f i (n-i)
def lD {f:Nat->Int}{i n:Nat}(h:i<n)(hf:f i=0):ij f i n=ij f (i+1) n:=by
 unfold ij;obtain⟨k,hk⟩:∃k,n-i=k+1:=⟨n-i-1,ae⟩
 grind [pU]
def jU {f:Nat->Int}{i n:Nat}(h:i<n)(hf:f i≠0):ij f i n=(f i,((i:Nat):Int)):=by
 unfold ij;obtain⟨k,hk⟩:∃k,n-i=k+1:=⟨n-i-1,ae⟩
 rw[hk];simp only[pU,hf,bc]
def lC {f:Nat->Int}{i n:Nat}(h:n<=i):ij f i n=(0,0):=by
 unfold ij;rw[show n-i=0 by omega];rfl
def fK (r:Rec)(name tO:au):Int:=if dN name=false then 4 else if name=r.name then 8 else if sr tO=false then 6 else 0
def U1 (l:List au)(i:Nat):Bool:=cI l[i]! && !(decide (0<i)&& !Op.bytesLess l[i-1]! l[i]!)
def ju (l:List au)(alone:Bool):Bool:=(decide (l.length<=6)&&(alone ||decide (l.length=0)))&&cP (U1 l) 0 l.length
def jy (r:Rec)(w:b6)(alone:Bool):Int:=if fK r w.name w.range≠0 then fK r w.name w.range else if ju w.feats alone=false then 11 else 0
def mb (r:Rec)(l:List b6):Int:=fA (fun i=>jy r l[i]! (decide ((l.length:Int)=1))) 0 l.length
def iT (r:Rec)(n:bN):Int:=if n.any.length=0 then 9 else if 3<n.any.length then 3 else if mb r n.any≠0 then mb r n.any else
 if qa n.when'=false then 7 else if n.option≠[]/\cI n.option=false then 14 else 0
def oP (r:Rec)(b:jm):Int:=if fK r b.name b.range≠0 then fK r b.name b.range else if qa b.when'=false then 7 else 0
def FQ (l:List bN)(x:au):Bool:=l.any fun n=>decide (n.option=x)
def wZ (l:List bN)(x:au):Bool:=l.any fun n=>decide (n.any.length=1)&&decide (n.any[0]!.name=x)
def jL (r:Rec)(s:au):Int:=if(dt s).1=2/\FQ r.needs (dt s).2.1=false then 14 else if(dt s).1=3/\wZ r.needs (dt s).2.1=false then 16 else 0
def kK (r:Rec)(of:List au):Int:=fA (fun i=>jL r of[i]!) 0 of.length
def lI (r:Rec):Int×Int:=ij (fun i=>iT r r.needs[i]!) 0 r.needs.length
def sQ (r:Rec):Int×Int:=ij (fun i=>oP r r.bars[i]!) 0 r.bars.length
def tl (r:Rec):Int×Int:=ij (fun i=>kK r r.feats[i]!.of) 0 r.feats.length
def eH (r:Rec):Int×Int:=if(lI r).1≠0 then lI r else if(sQ r).1≠0 then sQ r else if ig r.feats=false then(11,0)else tl r
def RU (n:Nat)(al:Bool):(decide ((6:Int)<(n:Nat)) ||(decide ((0:Int)<(n:Nat))&& !al))=!(decide (n<=6)&&(al ||decide (n=0))):=by
 grind
def wf_c (l:List au)(i:Nat):(!cI l[i]! ||(decide ((0:Int)<(i:Nat))&& !Op.bytesLess l[i-1]! l[i]!))=!U1 l i:=by
 unfold U1
 grind
def wf_2 (l:List au)(al:Bool):(cP (fun i=>cI l[i]!) 0 l.length&&((decide (l.length<=6)&&rising l)&&(al ||decide (l.length=0))))=ju l al:=by
 grind [cP,U1,cI,rising,eF,ju]
def itC (k:Int)(x:au)(n:bN):Bool:=(decide (k=2)&&decide (n.option=x)) ||((decide (k=3)&&decide ((n.any.length:Int)=1))&&decide (n.any[0]!.name=x))
def WE (k:Int):Int:=if k=2 then 14 else if k=3 then 16 else 0
def P7 (r:Rec)(s:au):jL r s=if r.needs.any (itC (dt s).1 (dt s).2.1)=true then 0 else WE (dt s).1:=by
 grind [jL,WE,FQ,wZ,dt,itC]
def xT {α:Type} [Inhabited α]{c:α->Bool}{l:List α}{i:Nat}(h:i<l.length)(hc:c l[i]! =true):(l.drop i).any c=true:=by
 rw[jG h,List.any_cons]
 grind
def C5 {α:Type} [Inhabited α]{c:α->Bool}{l:List α}{i:Nat}(h:i<l.length)(hc:c l[i]! =false):(l.drop i).any c=(l.drop (i+1)).any c:=by
 rw[jG h,List.any_cons]
 grind
def xS {α:Type}{c:α->Bool}{l:List α}{i:Nat}(h:l.length<=i):(l.drop i).any c=false:=by
 rw[k8 h];rfl
def hH:au:=[110,101,101,100]
def jN:au:=[97,110,121]
def gS:au:=[119,104,101,110]
def eh:au:=[111,112,116,105,111,110]
def iQ:au:=[98,97,114]
def cH:au:=[102,101,97,116,117,114,101]
def eR:au:=[112,97,99,107,97,103,101]
def jx:au:=[102,117,108,108]
def gC:au:=[98,97,114,101]
def b7 (l:List au):au:=aS [32] l++[10]
def iU (w:b6):List au:=[jN,w.name,if w.feats.length=0 then [45]else aS [44] w.feats,if w.bare=true then gC else jx,w.range]
def hX (s:au):au:=if s=[]then []else b7 [gS,s]
def qD (s:au):au:=if s=[]then []else b7 [eh,s]
def po (n:bN):au:=b7 [hH]++(n.any.map fun w=>b7 (iU w)).flatten++hX n.when'++qD n.option
def ug (b:jm):au:=b7 [iQ,b.name,b.range]++hX b.when'
def qq (f:cu):au:=b7 ([cH,f.name]++f.of)
def qt (r:Rec):au:=b7 [eR,r.name,j3 r.v]
def fY (r:Rec):au:=qt r++(r.needs.map po).flatten++(r.bars.map ug).flatten++(r.feats.map qq).flatten
def cJ (r:Rec):Int×Int:=if dN r.name=false then(4,0)else if fe r.v=false then(5,0)else if 8<r.needs.length\/8<r.bars.length then(3,0)else
 if(eH r).1≠0 then eH r else if 4096<(fY r).length then(3,0)else(0,0)
def df (r:Rec):au×Int:=if(cJ r).1≠0 then([],(cJ r).1)else(fY r,0)
def b6.sm (w:b6):Prop:=(w.name.length<=1048576/\w.range.length<=1048576)/\∀t∈w.feats,t.length<=1048576
def bN.sm (n:bN):Prop:=(∀w∈n.any,w.sm)/\n.when'.length<=1048576/\n.option.length<=1048576
def jm.sm (b:jm):Prop:=b.name.length<=1048576/\b.range.length<=1048576/\b.when'.length<=1048576
def fF (r:Rec):Prop:=(r.name.length<=1048576/\r.v.sm)/\(∀n∈r.needs,n.sm)/\(∀b∈r.bars,b.sm)/\x5 r.feats
def FU {r:Rec}{e:Int×Int}(h:lI r=e)(hn:e.1≠0):eH r=e:=by grind [eH]
def Ad {r:Rec}{e:Int×Int}(h0:lI r=(0,0))(h:sQ r=e)(hn:e.1≠0):eH r=e:=by grind [eH]
def FV {r:Rec}(h0:lI r=(0,0))(h1:sQ r=(0,0))(h:ig r.feats=false):eH r=(11,0):=by grind [eH]
def ru {r:Rec}{e:Int×Int}(h0:lI r=(0,0))(h1:sQ r=(0,0))(h:ig r.feats=true)(h2:tl r=e):eH r=e:=by grind [eH]
def E8 (f:Nat->Int):∀(k i:Nat),(pU f i k).1=0->pU f i k=(0,0)
 |0,_,_=>rfl
 |k+1,i,h=>by
  simp only[pU]at h⊢;by_cases hf:f i=0
  .rw[ax hf]at h⊢;exact E8 f k (i+1) h
  .rw[aj hf]at h;exact absurd h hf
def FW {r:Rec}(h:(eH r).1=0):eH r=(0,0):=by
 unfold eH at h⊢;split
 .rename_i h1;rw[ax h1]at h;exact absurd h h1
 .rename_i h1;rw[aj h1]at h;split
  .rename_i h2;rw[ax h2]at h;exact absurd h h2
  .rename_i h2;rw[aj h2]at h;split
   .rename_i h3;rw[ax h3]at h;cases h
   .rename_i h3;rw[aj h3]at h;exact E8 _ _ _ h
def oU {r:Rec}{e:Int×Int}(h0:dN r.name=true)(h1:fe r.v=true)(h2:¬8<r.needs.length)(h3:¬8<r.bars.length)(hp:eH r=e)(hn:e.1≠0):cJ r=e:=by
 grind [cJ]
def qQ {r:Rec}(h0:dN r.name=true)(h1:fe r.v=true)(h2:¬8<r.needs.length)(h3:¬8<r.bars.length)(hp:eH r=(0,0)):cJ r=if 4096<(fY r).length then(3,0)else(0,0):=by
 grind [cJ]
def wP (r:Rec):Prop:=(dN r.name=true/\fe r.v=true)/\(r.needs.length<=8/\r.bars.length<=8)/\eH r=(0,0)
def qR (n:Nat)(l:List au):List au:=if l.length<=n then l else l.take (n-1)++[aS [32] (l.drop (n-1))]
def eg (n:Nat)(op:Bool)(t:au):List au:=if op=true then qR n (ak t 32)else ak t 32
def jv (w:au)(n:Nat)(op:Bool)(t:au):Option (List au):=
 if(eg n op t)[0]! =w/\(n=0\/(eg n op t).length=n)/\[]∉eg n op t then some (eg n op t)else none
def cr (w:au)(n:Nat)(op:Bool):List au->Option (List au×List au)
 |[]=>none
 |t::r=>match jv w n op t with
  |some l=>some (l,r)
  |none=>none
def cz (ls:List au):au×List au:=match cr gS 2 true ls with
 |some (l,r)=>(l[1]!,r)
 |none=>([],ls)
def uF (l:List au):Bool:=decide (l[3]! =gC) ||decide (l[3]! =jx)
def jl (l:List au):b6:=⟨l[1]!,l[4]!,if l[2]! =[45]then []else ak l[2]! 44,decide (l[3]! =gC)⟩
def dq:List au->List b6×List au
 |[]=>([],[])
 |t::r=>match jv jN 5 true t with
  |some l=>if uF l=true then(jl l::(dq r).1,(dq r).2)else([],t::r)
  |none=>([],t::r)
def tG (ls:List au):au×List au:=match cr eh 2 false ls with
 |some (l,r)=>(l[1]!,r)
 |none=>([],ls)
def fo (ls:List au):bN×List au:=(⟨(dq ls).1,(cz (dq ls).2).1,(tG (cz (dq ls).2).2).1⟩,(tG (cz (dq ls).2).2).2)
def mP:Nat->List au->List bN×List au
 |0,ls=>([],ls)
 |f+1,ls=>match cr hH 1 false ls with
  |some (_,r)=>((fo r).1::(mP f (fo r).2).1,(mP f (fo r).2).2)
  |none=>([],ls)
def qo:Nat->List au->List jm×List au
 |0,ls=>([],ls)
 |f+1,ls=>match cr iQ 3 true ls with
  |some (l,r)=>(⟨l[1]!,l[2]!,(cz r).1⟩::(qo f (cz r).2).1,(qo f (cz r).2).2)
  |none=>([],ls)
def fO:List au->List cu×List au
 |[]=>([],[])
 |t::r=>match jv cH 0 false t with
  |some l=>if 2<=l.length then(⟨l[1]!,l.drop 2⟩::(fO r).1,(fO r).2)else([],t::r)
  |none=>([],t::r)
def sH:Rec:=⟨[],ll,[],[],[]⟩
def iO (ls:List au):List bN×List au:=mP ls.length ls
def nM (ls:List au):List jm×List au:=qo ls.length ls
def sR (nm:au)(v:cZ)(r:List au):Rec×List au:=(⟨nm,v,(iO r).1,(nM (iO r).2).1,(fO (nM (iO r).2).2).1⟩,(fO (nM (iO r).2).2).2)
def tN (ls:List au):Option (Rec×List au):=match cr eR 3 false ls with
 |some (l,r)=>match pJ l[2]! with
  |some v=>some (sR l[1]! v r)
  |none=>none
 |none=>none
theorem lJ {w:au}{n:Nat}{op:Bool}{ls l r:List au}(h:cr w n op ls=some (l,r)):r.length+1=ls.length:=by
 match ls,h with
 |t::q,h=>
  grind [cr]
 |[],h=>cases h
theorem wA (ls:List au):(cz ls).2.length<=ls.length:=by
 grind [cz,lJ]
def QC (ls:List au):(tG ls).2.length<=ls.length:=by
 grind [tG,lJ]
def xi:∀ls:List au,(dq ls).2.length<=ls.length
 |[]=>aP _
 |t::r=>by
  have:=xi r
  grind [dq]
theorem Cd (ls:List au):(fo ls).2.length<=ls.length:=by
 have h1:=xi ls;have h2:=wA (dq ls).2;have h3:=QC (cz (dq ls).2).2;show(tG (cz (dq ls).2).2).2.length<=_;omega
theorem Ce:∀(f g:Nat) (ls:List au),ls.length<=f->ls.length<=g->mP f ls=mP g ls
 |0,0,_,_,_=>rfl
 |0,g+1,ls,h,_=>by
  have:ls=[]:=uc.1 ae;subst this;rfl
 |f+1,0,ls,_,h=>by
  have:ls=[]:=uc.1 ae;subst this;rfl
 |f+1,g+1,ls,hf,hg=>by
  simp only[mP];cases h:cr hH 1 false ls with
  |none=>rfl
  |some p=>
   obtain⟨l,r⟩:=p;have h1:=lJ h;have h2:=Cd r;simp only;rw[Ce f g _ ae ae]
theorem EO:∀(f g:Nat) (ls:List au),ls.length<=f->ls.length<=g->qo f ls=qo g ls
 |0,0,_,_,_=>rfl
 |0,g+1,ls,h,_=>by
  have:ls=[]:=uc.1 ae;subst this;rfl
 |f+1,0,ls,_,h=>by
  have:ls=[]:=uc.1 ae;subst this;rfl
 |f+1,g+1,ls,hf,hg=>by
  simp only[qo];cases h:cr iQ 3 true ls with
  |none=>rfl
  |some p=>
   obtain⟨l,r⟩:=p;have h1:=lJ h;have h2:=wA r;simp only;rw[EO f g _ ae ae]
def wT {ls l r:List au}(h:cr hH 1 false ls=some (l,r)):iO ls=((fo r).1::(iO (fo r).2).1,(iO (fo r).2).2):=by
 grind [lJ,Cd,iO,mP,Ce,fo]
def wS {ls:List au}(h:cr hH 1 false ls=none):iO ls=([],ls):=by
 unfold iO
 match ls,h with
 |[],_=>rfl
 |t::r,h=>simp only[az,mP,h]
def zg {ls l r:List au}(h:cr iQ 3 true ls=some (l,r)):nM ls=(⟨l[1]!,l[2]!,(cz r).1⟩::(nM (cz r).2).1,(nM (cz r).2).2):=by
 grind [lJ,wA,nM,qo,EO,cz]
def zf {ls:List au}(h:cr iQ 3 true ls=none):nM ls=([],ls):=by
 unfold nM
 match ls,h with
 |[],_=>rfl
 |t::r,h=>simp only[az,qo,h]
structure RdS where
 r:Rec
 st:Nat
 deriving Inhabited
def Wo (a b:Bool):jd (D.bool a).cells (D.bool b).cells=decide (a=b):=by cases a<;>cases b<;>rfl
theorem b6.xd (a b:b6):decide (a=b)=(((decide (a.name=b.name)&&decide (a.range=b.range))&&decide (a.bare=b.bare))&&decide (a.feats=b.feats)):=by
 obtain⟨a1,a2,a3,a4⟩:=a;obtain⟨b1,b2,b3,b4⟩:=b
 grind
theorem bN.xd (a b:bN):decide (a=b)=((decide (a.when'=b.when')&&decide (a.option=b.option))&&decide (a.any=b.any)):=by
 obtain⟨a1,a2,a3⟩:=a;obtain⟨b1,b2,b3⟩:=b
 grind
def bN.same3 {a b:bN}(e1:a.when'=b.when')(e2:a.option=b.option)(e3:a.any.length=b.any.length):decide (a=b)=cP (fun i=>decide (a.any[i]! =b.any[i]!)) 0 a.any.length:=by
 grind [bN.xd,pE]
theorem Rec.xd (a b:Rec):decide (a=b)=((((decide (a.name=b.name)&&decide (a.v=b.v))&&decide (a.needs=b.needs))&&decide (a.bars=b.bars))&&decide (a.feats=b.feats)):=by
 obtain⟨a1,a2,a3,a4,a5⟩:=a;obtain⟨b1,b2,b3,b4,b5⟩:=b
 grind
def cu.eq2 {a b:cu}(h1:a.name=b.name)(h2:a.of=b.of):a=b:=by
 obtain⟨a1,a2⟩:=a;obtain⟨b1,b2⟩:=b
 grind
def zy {f:Nat->Int}:∀{k i:Nat},tn f i k=0->∀j,i<=j->j<i+k->f j=0
 |0,i,_,j,h1,h2=>absurd h2 ae
 |k+1,i,h,j,h1,h2=>by
  simp only[tn]at h;by_cases hf:f i=0
  .rw[ax hf]at h;by_cases hj:j=i
   .rw[hj];exact hf
   .exact zy h j ae ae
  .rw[aj hf]at h;exact absurd h hf
def HM {f:Nat->Int}{n:Nat}(h:fA f 0 n=0)(j:Nat)(hj:j<n):f j=0:=zy h j ae ae
def zz {f:Nat->Int}:∀{k i:Nat},(pU f i k).1=0->∀j,i<=j->j<i+k->f j=0
 |0,i,_,j,h1,h2=>absurd h2 ae
 |k+1,i,h,j,h1,h2=>by
  simp only[pU]at h;by_cases hf:f i=0
  .rw[ax hf]at h;by_cases hj:j=i
   .rw[hj];exact hf
   .exact zz h j ae ae
  .rw[aj hf]at h;exact absurd h hf
def HL {f:Nat->Int}{n:Nat}(h:(ij f 0 n).1=0)(j:Nat)(hj:j<n):f j=0:=zz h j ae ae
def b6.fit (w:b6):Prop:=w.sm/\(w.feats.length<=6/\∀t∈w.feats,t.length<=12)
def bN.fit (n:bN):Prop:=(n.any.length<=3/\∀w∈n.any,w.fit)/\n.when'.length<=1048576/\n.option.length<=1048576
def cu.fit (x:cu):Prop:=x.sm/\x.of.length<=6
structure Rec.fit (r:Rec):Prop where
 nm:r.name.length<=1048576
 v:r.v.sm
 ns:r.needs.length<=8
 n:∀x∈r.needs,x.fit
 bs:r.bars.length<=8
 b:∀x∈r.bars,x.sm
 fs:r.feats.length<=8
 f:∀x∈r.feats,x.fit
theorem yb {α:Type} [Inhabited α]{l:List α}{x:α}(h:x∈l):∃i,i<l.length/\l[i]! =x:=by
 obtain⟨i,hi,e⟩:=List.mem_iff_getElem.1 h;exact⟨i,hi,by rw[<-e];simp[hi]⟩
def RW {r:Rec}{w:b6}{al:Bool}(h:jy r w al=0)(hs:w.sm):w.fit:=by
 refine⟨hs, ?_⟩
 grind [jy,ju,eF,yb,U1,cI]
def Ql {r:Rec}{n:bN}(h:iT r n=0)(hs:n.sm):n.fit:=by
 unfold iT at h;split at h
 .cases h
 split at h
 .cases h
 rename_i h1 h2;split at h
 .rename_i h3;exact absurd h h3
 rename_i h3;refine⟨⟨ae,fun w hw=>?_⟩,hs.2⟩;obtain⟨i,hi,rfl⟩:=yb hw;exact RW (HM (Classical.not_not.1 h3) i hi) (hs.1 _ hw)
def B0 {r:Rec}(h:wP r/\fF r):r.fit:=by
 obtain⟨⟨_,⟨h1,h2⟩,hp⟩,⟨s1,s2⟩,s3,s4,s5⟩:=h;have h0:(lI r).1=0/\ig r.feats=true:=by
  grind [eH]
 obtain⟨h3,h4⟩:=h0;simp only[ig,bx,aV,eF]at h4;refine⟨s1,s2,h1,fun x hx=>?_,h2,s4,h4.1,fun x hx=>⟨s5 x hx, ?_⟩⟩
 .obtain⟨i,hi,rfl⟩:=yb hx;exact Ql (HL h3 i hi) (s3 _ hx)
 grind [yb,jC,lF]
def ny (x:UInt8)(B:Nat):∀l:List au,(∀t∈l,t.length<=B)->(aS [x] l).length<=l.length*(B+1)
 |[],_=>by simp[aS]
 |[t],h=>by have:=h t (.head _);simp only[aS,az,aB];omega
 |t::u::r,h=>by
  have h1:=h t (.head _);have h2:=ny x B (u::r) fun y hy=>h y (.tail _ hy)
  simp only[aS,bF,az,aB,Nat.succ_mul]at h2⊢;omega
def AV {w:b6}(h:w.fit):(aS [44] w.feats).length<=6291462:=by
 have h1:=ny 44 1048576 w.feats h.1.2;have h2:=fD (1048576+1) h.2.1;omega
def Ek {w:b6}(h:w.fit):(aS [44] w.feats).length<=78:=by
 have h1:=ny 44 12 w.feats h.2.2;have h2:=fD (12+1) h.2.1;omega
def jz (w:b6):au:=b7 (iU w)
def wC {w:b6}(h:w.fit):(jz w).length<=8400000:=by
 have h1:=AV h;have h2:=h.1.1;simp only[jz,b7,iU,aS,bF,az,aB]
 grind [jN,gC,jx]
def nH {s:au}(h:s.length<=1048576):(hX s).length<=1048590:=by
 unfold hX;split
 .simp
 .simp only[b7,aS,gS,bF,az,aB];omega
def QF {s:au}(h:s.length<=1048576):(qD s).length<=1048590:=by
 unfold qD;split
 .simp
 .simp only[b7,aS,eh,bF,az,aB];omega
def uB {α:Type}(q:α->au)(B:Nat){l:List α}(h:∀x∈l,(q x).length<=B)(i:Nat):(((l.take i).map q).flatten).length<=i*B:=by
 have h1:=qY q B (l.take i) fun x hx=>h x (lW hx)
 have h2:=fD B (List.length_take_le i l);omega
theorem sc {α:Type} [Inhabited α](q:α->au){l:List α}{i:Nat}(h:i<l.length):((l.take (i+1)).map q).flatten=((l.take i).map q).flatten++q l[i]! :=by
 rw[List.take_add_one,List.getElem?_eq_getElem h,List.map_append,List.flatten_append];simp[h]
def Nk {n:bN}(h:n.fit):(po n).length<=27400000:=by
 have h1:=qY jz 8400000 n.any fun w hw=>wC (h.1.2 w hw)
 have h2:=fD 8400000 h.1.1;have h3:=nH h.2.1;have h4:=QF h.2.2;have h5:(b7 [hH]).length=5:=rfl;unfold jz at h1
 grind [po]
def Pj {b:jm}(h:b.sm):(ug b).length<=3145800:=by
 have h1:=nH h.2.2;have h2:=h.1;have h3:=h.2.1;simp only[ug,b7,aS,iQ,bF,az,aB];omega
def BS {x:cu}(h:x.fit):(qq x).length<=8400000:=by
 have h1:=ny 32 1048576 ([cH,x.name]++x.of) (by
  intro t ht;simp only[fg,fE,bY]at ht;rcases ht with rfl|rfl|ht
  .simp[cH]
  .exact h.1.1
  .exact h.1.2.2 _ ht)
 have h2:=h.2
 grind [cH,qq,b7]
def MV {r:Rec}(h1:r.name.length<=1048576)(h2:r.v.sm):(qt r).length<=3145800:=by
 have h3:=AR r.v h2;simp only[qt,b7,aS,eR,bF,az,aB];omega
def dU (n:bN)(j:Nat):au:=b7 [hH]++((n.any.take j).map jz).flatten
def Tw (n:bN):dU n 0=[110,101,101,100,10]:=rfl
def nU {n:bN}{j:Nat}(h:j<n.any.length):dU n (j+1)=dU n j++jz n.any[j]! :=by grind [dU,sc,jz]
def vS {n:bN}{j:Nat}(h:n.any.length<=j):po n=dU n j++hX n.when'++qD n.option:=by
 rw[dU,ek h];rfl
def Cc {n:bN}(h:n.fit)(j:Nat)(hj:j<=3):(dU n j).length<=25200005:=by
 have h1:=uB jz 8400000 (fun w hw=>wC (h.1.2 w hw)) j;have h2:=fD 8400000 hj;have h5:(b7 [hH]).length=5:=rfl
 grind [dU]
def kt (r:Rec)(i:Nat):au:=qt r++((r.needs.take i).map po).flatten
def AN (r:Rec)(i:Nat):au:=kt r r.needs.length++((r.bars.take i).map ug).flatten
def CR (r:Rec)(i:Nat):au:=AN r r.bars.length++((r.feats.take i).map qq).flatten
def RP (r:Rec):kt r 0=qt r:=by simp[kt]
def RQ (r:Rec):AN r 0=kt r r.needs.length:=by simp[AN]
def RR (r:Rec):CR r 0=AN r r.bars.length:=by simp[CR]
def Ef (r:Rec):CR r r.feats.length=fY r:=by grind [CR,AN,kt,fY]
def mE {r:Rec}{i:Nat}(h:i<r.needs.length):kt r (i+1)=kt r i++po r.needs[i]! :=by grind [kt,sc,po]
def GL {r:Rec}{i:Nat}(h:i<r.bars.length):AN r (i+1)=AN r i++ug r.bars[i]! :=by grind [AN,sc,ug]
def GN {r:Rec}{i:Nat}(h:i<r.feats.length):CR r (i+1)=CR r i++qq r.feats[i]! :=by grind [CR,sc,qq]
def Ec {r:Rec}(h:r.fit)(i:Nat)(hi:i<=r.needs.length):(kt r i).length<=222400000:=by
 have a0:=MV h.nm h.v;have a1:=uB po 27400000 (fun x hx=>Nk (h.n x hx)) i;have b1:=fD 27400000 (dc hi h.ns);simp only[kt,bF];omega
def Ed {r:Rec}(h:r.fit)(i:Nat)(hi:i<=r.bars.length):(AN r i).length<=247600000:=by
 have a0:=Ec h r.needs.length (aP _);have a1:=uB ug 3145800 (fun x hx=>Pj (h.b x hx)) i;have b1:=fD 3145800 (dc hi h.bs);simp only[AN,bF];omega
def KA {r:Rec}(h:r.fit)(i:Nat)(hi:i<=r.feats.length):(CR r i).length<=314800000:=by
 have a0:=Ed h r.bars.length (aP _);have a1:=uB qq 8400000 (fun x hx=>BS (h.f x hx)) i;have b1:=fD 8400000 (dc hi h.fs);simp only[CR,bF];omega
theorem qP {r:Rec}(h:(cJ r).1=0):wP r:=by
 unfold cJ at h;split at h
 .cases h
 split at h
 .cases h
 split at h
 .cases h
 rename_i a b c;split at h
 .rename_i d;exact absurd h d
 rename_i d;exact⟨⟨by simpa using a,by simpa using b⟩,⟨ae,ae⟩,FW (Classical.not_not.1 d)⟩
def mC (r:Rec):Int:=if(df r).2≠0 then 0 else GB (df r).1
def vK (l:List au)(x:au)(i:Nat):Int:=match(l.drop i).findIdx? (fun t=>decide (x=t))with
 |some k=>((i+k:Nat):Int)
 |none=>-1
def Tk {l:List au}{x:au}{i:Nat}(h:i<l.length)(he:x=l[i]!):vK l x i=(i:Nat):=by
 unfold vK;rw[jG h,List.findIdx?_cons]
 grind
def Tl {l:List au}{x:au}{i:Nat}(h:i<l.length)(he:¬x=l[i]!):vK l x i=vK l x (i+1):=by
 unfold vK;have:¬x=l[i]:=by simpa[h]using he
 rw[jG h,List.findIdx?_cons]
 grind
def P3 {l:List au}{x:au}{i:Nat}(h:l.length<=i):vK l x i=-1:=by
 unfold vK;rw[k8 h];rfl
def P4 (l:List au)(x:au):decide (0<=vK l x 0)=decide (x∈l):=by
 grind [vK]
structure Ld where
 ls:List au
 at':Nat
 deriving Inhabited,DecidableEq
def Ld.D (r:Ld):D:=.agg [.sl 1 (r.ls.map D.str),.int .i64 (r.at':Nat)]
def Ld.rest (r:Ld):List au:=r.ls.drop r.at'
def Ld.sm (r:Ld):Prop:=(r.at'<=r.ls.length/\r.ls.length<=1048577)/\∀t∈r.ls,t.length<=1048576
def Ld.to (r:Ld)(q:List au):Ld:=⟨r.ls,r.ls.length-q.length⟩
def lT (n:Int)(t:au):List au:=if n<0 then ak t 32 else qR n.toNat (ak t 32)
def CX (n:Nat)(op:Bool)(t:au):lT (if op=true then(n:Int)else-1) t=eg n op t:=by
 grind [lT,eg]
def Bk:Option (List au×List au)->D
 |none=>.aD
 |some (l,_)=>.sl 1 (l.map D.str)
def Ld.after (r:Ld)(o:Option (List au×List au)):Ld:=match o with
 |none=>r
 |some _=>⟨r.ls,r.at'+1⟩
def Ld.Rz {r:Ld}(h:r.ls.length<=r.at'):r.rest=[]:=k8 h
def Ld.sv {r:Ld}(h:r.at'<r.ls.length):r.rest=r.ls[r.at']! ::r.ls.drop (r.at'+1):=by
 unfold Ld.rest;rw[jG h];simp[h]
def Ox (n:Nat)(op:Bool)(t:au)(h:op=true->1<=n):1<=(eg n op t).length:=by
 grind [ak,eU,eg,qR]
def FJ {w:au}{n:Nat}{op:Bool}{t:au}(h:((¬(eg n op t)[0]! =w\/((eg n op t).length:Int)<1)\/((0:Int)<n/\¬((eg n op t).length:Int)=n))\/[]∈eg n op t)(h1:1<=(eg n op t).length):jv w n op t=none:=by
 grind [jv]
def Cg {w:au}{n:Nat}{op:Bool}{t:au}(h:(((eg n op t)[0]! =w/\¬((eg n op t).length:Int)<1)/\(¬(0:Int)<n\/((eg n op t).length:Int)=n))/\¬[]∈eg n op t):jv w n op t=some (eg n op t):=by
 grind [jv]
def drop_one {α:Type} [Inhabited α]{l:List α}{n:Nat}(h:l.length=n+1):l.drop n=[l[n]!]/\l=l.take n++[l[n]!]:=by
 have h1:l.drop n=[l[n]!]:=by
  rw[jG ae,k8 ae];simp[show n<l.length by omega]
 exact⟨h1,by rw[<-h1,List.take_append_drop]⟩
def anyL (t:au):Option (List au):=match jv jN 5 true t with
 |some l=>if uF l=true then some l else none
 |none=>none
def No (p:au->Option (List au))(ls:List au):Prop:=∀t r,ls=t::r->p t=none
theorem fR {w:au}{n:Nat}{op:Bool}{ls l r:List au}(h:cr w n op ls=some (l,r)):∃t,ls=t::r/\jv w n op t=some l:=by
 match ls,h with
 |[],h=>cases h
 |t::q,h=>
  grind [cr]
def Stop (s:Nat)(ls:List au):Prop:=(s=2->No anyL ls/\No (jv gS 2 true) ls)/\(s=2\/s=3->No (jv eh 2 false) ls)/\(s=5->No (jv gS 2 true) ls)
def sM (m:List (Nat×bR))(l:Nat)(t:List UInt8):Prop:=(∃u,look m l=some (.bld none 0 u)/\t=[])\/(∃l2 u,look m l=some (.bld (some l2) t.length u)/\look m l2=some (.row t))
@[go_sem] def gr (m:List (Nat×bR))(l:Nat):List (Nat×bR):=match look m l with
 |some (.bld (some l2) _ _)=>c8 m l2
 |_=>m
@[go_sem] def qN (m:List (Nat×bR))(l L:Nat)(t:List UInt8):List (Nat×bR):=(L,.row t)::dx (gr m l) l (.bld (some L) t.length true)
def TrW (alI:D)(s:List UInt8)(ds:List D)(st:St)(K:D->St->Prop):Prop:=∃l t,ds=[.ptr l 2 0 0,alI]/\sM st.m l t/\l<st.nx/\s≠[]/\t.length+s.length<=1099511627776/\K .any ⟨st.nx+1,qN st.m l st.nx (t++s)⟩
def trWS (ds:List D)(st:St)(K:D->St->Prop):Prop:=∃s,TrW (.str s) s ds st K
def trWB (ds:List D)(st:St)(K:D->St->Prop):Prop:=∃c,TrW (.int .u8 c.toNat) [c] ds st K
def trBS (ds:List D)(st:St)(K:D->St->Prop):Prop:=∃l t,ds=[.ptr l 2 0 0]/\sM st.m l t/\t≠[]/\K (.str t) ⟨st.nx,c8 (gr st.m l) l⟩
def Sq (Y:Ctx):Prop:=∀(ds:List D) (st:St) (K:D->St->Prop),trWS ds st K->Y.tr 489 ds st K
def VA (Y:Ctx):Prop:=∀(ds:List D) (st:St) (K:D->St->Prop),trWB ds st K->Y.tr 664 ds st K
def Sk (Y:Ctx):Prop:=∀(ds:List D) (st:St) (K:D->St->Prop),trBS ds st K->Y.tr 452 ds st K
def MY (b a:au)(l:List au)(h:a≠[]):aS b (a::l)≠[]:=by
 match l with
 |[]=>exact h
 |c::r=>
  rw[gE b a (c::r) aT];intro e;have:=List.append_eq_nil_iff.1 e;exact h (List.append_eq_nil_iff.1 this.1).1
def C4 (ws:List au)(t:au):Prop:=(aS [32] ws≠[]/\ws.length<=1048600)/\(∀w∈ws,w.length<=2097200)/\t.length+(aS [32] ws).length+1<=1099511627776
def C4.mk {a:au}{l:List au}{t:au}(h1:a≠[])(h2:l.length<=99)(h3:∀w∈a::l,w.length<=2097200)(h4:t.length<=1000000000):C4 (a::l) t:=by
 have h5:=ny 32 2097200 (a::l) h3;have h6:(a::l).length<=100:=by simp only[az];omega
 have h7:=fD (2097200+1) h6;exact⟨⟨MY _ _ _ h1,ae⟩,h3,ae⟩
def Vm (Y:Ctx):Prop:=∀(ws:List au) (t:au) (l lw nx:Nat) (m:List (Nat×bR)) (K:D->St->Prop),sM m l t->look m lw=some (.buf 1 (ws.map D.str))->l<nx->lw<nx->C4 ws t->
 K (.tup []) ⟨nx+1,qN (c8 m lw) l nx (t++b7 ws)⟩->Y.tr 450 [.ptr l 2 0 0,.own lw 1 0 ws.length] ⟨nx,m⟩ K
def vQ {m:List (Nat×bR)}{l L:Nat}{t:List UInt8}(h:l≠L):look (qN m l L t) l=some (.bld (some L) t.length true)/\look (qN m l L t) L=some (.row t):=by
 constructor
 .simp only[qN,look,aj (fun e=>h (Eq.symm e))]
  haveI:dD:={gd:=fun _=>True,le:=fun _ _ _ _ _=>trivial}
  rw[cD,ax rfl]
 .simp only[qN,look,ax]
def SH {m:List (Nat×bR)}{l L:Nat}{t:List UInt8}(h:l≠L):sM (qN m l L t) l t:=.inr ⟨L,true,vQ h⟩
end Go.Abs
